import PyProof.Rows.All
import Wide.All
import OpenK.AllK
import Wide.FinOn
import HandS.ForMost
import HandS.ForExc
import HandS.IsInst
import HandS.Defaults
import HandS.MakeKw
import HandS.Conv
import HandS.Wide
import HandS.WideMore
import HandS.Flow
import HandS.Style
import HandS.Head0
import HandS.Head1
import HandS.Head2
import HandS.HeadEnd
import HandS.HeadHook1
import HandS.HeadHook2
import HandS.HeadHook3
import HandS.HeadHook4
import HandS.EndBits
import HandS.SetFor
import HandS.Sort
import HandS.Strs
import HandS.TryOnly
import HandS.Zip
import OpenK.KOps
import PyProof.InstNe
import HandS.CallSlots
import HandS.Exc
import HandS.ExcOwn
import HandS.HotCalls
import KE.KExcIs
import HandS.ExcIs
import HandS.ExcField
import HandS.ExcInit
import HandS.TupAny
import KE.KRevSl
import KE.KFmtOwn
import HandS.OwnEq
import HandS.More
import PyProof.Conv_bool
import HandS.RaiseMore
import PyProof.StrBlock2
import HandS.Text
import HandS.StrMore
import HandS.FStr
import HandS.CallLocal
import HandS.MakeKwOnly
import KE.SortData
import KE.KTryMore
import KE.KExcInit
import PySem.Challenge.RW_fitwords_k01_told_in_four_ways
set_option Elab.async false
set_option linter.all false
set_option maxRecDepth 100000
set_option maxHeartbeats 4000000
namespace Qx
open PySem PySem.Spec PyProof.Rows L2
def KT : List String := ["NoneType", "int", "bool", "str", "list", "tuple", "dict"]
def exOne (K : PySem.W.Frag) (cs : List Str) (C : Str) : Bool :=
  He.eqO (PySem.W.findIn K (.ref (He.ga K C)) "__class__") (some (some (.builtin "object.__class__"))) && (decide (PySem.W.mroIn K (He.ga K C) (.type "object") = some true) &&
  (KT.all (fun t => decide (PySem.W.kitOne K (.type t) (.ref (He.ga K C)) = some false)) && (KT.all (fun t => decide (PySem.W.kitOne K (.ref (He.ga K C)) (.type t) = some false)) &&
  (cs.all (fun D => decide (C = D) || decide (PySem.W.kitOne K (.ref (He.ga K C)) (.ref (He.ga K D)) = some false)) && He.eqO (PySem.W.findIn K (.ref (He.ga K C)) "__ne__") (some (some (.builtin "object.__ne__")))))))
def exAll (K : PySem.W.Frag) (cs : List Str) : Bool :=
  He.eqO (PySem.W.specialIn K (.builtin "object.__class__") "__get__") (some (some (.builtin "getset_descriptor.__get__"))) && (decide (PySem.W.takesIn K (.builtin "object.__class__") = some true) && cs.all (exOne K cs))
inductive XN where
  | own (C : Str) | blt (n : String)
  deriving DecidableEq
def xv (K : PySem.W.Frag) : XN → Value
  | .own C => .ref (He.ga K C)
  | .blt n => .type n
def xcOne (K : PySem.W.Frag) (C : Str) : Bool :=
  He.eqO (PySem.W.findIn K (.ref (He.ga K C)) "__getattribute__") (some (some (.builtin "BaseException.__getattribute__"))) && (He.eqO (PySem.W.findIn K (.ref (He.ga K C)) "__getattr__") (some none) &&
  (decide (PySem.W.subIn K (.ref (He.ga K C)) (.type "BaseException") = some true) && (PySem.W.hasDictIn K (He.ga K C) && (He.eqO (PySem.W.findIn K (.ref (He.ga K C)) "__class__") (some (some (.builtin "object.__class__"))) &&
  (He.eqO (PySem.W.specialIn K (.builtin "object.__class__") "__get__") (some (some (.builtin "getset_descriptor.__get__"))) && (decide (PySem.W.takesIn K (.builtin "object.__class__") = some true) && (decide (PySem.W.mroIn K (He.ga K C) (.type "object") = some true) &&
  (PySem.W.keepIn K (.ref (He.ga K C)) && decide (PySem.W.typeIn K (.ref (He.ga K C)) = some (.type "type"))))))))))
def xkOne (K : PySem.W.Frag) (xa xm : List XN) (w : Str × List XN) : Bool :=
  xcOne K w.1 && (xa.all (fun q => decide (PySem.W.kitOne K (.ref (He.ga K w.1)) (xv K q) = some (decide (q ∈ w.2)))) && xm.all (fun q => decide (PySem.W.exmOne K (.ref (He.ga K w.1)) (xv K q) = some (decide (q ∈ w.2)))))
def xkAll (K : PySem.W.Frag) (xt : List (Str × List XN)) (xa xm : List XN) : Bool :=
  xt.all (xkOne K xa xm) && xa.all (fun q => decide (PySem.W.kitOne K (.type "NoneType") (xv K q) = some false))
def oexB (K : PySem.W.Frag) (C : Addr) : Bool := (match K.lookup C with
  | some ⟨.type "type", _, .cls cd, sl⟩ => (match cd.mro, sl.toList with
    | .ref C' :: bm, [_, _, _, _, some (.builtin n), _] => C' == C && (n == "ValueError.__new__" && (!cd.hasDel && (cd.hasDict && PySem.HandSPX.refsVE bm)))
    | _, _ => false)
  | _ => false) && (He.eqO (PySem.W.findIn K (.ref C) "__setattr__") (some (some (.builtin "object.__setattr__"))) && (decide (PySem.W.subIn K (.ref C) (.type "BaseException") = some true) && (decide (PySem.W.typeIn K (.ref C) = some (.type "type")) && PySem.W.keepIn K (.ref C))))
def clsB (K : PySem.W.Frag) (B : Addr) : Bool := PySem.W.readsIn K B (.type "type") && (He.eqO (PySem.W.specialIn K (.ref B) "__getattribute__") (some (some (.builtin "type.__getattribute__"))) && (match PySem.W.findCls K (.ref B) (.type "type") "__init__" with
  | some (.val (.builtin n)) => n == "ValueError.__init__"
  | _ => false))
def xiB (K : PySem.W.Frag) (C B f : Str) : Bool := oexB K (He.ga K C) && (He.eqO (PySem.W.findIn K (.ref (He.ga K C)) f) (some none) && clsB K (He.ga K B))
def asS (g : Addr → Option Obj) (n : Nat) : List Addr := He.asD g n ++ [cStatics]
def obsS (n : Nat) (fa : List He.Fa) (fn : List He.DefD) (ts : List He.Tab) (ex : PySem.W.Frag → Bool) (g : Addr → Option Obj) : He.AlX := (He.obsT fa fn ts (He.frT g (asS g n)), ex (He.frT g (asS g n)))
theorem saysS_of {n : Nat} {fa : List He.Fa} {fn : List He.DefD} {ts : List He.Tab} {ex : PySem.W.Frag → Bool} {w : World} {h : Heap} (e : obsS n fa fn ts ex h.get? = He.valX fn ts w) : He.SaysX fa fn ts [] ex w h (He.frT h.get? (asS h.get? n)) := by
  have e1 : He.obsT fa fn ts (He.frT h.get? (asS h.get? n)) = He.valT fn ts w := congrArg (fun z : He.AlX => z.1) e
  have e2 : ex (He.frT h.get? (asS h.get? n)) = true := congrArg (fun z : He.AlX => z.2) e
  exact ⟨e1, e2, fun p hp => (nomatch hp), fun p hp => (nomatch hp), fun p hp => (nomatch hp)⟩
def hookS (n : Nat) (fa : List He.Fa) (fn : List He.DefD) (ts : List He.Tab) (ex : PySem.W.Frag → Bool) : PySem.W.Hook where
  α := He.AlX
  obs := fun s => obsS n fa fn ts ex s.heap.get?
  val := fun w => He.valX fn ts w
  says := fun w h => ∃ K : PySem.W.Frag, K.In h ∧ He.SaysX fa fn ts [] ex w h K
  of := fun _ _ e => ⟨_, He.frT_in, saysS_of e⟩
  keeps := fun _ _ _ ⟨K, hK, c⟩ k => ⟨K, PySem.W.Frag.In.keeps hK k, ⟨c.t, c.more, c.hd, c.out, fun p hp => k _ _ (c.empty p hp)⟩⟩
theorem obsS_eq {n : Nat} {fa : List He.Fa} {fn : List He.DefD} {ts : List He.Tab} {ex : PySem.W.Frag → Bool} {g : Addr → Option Obj} {s : Shared} (h : ∀ a, g a = s.heap.get? a) : obsS n fa fn ts ex g = (hookS n fa fn ts ex).obs s := by
  have e : g = s.heap.get? := funext h
  rw [e] <;> rfl
structure EB where
  B : String
  nw : String
  ini : String
  tail : List Value
def ebA : EB := ⟨"ArithmeticError", "ArithmeticError.__new__", "ArithmeticError.__init__", [.type "ArithmeticError", .type "Exception", .type "BaseException", .type "object"]⟩
def ebL : EB := ⟨"LookupError", "LookupError.__new__", "LookupError.__init__", [.type "LookupError", .type "Exception", .type "BaseException", .type "object"]⟩
def oexGB (b : EB) (K : PySem.W.Frag) (C : Addr) : Bool := PySem.W.excInitIn K C b.tail b.nw && (PySem.W.excOver K C b.tail && (PySem.W.hasDictIn K C && (He.eqO (PySem.W.findIn K (.ref C) "__setattr__") (some (some (.builtin "object.__setattr__"))) && (decide (PySem.W.subIn K (.ref C) (.type "BaseException") = some true) && (decide (PySem.W.typeIn K (.ref C) = some (.type "type")) && PySem.W.keepIn K (.ref C))))))
def clsGB (b : EB) (K : PySem.W.Frag) (B : Addr) : Bool := PySem.W.readsIn K B (.type "type") && (He.eqO (PySem.W.specialIn K (.ref B) "__getattribute__") (some (some (.builtin "type.__getattribute__"))) && (match PySem.W.findCls K (.ref B) (.type "type") "__init__" with
  | some (.val (.builtin n)) => n == b.ini
  | _ => false))
def xiGB (b : EB) (K : PySem.W.Frag) (C B f : Str) : Bool := oexGB b K (He.ga K C) && (He.eqO (PySem.W.findIn K (.ref (He.ga K C)) f) (some none) && clsGB b K (He.ga K B))
def nfAll (K : PySem.W.Frag) (cs : List Str) : Bool := cs.all fun C => KT.all (fun T => PySem.W.notFirst K (He.ga K C) (.type T)) && cs.all fun D => PySem.W.notFirst K (He.ga K C) (.ref (He.ga K D))
def shB (K : PySem.W.Frag) (cs : List Str) : Bool := cs.all fun C => He.eqO (PySem.W.findIn K (.ref (He.ga K C)) "__bool__") (some none) && He.eqO (PySem.W.findIn K (.ref (He.ga K C)) "__format__") (some (some (.builtin "object.__format__")))
def noneB (K : PySem.W.Frag) (cs : List Str) : Bool := cs.all fun C => PySem.W.subIn K (.ref (He.ga K C)) (.type "NoneType") == some false
inductive KV where
  | non | bl (b : Bool) | int (i : Int) | str (z : Str) | tup (l : List KV) | fn (C : Str)
mutual
def kRep (K : PySem.W.Frag) : KV → Value → Bool
  | .non, .none => true
  | .bl b, .bool c => b == c
  | .int i, .int j _ => decide (i = j)
  | .str z, .str y _ => decide (z = y)
  | .fn C, .ref a => decide (a = He.ga K C)
  | .tup l, .ref a => match K.lookup a with
    | some ⟨.type c, _, .seq its _, _⟩ => decide (c = "tuple") && (decide (its.size ≤ sizeLine) && kRepL K l its.toList)
    | _ => false
  | _, _ => false
def kRepL (K : PySem.W.Frag) : List KV → List Value → Bool
  | [], [] => true
  | k :: ks, u :: us => kRep K k u && kRepL K ks us
  | _, _ => false
end
def kG (K : PySem.W.Frag) (x : Str) (k : KV) : Bool := match PySem.W.nsIn K mainGlobals x with
  | some (some u) => kRep K k u && (match u with | .ref a => decide (a = He.ga K x) | _ => false)
  | _ => false
def kdB (K : PySem.W.Frag) (x : Str) (kvs : List (Str × KV)) : Bool := kvs.all fun q => match PySem.W.nsIn K (He.ga K x) q.1 with
  | some (some u) => kRep K q.2 u
  | _ => false
end Qx
namespace Hd
open PySem PySem.Spec PyProof.Rows L2
/-! ### the text by places -/
def top (i : Nat) : Stmt := PySem.Challenge.pw_fitwords_k01_told_in_four_ways.main.body.getD i (.Pass ⟨0, 0, 0, 0⟩)
abbrev s__law_cell : Stmt := top 46
abbrev s__law_purse : Stmt := top 47
abbrev s__law_take : Stmt := top 48
abbrev s__law_measure : Stmt := top 49
abbrev s__law_edge : Stmt := top 55
abbrev s__law_counted : Stmt := top 52
abbrev s__law_doubles : Stmt := top 51
abbrev s__law_tell : Stmt := top 50
abbrev s__law_due : Stmt := top 57
abbrev s_is_way : Stmt := top 41
abbrev s_NoOption___init__ : Stmt := inClass (top 6) 0
abbrev s_check_way : Stmt := top 42
abbrev s_is_measure : Stmt := top 31
abbrev s_check_measure : Stmt := top 32
abbrev s_by_parts : Stmt := top 34
abbrev s_minus_of : Stmt := top 33
abbrev s_by_inches : Stmt := top 35
abbrev s_doubled : Stmt := top 36
abbrev s_by_halves : Stmt := top 37
abbrev s_TooLong___init__ : Stmt := inClass (top 21) 0
abbrev s_counted : Stmt := top 38
abbrev s_by_words : Stmt := top 39
abbrev s_shown : Stmt := top 43
abbrev s_tell : Stmt := top 44
abbrev s__law_sort : Stmt := top 54
abbrev s__law_told : Stmt := top 56
abbrev s__law_plain : Stmt := top 53
abbrev s__law_same : Stmt := top 58
abbrev s__law_right : Stmt := top 59
abbrev s_law : Stmt := top 60
def d__law_cell : He.DefD := ⟨("_law_cell", none), "_law_cell", "_law_cell", defArgs s__law_cell, defBody s__law_cell, defScope s__law_cell, [], []⟩
def d__law_purse : He.DefD := ⟨("_law_purse", none), "_law_purse", "_law_purse", defArgs s__law_purse, defBody s__law_purse, defScope s__law_purse, [], []⟩
def d__law_take : He.DefD := ⟨("_law_take", none), "_law_take", "_law_take", defArgs s__law_take, defBody s__law_take, defScope s__law_take, [], []⟩
def d__law_measure : He.DefD := ⟨("_law_measure", none), "_law_measure", "_law_measure", defArgs s__law_measure, defBody s__law_measure, defScope s__law_measure, [], []⟩
def d__law_edge : He.DefD := ⟨("_law_edge", none), "_law_edge", "_law_edge", defArgs s__law_edge, defBody s__law_edge, defScope s__law_edge, [], []⟩
def d__law_counted : He.DefD := ⟨("_law_counted", none), "_law_counted", "_law_counted", defArgs s__law_counted, defBody s__law_counted, defScope s__law_counted, [], []⟩
def d__law_doubles : He.DefD := ⟨("_law_doubles", none), "_law_doubles", "_law_doubles", defArgs s__law_doubles, defBody s__law_doubles, defScope s__law_doubles, [], []⟩
def d__law_tell : He.DefD := ⟨("_law_tell", none), "_law_tell", "_law_tell", defArgs s__law_tell, defBody s__law_tell, defScope s__law_tell, [], []⟩
def d__law_due : He.DefD := ⟨("_law_due", none), "_law_due", "_law_due", defArgs s__law_due, defBody s__law_due, defScope s__law_due, [], []⟩
def d_is_way : He.DefD := ⟨("is_way", none), "is_way", "is_way", defArgs s_is_way, defBody s_is_way, defScope s_is_way, [], []⟩
def d_NoOption___init__ : He.DefD := ⟨("NoOption", some "__init__"), "__init__", "NoOption.__init__", defArgs s_NoOption___init__, defBody s_NoOption___init__, defScope s_NoOption___init__, [], []⟩
def d_check_way : He.DefD := ⟨("check_way", none), "check_way", "check_way", defArgs s_check_way, defBody s_check_way, defScope s_check_way, [], []⟩
def d_is_measure : He.DefD := ⟨("is_measure", none), "is_measure", "is_measure", defArgs s_is_measure, defBody s_is_measure, defScope s_is_measure, [], []⟩
def d_check_measure : He.DefD := ⟨("check_measure", none), "check_measure", "check_measure", defArgs s_check_measure, defBody s_check_measure, defScope s_check_measure, [], []⟩
def d_by_parts : He.DefD := ⟨("by_parts", none), "by_parts", "by_parts", defArgs s_by_parts, defBody s_by_parts, defScope s_by_parts, [], []⟩
def d_minus_of : He.DefD := ⟨("minus_of", none), "minus_of", "minus_of", defArgs s_minus_of, defBody s_minus_of, defScope s_minus_of, [], []⟩
def d_by_inches : He.DefD := ⟨("by_inches", none), "by_inches", "by_inches", defArgs s_by_inches, defBody s_by_inches, defScope s_by_inches, [], []⟩
def d_doubled : He.DefD := ⟨("doubled", none), "doubled", "doubled", defArgs s_doubled, defBody s_doubled, defScope s_doubled, [], []⟩
def d_by_halves : He.DefD := ⟨("by_halves", none), "by_halves", "by_halves", defArgs s_by_halves, defBody s_by_halves, defScope s_by_halves, [], []⟩
def d_TooLong___init__ : He.DefD := ⟨("TooLong", some "__init__"), "__init__", "TooLong.__init__", defArgs s_TooLong___init__, defBody s_TooLong___init__, defScope s_TooLong___init__, [], []⟩
def d_counted : He.DefD := ⟨("counted", none), "counted", "counted", defArgs s_counted, defBody s_counted, defScope s_counted, [], []⟩
def d_by_words : He.DefD := ⟨("by_words", none), "by_words", "by_words", defArgs s_by_words, defBody s_by_words, defScope s_by_words, [], []⟩
def d_shown : He.DefD := ⟨("shown", none), "shown", "shown", defArgs s_shown, defBody s_shown, defScope s_shown, [], []⟩
def d_tell : He.DefD := ⟨("tell", none), "tell", "tell", defArgs s_tell, defBody s_tell, defScope s_tell, [.str "inches"], []⟩
def d__law_sort : He.DefD := ⟨("_law_sort", none), "_law_sort", "_law_sort", defArgs s__law_sort, defBody s__law_sort, defScope s__law_sort, [], []⟩
def d__law_told : He.DefD := ⟨("_law_told", none), "_law_told", "_law_told", defArgs s__law_told, defBody s__law_told, defScope s__law_told, [], []⟩
def d__law_plain : He.DefD := ⟨("_law_plain", none), "_law_plain", "_law_plain", defArgs s__law_plain, defBody s__law_plain, defScope s__law_plain, [], []⟩
def d__law_same : He.DefD := ⟨("_law_same", none), "_law_same", "_law_same", defArgs s__law_same, defBody s__law_same, defScope s__law_same, [], []⟩
def d__law_right : He.DefD := ⟨("_law_right", none), "_law_right", "_law_right", defArgs s__law_right, defBody s__law_right, defScope s__law_right, [], []⟩
def d_law : He.DefD := ⟨("law", none), "law", "law", defArgs s_law, defBody s_law, defScope s_law, [], []⟩
def fn : List He.DefD := [d__law_cell, d__law_purse, d__law_take, d__law_measure, d__law_edge, d__law_counted, d__law_doubles, d__law_tell, d__law_due, d_is_way, d_NoOption___init__, d_check_way, d_is_measure, d_check_measure, d_by_parts, d_minus_of, d_by_inches, d_doubled, d_by_halves, d_TooLong___init__, d_counted, d_by_words, d_shown, d_tell, d__law_sort, d__law_told, d__law_plain, d__law_same, d__law_right, d_law]
def fa : List He.Fa := [.glo "_law_cell", .glo "_law_purse", .glo "_law_take", .glo "_law_measure", .glo "_law_edge", .glo "_law_counted", .glo "_law_doubles", .glo "_law_tell", .glo "_law_due", .glo "is_way", .glo "check_way", .glo "is_measure", .glo "check_measure", .glo "by_parts", .glo "minus_of", .glo "by_inches", .glo "doubled", .glo "by_halves", .glo "counted", .glo "by_words", .glo "shown", .glo "tell", .glo "_law_sort", .glo "_law_told", .glo "_law_plain", .glo "_law_same", .glo "_law_right", .glo "law", .glo "FitError", .glo "NoMeasure", .glo "NoAllowance", .glo "NoSpan", .glo "NoLimits", .glo "NoOption", .glo "NoNew", .glo "NoDrawing", .glo "NoWants", .glo "NoZeros", .glo "NoSieve", .glo "NoTray", .glo "NoRow", .glo "ReadError", .glo "NoWord", .glo "NoLine", .glo "MissError", .glo "NoName", .glo "NoPlace", .glo "RoomError", .glo "TooLong", .free "len", .free "sum", .free "abs", .free "int", .free "str", .free "isinstance", .free "bool", .free "divmod", .free "ValueError", .free "LookupError", .free "ArithmeticError", .free "list", .free "all", .free "range", .free "max", .free "min", .int "INCH" (64), .int "MOST_BY_WORDS" (100), .glo "COUNTS", .glo "SHARES", .glo "TELLERS", .glo "TENS", .meth "NoOption" "__init__", .meth "TooLong" "__init__"]
def kc_COUNTS : Qx.KV := .tup [.str "nothing", .str "one", .str "two", .str "three", .str "four", .str "five", .str "six", .str "seven", .str "eight", .str "nine", .str "ten", .str "eleven", .str "twelve", .str "thirteen", .str "fourteen", .str "fifteen", .str "sixteen", .str "seventeen", .str "eighteen", .str "nineteen"]
def kc_SHARES : Qx.KV := .tup [.tup [.str "a", .str "half"], .tup [.str "a", .str "quarter"], .tup [.str "an", .str "eighth"], .tup [.str "a", .str "sixteenth"], .tup [.str "a", .str "thirtysecond"], .tup [.str "a", .str "sixtyfourth"]]
def kc_TENS : Qx.KV := .tup [.str "twenty", .str "thirty", .str "forty", .str "fifty", .str "sixty", .str "seventy", .str "eighty", .str "ninety"]
def kt_TELLERS : List (Str × Qx.KV) := [("parts", .fn "by_parts"), ("inches", .fn "by_inches"), ("halves", .fn "by_halves"), ("words", .fn "by_words")]
def ex (K : PySem.W.Frag) : Bool := Qx.exAll K [] && (Qx.xkAll K [("NoMeasure", [.own "NoMeasure", .own "FitError", .blt "ValueError", .blt "Exception", .blt "BaseException"]), ("NoOption", [.own "NoOption", .own "FitError", .blt "ValueError", .blt "Exception", .blt "BaseException"]), ("TooLong", [.own "TooLong", .own "RoomError", .blt "ArithmeticError", .blt "Exception", .blt "BaseException"])] [.blt "ArithmeticError", .blt "LookupError", .blt "ValueError", .own "FitError", .own "MissError", .own "NoAllowance", .own "NoDrawing", .own "NoLimits", .own "NoLine", .own "NoMeasure", .own "NoName", .own "NoNew", .own "NoOption", .own "NoPlace", .own "NoRow", .own "NoSieve", .own "NoSpan", .own "NoTray", .own "NoWants", .own "NoWord", .own "NoZeros", .own "ReadError", .own "RoomError", .own "TooLong"] [.own "FitError", .own "MissError", .own "RoomError"] && (PySem.W.excIn K (He.ga K "NoMeasure") [.type "ValueError", .type "Exception", .type "BaseException", .type "object"] "ValueError.__new__" && (Qx.xiB K "NoOption" "FitError" "option" && (Qx.xiGB Qx.ebA K "TooLong" "RoomError" "measure" && (Qx.kG K "COUNTS" kc_COUNTS && (Qx.kG K "SHARES" kc_SHARES && (Qx.kG K "TENS" kc_TENS && (Qx.kdB K "TELLERS" kt_TELLERS))))))))
abbrev R : PySem.W.OpenRow := PySem.W.OpenLaw.row PySem.Challenge.rw_fitwords_k01_told_in_four_ways
def loose0 : List Str := ["FitError", "NoMeasure", "NoAllowance", "NoSpan", "NoLimits", "NoOption", "NoNew", "NoDrawing", "NoWants", "NoZeros", "NoSieve", "NoTray", "NoRow", "ReadError", "NoWord", "NoLine", "MissError", "NoName", "NoPlace", "RoomError", "TooLong", "INCH", "MOST_BY_WORDS", "ONES", "TEENS", "COUNTS", "TENS", "GREAT_SHARES", "SHARES", "is_measure"]
def loose1 : List Str := ["check_measure", "minus_of", "by_parts", "by_inches", "doubled", "by_halves", "counted", "by_words", "TELLERS", "is_way", "check_way", "shown", "tell", "_law_cell", "_law_purse", "_law_take", "_law_measure", "_law_tell", "_law_doubles", "_law_counted", "_law_plain", "_law_sort", "_law_edge", "_law_told", "_law_due", "_law_same", "_law_right"]
def loose : List Str := loose0 ++ loose1
def tabs : List He.Tab := [(fun K => He.ga K "TELLERS", ["parts", "inches", "halves", "words"])]
abbrev hk : PySem.W.Hook := Qx.hookS 5 fa fn tabs ex
def ob (s : PySem.W.SharedT) : He.AlX := Qx.obsS 5 fa fn tabs ex (HandSHeadRun.getT s)
theorem ob_eq (s : PySem.W.SharedT) : ob s = hk.obs s.abs := Qx.obsS_eq (HandSHeadRun.getT_eq s)
abbrev RunAt (w : World) : Prop := HandSHeadRun.RunEq R (PySem.W.view R.prog [60]) hk ob 20000 loose w
theorem runF (w : World) : RunAt (w.withFollow "special-get-raises" false) := by
  intro os
  kernel_rfl
theorem runT (w : World) : RunAt (w.withFollow "special-get-raises" true) := by
  intro os
  kernel_rfl
theorem run (w : World) : RunAt w := PySem.W.byRow2 (P := RunAt) "special-get-raises" runF runT w
end Hd
namespace Gx
open PySem PySem.Spec PyProof.Rows L2
/-! ### what is known of a heap: the cells that may change, and facts that stay -/
abbrev Fact := Hp → Prop
def Mn (f : Fact) : Prop := ∀ H H', Same H H' → f H → f H'
def ers (m : List Addr) (H : Hp) : Hp := fun a => if a ∈ m then none else H a
theorem ers_sub (m : List Addr) (H : Hp) : Same (ers m H) H := fun b o e => by
  unfold ers at e
  by_cases h : b ∈ m
  · rw [if_pos h] at e; cases e
  · rw [if_neg h] at e; exact e
theorem ers_out {m : List Addr} {H : Hp} {a : Addr} (h : a ∉ m) : ers m H a = H a := if_neg h
theorem ers_mono {m : List Addr} {H H' : Hp} (e : Same H H') : Same (ers m H) (ers m H') := fun b o q => by
  have hb : b ∉ m := fun h => by unfold ers at q; rw [if_pos h] at q; cases q
  rw [ers_out hb] at q ⊢
  exact e b o q
theorem ers_less {m m' : List Addr} {H : Hp} (h : ∀ a ∈ m', a ∈ m) : Same (ers m H) (ers m' H) := fun b o q => by
  have hb : b ∉ m := fun h => by unfold ers at q; rw [if_pos h] at q; cases q
  rw [ers_out hb] at q
  rw [ers_out fun z => hb (h b z)]
  exact q
abbrev Cell := Addr × (HO → Prop)
structure Kn (M : List Cell) (fs : List Fact) (H : Hp) : Prop where
  cel : ∀ x ∈ M, ∃ o, H x.1 = some o ∧ x.2 o
  nd : (M.map (·.1)).Nodup
  fac : ∀ f ∈ fs, Mn f ∧ f (ers (M.map (·.1)) H)
section
variable {M : List Cell} {fs fs' : List Fact} {f : Fact} {H H' : Hp} {p : Addr} {o : HO} {P P' : HO → Prop} {x y : Cell}
theorem Kn.get (k : Kn M fs H) (h : f ∈ fs) : f H := (k.fac f h).1 _ _ (ers_sub _ _) (k.fac f h).2
theorem Kn.same (k : Kn M fs H) (e : Same H H') : Kn M fs H' :=
  ⟨fun x hx => let ⟨o, h1, h2⟩ := k.cel x hx; ⟨o, e _ _ h1, h2⟩, k.nd, fun f hf => ⟨(k.fac f hf).1, (k.fac f hf).1 _ _ (ers_mono e) (k.fac f hf).2⟩⟩
theorem Kn.sub (k : Kn M fs H) (h : ∀ f ∈ fs', f ∈ fs) : Kn M fs' H := ⟨k.cel, k.nd, fun f hf => k.fac f (h f hf)⟩
theorem Kn.hd {gs : List Fact} (k : Kn M (f :: gs) H) (h : ∀ g ∈ fs, g ∈ gs) : Kn M (f :: fs) H := k.sub fun g hg => by
  rcases List.mem_cons.mp hg with e | e
  · rw [e]; exact List.mem_cons_self
  · exact List.mem_cons_of_mem _ (h g e)
theorem Kn.tl (k : Kn M (f :: fs) H) : Kn M fs H := k.sub fun _ h => List.mem_cons_of_mem _ h
theorem Kn.notin (k : Kn M fs H) (hp : H p = none) : p ∉ M.map (·.1) := fun h => by
  obtain ⟨x, hx, e⟩ := List.mem_map.mp h
  obtain ⟨o, h1, _⟩ := k.cel x hx
  rw [e, hp] at h1
  cases h1
theorem same_new (hp : H p = none) : Same H (upd H p o) := fun b u e => by
  rw [upd_ne (ne_of_none e hp)]
  exact e
theorem Kn.new (k : Kn M fs H) (hp : H p = none) (mn : Mn f) (h : ∀ G : Hp, G p = some o → f G) : Kn M (f :: fs) (upd H p o) := by
  have k2 := k.same (same_new (o := o) hp)
  refine ⟨k2.cel, k2.nd, fun g hg => ?_⟩
  rcases List.mem_cons.mp hg with rfl | hg
  · exact ⟨mn, h _ (by rw [ers_out (k.notin hp)]; exact upd_same)⟩
  · exact k2.fac g hg
theorem Kn.newM (k : Kn M fs H) (hp : H p = none) (h : P o) : Kn ((p, P) :: M) fs (upd H p o) := by
  have k2 := k.same (same_new (o := o) hp)
  refine ⟨fun x hx => ?_, List.nodup_cons.mpr ⟨k.notin hp, k.nd⟩, fun g hg => ?_⟩
  · rcases List.mem_cons.mp hx with rfl | hx
    · exact ⟨o, upd_same, h⟩
    · exact k2.cel x hx
  · refine ⟨(k.fac g hg).1, (k.fac g hg).1 _ _ (fun b u e => ?_) (k.fac g hg).2⟩
    have hb : b ∉ M.map (·.1) := fun h => by unfold ers at e; rw [if_pos h] at e; cases e
    rw [ers_out hb] at e
    have hbp : b ≠ p := ne_of_none e hp
    have hb2 : b ∉ ((p, P) :: M).map (·.1) := fun z => by
      rcases List.mem_cons.mp z with z | z
      · exact hbp z
      · exact hb z
    rw [ers_out hb2, upd_ne hbp]
    exact e
theorem Kn.set (k : Kn ((p, P) :: M) fs H) (h : P' o) : Kn ((p, P') :: M) fs (upd H p o) := by
  have nd := List.nodup_cons.mp k.nd
  refine ⟨fun x hx => ?_, k.nd, fun g hg => ?_⟩
  · rcases List.mem_cons.mp hx with rfl | hx
    · exact ⟨o, upd_same, h⟩
    · obtain ⟨u, h1, h2⟩ := k.cel x (List.mem_cons_of_mem _ hx)
      refine ⟨u, ?_, h2⟩
      rw [upd_ne fun e => nd.1 (List.mem_map.mpr ⟨x, hx, e⟩)]
      exact h1
  · refine ⟨(k.fac g hg).1, (k.fac g hg).1 _ _ (fun b u e => ?_) (k.fac g hg).2⟩
    have hb : b ∉ ((p, P) :: M).map (·.1) := fun h => by unfold ers at e; rw [if_pos h] at e; cases e
    rw [ers_out hb] at e
    have hb2 : b ∉ ((p, P') :: M).map (·.1) := hb
    rw [ers_out hb2, upd_ne fun z => hb (by rw [z]; exact List.mem_cons_self)]
    exact e
theorem Kn.freeze (k : Kn ((p, P) :: M) fs H) (mn : Mn f) (h : ∀ (G : Hp) o, G p = some o → P o → f G) : Kn M (f :: fs) H := by
  have nd := List.nodup_cons.mp k.nd
  refine ⟨fun x hx => k.cel x (List.mem_cons_of_mem _ hx), nd.2, fun g hg => ?_⟩
  rcases List.mem_cons.mp hg with rfl | hg
  · obtain ⟨o, h1, h2⟩ := k.cel _ List.mem_cons_self
    exact ⟨mn, h _ o (by rw [ers_out nd.1]; exact h1) h2⟩
  · exact ⟨(k.fac g hg).1, (k.fac g hg).1 _ _ (ers_less fun a ha => List.mem_cons_of_mem _ ha) (k.fac g hg).2⟩
theorem Kn.drop (k : Kn ((p, P) :: M) fs H) : Kn M fs H :=
  ⟨fun x hx => k.cel x (List.mem_cons_of_mem _ hx), (List.nodup_cons.mp k.nd).2, fun g hg => ⟨(k.fac g hg).1, (k.fac g hg).1 _ _ (ers_less fun a ha => List.mem_cons_of_mem _ ha) (k.fac g hg).2⟩⟩
theorem Kn.swap (k : Kn (x :: y :: M) fs H) : Kn (y :: x :: M) fs H := by
  have n1 := List.nodup_cons.mp k.nd
  have n2 := List.nodup_cons.mp n1.2
  refine ⟨fun z hz => k.cel z ?_, ?_, fun g hg => ⟨(k.fac g hg).1, (k.fac g hg).1 _ _ (ers_less ?_) (k.fac g hg).2⟩⟩
  · rcases List.mem_cons.mp hz with rfl | hz
    · exact List.mem_cons_of_mem _ List.mem_cons_self
    · rcases List.mem_cons.mp hz with rfl | hz
      · exact List.mem_cons_self
      · exact List.mem_cons_of_mem _ (List.mem_cons_of_mem _ hz)
  · refine List.nodup_cons.mpr ⟨fun z => ?_, List.nodup_cons.mpr ⟨fun z => n1.1 (List.mem_cons_of_mem _ z), n2.2⟩⟩
    rcases List.mem_cons.mp z with z | z
    · exact n1.1 (by rw [← z]; exact List.mem_cons_self)
    · exact n2.1 z
  · intro a ha
    rcases List.mem_cons.mp ha with rfl | ha
    · exact List.mem_cons_of_mem _ List.mem_cons_self
    · rcases List.mem_cons.mp ha with rfl | ha
      · exact List.mem_cons_self
      · exact List.mem_cons_of_mem _ (List.mem_cons_of_mem _ ha)
theorem Kn.cell (k : Kn ((p, P) :: M) fs H) : ∃ o, H p = some o ∧ P o := k.cel _ List.mem_cons_self
theorem Kn.weak (k : Kn ((p, P) :: M) fs H) (h : ∀ o, P o → P' o) : Kn ((p, P') :: M) fs H := by
  refine ⟨fun x hx => ?_, k.nd, k.fac⟩
  rcases List.mem_cons.mp hx with rfl | hx
  · obtain ⟨o, h1, h2⟩ := k.cell
    exact ⟨o, h1, h _ h2⟩
  · exact k.cel x (List.mem_cons_of_mem _ hx)
end
/-! ### the usual facts -/
section
variable {K : PySem.W.Frag} {H H' : Hp} {a p : Addr} {xs : List V} {M : List Cell} {fs : List Fact} {C : Addr}
theorem rd_same {u : HO} (e : Same H H') (h : Rd H a u) : Rd H' a u := by
  rcases h with h | ⟨o, h⟩
  · exact .inl (e _ _ h)
  · exact .inr ⟨o, e _ _ h⟩
theorem sqt_same (e : Same H H') (h : SqT K H a xs) : SqT K H' a xs := by
  rcases h with h | h
  · exact .inl (rd_same e h)
  · exact .inr h
def fT (K : PySem.W.Frag) (a : Addr) (xs : List V) : Fact := fun H => SqT K H a xs
def fL (K : PySem.W.Frag) (a : Addr) (xs : List V) : Fact := fun H => SqL K H a xs
/-- the object itself -/
def fO (a : Addr) (o : HO) : Fact := fun H => H a = some o
theorem mn_T : Mn (fT K a xs) := fun _ _ e h => sqt_same e h
theorem mn_L : Mn (fL K a xs) := fun _ _ e h => e.seq h
theorem mn_O {o : HO} : Mn (fO a o) := fun _ _ e h => e _ _ h
theorem Kn.newT (k : Kn M fs H) (hp : H p = none) : Kn M (fO p (.tup xs) :: fs) (upd H p (.tup xs)) := k.new hp mn_O fun _ e => e
theorem Kn.newL (k : Kn M fs H) (hp : H p = none) : Kn M (fO p (.lst xs) :: fs) (upd H p (.lst xs)) := k.new hp mn_O fun _ e => e
theorem Kn.sqt (k : Kn M fs H) (h : fO a (.tup xs) ∈ fs) : SqT K H a xs := SqT.of (k.get h)
theorem Kn.sqt' (k : Kn M fs H) (h : fT K a xs ∈ fs) : SqT K H a xs := k.get h
theorem Kn.sql (k : Kn M fs H) (h : fO a (.lst xs) ∈ fs) : SqL K H a xs := SqL.of (k.get h)
theorem Kn.sql' (k : Kn M fs H) (h : fL K a xs ∈ fs) : SqL K H a xs := k.get h
theorem Kn.obj {o : HO} (k : Kn M fs H) (h : fO a o ∈ fs) : H a = some o := k.get h
/-- an exact list in a cell -/
def isL (xs : List V) : HO → Prop := fun o => o = .lst xs
theorem Kn.newML (k : Kn M fs H) (hp : H p = none) : Kn ((p, isL xs) :: M) fs (upd H p (.lst xs)) := k.newM hp rfl
theorem Kn.frzL (k : Kn ((p, isL xs) :: M) fs H) : Kn M (fO p (.lst xs) :: fs) H := k.freeze mn_O fun _ _ e q => by rw [q] at e; exact e
theorem Kn.lst (k : Kn ((p, isL xs) :: M) fs H) : H p = some (.lst xs) := by
  obtain ⟨o, h1, h2⟩ := k.cell
  rw [h2] at h1
  exact h1
end
theorem sl {n : Nat} (h : n.ble 1000 = true) : n ≤ sizeLine := Nat.le_trans (Nat.le_of_ble_eq_true h) (by decide)
theorem sllt {n : Nat} (h : (n + 1).ble 1000 = true) : n < sizeLine := Nat.lt_of_lt_of_le (Nat.le_of_ble_eq_true h) (by decide)
theorem lt1000 {n : Nat} (h : (n + 1).ble 1000 = true) : n < 1000 := Nat.le_of_ble_eq_true h
/-! ### answers to what a reading asks -/
section
variable {K : PySem.W.Frag} {H H' : Hp} {a p : Addr} {xs : List V} {M : List Cell} {fs : List Fact} {C : Addr} {G : Addr → Prop} {A B : Prop}
theorem br {c : Prop} [Decidable c] (h1 : c → A) (h2 : ¬ c → B) : if decide c = true then A else B := by
  by_cases h : c
  · rw [if_pos (decide_eq_true h)]; exact h1 h
  · rw [if_neg (by rw [decide_eq_false h]; exact Bool.false_ne_true)]; exact h2 h
theorem brn {c : Prop} [Decidable c] (h1 : ¬ c → A) (h2 : c → B) : if (!decide c) = true then A else B := by
  by_cases h : c
  · rw [if_neg (by rw [decide_eq_true h]; exact Bool.false_ne_true)]; exact h2 h
  · rw [if_pos (by rw [decide_eq_false h]; rfl)]; exact h1 h
theorem brb {b : Bool} (h1 : b = true → A) (h2 : b = false → B) : if b = true then A else B := by
  cases b with
  | true => rw [if_pos rfl]; exact h1 rfl
  | false => rw [if_neg Bool.false_ne_true]; exact h2 rfl
theorem brT {b : Bool} (h : b = true) (h1 : A) : if b = true then A else B := by rw [if_pos h]; exact h1
theorem brF {b : Bool} (h : b = false) (h1 : B) : if b = true then A else B := by rw [if_neg (by rw [h]; exact Bool.false_ne_true)]; exact h1
theorem atI_in {xs : List V} {r : Int} (h0 : 0 ≤ r) (h1 : r < (xs.length : Int)) : ∃ v, atI xs r = some v ∧ v ∈ xs := by
  have hl : r.toNat < xs.length := by omega
  refine ⟨xs[r.toNat], ?_, List.getElem_mem hl⟩
  have e : atI xs ((r.toNat : Nat) : Int) = some xs[r.toNat] := atI_nat (List.getElem?_eq_getElem hl)
  have er : ((r.toNat : Nat) : Int) = r := by omega
  rw [er] at e
  exact e
theorem atI_ints {ns : List Int} {r : Int} (h0 : 0 ≤ r) (h1 : r < (ns.length : Int)) : ∃ v, atI (ns.map V.int) r = some (.int v) ∧ v ∈ ns := by
  obtain ⟨v, e, hv⟩ := atI_in (xs := ns.map V.int) h0 (by rw [List.length_map]; exact h1)
  obtain ⟨n, hn, rfl⟩ := List.mem_map.mp hv
  exact ⟨n, e, hn⟩
end
/-! ### a def of the text, with its promise -/
section
variable {X : Cx} {P : Program} {w : World} {K : PySem.W.Frag} {mg : Str → Option Value} {base : Heap} {d : He.DefD} {CX : CXT} {k j : Nat} {ps : List Str} {sp : Sp}
/-- the def d keeps sp -/
structure DOk (P : Program) (w : World) (K : PySem.W.Frag) (mg : Str → Option Value) (base : Heap) (d : He.DefD) (CX : CXT) (k : Nat) (ps : List Str) (sp : Sp) : Prop where
  ex : ∃ fd, FunD K d.name d.qual d.params d.body d.scope (d.dvs K) (d.kws K) (He.fAd K d.at_) fd ∧ FnOk P w K mg base CX k (He.fAd K d.at_) fd ps sp
/-- what binds when every parameter is written -/
def BdN (d : He.DefD) (ps : List Str) : Prop := d.dfl = [] ∧ ∀ (kV doc pm : Value) (an : Option Addr) (cdv ct : Value) (us : List Value), us.length = ps.length → bindArgs (PySem.W.fnOf d.name d.qual d.params d.body d.scope .none kV doc pm an cdv ct) ⟨us, []⟩ = pure (ps.zip us)
theorem FunD.bdN {fd : FuncData} (F : FunD K d.name d.qual d.params d.body d.scope (d.dvs K) (d.kws K) (He.fAd K d.at_) fd) (h : BdN d ps) : Binds K fd ps [] := by
  have e : d.dvs K = [] := by unfold He.DefD.dvs; rw [h.1]; rfl
  rw [e] at F
  exact F.bindsN h.2
/-- f(e, ..), all parameters written -/
theorem pc {x : Str} {p pos : Pos} {e : Expr} {es : List Expr} {t : TA} (D : DOk X.prog X.w X.K X.mg X.base d CX0 k ps sp) (hm : X.mg x = some (.ref (He.fAd X.K d.at_))) (hb : BdN d ps) (hr : Room j X.A) (hj : k ≤ j) (ha : PA X (e :: es) t) (hg : Gl X x := by rfl)
    (hdb : (x == ("__debug__" : Str)) = false := by decide) (he : starEach (e :: es) X.env = (false, eval e X.env) :: starEach es X.env := by rfl) (hpl : (backTo pos (starEach es X.env)).any (·.1) = false := by rfl) :
    PE X (.Call (.Name x p) (e :: es) [] pos) (tCall sp [] E0 t) := by
  obtain ⟨fd, F, G⟩ := D.ex
  exact pe_call G (hr.mono hj) hg hm F.kp (FunD.bdN F hb) .nil pass0 ha hdb he hpl
/-- f(), no parameters -/
theorem pc0 {x : Str} {p pos : Pos} (D : DOk X.prog X.w X.K X.mg X.base d CX0 k ps sp) (hm : X.mg x = some (.ref (He.fAd X.K d.at_))) (hb : BdN d ps) (hr : Room j X.A) (hj : k ≤ j) (hg : Gl X x := by rfl)
    (hdb : (x == ("__debug__" : Str)) = false := by decide) : PE X (.Call (.Name x p) [] [] pos) (tCall sp [] E0 tNil) := by
  obtain ⟨fd, F, G⟩ := D.ex
  exact pe_call0 G (hr.mono hj) hg hm F.kp (FunD.bdN F hb) .nil pass0 hdb
/-- how a def with defaults is bound where some are left out (dv: the values of those) -/
def BdD (K : PySem.W.Frag) (d : He.DefD) (ps : List Str) (dv : List V) : Prop := ∀ fd, FunD K d.name d.qual d.params d.body d.scope (d.dvs K) (d.kws K) (He.fAd K d.at_) fd → ∃ ds, Vals dv ds ∧ Binds K fd ps ds
/-- f(e, ..), the last parameters left out -/
theorem pcD {x : Str} {p pos : Pos} {e : Expr} {es : List Expr} {t : TA} {dv : List V} (D : DOk X.prog X.w X.K X.mg X.base d CX0 k ps sp) (hm : X.mg x = some (.ref (He.fAd X.K d.at_))) (hb : BdD X.K d ps dv) (hr : Room j X.A) (hj : k ≤ j) (ha : PA X (e :: es) t) (hg : Gl X x := by rfl)
    (hdb : (x == ("__debug__" : Str)) = false := by decide) (he : starEach (e :: es) X.env = (false, eval e X.env) :: starEach es X.env := by rfl) (hpl : (backTo pos (starEach es X.env)).any (·.1) = false := by rfl) :
    PE X (.Call (.Name x p) (e :: es) [] pos) (tCall sp dv E0 t) := by
  obtain ⟨fd, F, G⟩ := D.ex
  obtain ⟨ds, hv, hbd⟩ := hb fd F
  exact pe_call G (hr.mono hj) hg hm F.kp hbd hv pass0 ha hdb he hpl
/-- C(e, ..) -/
theorem pmk {x : Str} {p pos : Pos} {e : Expr} {es : List Expr} {t : TA} {dv : List V} {C : Addr} (D : DOk X.prog X.w X.K X.mg X.base d CX0 k ps sp) (M : Mk X.K C (He.fAd X.K d.at_)) (hm : X.mg x = some (.ref C)) (hb : BdD X.K d ps dv) (hr : Room j X.A) (hj : k + 1 ≤ j) (ha : PA X (e :: es) t) (hg : Gl X x := by rfl)
    (hdb : (x == ("__debug__" : Str)) = false := by decide) (he : starEach (e :: es) X.env = (false, eval e X.env) :: starEach es X.env := by rfl) (hpl : (backTo pos (starEach es X.env)).any (·.1) = false := by rfl) :
    PE X (.Call (.Name x p) (e :: es) [] pos) (tMake C sp dv E0 t) := by
  obtain ⟨fd, F, G⟩ := D.ex
  obtain ⟨ds, hv, hbd⟩ := hb fd F
  exact pe_make M G (hr.mono hj) hg hm hbd hv pass0 ha hdb he hpl
/-- how keywords bind: n positional, the keywords ks; gV puts all in the parameters' order -/
def BdK (K : PySem.W.Frag) (d : He.DefD) (ps : List Str) (n : Nat) (ks : List Str) (gV : List V → List V → List V) : Prop := ∀ fd, FunD K d.name d.qual d.params d.body d.scope (d.dvs K) (d.kws K) (He.fAd K d.at_) fd → ∃ g, KBn K fd ps n ks g gV
section
variable {x : Str} {p pos : Pos} {e : Expr} {es : List Expr} {kws : List Keyword} {t tk : TA} {n : Nat} {ks : List Str} {gV : List V → List V → List V} {C : Addr}
theorem pmkK (D : DOk X.prog X.w X.K X.mg X.base d CX0 k ps sp) (M : Mk X.K C (He.fAd X.K d.at_)) (hm : X.mg x = some (.ref C)) (hb : BdK X.K d ps (n + 1) ks gV) (hr : Room j X.A) (hj : k + 1 ≤ j) (ha : PA X (e :: es) t) (hkw : PK X kws tk) (hg : Gl X x := by rfl)
    (hall : (backToKw pos (keywordEach kws X.env)).all (·.1.isSome) = true := by rfl) (hks : (backToKw pos (keywordEach kws X.env)).filterMap (·.1) = ks := by rfl)
    (hdb : (x == ("__debug__" : Str)) = false := by decide) (he : starEach (e :: es) X.env = (false, eval e X.env) :: starEach es X.env := by rfl)
    (hpl : ((backTo pos (starEach (e :: es) X.env)).any (·.1) || (backToKw pos (keywordEach kws X.env)).any (·.1.isNone)) = false := by rfl) :
    PE X (.Call (.Name x p) (e :: es) kws pos) (tMakeN C n ks.length sp gV E0 t tk) := by
  obtain ⟨fd, F, G⟩ := D.ex
  obtain ⟨g, hbd⟩ := hb fd F
  exact pe_makeN M G (hr.mono hj) hg hm hbd pass0 ha hkw hall hks hdb he hpl
theorem pcK (D : DOk X.prog X.w X.K X.mg X.base d CX0 k ps sp) (hm : X.mg x = some (.ref (He.fAd X.K d.at_))) (hb : BdK X.K d ps n ks gV) (hr : Room j X.A) (hj : k ≤ j) (ha : PA X (e :: es) t) (hkw : PK X kws tk) (hg : Gl X x := by rfl)
    (hall : (backToKw pos (keywordEach kws X.env)).all (·.1.isSome) = true := by rfl) (hks : (backToKw pos (keywordEach kws X.env)).filterMap (·.1) = ks := by rfl)
    (hdb : (x == ("__debug__" : Str)) = false := by decide) (he : starEach (e :: es) X.env = (false, eval e X.env) :: starEach es X.env := by rfl)
    (hpl : ((backTo pos (starEach (e :: es) X.env)).any (·.1) || (backToKw pos (keywordEach kws X.env)).any (·.1.isNone)) = false := by rfl) :
    PE X (.Call (.Name x p) (e :: es) kws pos) (tCallN n ks.length sp gV E0 t tk) := by
  obtain ⟨fd, F, G⟩ := D.ex
  obtain ⟨g, hbd⟩ := hb fd F
  exact pe_callN G (hr.mono hj) hg hm F.kp hbd pass0 ha hkw hall hks hdb he hpl
/-- keywords alone -/
theorem pcK0 (D : DOk X.prog X.w X.K X.mg X.base d CX0 k ps sp) (hm : X.mg x = some (.ref (He.fAd X.K d.at_))) (hb : BdK X.K d ps 0 ks gV) (hr : Room j X.A) (hj : k ≤ j) (hkw : PK X kws tk) (hg : Gl X x := by rfl)
    (hall : (backToKw pos (keywordEach kws X.env)).all (·.1.isSome) = true := by rfl) (hks : (backToKw pos (keywordEach kws X.env)).filterMap (·.1) = ks := by rfl)
    (hdb : (x == ("__debug__" : Str)) = false := by decide)
    (hpl : ((backTo pos (starEach [] X.env)).any (·.1) || (backToKw pos (keywordEach kws X.env)).any (·.1.isNone)) = false := by rfl) :
    PE X (.Call (.Name x p) [] kws pos) (tCallN 0 ks.length sp gV E0 tNil tk) := by
  obtain ⟨fd, F, G⟩ := D.ex
  obtain ⟨g, hbd⟩ := hb fd F
  refine ⟨fun pins s σ H Q I h => ?_⟩
  refine wpAny_Call_Name_kw (ld_glob I hg hm ?_ hdb)
  refine PySem.W.callWith_KW0 (h₀ := X.base) I.ok.mod.kin F.kp hall ?_ hpl
  refine thn (hkw.run pos pins s σ H _ I h) fun ws s2 ⟨zs, H2, I2, rz, l1, l2, q2⟩ => ⟨I2.kIn, ?_⟩
  rw [hks]
  exact run_fnN (us := []) (vs := []) G (hr.mono hj) hbd pass0 I2 .nil rz l1 l2 q2
end
end
end Gx

namespace Gx
open PySem PySem.Spec PyProof.Rows L2
/-! ### steps: what a reading asks, construct by construct -/
section
variable {K : PySem.W.Frag} {H : Hp} {σ : L2.St} {Q : VK} {QT : Bool → Hp → Prop} {QA : List V → Hp → Prop} {v x y : V} {i j : Int} {n : Nat} {ta tb te tc : TE} {t u : TT} {tA tR : TA} {r r' : R2} {tS uS : TS} {nx : L2.St → Hp → Prop} {rt : VK} {bk ct : L2.St → Hp → Prop} {a p C : Addr} {xs : List V} {M : List Cell} {fs : List Fact}
theorem s_var (h : σ[n]? = some (some v)) (k : Q v H) : tVar n σ H Q := ⟨v, h, k⟩
theorem s_c (k : Q v H) : tC v σ H Q := k
theorem s_op (k : ta σ H fun x H1 => tb σ H1 fun y H2 => r x y H2 Q) : tOp r ta tb σ H Q := k
theorem s_un {r : V → Hp → VK → Prop} (k : ta σ H fun x H1 => r x H1 Q) : tUn r ta σ H Q := k
theorem s_test (k : te σ H fun x H' => ∃ k, x = .bl k ∧ QT k H') : tTest te σ H QT := k
theorem s_B (k : te σ H fun x H' => ∃ k, x = .bl k ∧ QT k H') : tB te σ H QT := k
theorem s_bl {b : Bool} {R : Bool → Prop} (k : R b) : ∃ k, V.bl b = .bl k ∧ R k := ⟨b, rfl, k⟩
theorem s_and (k : t σ H fun c H1 => if c = true then u σ H1 QT else QT false H1) : tAnd t u σ H QT := k
theorem s_or (k : t σ H fun c H1 => if c = true then QT true H1 else u σ H1 QT) : tOr t u σ H QT := k
theorem s_not (k : t σ H fun c H1 => QT (!c) H1) : tNot t σ H QT := k
theorem s_andV (k : ta σ H fun x H1 => ∃ c, x = .bl c ∧ if c = true then tb σ H1 Q else Q (.bl false) H1) : tAndV ta tb σ H Q := k
theorem s_orV (k : ta σ H fun x H1 => ∃ c, x = .bl c ∧ if c = true then Q (.bl true) H1 else tb σ H1 Q) : tOrV ta tb σ H Q := k
theorem s_notV (k : ta σ H fun x H1 => ∃ c, x = .bl c ∧ Q (.bl (!c)) H1) : tNotV ta σ H Q := k
theorem s_if (k : t σ H fun c H1 => if c = true then ta σ H1 Q else tb σ H1 Q) : tIf t ta tb σ H Q := k
theorem s_cb {r : List V → Hp → VK → Prop} (k : tA σ H fun vs H1 => r vs H1 Q) : tCB r tA σ H Q := k
theorem s_nil (k : QA [] H) : tNil σ H QA := k
theorem s_cons (k : te σ H fun x H1 => tA σ H1 fun xs H2 => QA (x :: xs) H2) : tCons te tA σ H QA := k
theorem s_call {sp : Sp} {dvs : List V} {E : XK} (k : tA σ H fun vs H1 => sp (vs ++ dvs) H1 Q E) : tCall sp dvs E tA σ H Q := k
def RTup (xs : List V) (H : Hp) (Q : VK) : Prop := xs.length ≤ sizeLine ∧ ∀ p, H p = none → Q (.ref p) (upd H p (.tup xs))
def RLst (xs : List V) (H : Hp) (Q : VK) : Prop := xs.length ≤ sizeLine ∧ ∀ p, H p = none → Q (.ref p) (upd H p (.lst xs))
theorem s_tup (k : tA σ H fun xs H1 => RTup xs H1 Q) : tTup tA σ H Q := k
theorem s_lst (k : tA σ H fun xs H1 => RLst xs H1 Q) : tLst tA σ H Q := k
theorem r_tup (kn : Kn M fs H) (hl : xs.length ≤ sizeLine) (k : ∀ p, Kn M (fO p (.tup xs) :: fs) (upd H p (.tup xs)) → Q (.ref p) (upd H p (.tup xs))) : RTup xs H Q := ⟨hl, fun p hp => k p (kn.newT hp)⟩
theorem r_lst (kn : Kn M fs H) (hl : xs.length ≤ sizeLine) (k : ∀ p, Kn M (fO p (.lst xs) :: fs) (upd H p (.lst xs)) → Q (.ref p) (upd H p (.lst xs))) : RLst xs H Q := ⟨hl, fun p hp => k p (kn.newL hp)⟩
theorem r_lstM (kn : Kn M fs H) (hl : xs.length ≤ sizeLine) (k : ∀ p, Kn ((p, isL xs) :: M) fs (upd H p (.lst xs)) → Q (.ref p) (upd H p (.lst xs))) : RLst xs H Q := ⟨hl, fun p hp => k p (kn.newML hp)⟩
theorem s_seq (k : tS (Ends.mk (uS (Ends.mk nx rt bk ct)) rt bk ct) σ H) : tSeq tS uS (Ends.mk nx rt bk ct) σ H := k
theorem s_ret (k : te σ H rt) : tRet te (Ends.mk nx rt bk ct) σ H := k
theorem s_retN (k : rt .non H) : tRetN (Ends.mk nx rt bk ct) σ H := k
theorem s_next (k : nx σ H) : tNext (Ends.mk nx rt bk ct) σ H := k
theorem s_brk (k : bk σ H) : tBreak (Ends.mk nx rt bk ct) σ H := k
theorem s_cnt (k : ct σ H) : tCont (Ends.mk nx rt bk ct) σ H := k
theorem s_drop (k : te σ H fun _ H1 => nx σ H1) : tDrop te (Ends.mk nx rt bk ct) σ H := k
theorem s_ifS (k : t σ H fun b H1 => if b = true then tS (Ends.mk nx rt bk ct) σ H1 else uS (Ends.mk nx rt bk ct) σ H1) : tIfS t tS uS (Ends.mk nx rt bk ct) σ H := k
theorem s_asg {g : TG} (k : te σ H fun x H1 => g x σ H1 nx) : tAsg te g (Ends.mk nx rt bk ct) σ H := k
theorem g_name {w : L2.St → Hp → Prop} (k : w (σ.set n (some v)) H) : gName n v σ H w := k
theorem g_nameE {σ' : L2.St} {w : L2.St → Hp → Prop} (e : σ.set n (some v) = σ') (k : w σ' H) : gName n v σ H w := by subst e; exact k
def RPar (n m : Nat) (σ : L2.St) (nx : L2.St → Hp → Prop) (vs : List V) (H : Hp) : Prop := ∃ v w, vs = [v, w] ∧ nx ((σ.set n (some v)).set m (some w)) H
theorem r_par {m : Nat} {v w : V} {σ' : L2.St} (e : (σ.set n (some v)).set m (some w) = σ') (k : nx σ' H) : RPar n m σ nx [v, w] H := ⟨v, w, rfl, by rw [e]; exact k⟩
theorem s_par {m : Nat} (k : tA σ H fun vs H1 => RPar n m σ nx vs H1) : tPar n m tA (Ends.mk nx rt bk ct) σ H := k
theorem s_par2 {v w : V} {R : V → V → Prop} (k : R v w) : ∃ v' w', [v, w] = [v', w'] ∧ R v' w' := ⟨v, w, rfl, k⟩
-- operators by values
theorem s_I0 {g : Int → Int → V} (k : Q (g i j) H) : rI0 g (.int i) (.int j) H Q := ⟨i, j, rfl, rfl, k⟩
theorem s_I {c : Int → Int → Prop} {g : Int → Int → V} (hc : c i j) (k : Q (g i j) H) : rI c g (.int i) (.int j) H Q := ⟨i, j, rfl, rfl, hc, k⟩
theorem s_U {g : Int → V} (k : Q (g i) H) : rU g (.int i) H Q := ⟨i, rfl, k⟩
theorem dec_int : decide (V.int i = V.int j) = decide (i = j) := by
  by_cases e : i = j
  · rw [decide_eq_true e, decide_eq_true (congrArg V.int e)]
  · rw [decide_eq_false e, decide_eq_false fun z => e (V.int.inj z)]
theorem dec_bl {b c : Bool} : decide (V.bl b = V.bl c) = decide (b = c) := by
  cases b <;> cases c <;> decide
theorem dec_str {b c : Str} : decide (V.str b = V.str c) = decide (b = c) := by
  by_cases e : b = c
  · rw [decide_eq_true e, decide_eq_true (congrArg V.str e)]
  · rw [decide_eq_false e, decide_eq_false fun z => e (V.str.inj z)]
theorem s_eqI (k : Q (.bl (decide (i = j))) H) : rEq (.int i) (.int j) H Q := ⟨rfl, by rw [dec_int]; exact k⟩
theorem s_neI (k : Q (.bl (!decide (i = j))) H) : rNe (.int i) (.int j) H Q := ⟨rfl, by rw [dec_int]; exact k⟩
theorem s_eqB {b c : Bool} (k : Q (.bl (decide (b = c))) H) : rEq (.bl b) (.bl c) H Q := ⟨rfl, by rw [dec_bl]; exact k⟩
theorem s_neB {b c : Bool} (k : Q (.bl (!decide (b = c))) H) : rNe (.bl b) (.bl c) H Q := ⟨rfl, by rw [dec_bl]; exact k⟩
theorem s_eqS {b c : Str} (k : Q (.bl (decide (b = c))) H) : rEq (.str b) (.str c) H Q := ⟨rfl, by rw [dec_str]; exact k⟩
theorem s_neS {b c : Str} (k : Q (.bl (!decide (b = c))) H) : rNe (.str b) (.str c) H Q := ⟨rfl, by rw [dec_str]; exact k⟩
theorem s_ixTn {m : Nat} [OfNat Int m] (kn : Kn M fs H) (h : fO p (.tup xs) ∈ fs) (e : atI xs (OfNat.ofNat m) = some v) (k : Q v H) : rIxT K (.ref p) (.int (OfNat.ofNat m)) H Q := ⟨p, xs, _, v, rfl, rfl, kn.sqt h, e, k⟩
theorem s_ixLn {m : Nat} [OfNat Int m] (kn : Kn M fs H) (h : fO p (.lst xs) ∈ fs) (e : atI xs (OfNat.ofNat m) = some v) (k : Q v H) : rIxL K (.ref p) (.int (OfNat.ofNat m)) H Q := ⟨p, xs, _, v, rfl, rfl, kn.sql h, e, k⟩
theorem s_ixT (kn : Kn M fs H) (h : fO p (.tup xs) ∈ fs) (e : atI xs i = some v) (k : Q v H) : rIxT K (.ref p) (.int i) H Q := ⟨p, xs, i, v, rfl, rfl, kn.sqt h, e, k⟩
theorem s_ixL (kn : Kn M fs H) (h : fO p (.lst xs) ∈ fs) (e : atI xs i = some v) (k : Q v H) : rIxL K (.ref p) (.int i) H Q := ⟨p, xs, i, v, rfl, rfl, kn.sql h, e, k⟩
/-- an item at a drawn place of a list of ints -/
def unI : V → Int
  | .int i => i
  | _ => 0
theorem s_ixR (kn : Kn M fs H) (h : fO p (.lst xs) ∈ fs) (e : xs = (xs.map unI).map V.int) (h0 : 0 ≤ i) (h1 : i < (xs.length : Int)) (k : ∀ z, z ∈ xs.map unI → Q (.int z) H) : rIxL K (.ref p) (.int i) H Q := by
  obtain ⟨z, e2, hz⟩ := atI_ints (ns := xs.map unI) h0 (by rw [List.length_map]; exact h1)
  rw [← e] at e2
  exact ⟨p, xs, i, _, rfl, rfl, kn.sql h, e2, k z hz⟩
theorem s_setL (kn : Kn ((p, isL xs) :: M) fs H) {w : Hp → Prop} {m : Nat} (e : ixN xs.length i = some m) (k : Kn ((p, isL (xs.set m v)) :: M) fs (upd H p (.lst (xs.set m v))) → w (upd H p (.lst (xs.set m v)))) : rSetL (.ref p) (.int i) v H w :=
  ⟨p, xs, i, m, rfl, rfl, kn.lst, e, k (kn.set rfl)⟩
theorem g_sub {to ti : TE} {s : TSet} {w : L2.St → Hp → Prop} (k : to σ H fun o H1 => ti σ H1 fun i H2 => s o i v H2 fun H3 => w σ H3) : gSub to ti s v σ H w := k
theorem s_ixMn {m : Nat} [OfNat Int m] (kn : Kn ((p, isL xs) :: M) fs H) (e : atI xs (OfNat.ofNat m) = some v) (k : Q v H) : rIxL K (.ref p) (.int (OfNat.ofNat m)) H Q := ⟨p, xs, _, v, rfl, rfl, SqL.of kn.lst, e, k⟩
theorem s_ixM (kn : Kn ((p, isL xs) :: M) fs H) (e : atI xs i = some v) (k : Q v H) : rIxL K (.ref p) (.int i) H Q := ⟨p, xs, i, v, rfl, rfl, SqL.of kn.lst, e, k⟩
theorem s_self {α : Type} {z : α} {A : Prop} (k : A) : z = z ∧ A := ⟨rfl, k⟩
theorem s_ref {R : Addr → Prop} (k : R p) : ∃ q, V.ref p = .ref q ∧ R q := ⟨p, rfl, k⟩
theorem s_12 {R : Int → Int → Prop} (k : R i j) : ∃ a b, ([V.int i, V.int j] : List V) = [.int a, .int b] ∧ R a b := ⟨i, j, rfl, k⟩
theorem s_1 {R : Int → Prop} (k : R i) : ∃ a, ([V.int i] : List V) = [.int a] ∧ R a := ⟨i, rfl, k⟩
theorem g_tup {m : Nat} {gs : TGs} {w : L2.St → Hp → Prop} (kn : Kn M fs H) (h : fO p (.tup xs) ∈ fs) (hl : xs.length = m) (k : gs xs σ H w) : gTup K m gs (.ref p) σ H w := ⟨p, xs, rfl, kn.sqt h, hl, k⟩
theorem g_nil {w : L2.St → Hp → Prop} (k : w σ H) : gNil [] σ H w := ⟨rfl, k⟩
theorem g_cons {g : TG} {gs : TGs} {w : L2.St → Hp → Prop} (k : g v σ H fun σ' H' => gs xs σ' H' w) : gCons g gs (v :: xs) σ H w := ⟨v, xs, rfl, k⟩
theorem s_catT (kn : Kn M fs H) {ys : List V} {q : Addr} (h1 : fO p (.tup xs) ∈ fs) (h2 : fO q (.tup ys) ∈ fs) (n1 : xs ≠ []) (n2 : ys ≠ []) (hl : xs.length + ys.length ≤ sizeLine) (k : ∀ o, Kn M (fO o (.tup (xs ++ ys)) :: fs) (upd H o (.tup (xs ++ ys))) → Q (.ref o) (upd H o (.tup (xs ++ ys)))) : rCatT K (.ref p) (.ref q) H Q :=
  ⟨p, q, xs, ys, rfl, rfl, kn.sqt h1, kn.sqt h2, n1, hl, fun z => absurd z n2, fun _ o ho => k o (kn.newT ho)⟩
theorem s_lenL (kn : Kn M fs H) (h : fO p (.lst xs) ∈ fs) {R : List V → Prop} (k : R xs) : ∃ q ys, ([V.ref p] : List V) = [.ref q] ∧ (SqL K H q ys ∨ SqT K H q ys) ∧ R ys := ⟨p, xs, rfl, .inl (kn.sql h), k⟩
theorem s_lenL' (kn : Kn M fs H) (h : fL K p xs ∈ fs) {R : List V → Prop} (k : R xs) : ∃ q ys, ([V.ref p] : List V) = [.ref q] ∧ (SqL K H q ys ∨ SqT K H q ys) ∧ R ys := ⟨p, xs, rfl, .inl (kn.sql' h), k⟩
theorem s_lenT (kn : Kn M fs H) (h : fO p (.tup xs) ∈ fs) {R : List V → Prop} (k : R xs) : ∃ q ys, ([V.ref p] : List V) = [.ref q] ∧ (SqL K H q ys ∨ SqT K H q ys) ∧ R ys := ⟨p, xs, rfl, .inr (kn.sqt h), k⟩
theorem s_int1 {R : Int → Prop} {R' : Bool → Prop} (k : R i) : (∃ a, ([V.int i] : List V) = [.int a] ∧ R a) ∨ ∃ b, ([V.int i] : List V) = [.bl b] ∧ R' b := .inl ⟨i, rfl, k⟩
theorem s_intB {b : Bool} {R : Int → Prop} {R' : Bool → Prop} (k : R' b) : (∃ a, ([V.bl b] : List V) = [.int a] ∧ R a) ∨ ∃ c, ([V.bl b] : List V) = [.bl c] ∧ R' c := .inr ⟨b, rfl, k⟩
-- isinstance
theorem isiB {T A : String} {b : Bool} (ht : TyOf K H x (.type T)) (hk : kitB T A = some b) (k : Q (.bl b) H) : rIsi K [x, .ty A] H Q := ⟨x, .ty A, .type T, .type A, b, rfl, .ty A, .base ht, kit_ty hk, k⟩
theorem kB1 : kitB "int" "int" = some true := by decide +kernel
theorem kB2 : kitB "int" "bool" = some false := by decide +kernel
theorem kB3 : kitB "bool" "bool" = some true := by decide +kernel
theorem kB4 : kitB "bool" "int" = some true := by decide +kernel
theorem kB5 : kitB "str" "str" = some true := by decide +kernel
theorem kB6 : kitB "tuple" "tuple" = some true := by decide +kernel
theorem kB7 : kitB "NoneType" "bool" = some false := by decide +kernel
theorem kB8 : kitB "NoneType" "int" = some false := by decide +kernel
theorem kB9 : kitB "NoneType" "tuple" = some false := by decide +kernel
theorem kB10 : kitB "str" "int" = some false := by decide +kernel
theorem isi_int_int (k : Q (.bl true) H) : rIsi K [.int i, .ty "int"] H Q := isiB (.int i) kB1 k
theorem isi_int_bool (k : Q (.bl false) H) : rIsi K [.int i, .ty "bool"] H Q := isiB (.int i) kB2 k
theorem isi_bool_bool {b : Bool} (k : Q (.bl true) H) : rIsi K [.bl b, .ty "bool"] H Q := isiB (.bl b) kB3 k
theorem isi_str_str {b : Str} (k : Q (.bl true) H) : rIsi K [.str b, .ty "str"] H Q := isiB (.str b) kB5 k
theorem isi_tup_tup (kn : Kn M fs H) (h : fO p (.tup xs) ∈ fs) (k : Q (.bl true) H) : rIsi K [.ref p, .ty "tuple"] H Q := isiB (.tup (kn.obj h)) kB6 k
theorem isi_non_cls (e : PySem.W.kitOne K (.type "NoneType") (.ref C) = some false) (k : Q (.bl false) H) : rIsi K [.non, .ref C] H Q := ⟨.non, .ref C, _, _, false, rfl, .own C, .base .non, e, k⟩
/-- what makes an instance of C one of C -/
structure InsK (K : PySem.W.Frag) (C : Addr) : Prop where
  cl : Cls K C
  ha : PySem.W.findIn K (.ref C) "__class__" = some (some (.builtin "object.__class__"))
  hn : PySem.W.specialIn K (.builtin "object.__class__") "__get__" = some (some (.builtin "getset_descriptor.__get__"))
  htk : PySem.W.takesIn K (.builtin "object.__class__") = some true
  hm : PySem.W.mroIn K C (.type "object") = some true
theorem isi_ins_cls (I : InsK K C) {dx : Addr} {fl : List (Str × V)} (ho : H p = some (.ins C dx fl)) (k : Q (.bl true) H) : rIsi K [.ref p, .ref C] H Q :=
  ⟨.ref p, .ref C, .ref C, .ref C, true, rfl, .own C, .base (.ins ho I.cl I.ha I.hn I.htk I.hm), by unfold PySem.W.kitOne; rw [if_pos (by simp)], k⟩
theorem s_chain (k : ta σ H fun x H1 => tb σ H1 fun y H2 => r x y H2 fun z H3 => ∃ k, z = .bl k ∧ if k = true then tc σ H3 fun w H4 => r' y w H4 Q else Q (.bl false) H3) : tChain r r' ta tb tc σ H Q := by
  unfold tChain
  exact k
end
end Gx

namespace Gx
open PySem PySem.Spec PyProof.Rows L2
theorem Kn.exact {p : Addr} {Pr : HO → Prop} {M : List Cell} {fs : List Fact} {H : Hp} (k : Kn ((p, Pr) :: M) fs H) : ∃ o, Pr o ∧ Kn ((p, fun u => u = o) :: M) fs H := by
  obtain ⟨o, h1, h2⟩ := k.cell
  refine ⟨o, h2, fun x hx => ?_, k.nd, k.fac⟩
  rcases List.mem_cons.mp hx with rfl | hx
  · exact ⟨o, h1, rfl⟩
  · exact k.cel x (List.mem_cons_of_mem _ hx)
theorem Kn.cons {M : List Cell} {fs gs : List Fact} {H : Hp} (k : Kn M (gs ++ fs) H) : Kn M fs H := k.sub fun _ h => List.mem_append_right _ h
/-! ### fields, new instances -/
section
variable {K : PySem.W.Frag} {H : Hp} {σ : L2.St} {Q : VK} {E : XK} {v x y : V} {i j : Int} {n m : Nat} {ta tb te tc : TE} {tA tK : TA} {nx : L2.St → Hp → Prop} {rt : VK} {bk ct : L2.St → Hp → Prop} {a p C : Addr} {xs : List V} {M : List Cell} {fs : List Fact} {f : Str} {sp : Sp}
def RFld (K : PySem.W.Frag) (f : Str) (x : V) (H : Hp) (Q : VK) : Prop := ∃ a C dx fs v, x = .ref a ∧ H a = some (.ins C dx fs) ∧ Cls K C ∧ NoAttr K C f ∧ fs.lookup f = some v ∧ Q v H
theorem s_fld (k : ta σ H fun x H1 => RFld K f x H1 Q) : tFld K ta f σ H Q := k
def RSfld (K : PySem.W.Frag) (f : Str) (y x : V) (H : Hp) (Q : Hp → Prop) : Prop := ∃ a C dx fs, x = .ref a ∧ H a = some (.ins C dx fs) ∧ Cls K C ∧ NoAttr K C f ∧ fs.length < 1000 ∧ Q (upd H a (.ins C dx (putF f y fs)))
theorem s_sfld {tv : TE} (k : tv σ H fun y H1 => ta σ H1 fun x H2 => RSfld K f y x H2 fun H3 => nx σ H3) : sFld K ta tv f (Ends.mk nx rt bk ct) σ H := k
/-- an instance being made -/
def isI (C dx : Addr) (fl : List (Str × V)) : HO → Prop := fun o => o = .ins C dx fl
theorem r_sfld {dx : Addr} {fl : List (Str × V)} {W : Hp → Prop} (kn : Kn ((p, isI C dx fl) :: M) fs H) (c : Cls K C) (no : NoAttr K C f) (hl : fl.length < 1000) (k : ∀ H', Kn ((p, isI C dx (putF f y fl)) :: M) fs H' → W H') : RSfld K f y (.ref p) H W := by
  obtain ⟨o, h1, h2⟩ := kn.cell
  have h3 : o = .ins C dx fl := h2
  subst h3
  exact ⟨p, C, dx, fl, rfl, h1, c, no, hl, k _ (kn.set rfl)⟩
def RMk (C : Addr) (sp : Sp) (args : Addr → List V) (H : Hp) (Q : VK) (E : XK) : Prop := ∀ x dx, H x = none → H dx = none → dx ≠ x → sp (args x) (upd (upd H dx (.own x)) x (.ins C dx [])) (fun v H2 => v = .non ∧ Q (.ref x) H2) E
theorem s_make {dvs : List V} (k : tA σ H fun vs H1 => RMk C sp (fun x => .ref x :: (vs ++ dvs)) H1 Q E) : tMake C sp dvs E tA σ H Q := k
def RMkN (C : Addr) (n m : Nat) (sp : Sp) (gV : List V → List V → List V) (vs zs : List V) (H : Hp) (Q : VK) (E : XK) : Prop := vs.length = n ∧ zs.length = m ∧ RMk C sp (fun x => gV (.ref x :: vs) zs) H Q E
theorem s_makeN {gV : List V → List V → List V} (k : tA σ H fun vs H1 => tK σ H1 fun zs H2 => RMkN C n m sp gV vs zs H2 Q E) : tMakeN C n m sp gV E tA tK σ H Q := k
theorem r_mkN {gV : List V → List V → List V} {vs zs : List V} (h1 : vs.length = n) (h2 : zs.length = m) (k : RMk C sp (fun x => gV (.ref x :: vs) zs) H Q E) : RMkN C n m sp gV vs zs H Q E := ⟨h1, h2, k⟩
theorem Kn.newI (kn : Kn M fs H) {x dx : Addr} (hx : H x = none) (hdx : H dx = none) (ne : dx ≠ x) : Kn ((x, isI C dx []) :: M) fs (upd (upd H dx (.own x)) x (.ins C dx [])) := by
  have k1 : Kn M fs (upd H dx (.own x)) := kn.same (same_new hdx)
  exact k1.newM (by rw [upd_ne fun e => ne e.symm]; exact hx) rfl
theorem s_callN {gV : List V → List V → List V} (k : tA σ H fun vs H1 => tK σ H1 fun zs H2 => vs.length = n ∧ zs.length = m ∧ sp (gV vs zs) H2 Q E) : tCallN n m sp gV E tA tK σ H Q := k
theorem r_len2 {vs zs : List V} {A : Prop} (h1 : vs.length = n) (h2 : zs.length = m) (k : A) : vs.length = n ∧ zs.length = m ∧ A := ⟨h1, h2, k⟩
end
/-! ### loops -/
section
variable {K : PySem.W.Frag} {H : Hp} {σ : L2.St} {Q : VK} {v x : V} {tl : TE} {tA : TA} {g : TG} {tb : TS} {nx : L2.St → Hp → Prop} {rt : VK} {bk ct : L2.St → Hp → Prop} {a p : Addr} {xs : List V} {M : List Cell} {fs : List Fact}
/-- what a for over a thing asks once the thing is known -/
def RFor (J : It) (g : TG) (tb : TS) (nx : L2.St → Hp → Prop) (rt : VK) (bk ct : L2.St → Hp → Prop) (σ : L2.St) (H : Hp) : Prop :=
  ∃ W : Nat → Nat → L2.St → Hp → Prop, (∃ m, W 0 m σ H) ∧ ∀ i m σ H, W i m σ H →
  (J.stop i H ∧ nx σ H) ∨ (J.go i H ∧ ∃ N : L2.St → Hp → Prop, (∀ σ' H', N σ' H' → ∃ m', m' < m ∧ W (i + 1) m' σ' H') ∧ ∀ x H', J.yld i H x H' → g x σ H' fun σ2 H2 => tb (Ends.mk N rt nx N) σ2 H2)
def RForT (K : PySem.W.Frag) (g : TG) (tb : TS) (nx : L2.St → Hp → Prop) (rt : VK) (bk ct : L2.St → Hp → Prop) (σ : L2.St) (x : V) (H : Hp) : Prop := ∃ a, x = .ref a ∧ (∃ xs, SqT K H a xs) ∧ RFor (Itt K a) g tb nx rt bk ct σ H
def RForL (K : PySem.W.Frag) (g : TG) (tb : TS) (nx : L2.St → Hp → Prop) (rt : VK) (bk ct : L2.St → Hp → Prop) (σ : L2.St) (x : V) (H : Hp) : Prop := ∃ a, x = .ref a ∧ (∃ xs, SqL K H a xs) ∧ RFor (Itl K a) g tb nx rt bk ct σ H
theorem s_forT (k : tl σ H fun x H1 => RForT K g tb nx rt bk ct σ x H1) : tFor (iTup K tl) g tb (Ends.mk nx rt bk ct) σ H := k
theorem s_forL (k : tl σ H fun x H1 => RForL K g tb nx rt bk ct σ x H1) : tFor (iList K tl) g tb (Ends.mk nx rt bk ct) σ H := k
/-- a loop over known items, turn by turn; the thing that is walked stands still: S -/
def FU (S : Hp → Prop) (g : TG) (tb : TS) (nx : L2.St → Hp → Prop) (rt : VK) : List V → L2.St → Hp → Prop
  | [], σ, H => nx σ H
  | x :: r, σ, H => g x σ H fun σ2 H2 => tb (Ends.mk (fun σ3 H3 => S H3 ∧ FU S g tb nx rt r σ3 H3) rt nx (fun σ3 H3 => S H3 ∧ FU S g tb nx rt r σ3 H3)) σ2 H2
theorem fu_nil {S : Hp → Prop} (k : nx σ H) : FU S g tb nx rt [] σ H := k
theorem fu_cons {S : Hp → Prop} {r : List V} (k : g x σ H fun σ2 H2 => tb (Ends.mk (fun σ3 H3 => S H3 ∧ FU S g tb nx rt r σ3 H3) rt nx (fun σ3 H3 => S H3 ∧ FU S g tb nx rt r σ3 H3)) σ2 H2) : FU S g tb nx rt (x :: r) σ H := k
theorem drop_get {α : Type} {xs : List α} {i : Nat} {x : α} (h : xs[i]? = some x) : xs.drop i = x :: xs.drop (i + 1) := by
  have hl := (List.getElem?_eq_some_iff.mp h).1
  have e := (List.getElem?_eq_some_iff.mp h).2
  rw [List.drop_eq_getElem_cons hl, e]
theorem r_forTU (kn : Kn M fs H) (h : fO p (.tup xs) ∈ fs) (k : FU (fun H' => SqT K H' p xs) g tb nx rt xs σ H) : RForT K g tb nx rt bk ct σ (.ref p) H := by
  refine ⟨p, rfl, ⟨xs, kn.sqt h⟩, for_tup (D := Ends.mk nx rt bk ct) (xs := xs) (fun i σ H => SqT K H p xs ∧ FU (fun H' => SqT K H' p xs) g tb nx rt (xs.drop i) σ H) ⟨kn.sqt h, k⟩ (fun i σ H _ q => q.1) (fun i x σ H hx q => ?_) (fun σ H q => ?_)⟩
  · have q2 := q.2
    rw [drop_get hx] at q2
    exact q2
  · have q2 := q.2
    rw [List.drop_length] at q2
    exact q2
theorem r_forLU (kn : Kn M fs H) (h : fO p (.lst xs) ∈ fs) (k : FU (fun H' => SqL K H' p xs) g tb nx rt xs σ H) : RForL K g tb nx rt bk ct σ (.ref p) H := by
  refine ⟨p, rfl, ⟨xs, kn.sql h⟩, for_list (D := Ends.mk nx rt bk ct) (xs := xs) (fun i σ H => SqL K H p xs ∧ FU (fun H' => SqL K H' p xs) g tb nx rt (xs.drop i) σ H) ⟨kn.sql h, k⟩ (fun i σ H _ q => q.1) (fun i x σ H hx q => ?_) (fun σ H q => ?_)⟩
  · have q2 := q.2
    rw [drop_get hx] at q2
    exact q2
  · have q2 := q.2
    rw [List.drop_length] at q2
    exact q2
theorem fu_endT {S : Hp → Prop} {A : Prop} (h1 : S H) (k : A) : S H ∧ A := ⟨h1, k⟩
end
/-! ### slices, comprehensions -/
section
variable {K : PySem.W.Frag} {H : Hp} {σ : L2.St} {Q : VK} {v x : V} {te tl : TE} {t : TT} {tA : TA} {g : TG} {a p : Addr} {xs : List V} {M : List Cell} {fs : List Fact} {vs : List Nat}
/-- [e for x in xs]: the list at D in a cell of its own -/
def RLcL (K : PySem.W.Frag) (g : TG) (t : TT) (te : TE) (vs : List Nat) (σ : L2.St) (x : V) (H : Hp) (Q : VK) : Prop := ∃ a, x = .ref a ∧ (∃ xs, SqL K H a xs) ∧ ∀ D, H D = none → ∃ W : Nat → Nat → Hp → Prop, (∃ m, W 0 m (upd H D (.lst []))) ∧ ∀ i m H, W i m H →
  ((Itl K a).stop i H ∧ Q (.ref D) H) ∨ ((Itl K a).go i H ∧ ∃ Nx : Hp → Prop, (∀ H', Nx H' → ∃ m', m' < m ∧ W (i + 1) m' H') ∧ ∀ x H', (Itl K a).yld i H x H' → g x (wipe σ vs) H' fun σ2 H2 => wipe σ2 vs = wipe σ vs ∧ t σ2 H2 fun b H3 =>
    if b = true then te σ2 H3 fun y H4 => ∃ acc, H4 D = some (.lst acc) ∧ acc.length < sizeLine ∧ Nx (upd H4 D (.lst (acc ++ [y]))) else Nx H3)
theorem s_lcL (k : tl σ H fun x H1 => RLcL K g t te vs σ x H1 Q) : tLc (iList K tl) g t te vs σ H Q := k
def RLcR (g : TG) (t : TT) (te : TE) (vs : List Nat) (σ : L2.St) (lo : Int) (n : Nat) (H : Hp) (Q : VK) : Prop := ∀ D, H D = none → ∃ W : Nat → Nat → Hp → Prop, (∃ m, W 0 m (upd H D (.lst []))) ∧ ∀ i m H, W i m H →
  ((Itr lo n).stop i H ∧ Q (.ref D) H) ∨ ((Itr lo n).go i H ∧ ∃ Nx : Hp → Prop, (∀ H', Nx H' → ∃ m', m' < m ∧ W (i + 1) m' H') ∧ ∀ x H', (Itr lo n).yld i H x H' → g x (wipe σ vs) H' fun σ2 H2 => wipe σ2 vs = wipe σ vs ∧ t σ2 H2 fun b H3 =>
    if b = true then te σ2 H3 fun y H4 => ∃ acc, H4 D = some (.lst acc) ∧ acc.length < sizeLine ∧ Nx (upd H4 D (.lst (acc ++ [y]))) else Nx H3)
theorem s_lcR1 (k : tA σ H fun ws H1 => ∃ j : Int, ws = [.int j] ∧ -(2 ^ 62) ≤ j ∧ j < 2 ^ 62 ∧ RLcR g t te vs σ 0 j.toNat H1 Q) : tLc (iRng1 tA) g t te vs σ H Q := k
def PvF (M : List Cell) (fs : List Fact) (D : Addr) (Pv : Nat → List V → Prop) (i : Nat) (H : Hp) : Prop := ∃ acc, Pv i acc ∧ Kn ((D, isL acc) :: M) fs H
def RLcE (D : Addr) (N : Hp → Prop) (y : V) (H : Hp) : Prop := ∃ acc, H D = some (.lst acc) ∧ acc.length < sizeLine ∧ N (upd H D (.lst (acc ++ [y])))
theorem r_lcE {D : Addr} {acc : List V} {y : V} {i : Nat} {fs' : List Fact} {Pv : Nat → List V → Prop} (kn : Kn ((D, isL acc) :: M) fs' H) (hsub : ∀ f ∈ fs, f ∈ fs') (hl : acc.length < sizeLine) (k : Pv (i + 1) (acc ++ [y])) : RLcE D (PvF M fs D Pv (i + 1)) y H :=
  ⟨acc, kn.lst, hl, _, k, (kn.sub hsub).set rfl⟩
theorem r_lcL (kn : Kn M fs H) (hx : ∀ {M H}, Kn M fs H → SqL K H p xs) (Pv : Nat → List V → Prop) (h0 : Pv 0 [])
    (hs : ∀ i x D acc H', xs[i]? = some x → Pv i acc → Kn ((D, isL acc) :: M) fs H' → g x (wipe σ vs) H' fun σ2 H2 => wipe σ2 vs = wipe σ vs ∧ t σ2 H2 fun b H3 => if b = true then te σ2 H3 fun y H4 => RLcE D (PvF M fs D Pv (i + 1)) y H4 else PvF M fs D Pv (i + 1) H3)
    (hd : ∀ D acc H', Pv xs.length acc → Kn ((D, isL acc) :: M) fs H' → Q (.ref D) H') : RLcL K g t te vs σ (.ref p) H Q := by
  refine ⟨p, rfl, ⟨xs, hx kn⟩, fun D hD => lc_list (xs := xs) (PvF M fs D Pv) ⟨[], h0, kn.newML hD⟩ (fun i H' _ ⟨acc, _, k⟩ => hx k) (fun i x H' hi ⟨acc, q, k⟩ => hs i x D acc H' hi q k) fun H' ⟨acc, q, k⟩ => hd D acc H' q k⟩
theorem r_lcR {lo : Int} {n : Nat} (kn : Kn M fs H) (Pv : Nat → List V → Prop) (h0 : Pv 0 [])
    (hs : ∀ i D acc H', i < n → Pv i acc → Kn ((D, isL acc) :: M) fs H' → g (.int (lo + i)) (wipe σ vs) H' fun σ2 H2 => wipe σ2 vs = wipe σ vs ∧ t σ2 H2 fun b H3 => if b = true then te σ2 H3 fun y H4 => RLcE D (PvF M fs D Pv (i + 1)) y H4 else PvF M fs D Pv (i + 1) H3)
    (hd : ∀ D acc H', Pv n acc → Kn ((D, isL acc) :: M) fs H' → Q (.ref D) H') : RLcR g t te vs σ lo n H Q := by
  exact fun D hD => lc_range (PvF M fs D Pv) ⟨[], h0, kn.newML hD⟩ (fun i H' hi ⟨acc, q, k⟩ => hs i D acc H' hi q k) fun H' ⟨acc, q, k⟩ => hd D acc H' q k
theorem s_yes {QT : Bool → Hp → Prop} (k : QT true H) : tYes σ H QT := k
theorem s_iteT {A B : Prop} (k : A) : if true = true then A else B := by rw [if_pos rfl]; exact k
theorem s_iteF {A B : Prop} (k : B) : if false = true then A else B := by rw [if_neg Bool.false_ne_true]; exact k
theorem s_iteNT {A B : Prop} (k : B) : if (!true) = true then A else B := by rw [if_neg (by decide)]; exact k
theorem s_iteNF {A B : Prop} (k : A) : if (!false) = true then A else B := by rw [if_pos (by decide)]; exact k
theorem s_intE {i : Int} {R : Int → Prop} (k : R i) : ∃ a, V.int i = .int a ∧ R a := ⟨i, rfl, k⟩
theorem s_wipe {σ2 : L2.St} {A : Prop} (h : wipe σ2 vs = wipe σ vs) (k : A) : wipe σ2 vs = wipe σ vs ∧ A := ⟨h, k⟩
-- slices
theorem s_sl {r : V → Option Int → Option Int → Hp → VK → Prop} {tlo thi : TO} (k : te σ H fun x H1 => tlo σ H1 fun l H2 => thi σ H2 fun u H3 => r x l u H3 Q) : tSl r te tlo thi σ H Q := k
theorem s_noP {W : Option Int → Hp → Prop} (k : W none H) : tNoPart σ H W := k
theorem s_part {W : Option Int → Hp → Prop} (k : te σ H fun x H1 => ∃ i, x = .int i ∧ W (some i) H1) : tPart te σ H W := k
theorem s_slL {lo hi : Option Int} (kn : Kn M fs H) (h : fO p (.lst xs) ∈ fs) (k : ∀ q, Kn M (fO q (.lst (cutV xs lo hi)) :: fs) (upd H q (.lst (cutV xs lo hi))) → Q (.ref q) (upd H q (.lst (cutV xs lo hi)))) : rSlL K (.ref p) lo hi H Q := ⟨p, xs, rfl, kn.sql h, fun q hq => k q (kn.newL hq)⟩
theorem s_slL' {lo hi : Option Int} (kn : Kn M fs H) (h : fL K p xs ∈ fs) (k : ∀ q, Kn M (fO q (.lst (cutV xs lo hi)) :: fs) (upd H q (.lst (cutV xs lo hi))) → Q (.ref q) (upd H q (.lst (cutV xs lo hi)))) : rSlL K (.ref p) lo hi H Q := ⟨p, xs, rfl, kn.sql' h, fun q hq => k q (kn.newL hq)⟩
theorem s_ixL' {i : Int} (kn : Kn M fs H) (h : fL K p xs ∈ fs) (e : atI xs i = some v) (k : Q v H) : rIxL K (.ref p) (.int i) H Q := ⟨p, xs, i, v, rfl, rfl, kn.sql' h, e, k⟩
end
/-! ### spans -/
section
variable {K : PySem.W.Frag} {H : Hp} {σ : L2.St} {Q : VK} {E : XK} {v x y : V} {a p C : Addr} {xs : List V} {M : List Cell} {fs : List Fact} {f : Str} {s u l s' u' l' : Int}
def spanF (s u l : Int) : List (Str × V) := [("size", .int s), ("above", .int u), ("below", .int l), ("low", .int (s - l)), ("high", .int (s + u))]
/-- a Span of size s, above u, below l stands at p -/
def fS (C p : Addr) (s u l : Int) : Fact := fun H => ∃ dx, H p = some (.ins C dx (spanF s u l))
theorem mn_S : Mn (fS C p s u l) := fun _ _ e ⟨dx, h⟩ => ⟨dx, e _ _ h⟩
theorem r_fldS (kn : Kn M fs H) (h : fS C p s u l ∈ fs) (c : Cls K C) (no : NoAttr K C f) (e : (spanF s u l).lookup f = some v) (k : Q v H) : RFld K f (.ref p) H Q := by
  obtain ⟨dx, ho⟩ := kn.get h
  exact ⟨p, C, dx, _, v, rfl, ho, c, no, e, k⟩
theorem isi_span (I : InsK K C) (kn : Kn M fs H) (h : fS C p s u l ∈ fs) (k : Q (.bl true) H) : rIsi K [.ref p, .ref C] H Q := by
  obtain ⟨dx, ho⟩ := kn.get h
  exact isi_ins_cls I ho k
def spSpanInit (C : Addr) : Sp := fun vs H Q _ => ∃ (M : List Cell) (fs : List Fact) (x dx : Addr) (s u l : Int), vs = [.ref x, .int s, .int u, .int l] ∧ Kn ((x, isI C dx []) :: M) fs H ∧ 0 ≤ u + l ∧ ∀ H', Kn M (fS C x s u l :: fs) H' → Q .non H'
theorem r_mkS {args : Addr → List V} (kn : Kn M fs H) (e : ∀ x, args x = [.ref x, .int s, .int u, .int l]) (h0 : 0 ≤ u + l) (k : ∀ x H', Kn M (fS C x s u l :: fs) H' → Q (.ref x) H') : RMk C (spSpanInit C) args H Q E :=
  fun x dx hx hdx ne => ⟨M, fs, x, dx, s, u, l, e x, kn.newI hx hdx ne, h0, fun H' kn' => ⟨rfl, k x H' kn'⟩⟩
theorem Kn.frzS {dx : Addr} {fl : List (Str × V)} (kn : Kn ((p, isI C dx fl) :: M) fs H) (e : fl = spanF s u l) : Kn M (fS C p s u l :: fs) H := kn.freeze mn_S fun _ o h1 h2 => by
  have h3 : o = .ins C dx fl := h2
  rw [h3, e] at h1
  exact ⟨dx, h1⟩
end
end Gx
namespace Gx
open PySem PySem.Spec PyProof.Rows L2
theorem cutV_take3 {ns : List Int} : cutV (ns.map V.int) none (some 3) = (ns.take 3).map V.int := by
  have e1 : ∀ n, HT.sIx n 0 none = 0 := fun n => rfl
  unfold cutV
  rw [e1, List.drop_zero, List.map_take]
  show List.take (HT.sIx (ns.map V.int).length (ns.map V.int).length (some 3)) _ = _
  have e2 : HT.sIx (ns.map V.int).length (ns.map V.int).length (some 3) = min 3 (ns.map V.int).length := by
    unfold HT.sIx
    simp
  rw [e2]
  by_cases h : 3 ≤ (ns.map V.int).length
  · rw [Nat.min_eq_left h]
  · rw [Nat.min_eq_right (by omega), List.take_length, List.take_of_length_le (by omega)]
theorem s_sum {K : PySem.W.Frag} {H : Hp} {Q : VK} {M : List Cell} {fs : List Fact} {p : Addr} {ns : List Int} (kn : Kn M fs H) (h : fO p (.lst (ns.map V.int)) ∈ fs) (k : Q (.int ns.sum) H) : rSum K [.ref p] H Q := ⟨p, ns, rfl, kn.sql h, k⟩
theorem kbN {K : PySem.W.Frag} {d : He.DefD} {fd : FuncData} {ps : List Str} (F : FunD K d.name d.qual d.params d.body d.scope (d.dvs K) (d.kws K) (He.fAd K d.at_) fd) (n : Nat) (ks : List Str) (g : {α : Type} → List α → List α → List α)
    (hrel : ∀ {vs zs : List V} {us ws : List Value}, Vals vs us → Vals zs ws → Vals (g vs zs) (g us ws))
    (h : ∀ (kV doc pm : Value) (an : Option Addr) (cdv ct : Value) (us ws : List Value), us.length = n → ws.length = ks.length → bindArgs (PySem.W.fnOf d.name d.qual d.params d.body d.scope .none kV doc pm an cdv ct) ⟨us, ks.zip ws⟩ = pure (ps.zip (g us ws))) (hd : d.dfl = [] := by rfl) :
    KBn K fd ps n ks (fun us ws => g us ws) (fun vs zs => g vs zs) := by
  have e : d.dvs K = [] := by unfold He.DefD.dvs; rw [hd]; rfl
  rw [e] at F
  obtain ⟨oc, od, dV, kV, doc, pm, an, cdv, ct, osl, rfl, lk, hcd, hD, hK⟩ := F.ex
  rcases hD with ⟨_, rfl⟩ | ⟨e, _⟩
  · exact ⟨fun s us ws X l1 l2 => BindsTo.of_eq (h kV doc pm an cdv ct us ws l1 l2), fun r1 r2 => hrel r1 r2⟩
  · exact absurd rfl e
/-- the purse of a law -/
def Pur : HO → Prop := fun o => ∃ a b c : Int, o = .lst [.int a, .int b, .int c] ∧ 0 ≤ a ∧ a < 2147483399 ∧ 0 ≤ b
theorem Kn.pur {p : Addr} {M : List Cell} {fs : List Fact} {H : Hp} (k : Kn ((p, Pur) :: M) fs H) : ∃ a b c : Int, (0 ≤ a ∧ a < 2147483399 ∧ 0 ≤ b) ∧ Kn ((p, isL [.int a, .int b, .int c]) :: M) fs H := by
  obtain ⟨o, ⟨a, b, c, e, h⟩, k2⟩ := k.exact
  subst e
  exact ⟨a, b, c, h, k2⟩
theorem Kn.unpur {p : Addr} {M : List Cell} {fs : List Fact} {H : Hp} {a b c : Int} (k : Kn ((p, isL [.int a, .int b, .int c]) :: M) fs H) (h0 : 0 ≤ a) (h1 : a < 2147483399) (h2 : 0 ≤ b) : Kn ((p, Pur) :: M) fs H := k.weak fun o e => ⟨a, b, c, e, h0, h1, h2⟩
end Gx

namespace Gx
open PySem PySem.Spec PyProof.Rows L2
section
variable {X : Cx}
theorem c_max (hc : X.calm = true) : CallR X (.builtin "max") (fun xs H Q => ∃ i j, xs = [.int i, .int j] ∧ Q (.int (max i j)) H) := by
  intro pins s σ H xs us Q I r h
  refine call_max2 hc pins s σ H xs us Q I r ?_
  obtain ⟨i, j, e, q⟩ := h
  refine ⟨i, j, e, ?_⟩
  have e2 : (if j > i then j else i) = max i j := by split <;> omega
  rw [e2]
  exact q
theorem c_min (hc : X.calm = true) : CallR X (.builtin "min") (fun xs H Q => ∃ i j, xs = [.int i, .int j] ∧ Q (.int (min i j)) H) := by
  intro pins s σ H xs us Q I r h
  refine call_min2 hc pins s σ H xs us Q I r ?_
  obtain ⟨i, j, e, q⟩ := h
  refine ⟨i, j, e, ?_⟩
  have e2 : (if j < i then j else i) = min i j := by split <;> omega
  rw [e2]
  exact q
/-- a statement, then the rest, with a word between them -/
def tCut (t u : TS) : TS := fun D σ H => ∃ Mid : L2.St → Hp → Prop, t { D with nx := Mid } σ H ∧ ∀ σ' H', Mid σ' H' → u D σ' H'
theorem pss_cut {st : Stmt} {rest : List Stmt} {t u : TS} (h1 : PS X st t) (h2 : PSs X rest u) : PSs X (st :: rest) (tCut t u) := by
  refine ⟨fun pins s σ H D I h => ?_⟩
  obtain ⟨Mid, hm, hu⟩ := h
  refine wpAny_execs_cons (thn (h1.run pins s σ H { D with nx := Mid } I hm) fun f s1 q => ?_)
  cases f with
  | next =>
    obtain ⟨σ', H', I', q⟩ := q
    exact h2.run pins s1 σ' H' D I' (hu σ' H' q)
  | ret v => exact q
  | brk => exact q
  | cont => exact q
end
section
variable {K : PySem.W.Frag} {H : Hp} {σ : L2.St} {Q : VK} {te tb : TE} {tS uS : TS} {nx : L2.St → Hp → Prop} {rt : VK} {bk ct : L2.St → Hp → Prop} {p q : Addr} {xs ys : List V} {M : List Cell} {fs : List Fact}
theorem s_cut (Mid : L2.St → Hp → Prop) (k1 : tS (Ends.mk Mid rt bk ct) σ H) (k2 : ∀ σ' H', Mid σ' H' → uS (Ends.mk nx rt bk ct) σ' H') : tCut tS uS (Ends.mk nx rt bk ct) σ H := ⟨Mid, k1, k2⟩
/-- a and b, of which the second is known where the first is true: one way -/
theorem m_and {b1 b2 : Bool} (hb : b1 = true → ∀ Q' : VK, Q' (.bl b2) H → tb σ H Q') (k : Q (.bl (b1 && b2)) H) (hQ : ∀ v, (∀ Q' : VK, Q' v H → Q' v H) := by exact fun _ _ h => h) : if b1 = true then tb σ H Q else Q (.bl false) H := by
  cases b1 with
  | true => rw [if_pos rfl]; exact hb rfl Q k
  | false => rw [if_neg Bool.false_ne_true]; exact k
theorem m_or {b1 b2 : Bool} (hb : b1 = false → ∀ Q' : VK, Q' (.bl b2) H → tb σ H Q') (k : Q (.bl (b1 || b2)) H) : if b1 = true then Q (.bl true) H else tb σ H Q := by
  cases b1 with
  | true => rw [if_pos rfl]; exact k
  | false => rw [if_neg Bool.false_ne_true]; exact hb rfl Q k
theorem dpAll_ints : ∀ ns : List Int, DpAll K H (ns.map V.int) (ns.map PyData.int)
  | [] => .nil
  | n :: ns => .cons (.int n) (dpAll_ints ns)
theorem eqvAll_ints : ∀ ns ms : List Int, PyData.eqvAll (ns.map PyData.int) (ms.map PyData.int) = decide (ns = ms)
  | [], [] => rfl
  | [], _ :: _ => rfl
  | _ :: _, [] => rfl
  | n :: ns, m :: ms => by
    show (PyData.eqv (.int n) (.int m) && PyData.eqvAll (ns.map PyData.int) (ms.map PyData.int)) = _
    rw [eqvAll_ints ns ms]
    show ((n == m) && decide (ns = ms)) = _
    by_cases h1 : n = m
    · by_cases h2 : ns = ms
      · rw [h1, h2]; simp
      · simp [h1, h2]
    · simp [h1]
theorem s_eqTI (kn : Kn M fs H) (h1 : fO p (.tup xs) ∈ fs) (h2 : fO q (.tup ys) ∈ fs) (e1 : xs = (xs.map unI).map V.int) (e2 : ys = (ys.map unI).map V.int) (z1 : SeqAt.shaped (.tuple ((xs.map unI).map PyData.int)) = true) (z2 : SeqAt.shaped (.tuple ((ys.map unI).map PyData.int)) = true)
    (k : Q (.bl (decide (xs.map unI = ys.map unI))) H) : rEqD K (.ref p) (.ref q) H Q := by
  refine ⟨_, _, .tup (kn.sqt h1) (ds := (xs.map unI).map PyData.int) ?_, .tup (kn.sqt h2) (ds := (ys.map unI).map PyData.int) ?_, z1, z2, ?_⟩
  · have e := dpAll_ints (K := K) (H := H) (xs.map unI)
    rw [← e1] at e
    exact e
  · have e := dpAll_ints (K := K) (H := H) (ys.map unI)
    rw [← e2] at e
    exact e
  · show Q (.bl (PyData.eqvAll ((xs.map unI).map PyData.int) ((ys.map unI).map PyData.int))) H
    rw [eqvAll_ints]
    exact k
theorem Kn.init {a : Addr} {ns : List Int} (h : SqL K H a (ns.map V.int)) : Kn [] [fL K a (ns.map V.int)] H := by
  refine ⟨fun x hx => (nomatch hx), List.nodup_nil, fun f hf => ?_⟩
  rcases List.mem_cons.mp hf with rfl | hf
  · refine ⟨mn_L, ?_⟩
    have e : ers ([].map fun x : Cell => x.1) H = H := funext fun b => ers_out (by simp)
    rw [e]
    exact h
  · exact nomatch hf
theorem s_all {bs : List Bool} (kn : Kn M fs H) (h : fO p (.lst (bs.map V.bl)) ∈ fs) (k : Q (.bl (bs.all id)) H) : rAll K [.ref p] H Q := ⟨p, bs, rfl, kn.sql h, k⟩
theorem all_rep (n : Nat) : (List.replicate n true).all id = true := by
  induction n with
  | zero => rfl
  | succ n ih => rw [List.replicate_succ, List.all_cons, ih]; rfl
def spLaw (K : PySem.W.Frag) : Sp := fun vs H Q _ => ∃ (a : Addr) (ns : List Int), vs = [.ref a] ∧ SqL K H a (ns.map V.int) ∧ ns.length ≤ 63 ∧ ∀ H', Q (.bl true) H'
end
end Gx

namespace Gx
open PySem PySem.Spec PyProof.Rows L2
/-! ### instances of any class, by their fields -/
section
variable {K : PySem.W.Frag} {H : Hp} {σ : L2.St} {Q : VK} {E : XK} {v x y : V} {a p C : Addr} {xs : List V} {M : List Cell} {fs : List Fact} {f : Str} {fl : List (Str × V)} {g : Fact}
def fN (C p : Addr) (fl : List (Str × V)) : Fact := fun H => ∃ dx, H p = some (.ins C dx fl)
theorem mn_N : Mn (fN C p fl) := fun _ _ e ⟨dx, h⟩ => ⟨dx, e _ _ h⟩
theorem r_fldN (kn : Kn M fs H) (h : fN C p fl ∈ fs) (c : Cls K C) (no : NoAttr K C f) (e : fl.lookup f = some v) (k : Q v H) : RFld K f (.ref p) H Q := by
  obtain ⟨dx, ho⟩ := kn.get h
  exact ⟨p, C, dx, _, v, rfl, ho, c, no, e, k⟩
theorem isi_N (I : InsK K C) (kn : Kn M fs H) (h : fN C p fl ∈ fs) (k : Q (.bl true) H) : rIsi K [.ref p, .ref C] H Q := by
  obtain ⟨dx, ho⟩ := kn.get h
  exact isi_ins_cls I ho k
theorem Kn.frzN {dx : Addr} {fl' : List (Str × V)} (kn : Kn ((p, isI C dx fl) :: M) fs H) (e : fl = fl') : Kn M (fN C p fl' :: fs) H := kn.freeze mn_N fun _ o h1 h2 => by
  have h3 : o = .ins C dx fl := h2
  rw [h3, e] at h1
  exact ⟨dx, h1⟩
theorem Kn.raw (k : Kn M fs H) (h : g ∈ fs) : g (ers (M.map (·.1)) H) := (k.fac g h).2
theorem Kn.more (k : Kn M fs H) (mn : Mn g) (h : g (ers (M.map (·.1)) H)) : Kn M (g :: fs) H := ⟨k.cel, k.nd, fun f hf => by
  rcases List.mem_cons.mp hf with rfl | hf
  · exact ⟨mn, h⟩
  · exact k.fac f hf⟩
/-- an int or None -/
abbrev vO : Option Int → V
  | none => .non
  | some r => .int r
/-- fields as they are handed in -/
def spInit3 (C : Addr) (n1 n2 n3 : Str) : Sp := fun vs H Q _ => ∃ (M : List Cell) (fs : List Fact) (x dx : Addr) (a b c : V), vs = [.ref x, a, b, c] ∧ Kn ((x, isI C dx []) :: M) fs H ∧ ∀ H', Kn M (fN C x [(n1, a), (n2, b), (n3, c)] :: fs) H' → Q .non H'
theorem r_mk3 {n1 n2 n3 : Str} {a b c : V} {args : Addr → List V} (kn : Kn M fs H) (e : ∀ x, args x = [.ref x, a, b, c]) (k : ∀ x H', Kn M (fN C x [(n1, a), (n2, b), (n3, c)] :: fs) H' → Q (.ref x) H') : RMk C (spInit3 C n1 n2 n3) args H Q E :=
  fun x dx hx hdx ne => ⟨M, fs, x, dx, a, b, c, e x, kn.newI hx hdx ne, fun H' kn' => ⟨rfl, k x H' kn'⟩⟩
end
/-! ### gaps and limits -/
def goB (g f : Int) (o : Option Int) : Bool := decide (f ≤ g) && (match o with | none => true | some r => decide (g ≤ r))
def sureB (lo hi f : Int) (o : Option Int) : Bool := decide (f ≤ lo) && (match o with | none => true | some r => decide (hi ≤ r))
def neverB (lo hi f : Int) (o : Option Int) : Bool := decide (hi < f) || (match o with | none => false | some r => decide (r < lo))
def wordOf (lo hi f : Int) (o : Option Int) : Str := if sureB lo hi f o then "sure" else if neverB lo hi f o then "never" else "may"
/-- the limits are in order -/
def LimOk (f : Int) (o : Option Int) : Prop := ∀ r, o = some r → f ≤ r
abbrev vA : Option (Addr × Int × Int) → V
  | none => .non
  | some (t, _, _) => .ref t
/-- two measures, in the hole and of the peg -/
def In2 (hl hh pl ph a b : Int) : Prop := hl ≤ a ∧ a ≤ hh ∧ pl ≤ b ∧ b ≤ ph
structure GoesOk (hl hh pl ph f : Int) (o : Option Int) (g : Option (Addr × Int × Int)) : Prop where
  non : g = none ↔ neverB (hl - ph) (hh - pl) f o = true
  som : ∀ t a b, g = some (t, a, b) → In2 hl hh pl ph a b ∧ goB (a - b) f o = true
structure FailsOk (hl hh pl ph f : Int) (o : Option Int) (g : Option (Addr × Int × Int)) : Prop where
  non : g = none ↔ sureB (hl - ph) (hh - pl) f o = true
  som : ∀ t a b, g = some (t, a, b) → In2 hl hh pl ph a b ∧ goB (a - b) f o = false
/-- the two of a case stand at t -/
def TupOf (H : Hp) (g : Option (Addr × Int × Int)) : Prop := ∀ t a b, g = some (t, a, b) → H t = some (.tup [.int a, .int b])
theorem TupOf.none {H : Hp} : TupOf H none := fun _ _ _ e => nomatch e
theorem TupOf.some {H : Hp} {t : Addr} {a b : Int} (h : H t = .some (.tup [.int a, .int b])) : TupOf H (.some (t, a, b)) := fun _ _ _ e => by cases e; exact h
def fTup (g : Option (Addr × Int × Int)) : Fact := fun H => TupOf H g
theorem mn_Tup {g : Option (Addr × Int × Int)} : Mn (fTup g) := fun _ _ e h t a b q => e _ _ (h t a b q)
def fitFl (w : Str) (g e : V) : List (Str × V) := [("word", .str w), ("goes", g), ("fails", e)]
/-- a right Fit of a hole, a peg, limits stands at x -/
def fFit (C x : Addr) (hl hh pl ph f : Int) (o : Option Int) : Fact := fun H => ∃ g e, GoesOk hl hh pl ph f o g ∧ FailsOk hl hh pl ph f o e ∧ TupOf H g ∧ TupOf H e ∧ fN C x (fitFl (wordOf (hl - ph) (hh - pl) f o) (vA g) (vA e)) H
theorem mn_Fit {C x : Addr} {hl hh pl ph f : Int} {o : Option Int} : Mn (fFit C x hl hh pl ph f o) := fun _ _ e ⟨g, b, h1, h2, h3, h4, h5⟩ => ⟨g, b, h1, h2, mn_Tup _ _ e h3, mn_Tup _ _ e h4, mn_N _ _ e h5⟩
theorem Kn.fit {C x : Addr} {hl hh pl ph f : Int} {o : Option Int} {g e : Option (Addr × Int × Int)} {w : Str} {M : List Cell} {fs : List Fact} {H : Hp} (k : Kn M fs H) (hg : GoesOk hl hh pl ph f o g) (he : FailsOk hl hh pl ph f o e)
    (tg : fTup g ∈ fs) (te : fTup e ∈ fs) (hx : fN C x (fitFl w (vA g) (vA e)) ∈ fs) (hw : w = wordOf (hl - ph) (hh - pl) f o) : Kn M (fFit C x hl hh pl ph f o :: fs) H :=
  k.more mn_Fit ⟨g, e, hg, he, k.raw tg, k.raw te, by rw [← hw]; exact k.raw hx⟩
theorem Kn.tupN {M : List Cell} {fs : List Fact} {H : Hp} (k : Kn M fs H) : Kn M (fTup none :: fs) H := k.more mn_Tup TupOf.none
theorem Kn.tupS {M : List Cell} {fs : List Fact} {H : Hp} {t : Addr} {a b : Int} (k : Kn M fs H) (h : fO t (.tup [.int a, .int b]) ∈ fs) : Kn M (fTup (some (t, a, b)) :: fs) H := k.more mn_Tup (TupOf.some (k.raw h))
end Gx

namespace Gx
open PySem PySem.Spec PyProof.Rows L2
section
variable {K : PySem.W.Frag} {H : Hp} {σ : L2.St} {Q : VK} {v x : V} {te tl : TE} {t : TT} {tA : TA} {g : TG} {tb : TS} {nx : L2.St → Hp → Prop} {rt : VK} {bk ct : L2.St → Hp → Prop} {a p q : Addr} {xs ys : List V} {M : List Cell} {fs : List Fact} {vs : List Nat} {i : Int}
/-! ### comprehensions that keep facts of what they make -/
def PvG (M : List Cell) (fs : List Fact) (D : Addr) (Pv : Nat → List V → List Fact → Prop) (i : Nat) (H : Hp) : Prop := ∃ acc gs, Pv i acc gs ∧ Kn ((D, isL acc) :: M) (gs ++ fs) H
theorem r_lcG {D : Addr} {acc : List V} {y : V} {i : Nat} {fs' gs : List Fact} {Pv : Nat → List V → List Fact → Prop} (kn : Kn ((D, isL acc) :: M) fs' H) (hsub : ∀ f ∈ gs ++ fs, f ∈ fs') (hl : acc.length < sizeLine) (k : Pv (i + 1) (acc ++ [y]) gs) : RLcE D (PvG M fs D Pv (i + 1)) y H :=
  ⟨acc, kn.lst, hl, _, gs, k, (kn.sub hsub).set rfl⟩
theorem r_lcLG (kn : Kn M fs H) (hx : ∀ {M gs H}, Kn M (gs ++ fs) H → SqL K H p xs) (Pv : Nat → List V → List Fact → Prop) (h0 : Pv 0 [] [])
    (hs : ∀ i x D acc gs H', xs[i]? = some x → Pv i acc gs → Kn ((D, isL acc) :: M) (gs ++ fs) H' → g x (wipe σ vs) H' fun σ2 H2 => wipe σ2 vs = wipe σ vs ∧ t σ2 H2 fun b H3 => if b = true then te σ2 H3 fun y H4 => RLcE D (PvG M fs D Pv (i + 1)) y H4 else PvG M fs D Pv (i + 1) H3)
    (hd : ∀ D acc gs H', Pv xs.length acc gs → Kn ((D, isL acc) :: M) (gs ++ fs) H' → Q (.ref D) H') : RLcL K g t te vs σ (.ref p) H Q := by
  refine ⟨p, rfl, ⟨xs, hx (gs := []) kn⟩, fun D hD => lc_list (xs := xs) (PvG M fs D Pv) ⟨[], [], h0, kn.newML hD⟩ (fun i H' _ ⟨acc, gs, _, k⟩ => hx k) (fun i x H' hi ⟨acc, gs, q, k⟩ => hs i x D acc gs H' hi q k) fun H' ⟨acc, gs, q, k⟩ => hd D acc gs H' q k⟩
theorem r_lcRG {lo : Int} {n : Nat} (kn : Kn M fs H) (Pv : Nat → List V → List Fact → Prop) (h0 : Pv 0 [] [])
    (hs : ∀ i D acc gs H', i < n → Pv i acc gs → Kn ((D, isL acc) :: M) (gs ++ fs) H' → g (.int (lo + i)) (wipe σ vs) H' fun σ2 H2 => wipe σ2 vs = wipe σ vs ∧ t σ2 H2 fun b H3 => if b = true then te σ2 H3 fun y H4 => RLcE D (PvG M fs D Pv (i + 1)) y H4 else PvG M fs D Pv (i + 1) H3)
    (hd : ∀ D acc gs H', Pv n acc gs → Kn ((D, isL acc) :: M) (gs ++ fs) H' → Q (.ref D) H') : RLcR g t te vs σ lo n H Q := by
  exact fun D hD => lc_range (PvG M fs D Pv) ⟨[], [], h0, kn.newML hD⟩ (fun i H' hi ⟨acc, gs, q, k⟩ => hs i D acc gs H' hi q k) fun H' ⟨acc, gs, q, k⟩ => hd D acc gs H' q k
theorem s_lcR2 (k : tA σ H fun ws H1 => ∃ i j : Int, ws = [.int i, .int j] ∧ (-(2 ^ 62) ≤ i ∧ i < 2 ^ 62 ∧ -(2 ^ 62) ≤ j ∧ j < 2 ^ 62) ∧ RLcR g t te vs σ i (j - i).toNat H1 Q) : tLc (iRng2 tA) g t te vs σ H Q := k
/-- over a tuple -/
def RLcT (K : PySem.W.Frag) (g : TG) (t : TT) (te : TE) (vs : List Nat) (σ : L2.St) (x : V) (H : Hp) (Q : VK) : Prop := ∃ a, x = .ref a ∧ (∃ xs, SqT K H a xs) ∧ ∀ D, H D = none → ∃ W : Nat → Nat → Hp → Prop, (∃ m, W 0 m (upd H D (.lst []))) ∧ ∀ i m H, W i m H →
  ((Itt K a).stop i H ∧ Q (.ref D) H) ∨ ((Itt K a).go i H ∧ ∃ Nx : Hp → Prop, (∀ H', Nx H' → ∃ m', m' < m ∧ W (i + 1) m' H') ∧ ∀ x H', (Itt K a).yld i H x H' → g x (wipe σ vs) H' fun σ2 H2 => wipe σ2 vs = wipe σ vs ∧ t σ2 H2 fun b H3 =>
    if b = true then te σ2 H3 fun y H4 => ∃ acc, H4 D = some (.lst acc) ∧ acc.length < sizeLine ∧ Nx (upd H4 D (.lst (acc ++ [y]))) else Nx H3)
theorem s_lcT (k : tl σ H fun x H1 => RLcT K g t te vs σ x H1 Q) : tLc (iTup K tl) g t te vs σ H Q := k
theorem r_lcTG (kn : Kn M fs H) (hx : ∀ {M gs H}, Kn M (gs ++ fs) H → SqT K H p xs) (Pv : Nat → List V → List Fact → Prop) (h0 : Pv 0 [] [])
    (hs : ∀ i x D acc gs H', xs[i]? = some x → Pv i acc gs → Kn ((D, isL acc) :: M) (gs ++ fs) H' → g x (wipe σ vs) H' fun σ2 H2 => wipe σ2 vs = wipe σ vs ∧ t σ2 H2 fun b H3 => if b = true then te σ2 H3 fun y H4 => RLcE D (PvG M fs D Pv (i + 1)) y H4 else PvG M fs D Pv (i + 1) H3)
    (hd : ∀ D acc gs H', Pv xs.length acc gs → Kn ((D, isL acc) :: M) (gs ++ fs) H' → Q (.ref D) H') : RLcT K g t te vs σ (.ref p) H Q := by
  refine ⟨p, rfl, ⟨xs, hx (gs := []) kn⟩, fun D hD => lc_tup (xs := xs) (PvG M fs D Pv) ⟨[], [], h0, kn.newML hD⟩ (fun i H' _ ⟨acc, gs, _, k⟩ => hx k) (fun i x H' hi ⟨acc, gs, q, k⟩ => hs i x D acc gs H' hi q k) fun H' ⟨acc, gs, q, k⟩ => hd D acc gs H' q k⟩
/-! ### loops by an invariant -/
theorem r_forLP (kn : Kn M fs H) (h : SqL K H p xs) (Pv : Nat → L2.St → Hp → Prop) (h0 : Pv 0 σ H) (hl : ∀ i σ' H', i ≤ xs.length → Pv i σ' H' → SqL K H' p xs)
    (hs : ∀ i x σ' H', xs[i]? = some x → Pv i σ' H' → g x σ' H' fun σ2 H2 => tb (Ends.mk (Pv (i + 1)) rt nx (Pv (i + 1))) σ2 H2) (hd : ∀ σ' H', Pv xs.length σ' H' → nx σ' H') : RForL K g tb nx rt bk ct σ (.ref p) H :=
  ⟨p, rfl, ⟨xs, h⟩, for_list (D := Ends.mk nx rt bk ct) (xs := xs) Pv h0 hl hs hd⟩
def RForR (g : TG) (tb : TS) (nx : L2.St → Hp → Prop) (rt : VK) (σ : L2.St) (lo : Int) (n : Nat) (H : Hp) : Prop := RFor (Itr lo n) g tb nx rt nx nx σ H
theorem s_forR1 (k : tA σ H fun ws H1 => ∃ j : Int, ws = [.int j] ∧ -(2 ^ 62) ≤ j ∧ j < 2 ^ 62 ∧ RForR g tb nx rt σ 0 j.toNat H1) : tFor (iRng1 tA) g tb (Ends.mk nx rt bk ct) σ H := k
theorem s_forR2 (k : tA σ H fun ws H1 => ∃ i j : Int, ws = [.int i, .int j] ∧ (-(2 ^ 62) ≤ i ∧ i < 2 ^ 62 ∧ -(2 ^ 62) ≤ j ∧ j < 2 ^ 62) ∧ RForR g tb nx rt σ i (j - i).toNat H1) : tFor (iRng2 tA) g tb (Ends.mk nx rt bk ct) σ H := k
theorem r_forR {lo : Int} {n : Nat} (Pv : Nat → L2.St → Hp → Prop) (h0 : Pv 0 σ H)
    (hs : ∀ i σ' H', i < n → Pv i σ' H' → g (.int (lo + i)) σ' H' fun σ2 H2 => tb (Ends.mk (Pv (i + 1)) rt nx (Pv (i + 1))) σ2 H2) (hd : ∀ σ' H', Pv n σ' H' → nx σ' H') : RForR g tb nx rt σ lo n H :=
  for_range (D := Ends.mk nx rt nx nx) Pv h0 hs hd
/-! ### zip of two tuples of two -/
def RZip (K : PySem.W.Frag) (g : TG) (tb : TS) (nx : L2.St → Hp → Prop) (rt : VK) (σ : L2.St) (ws : List V) (H : Hp) : Prop := ∃ a b xs ys, ws = [.ref a, .ref b] ∧ ((SqL K H a xs ∧ SqL K H b ys ∧ RFor (Itz K a b) g tb nx rt nx nx σ H) ∨ (SqT K H a xs ∧ SqT K H b ys ∧ RFor (RZ.ItzT K a b) g tb nx rt nx nx σ H))
theorem s_zip (k : tA σ H fun ws H1 => RZip K g tb nx rt σ ws H1) : tFor (RZ.iZipA K tA) g tb (Ends.mk nx rt bk ct) σ H := k
def FZ (S : Hp → Prop) (g : TG) (tb : TS) (nx : L2.St → Hp → Prop) (rt : VK) : List (V × V) → L2.St → Hp → Prop
  | [], σ, H => nx σ H
  | w :: r, σ, H => ∀ T, H T = none → g (.ref T) σ (upd H T (.tup [w.1, w.2])) fun σ2 H2 => tb (Ends.mk (fun σ3 H3 => S H3 ∧ FZ S g tb nx rt r σ3 H3) rt nx (fun σ3 H3 => S H3 ∧ FZ S g tb nx rt r σ3 H3)) σ2 H2
theorem fz_nil {S : Hp → Prop} (k : nx σ H) : FZ S g tb nx rt [] σ H := k
theorem fz_cons {S : Hp → Prop} {y : V} {r : List (V × V)} (kn : Kn M fs H) (k : ∀ T, Kn M (fO T (.tup [x, y]) :: fs) (upd H T (.tup [x, y])) → g (.ref T) σ (upd H T (.tup [x, y])) fun σ2 H2 => tb (Ends.mk (fun σ3 H3 => S H3 ∧ FZ S g tb nx rt r σ3 H3) rt nx (fun σ3 H3 => S H3 ∧ FZ S g tb nx rt r σ3 H3)) σ2 H2) : FZ S g tb nx rt ((x, y) :: r) σ H := fun T hT => k T (kn.newT hT)
theorem r_zipT (kn : Kn M fs H) (h1 : fO p (.tup xs) ∈ fs) (h2 : fO q (.tup ys) ∈ fs) (hl : xs.length = ys.length) (k : FZ (fun H' => SqT K H' p xs ∧ SqT K H' q ys) g tb nx rt (xs.zip ys) σ H) : RZip K g tb nx rt σ [.ref p, .ref q] H := by
  refine ⟨p, q, xs, ys, rfl, .inr ⟨kn.sqt h1, kn.sqt h2, RZ.for_zipT (D := Ends.mk nx rt nx nx) hl (fun i σ H => (SqT K H p xs ∧ SqT K H q ys) ∧ FZ (fun H' => SqT K H' p xs ∧ SqT K H' q ys) g tb nx rt ((xs.zip ys).drop i) σ H) ⟨⟨kn.sqt h1, kn.sqt h2⟩, k⟩ (fun i σ H q => q.1) (fun i x y T σ H hx hy q hT => ?_) (fun σ H q => ?_)⟩⟩
  · have q2 := q.2
    have hz : (xs.zip ys)[i]? = some (x, y) := by
      rw [List.getElem?_zip_eq_some]
      exact ⟨hx, hy⟩
    rw [drop_get hz] at q2
    exact q2 T hT
  · have q2 := q.2
    have e : (xs.zip ys).length ≤ xs.length := by rw [List.length_zip]; omega
    rw [List.drop_eq_nil_of_le e] at q2
    exact q2
/-! ### items, sums of lists, growing lists -/
theorem s_ixA (kn : Kn M fs H) (h : fO p (.lst xs) ∈ fs) (h0 : 0 ≤ i) (h1 : i < (xs.length : Int)) (k : ∀ v, v ∈ xs → Q v H) : rIxL K (.ref p) (.int i) H Q := by
  obtain ⟨z, e2, hz⟩ := atI_in h0 h1
  exact ⟨p, xs, i, _, rfl, rfl, kn.sql h, e2, k z hz⟩
theorem s_cat (kn : Kn M fs H) (h1 : fO p (.lst xs) ∈ fs) (h2 : fO q (.lst ys) ∈ fs) (hl : xs.length + ys.length ≤ sizeLine) (k : ∀ o, Kn M (fO o (.lst (xs ++ ys)) :: fs) (upd H o (.lst (xs ++ ys))) → Q (.ref o) (upd H o (.lst (xs ++ ys)))) : rCat (.ref p) (.ref q) H Q :=
  ⟨p, q, xs, ys, rfl, rfl, kn.obj h1, kn.obj h2, hl, fun o ho => k o (kn.newL ho)⟩
theorem s_min {ns : List Int} (kn : Kn M fs H) (h : SqL K H p (ns.map V.int)) (h0 : 0 < ns.length) (k : ∀ m, m ∈ ns → (∀ y, y ∈ ns → m ≤ y) → Q (.int m) H) : rMin K [.ref p] H Q := ⟨p, ns, rfl, h, h0, k⟩
theorem s_max {ns : List Int} (kn : Kn M fs H) (h : SqL K H p (ns.map V.int)) (h0 : 0 < ns.length) (k : ∀ m, m ∈ ns → (∀ y, y ∈ ns → y ≤ m) → Q (.int m) H) : rMax K [.ref p] H Q := ⟨p, ns, rfl, h, h0, k⟩
theorem s_any {bs : List Bool} (kn : Kn M fs H) (h : fO p (.lst (bs.map V.bl)) ∈ fs) (k : Q (.bl (bs.any id)) H) : rAny K [.ref p] H Q := ⟨p, bs, rfl, kn.sql h, k⟩
def RBM (K : PySem.W.Frag) (T : String) (r : V → List V → Hp → VK → Prop) (tA : TA) (σ : L2.St) (x : V) (H : Hp) (Q : VK) : Prop := tyV K T x H ∧ tA σ H fun xs H2 => r x xs H2 Q
theorem s_bm {T : String} {r : V → List V → Hp → VK → Prop} {to : TE} (k : to σ H fun x H1 => RBM K T r tA σ x H1 Q) : tBM K T r to tA σ H Q := k
theorem r_bmL {r : V → List V → Hp → VK → Prop} (kn : Kn ((p, isL xs) :: M) fs H) (k : tA σ H fun ws H2 => r (.ref p) ws H2 Q) : RBM K "list" r tA σ (.ref p) H Q := ⟨Or.inl ⟨rfl, _, SqL.of kn.lst⟩, k⟩
theorem s_app (kn : Kn ((p, isL xs) :: M) fs H) (hl : xs.length < sizeLine) (k : Kn ((p, isL (xs ++ [x])) :: M) fs (upd H p (.lst (xs ++ [x]))) → Q .non (upd H p (.lst (xs ++ [x])))) : rAppend (.ref p) [x] H Q := ⟨p, xs, x, rfl, rfl, kn.lst, hl, k (kn.set rfl)⟩
theorem s_ext (kn : Kn ((p, isL xs) :: M) fs H) (h : fO q (.lst ys) ∈ fs) (hl : xs.length + ys.length ≤ sizeLine) (k : Kn ((p, isL (xs ++ ys)) :: M) fs (upd H p (.lst (xs ++ ys))) → Q .non (upd H p (.lst (xs ++ ys)))) : rExtend (.ref p) [.ref q] H Q := ⟨p, q, xs, ys, rfl, rfl, kn.lst, kn.obj h, hl, k (kn.set rfl)⟩
/-- a sum of a growing list and another, that grows on -/
theorem s_catC (kn : Kn ((p, isL xs) :: M) fs H) (h2 : fO q (.lst ys) ∈ fs) (hl : xs.length + ys.length ≤ sizeLine) (k : ∀ o, Kn ((o, isL (xs ++ ys)) :: M) fs (upd H o (.lst (xs ++ ys))) → Q (.ref o) (upd H o (.lst (xs ++ ys)))) : rCat (.ref p) (.ref q) H Q :=
  ⟨p, q, xs, ys, rfl, rfl, kn.lst, kn.obj h2, hl, fun o ho => k o (kn.drop.newML ho)⟩
theorem Kn.lref {ls ks : List Addr} (kn : Kn ((p, isL (ls.map V.ref ++ ks.map V.ref)) :: M) fs H) : Kn ((p, isL ((ls ++ ks).map V.ref)) :: M) fs H := by
  rw [List.map_append]
  exact kn
theorem Kn.box {P : List Fact → Prop} (kn : Kn M fs H) (h : P fs) : ∃ FS, P FS ∧ Kn M FS H := ⟨fs, h, kn⟩
theorem x_sum {X : Cx} {K : PySem.W.Frag} (hk : X.K = K) (hc : X.calm = true) : CallR X (.builtin "sum") (rSum K) := by
  subst hk
  exact cr_sum hc
theorem x_any {X : Cx} {K : PySem.W.Frag} (hk : X.K = K) (hc : X.calm = true) : CallR X (.builtin "any") (rAny K) := by
  subst hk
  exact cr_any hc
theorem x_all {X : Cx} {K : PySem.W.Frag} (hk : X.K = K) (hc : X.calm = true) : CallR X (.builtin "all") (rAll K) := by
  subst hk
  exact cr_all hc
theorem x_min {X : Cx} {K : PySem.W.Frag} (hk : X.K = K) (hc : X.calm = true) : CallR X (.builtin "min") (rMin K) := by
  subst hk
  exact cr_min hc
theorem x_max {X : Cx} {K : PySem.W.Frag} (hk : X.K = K) (hc : X.calm = true) : CallR X (.builtin "max") (rMax K) := by
  subst hk
  exact cr_max hc
theorem small_le {n m : Nat} (h : n ≤ m) (hm : m ≤ 100000) : n ≤ sizeLine := Nat.le_trans (Nat.le_trans h hm) (by decide)
theorem small_lt {n m : Nat} (h : n ≤ m) (hm : m ≤ 100000) : n < sizeLine := Nat.lt_of_le_of_lt (Nat.le_trans h hm) (by decide)
end
end Gx

namespace Gx
open PySem PySem.Spec PyProof.Rows L2
/-! ### methods, own ==, !=, len -/
section
variable {X : Cx} {K : PySem.W.Frag} {d : He.DefD} {k j n : Nat} {ps : List Str} {sp : Sp} {C : Addr} {m : Str} {o : Expr} {ta : TE} {apos pos : Pos} {pl : Sem Bool}
/-- o.m(e, ..), all parameters written -/
theorem pm {e : Expr} {es : List Expr} {t : TA} (D : DOk X.prog X.w X.K X.mg X.base d CX0 k ps sp) (c : Cls X.K C) (hm : Meth X.K C m (He.fAd X.K d.at_)) (hb : BdN d ps) (hr : Room j X.A) (hj : k ≤ j) (he : PE X o ta) (ha : PA X (e :: es) t)
    (hst : starEach (e :: es) X.env = (false, eval e X.env) :: starEach es X.env := by rfl) (hpl : (backTo pos (starEach es X.env)).any (·.1) = false := by rfl)
    (ht : eval (.Call (.Attribute o m apos) (e :: es) [] pos) X.env = (do
      let ov ← eval o X.env
      standAt apos.atName
      let (f, first) ← holding [ov] (getMethod ov m pl)
      callWith pos f first (backTo pos (starEach (e :: es) X.env)) (backToKw pos (keywordEach [] X.env))) := by rfl) :
    PE X (.Call (.Attribute o m apos) (e :: es) [] pos) (tMeth C m sp [] E0 ta t) := by
  obtain ⟨fd, F, G⟩ := D.ex
  exact pe_meth he c hm G (hr.mono hj) (FunD.bdN F hb) .nil pass0 ha hst hpl ht
/-- o.m() -/
theorem pm0 (D : DOk X.prog X.w X.K X.mg X.base d CX0 k ps sp) (c : Cls X.K C) (hm : Meth X.K C m (He.fAd X.K d.at_)) (hb : BdN d ps) (hr : Room j X.A) (hj : k ≤ j) (he : PE X o ta)
    (ht : eval (.Call (.Attribute o m apos) [] [] pos) X.env = (do
      let ov ← eval o X.env
      standAt apos.atName
      let (f, first) ← holding [ov] (getMethod ov m pl)
      callWith pos f first (backTo pos (starEach [] X.env)) (backToKw pos (keywordEach [] X.env))) := by rfl) :
    PE X (.Call (.Attribute o m apos) [] [] pos) (tMeth C m sp [] E0 ta tNil) := by
  obtain ⟨fd, F, G⟩ := D.ex
  exact pe_meth0 he c hm G (hr.mono hj) (FunD.bdN F hb) .nil pass0 ht
theorem run_fnA {CX : CXT} {f : Addr} {fd : FuncData} {dvs : List V} {ds : List Value} {E : XK} {A : Around} {pins : List (Addr × Obj)} {σ : L2.St} {H : Hp} {s : Shared} {Q : VK} {us : List Value} {vs : List V} (F : FnOk X.prog X.w X.K X.mg X.base CX k f fd ps sp) (hr : Room k A) (hf : A.frames = X.A.frames) (hb : Binds X.K fd ps ds) (hd : Vals dvs ds) (hx : Passes CX X E)
    (I : Inv X pins σ H s) (r : Vals vs us) (h : sp (vs ++ dvs) H Q E) : wpAny (model X.prog X.w) A (call (.ref f) us) (EP X pins σ Q) X.xe s := by
  have r2 : Vals (vs ++ dvs) (us ++ ds) := r.append hd
  have hl : (us ++ ds).length = ps.length := by rw [← r2.length]; exact F.len _ _ _ _ h
  have e0 : Env0 X.prog X.w X.K X.mg X.base A X.stack s H := by
    have e := I.env0
    exact ⟨by rw [hf]; exact e.frames, e.mod, e.bs, e.bsz, e.funs, e.frf, e.hok, e.bare⟩
  refine wpAny_call (codeAny_mono (F.run A X.stack s H ⟨us, []⟩ (us ++ ds) (vs ++ dvs) Q E hr e0 (hb s us I.kIn hl) r2 h) fun r s' hq => ?_)
  cases r with
  | error e => exact hx pins σ H s e s' I hq
  | ok fl =>
    cases fl with
    | ret u => exact I.after hq
    | next => exact False.elim hq
    | brk => exact False.elim hq
    | cont => exact False.elim hq
/-- an instance of C -/
def InsAt (C : Addr) (H : Hp) (x : V) : Prop := ∃ a dx fl, x = .ref a ∧ H a = some (.ins C dx fl)
/-- x == y by the own __eq__ of C, y of C too -/
def rOEq (C : Addr) (sp : Sp) : R2 := fun x y H Q => InsAt C H x ∧ InsAt C H y ∧ sp [x, y] H (fun v H' => ∃ b, v = .bl b ∧ Q (.bl b) H') E0
theorem op_oeq (D : DOk X.prog X.w X.K X.mg X.base d CX0 k ps sp) (hm : Meth X.K C "__eq__" (He.fAd X.K d.at_)) (hb : BdN d ps) (hr : Room j X.A) (hj : k ≤ j) : OpR X (compareOp .Eq) (rOEq C sp) := by
  obtain ⟨fd, F, G⟩ := D.ex
  intro pins s σ H x y v u Q I rx ry hq
  obtain ⟨⟨a, dx, fl, rfl, ha⟩, ⟨b, dy, gl, rfl, hb'⟩, h⟩ := hq
  cases rx
  cases ry
  show wpAny (model X.prog X.w) X.A (richCompare .Eq (.ref a) (.ref b)) (EP X pins σ Q) X.xe s
  obtain ⟨mA, J, _⟩ := ins_get I.hok ha
  obtain ⟨mB, J', _⟩ := ins_get I.hok hb'
  obtain ⟨od, J, _⟩ := J.look
  obtain ⟨od', J', _⟩ := J'.look
  obtain ⟨m, hF⟩ := I.fr
  have hr := hr.mono hj
  refine PySem.W.cmp_K (op := .Eq) (tb := .ref C) hr.units0 hF I.ok.mod.kin J J'.type (by simp [PySem.W.notFirst]) hm.at_ hm.fn ?_
  refine wpAny_mono (run_fnA (us := [.ref a, .ref b]) (vs := [.ref a, .ref b]) (dvs := []) (ds := []) G hr rfl (FunD.bdN F hb) .nil pass0 I (.cons rfl (.cons rfl .nil)) h) (fun r s' z => ?_) fun _ _ x => x
  obtain ⟨w, H', I', rw_, bb, rfl, q⟩ := z
  cases rw_
  exact ⟨.bl bb, H', I', rfl, q⟩
theorem ifBound_objNe {M : Model} {A : Around} {E : Value → Shared → Prop} {s : Shared} {x : Addr} {ox : Obj} {od : Option Obj} {args : List Value} {Q : Option Value → Shared → Prop} (X : K.In s.heap) (I : PySem.W.InstAt s.heap x ox C od) (hs : PySem.W.findIn K (.ref C) "__ne__" = some (some (.builtin "object.__ne__")))
    (h : wpAny M A (call (.builtin "object.__ne__") (.ref x :: args)) (fun v => Q (some v)) E s) : wpAny M A (callSpecialIfBound? (.ref x) "__ne__" args) Q E s := by
  simp only [callSpecialIfBound?, bindSpecialIfBound?]
  refine wpAny_holding (wpAny_bind (wpAny_bind (wpAny_bind (I.type.here ((PySem.W.looks_findIn X hs).here ?_)))))
  refine wpAny_bind (wpAny_askSetting (wpAny_ite ?_))
  have fin : wpAny M A (call (.builtin "object.__ne__") ([.ref x] ++ args) >>= fun v => pure (some v)) Q E s := wpAny_bind (wpAny_mono h (fun v s' h' => wpAny_pure h') fun _ _ h' => h')
  split
  · exact wpAny_bind (wpAny_of_eq (F.cmp_object.ne.bind _) (wpAny_pure (by exact fin)))
  · exact wpAny_tryCatch (wpAny_bind (wpAny_of_eq (F.cmp_object.ne.bind _) (wpAny_pure (by exact fin))))
theorem objNe_entry {prog : Program} {w : World} {A : Around} {E : Value → Shared → Prop} {s : Shared} {x f : Addr} {b : Value} {ox : Obj} {od : Option Obj} {Q : Fin → Shared → Prop} (X : K.In s.heap) (I : PySem.W.InstAt s.heap x ox C od) (hu : A.units < cLine)
    (hs : PySem.W.findIn K (.ref C) "__eq__" = some (some (.ref f))) (hf : PySem.W.isFn K (.ref f) = true)
    (hcall : wpAny (model prog w) A (call (.ref f) [.ref x, b]) (fun v s' => ∃ b, v = .bool b ∧ Q (.done (.ret (.bool (!b)))) s') E s) :
    wpAny (model prog w) A (Builtin.«object.__ne__» ⟨[.ref x, b], []⟩) Q E s := by
  unfold Builtin.«object.__ne__»
  repeat (first
    | with_reducible refine wpAny_cRoomFor hu ?_
    | (refine wpAny_bind (m := callSpecialIfBound? (.ref x) (Str.ofString "__eq__") [b])
        (PySem.W.ifBound_K X I hs hf (wpAny_mono hcall (fun r s' hr => by
          obtain ⟨b, rfl, hq⟩ := hr
          repeat (first | exact hq | exact wpAny_pure hq | exact wpAny_truthy_bool hq | (refine wpAny_bind (m := truthy (.bool _)) (wpAny_truthy_bool ?_)) | wp_step)) fun _ _ e => e)))
    | wp_step)
theorem ne_own {prog : Program} {w : World} {A : Around} {E : Value → Shared → Prop} {s : Shared} {x f : Addr} {b tb : Value} {ox : Obj} {od : Option Obj} {Q : Value → Shared → Prop} (hu : A.units + 1 < cLine) (X : K.In s.heap) (I : PySem.W.InstAt s.heap x ox C od) (hb : PySem.W.Looks (model prog w) s.heap (typeOf b) tb) (hn : PySem.W.notFirst K C tb = true)
    (hm : PySem.W.mroIn K C (.type "object") = some true) (hne : PySem.W.findIn K (.ref C) "__ne__" = some (some (.builtin "object.__ne__"))) (hs : PySem.W.findIn K (.ref C) "__eq__" = some (some (.ref f))) (hf : PySem.W.isFn K (.ref f) = true)
    (hcall : wpAny (model prog w) A.in1 (call (.ref f) [.ref x, b]) (fun v s' => ∃ b, v = .bool b ∧ Q (.bool (!b)) s') E s) : wpAny (model prog w) A (richCompare .NotEq (.ref x) b) Q E s := by
  have one : wpAny (model prog w) A (tryCompare (.ref x) "__ne__" b) (fun r s' => ∃ v, r = some v ∧ Q v s') E s := by
    unfold tryCompare
    refine wpAny_bind (ifBound_objNe X I hne (wpAny_call (codeAny_call_builtin F.cmp_object.ne.plain F.cmpEntry_ne (PySem.W.check_slot F.cmpKind_ne F.cmpSplit_ne (I.type.andThen (PySem.W.looks_mroIn X hm)) (F.cmpArgs_ne _ _) (objNe_entry (A := A.in1) X I hu hs hf (wpAny_mono hcall (fun v s' hv => ?_) fun _ _ e => e))))))
    obtain ⟨bb, rfl, hq⟩ := hv
    first | exact ⟨bb, rfl, wpAny_pure ⟨_, rfl, hq⟩⟩ | exact ⟨bb, rfl, ⟨_, rfl, hq⟩⟩ | exact ⟨bb, rfl, wpAny_pure (wpAny_pure ⟨_, rfl, hq⟩)⟩
  unfold richCompare
  simp only [oneThing_ref, PySem.cmpInfo_NotEq]
  refine wpAny_holding (wpAny_bind (wpAny_cRoomFor (Nat.lt_of_succ_lt hu) ?_))
  refine wpAny_bind (I.type.here (wpAny_bind (hb.here ?_)))
  split
  · rename_i q
    have e : PySem.W.subIn K tb (.ref C) = some false := by
      rcases Bool.or_eq_true_iff.mp hn with e | e
      · rw [beq_iff_eq.mp e] at q; simp at q
      · exact beq_iff_eq.mp e
    refine wpAny_bind ((PySem.W.looks_subIn X e).here ?_)
    simp only [Bool.false_eq_true, if_false]
    refine wpAny_bind (wpAny_mono one (fun r s' z => ?_) fun _ _ e => e)
    obtain ⟨v, rfl, hq⟩ := z
    exact wpAny_pure hq
  · refine wpAny_bind (wpAny_pure ?_)
    simp only [Bool.false_eq_true, if_false]
    refine wpAny_bind (wpAny_mono one (fun r s' z => ?_) fun _ _ e => e)
    obtain ⟨v, rfl, hq⟩ := z
    exact wpAny_pure hq
/-- x != y by the own __eq__ of C, y of C too -/
def rONe (C : Addr) (sp : Sp) : R2 := fun x y H Q => InsAt C H x ∧ InsAt C H y ∧ sp [x, y] H (fun v H' => ∃ b, v = .bl b ∧ Q (.bl (!b)) H') E0
theorem op_one (D : DOk X.prog X.w X.K X.mg X.base d CX0 k ps sp) (hm : Meth X.K C "__eq__" (He.fAd X.K d.at_)) (hmo : PySem.W.mroIn X.K C (.type "object") = some true) (hne : PySem.W.findIn X.K (.ref C) "__ne__" = some (some (.builtin "object.__ne__"))) (hb : BdN d ps) (hr : Room j X.A) (hj : k + 1 ≤ j) : OpR X (compareOp .NotEq) (rONe C sp) := by
  obtain ⟨fd, F, G⟩ := D.ex
  intro pins s σ H x y v u Q I rx ry hq
  obtain ⟨⟨a, dx, fl, rfl, ha⟩, ⟨b, dy, gl, rfl, hb'⟩, h⟩ := hq
  cases rx
  cases ry
  show wpAny (model X.prog X.w) X.A (richCompare .NotEq (.ref a) (.ref b)) (EP X pins σ Q) X.xe s
  obtain ⟨mA, J, _⟩ := ins_get I.hok ha
  obtain ⟨mB, J', _⟩ := ins_get I.hok hb'
  obtain ⟨od, J, _⟩ := J.look
  obtain ⟨od', J', _⟩ := J'.look
  have hr := hr.mono hj
  refine ne_own (by have := hr.units; omega) I.kIn J J'.type (by simp [PySem.W.notFirst]) hmo hne hm.at_ hm.fn ?_
  refine wpAny_mono (run_fnA (us := [.ref a, .ref b]) (vs := [.ref a, .ref b]) (dvs := []) (ds := []) G hr.in1 rfl (FunD.bdN F hb) .nil pass0 I (.cons rfl (.cons rfl .nil)) h) (fun r s' z => ?_) fun _ _ x => x
  obtain ⟨w, H', I', rw_, bb, rfl, q⟩ := z
  cases rw_
  exact ⟨bb, rfl, .bl (!bb), H', I', rfl, q⟩
/-- len(x) by the own __len__ -/
def rOLen (C : Addr) (sp : Sp) (xs : List V) (H : Hp) (Q : VK) : Prop := ∃ x, xs = [x] ∧ InsAt C H x ∧ sp [x] H (fun v H' => ∃ n : Int, v = .int n ∧ (0 ≤ n ∧ n < 2 ^ 63) ∧ Q (.int n) H') E0
theorem call_olen (D : DOk X.prog X.w X.K X.mg X.base d CX0 k ps sp) (hm : Meth X.K C "__len__" (He.fAd X.K d.at_)) (hb : BdN d ps) (hr : Room j X.A) (hj : k + 1 ≤ j) : CallR X (.builtin "len") (rOLen C sp) := by
  obtain ⟨fd, F, G⟩ := D.ex
  intro pins s σ H xs us Q I r h
  obtain ⟨x, rfl, ⟨a, dx, fl, rfl, ha⟩, h⟩ := h
  obtain ⟨u, rfl, rx⟩ := vals1 r
  cases rx
  obtain ⟨mA, J, _⟩ := ins_get I.hok ha
  obtain ⟨od, J, _⟩ := J.look
  obtain ⟨m, hF⟩ := I.fr
  have hr := hr.mono hj
  refine PySem.W.len_K hF I.ok.mod.kin J hm.at_ hm.fn ?_
  refine wpAny_mono (run_fnA (us := [.ref a]) (vs := [.ref a]) (dvs := []) (ds := []) G hr.in1 rfl (FunD.bdN F hb) .nil pass0 I (.cons rfl .nil) h) (fun r s' z => ?_) fun _ _ x => x
  obtain ⟨w, H', I', rw_, n, rfl, hn, q⟩ := z
  obtain ⟨t, rfl⟩ := rw_
  exact ⟨hn, .int n, H', I'.tok _, ⟨_, rfl⟩, q⟩
/-- o.m(k = v, ..), o.m(e, .., k = v, ..) -/
def tMethN (C : Addr) (m : Str) (n mk : Nat) (sp : Sp) (gV : List V → List V → List V) (E : XK) (ta : TE) (t tk : TA) : TE := fun σ H Q => ta σ H fun x H1 => ∃ a dx fs, x = .ref a ∧ H1 a = some (.ins C dx fs) ∧ fs.lookup m = none ∧ t σ H1 fun vs H2 => tk σ H2 fun zs H3 => vs.length + 1 = n ∧ zs.length = mk ∧ sp (gV (.ref a :: vs) zs) H3 Q E
theorem pmK0 {kws : List Keyword} {tk : TA} {ks : List Str} {gV : List V → List V → List V} (D : DOk X.prog X.w X.K X.mg X.base d CX0 k ps sp) (c : Cls X.K C) (hm : Meth X.K C m (He.fAd X.K d.at_)) (hb : BdK X.K d ps 1 ks gV) (hr : Room j X.A) (hj : k ≤ j) (he : PE X o ta) (hkw : PK X kws tk)
    (hall : (backToKw pos (keywordEach kws X.env)).all (·.1.isSome) = true := by rfl) (hks : (backToKw pos (keywordEach kws X.env)).filterMap (·.1) = ks := by rfl)
    (hpl : ((backTo pos (starEach [] X.env)).any (·.1) || (backToKw pos (keywordEach kws X.env)).any (·.1.isNone)) = false := by rfl)
    (ht : eval (.Call (.Attribute o m apos) [] kws pos) X.env = (do
      let ov ← eval o X.env
      standAt apos.atName
      let (f, first) ← holding [ov] (getMethod ov m pl)
      callWith pos f first (backTo pos (starEach [] X.env)) (backToKw pos (keywordEach kws X.env))) := by rfl) :
    PE X (.Call (.Attribute o m apos) [] kws pos) (tMethN C m 1 ks.length sp gV E0 ta tNil tk) := by
  obtain ⟨fd, F, G⟩ := D.ex
  obtain ⟨g, hbd⟩ := hb fd F
  refine ⟨fun pins s σ H Q I h => ?_⟩
  refine PySem.W.methodCall_KW (pl := pl) (thn (he.run pins s σ H _ I h) fun u s1 ⟨x, H1, I1, rx, a, dx, fs, ex, ea, l, q⟩ => ?_) ht
  subst ex
  obtain rfl : u = Value.ref a := rx
  refine getmeth_ok I1 ea c hm l ?_
  refine PySem.W.callWith_KW0 (first := [.ref a]) (h₀ := X.base) I.ok.mod.kin hm.kp hall ?_ hpl
  refine thn (hkw.run pos pins s1 σ H1 _ I1 q) fun ws s2 ⟨zs, H2, I2, rz, l1, l2, q2⟩ => ⟨I2.kIn, ?_⟩
  rw [hks]
  exact run_fnN (us := [.ref a]) (vs := [.ref a]) G (hr.mono hj) hbd pass0 I2 (.cons rfl .nil) rz rfl l2 q2
theorem pmK {e : Expr} {es : List Expr} {t : TA} {kws : List Keyword} {tk : TA} {ks : List Str} {gV : List V → List V → List V} (D : DOk X.prog X.w X.K X.mg X.base d CX0 k ps sp) (c : Cls X.K C) (hm : Meth X.K C m (He.fAd X.K d.at_)) (hb : BdK X.K d ps n ks gV) (hr : Room j X.A) (hj : k ≤ j) (he : PE X o ta) (ha : PA X (e :: es) t) (hkw : PK X kws tk)
    (hall : (backToKw pos (keywordEach kws X.env)).all (·.1.isSome) = true := by rfl) (hks : (backToKw pos (keywordEach kws X.env)).filterMap (·.1) = ks := by rfl)
    (hst : starEach (e :: es) X.env = (false, eval e X.env) :: starEach es X.env := by rfl)
    (hpl : ((backTo pos (starEach (e :: es) X.env)).any (·.1) || (backToKw pos (keywordEach kws X.env)).any (·.1.isNone)) = false := by rfl)
    (ht : eval (.Call (.Attribute o m apos) (e :: es) kws pos) X.env = (do
      let ov ← eval o X.env
      standAt apos.atName
      let (f, first) ← holding [ov] (getMethod ov m pl)
      callWith pos f first (backTo pos (starEach (e :: es) X.env)) (backToKw pos (keywordEach kws X.env))) := by rfl) :
    PE X (.Call (.Attribute o m apos) (e :: es) kws pos) (tMethN C m n ks.length sp gV E0 ta t tk) := by
  obtain ⟨fd, F, G⟩ := D.ex
  obtain ⟨g, hbd⟩ := hb fd F
  refine ⟨fun pins s σ H Q I h => ?_⟩
  refine PySem.W.methodCall_KW (pl := pl) (thn (he.run pins s σ H _ I h) fun u s1 ⟨x, H1, I1, rx, a, dx, fs, ex, ea, l, q⟩ => ?_) ht
  subst ex
  obtain rfl : u = Value.ref a := rx
  refine getmeth_ok I1 ea c hm l ?_
  refine PySem.W.callWith_KW (first := [.ref a]) (h₀ := X.base) I.ok.mod.kin hm.kp hall (thn (ha.run pos pins s1 σ H1 _ I1 q) fun us s2 ⟨vs, H2, I2, r, q⟩ => ?_) hpl hst
  refine thn (hkw.run pos pins s2 σ H2 _ I2 q) fun ws s3 ⟨zs, H3, I3, rz, l1, l2, q2⟩ => ⟨I3.kIn, ?_⟩
  rw [hks]
  exact run_fnN (us := .ref a :: us) (vs := .ref a :: vs) G (hr.mono hj) hbd pass0 I3 (.cons rfl r) rz l1 l2 q2
/-- o.m(e, ..), the last parameters left out -/
theorem pmD {e : Expr} {es : List Expr} {t : TA} {dv : List V} (D : DOk X.prog X.w X.K X.mg X.base d CX0 k ps sp) (c : Cls X.K C) (hm : Meth X.K C m (He.fAd X.K d.at_)) (hb : BdD X.K d ps dv) (hr : Room j X.A) (hj : k ≤ j) (he : PE X o ta) (ha : PA X (e :: es) t)
    (hst : starEach (e :: es) X.env = (false, eval e X.env) :: starEach es X.env := by rfl) (hpl : (backTo pos (starEach es X.env)).any (·.1) = false := by rfl)
    (ht : eval (.Call (.Attribute o m apos) (e :: es) [] pos) X.env = (do
      let ov ← eval o X.env
      standAt apos.atName
      let (f, first) ← holding [ov] (getMethod ov m pl)
      callWith pos f first (backTo pos (starEach (e :: es) X.env)) (backToKw pos (keywordEach [] X.env))) := by rfl) :
    PE X (.Call (.Attribute o m apos) (e :: es) [] pos) (tMeth C m sp dv E0 ta t) := by
  obtain ⟨fd, F, G⟩ := D.ex
  obtain ⟨ds, hv, hbd⟩ := hb fd F
  exact pe_meth he c hm G (hr.mono hj) hbd hv pass0 ha hst hpl ht
/-! ### readings of these, by what is known -/
def RMeth (C : Addr) (m : Str) (sp : Sp) (dvs : List V) (E : XK) (t : TA) (σ : L2.St) (x : V) (H : Hp) (Q : VK) : Prop := ∃ a dx fs, x = .ref a ∧ H a = some (.ins C dx fs) ∧ fs.lookup m = none ∧ t σ H fun vs H2 => sp (x :: (vs ++ dvs)) H2 Q E
theorem s_meth {dvs : List V} {E : XK} {t : TA} {σ : L2.St} {H : Hp} {Q : VK} (k : ta σ H fun x H1 => RMeth C m sp dvs E t σ x H1 Q) : tMeth C m sp dvs E ta t σ H Q := k
def RMethN (C : Addr) (m : Str) (n mk : Nat) (sp : Sp) (gV : List V → List V → List V) (E : XK) (t tk : TA) (σ : L2.St) (x : V) (H : Hp) (Q : VK) : Prop := ∃ a dx fs, x = .ref a ∧ H a = some (.ins C dx fs) ∧ fs.lookup m = none ∧ t σ H fun vs H2 => tk σ H2 fun zs H3 => vs.length + 1 = n ∧ zs.length = mk ∧ sp (gV (.ref a :: vs) zs) H3 Q E
theorem s_methN {mk : Nat} {gV : List V → List V → List V} {E : XK} {t tk : TA} {σ : L2.St} {H : Hp} {Q : VK} (k : ta σ H fun x H1 => RMethN C m n mk sp gV E t tk σ x H1 Q) : tMethN C m n mk sp gV E ta t tk σ H Q := k
section
variable {M : List Cell} {fs : List Fact} {H : Hp} {σ : L2.St} {Q : VK} {a b : Addr} {s u l s' u' l' : Int} {fl gl : List (Str × V)} {E : XK} {t tk : TA} {dvs : List V} {mk : Nat} {gV : List V → List V → List V}
theorem Kn.insS (kn : Kn M fs H) (h : fS C a s u l ∈ fs) : InsAt C H (.ref a) := by
  obtain ⟨dx, ho⟩ := kn.get h
  exact ⟨a, dx, _, rfl, ho⟩
theorem Kn.insN (kn : Kn M fs H) (h : fN C a fl ∈ fs) : InsAt C H (.ref a) := by
  obtain ⟨dx, ho⟩ := kn.get h
  exact ⟨a, dx, _, rfl, ho⟩
theorem r_methS (kn : Kn M fs H) (h : fS C a s u l ∈ fs) (e : (spanF s u l).lookup m = none) (k : t σ H fun vs H2 => sp (.ref a :: (vs ++ dvs)) H2 Q E) : RMeth C m sp dvs E t σ (.ref a) H Q := by
  obtain ⟨dx, ho⟩ := kn.get h
  exact ⟨a, dx, _, rfl, ho, e, k⟩
theorem r_methN (kn : Kn M fs H) (h : fN C a fl ∈ fs) (e : fl.lookup m = none) (k : t σ H fun vs H2 => sp (.ref a :: (vs ++ dvs)) H2 Q E) : RMeth C m sp dvs E t σ (.ref a) H Q := by
  obtain ⟨dx, ho⟩ := kn.get h
  exact ⟨a, dx, _, rfl, ho, e, k⟩
theorem r_methNS (kn : Kn M fs H) (h : fS C a s u l ∈ fs) (e : (spanF s u l).lookup m = none) (k : t σ H fun vs H2 => tk σ H2 fun zs H3 => vs.length + 1 = n ∧ zs.length = mk ∧ sp (gV (.ref a :: vs) zs) H3 Q E) : RMethN C m n mk sp gV E t tk σ (.ref a) H Q := by
  obtain ⟨dx, ho⟩ := kn.get h
  exact ⟨a, dx, _, rfl, ho, e, k⟩
theorem r_oeqS (kn : Kn M fs H) (h1 : fS C a s u l ∈ fs) (h2 : fS C b s' u' l' ∈ fs) (k : sp [.ref a, .ref b] H (fun v H' => ∃ b, v = .bl b ∧ Q (.bl b) H') E0) : rOEq C sp (.ref a) (.ref b) H Q := ⟨kn.insS h1, kn.insS h2, k⟩
theorem r_oneS (kn : Kn M fs H) (h1 : fS C a s u l ∈ fs) (h2 : fS C b s' u' l' ∈ fs) (k : sp [.ref a, .ref b] H (fun v H' => ∃ b, v = .bl b ∧ Q (.bl (!b)) H') E0) : rONe C sp (.ref a) (.ref b) H Q := ⟨kn.insS h1, kn.insS h2, k⟩
theorem r_olenS (kn : Kn M fs H) (h1 : fS C a s u l ∈ fs) (k : sp [.ref a] H (fun v H' => ∃ n : Int, v = .int n ∧ (0 ≤ n ∧ n < 2 ^ 63) ∧ Q (.int n) H') E0) : rOLen C sp [.ref a] H Q := ⟨_, rfl, kn.insS h1, k⟩
end
/-- len of a range -/
theorem call_len_rng : CallR X (.builtin "len") (fun vs H Q => ∃ a i j, vs = [V.ref a] ∧ H a = some (.rng i j) ∧ i ≤ j ∧ j - i < 2 ^ 63 ∧ Q (.int (j - i)) H) := by
  intro pins s σ H vs us Q I r h
  obtain ⟨a, i, j, rfl, ha, h0, h1, q⟩ := h
  obtain ⟨u, rfl, rx⟩ := vals1 r
  cases rx
  obtain ⟨t1, t2, t3, ho⟩ := I.hok a _ ha
  have hn : Builtin.Range.rangeSize i j 1 = (j - i).toNat := by
    unfold Builtin.Range.rangeSize
    simp
    omega
  have e : ((j - i).toNat : Int) = j - i := Int.toNat_of_nonneg (by omega)
  refine call_len_range ho hn (by omega) ?_
  rw [e]
  exact ⟨.int (j - i), H, (I.tok _).tok _, ⟨_, rfl⟩, q⟩
theorem s_rng {H : Hp} {Q : VK} {i j : Int} {M : List Cell} {fs : List Fact} (kn : Kn M fs H) (k : ∀ p, Kn M (fO p (.rng i j) :: fs) (upd H p (.rng i j)) → Q (.ref p) (upd H p (.rng i j))) : ∃ i' j' : Int, [V.int i, V.int j] = [V.int i', V.int j'] ∧ ∀ p, H p = none → Q (.ref p) (upd H p (.rng i' j')) :=
  ⟨i, j, rfl, fun p hp => k p (kn.new hp mn_O fun _ e => e)⟩
theorem s_lenR {H : Hp} {Q : VK} {p : Addr} {i j : Int} {M : List Cell} {fs : List Fact} (kn : Kn M fs H) (h : fO p (.rng i j) ∈ fs) (h0 : i ≤ j) (h1 : j - i < 2 ^ 63) (k : Q (.int (j - i)) H) : ∃ a i' j', [V.ref p] = [V.ref a] ∧ H a = some (.rng i' j') ∧ i' ≤ j' ∧ j' - i' < 2 ^ 63 ∧ Q (.int (j' - i')) H :=
  ⟨p, i, j, rfl, kn.obj h, h0, h1, k⟩
theorem r_rng {H : Hp} {Q : VK} {i j : Int} {M : List Cell} {fs : List Fact} (kn : Kn M fs H) (k : ∀ p, Kn M (fO p (.rng i j) :: fs) (upd H p (.rng i j)) → Q (.ref p) (upd H p (.rng i j))) : ∀ p, H p = none → Q (.ref p) (upd H p (.rng i j)) :=
  fun p hp => k p (kn.new hp mn_O fun _ e => e)
theorem r_newT {H : Hp} {Q : VK} {xs : List V} {M : List Cell} {fs : List Fact} (kn : Kn M fs H) (k : ∀ p, Kn M (fO p (.tup xs) :: fs) (upd H p (.tup xs)) → Q (.ref p) (upd H p (.tup xs))) : ∀ p, H p = none → Q (.ref p) (upd H p (.tup xs)) :=
  fun p hp => k p (kn.newT hp)
theorem r_new {H : Hp} {F : Addr → Prop} (o : HO) {M : List Cell} {fs : List Fact} (kn : Kn M fs H) (k : ∀ p, Kn M (fO p o :: fs) (upd H p o) → F p) : ∀ p, H p = none → F p :=
  fun p hp => k p (kn.new hp mn_O fun _ e => e)
/-- tuple(x) -/
def rTupOf (K : PySem.W.Frag) (xs : List V) (H : Hp) (Q : VK) : Prop := ∃ p ys, xs = [.ref p] ∧ ((SqL K H p ys ∧ ∀ l, H l = none → Q (.ref l) (upd H l (.tup ys))) ∨ (SqT K H p ys ∧ Q (.ref p) H))
theorem x_tup {X : Cx} {K : PySem.W.Frag} (hk : X.K = K) : CallR X (.type "tuple") (rTupOf K) := by
  subst hk
  exact call_tuple_of
theorem s_tupL {K : PySem.W.Frag} {H : Hp} {Q : VK} {p : Addr} {xs : List V} {M : List Cell} {fs : List Fact} (kn : Kn M fs H) (h : fO p (.lst xs) ∈ fs) (k : ∀ o, Kn M (fO o (.tup xs) :: fs) (upd H o (.tup xs)) → Q (.ref o) (upd H o (.tup xs))) : rTupOf K [.ref p] H Q :=
  ⟨p, xs, rfl, .inl ⟨kn.sql h, fun o ho => k o (kn.newT ho)⟩⟩
theorem s_tupT {K : PySem.W.Frag} {H : Hp} {Q : VK} {p : Addr} {xs : List V} {M : List Cell} {fs : List Fact} (kn : Kn M fs H) (h : fO p (.tup xs) ∈ fs) (k : Q (.ref p) H) : rTupOf K [.ref p] H Q :=
  ⟨p, xs, rfl, .inr ⟨kn.sqt h, k⟩⟩
theorem any_rep (n : Nat) : (List.replicate n false).any id = false := by
  induction n with
  | zero => rfl
  | succ n ih => rw [List.replicate_succ, List.any_cons, ih]; rfl
theorem s_slT {K : PySem.W.Frag} {H : Hp} {Q : VK} {p : Addr} {xs : List V} {lo hi : Option Int} {ys : List V} {M : List Cell} {fs : List Fact} (kn : Kn M fs H) (h : fO p (.tup xs) ∈ fs) (hw : ¬ (HT.sIx xs.length 0 lo = 0 ∧ HT.sIx xs.length xs.length hi = xs.length)) (e : cutV xs lo hi = ys) (k : ∀ q, Kn M (fO q (.tup ys) :: fs) (upd H q (.tup ys)) → Q (.ref q) (upd H q (.tup ys))) : rSlT K (.ref p) lo hi H Q := by
  subst e
  exact ⟨p, xs, rfl, kn.sqt h, hw, fun q hq => k q (kn.newT hq)⟩
theorem x_isi {X : Cx} {K : PySem.W.Frag} (hk : X.K = K) : CallR X (.builtin "isinstance") (rIsi K) := by
  subst hk
  exact call_isi
end
end Gx

namespace Gx
open PySem PySem.Spec PyProof.Rows L2
/-! ### set and sorted of a list of whole numbers -/
/-- a set as it is made -/
abbrev nS (w : World) : Obj := { cls := .type "set", dict := none, data := .set #[] 0 (.fresh 0 0 (!w.params.followText "set-order")) }
section
variable {P : Program} {w : World} {A : Around} {E : Value → Shared → Prop} {s : Shared} {l : Addr} {items : Array Value} {ns : List Int}
theorem ints_at (hit : IntsAre items.toList ns) (i : Nat) (v : Value) (hv : items[i]? = some v) : ∃ k t, ns[i]? = some k ∧ v = .int k t := by
  have q := IntsAre.length hit
  rw [Array.length_toList] at q
  have hi : i < ns.length := by rw [← q]; exact (Array.getElem?_eq_some_iff.mp hv).1
  obtain ⟨t, e⟩ := PyProof.Rows.IntsAre.int_at hit i v (by rw [Array.getElem?_toList]; exact hv)
  exact ⟨ns[i], t, List.getElem?_eq_getElem hi, by rw [e, List.getD_eq_getElem?_getD, List.getElem?_eq_getElem hi] <;> rfl⟩
/-- what set.__init__ does with a list -/
theorem init_listI {R : Result → Shared → Prop} (hh : A.handled = none) (hl : s.heap.IsList l items) (hit : IntsAre items.toList ns) (hb : ns.length + 1 < scanBound)
    (hR : ∀ h' tk c, SetR w h' s.heap.objs.size (fun j => decide (j ∈ ns)) c → c ≤ ns.length → (∀ b o, s.heap.get? b = some o → h'.get? b = some o) → R (.ok (.ret .none)) { s with heap := h', toks := tk }) :
    wpAny (model P w) A.in1 (Builtin.«set.__init__» ⟨[.ref s.heap.objs.size, .ref l], []⟩) (fun fin s' => match fin with | .done f => R (.ok f) s' | .again c' => c'.quiet = true ∧ codeAny (model P w) A c' R s') (fun e s' => R (.error e) s') { s with heap := s.heap.push (nS w) } := by
  have hisz : items.size = ns.length := by
    have q := IntsAre.length hit
    rw [Array.length_toList] at q
    exact q
  obtain ⟨⟨ocls, odict, odata, oslots⟩, hol, hcl, nl, hdl⟩ := hl
  simp only at hcl hdl
  subst hcl; subst hdl
  have hS : (s.heap.push (nS w)).get? s.heap.objs.size = some (nS w) := Heap.get?_push_size _ rfl
  have hl1 : (s.heap.push (nS w)).IsList l items := ⟨_, Heap.get?_push_of_some _ hol, rfl, nl, rfl⟩
  have hol' := Heap.get?_push_of_some (nS w) hol
  have hsls := F.sub_list_set
  have hslf := F.sub_list_frozenset
  have hne : (Value.type "list" == Value.type "dict") = false := by decide
  unfold Builtin.«set.__init__» noKeywords Builtin.Frozenset.updateFrom
  generalize hPI : pyIter = PI
  wp_walk
  subst hPI
  refine wpAny_pyIter_list hl1 ?_
  refine wpAny_bind (wpAny_runValue ?_)
  have hlS : l < s.heap.objs.size := Heap.lt_size hol
  have hz : (s.heap.push (nS w)).objs.size = s.heap.objs.size + 1 := Heap.size_push ..
  have hneI : l ≠ (s.heap.push (nS w)).objs.size := by rw [hz]; exact Nat.ne_of_lt (Nat.lt_succ_of_lt hlS)
  have hSf : s.heap.objs.size ∉ [(s.heap.push (nS w)).objs.size, l] := by
    rw [hz]
    simp only [List.mem_cons, List.not_mem_nil, or_false, not_or]
    exact ⟨Nat.ne_of_lt (Nat.lt_succ_self _), Nat.ne_of_gt hlS⟩
  refine set_update_ints ((Walks.list (by simp [hh]) _ l hneI items).toS) s.heap.objs.size hSf ns hisz hb (ints_at hit) (items.size - 0) 0 _ (by omega) (Nat.zero_le _) ⟨⟨_, Heap.get?_push_size _ rfl, rfl, rfl⟩, (hl1.push _)⟩ ⟨0, Nat.le_refl 0, setR_new_at (Heap.get?_push_of_some _ hS)⟩ fun s' c' hm hc' hS' => ?_
  obtain ⟨h', g2, d', tk', os'⟩ := s'
  have eg : g2 = s.gens := hm.gens
  have ed : d' = s.drawn := hm.drawn
  have eo : os' = s.os := hm.os
  subst eg; subst ed; subst eo
  refine wpAny_pure (wpAny_pure (hR h' tk' c' hS' (by rw [← hisz]; exact hc') fun b o e => ?_))
  have hb0 : b < s.heap.objs.size := Heap.lt_size e
  refine hm.heap b o ?_ (Heap.get?_push_of_some _ (Heap.get?_push_of_some _ e))
  rw [hz]
  simp only [List.mem_cons, List.not_mem_nil, or_false, not_or]
  exact ⟨Nat.ne_of_lt hb0, Nat.ne_of_lt (Nat.lt_succ_of_lt hb0)⟩
theorem call_set_lstI {Q : Value → Shared → Prop} (hh : A.handled = none) (hl : s.heap.IsList l items) (hit : IntsAre items.toList ns) (hb : ns.length + 1 < scanBound)
    (h : ∀ (h' : Heap) (tk c : Nat), SetR w h' s.heap.objs.size (fun j => decide (j ∈ ns)) c → c ≤ ns.length → (∀ b o, s.heap.get? b = some o → h'.get? b = some o) → Q (.ref s.heap.objs.size) { s with heap := h', toks := tk }) :
    wpAny (model P w) A (call (.type "set") [.ref l]) Q E s := by
  obtain ⟨c, tl, hmro⟩ := F.called_set.mro
  have hmade := F.called_set.made
  have hsub := F.called_set.sub
  refine wpAny_call (codeAny_of_tree (wpAny_pure ⟨Code.quiet_builtin _ (by decide +kernel), codeAny_builtin F.entry_type_call ?_⟩))
  rw [Around.under_plain (weight_type_call_type "set" [.ref l] []) rfl]
  have h1 := F.called_set.notType
  have h2 := F.called_set.canCreate
  have hct := F.typeCall_set_1 (.ref l)
  repeat (any_goals (first | assumption | wp_step))
  refine codeAny_mono (code_set_led1 (.ref l) (E := E) (Q₁ := fun obj s₁ => obj = .ref s.heap.objs.size ∧ s₁ = { s with heap := s.heap.push (nS w) }) ⟨rfl, rfl⟩) fun r s₁ hr => ?_
  cases r with
  | error e => exact hr
  | ok fl =>
    cases fl with
    | ret obj =>
      obtain ⟨rfl, rfl⟩ := hr
      have hT : Shared.TypeIs { s with heap := s.heap.push (nS w) } (.ref s.heap.objs.size) "set" := ⟨_, Heap.get?_push_size _ rfl, rfl⟩
      have hli := F.called_set.init.lookup
      have hbi := F.called_set.init.bind (.ref s.heap.objs.size)
      repeat (any_goals (first | assumption | wp_step))
      refine codeAny_mono (codeAny_call_builtin (R := wants (fun r s₂ => r = .none ∧ ∃ h' tk c, s₂ = { s with heap := h', toks := tk } ∧ SetR w h' s.heap.objs.size (fun j => decide (j ∈ ns)) c ∧ c ≤ ns.length ∧ (∀ b o, s.heap.get? b = some o → h'.get? b = some o)) E) F.called_set.init.plain F.entry_set_init
        (check_set_init_1 hT ?ini)) fun r₂ s₂ hr₂ => ?_
      case ini =>
        refine init_listI ?hh hl hit hb fun h' tk c r1 r2 r3 => ?k
        case hh => simp [hh]
        case k => exact ⟨rfl, h', tk, c, rfl, r1, r2, r3⟩
      cases r₂ with
      | error e => exact hr₂
      | ok fl =>
        cases fl with
        | ret v =>
          obtain ⟨rfl, h', tk, c, rfl, r1, r2, r3⟩ := hr₂
          refine wpAny_pure ?_
          show wpAny _ _ (ret (Value.ref s.heap.objs.size)) _ _ _
          exact wpAny_pure (h h' tk c r1 r2 r3)
        | next => exact False.elim hr₂
        | brk => exact False.elim hr₂
        | cont => exact False.elim hr₂
    | next => exact False.elim hr
    | brk => exact False.elim hr
    | cont => exact False.elim hr
end
section
variable {X : Cx} {K : PySem.W.Frag} {w : World}
theorem nodup_len {l : List Int} : ∀ {L : List Int}, l.Nodup → (∀ x, x ∈ l → x ∈ L) → l.length ≤ L.length := by
  induction l with
  | nil => intro L _ _; exact Nat.zero_le _
  | cons a l ih =>
    intro L nd h
    obtain ⟨n1, n2⟩ := List.nodup_cons.mp nd
    have ha := h a List.mem_cons_self
    have e := ih (L := L.erase a) n2 fun x hx => (List.mem_erase_of_ne (fun (q : x = a) => n1 (by rw [← q]; exact hx))).mpr (h x (List.mem_cons_of_mem _ hx))
    rw [List.length_erase_of_mem ha] at e
    have := List.length_pos_of_mem ha
    rw [List.length_cons]
    omega
theorem setR_len {h : Heap} {a : Addr} {S : Int → Bool} {n : Nat} (R : SetR w h a S n) {L : List Int} (hL : ∀ k, S k = true → k ∈ L) : n ≤ L.length := by
  obtain ⟨o, es, ep, t, ho, hex, hd, g, nd, hm, hb, hf, hn, hr, hl⟩ := R
  have e := nodup_len nd fun x hx => hL x ((hm x).mpr hx)
  rw [List.length_map, Array.length_toList, hn] at e
  exact e
/-- set(xs), xs a list of whole numbers -/
def rSetI (K : PySem.W.Frag) (w : World) : List V → Hp → VK → Prop := fun xs H Q => ∃ (l : Addr) (ns : List Int), xs = [.ref l] ∧ SqL K H l (ns.map V.int) ∧ ns.length < 4000 ∧ ∀ a c, H a = none → (∀ L : List Int, (∀ k, k ∈ ns → k ∈ L) → c ≤ L.length) → Q (.ref a) (upd H a (SetO w a (fun j => decide (j ∈ ns)) c))
theorem x_setI (hk : X.K = K) (hw : X.w = w) (hc : X.calm = true) : CallR X (.type "set") (rSetI K w) := by
  subst hk
  subst hw
  intro pins s σ H xs us Q I r h
  obtain ⟨l, ns, rfl, hl, hn, q⟩ := h
  rw [Vals.ref1 r]
  obtain ⟨its, rv, pl, hz⟩ := I.list hl
  have hi : IntsAre its.toArray.toList ns := ints_of_vals rv
  refine call_set_lstI (P := X.prog) (w := X.w) (I.ok.hd hc) pl.isList hi (by unfold scanBound; omega) fun h' tk c R hcn k => ?_
  exact ⟨.ref s.heap.objs.size, upd H s.heap.objs.size (SetO X.w s.heap.objs.size (fun j => decide (j ∈ ns)) c), I.laid (t' := tk) k (Nat.le_refl _) (setO_new R), rfl, q _ c (I.hok.fresh (Nat.le_refl _)) fun L hL => setR_len R fun k hk => hL k (of_decide_eq_true hk)⟩
theorem x_sortedSet (hw : X.w = w) (hc : X.calm = true) : CallR X (.builtin "sorted") (rSortedSet w) := by
  subst hw
  exact cr_sortedSet hc
section
variable {H : Hp} {Q : VK} {p q : Addr} {ns ms : List Int} {S : Int → Bool} {n : Nat} {M : List Cell} {fs : List Fact}
theorem s_setI (kn : Kn M fs H) (h : fO p (.lst (ns.map V.int)) ∈ fs) (hl : ns.length < 4000) (k : ∀ o c, (∀ L : List Int, (∀ k, k ∈ ns → k ∈ L) → c ≤ L.length) → Kn M (fO o (SetO w o (fun j => decide (j ∈ ns)) c) :: fs) (upd H o (SetO w o (fun j => decide (j ∈ ns)) c)) → Q (.ref o) (upd H o (SetO w o (fun j => decide (j ∈ ns)) c))) : rSetI K w [.ref p] H Q :=
  ⟨p, ns, rfl, kn.sql h, hl, fun a c ha hc => k a c hc (kn.new ha mn_O fun _ e => e)⟩
theorem s_sortedSet (kn : Kn M fs H) (h : fO p (SetO w p S n) ∈ fs) (h64 : n < 64) (k : ∀ (zs : List Int) (o : Addr), zs.Pairwise (· < ·) → (∀ k : Int, k ∈ zs ↔ S k = true) → zs.length = n → Kn M (fO o (.lst (zs.map V.int)) :: fs) (upd H o (.lst (zs.map V.int))) → Q (.ref o) (upd H o (.lst (zs.map V.int)))) : rSortedSet w [.ref p] H Q :=
  ⟨p, S, n, rfl, kn.obj h, h64, fun zs o h1 h2 h3 ho => k zs o h1 h2 h3 (kn.newL ho)⟩
/-- two rising lists of the same members are one -/
theorem rise_eq : ∀ {xs ys : List Int}, xs.Pairwise (· < ·) → ys.Pairwise (· < ·) → (∀ k, k ∈ xs ↔ k ∈ ys) → xs = ys
  | [], [], _, _, _ => rfl
  | [], y :: ys, _, _, h => nomatch (h y).mpr List.mem_cons_self
  | x :: xs, [], _, _, h => nomatch (h x).mp List.mem_cons_self
  | x :: xs, y :: ys, h1, h2, h => by
    obtain ⟨a1, b1⟩ := List.pairwise_cons.mp h1
    obtain ⟨a2, b2⟩ := List.pairwise_cons.mp h2
    have e : x = y := by
      rcases List.mem_cons.mp ((h x).mp List.mem_cons_self) with e | e
      · exact e
      · rcases List.mem_cons.mp ((h y).mpr List.mem_cons_self) with e' | e'
        · exact e'.symm
        · have := a1 y e'
          have := a2 x e
          omega
    subst e
    rw [rise_eq b1 b2 fun k => ?_]
    constructor
    · intro hk
      rcases List.mem_cons.mp ((h k).mp (List.mem_cons_of_mem _ hk)) with e | e
      · have := a1 k hk
        omega
      · exact e
    · intro hk
      rcases List.mem_cons.mp ((h k).mpr (List.mem_cons_of_mem _ hk)) with e | e
      · have := a2 k hk
        omega
      · exact e
end
end
end Gx

/-! Own layer Q1: values without addresses (PV), a store of things that change, and how both stand in a heap. -/
namespace Gx
open PySem PySem.Spec PyProof.Rows L2
/-- a caught exception, as it lies in the heap -/
def XO (a : Addr) (oe : Obj) : HO := .ext fun h => h.get? a = some oe
end Gx
namespace Qx
open PySem PySem.Spec PyProof.Rows L2 Gx
inductive PV where
  | non | bl (b : Bool) | int (i : Int) | str (z : Str) | ty (n : String) | cls (C : Str)
  | tup (ps : List PV) | lst (ps : List PV) | rol (ps : List PV) | ins (C : Str) (ns : List Str) (ps : List PV)
  | rng (a b : Int) | loc (n : Nat) | dic (ks vs : List PV) | sti (xs : List Int) | xc (C : Str) (ns : List Str) (ps : List PV)
def keyP : PV → Option Key
  | .int i => some (.inl i)
  | .str z => some (.inr z)
  | _ => none
/-- the fields of an exception, in its own dict -/
def XD (G : Hp) (d : Option Addr) (ns : List Str) (xs : List V) : Prop := (d = none ∧ ns = []) ∨ ∃ dd, d = some dd ∧ G dd = some (.xd (ns.zip xs))
theorem XD.mono {G G' : Hp} {d : Option Addr} {ns : List Str} {xs : List V} (e : Same G G') (h : XD G d ns xs) : XD G' d ns xs := h.elim .inl fun ⟨dd, h1, h2⟩ => .inr ⟨dd, h1, e _ _ h2⟩
abbrev Sto := List (Option PV)
abbrev Slots := List (Option PV)
def Pre (ι ι' : List Addr) : Prop := ∀ (n : Nat) (a : Addr), ι[n]? = some a → ι'[n]? = some a
theorem Pre.refl {ι : List Addr} : Pre ι ι := fun _ _ h => h
theorem Pre.trans {ι ι' ι'' : List Addr} (a : Pre ι ι') (b : Pre ι' ι'') : Pre ι ι'' := fun n x h => b n x (a n x h)
theorem Pre.app {ι t : List Addr} : Pre ι (ι ++ t) := fun n a h => by
  rw [List.getElem?_append_left (List.getElem?_eq_some_iff.mp h).1]; exact h
theorem same_refl {H : Hp} : Same H H := fun _ _ h => h
theorem same_trans {H H' H'' : Hp} (a : Same H H') (b : Same H' H'') : Same H H'' := fun x o h => b x o (a x o h)
mutual
def Rep (K : PySem.W.Frag) (ι : List Addr) (G : Hp) : PV → V → Prop
  | .non, v => v = .non
  | .bl b, v => v = .bl b
  | .int i, v => v = .int i
  | .str z, v => v = .str z
  | .ty n, v => v = .ty n
  | .cls C, v => v = .ref (He.ga K C)
  | .tup ps, v => ∃ a xs, v = .ref a ∧ SqT K G a xs ∧ RepL K ι G ps xs
  | .lst ps, v => ∃ a xs, v = .ref a ∧ G a = some (.lst xs) ∧ RepL K ι G ps xs
  | .rol ps, v => ∃ a xs, v = .ref a ∧ SqL K G a xs ∧ RepL K ι G ps xs
  | .ins C ns ps, v => ∃ a dx xs, v = .ref a ∧ G a = some (.ins (He.ga K C) dx (ns.zip xs)) ∧ ns.length = ps.length ∧ RepL K ι G ps xs
  | .rng i j, v => ∃ a, v = .ref a ∧ G a = some (.rng i j)
  | .loc n, v => ∃ a, v = .ref a ∧ ι[n]? = some a
  | .dic ks vs, v => ∃ a kvs, v = .ref a ∧ G a = some (.dK kvs) ∧ ks.map keyP = kvs.map (fun w => some w.1) ∧ RepL K ι G vs (kvs.map (·.2))
  | .sti _, _ => False
  | .xc C ns ps, v => ∃ a oe xs, v = .ref a ∧ G a = some (Gx.XO a oe) ∧ oe.cls = .ref (He.ga K C) ∧ (∃ w, oe.data = .fields w) ∧ XD G oe.dict ns xs ∧ ns.length = ps.length ∧ RepL K ι G ps xs
def RepL (K : PySem.W.Frag) (ι : List Addr) (G : Hp) : List PV → List V → Prop
  | [], xs => xs = []
  | p :: ps, xs => ∃ x r, xs = x :: r ∧ Rep K ι G p x ∧ RepL K ι G ps r
end
section
variable {K : PySem.W.Frag} {ι ι' : List Addr} {G G' : Hp}
mutual
theorem Rep.mono (hp : Pre ι ι') (e : Same G G') : ∀ (p : PV) (v : V), Rep K ι G p v → Rep K ι' G' p v
  | .non, _, h => h
  | .bl _, _, h => h
  | .int _, _, h => h
  | .str _, _, h => h
  | .ty _, _, h => h
  | .cls _, _, h => h
  | .tup ps, _, ⟨a, xs, h1, h2, h3⟩ => ⟨a, xs, h1, sqt_same e h2, RepL.mono hp e ps xs h3⟩
  | .lst ps, _, ⟨a, xs, h1, h2, h3⟩ => ⟨a, xs, h1, e _ _ h2, RepL.mono hp e ps xs h3⟩
  | .rol ps, _, ⟨a, xs, h1, h2, h3⟩ => ⟨a, xs, h1, e.seq h2, RepL.mono hp e ps xs h3⟩
  | .ins _ _ ps, _, ⟨a, dx, xs, h1, h2, h3, h4⟩ => ⟨a, dx, xs, h1, e _ _ h2, h3, RepL.mono hp e ps xs h4⟩
  | .rng _ _, _, ⟨a, h1, h2⟩ => ⟨a, h1, e _ _ h2⟩
  | .loc _, _, ⟨a, h1, h2⟩ => ⟨a, h1, hp _ _ h2⟩
  | .dic _ vs, _, ⟨a, kvs, h1, h2, h3, h4⟩ => ⟨a, kvs, h1, e _ _ h2, h3, RepL.mono hp e vs _ h4⟩
  | .sti _, _, h => h
  | .xc _ _ ps, _, ⟨a, oe, xs, h1, h2, h3, h4, h5, h6, h7⟩ => ⟨a, oe, xs, h1, e _ _ h2, h3, h4, h5.mono e, h6, RepL.mono hp e ps xs h7⟩
theorem RepL.mono (hp : Pre ι ι') (e : Same G G') : ∀ (ps : List PV) (xs : List V), RepL K ι G ps xs → RepL K ι' G' ps xs
  | [], _, h => h
  | p :: ps, _, ⟨x, r, h1, h2, h3⟩ => ⟨x, r, h1, Rep.mono hp e p x h2, RepL.mono hp e ps r h3⟩
end
theorem RepL.len : ∀ {ps : List PV} {xs : List V}, RepL K ι G ps xs → xs.length = ps.length
  | [], _, h => by rw [show _ = [] from h]; rfl
  | _ :: ps, _, ⟨x, r, h1, _, h3⟩ => by rw [h1, List.length_cons, List.length_cons, RepL.len h3]
theorem RepL.get : ∀ {ps : List PV} {xs : List V} {i : Nat} {p : PV}, RepL K ι G ps xs → ps[i]? = some p → ∃ x, xs[i]? = some x ∧ Rep K ι G p x
  | [], _, _, _, _, e => by simp at e
  | q :: ps, _, 0, p, ⟨x, r, h1, h2, _⟩, e => by
    subst h1
    simp only [List.getElem?_cons_zero, Option.some.injEq] at e
    subst e
    exact ⟨x, rfl, h2⟩
  | q :: ps, _, i + 1, p, ⟨x, r, h1, _, h3⟩, e => by
    subst h1
    simp only [List.getElem?_cons_succ] at e ⊢
    exact RepL.get h3 e
theorem RepL.of : ∀ {ps : List PV} {xs : List V}, xs.length = ps.length → (∀ (i : Nat) p, ps[i]? = some p → ∃ x, xs[i]? = some x ∧ Rep K ι G p x) → RepL K ι G ps xs
  | [], xs, hl, _ => by
    have : xs = [] := List.length_eq_zero_iff.mp hl
    exact this
  | p :: ps, [], hl, _ => by simp at hl
  | p :: ps, x :: xs, hl, h => by
    obtain ⟨y, e, hy⟩ := h 0 p rfl
    simp only [List.getElem?_cons_zero, Option.some.injEq] at e
    subst e
    refine ⟨x, xs, rfl, hy, RepL.of (by simpa using hl) fun i q hq => ?_⟩
    obtain ⟨z, e, hz⟩ := h (i + 1) q (by simpa using hq)
    exact ⟨z, by simpa using e, hz⟩
theorem RepL.app {ps qs : List PV} {xs ys : List V} (h : RepL K ι G ps xs) (h' : RepL K ι G qs ys) : RepL K ι G (ps ++ qs) (xs ++ ys) := by
  induction ps generalizing xs with
  | nil =>
    have e : xs = [] := h
    subst e
    exact h'
  | cons p ps ih =>
    obtain ⟨x, r, e, h2, h3⟩ := h
    subst e
    exact ⟨x, r ++ ys, rfl, h2, ih h3⟩
theorem RepL.one {p : PV} {x : V} (h : Rep K ι G p x) : RepL K ι G [p] [x] := ⟨x, [], rfl, h, rfl⟩
theorem RepL.nilR : RepL K ι G [] [] := rfl
theorem RepL.consR {p : PV} {x : V} {ps : List PV} {xs : List V} (h : Rep K ι G p x) (t : RepL K ι G ps xs) : RepL K ι G (p :: ps) (x :: xs) := ⟨x, xs, rfl, h, t⟩
theorem RepL.drop {ps : List PV} {xs : List V} (n : Nat) (h : RepL K ι G ps xs) : RepL K ι G (ps.drop n) (xs.drop n) := by
  refine RepL.of (by rw [List.length_drop, List.length_drop, h.len]) fun i p e => ?_
  rw [List.getElem?_drop] at e ⊢
  exact h.get e
theorem RepL.take {ps : List PV} {xs : List V} (n : Nat) (h : RepL K ι G ps xs) : RepL K ι G (ps.take n) (xs.take n) := by
  refine RepL.of (by rw [List.length_take, List.length_take, h.len]) fun i p e => ?_
  rw [List.getElem?_take] at e ⊢
  by_cases c : i < n
  · rw [if_pos c] at e ⊢; exact h.get e
  · rw [if_neg c] at e; cases e
theorem RepL.set {ps : List PV} {xs : List V} {n : Nat} {p : PV} {x : V} (h : RepL K ι G ps xs) (hp : Rep K ι G p x) : RepL K ι G (ps.set n p) (xs.set n x) := by
  refine RepL.of (by rw [List.length_set, List.length_set, h.len]) fun i q e => ?_
  rw [List.getElem?_set] at e ⊢
  by_cases c : n = i
  · rw [if_pos c] at e ⊢
    rw [h.len]
    by_cases d : n < ps.length
    · rw [if_pos d] at e ⊢
      cases e
      exact ⟨x, rfl, hp⟩
    · rw [if_neg d] at e; cases e
  · rw [if_neg c] at e ⊢
    exact h.get e
theorem RepL.rev {ps : List PV} {xs : List V} (h : RepL K ι G ps xs) : RepL K ι G ps.reverse xs.reverse := by
  induction ps generalizing xs with
  | nil => rw [show xs = [] from h]; rfl
  | cons p ps ih =>
    obtain ⟨x, r, e, h2, h3⟩ := h
    subst e
    rw [List.reverse_cons, List.reverse_cons]
    exact (ih h3).app (.one h2)
theorem RepL.mapV {α : Type} {f : α → PV} {g : α → V} (hf : ∀ a, Rep K ι G (f a) (g a)) : ∀ as : List α, RepL K ι G (as.map f) (as.map g)
  | [] => rfl
  | a :: as => ⟨g a, as.map g, rfl, hf a, RepL.mapV hf as⟩
theorem RepL.split : ∀ {ps qs : List PV} {xs : List V}, RepL K ι G (ps ++ qs) xs → ∃ ys zs, xs = ys ++ zs ∧ RepL K ι G ps ys ∧ RepL K ι G qs zs
  | [], qs, xs, h => ⟨[], xs, rfl, rfl, h⟩
  | p :: ps, qs, xs, ⟨x, r, e, h2, h3⟩ => by
    obtain ⟨ys, zs, e2, h4, h5⟩ := RepL.split h3
    exact ⟨x :: ys, zs, by rw [e, e2]; rfl, ⟨x, ys, rfl, h2, h4⟩, h5⟩
end
/-- the content of a thing that changes -/
def RepO (K : PySem.W.Frag) (ι : List Addr) (G : Hp) : PV → HO → Prop
  | .lst ps, o => ∃ xs, o = .lst xs ∧ RepL K ι G ps xs
  | .ins C ns ps, o => ∃ dx xs, o = .ins (He.ga K C) dx (ns.zip xs) ∧ ns.length = ps.length ∧ RepL K ι G ps xs
  | .dic ks vs, o => ∃ kvs, o = .dK kvs ∧ ks.map keyP = kvs.map (fun w => some w.1) ∧ RepL K ι G vs (kvs.map (·.2))
  | _, _ => False
theorem RepO.mono {K : PySem.W.Frag} {ι ι' : List Addr} {G G' : Hp} (hp : Pre ι ι') (e : Same G G') {p : PV} {o : HO} (h : RepO K ι G p o) : RepO K ι' G' p o := by
  cases p with
  | lst ps => obtain ⟨xs, h1, h2⟩ := h; exact ⟨xs, h1, h2.mono hp e⟩
  | ins C ns ps => obtain ⟨dx, xs, h1, h2, h3⟩ := h; exact ⟨dx, xs, h1, h2, h3.mono hp e⟩
  | dic ks vs => obtain ⟨kvs, h1, h2, h3⟩ := h; exact ⟨kvs, h1, h2, h3.mono hp e⟩
  | _ => exact h.elim
/-- a content as it stands frozen -/
theorem RepO.rep {K : PySem.W.Frag} {ι : List Addr} {G : Hp} {p : PV} {o : HO} {a : Addr} (h : RepO K ι G p o) (e : G a = some o) : Rep K ι G p (.ref a) := by
  cases p with
  | lst ps => obtain ⟨xs, h1, h2⟩ := h; subst h1; exact ⟨a, xs, rfl, e, h2⟩
  | ins C ns ps => obtain ⟨dx, xs, h1, h2, h3⟩ := h; subst h1; exact ⟨a, dx, xs, rfl, e, h2, h3⟩
  | dic ks vs => obtain ⟨kvs, h1, h2, h3⟩ := h; subst h1; exact ⟨a, kvs, rfl, e, h2, h3⟩
  | _ => exact h.elim
/-! ### the live addresses of a store -/
def lv : List Addr → Sto → List Addr
  | a :: ι, some _ :: O => a :: lv ι O
  | _ :: ι, none :: O => lv ι O
  | _, _ => []
theorem lv_mem : ∀ {ι : List Addr} {O : Sto} {a : Addr}, a ∈ lv ι O → ∃ (n : Nat) (p : PV), ι[n]? = some a ∧ O[n]? = some (some p)
  | [], O, a, h => by simp [lv] at h
  | b :: ι, [], a, h => by simp [lv] at h
  | b :: ι, some p :: O, a, h => by
    simp only [lv, List.mem_cons] at h
    rcases h with rfl | h
    · exact ⟨0, p, rfl, rfl⟩
    · obtain ⟨n, q, h1, h2⟩ := lv_mem h
      exact ⟨n + 1, q, by simpa using h1, by simpa using h2⟩
  | b :: ι, none :: O, a, h => by
    simp only [lv] at h
    obtain ⟨n, q, h1, h2⟩ := lv_mem h
    exact ⟨n + 1, q, by simpa using h1, by simpa using h2⟩
theorem lv_in : ∀ {ι : List Addr} {O : Sto} {n : Nat} {a : Addr} {p : PV}, ι[n]? = some a → O[n]? = some (some p) → a ∈ lv ι O
  | [], _, _, _, _, h, _ => by simp at h
  | b :: ι, [], _, _, _, _, h => by simp at h
  | b :: ι, some q :: O, 0, a, p, h, _ => by
    simp only [List.getElem?_cons_zero, Option.some.injEq] at h
    subst h
    exact List.mem_cons_self
  | b :: ι, none :: O, 0, a, p, _, h => by simp at h
  | b :: ι, some q :: O, n + 1, a, p, h, h' => List.mem_cons_of_mem _ (lv_in (n := n) (p := p) (by simpa using h) (by simpa using h'))
  | b :: ι, none :: O, n + 1, a, p, h, h' => by
    simp only [lv]
    exact lv_in (n := n) (p := p) (by simpa using h) (by simpa using h')
theorem lv_app : ∀ {ι : List Addr} {O : Sto} {a : Addr} {p : PV}, ι.length = O.length → lv (ι ++ [a]) (O ++ [some p]) = lv ι O ++ [a]
  | [], [], _, _, _ => rfl
  | [], _ :: _, _, _, h => by simp at h
  | _ :: _, [], _, _, h => by simp at h
  | b :: ι, some q :: O, a, p, h => by
    simp only [List.cons_append, lv]
    rw [lv_app (by simpa using h)]
  | b :: ι, none :: O, a, p, h => by
    simp only [List.cons_append, lv]
    rw [lv_app (by simpa using h)]
theorem lv_out : ∀ {ι : List Addr} {O : Sto} {n : Nat} {a : Addr} {p : PV}, ι[n]? = some a → O[n]? = some (some p) → (lv ι O).Perm (a :: lv ι (O.set n none))
  | [], _, _, _, _, h, _ => by simp at h
  | b :: ι, [], _, _, _, _, h => by simp at h
  | b :: ι, some q :: O, 0, a, p, h, _ => by
    simp only [List.getElem?_cons_zero, Option.some.injEq] at h
    subst h
    simp only [List.set_cons_zero, lv]
    exact .refl _
  | b :: ι, none :: O, 0, a, p, _, h => by simp at h
  | b :: ι, some q :: O, n + 1, a, p, h, h' => by
    simp only [List.set_cons_succ, lv]
    exact ((lv_out (n := n) (p := p) (by simpa using h) (by simpa using h')).cons b).trans (.swap a b _)
  | b :: ι, none :: O, n + 1, a, p, h, h' => by
    simp only [List.set_cons_succ, lv]
    exact lv_out (n := n) (p := p) (by simpa using h) (by simpa using h')
theorem set_back {O : Sto} {n : Nat} {x : Option PV} (h : O[n]? = some x) : O.set n x = O := by
  apply List.ext_getElem?
  intro i
  rw [List.getElem?_set]
  split
  · rename_i e
    subst e
    rw [h, if_pos (List.getElem?_eq_some_iff.mp h).1]
  · rfl
theorem lv_put {ι : List Addr} {O : Sto} {n : Nat} {a : Addr} {p : PV} (h : ι[n]? = some a) (h' : O[n]? = some none) : (lv ι (O.set n (some p))).Perm (a :: lv ι O) := by
  have hl := (List.getElem?_eq_some_iff.mp h').1
  have e := lv_out (ι := ι) (O := O.set n (some p)) (n := n) (a := a) (p := p) h (by rw [List.getElem?_set_self hl])
  rw [List.set_set, set_back h'] at e
  exact e
/-! ### a store in a heap -/
def fz (R : List (Addr × HO)) (ι : List Addr) (O : Sto) (H : Hp) : Hp := ers (R.map (·.1) ++ lv ι O) H
structure Sim (K : PySem.W.Frag) (R : List (Addr × HO)) (ι : List Addr) (O : Sto) (H : Hp) : Prop where
  len : ι.length = O.length
  nd : (R.map (·.1) ++ lv ι O).Nodup
  hid : ∀ x ∈ R, H x.1 = some x.2
  thr : ∀ a ∈ ι, H a ≠ none
  obj : ∀ (n : Nat) a p, ι[n]? = some a → O[n]? = some (some p) → ∃ o, H a = some o ∧ RepO K ι (fz R ι O H) p o
structure Ext (R : List (Addr × HO)) (ι : List Addr) (O : Sto) (H : Hp) (ι' : List Addr) (O' : Sto) (H' : Hp) : Prop where
  pre : Pre ι ι'
  same : Same (fz R ι O H) (fz R ι' O' H')
section
variable {K : PySem.W.Frag} {R : List (Addr × HO)} {ι ι' ι'' : List Addr} {O O' O'' : Sto} {H H' H'' : Hp} {D a : Addr} {o o' : HO} {n : Nat} {p p' : PV}
theorem Ext.refl : Ext R ι O H ι O H := ⟨.refl, same_refl⟩
theorem Ext.trans (x : Ext R ι O H ι' O' H') (y : Ext R ι' O' H' ι'' O'' H'') : Ext R ι O H ι'' O'' H'' := ⟨x.pre.trans y.pre, same_trans x.same y.same⟩
theorem Ext.rep (x : Ext R ι O H ι' O' H') {v : V} (h : Rep K ι (fz R ι O H) p v) : Rep K ι' (fz R ι' O' H') p v := h.mono x.pre x.same
theorem Ext.repL (x : Ext R ι O H ι' O' H') {ps : List PV} {vs : List V} (h : RepL K ι (fz R ι O H) ps vs) : RepL K ι' (fz R ι' O' H') ps vs := h.mono x.pre x.same
theorem ers_eq {m m' : List Addr} (h : ∀ b, b ∈ m ↔ b ∈ m') : ers m H = ers m' H := by
  funext b
  unfold ers
  by_cases c : b ∈ m
  · rw [if_pos c, if_pos ((h b).mp c)]
  · rw [if_neg c, if_neg fun z => c ((h b).mpr z)]
theorem ers_upd {m : List Addr} (h : D ∈ m) : ers m (upd H D o) = ers m H := by
  funext b
  unfold ers
  by_cases c : b ∈ m
  · rw [if_pos c, if_pos c]
  · rw [if_neg c, if_neg c, upd_ne fun z => c (by rw [z]; exact h)]
theorem Sim.frozen (S : Sim K R ι O H) : Same (fz R ι O H) H := ers_sub _ _
theorem Sim.fresh (S : Sim K R ι O H) (h : H D = none) : D ∉ R.map (·.1) ++ lv ι O := fun z => by
  rcases List.mem_append.mp z with z | z
  · obtain ⟨x, hx, e⟩ := List.mem_map.mp z
    have := S.hid x hx
    rw [e, h] at this
    cases this
  · obtain ⟨n, q, h1, h2⟩ := lv_mem z
    obtain ⟨o, h3, _⟩ := S.obj n D q h1 h2
    rw [h] at h3
    cases h3
theorem Sim.hide_new (S : Sim K R ι O H) (h : H D = none) (o : HO) : Sim K ((D, o) :: R) ι O (upd H D o) ∧ fz ((D, o) :: R) ι O (upd H D o) = fz R ι O H := by
  have hf := S.fresh h
  have e : fz ((D, o) :: R) ι O (upd H D o) = fz R ι O H := by
    show ers (D :: (R.map (·.1) ++ lv ι O)) (upd H D o) = ers (R.map (·.1) ++ lv ι O) H
    rw [ers_upd List.mem_cons_self]
    funext b
    unfold ers
    by_cases c : b ∈ R.map (·.1) ++ lv ι O
    · rw [if_pos c, if_pos (List.mem_cons_of_mem _ c)]
    · rw [if_neg c]
      by_cases d : b = D
      · rw [d, if_pos List.mem_cons_self, h]
      · rw [if_neg fun z => (List.mem_cons.mp z).elim d c]
  have hs : Same H (upd H D o) := same_new h
  refine ⟨⟨S.len, List.nodup_cons.mpr ⟨hf, S.nd⟩, fun x hx => ?_, fun b hb z => ?_, fun n b q h1 h2 => ?_⟩, e⟩
  · rcases List.mem_cons.mp hx with rfl | hx
    · exact upd_same
    · exact hs _ _ (S.hid x hx)
  · cases q : H b with
    | none => exact S.thr b hb q
    | some u => rw [hs _ _ q] at z; cases z
  · obtain ⟨u, h3, h4⟩ := S.obj n b q h1 h2
    rw [e]
    exact ⟨u, hs _ _ h3, h4⟩
theorem Sim.hid_set (S : Sim K ((D, o) :: R) ι O H) (o' : HO) : Sim K ((D, o') :: R) ι O (upd H D o') ∧ fz ((D, o') :: R) ι O (upd H D o') = fz ((D, o) :: R) ι O H := by
  have nd := List.nodup_cons.mp (show (D :: (R.map (·.1) ++ lv ι O)).Nodup from S.nd)
  have e : fz ((D, o') :: R) ι O (upd H D o') = fz ((D, o) :: R) ι O H := by
    show ers (D :: (R.map (·.1) ++ lv ι O)) (upd H D o') = ers (D :: (R.map (·.1) ++ lv ι O)) H
    exact ers_upd List.mem_cons_self
  refine ⟨⟨S.len, S.nd, fun x hx => ?_, fun b hb z => ?_, fun n b q h1 h2 => ?_⟩, e⟩
  · rcases List.mem_cons.mp hx with rfl | hx
    · exact upd_same
    · rw [upd_ne fun z => nd.1 (List.mem_append_left _ (List.mem_map.mpr ⟨x, hx, z⟩))]
      exact S.hid x (List.mem_cons_of_mem _ hx)
  · by_cases c : b = D
    · rw [c, upd_same] at z; cases z
    · rw [upd_ne c] at z; exact S.thr b hb z
  · obtain ⟨u, h3, h4⟩ := S.obj n b q h1 h2
    rw [e]
    exact ⟨u, by rw [upd_ne fun z => nd.1 (List.mem_append_right _ (by rw [← z]; exact lv_in h1 h2))]; exact h3, h4⟩
theorem Sim.unhide (S : Sim K ((D, o) :: R) ι O H) : Sim K R ι O H ∧ Same (fz ((D, o) :: R) ι O H) (fz R ι O H) ∧ fz R ι O H D = some o := by
  have nd := List.nodup_cons.mp (show (D :: (R.map (·.1) ++ lv ι O)).Nodup from S.nd)
  have e : Same (fz ((D, o) :: R) ι O H) (fz R ι O H) := ers_less fun b hb => List.mem_cons_of_mem _ hb
  refine ⟨⟨S.len, nd.2, fun x hx => S.hid x (List.mem_cons_of_mem _ hx), S.thr, fun n b q h1 h2 => ?_⟩, e, ?_⟩
  · obtain ⟨u, h3, h4⟩ := S.obj n b q h1 h2
    exact ⟨u, h3, h4.mono .refl e⟩
  · show ers _ H D = _
    rw [ers_out nd.1]
    exact S.hid (D, o) List.mem_cons_self
theorem Sim.own (S : Sim K ((D, o) :: R) ι O H) (r : RepO K ι (fz ((D, o) :: R) ι O H) p o) : Sim K R (ι ++ [D]) (O ++ [some p]) H ∧ fz R (ι ++ [D]) (O ++ [some p]) H = fz ((D, o) :: R) ι O H := by
  have hm : ∀ b, b ∈ R.map (·.1) ++ lv (ι ++ [D]) (O ++ [some p]) ↔ b ∈ D :: (R.map (·.1) ++ lv ι O) := fun b => by
    rw [lv_app S.len]
    simp only [List.mem_append, List.mem_cons, List.not_mem_nil, or_false]
    constructor
    · rintro (h | h | h)
      · exact .inr (.inl h)
      · exact .inr (.inr h)
      · exact .inl h
    · rintro (h | h | h)
      · exact .inr (.inr h)
      · exact .inl h
      · exact .inr (.inl h)
  have e : fz R (ι ++ [D]) (O ++ [some p]) H = fz ((D, o) :: R) ι O H := ers_eq hm
  have hD := S.hid (D, o) List.mem_cons_self
  refine ⟨⟨by simp [S.len], ?_, fun x hx => S.hid x (List.mem_cons_of_mem _ hx), fun b hb z => ?_, fun n b q h1 h2 => ?_⟩, e⟩
  · rw [lv_app S.len, ← List.append_assoc]
    exact (List.perm_append_singleton D _).nodup_iff.mpr S.nd
  · rcases List.mem_append.mp hb with hb | hb
    · exact S.thr b hb z
    · rw [List.mem_singleton.mp hb] at z
      rw [show H D = some o from hD] at z
      cases z
  · rw [e]
    by_cases c : n < O.length
    · rw [List.getElem?_append_left (by rw [S.len]; exact c)] at h1
      rw [List.getElem?_append_left c] at h2
      obtain ⟨u, h3, h4⟩ := S.obj n b q h1 h2
      exact ⟨u, h3, h4.mono .app same_refl⟩
    · have hn := (List.getElem?_eq_some_iff.mp h2).1
      simp only [List.length_append, List.length_cons, List.length_nil] at hn
      have en : n = O.length := by omega
      rw [en, List.getElem?_append_right (Nat.le_refl _)] at h2
      rw [en, List.getElem?_append_right (by rw [S.len]; exact Nat.le_refl _)] at h1
      simp [S.len] at h1 h2
      subst h1
      subst h2
      exact ⟨o, hD, r.mono .app same_refl⟩
theorem Sim.out (S : Sim K R ι O H) (hn : ι[n]? = some a) (ho : O[n]? = some (some p)) : ∃ o, H a = some o ∧ Sim K ((a, o) :: R) ι (O.set n none) H ∧ fz ((a, o) :: R) ι (O.set n none) H = fz R ι O H ∧ RepO K ι (fz R ι O H) p o := by
  obtain ⟨o, h1, h2⟩ := S.obj n a p hn ho
  have pm := lv_out hn ho
  have hm : ∀ b, b ∈ a :: (R.map (·.1) ++ lv ι (O.set n none)) ↔ b ∈ R.map (·.1) ++ lv ι O := fun b => by
    have := pm.mem_iff (a := b)
    simp only [List.mem_append, List.mem_cons] at this ⊢
    rw [this]
    constructor
    · rintro (h | h | h)
      · exact .inr (.inl h)
      · exact .inl h
      · exact .inr (.inr h)
    · rintro (h | h | h)
      · exact .inr (.inl h)
      · exact .inl h
      · exact .inr (.inr h)
  have e : fz ((a, o) :: R) ι (O.set n none) H = fz R ι O H := ers_eq hm
  refine ⟨o, h1, ⟨by rw [List.length_set]; exact S.len, ?_, fun x hx => ?_, S.thr, fun m b q h3 h4 => ?_⟩, e, h2⟩
  · show (a :: (R.map (·.1) ++ lv ι (O.set n none))).Nodup
    exact ((pm.append_left (R.map (·.1))).trans List.perm_middle).nodup_iff.mp S.nd
  · rcases List.mem_cons.mp hx with rfl | hx
    · exact h1
    · exact S.hid x hx
  · rw [e]
    rw [List.getElem?_set] at h4
    split at h4
    · split at h4
      · cases h4
      · cases h4
    · exact S.obj m b q h3 h4
theorem Sim.put (S : Sim K ((a, o) :: R) ι O H) (hn : ι[n]? = some a) (ho : O[n]? = some none) (r : RepO K ι (fz ((a, o) :: R) ι O H) p o) : Sim K R ι (O.set n (some p)) H ∧ fz R ι (O.set n (some p)) H = fz ((a, o) :: R) ι O H := by
  have pm := lv_put (p := p) hn ho
  have hm : ∀ b, b ∈ R.map (·.1) ++ lv ι (O.set n (some p)) ↔ b ∈ a :: (R.map (·.1) ++ lv ι O) := fun b => by
    have := pm.mem_iff (a := b)
    simp only [List.mem_append, List.mem_cons] at this ⊢
    rw [this]
    constructor
    · rintro (h | h | h)
      · exact .inr (.inl h)
      · exact .inl h
      · exact .inr (.inr h)
    · rintro (h | h | h)
      · exact .inr (.inl h)
      · exact .inl h
      · exact .inr (.inr h)
  have e : fz R ι (O.set n (some p)) H = fz ((a, o) :: R) ι O H := ers_eq hm
  have ha := S.hid (a, o) List.mem_cons_self
  refine ⟨⟨by rw [List.length_set]; exact S.len, ?_, fun x hx => S.hid x (List.mem_cons_of_mem _ hx), S.thr, fun m b q h3 h4 => ?_⟩, e⟩
  · have q : (a :: (R.map (·.1) ++ lv ι O)).Nodup := S.nd
    exact ((pm.append_left (R.map (·.1))).trans List.perm_middle).nodup_iff.mpr q
  · rw [e]
    rw [List.getElem?_set] at h4
    split at h4
    · rename_i c
      subst c
      split at h4
      · cases h4
        rw [hn] at h3
        cases h3
        exact ⟨o, ha, r⟩
      · cases h4
    · exact S.obj m b q h3 h4
/-! what follows: a new frozen thing, a new thing that changes, a change, a freezing -/
theorem Sim.newF (S : Sim K R ι O H) (h : H D = none) (o : HO) : Sim K R ι O (upd H D o) ∧ Ext R ι O H ι O (upd H D o) ∧ fz R ι O (upd H D o) D = some o := by
  obtain ⟨S1, e1⟩ := S.hide_new h o
  obtain ⟨S2, e2, e3⟩ := S1.unhide
  exact ⟨S2, ⟨.refl, by rw [← e1]; exact e2⟩, e3⟩
theorem Sim.newO (S : Sim K R ι O H) (h : H D = none) {o : HO} (r : RepO K ι (fz R ι O H) p o) : Sim K R (ι ++ [D]) (O ++ [some p]) (upd H D o) ∧ Ext R ι O H (ι ++ [D]) (O ++ [some p]) (upd H D o) := by
  obtain ⟨S1, e1⟩ := S.hide_new h o
  obtain ⟨S2, e2⟩ := S1.own (p := p) (by rw [e1]; exact r)
  exact ⟨S2, ⟨.app, by rw [e2, e1]; exact same_refl⟩⟩
theorem Sim.change (S : Sim K R ι O H) (hn : ι[n]? = some a) (ho : O[n]? = some (some p)) {o' : HO} (r : RepO K ι (fz R ι O H) p' o') : Sim K R ι (O.set n (some p')) (upd H a o') ∧ Ext R ι O H ι (O.set n (some p')) (upd H a o') := by
  obtain ⟨o, _, S1, e1, _⟩ := S.out hn ho
  obtain ⟨S2, e2⟩ := S1.hid_set o'
  have hl := (List.getElem?_eq_some_iff.mp ho).1
  obtain ⟨S3, e3⟩ := S2.put (n := n) (p := p') hn (by rw [List.getElem?_set_self hl]) (by rw [e2, e1]; exact r)
  rw [List.set_set] at S3 e3
  exact ⟨S3, ⟨.refl, by rw [e3, e2, e1]; exact same_refl⟩⟩
theorem Sim.freeze (S : Sim K R ι O H) (hn : ι[n]? = some a) (ho : O[n]? = some (some p)) : Sim K R ι (O.set n none) H ∧ Ext R ι O H ι (O.set n none) H ∧ Rep K ι (fz R ι (O.set n none) H) p (.ref a) := by
  obtain ⟨o, _, S1, e1, r⟩ := S.out hn ho
  obtain ⟨S2, e2, e3⟩ := S1.unhide
  have x : Ext R ι O H ι (O.set n none) H := ⟨.refl, by rw [← e1]; exact e2⟩
  exact ⟨S2, x, (r.mono x.pre x.same).rep e3⟩
end
end Qx

/-! Own layer Q2: what an expression, a test, a statement computes on PVs, and that a reading follows from it. -/
namespace Qx
open PySem PySem.Spec PyProof.Rows L2 Gx
structure PExc where
  cls : PV
  ns : List Str
  ps : List PV
inductive PR (α : Type) where
  | ok (a : α) (O : Sto) | exc (e : PExc) (O : Sto) | bad
def PR.bind {α β : Type} (x : PR α) (g : α → Sto → PR β) : PR β := match x with
  | .ok a O => g a O
  | .exc e O => .exc e O
  | .bad => .bad
def RepX (K : PySem.W.Frag) (ι : List Addr) (G : Hp) (e : PExc) (c : Value) (d : Option Addr) : Prop :=
  (match e.cls with | .cls C => c = .ref (He.ga K C) | .ty n => c = .type n | _ => False) ∧
  ∃ xs, XD G d e.ns xs ∧ e.ns.length = e.ps.length ∧ RepL K ι G e.ps xs
abbrev EF := Slots → Sto → PR PV
abbrev TF := Slots → Sto → PR Bool
abbrev AF := Slots → Sto → PR (List PV)
def SlR (K : PySem.W.Frag) (ι : List Addr) (G : Hp) (σ : L2.St) (s : Slots) : Prop := s.length = σ.length ∧ ∀ (i : Nat) p, s[i]? = some (some p) → ∃ v, σ[i]? = some (some v) ∧ Rep K ι G p v
section
variable {K : PySem.W.Frag} {R : List (Addr × HO)} {ι ι1 : List Addr} {O O1 : Sto} {H H1 : Hp} {σ : L2.St} {s : Slots}
theorem SlR.ext (X : Ext R ι O H ι1 O1 H1) (L : SlR K ι (fz R ι O H) σ s) : SlR K ι1 (fz R ι1 O1 H1) σ s := ⟨L.1, fun i p e => let ⟨v, h1, h2⟩ := L.2 i p e; ⟨v, h1, X.rep h2⟩⟩
theorem SlR.set {G : Hp} {p : PV} {v : V} (n : Nat) (L : SlR K ι G σ s) (r : Rep K ι G p v) : SlR K ι G (σ.set n (some v)) (s.set n (some p)) := by
  refine ⟨by rw [List.length_set, List.length_set]; exact L.1, fun i q e => ?_⟩
  rw [List.getElem?_set] at e ⊢
  by_cases c : n = i
  · rw [if_pos c] at e ⊢
    rw [← L.1]
    by_cases d : n < s.length
    · rw [if_pos d] at e ⊢
      cases e
      exact ⟨v, rfl, r⟩
    · rw [if_neg d] at e; cases e
  · rw [if_neg c] at e ⊢
    exact L.2 i q e
theorem SlR.set0 {G : Hp} {x : Option V} (n : Nat) (L : SlR K ι G σ s) : SlR K ι G (σ.set n x) (s.set n none) := by
  refine ⟨by rw [List.length_set, List.length_set]; exact L.1, fun i q e => ?_⟩
  rw [List.getElem?_set] at e ⊢
  by_cases c : n = i
  · rw [if_pos c] at e
    split at e <;> cases e
  · rw [if_neg c] at e ⊢
    exact L.2 i q e
theorem SlR.start {G : Hp} {ps : List PV} {vs : List V} (h : RepL K ι G ps vs) (n : Nat) : SlR K ι G (vs.map some ++ List.replicate n none) (ps.map some ++ List.replicate n none) := by
  refine ⟨by simp [h.len], fun i p e => ?_⟩
  by_cases c : i < ps.length
  · rw [List.getElem?_append_left (by rw [List.length_map]; exact c), List.getElem?_map] at e
    rw [List.getElem?_append_left (by rw [List.length_map, h.len]; exact c), List.getElem?_map]
    cases q : ps[i]? with
    | none => rw [q] at e; cases e
    | some p' =>
      rw [q] at e
      cases e
      obtain ⟨v, h1, h2⟩ := h.get q
      exact ⟨v, by rw [h1]; rfl, h2⟩
  · rw [List.getElem?_append_right (by rw [List.length_map]; omega), List.getElem?_replicate] at e
    split at e <;> cases e
end
/-- what is wanted behind a result -/
def Post {α β : Type} (K : PySem.W.Frag) (R : List (Addr × HO)) (E : Option XK) (rp : List Addr → Hp → α → β → Prop) (ι : List Addr) (O : Sto) (H : Hp) (Q : β → Hp → Prop) : PR α → Prop
  | .ok a O' => ∀ b ι' H', Sim K R ι' O' H' → Ext R ι O H ι' O' H' → rp ι' (fz R ι' O' H') a b → Q b H'
  | .exc e O' => ∃ E', E = some E' ∧ ∀ c d ι' H', Sim K R ι' O' H' → Ext R ι O H ι' O' H' → RepX K ι' (fz R ι' O' H') e c d → E' c d H'
  | .bad => False
section
variable {α β γ δ : Type} {K : PySem.W.Frag} {R : List (Addr × HO)} {E : Option XK} {rp : List Addr → Hp → α → β → Prop} {rp' : List Addr → Hp → γ → δ → Prop} {ι ι1 : List Addr} {O O1 : Sto} {H H1 : Hp} {Q : β → Hp → Prop}
theorem Post.of (X : Ext R ι O H ι1 O1 H1) {r : PR α} (h : Post K R E rp ι O H Q r) : Post K R E rp ι1 O1 H1 Q r := by
  cases r with
  | ok a O' => exact fun b ι' H' S Y q => h b ι' H' S (X.trans Y) q
  | exc e O' => obtain ⟨E', e1, h⟩ := h; exact ⟨E', e1, fun c d ι' H' S Y q => h c d ι' H' S (X.trans Y) q⟩
  | bad => exact h
theorem Post.bind {x : PR α} {g : α → Sto → PR γ} {Q' : δ → Hp → Prop} (h : Post K R E rp' ι O H Q' (x.bind g)) (k : ∀ a O1 b ι1 H1, Sim K R ι1 O1 H1 → Ext R ι O H ι1 O1 H1 → rp ι1 (fz R ι1 O1 H1) a b → Post K R E rp' ι1 O1 H1 Q' (g a O1) → Q b H1) : Post K R E rp ι O H Q x := by
  cases x with
  | ok a O' => exact fun b ι' H' S Y q => k a O' b ι' H' S Y q (Post.of Y h)
  | exc e O' => exact h
  | bad => exact h
theorem Post.here {a : α} {b : β} (h : Post K R E rp ι O H Q (.ok a O)) (S : Sim K R ι O H) (r : rp ι (fz R ι O H) a b) : Q b H := h b ι H S .refl r
theorem Post.at {a : α} {b : β} (h : Post K R E rp ι O H Q (.ok a O1)) (S : Sim K R ι1 O1 H1) (X : Ext R ι O H ι1 O1 H1) (r : rp ι1 (fz R ι1 O1 H1) a b) : Q b H1 := h b ι1 H1 S X r
end
abbrev XM := Option (L2.St → XK)
def xat (E : XM) (σ : L2.St) : Option XK := E.map fun e => e σ
/-! ### judgements -/
def SimE (K : PySem.W.Frag) (E : XM) (t : TE) (f : EF) : Prop := ∀ R ι O H σ s Q, Sim K R ι O H → SlR K ι (fz R ι O H) σ s → Post K R (xat E σ) (Rep K) ι O H Q (f s O) → t σ H Q
def SimT (K : PySem.W.Frag) (E : XM) (t : TT) (f : TF) : Prop := ∀ R ι O H σ s Q, Sim K R ι O H → SlR K ι (fz R ι O H) σ s → Post K R (xat E σ) (fun _ _ a b => a = b) ι O H Q (f s O) → t σ H Q
def SimA (K : PySem.W.Frag) (E : XM) (t : TA) (f : AF) : Prop := ∀ R ι O H σ s Q, Sim K R ι O H → SlR K ι (fz R ι O H) σ s → Post K R (xat E σ) (RepL K) ι O H Q (f s O) → t σ H Q
def OpS (K : PySem.W.Frag) (r : R2) (op : PV → PV → Sto → PR PV) : Prop := ∀ R ι O H p q x y E Q, Sim K R ι O H → Rep K ι (fz R ι O H) p x → Rep K ι (fz R ι O H) q y → Post K R E (Rep K) ι O H Q (op p q O) → r x y H Q
def UnS (K : PySem.W.Frag) (r : V → Hp → VK → Prop) (op : PV → Sto → PR PV) : Prop := ∀ R ι O H p x E Q, Sim K R ι O H → Rep K ι (fz R ι O H) p x → Post K R E (Rep K) ι O H Q (op p O) → r x H Q
def CbS (K : PySem.W.Frag) (r : List V → Hp → VK → Prop) (f : List PV → Sto → PR PV) : Prop := ∀ R ι O H ps xs E Q, Sim K R ι O H → RepL K ι (fz R ι O H) ps xs → Post K R E (Rep K) ι O H Q (f ps O) → r xs H Q
/-! ### expressions -/
def eVar (i : Nat) : EF := fun s O => match s[i]? with
  | some (some p) => .ok p O
  | _ => .bad
def eC (p : PV) : EF := fun _ O => .ok p O
def eOp (op : PV → PV → Sto → PR PV) (a b : EF) : EF := fun s O => (a s O).bind fun p O1 => (b s O1).bind fun q O2 => op p q O2
def eUn (op : PV → Sto → PR PV) (a : EF) : EF := fun s O => (a s O).bind op
def aNil : AF := fun _ O => .ok [] O
def aCons (a : EF) (r : AF) : AF := fun s O => (a s O).bind fun p O1 => (r s O1).bind fun ps O2 => .ok (p :: ps) O2
def eCB (f : List PV → Sto → PR PV) (a : AF) : EF := fun s O => (a s O).bind f
def szOk (n : Nat) : Bool := decide (n ≤ sizeLine)
def szLt (n : Nat) : Bool := decide (n < sizeLine)
def eTup (a : AF) : EF := fun s O => (a s O).bind fun ps O1 => if szOk ps.length = true then .ok (.tup ps) O1 else .bad
def eLst (a : AF) : EF := fun s O => (a s O).bind fun ps O1 => if szOk ps.length = true then .ok (.lst ps) O1 else .bad
def eLstO (a : AF) : EF := fun s O => (a s O).bind fun ps O1 => if szOk ps.length = true then .ok (.loc O1.length) (O1 ++ [some (.lst ps)]) else .bad
def tTst (a : EF) : TF := fun s O => (a s O).bind fun p O1 => match p with
  | .bl b => .ok b O1
  | _ => .bad
def tAndP (a b : TF) : TF := fun s O => (a s O).bind fun c O1 => if c = true then b s O1 else .ok false O1
def tOrP (a b : TF) : TF := fun s O => (a s O).bind fun c O1 => if c = true then .ok true O1 else b s O1
def tNotP (a : TF) : TF := fun s O => (a s O).bind fun c O1 => .ok (!c) O1
def eAnd (a b : EF) : EF := fun s O => (a s O).bind fun p O1 => match p with
  | .bl c => if c = true then b s O1 else .ok (.bl false) O1
  | _ => .bad
def eOr (a b : EF) : EF := fun s O => (a s O).bind fun p O1 => match p with
  | .bl c => if c = true then .ok (.bl true) O1 else b s O1
  | _ => .bad
def eNot (a : EF) : EF := fun s O => (a s O).bind fun p O1 => match p with
  | .bl c => .ok (.bl (!c)) O1
  | _ => .bad
def eIf (c : TF) (a b : EF) : EF := fun s O => (c s O).bind fun k O1 => if k = true then a s O1 else b s O1
def eChain (o1 o2 : PV → PV → Sto → PR PV) (a b c : EF) : EF := fun s O => (a s O).bind fun p O1 => (b s O1).bind fun q O2 => (o1 p q O2).bind fun z O3 => match z with
  | .bl k => if k = true then (c s O3).bind fun r O4 => o2 q r O4 else .ok (.bl false) O3
  | _ => .bad
section
variable {K : PySem.W.Frag} {E : XM} {ta tb tc : TE} {fa fb fc : EF} {tA tB' : TA} {gA gB : AF} {t u : TT} {f g : TF} {r r' : R2} {op op' : PV → PV → Sto → PR PV}
theorem sim_var {i : Nat} : SimE K E (tVar i) (eVar i) := by
  intro R ι O H σ s Q S L h
  unfold eVar at h
  cases e : s[i]? with
  | none => rw [e] at h; exact h.elim
  | some x =>
    cases x with
    | none => rw [e] at h; exact h.elim
    | some p =>
      rw [e] at h
      obtain ⟨v, h1, h2⟩ := L.2 i p e
      exact ⟨v, h1, h.here S h2⟩
theorem sim_c {v : V} {p : PV} (hr : ∀ ι G, Rep K ι G p v) : SimE K E (tC v) (eC p) := fun R ι O H σ s Q S L h => h.here S (hr _ _)
theorem sim_int {i : Int} : SimE K E (tC (.int i)) (eC (.int i)) := sim_c fun _ _ => rfl
theorem sim_bl {b : Bool} : SimE K E (tC (.bl b)) (eC (.bl b)) := sim_c fun _ _ => rfl
theorem sim_non : SimE K E (tC .non) (eC .non) := sim_c fun _ _ => rfl
theorem sim_str {z : Str} : SimE K E (tC (.str z)) (eC (.str z)) := sim_c fun _ _ => rfl
theorem sim_ty {n : String} : SimE K E (tC (.ty n)) (eC (.ty n)) := sim_c fun _ _ => rfl
theorem sim_cls {C : Str} : SimE K E (tC (.ref (He.ga K C))) (eC (.cls C)) := sim_c fun _ _ => rfl
theorem sim_op (ho : OpS K r op) (ha : SimE K E ta fa) (hb : SimE K E tb fb) : SimE K E (tOp r ta tb) (eOp op fa fb) := fun R ι O H σ s Q S L h =>
  ha R ι O H σ s _ S L (h.bind fun p O1 x ι1 H1 S1 X1 r1 h1 => hb R ι1 O1 H1 σ s _ S1 (L.ext X1) (h1.bind fun q O2 y ι2 H2 S2 X2 r2 h2 => ho R ι2 O2 H2 p q x y _ _ S2 (X2.rep r1) r2 h2))
theorem sim_un {r : V → Hp → VK → Prop} {op : PV → Sto → PR PV} (ho : UnS K r op) (ha : SimE K E ta fa) : SimE K E (tUn r ta) (eUn op fa) := fun R ι O H σ s Q S L h =>
  ha R ι O H σ s _ S L (h.bind fun p O1 x ι1 H1 S1 X1 r1 h1 => ho R ι1 O1 H1 p x _ _ S1 r1 h1)
theorem sim_nil : SimA K E tNil aNil := fun R ι O H σ s Q S L h => h.here S rfl
theorem sim_cons (ha : SimE K E ta fa) (hA : SimA K E tA gA) : SimA K E (tCons ta tA) (aCons fa gA) := fun R ι O H σ s Q S L h =>
  ha R ι O H σ s _ S L (h.bind fun p O1 x ι1 H1 S1 X1 r1 h1 => hA R ι1 O1 H1 σ s _ S1 (L.ext X1) (h1.bind fun ps O2 xs ι2 H2 S2 X2 r2 h2 => h2.here S2 (RepL.consR (X2.rep r1) r2)))
theorem sim_cb {r : List V → Hp → VK → Prop} {c : List PV → Sto → PR PV} (hc : CbS K r c) (hA : SimA K E tA gA) : SimE K E (tCB r tA) (eCB c gA) := fun R ι O H σ s Q S L h =>
  hA R ι O H σ s _ S L (h.bind fun ps O1 xs ι1 H1 S1 X1 r1 h1 => hc R ι1 O1 H1 ps xs _ _ S1 r1 h1)
theorem szOk_le {n : Nat} (h : szOk n = true) : n ≤ sizeLine := of_decide_eq_true h
theorem szLt_lt {n : Nat} (h : szLt n = true) : n < sizeLine := of_decide_eq_true h
theorem sim_tup (hA : SimA K E tA gA) : SimE K E (tTup tA) (eTup gA) := fun R ι O H σ s Q S L h =>
  hA R ι O H σ s _ S L (h.bind fun ps O1 xs ι1 H1 S1 X1 r1 h1 => by
    split at h1
    · rename_i c
      refine ⟨by rw [r1.len]; exact szOk_le c, fun p hp => ?_⟩
      obtain ⟨S2, X2, e2⟩ := S1.newF hp (.tup xs)
      exact h1.at S2 X2 ⟨p, xs, rfl, SqT.of e2, X2.repL r1⟩
    · exact h1.elim)
theorem sim_lst (hA : SimA K E tA gA) : SimE K E (tLst tA) (eLst gA) := fun R ι O H σ s Q S L h =>
  hA R ι O H σ s _ S L (h.bind fun ps O1 xs ι1 H1 S1 X1 r1 h1 => by
    split at h1
    · rename_i c
      refine ⟨by rw [r1.len]; exact szOk_le c, fun p hp => ?_⟩
      obtain ⟨S2, X2, e2⟩ := S1.newF hp (.lst xs)
      exact h1.at S2 X2 ⟨p, xs, rfl, e2, X2.repL r1⟩
    · exact h1.elim)
theorem new_at {ι : List Addr} {O : Sto} {D : Addr} (h : ι.length = O.length) : (ι ++ [D])[O.length]? = some D := by
  rw [List.getElem?_append_right (by omega), h]
  simp
theorem sim_lstO (hA : SimA K E tA gA) : SimE K E (tLst tA) (eLstO gA) := fun R ι O H σ s Q S L h =>
  hA R ι O H σ s _ S L (h.bind fun ps O1 xs ι1 H1 S1 X1 r1 h1 => by
    split at h1
    · rename_i c
      refine ⟨by rw [r1.len]; exact szOk_le c, fun p hp => ?_⟩
      obtain ⟨S2, X2⟩ := S1.newO (p := .lst ps) hp (o := .lst xs) ⟨xs, rfl, r1⟩
      exact h1.at S2 X2 ⟨p, rfl, new_at S1.len⟩
    · exact h1.elim)
theorem sim_test (ha : SimE K E ta fa) : SimT K E (tTest ta) (tTst fa) := fun R ι O H σ s Q S L h =>
  ha R ι O H σ s _ S L (h.bind fun p O1 x ι1 H1 S1 X1 r1 h1 => by
    cases p with
    | bl b => exact ⟨b, r1, h1.here S1 rfl⟩
    | _ => exact h1.elim)
theorem sim_B (ha : SimE K E ta fa) : SimT K E (tB ta) (tTst fa) := fun R ι O H σ s Q S L h => sim_test ha R ι O H σ s Q S L h
theorem sim_and (ha : SimT K E t f) (hb : SimT K E u g) : SimT K E (tAnd t u) (tAndP f g) := fun R ι O H σ s Q S L h =>
  ha R ι O H σ s _ S L (h.bind fun c O1 c' ι1 H1 S1 X1 e h1 => by
    subst e
    cases c with
    | true => exact hb R ι1 O1 H1 σ s _ S1 (L.ext X1) h1
    | false => exact h1.here S1 rfl)
theorem sim_or (ha : SimT K E t f) (hb : SimT K E u g) : SimT K E (tOr t u) (tOrP f g) := fun R ι O H σ s Q S L h =>
  ha R ι O H σ s _ S L (h.bind fun c O1 c' ι1 H1 S1 X1 e h1 => by
    subst e
    cases c with
    | false => exact hb R ι1 O1 H1 σ s _ S1 (L.ext X1) h1
    | true => exact h1.here S1 rfl)
theorem sim_not (ha : SimT K E t f) : SimT K E (tNot t) (tNotP f) := fun R ι O H σ s Q S L h =>
  ha R ι O H σ s _ S L (h.bind fun c O1 c' ι1 H1 S1 X1 e h1 => by
    subst e
    exact h1.here S1 rfl)
theorem sim_yes : SimT K E tYes (fun _ O => .ok true O) := fun R ι O H σ s Q S L h => h.here S rfl
theorem sim_andV (ha : SimE K E ta fa) (hb : SimE K E tb fb) : SimE K E (tAndV ta tb) (eAnd fa fb) := fun R ι O H σ s Q S L h =>
  ha R ι O H σ s _ S L (h.bind fun p O1 x ι1 H1 S1 X1 r1 h1 => by
    cases p with
    | bl c =>
      refine ⟨c, r1, ?_⟩
      cases c with
      | true => exact hb R ι1 O1 H1 σ s _ S1 (L.ext X1) h1
      | false => exact h1.here S1 rfl
    | _ => exact h1.elim)
theorem sim_orV (ha : SimE K E ta fa) (hb : SimE K E tb fb) : SimE K E (tOrV ta tb) (eOr fa fb) := fun R ι O H σ s Q S L h =>
  ha R ι O H σ s _ S L (h.bind fun p O1 x ι1 H1 S1 X1 r1 h1 => by
    cases p with
    | bl c =>
      refine ⟨c, r1, ?_⟩
      cases c with
      | false => exact hb R ι1 O1 H1 σ s _ S1 (L.ext X1) h1
      | true => exact h1.here S1 rfl
    | _ => exact h1.elim)
theorem sim_notV (ha : SimE K E ta fa) : SimE K E (tNotV ta) (eNot fa) := fun R ι O H σ s Q S L h =>
  ha R ι O H σ s _ S L (h.bind fun p O1 x ι1 H1 S1 X1 r1 h1 => by
    cases p with
    | bl c => exact ⟨c, r1, h1.here S1 rfl⟩
    | _ => exact h1.elim)
theorem sim_if (hc : SimT K E t f) (ha : SimE K E ta fa) (hb : SimE K E tb fb) : SimE K E (tIf t ta tb) (eIf f fa fb) := fun R ι O H σ s Q S L h =>
  hc R ι O H σ s _ S L (h.bind fun c O1 c' ι1 H1 S1 X1 e h1 => by
    subst e
    cases c with
    | true => exact ha R ι1 O1 H1 σ s _ S1 (L.ext X1) h1
    | false => exact hb R ι1 O1 H1 σ s _ S1 (L.ext X1) h1)
theorem sim_chain (h1 : OpS K r op) (h2 : OpS K r' op') (ha : SimE K E ta fa) (hb : SimE K E tb fb) (hc : SimE K E tc fc) : SimE K E (tChain r r' ta tb tc) (eChain op op' fa fb fc) := fun R ι O H σ s Q S L h => by
  unfold tChain
  refine ha R ι O H σ s _ S L (h.bind fun p O1 x ι1 H1 S1 X1 r1 k1 => hb R ι1 O1 H1 σ s _ S1 (L.ext X1) (k1.bind fun q O2 y ι2 H2 S2 X2 r2 k2 => h1 R ι2 O2 H2 p q x y _ _ S2 (X2.rep r1) r2 (k2.bind fun z O3 z' ι3 H3 S3 X3 r3 k3 => ?_)))
  cases z with
  | bl k =>
    refine ⟨k, r3, ?_⟩
    cases k with
    | true => exact hc R ι3 O3 H3 σ s _ S3 (L.ext (X1.trans (X2.trans X3))) (k3.bind fun w O4 w' ι4 H4 S4 X4 r4 k4 => h2 R ι4 O4 H4 q w y w' _ _ S4 ((X3.trans X4).rep r2) r4 k4)
    | false => exact k3.here S3 rfl
  | _ => exact k3.elim
end
/-! ### statements -/
inductive SR where
  | next (s : Slots) (O : Sto) | ret (p : PV) (O : Sto) | brk (s : Slots) (O : Sto) | cnt (s : Slots) (O : Sto) | exc (e : PExc) (s : Slots) (O : Sto) | bad
abbrev SF := Slots → Sto → SR
def PR.toS {α : Type} (r : PR α) (s : Slots) (k : α → Sto → SR) : SR := match r with
  | .ok a O => k a O
  | .exc e O => .exc e s O
  | .bad => .bad
def SR.bind (r : SR) (k : SF) : SR := match r with
  | .next s O => k s O
  | r => r
def PostS (K : PySem.W.Frag) (R : List (Addr × HO)) (E : XM) (ι : List Addr) (O : Sto) (H : Hp) (D : Ends) : SR → Prop
  | .next s O' => ∀ σ' ι' H', Sim K R ι' O' H' → Ext R ι O H ι' O' H' → SlR K ι' (fz R ι' O' H') σ' s → D.nx σ' H'
  | .ret p O' => ∀ v ι' H', Sim K R ι' O' H' → Ext R ι O H ι' O' H' → Rep K ι' (fz R ι' O' H') p v → D.rt v H'
  | .brk s O' => ∀ σ' ι' H', Sim K R ι' O' H' → Ext R ι O H ι' O' H' → SlR K ι' (fz R ι' O' H') σ' s → D.bk σ' H'
  | .cnt s O' => ∀ σ' ι' H', Sim K R ι' O' H' → Ext R ι O H ι' O' H' → SlR K ι' (fz R ι' O' H') σ' s → D.ct σ' H'
  | .exc e s O' => ∃ E', E = some E' ∧ ∀ σ' c d ι' H', Sim K R ι' O' H' → Ext R ι O H ι' O' H' → SlR K ι' (fz R ι' O' H') σ' s → RepX K ι' (fz R ι' O' H') e c d → E' σ' c d H'
  | .bad => False
def SimS (K : PySem.W.Frag) (E : XM) (t : TS) (g : SF) : Prop := ∀ R ι O H σ s D, Sim K R ι O H → SlR K ι (fz R ι O H) σ s → PostS K R E ι O H D (g s O) → t D σ H
/-- a target -/
abbrev GF := PV → Slots → Sto → PR Slots
def SimG (K : PySem.W.Frag) (E : XM) (g : TG) (f : GF) : Prop := ∀ R ι O H σ s p x Q, Sim K R ι O H → SlR K ι (fz R ι O H) σ s → Rep K ι (fz R ι O H) p x → Post K R (xat E σ) (fun ι G s σ => SlR K ι G σ s) ι O H Q (f p s O) → g x σ H Q
section
variable {α β : Type} {K : PySem.W.Frag} {R : List (Addr × HO)} {E : XM} {rp : List Addr → Hp → α → β → Prop} {ι ι1 : List Addr} {O O1 : Sto} {H H1 : Hp} {D : Ends} {σ : L2.St} {s : Slots}
theorem PostS.of (X : Ext R ι O H ι1 O1 H1) {r : SR} (h : PostS K R E ι O H D r) : PostS K R E ι1 O1 H1 D r := by
  cases r with
  | next s O' => exact fun σ' ι' H' S Y q => h σ' ι' H' S (X.trans Y) q
  | ret p O' => exact fun v ι' H' S Y q => h v ι' H' S (X.trans Y) q
  | brk s O' => exact fun σ' ι' H' S Y q => h σ' ι' H' S (X.trans Y) q
  | cnt s O' => exact fun σ' ι' H' S Y q => h σ' ι' H' S (X.trans Y) q
  | exc e s O' => obtain ⟨E', e1, h⟩ := h; exact ⟨E', e1, fun σ' c d ι' H' S Y l q => h σ' c d ι' H' S (X.trans Y) l q⟩
  | bad => exact h
theorem PostS.lift {r : PR α} {k : α → Sto → SR} {Q : β → Hp → Prop} (h : PostS K R E ι O H D (r.toS s k)) (L : SlR K ι (fz R ι O H) σ s) (kk : ∀ a O1 b ι1 H1, Sim K R ι1 O1 H1 → Ext R ι O H ι1 O1 H1 → rp ι1 (fz R ι1 O1 H1) a b → PostS K R E ι1 O1 H1 D (k a O1) → Q b H1) : Post K R (xat E σ) rp ι O H Q r := by
  cases r with
  | ok a O' => exact fun b ι' H' S Y q => kk a O' b ι' H' S Y q (PostS.of Y h)
  | exc e O' =>
    obtain ⟨E', e1, h⟩ := h
    exact ⟨E' σ, by rw [e1]; rfl, fun c d ι' H' S Y q => h σ c d ι' H' S Y (L.ext Y) q⟩
  | bad => exact h
theorem PostS.bind {r : SR} {k : SF} {nx : L2.St → Hp → Prop} (h : PostS K R E ι O H D (r.bind k)) (kk : ∀ s1 O1 σ1 ι1 H1, Sim K R ι1 O1 H1 → Ext R ι O H ι1 O1 H1 → SlR K ι1 (fz R ι1 O1 H1) σ1 s1 → PostS K R E ι1 O1 H1 D (k s1 O1) → nx σ1 H1) : PostS K R E ι O H { D with nx := nx } r := by
  cases r with
  | next s O' => exact fun σ' ι' H' S Y q => kk s O' σ' ι' H' S Y q (PostS.of Y h)
  | ret p O' => exact h
  | brk s O' => exact h
  | cnt s O' => exact h
  | exc e s O' => exact h
  | bad => exact h
end
def sSkip : SF := fun s O => .next s O
def sSeq (a b : SF) : SF := fun s O => (a s O).bind b
def sRet (f : EF) : SF := fun s O => (f s O).toS s fun p O1 => .ret p O1
def sRetN : SF := fun s O => .ret .non O
def sExp (f : EF) : SF := fun s O => (f s O).toS s fun _ O1 => .next s O1
def sIf (c : TF) (a b : SF) : SF := fun s O => (c s O).toS s fun k O1 => if k = true then a s O1 else b s O1
def sAsg (f : EF) (g : GF) : SF := fun s O => (f s O).toS s fun p O1 => (g p s O1).toS s fun s' O2 => .next s' O2
def sBrk : SF := fun s O => .brk s O
def sCnt : SF := fun s O => .cnt s O
def sBad : SF := fun _ _ => .bad
def gNm (i : Nat) : GF := fun p s O => .ok (s.set i (some p)) O
section
variable {K : PySem.W.Frag} {E : XM} {ta tb tc : TE} {fa fb fc : EF} {t : TT} {c : TF} {tS uS : TS} {f g : SF} {G : TG} {gf : GF}
theorem sim_next : SimS K E tNext sSkip := fun R ι O H σ s D S L h => h σ ι H S .refl L
theorem sim_brk : SimS K E tBreak sBrk := fun R ι O H σ s D S L h => h σ ι H S .refl L
theorem sim_cnt : SimS K E tCont sCnt := fun R ι O H σ s D S L h => h σ ι H S .refl L
theorem sim_seq (ha : SimS K E tS f) (hb : SimS K E uS g) : SimS K E (tSeq tS uS) (sSeq f g) := fun R ι O H σ s D S L h =>
  ha R ι O H σ s _ S L (h.bind fun s1 O1 σ1 ι1 H1 S1 X1 L1 h1 => hb R ι1 O1 H1 σ1 s1 D S1 L1 h1)
theorem sim_ret (ha : SimE K E ta fa) : SimS K E (tRet ta) (sRet fa) := fun R ι O H σ s D S L h =>
  ha R ι O H σ s _ S L (h.lift L fun p O1 v ι1 H1 S1 X1 r1 h1 => h1 v ι1 H1 S1 .refl r1)
theorem sim_retN : SimS K E tRetN sRetN := fun R ι O H σ s D S L h => h .non ι H S .refl rfl
theorem sim_exp (ha : SimE K E ta fa) : SimS K E (tDrop ta) (sExp fa) := fun R ι O H σ s D S L h =>
  ha R ι O H σ s _ S L (h.lift L fun p O1 v ι1 H1 S1 X1 r1 h1 => h1 σ ι1 H1 S1 .refl (L.ext X1))
theorem sim_ifS (hc : SimT K E t c) (ha : SimS K E tS f) (hb : SimS K E uS g) : SimS K E (tIfS t tS uS) (sIf c f g) := fun R ι O H σ s D S L h =>
  hc R ι O H σ s _ S L (h.lift L fun k O1 k' ι1 H1 S1 X1 e h1 => by
    subst e
    cases k with
    | true => exact ha R ι1 O1 H1 σ s D S1 (L.ext X1) h1
    | false => exact hb R ι1 O1 H1 σ s D S1 (L.ext X1) h1)
theorem sim_asg (ha : SimE K E ta fa) (hg : SimG K E G gf) : SimS K E (tAsg ta G) (sAsg fa gf) := fun R ι O H σ s D S L h =>
  ha R ι O H σ s _ S L (h.lift L fun p O1 v ι1 H1 S1 X1 r1 h1 => hg R ι1 O1 H1 σ s p v _ S1 (L.ext X1) r1 (h1.lift (L.ext X1) fun s2 O2 σ2 ι2 H2 S2 X2 L2 h2 => h2 σ2 ι2 H2 S2 .refl L2))
theorem sim_never : SimS K none tNever f → SimS K none tNever f := id
theorem sim_nm {i : Nat} : SimG K E (gName i) (gNm i) := fun R ι O H σ s p x Q S L r h => h.here S (L.set i r)
end
/-! ### defs -/
def mkDef (n N : Nat) (body : SF) (ps : List PV) (O : Sto) : PR PV :=
  if ps.length = n then match body (ps.map some ++ List.replicate (N - n) none) O with
    | .ret p O' => .ok p O'
    | .next _ O' => .ok .non O'
    | .exc e _ O' => .exc e O'
    | _ => .bad
  else .bad
abbrev MF := List PV → Sto → PR PV
/-- the promise of a def: it does as m does; x: whether it may raise -/
def spM (K : PySem.W.Frag) (x : Bool) (m : MF) : Sp := fun vs H Q E => ∃ R ι O ps, Sim K R ι O H ∧ RepL K ι (fz R ι O H) ps vs ∧ Post K R (if x = true then some E else none) (Rep K) ι O H Q (m ps O)
theorem spM_len {K : PySem.W.Frag} {x : Bool} {n N : Nat} {body : SF} {vs : List V} {H : Hp} {Q : VK} {E : XK} (h : spM K x (mkDef n N body) vs H Q E) : vs.length = n := by
  obtain ⟨R, ι, O, ps, S, r, h⟩ := h
  unfold mkDef at h
  by_cases c : ps.length = n
  · rw [r.len]; exact c
  · rw [if_neg c] at h; exact h.elim
/-- a body that does as its mirror keeps the promise -/
theorem spM_run {K : PySem.W.Frag} {n : Nat} {N : List Str} {body : SF} {vs : List V} {H : Hp} {Q : VK} {E : XK} {t : TS} (hs : SimS K none t body) (h : spM K false (mkDef n N.length body) vs H Q E) : t { nx := fun _ H => Q .non H, rt := Q } (L2.start N vs) H := by
  have hl := spM_len h
  obtain ⟨R, ι, O, ps, S, r, h⟩ := h
  unfold mkDef at h
  have hp : ps.length = n := by rw [← r.len]; exact hl
  rw [if_pos hp] at h
  have e : L2.start N vs = vs.map some ++ List.replicate (N.length - n) none := by unfold L2.start; rw [hl]
  rw [e]
  refine hs R ι O H _ (ps.map some ++ List.replicate (N.length - n) none) _ S (SlR.start r _) ?_
  cases q : body (ps.map some ++ List.replicate (N.length - n) none) O with
  | next s O' => rw [q] at h; exact fun σ' ι' H' S' X' L' => h .non ι' H' S' X' rfl
  | ret p O' => rw [q] at h; exact h
  | exc e s O' => rw [q] at h; obtain ⟨E', e1, _⟩ := h; cases e1
  | _ => rw [q] at h; exact h.elim
def eCall (m : MF) (dps : List PV) (a : AF) : EF := fun s O => (a s O).bind fun ps O1 => m (ps ++ dps) O1
def eCallK (m : MF) (n k : Nat) (gP : List PV → List PV → List PV) (a z : AF) : EF := fun s O => (a s O).bind fun ps O1 => (z s O1).bind fun zs O2 => if ps.length = n ∧ zs.length = k then m (gP ps zs) O2 else .bad
section
variable {K : PySem.W.Frag} {E : XM} {tA tZ : TA} {fA fZ : AF} {m : MF} {dps : List PV} {dvs : List V}
theorem sim_call (hA : SimA K none tA fA) (hd : ∀ ι G, RepL K ι G dps dvs) : SimE K none (tCall (spM K false m) dvs E0 tA) (eCall m dps fA) := fun R ι O H σ s Q S L h =>
  hA R ι O H σ s _ S L (h.bind fun ps O1 xs ι1 H1 S1 X1 r1 h1 => ⟨R, ι1, O1, ps ++ dps, S1, r1.app (hd _ _), h1⟩)
theorem sim_callK {n k : Nat} {gP : List PV → List PV → List PV} {gV : List V → List V → List V} (hA : SimA K none tA fA) (hZ : SimA K none tZ fZ) (hg : ∀ ι G ps vs zs ws, RepL K ι G ps vs → RepL K ι G zs ws → RepL K ι G (gP ps zs) (gV vs ws)) : SimE K none (tCallN n k (spM K false m) gV E0 tA tZ) (eCallK m n k gP fA fZ) := fun R ι O H σ s Q S L h =>
  hA R ι O H σ s _ S L (h.bind fun ps O1 xs ι1 H1 S1 X1 r1 h1 => hZ R ι1 O1 H1 σ s _ S1 (L.ext X1) (h1.bind fun zs O2 ws ι2 H2 S2 X2 r2 h2 => by
    split at h2
    · rename_i c
      exact ⟨by rw [r1.len]; exact c.1, by rw [r2.len]; exact c.2, R, ι2, O2, gP ps zs, S2, hg _ _ _ _ _ _ (X2.repL r1) r2, h2⟩
    · exact h2.elim))
end
end Qx

/-! Own layer Q3: operators, lists, tuples, fields, methods, new instances. -/
namespace Qx
open PySem PySem.Spec PyProof.Rows L2 Gx
/-! ### what a PV is, with the store -/
def lstOf (O : Sto) : PV → Option (List PV)
  | .lst ps => some ps
  | .rol ps => some ps
  | .loc n => match O[n]? with
    | some (some (.lst ps)) => some ps
    | _ => none
  | _ => none
/-- a list that is tracked -/
def lstT (O : Sto) : PV → Option (List PV)
  | .lst ps => some ps
  | .loc n => match O[n]? with
    | some (some (.lst ps)) => some ps
    | _ => none
  | _ => none
def tupOf : PV → Option (List PV)
  | .tup ps => some ps
  | _ => none
def insOf (O : Sto) : PV → Option (Str × List Str × List PV)
  | .ins C ns ps => some (C, ns, ps)
  | .loc n => match O[n]? with
    | some (some (.ins C ns ps)) => some (C, ns, ps)
    | _ => none
  | _ => none
section
variable {K : PySem.W.Frag} {R : List (Addr × HO)} {ι : List Addr} {O : Sto} {H : Hp} {p : PV} {x : V} {ps : List PV}
theorem lstT_read (S : Sim K R ι O H) (r : Rep K ι (fz R ι O H) p x) (e : lstT O p = some ps) : ∃ a xs, x = .ref a ∧ H a = some (.lst xs) ∧ RepL K ι (fz R ι O H) ps xs := by
  cases p with
  | lst qs =>
    obtain ⟨a, xs, h1, h2, h3⟩ := r
    cases e
    exact ⟨a, xs, h1, S.frozen _ _ h2, h3⟩
  | loc n =>
    obtain ⟨a, h1, h2⟩ := r
    unfold lstT at e
    cases q : O[n]? with
    | none => simp [q] at e
    | some y =>
      cases y with
      | none => simp [q] at e
      | some z =>
        cases z with
        | lst qs =>
          simp only [q, Option.some.injEq] at e
          subst e
          obtain ⟨o, h3, xs, h4, h5⟩ := S.obj n a _ h2 q
          subst h4
          exact ⟨a, xs, h1, h3, h5⟩
        | _ => simp [q] at e
  | _ => cases e
theorem lst_read (S : Sim K R ι O H) (r : Rep K ι (fz R ι O H) p x) (e : lstOf O p = some ps) : ∃ a xs, x = .ref a ∧ SqL K H a xs ∧ RepL K ι (fz R ι O H) ps xs := by
  cases p with
  | rol qs =>
    obtain ⟨a, xs, h1, h2, h3⟩ := r
    cases e
    exact ⟨a, xs, h1, S.frozen.seq h2, h3⟩
  | lst qs =>
    obtain ⟨a, xs, h1, h2, h3⟩ := lstT_read S r (ps := ps) e
    exact ⟨a, xs, h1, SqL.of h2, h3⟩
  | loc n =>
    obtain ⟨a, xs, h1, h2, h3⟩ := lstT_read S r (ps := ps) e
    exact ⟨a, xs, h1, SqL.of h2, h3⟩
  | _ => cases e
theorem tup_read (S : Sim K R ι O H) (r : Rep K ι (fz R ι O H) p x) (e : tupOf p = some ps) : ∃ a xs, x = .ref a ∧ SqT K H a xs ∧ RepL K ι (fz R ι O H) ps xs := by
  cases p with
  | tup qs =>
    obtain ⟨a, xs, h1, h2, h3⟩ := r
    cases e
    exact ⟨a, xs, h1, sqt_same S.frozen h2, h3⟩
  | _ => cases e
theorem ins_read {C : Str} {ns : List Str} (S : Sim K R ι O H) (r : Rep K ι (fz R ι O H) p x) (e : insOf O p = some (C, ns, ps)) : ∃ a dx xs, x = .ref a ∧ H a = some (.ins (He.ga K C) dx (ns.zip xs)) ∧ ns.length = ps.length ∧ RepL K ι (fz R ι O H) ps xs := by
  cases p with
  | ins C' ns' qs =>
    obtain ⟨a, dx, xs, h1, h2, h3, h4⟩ := r
    cases e
    exact ⟨a, dx, xs, h1, S.frozen _ _ h2, h3, h4⟩
  | loc n =>
    obtain ⟨a, h1, h2⟩ := r
    unfold insOf at e
    cases q : O[n]? with
    | none => simp [q] at e
    | some y =>
      cases y with
      | none => simp [q] at e
      | some z =>
        cases z with
        | ins C' ns' qs =>
          simp only [q, Option.some.injEq, Prod.mk.injEq] at e
          obtain ⟨rfl, rfl, rfl⟩ := e
          obtain ⟨o, h3, dx, xs, h4, h5, h6⟩ := S.obj n a _ h2 q
          subst h4
          exact ⟨a, dx, xs, h1, h3, h5, h6⟩
        | _ => simp [q] at e
  | _ => cases e
end
theorem zip_lookup {K : PySem.W.Frag} {ι : List Addr} {G : Hp} {f : Str} : ∀ {ns : List Str} {ps : List PV} {xs : List V}, RepL K ι G ps xs → (∀ p, (ns.zip ps).lookup f = some p → ∃ x, (ns.zip xs).lookup f = some x ∧ Rep K ι G p x) ∧ ((ns.zip ps).lookup f = none → (ns.zip xs).lookup f = none)
  | [], _, _, _ => ⟨fun p e => by simp at e, fun _ => rfl⟩
  | _ :: _, [], xs, h => by rw [show xs = [] from h]; exact ⟨fun p e => by simp at e, fun _ => by simp⟩
  | n :: ns, p :: ps, _, ⟨x, r, e, h2, h3⟩ => by
    subst e
    simp only [List.zip_cons_cons, List.lookup_cons]
    cases c : (f == n) with
    | true => exact ⟨fun q e => by cases e; exact ⟨x, rfl, h2⟩, fun e => by cases e⟩
    | false => exact zip_lookup h3
/-! ### whole numbers -/
def i2 (c : Int → Int → Bool) (g : Int → Int → PV) (p q : PV) (O : Sto) : PR PV := match p, q with
  | .int i, .int j => if c i j = true then .ok (g i j) O else .bad
  | _, _ => .bad
def i20 (g : Int → Int → PV) (p q : PV) (O : Sto) : PR PV := match p, q with
  | .int i, .int j => .ok (g i j) O
  | _, _ => .bad
theorem os_i0 {K : PySem.W.Frag} {g : Int → Int → PV} {g' : Int → Int → V} (h : ∀ i j ι G, Rep K ι G (g i j) (g' i j)) : OpS K (rI0 g') (i20 g) := by
  intro R ι O H p q x y E Q S r1 r2 h1
  cases p <;> cases q <;> first | exact h1.elim | skip
  rename_i i j
  exact ⟨i, j, r1, r2, h1.here S (h _ _ _ _)⟩
theorem os_i {K : PySem.W.Frag} {c : Int → Int → Bool} {C : Int → Int → Prop} {g : Int → Int → PV} {g' : Int → Int → V} (hc : ∀ i j, c i j = true → C i j) (h : ∀ i j ι G, Rep K ι G (g i j) (g' i j)) : OpS K (rI C g') (i2 c g) := by
  intro R ι O H p q x y E Q S r1 r2 h1
  cases p <;> cases q <;> first | exact h1.elim | skip
  rename_i i j
  unfold i2 at h1
  by_cases e : c i j = true
  · simp only [e, if_true] at h1
    exact ⟨i, j, r1, r2, hc _ _ e, h1.here S (h _ _ _ _)⟩
  · simp only [e] at h1
    exact h1.elim
def mulOk (i j : Int) : Bool := decide ((-(2 ^ 64) < i ∧ i < 2 ^ 64) ∨ (-(2 ^ 64) < j ∧ j < 2 ^ 64))
def divOk (i j : Int) : Bool := decide (0 < j ∧ j < 1073741824)
def powOk (i j : Int) : Bool := decide (0 ≤ j ∧ j ≤ 1000000 ∧ i.natAbs < 2 ^ 64)
def addI := i20 fun i j => .int (i + j)
def subI := i20 fun i j => .int (i - j)
def mulI := i2 mulOk fun i j => .int (i * j)
def fdivI := i2 divOk fun i j => .int (i / j)
def modI := i2 (fun _ j => decide (0 < j)) fun i j => .int (i % j)
def powI := i2 powOk fun i j => .int (i ^ j.toNat)
def ltI := i20 fun i j => .bl (decide (i < j))
def leI := i20 fun i j => .bl (decide (i ≤ j))
def gtI := i20 fun i j => .bl (decide (j < i))
def geI := i20 fun i j => .bl (decide (j ≤ i))
def negI (p : PV) (O : Sto) : PR PV := match p with
  | .int i => .ok (.int (-i)) O
  | _ => .bad
section
variable {K : PySem.W.Frag}
theorem os_add : OpS K (rI0 fun i j => .int (i + j)) addI := os_i0 fun _ _ _ _ => rfl
theorem os_sub : OpS K (rI0 fun i j => .int (i - j)) subI := os_i0 fun _ _ _ _ => rfl
theorem os_mul : OpS K (rI CMul fun i j => .int (i * j)) mulI := os_i (fun _ _ h => by unfold mulOk at h; have e := of_decide_eq_true h; exact e) fun _ _ _ _ => rfl
theorem os_fdiv : OpS K (rI CDiv fun i j => .int (i / j)) fdivI := os_i (fun _ _ h => by unfold divOk at h; have e := of_decide_eq_true h; exact e) fun _ _ _ _ => rfl
theorem os_mod : OpS K (rI (fun _ j => 0 < j) fun i j => .int (i % j)) modI := os_i (fun _ _ h => of_decide_eq_true h) fun _ _ _ _ => rfl
theorem os_pow : OpS K (rI CPow fun i j => .int (i ^ j.toNat)) powI := os_i (fun _ _ h => by unfold powOk at h; have e := of_decide_eq_true h; exact e) fun _ _ _ _ => rfl
theorem os_lt : OpS K (rI0 fun i j => .bl (decide (i < j))) ltI := os_i0 fun _ _ _ _ => rfl
theorem os_le : OpS K (rI0 fun i j => .bl (decide (i ≤ j))) leI := os_i0 fun _ _ _ _ => rfl
theorem os_gt : OpS K (rI0 fun i j => .bl (decide (j < i))) gtI := os_i0 fun _ _ _ _ => rfl
theorem os_ge : OpS K (rI0 fun i j => .bl (decide (j ≤ i))) geI := os_i0 fun _ _ _ _ => rfl
theorem us_neg : UnS K (rU fun i => .int (-i)) negI := by
  intro R ι O H p x E Q S r h
  cases p <;> first | exact h.elim | skip
  rename_i i
  exact ⟨i, r, h.here S rfl⟩
end
/-! ### equality of scalars, is None -/
def scV : PV → Option V
  | .non => some .non
  | .bl b => some (.bl b)
  | .int i => some (.int i)
  | .str z => some (.str z)
  | _ => none
theorem scV_rep {K : PySem.W.Frag} {ι : List Addr} {G : Hp} {p : PV} {v x : V} (e : scV p = some v) (r : Rep K ι G p x) : x = v := by
  cases p <;> first | (cases e; exact r) | cases e
def scB (p q : PV) : Bool := match scV p, scV q with
  | some v, some w => scal v w
  | _, _ => false
def scD (p q : PV) : Bool := match scV p, scV q with
  | some v, some w => decide (v = w)
  | _, _ => false
def eqS (p q : PV) (O : Sto) : PR PV := if scB p q = true then .ok (.bl (scD p q)) O else .bad
def neS (p q : PV) (O : Sto) : PR PV := if scB p q = true then .ok (.bl (!scD p q)) O else .bad
def isNon : PV → Bool
  | .non => true
  | _ => false
def isN (p q : PV) (O : Sto) : PR PV := match q with
  | .non => .ok (.bl (isNon p)) O
  | _ => .bad
def notN (p q : PV) (O : Sto) : PR PV := match q with
  | .non => .ok (.bl (!isNon p)) O
  | _ => .bad
section
variable {K : PySem.W.Frag}
theorem sc_two {ι : List Addr} {G : Hp} {p q : PV} {x y : V} (c : scB p q = true) (r1 : Rep K ι G p x) (r2 : Rep K ι G q y) : scal x y = true ∧ decide (x = y) = scD p q := by
  unfold scB at c
  unfold scD
  cases e1 : scV p with
  | none => simp [e1] at c
  | some v =>
    cases e2 : scV q with
    | none => simp [e1, e2] at c
    | some w =>
      simp only [e1, e2] at c ⊢
      rw [scV_rep e1 r1, scV_rep e2 r2]
      exact ⟨c, rfl⟩
theorem os_eqS : OpS K rEq eqS := by
  intro R ι O H p q x y E Q S r1 r2 h
  unfold eqS at h
  split at h
  · rename_i c
    obtain ⟨h1, h2⟩ := sc_two c r1 r2
    exact ⟨h1, by rw [h2]; exact h.here S rfl⟩
  · exact h.elim
theorem os_neS : OpS K rNe neS := by
  intro R ι O H p q x y E Q S r1 r2 h
  unfold neS at h
  split at h
  · rename_i c
    obtain ⟨h1, h2⟩ := sc_two c r1 r2
    exact ⟨h1, by rw [h2]; exact h.here S rfl⟩
  · exact h.elim
theorem isNon_rep {ι : List Addr} {G : Hp} {p : PV} {x : V} (r : Rep K ι G p x) : decide (x = .non) = isNon p := by
  cases p with
  | non => rw [show x = .non from r]; rfl
  | bl b => rw [show x = .bl b from r]; rfl
  | int b => rw [show x = .int b from r]; rfl
  | str b => rw [show x = .str b from r]; rfl
  | ty b => rw [show x = .ty b from r]; rfl
  | cls b => rw [show x = .ref _ from r]; rfl
  | tup b => obtain ⟨a, xs, e, _⟩ := r; rw [e]; rfl
  | lst b => obtain ⟨a, xs, e, _⟩ := r; rw [e]; rfl
  | rol b => obtain ⟨a, xs, e, _⟩ := r; rw [e]; rfl
  | ins b c d => obtain ⟨a, dx, xs, e, _⟩ := r; rw [e]; rfl
  | rng b c => obtain ⟨a, e, _⟩ := r; rw [e]; rfl
  | loc b => obtain ⟨a, e, _⟩ := r; rw [e]; rfl
  | dic _ _ => obtain ⟨a, kvs, e, _⟩ := r; rw [e]; rfl
  | sti _ => exact r.elim
  | xc _ _ _ => obtain ⟨a, oe, xs, e, _⟩ := r; rw [e]; rfl
theorem os_isN : OpS K (fun x y H Q => y = .non ∧ Q (.bl (decide (x = .non))) H) isN := by
  intro R ι O H p q x y E Q S r1 r2 h
  cases q <;> first | exact h.elim | skip
  exact ⟨r2, by rw [isNon_rep r1]; exact h.here S rfl⟩
theorem os_notN : OpS K (fun x y H Q => y = .non ∧ Q (.bl (!decide (x = .non))) H) notN := by
  intro R ι O H p q x y E Q S r1 r2 h
  cases q <;> first | exact h.elim | skip
  exact ⟨r2, by rw [isNon_rep r1]; exact h.here S rfl⟩
end
/-! ### deep equality -/
mutual
def toD0 : PV → Option PyData
  | .non => some .none
  | .bl b => some (.bool b)
  | .int i => some (.int i)
  | .str z => some (.str z)
  | .tup ps => (toDL ps).map .tuple
  | .lst ps => (toDL ps).map .list
  | .rol ps => (toDL ps).map .list
  | _ => none
def toDL : List PV → Option (List PyData)
  | [] => some []
  | p :: ps => match toD0 p, toDL ps with
    | some d, some ds => some (d :: ds)
    | _, _ => none
end
def toD (O : Sto) : PV → Option PyData
  | .loc n => match O[n]? with
    | some (some (.lst ps)) => (toDL ps).map .list
    | _ => none
  | p => toD0 p
section
variable {K : PySem.W.Frag} {ι : List Addr} {G H : Hp}
mutual
theorem toD0_dp (e : Same G H) : ∀ (p : PV) (x : V) (d : PyData), Rep K ι G p x → toD0 p = some d → Dp K H x d
  | .non, _, _, r, h => by cases r; cases h; exact .non
  | .bl _, _, _, r, h => by cases r; cases h; exact .bl _
  | .int _, _, _, r, h => by cases r; cases h; exact .int _
  | .str _, _, _, r, h => by cases r; cases h; exact .str _
  | .tup ps, _, _, ⟨a, xs, h1, h2, h3⟩, h => by
    subst h1
    obtain ⟨ds, h4, h5⟩ := Option.map_eq_some_iff.mp (show (toDL ps).map PyData.tuple = some _ by unfold toD0 at h; exact h)
    subst h5
    exact .tup (sqt_same e h2) (toDL_dp e ps xs ds h3 h4)
  | .lst ps, _, _, ⟨a, xs, h1, h2, h3⟩, h => by
    subst h1
    obtain ⟨ds, h4, h5⟩ := Option.map_eq_some_iff.mp (show (toDL ps).map PyData.list = some _ by unfold toD0 at h; exact h)
    subst h5
    exact .lst (SqL.of (e _ _ h2)) (toDL_dp e ps xs ds h3 h4)
  | .rol ps, _, _, ⟨a, xs, h1, h2, h3⟩, h => by
    subst h1
    obtain ⟨ds, h4, h5⟩ := Option.map_eq_some_iff.mp (show (toDL ps).map PyData.list = some _ by unfold toD0 at h; exact h)
    subst h5
    exact .lst (e.seq h2) (toDL_dp e ps xs ds h3 h4)
  | .ty _, _, _, _, h => by cases h
  | .cls _, _, _, _, h => by cases h
  | .ins _ _ _, _, _, _, h => by cases h
  | .rng _ _, _, _, _, h => by cases h
  | .loc _, _, _, _, h => by cases h
  | .dic _ _, _, _, _, h => by cases h
  | .sti _, _, _, _, h => by cases h
  | .xc _ _ _, _, _, _, h => by cases h
theorem toDL_dp (e : Same G H) : ∀ (ps : List PV) (xs : List V) (ds : List PyData), RepL K ι G ps xs → toDL ps = some ds → DpAll K H xs ds
  | [], _, _, r, h => by cases r; cases h; exact .nil
  | p :: ps, _, ds, ⟨x, r, h1, h2, h3⟩, h => by
    subst h1
    unfold toDL at h
    cases e1 : toD0 p with
    | none => simp [e1] at h
    | some d =>
      cases e2 : toDL ps with
      | none => simp [e1, e2] at h
      | some ds' =>
        simp only [e1, e2, Option.some.injEq] at h
        subst h
        exact .cons (toD0_dp e p x d h2 e1) (toDL_dp e ps r ds' h3 e2)
end
end
theorem toD_dp {K : PySem.W.Frag} {R : List (Addr × HO)} {ι : List Addr} {O : Sto} {H : Hp} {p : PV} {x : V} {d : PyData} (S : Sim K R ι O H) (r : Rep K ι (fz R ι O H) p x) (e : toD O p = some d) : Dp K H x d := by
  cases p with
  | loc n =>
    unfold toD at e
    obtain ⟨a, xs, h1, h2, h3⟩ : ∃ (a : Addr) (qs : List PV), lstT O (.loc n) = some qs ∧ (toDL qs).map PyData.list = some d ∧ True := by
      cases q : O[n]? with
      | none => simp [q] at e
      | some y =>
        cases y with
        | none => simp [q] at e
        | some z =>
          cases z with
          | lst qs => simp only [q] at e; exact ⟨0, qs, by simp [lstT, q], e, trivial⟩
          | _ => simp [q] at e
    obtain ⟨b, ys, h5, h6, h7⟩ := lstT_read S r h1
    obtain ⟨ds, h8, h9⟩ := Option.map_eq_some_iff.mp h2
    subst h5
    subst h9
    exact .lst (SqL.of h6) (toDL_dp S.frozen xs ys ds h7 h8)
  | _ => exact toD0_dp S.frozen _ x d r e
def eqD (p q : PV) (O : Sto) : PR PV := match toD O p, toD O q with
  | some d, some e => if (SeqAt.shaped d && SeqAt.shaped e) = true then .ok (.bl (PyData.eqv d e)) O else .bad
  | _, _ => .bad
def neD (p q : PV) (O : Sto) : PR PV := match toD O p, toD O q with
  | some d, some e => if (SeqAt.shaped d && SeqAt.shaped e) = true then .ok (.bl (!PyData.eqv d e)) O else .bad
  | _, _ => .bad
section
variable {K : PySem.W.Frag}
theorem os_eqD : OpS K (rEqD K) eqD := by
  intro R ι O H p q x y E Q S r1 r2 h
  unfold eqD at h
  cases e1 : toD O p with
  | none => simp [e1] at h; exact h.elim
  | some d =>
    cases e2 : toD O q with
    | none => simp [e1, e2] at h; exact h.elim
    | some e =>
      simp only [e1, e2] at h
      split at h
      · rename_i c
        obtain ⟨c1, c2⟩ := Bool.and_eq_true_iff.mp c
        exact ⟨d, e, toD_dp S r1 e1, toD_dp S r2 e2, c1, c2, h.here S rfl⟩
      · exact h.elim
theorem os_neD : OpS K (rNeD K) neD := by
  intro R ι O H p q x y E Q S r1 r2 h
  unfold neD at h
  cases e1 : toD O p with
  | none => simp [e1] at h; exact h.elim
  | some d =>
    cases e2 : toD O q with
    | none => simp [e1, e2] at h; exact h.elim
    | some e =>
      simp only [e1, e2] at h
      split at h
      · rename_i c
        obtain ⟨c1, c2⟩ := Bool.and_eq_true_iff.mp c
        exact ⟨d, e, toD_dp S r1 e1, toD_dp S r2 e2, c1, c2, h.here S rfl⟩
      · exact h.elim
end
/-! ### items, slices, sums of sequences, in -/
def ixL (p q : PV) (O : Sto) : PR PV := match lstOf O p, q with
  | some ps, .int i => match atI ps i with
    | some r => .ok r O
    | none => .bad
  | _, _ => .bad
def ixT (p q : PV) (O : Sto) : PR PV := match tupOf p, q with
  | some ps, .int i => match atI ps i with
    | some r => .ok r O
    | none => .bad
  | _, _ => .bad
theorem atI_rep {K : PySem.W.Frag} {ι : List Addr} {G : Hp} {ps : List PV} {xs : List V} {i : Int} {r : PV} (h : RepL K ι G ps xs) (e : atI ps i = some r) : ∃ v, atI xs i = some v ∧ Rep K ι G r v := by
  unfold atI at e ⊢
  rw [h.len]
  obtain ⟨j, h1, h2⟩ := Option.bind_eq_some_iff.mp e
  obtain ⟨v, h3, h4⟩ := h.get h2
  exact ⟨v, by rw [h1]; exact h3, h4⟩
def cutP (ps : List PV) (lo hi : Option Int) : List PV := (ps.drop (HT.sIx ps.length 0 lo)).take (HT.sIx ps.length ps.length hi - HT.sIx ps.length 0 lo)
theorem cut_rep {K : PySem.W.Frag} {ι : List Addr} {G : Hp} {ps : List PV} {xs : List V} {lo hi : Option Int} (h : RepL K ι G ps xs) : RepL K ι G (cutP ps lo hi) (cutV xs lo hi) := by
  unfold cutP cutV
  rw [h.len]
  exact (h.drop _).take _
abbrev OF := Slots → Sto → PR (Option Int)
def SimO (K : PySem.W.Frag) (E : XM) (t : TO) (f : OF) : Prop := ∀ R ι O H σ s Q, Sim K R ι O H → SlR K ι (fz R ι O H) σ s → Post K R (xat E σ) (fun _ _ a b => a = b) ι O H Q (f s O) → t σ H Q
def oNo : OF := fun _ O => .ok none O
def oSo (f : EF) : OF := fun s O => (f s O).bind fun p O1 => match p with
  | .int i => .ok (some i) O1
  | _ => .bad
def eSl (g : PV → Option Int → Option Int → Sto → PR PV) (f : EF) (l h : OF) : EF := fun s O => (f s O).bind fun p O1 => (l s O1).bind fun i O2 => (h s O2).bind fun j O3 => g p i j O3
def SlS (K : PySem.W.Frag) (r : V → Option Int → Option Int → Hp → VK → Prop) (g : PV → Option Int → Option Int → Sto → PR PV) : Prop := ∀ R ι O H p x i j E Q, Sim K R ι O H → Rep K ι (fz R ι O H) p x → Post K R E (Rep K) ι O H Q (g p i j O) → r x i j H Q
def slL (p : PV) (i j : Option Int) (O : Sto) : PR PV := match lstOf O p with
  | some ps => .ok (.lst (cutP ps i j)) O
  | none => .bad
def slLO (p : PV) (i j : Option Int) (O : Sto) : PR PV := match lstOf O p with
  | some ps => .ok (.loc O.length) (O ++ [some (.lst (cutP ps i j))])
  | none => .bad
def slT (p : PV) (i j : Option Int) (O : Sto) : PR PV := match tupOf p with
  | some ps => if (HT.sIx ps.length 0 i == 0 && HT.sIx ps.length ps.length j == ps.length) = true then .bad else .ok (.tup (cutP ps i j)) O
  | none => .bad
def catT (p q : PV) (O : Sto) : PR PV := match tupOf p, tupOf q with
  | some ps, some qs => if (!ps.isEmpty && !qs.isEmpty && szOk (ps.length + qs.length)) = true then .ok (.tup (ps ++ qs)) O else .bad
  | _, _ => .bad
def catL (p q : PV) (O : Sto) : PR PV := match lstT O p, lstT O q with
  | some ps, some qs => if szOk (ps.length + qs.length) = true then .ok (.lst (ps ++ qs)) O else .bad
  | _, _ => .bad
def catLO (p q : PV) (O : Sto) : PR PV := match lstT O p, lstT O q with
  | some ps, some qs => if szOk (ps.length + qs.length) = true then .ok (.loc O.length) (O ++ [some (.lst (ps ++ qs))]) else .bad
  | _, _ => .bad
section
variable {K : PySem.W.Frag} {E : XM} {te : TE} {fe : EF} {tl th : TO} {fl fh : OF}
theorem os_ixL : OpS K (rIxL K) ixL := by
  intro R ι O H p q x y E Q S r1 r2 h
  unfold ixL at h
  cases e1 : lstOf O p with
  | none => simp [e1] at h; exact h.elim
  | some ps =>
    cases q with
    | int i =>
      simp only [e1] at h
      cases e2 : atI ps i with
      | none => simp [e2] at h; exact h.elim
      | some r =>
        simp only [e2] at h
        obtain ⟨a, xs, h1, h2, h3⟩ := lst_read S r1 e1
        obtain ⟨v, h4, h5⟩ := atI_rep h3 e2
        exact ⟨a, xs, i, v, h1, r2, h2, h4, h.here S h5⟩
    | _ => simp [e1] at h; exact h.elim
theorem os_ixT : OpS K (rIxT K) ixT := by
  intro R ι O H p q x y E Q S r1 r2 h
  unfold ixT at h
  cases e1 : tupOf p with
  | none => simp [e1] at h; exact h.elim
  | some ps =>
    cases q with
    | int i =>
      simp only [e1] at h
      cases e2 : atI ps i with
      | none => simp [e2] at h; exact h.elim
      | some r =>
        simp only [e2] at h
        obtain ⟨a, xs, h1, h2, h3⟩ := tup_read S r1 e1
        obtain ⟨v, h4, h5⟩ := atI_rep h3 e2
        exact ⟨a, xs, i, v, h1, r2, h2, h4, h.here S h5⟩
    | _ => simp [e1] at h; exact h.elim
theorem sim_noP : SimO K E tNoPart oNo := fun R ι O H σ s Q S L h => h.here S rfl
theorem sim_part (he : SimE K E te fe) : SimO K E (tPart te) (oSo fe) := fun R ι O H σ s Q S L h =>
  he R ι O H σ s _ S L (h.bind fun p O1 x ι1 H1 S1 X1 r1 h1 => by
    cases p with
    | int i => exact ⟨i, r1, h1.here S1 rfl⟩
    | _ => exact h1.elim)
theorem sim_sl {r : V → Option Int → Option Int → Hp → VK → Prop} {g : PV → Option Int → Option Int → Sto → PR PV} (hg : SlS K r g) (he : SimE K E te fe) (hl : SimO K E tl fl) (hh : SimO K E th fh) : SimE K E (tSl r te tl th) (eSl g fe fl fh) := fun R ι O H σ s Q S L h =>
  he R ι O H σ s _ S L (h.bind fun p O1 x ι1 H1 S1 X1 r1 h1 => hl R ι1 O1 H1 σ s _ S1 (L.ext X1) (h1.bind fun i O2 i' ι2 H2 S2 X2 r2 h2 => by
    subst r2
    exact hh R ι2 O2 H2 σ s _ S2 (L.ext (X1.trans X2)) (h2.bind fun j O3 j' ι3 H3 S3 X3 r3 h3 => by
      subst r3
      exact hg R ι3 O3 H3 p x i j _ _ S3 ((X2.trans X3).rep r1) h3)))
theorem ss_L : SlS K (rSlL K) slL := by
  intro R ι O H p x i j E Q S r h
  unfold slL at h
  cases e : lstOf O p with
  | none => simp [e] at h; exact h.elim
  | some ps =>
    simp only [e] at h
    obtain ⟨a, xs, h1, h2, h3⟩ := lst_read S r e
    refine ⟨a, xs, h1, h2, fun q hq => ?_⟩
    obtain ⟨S2, X2, e2⟩ := S.newF hq (.lst (cutV xs i j))
    exact h.at S2 X2 ⟨q, _, rfl, e2, X2.repL (cut_rep h3)⟩
theorem ss_LO : SlS K (rSlL K) slLO := by
  intro R ι O H p x i j E Q S r h
  unfold slLO at h
  cases e : lstOf O p with
  | none => simp [e] at h; exact h.elim
  | some ps =>
    simp only [e] at h
    obtain ⟨a, xs, h1, h2, h3⟩ := lst_read S r e
    refine ⟨a, xs, h1, h2, fun q hq => ?_⟩
    obtain ⟨S2, X2⟩ := S.newO (p := .lst (cutP ps i j)) hq (o := .lst (cutV xs i j)) ⟨_, rfl, cut_rep h3⟩
    exact h.at S2 X2 ⟨q, rfl, new_at S.len⟩
theorem ss_T : SlS K (rSlT K) slT := by
  intro R ι O H p x i j E Q S r h
  unfold slT at h
  cases e : tupOf p with
  | none => simp [e] at h; exact h.elim
  | some ps =>
    simp only [e] at h
    split at h
    · exact h.elim
    · rename_i c
      obtain ⟨a, xs, h1, h2, h3⟩ := tup_read S r e
      refine ⟨a, xs, h1, h2, fun z => c ?_, fun q hq => ?_⟩
      · rw [h3.len] at z
        simp [z.1, z.2]
      · obtain ⟨S2, X2, e2⟩ := S.newF hq (.tup (cutV xs i j))
        exact h.at S2 X2 ⟨q, _, rfl, SqT.of e2, X2.repL (cut_rep h3)⟩
theorem ne_nil {α : Type} {l : List α} (h : (!l.isEmpty) = true) : l ≠ [] := fun e => by rw [e] at h; simp at h
theorem len_ne {α β : Type} {l : List α} {m : List β} (h : m.length = l.length) (e : l ≠ []) : m ≠ [] := fun z => e (List.length_eq_zero_iff.mp (by rw [← h, z]; rfl))
theorem os_catT : OpS K (rCatT K) catT := by
  intro R ι O H p q x y E Q S r1 r2 h
  unfold catT at h
  cases e1 : tupOf p with
  | none => simp [e1] at h; exact h.elim
  | some ps =>
    cases e2 : tupOf q with
    | none => simp [e1, e2] at h; exact h.elim
    | some qs =>
      simp only [e1, e2] at h
      split at h
      · rename_i c
        obtain ⟨c1, c2⟩ := Bool.and_eq_true_iff.mp c
        obtain ⟨c3, c4⟩ := Bool.and_eq_true_iff.mp c1
        obtain ⟨a, xs, h1, h2, h3⟩ := tup_read S r1 e1
        obtain ⟨b, ys, h4, h5, h6⟩ := tup_read S r2 e2
        refine ⟨a, b, xs, ys, h1, h4, h2, h5, len_ne h3.len (ne_nil c3), by rw [h3.len, h6.len]; exact szOk_le c2, fun z => absurd z (len_ne h6.len (ne_nil c4)), fun _ o ho => ?_⟩
        obtain ⟨S2, X2, e2⟩ := S.newF ho (.tup (xs ++ ys))
        exact h.at S2 X2 ⟨o, _, rfl, SqT.of e2, X2.repL (h3.app h6)⟩
      · exact h.elim
theorem os_catL : OpS K rCat catL := by
  intro R ι O H p q x y E Q S r1 r2 h
  unfold catL at h
  cases e1 : lstT O p with
  | none => simp [e1] at h; exact h.elim
  | some ps =>
    cases e2 : lstT O q with
    | none => simp [e1, e2] at h; exact h.elim
    | some qs =>
      simp only [e1, e2] at h
      split at h
      · rename_i c
        obtain ⟨a, xs, h1, h2, h3⟩ := lstT_read S r1 e1
        obtain ⟨b, ys, h4, h5, h6⟩ := lstT_read S r2 e2
        refine ⟨a, b, xs, ys, h1, h4, h2, h5, by rw [h3.len, h6.len]; exact szOk_le c, fun o ho => ?_⟩
        obtain ⟨S2, X2, e2⟩ := S.newF ho (.lst (xs ++ ys))
        exact h.at S2 X2 ⟨o, _, rfl, e2, X2.repL (h3.app h6)⟩
      · exact h.elim
theorem os_catLO : OpS K rCat catLO := by
  intro R ι O H p q x y E Q S r1 r2 h
  unfold catLO at h
  cases e1 : lstT O p with
  | none => simp [e1] at h; exact h.elim
  | some ps =>
    cases e2 : lstT O q with
    | none => simp [e1, e2] at h; exact h.elim
    | some qs =>
      simp only [e1, e2] at h
      split at h
      · rename_i c
        obtain ⟨a, xs, h1, h2, h3⟩ := lstT_read S r1 e1
        obtain ⟨b, ys, h4, h5, h6⟩ := lstT_read S r2 e2
        refine ⟨a, b, xs, ys, h1, h4, h2, h5, by rw [h3.len, h6.len]; exact szOk_le c, fun o ho => ?_⟩
        obtain ⟨S2, X2⟩ := S.newO (p := .lst (ps ++ qs)) ho (o := .lst (xs ++ ys)) ⟨_, rfl, h3.app h6⟩
        exact h.at S2 X2 ⟨o, rfl, new_at S.len⟩
      · exact h.elim
end
/-! ### targets -/
def gTupP (n : Nat) (gs : List PV → Slots → Sto → PR Slots) : GF := fun p s O => match tupOf p with
  | some ps => if ps.length = n then gs ps s O else .bad
  | none => .bad
def gNilP (ps : List PV) (s : Slots) (O : Sto) : PR Slots := match ps with
  | [] => .ok s O
  | _ => .bad
def gConsP (g : GF) (gs : List PV → Slots → Sto → PR Slots) (ps : List PV) (s : Slots) (O : Sto) : PR Slots := match ps with
  | p :: r => (g p s O).bind fun s1 O1 => gs r s1 O1
  | [] => .bad
def SimGs (K : PySem.W.Frag) (E : XM) (g : TGs) (f : List PV → Slots → Sto → PR Slots) : Prop := ∀ R ι O H σ s ps xs E' Q, Sim K R ι O H → SlR K ι (fz R ι O H) σ s → RepL K ι (fz R ι O H) ps xs → Post K R E' (fun ι G s σ => SlR K ι G σ s) ι O H Q (f ps s O) → g xs σ H Q
/-- a target that raises nothing -/
def SimG0 (K : PySem.W.Frag) (g : TG) (f : GF) : Prop := ∀ R ι O H σ s p x E Q, Sim K R ι O H → SlR K ι (fz R ι O H) σ s → Rep K ι (fz R ι O H) p x → Post K R E (fun ι G s σ => SlR K ι G σ s) ι O H Q (f p s O) → g x σ H Q
section
variable {K : PySem.W.Frag} {E : XM} {g : TG} {f : GF} {gs : TGs} {fs : List PV → Slots → Sto → PR Slots}
theorem sim_g0 (h : SimG0 K g f) : SimG K E g f := fun R ι O H σ s p x Q S L r q => h R ι O H σ s p x _ Q S L r q
theorem g0_nm {i : Nat} : SimG0 K (gName i) (gNm i) := fun R ι O H σ s p x E Q S L r h => h.here S (L.set i r)
theorem g0_nil : SimGs K E gNil gNilP := by
  intro R ι O H σ s ps xs E' Q S L r h
  cases ps with
  | nil => exact ⟨r, h.here S L⟩
  | cons p ps => exact h.elim
theorem g0_cons (h1 : SimG0 K g f) (h2 : SimGs K E gs fs) : SimGs K E (gCons g gs) (gConsP f fs) := by
  intro R ι O H σ s ps xs E' Q S L r h
  cases ps with
  | nil => exact h.elim
  | cons p ps =>
    obtain ⟨x, r', e, r1, r2⟩ := r
    refine ⟨x, r', e, h1 R ι O H σ s p x E' _ S L r1 (Post.bind (rp' := fun ι G s σ => SlR K ι G σ s) h fun s1 O1 σ1 ι1 H1 S1 X1 L1 k => h2 R ι1 O1 H1 σ1 s1 ps r' E' Q S1 L1 (X1.repL r2) k)⟩
theorem g0_tup {n : Nat} (h : SimGs K E gs fs) : SimG0 K (gTup K n gs) (gTupP n fs) := by
  intro R ι O H σ s p x E' Q S L r k
  unfold gTupP at k
  cases e : tupOf p with
  | none => simp [e] at k; exact k.elim
  | some ps =>
    simp only [e] at k
    split at k
    · rename_i c
      obtain ⟨a, xs, h1, h2, h3⟩ := tup_read S r e
      exact ⟨a, xs, h1, h2, by rw [h3.len]; exact c, h R ι O H σ s ps xs E' Q S L h3 k⟩
    · exact k.elim
end
/-- xs[i] = v of a list that changes -/
def gSubL (fo fi : EF) : GF := fun v s O => (fo s O).bind fun p O1 => (fi s O1).bind fun q O2 => match p, q with
  | .loc n, .int k => match O2[n]? with
    | some (some (.lst ps)) => match ixN ps.length k with
      | some j => .ok s (O2.set n (some (.lst (ps.set j v))))
      | none => .bad
    | _ => .bad
  | _, _ => .bad
section
variable {K : PySem.W.Frag} {E : XM} {to ti : TE} {fo fi : EF}
theorem sim_gSubL (ho : SimE K E to fo) (hi : SimE K E ti fi) : SimG K E (gSub to ti rSetL) (gSubL fo fi) := by
  intro R ι O H σ s v x Q S L rv h
  refine ho R ι O H σ s _ S L (Post.bind (rp' := fun ι G s σ => SlR K ι G σ s) h fun p O1 y ι1 H1 S1 X1 r1 h1 => hi R ι1 O1 H1 σ s _ S1 (L.ext X1) (Post.bind (rp' := fun ι G s σ => SlR K ι G σ s) h1 fun q O2 z ι2 H2 S2 X2 r2 h2 => ?_))
  cases p with
  | loc n =>
    cases q with
    | int k =>
      simp only at h2
      cases e : O2[n]? with
      | none => simp [e] at h2; exact h2.elim
      | some w =>
        cases w with
        | none => simp [e] at h2; exact h2.elim
        | some w =>
          cases w with
          | lst ps =>
            simp only [e] at h2
            cases e2 : ixN ps.length k with
            | none => simp [e2] at h2; exact h2.elim
            | some j =>
              simp only [e2] at h2
              obtain ⟨a, h3, h4⟩ := X2.rep r1
              obtain ⟨o, h5, xs, h6, h7⟩ := S2.obj n a _ h4 e
              subst h6
              obtain ⟨S3, X3⟩ := S2.change h4 e (p' := .lst (ps.set j v)) (o' := .lst (xs.set j x)) ⟨_, rfl, h7.set ((X1.trans X2).rep rv)⟩
              exact ⟨a, xs, k, j, h3, r2, h5, by rw [h7.len]; exact e2, h2.at S3 X3 (L.ext ((X1.trans X2).trans X3))⟩
          | _ => simp [e] at h2; exact h2.elim
    | _ => exact h2.elim
  | _ => exact h2.elim
end
end Qx

/-! Own layer Q4: fields, methods, new instances, isinstance, built-ins, loops, comprehensions. -/
namespace Qx
open PySem PySem.Spec PyProof.Rows L2 Gx
def noX {α : Type} (r : PR α) : PR α := match r with
  | .exc _ _ => .bad
  | r => r
theorem Post.noX {α β : Type} {K : PySem.W.Frag} {R : List (Addr × HO)} {E E' : Option XK} {rp : List Addr → Hp → α → β → Prop} {ι : List Addr} {O : Sto} {H : Hp} {Q : β → Hp → Prop} {r : PR α} (h : Post K R E rp ι O H Q (Qx.noX r)) : Post K R E' rp ι O H Q r := by
  cases r with
  | ok a O' => exact h
  | exc e O' => exact h.elim
  | bad => exact h
/-! ### fields and methods -/
def eFld (C f : Str) (a : EF) : EF := fun s O => (a s O).bind fun p O1 => match insOf O1 p with
  | some (C', ns, ps) => if C' = C then match (ns.zip ps).lookup f with
    | some q => .ok q O1
    | none => .bad else .bad
  | none => .bad
def eMeth (C m : Str) (mf : MF) (dps : List PV) (a : EF) (b : AF) : EF := fun s O => (a s O).bind fun p O1 => match insOf O1 p with
  | some (C', ns, qs) => if C' = C ∧ ((ns.zip qs).lookup m).isNone = true then (b s O1).bind fun ps O2 => mf (p :: (ps ++ dps)) O2 else .bad
  | none => .bad
def eMethK (C m : Str) (mf : MF) (n k : Nat) (gP : List PV → List PV → List PV) (a : EF) (b z : AF) : EF := fun s O => (a s O).bind fun p O1 => match insOf O1 p with
  | some (C', ns, qs) => if C' = C ∧ ((ns.zip qs).lookup m).isNone = true then (b s O1).bind fun ps O2 => (z s O2).bind fun zs O3 => if ps.length + 1 = n ∧ zs.length = k then mf (gP (p :: ps) zs) O3 else .bad else .bad
  | none => .bad
section
variable {K : PySem.W.Frag} {E : XM} {ta : TE} {fa : EF} {tA tZ : TA} {fA fZ : AF} {C f m : Str} {mf : MF} {dps : List PV} {dvs : List V}
theorem sim_fld (c : Cls K (He.ga K C)) (no : NoAttr K (He.ga K C) f) (ha : SimE K E ta fa) : SimE K E (tFld K ta f) (eFld C f fa) := fun R ι O H σ s Q S L h =>
  ha R ι O H σ s _ S L (h.bind fun p O1 x ι1 H1 S1 X1 r1 h1 => by
    cases e : insOf O1 p with
    | none => simp [e] at h1; exact h1.elim
    | some w =>
      obtain ⟨C', ns, ps⟩ := w
      simp only [e] at h1
      split at h1
      · rename_i ec
        subst ec
        obtain ⟨a, dx, xs, h2, h3, h4, h5⟩ := ins_read S1 r1 e
        cases e2 : (ns.zip ps).lookup f with
        | none => simp [e2] at h1; exact h1.elim
        | some q =>
          simp only [e2] at h1
          obtain ⟨v, h6, h7⟩ := (zip_lookup h5).1 q e2
          exact ⟨a, _, dx, _, v, h2, h3, c, no, h6, h1.here S1 h7⟩
      · exact h1.elim)
theorem sim_meth (ha : SimE K none ta fa) (hA : SimA K none tA fA) (hd : ∀ ι G, RepL K ι G dps dvs) : SimE K none (tMeth (He.ga K C) m (spM K false mf) dvs E0 ta tA) (eMeth C m mf dps fa fA) := fun R ι O H σ s Q S L h =>
  ha R ι O H σ s _ S L (h.bind fun p O1 x ι1 H1 S1 X1 r1 h1 => by
    cases e : insOf O1 p with
    | none => simp [e] at h1; exact h1.elim
    | some w =>
      obtain ⟨C', ns, ps⟩ := w
      simp only [e] at h1
      split at h1
      · rename_i ec
        obtain ⟨ec, en⟩ := ec
        subst ec
        obtain ⟨a, dx, xs, h2, h3, h4, h5⟩ := ins_read S1 r1 e
        exact ⟨a, dx, _, h2, h3, (zip_lookup h5).2 (Option.isNone_iff_eq_none.mp en), hA R ι1 O1 H1 σ s _ S1 (L.ext X1) (h1.bind fun qs O2 ys ι2 H2 S2 X2 r2 h6 => ⟨R, ι2, O2, _, S2, RepL.consR (X2.rep r1) (r2.app (hd _ _)), h6⟩)⟩
      · exact h1.elim)
theorem sim_methK {n k : Nat} {gP : List PV → List PV → List PV} {gV : List V → List V → List V} (ha : SimE K none ta fa) (hA : SimA K none tA fA) (hZ : SimA K none tZ fZ) (hg : ∀ ι G ps vs zs ws, RepL K ι G ps vs → RepL K ι G zs ws → RepL K ι G (gP ps zs) (gV vs ws)) : SimE K none (tMethN (He.ga K C) m n k (spM K false mf) gV E0 ta tA tZ) (eMethK C m mf n k gP fa fA fZ) := fun R ι O H σ s Q S L h =>
  ha R ι O H σ s _ S L (h.bind fun p O1 x ι1 H1 S1 X1 r1 h1 => by
    cases e : insOf O1 p with
    | none => simp [e] at h1; exact h1.elim
    | some w =>
      obtain ⟨C', ns, ps⟩ := w
      simp only [e] at h1
      split at h1
      · rename_i ec
        obtain ⟨ec, en⟩ := ec
        subst ec
        obtain ⟨a, dx, xs, h2, h3, h4, h5⟩ := ins_read S1 r1 e
        refine ⟨a, dx, _, h2, h3, (zip_lookup h5).2 (Option.isNone_iff_eq_none.mp en), hA R ι1 O1 H1 σ s _ S1 (L.ext X1) (h1.bind fun qs O2 ys ι2 H2 S2 X2 r2 h6 => hZ R ι2 O2 H2 σ s _ S2 (L.ext (X1.trans X2)) (h6.bind fun zs O3 ws ι3 H3 S3 X3 r3 h7 => ?_))⟩
        split at h7
        · rename_i cc
          exact ⟨by rw [r2.len]; exact cc.1, by rw [r3.len]; exact cc.2, R, ι3, O3, _, S3, hg _ _ _ _ _ _ (by rw [← h2]; exact RepL.consR ((X2.trans X3).rep r1) (X3.repL r2)) r3, h7⟩
        · exact h7.elim
      · exact h1.elim)
/-! ### own ==, !=, len -/
def insIs (O : Sto) (C : Str) (p : PV) : Bool := match insOf O p with
  | some (C', _, _) => decide (C' = C)
  | none => false
theorem insIs_read {R : List (Addr × HO)} {ι : List Addr} {O : Sto} {H : Hp} {p : PV} {x : V} (S : Sim K R ι O H) (r : Rep K ι (fz R ι O H) p x) (e : insIs O C p = true) : InsAt (He.ga K C) H x := by
  unfold insIs at e
  cases q : insOf O p with
  | none => simp [q] at e
  | some w =>
    obtain ⟨C', ns, ps⟩ := w
    simp only [q, decide_eq_true_eq] at e
    subst e
    obtain ⟨a, dx, xs, h2, h3, _⟩ := ins_read S r q
    exact ⟨a, dx, _, h2, h3⟩
def boolR (neg : Bool) (r : PR PV) : PR PV := (noX r).bind fun p O => match p with
  | .bl b => .ok (.bl (if neg then !b else b)) O
  | _ => .bad
def oeqP (C : Str) (m : MF) (p q : PV) (O : Sto) : PR PV := if (insIs O C p && insIs O C q) = true then boolR false (m [p, q] O) else .bad
def oneP (C : Str) (m : MF) (p q : PV) (O : Sto) : PR PV := if (insIs O C p && insIs O C q) = true then boolR true (m [p, q] O) else .bad
theorem os_oeq : OpS K (rOEq (He.ga K C) (spM K false mf)) (oeqP C mf) := by
  intro R ι O H p q x y E Q S r1 r2 h
  unfold oeqP at h
  split at h
  · rename_i c
    obtain ⟨c1, c2⟩ := Bool.and_eq_true_iff.mp c
    exact ⟨insIs_read S r1 c1, insIs_read S r2 c2, R, ι, O, [p, q], S, .consR r1 (.one r2), Post.noX (E := E) (Post.bind h fun r O1 v ι1 H1 S1 X1 r3 h1 => by
      cases r with
      | bl b => exact ⟨b, r3, h1.here S1 rfl⟩
      | _ => exact h1.elim)⟩
  · exact h.elim
theorem os_one : OpS K (rONe (He.ga K C) (spM K false mf)) (oneP C mf) := by
  intro R ι O H p q x y E Q S r1 r2 h
  unfold oneP at h
  split at h
  · rename_i c
    obtain ⟨c1, c2⟩ := Bool.and_eq_true_iff.mp c
    exact ⟨insIs_read S r1 c1, insIs_read S r2 c2, R, ι, O, [p, q], S, .consR r1 (.one r2), Post.noX (E := E) (Post.bind h fun r O1 v ι1 H1 S1 X1 r3 h1 => by
      cases r with
      | bl b => exact ⟨b, r3, h1.here S1 rfl⟩
      | _ => exact h1.elim)⟩
  · exact h.elim
def olenP (C : Str) (m : MF) (ps : List PV) (O : Sto) : PR PV := match ps with
  | [p] => if insIs O C p = true then (noX (m [p] O)).bind fun r O1 => match r with
    | .int n => if (decide (0 ≤ n) && decide (n < 2 ^ 63)) = true then .ok (.int n) O1 else .bad
    | _ => .bad else .bad
  | _ => .bad
theorem cb_olen : CbS K (rOLen (He.ga K C) (spM K false mf)) (olenP C mf) := by
  intro R ι O H ps xs E Q S r h
  match ps, h with
  | [], h => exact h.elim
  | _ :: _ :: _, h => exact h.elim
  | [p], h =>
    obtain ⟨x, t, e, r1, e2⟩ := r
    cases e2
    subst e
    unfold olenP at h
    simp only at h
    split at h
    · rename_i c
      exact ⟨x, rfl, insIs_read S r1 c, R, ι, O, [p], S, .one r1, Post.noX (E := E) (Post.bind h fun r O1 v ι1 H1 S1 X1 r3 h1 => by
        cases r with
        | int n =>
          simp only at h1
          split at h1
          · rename_i cc
            obtain ⟨c1, c2⟩ := Bool.and_eq_true_iff.mp cc
            exact ⟨n, r3, ⟨of_decide_eq_true c1, of_decide_eq_true c2⟩, h1.here S1 rfl⟩
          · exact h1.elim
        | _ => exact h1.elim)⟩
    · exact h.elim
end
/-! ### new instances: frozen ones, by a builder -/
inductive BR where
  | next (ns : List Str) (ps : List PV) (s : Slots) (O : Sto) | exc (e : PExc) (O : Sto) | bad
abbrev BF := List Str → List PV → Slots → Sto → BR
def BR.bind (r : BR) (k : BF) : BR := match r with
  | .next ns ps s O => k ns ps s O
  | r => r
def hdI (K : PySem.W.Frag) (C : Str) (x dx : Addr) (ns : List Str) (xs : List V) : Addr × HO := (x, .ins (He.ga K C) dx (ns.zip xs))
structure SimI (K : PySem.W.Frag) (C : Str) (R : List (Addr × HO)) (ι : List Addr) (O : Sto) (H : Hp) (x dx : Addr) (ns : List Str) (ps : List PV) (xs : List V) (σ : L2.St) (s : Slots) : Prop where
  S : Sim K (hdI K C x dx ns xs :: R) ι O H
  ln : ns.length = ps.length
  r : RepL K ι (fz (hdI K C x dx ns xs :: R) ι O H) ps xs
  s0 : σ[0]? = some (some (.ref x))
  n0 : ∀ p, s[0]? ≠ some (some p)
  L : SlR K ι (fz (hdI K C x dx ns xs :: R) ι O H) σ s
structure ExtI (K : PySem.W.Frag) (C : Str) (R : List (Addr × HO)) (x dx : Addr) (ι : List Addr) (O : Sto) (H : Hp) (ns : List Str) (xs : List V) (ι' : List Addr) (O' : Sto) (H' : Hp) (ns' : List Str) (xs' : List V) : Prop where
  pre : Pre ι ι'
  same : Same (fz (hdI K C x dx ns xs :: R) ι O H) (fz (hdI K C x dx ns' xs' :: R) ι' O' H')
def PostB (K : PySem.W.Frag) (C : Str) (R : List (Addr × HO)) (x dx : Addr) (ι : List Addr) (O : Sto) (H : Hp) (ns : List Str) (xs : List V) (nx : L2.St → Hp → Prop) : BR → Prop
  | .next ns' ps' s' O' => ∀ σ' ι' H' xs', SimI K C R ι' O' H' x dx ns' ps' xs' σ' s' → ExtI K C R x dx ι O H ns xs ι' O' H' ns' xs' → nx σ' H'
  | _ => False
def SimB (K : PySem.W.Frag) (C : Str) (t : TS) (g : BF) : Prop := ∀ R ι O H x dx ns ps xs σ s (D : Ends), SimI K C R ι O H x dx ns ps xs σ s → PostB K C R x dx ι O H ns xs D.nx (g ns ps s O) → t D σ H
def bSeq (a b : BF) : BF := fun ns ps s O => (a ns ps s O).bind b
def bNil : BF := fun ns ps s O => .next ns ps s O
def bExp (f : EF) : BF := fun ns ps s O => match f s O with
  | .ok _ O1 => .next ns ps s O1
  | .exc e O1 => .exc e O1
  | .bad => .bad
def bFld (f : Str) (e : EF) : BF := fun ns ps s O => match e s O with
  | .ok p O1 => if f ∈ ns ∨ 900 < ns.length then .bad else .next (ns ++ [f]) (ps ++ [p]) s O1
  | .exc e O1 => .exc e O1
  | .bad => .bad
theorem putF_new {f : Str} {v : V} : ∀ {ns : List Str} {xs : List V}, ns.length = xs.length → f ∉ ns → putF f v (ns.zip xs) = (ns ++ [f]).zip (xs ++ [v])
  | [], [], _, _ => rfl
  | [], _ :: _, h, _ => by simp at h
  | _ :: _, [], h, _ => by simp at h
  | n :: ns, x :: xs, h, hn => by
    have e : n ≠ f := fun z => hn (by rw [z]; exact List.mem_cons_self)
    show (if n = f then (n, v) :: ns.zip xs else (n, x) :: putF f v (ns.zip xs)) = _
    rw [if_neg e, putF_new (by simpa using h) fun z => hn (List.mem_cons_of_mem _ z)]
    rfl
section
variable {K : PySem.W.Frag} {C : Str} {ta : TE} {fa : EF} {tS uS : TS} {f g : BF}
theorem ExtI.trans {R : List (Addr × HO)} {x dx : Addr} {ι ι' ι'' : List Addr} {O O' O'' : Sto} {H H' H'' : Hp} {ns ns' ns'' : List Str} {xs xs' xs'' : List V} (a : ExtI K C R x dx ι O H ns xs ι' O' H' ns' xs') (b : ExtI K C R x dx ι' O' H' ns' xs' ι'' O'' H'' ns'' xs'') : ExtI K C R x dx ι O H ns xs ι'' O'' H'' ns'' xs'' := ⟨a.pre.trans b.pre, same_trans a.same b.same⟩
theorem sb_seq (ha : SimB K C tS f) (hb : SimB K C uS g) : SimB K C (tSeq tS uS) (bSeq f g) := fun R ι O H x dx ns ps xs σ s D I h => ha R ι O H x dx ns ps xs σ s _ I (by
  unfold bSeq at h
  cases e : f ns ps s O with
  | next ns' ps' s' O' =>
    rw [e] at h
    intro σ' ι' H' xs' I' X'
    refine hb R ι' O' H' x dx ns' ps' xs' σ' s' D I' ?_
    have h' : PostB K C R x dx ι O H ns xs D.nx (g ns' ps' s' O') := h
    cases e2 : g ns' ps' s' O' with
    | next ns2 ps2 s2 O2 => rw [e2] at h'; exact fun σ2 ι2 H2 xs2 I2 X2 => h' σ2 ι2 H2 xs2 I2 (X'.trans X2)
    | _ => rw [e2] at h'; exact h'.elim
  | _ => rw [e] at h; exact h.elim)
theorem sb_nil : SimB K C tNext bNil := fun R ι O H x dx ns ps xs σ s D I h => h σ ι H xs I ⟨.refl, same_refl⟩
theorem sb_exp (ha : SimE K none ta fa) : SimB K C (tDrop ta) (bExp fa) := fun R ι O H x dx ns ps xs σ s D I h => ha _ ι O H σ s _ I.S I.L (by
  unfold bExp at h
  cases e : fa s O with
  | ok p O1 =>
    rw [e] at h
    exact fun v ι' H' S' X' r' => h σ ι' H' xs ⟨S', I.ln, X'.repL I.r, I.s0, I.n0, I.L.ext X'⟩ ⟨X'.pre, X'.same⟩
  | _ => rw [e] at h; exact h.elim)
theorem sb_fld {f : Str} (c : Cls K (He.ga K C)) (no : NoAttr K (He.ga K C) f) (ha : SimE K none ta fa) : SimB K C (sFld K (tVar 0) ta f) (bFld f fa) := fun R ι O H x dx ns ps xs σ s D I h => ha _ ι O H σ s _ I.S I.L (by
  unfold bFld at h
  cases e : fa s O with
  | ok p O1 =>
    rw [e] at h
    simp only at h
    split at h
    · exact h.elim
    · rename_i cc
      have c1 : f ∉ ns := fun z => cc (.inl z)
      have c2 : ns.length ≤ 900 := Nat.le_of_not_lt fun z => cc (.inr z)
      intro v ι' H' S' X' r'
      have hx := S'.hid _ List.mem_cons_self
      have hlen : ns.length = xs.length := by rw [I.r.len]; exact I.ln
      refine ⟨.ref x, I.s0, x, _, dx, _, rfl, hx, c, no, ?_, ?_⟩
      · rw [List.length_zip]; omega
      · obtain ⟨S2, e2⟩ := S'.hid_set (.ins (He.ga K C) dx ((ns ++ [f]).zip (xs ++ [v])))
        have e2 : fz (hdI K C x dx (ns ++ [f]) (xs ++ [v]) :: R) ι' O1 (upd H' x (.ins (He.ga K C) dx ((ns ++ [f]).zip (xs ++ [v])))) = fz (hdI K C x dx ns xs :: R) ι' O1 H' := e2
        rw [putF_new hlen c1]
        have er : RepL K ι' (fz (hdI K C x dx (ns ++ [f]) (xs ++ [v]) :: R) ι' O1 (upd H' x (.ins (He.ga K C) dx ((ns ++ [f]).zip (xs ++ [v]))))) (ps ++ [p]) (xs ++ [v]) := by
          have q := (X'.repL I.r).app (.one r')
          rw [← e2] at q
          exact q
        refine h σ ι' _ (xs ++ [v]) ⟨S2, by rw [List.length_append, List.length_append, I.ln]; rfl, er, I.s0, I.n0, ?_⟩ ⟨X'.pre, ?_⟩
        · have q := I.L.ext X'
          rw [← e2] at q
          exact q
        · have q := X'.same
          rw [← e2] at q
          exact q
  | _ => rw [e] at h; exact h.elim)
/-- a builder's def: the parameters behind self -/
def mkInit (n N : Nat) (body : BF) (ps : List PV) (O : Sto) : PR (List Str × List PV) :=
  if ps.length = n then match body [] [] (none :: ps.map some ++ List.replicate (N - (n + 1)) none) O with
    | .next ns qs _ O' => .ok (ns, qs) O'
    | .exc e O' => .exc e O'
    | .bad => .bad
  else .bad
def spI (K : PySem.W.Frag) (C : Str) (m : List PV → Sto → PR (List Str × List PV)) : Sp := fun vs H Q _ => ∃ (x dx : Addr) (us : List V) (R : List (Addr × HO)) (ι : List Addr) (O : Sto) (ps : List PV), vs = .ref x :: us ∧ Sim K (hdI K C x dx [] [] :: R) ι O H ∧ RepL K ι (fz (hdI K C x dx [] [] :: R) ι O H) ps us ∧
  match m ps O with
  | .ok (ns, qs) O' => ∀ ι' H' xs, Sim K (hdI K C x dx ns xs :: R) ι' O' H' → Pre ι ι' → Same (fz (hdI K C x dx [] [] :: R) ι O H) (fz (hdI K C x dx ns xs :: R) ι' O' H') → ns.length = qs.length → RepL K ι' (fz (hdI K C x dx ns xs :: R) ι' O' H') qs xs → Q .non H'
  | _ => False
theorem spI_len {n N : Nat} {body : BF} {vs : List V} {H : Hp} {Q : VK} {E : XK} (h : spI K C (mkInit n N body) vs H Q E) : vs.length = n + 1 := by
  obtain ⟨x, dx, us, R, ι, O, ps, e, S, r, h⟩ := h
  unfold mkInit at h
  by_cases c : ps.length = n
  · rw [e, List.length_cons, r.len, c]
  · rw [if_neg c] at h; exact h.elim
theorem spI_run {n : Nat} {N : List Str} {body : BF} {vs : List V} {H : Hp} {Q : VK} {E : XK} {t : TS} (hs : SimB K C t body) (h : spI K C (mkInit n N.length body) vs H Q E) : t { nx := fun _ H => Q .non H, rt := Q } (L2.start N vs) H := by
  have hl := spI_len h
  obtain ⟨x, dx, us, R, ι, O, ps, e, S, r, h⟩ := h
  have hp : ps.length = n := by rw [e, List.length_cons, r.len] at hl; omega
  unfold mkInit at h
  rw [if_pos hp] at h
  have e2 : L2.start N vs = some (.ref x) :: (us.map some ++ List.replicate (N.length - (n + 1)) none) := by
    unfold L2.start
    rw [hl, e]
    rfl
  rw [e2]
  refine hs R ι O H x dx [] [] [] _ (none :: ps.map some ++ List.replicate (N.length - (n + 1)) none) _ ⟨S, rfl, rfl, rfl, fun p z => ?_, ?_⟩ ?_
  · simp at z
  · have L := SlR.start (K := K) r (N.length - (n + 1))
    refine ⟨by simp [r.len], fun i p e => ?_⟩
    cases i with
    | zero => simp at e
    | succ i =>
      rw [List.cons_append, List.getElem?_cons_succ] at e
      rw [List.getElem?_cons_succ]
      exact L.2 i p e
  · cases q : body [] [] (none :: ps.map some ++ List.replicate (N.length - (n + 1)) none) O with
    | next ns qs s O' =>
      rw [q] at h
      exact fun σ' ι' H' xs' I' X' => h ι' H' xs' I'.S X'.pre X'.same I'.ln I'.r
    | _ => rw [q] at h; exact h.elim
end
/-- C(..), frozen from then on -/
def mkIns (C : Str) (r : PR (List Str × List PV)) : PR PV := match r with
  | .ok (ns, qs) O => .ok (.ins C ns qs) O
  | .exc e O => .exc e O
  | .bad => .bad
def eMake (C : Str) (m : List PV → Sto → PR (List Str × List PV)) (dps : List PV) (a : AF) : EF := fun s O => (a s O).bind fun ps O1 => mkIns C (m (ps ++ dps) O1)
def eMakeK (C : Str) (m : List PV → Sto → PR (List Str × List PV)) (n k : Nat) (gP : List PV → List PV → List PV) (a z : AF) : EF := fun s O => (a s O).bind fun ps O1 => (z s O1).bind fun zs O2 => if ps.length = n ∧ zs.length = k then mkIns C (m (gP ps zs) O2) else .bad
section
variable {K : PySem.W.Frag} {C : Str} {tA tZ : TA} {fA fZ : AF} {m : List PV → Sto → PR (List Str × List PV)} {dps : List PV} {dvs : List V}
theorem mk_core {R : List (Addr × HO)} {ι : List Addr} {O : Sto} {H : Hp} {ps : List PV} {us : List V} {Q : VK} {E : XK} {x dx : Addr} (S : Sim K R ι O H) (r : RepL K ι (fz R ι O H) ps us) (h : Post K R none (Rep K) ι O H Q (mkIns C (m ps O))) (hx : H x = none) (hdx : H dx = none) (ne : dx ≠ x) :
    spI K C m (.ref x :: us) (upd (upd H dx (.own x)) x (.ins (He.ga K C) dx [])) (fun v H2 => v = .non ∧ Q (.ref x) H2) E := by
  obtain ⟨S1, X1, _⟩ := S.newF hdx (.own x)
  obtain ⟨S2, e2⟩ := S1.hide_new (D := x) (by rw [upd_ne fun e => ne e.symm]; exact hx) (.ins (He.ga K C) dx [])
  have sm : Same (fz R ι O H) (fz (hdI K C x dx [] [] :: R) ι O (upd (upd H dx (.own x)) x (.ins (He.ga K C) dx []))) := by
    have q := X1.same
    rw [← e2] at q
    exact q
  refine ⟨x, dx, us, R, ι, O, ps, rfl, S2, r.mono .refl sm, ?_⟩
  cases e : m ps O with
  | bad => rw [e] at h; exact h.elim
  | exc e O' => rw [e] at h; obtain ⟨_, z, _⟩ := h; cases z
  | ok w O' =>
    obtain ⟨ns, qs⟩ := w
    rw [e] at h
    intro ι' H' xs S' pre sm' ln r'
    obtain ⟨S3, sm3, e3⟩ := S'.unhide
    refine ⟨rfl, h (.ref x) ι' H' S3 ⟨pre, same_trans sm (same_trans sm' sm3)⟩ ⟨x, dx, xs, rfl, e3, ln, r'.mono .refl sm3⟩⟩
theorem sim_make (hA : SimA K none tA fA) (hd : ∀ ι G, RepL K ι G dps dvs) : SimE K none (tMake (He.ga K C) (spI K C m) dvs E0 tA) (eMake C m dps fA) := fun R ι O H σ s Q S L h =>
  hA R ι O H σ s _ S L (h.bind fun ps O1 xs ι1 H1 S1 X1 r1 h1 => fun x dx hx hdx ne => mk_core S1 (r1.app (hd _ _)) h1 hx hdx ne)
theorem sim_makeK {n k : Nat} {gP : List PV → List PV → List PV} {gV : List V → List V → List V} (hA : SimA K none tA fA) (hZ : SimA K none tZ fZ) (hg : ∀ x ι G ps vs zs ws, RepL K ι G ps vs → RepL K ι G zs ws → ∃ us, gV (.ref x :: vs) ws = .ref x :: us ∧ RepL K ι G (gP ps zs) us) : SimE K none (tMakeN (He.ga K C) n k (spI K C m) gV E0 tA tZ) (eMakeK C m n k gP fA fZ) := fun R ι O H σ s Q S L h =>
  hA R ι O H σ s _ S L (h.bind fun ps O1 xs ι1 H1 S1 X1 r1 h1 => hZ R ι1 O1 H1 σ s _ S1 (L.ext X1) (h1.bind fun zs O2 ws ι2 H2 S2 X2 r2 h2 => by
    split at h2
    · rename_i c
      refine ⟨by rw [r1.len]; exact c.1, by rw [r2.len]; exact c.2, fun x dx hx hdx ne => ?_⟩
      obtain ⟨us, e, r3⟩ := hg x _ _ ps xs zs ws (X2.repL r1) r2
      rw [e]
      exact mk_core S2 r3 h2 hx hdx ne
    · exact h2.elim))
end
end Qx

/-! Own layer Q5: loops, comprehensions, methods of lists, built-ins, isinstance. -/
namespace Qx
open PySem PySem.Spec PyProof.Rows L2 Gx
theorem PR.bind_ok {α β : Type} {x : PR α} {g : α → Sto → PR β} {a : β} {O : Sto} (h : x.bind g = .ok a O) : ∃ b O1, x = .ok b O1 ∧ g b O1 = .ok a O := by
  cases x with
  | ok b O1 => exact ⟨b, O1, rfl, h⟩
  | exc e O1 => cases h
  | bad => cases h
theorem noX_ok {α : Type} {x : PR α} {a : α} {O : Sto} (h : noX x = .ok a O) : x = .ok a O := by
  cases x with
  | ok b O1 => exact h
  | exc e O1 => cases h
  | bad => cases h
/-! ### what is walked -/
abbrev ItP := List PV × Option (Nat × List PV)
abbrev IF := Slots → Sto → PR ItP
def grd (g : Option (Nat × List PV)) (O : Sto) : Prop := match g with
  | none => True
  | some (n, ps) => O[n]? = some (some (.lst ps))
open Classical in
noncomputable def chk {α : Type} (g : Option (Nat × List PV)) (O : Sto) (bad r : α) : α := match g with
  | none => r
  | some (n, ps) => if O[n]? = some (some (.lst ps)) then r else bad
theorem chk_or {α : Type} (g : Option (Nat × List PV)) (O : Sto) (bad r : α) : (grd g O ∧ chk g O bad r = r) ∨ chk g O bad r = bad := by
  cases g with
  | none => exact .inl ⟨trivial, rfl⟩
  | some w =>
    obtain ⟨n, ps⟩ := w
    by_cases c : O[n]? = some (some (.lst ps))
    · exact .inl ⟨c, by unfold chk; simp only; rw [if_pos c]⟩
    · exact .inr (by unfold chk; simp only; rw [if_neg c])
def ItOk (K : PySem.W.Frag) (J : It) (items : List PV) (g : Option (Nat × List PV)) (ι0 : List Addr) (G0 : Hp) : Prop := ∀ R ι O H, Sim K R ι O H → Pre ι0 ι → Same G0 (fz R ι O H) → grd g O → ∀ i : Nat,
  (∀ p, items[i]? = some p → J.go i H ∧ ∀ x H', J.yld i H x H' → ∃ ι', Sim K R ι' O H' ∧ Ext R ι O H ι' O H' ∧ Rep K ι' (fz R ι' O H') p x) ∧ (items.length ≤ i → J.stop i H)
def rpI (K : PySem.W.Frag) (ι : List Addr) (G : Hp) (a : ItP) (J : It) : Prop := ItOk K J a.1 a.2 ι G
def SimIt (K : PySem.W.Frag) (E : XM) (wi : TI) (f : IF) : Prop := ∀ R ι O H σ s Q, Sim K R ι O H → SlR K ι (fz R ι O H) σ s → Post K R (xat E σ) (rpI K) ι O H Q (f s O) → wi σ H Q
/-! ### for -/
noncomputable def loopL (g : Option (Nat × List PV)) (tgt : GF) (body : SF) : List PV → SF
  | [], s, O => chk g O .bad (.next s O)
  | p :: r, s, O => chk g O .bad ((tgt p s O).toS s fun s1 O1 => match body s1 O1 with
    | .next s2 O2 => loopL g tgt body r s2 O2
    | .cnt s2 O2 => loopL g tgt body r s2 O2
    | .brk s2 O2 => .next s2 O2
    | x => x)
noncomputable def sFor (f : IF) (tgt : GF) (body : SF) : SF := fun s O => (f s O).toS s fun it O1 => loopL it.2 tgt body it.1 s O1
theorem sim_for {K : PySem.W.Frag} {E : XM} {wi : TI} {fI : IF} {g : TG} {tgt : GF} {tb : TS} {body : SF} (hi : SimIt K E wi fI) (hg : SimG K E g tgt) (hb : SimS K E tb body) : SimS K E (tFor wi g tb) (sFor fI tgt body) := by
  intro R ι O H σ s D S L h
  refine hi R ι O H σ s _ S L (h.lift L fun it O1 J ι1 H1 S1 X1 ok h1 => ?_)
  obtain ⟨items, gd⟩ := it
  have ok : ItOk K J items gd ι1 (fz R ι1 O1 H1) := ok
  refine ⟨fun i m σ' H' => m = items.length - i ∧ i ≤ items.length ∧ ∃ s' ι' O', Sim K R ι' O' H' ∧ Ext R ι1 O1 H1 ι' O' H' ∧ SlR K ι' (fz R ι' O' H') σ' s' ∧ PostS K R E ι' O' H' D (loopL gd tgt body (items.drop i) s' O'), ⟨_, rfl, Nat.zero_le _, s, ι1, O1, S1, .refl, L.ext X1, h1⟩, ?_⟩
  rintro i m σ' H' ⟨rfl, hi', s', ι', O', S', X', L', h'⟩
  by_cases hlt : i < items.length
  · have ep : items[i]? = some items[i] := List.getElem?_eq_getElem hlt
    rw [drop_get ep] at h'
    unfold loopL at h'
    rcases chk_or gd O' SR.bad ((tgt items[i] s' O').toS s' fun s1 O1 => match body s1 O1 with
      | .next s2 O2 => loopL gd tgt body (items.drop (i + 1)) s2 O2
      | .cnt s2 O2 => loopL gd tgt body (items.drop (i + 1)) s2 O2
      | .brk s2 O2 => .next s2 O2
      | x => x) with ⟨gok, e⟩ | e
    · rw [e] at h'
      obtain ⟨go, yl⟩ := (ok R ι' O' H' S' X'.pre X'.same gok i).1 _ ep
      refine .inr ⟨go, fun σ2 H2 => ∃ m', m' < items.length - i ∧ (m' = items.length - (i + 1) ∧ i + 1 ≤ items.length ∧ ∃ s2 ι2 O2, Sim K R ι2 O2 H2 ∧ Ext R ι1 O1 H1 ι2 O2 H2 ∧ SlR K ι2 (fz R ι2 O2 H2) σ2 s2 ∧ PostS K R E ι2 O2 H2 D (loopL gd tgt body (items.drop (i + 1)) s2 O2)), fun σ2 H2 z => z, fun x H2 y => ?_⟩
      obtain ⟨ι2, S2, X2, r2⟩ := yl x H2 y
      refine hg R ι2 O' H2 σ' s' _ x _ S2 (L'.ext X2) r2 ((PostS.of X2 h').lift (L'.ext X2) fun s3 O3 σ3 ι3 H3 S3 X3 L3 h3 => ?_)
      refine hb R ι3 O3 H3 σ3 s3 _ S3 L3 ?_
      have X13 := X'.trans (X2.trans X3)
      cases e3 : body s3 O3 with
      | next s4 O4 => rw [e3] at h3; exact fun σ4 ι4 H4 S4 X4 L4 => ⟨_, by omega, rfl, by omega, s4, ι4, O4, S4, X13.trans X4, L4, PostS.of X4 h3⟩
      | cnt s4 O4 => rw [e3] at h3; exact fun σ4 ι4 H4 S4 X4 L4 => ⟨_, by omega, rfl, by omega, s4, ι4, O4, S4, X13.trans X4, L4, PostS.of X4 h3⟩
      | brk s4 O4 => rw [e3] at h3; exact fun σ4 ι4 H4 S4 X4 L4 => h3 σ4 ι4 H4 S4 X4 L4
      | ret p O4 => rw [e3] at h3; exact h3
      | exc x s4 O4 => rw [e3] at h3; exact h3
      | bad => rw [e3] at h3; exact h3
    · rw [e] at h'; exact h'.elim
  · have e0 : items.drop i = [] := List.drop_eq_nil_of_le (Nat.le_of_not_lt hlt)
    rw [e0] at h'
    unfold loopL at h'
    rcases chk_or gd O' SR.bad (.next s' O') with ⟨gok, e⟩ | e
    · rw [e] at h'
      exact .inl ⟨(ok R ι' O' H' S' X'.pre X'.same gok i).2 (Nat.le_of_not_lt hlt), h' σ' ι' H' S' .refl L'⟩
    · rw [e] at h'; exact h'.elim
/-! ### what is walked: lists, tuples, ranges, zip, enumerate, texts -/
def iL (f : EF) : IF := fun s O => (f s O).bind fun p O1 => match p with
  | .lst ps => .ok (ps, none) O1
  | .rol ps => .ok (ps, none) O1
  | .loc n => match O1[n]? with
    | some (some (.lst ps)) => .ok (ps, some (n, ps)) O1
    | _ => .bad
  | _ => .bad
def iT (f : EF) : IF := fun s O => (f s O).bind fun p O1 => match tupOf p with
  | some ps => .ok (ps, none) O1
  | none => .bad
def rgOk (j : Int) : Bool := decide (-(2 ^ 62) ≤ j ∧ j < 2 ^ 62)
def rgL (lo : Int) (n : Nat) : List PV := (List.range n).map fun i => .int (lo + (i : Nat))
def iR1 (a : AF) : IF := fun s O => (a s O).bind fun ps O1 => match ps with
  | [.int j] => if rgOk j = true then .ok (rgL 0 j.toNat, none) O1 else .bad
  | _ => .bad
def iR2 (a : AF) : IF := fun s O => (a s O).bind fun ps O1 => match ps with
  | [.int i, .int j] => if (rgOk i && rgOk j) = true then .ok (rgL i (j - i).toNat, none) O1 else .bad
  | _ => .bad
/-- two of one kind, both frozen -/
def frL : PV → Option (List PV)
  | .lst ps => some ps
  | .rol ps => some ps
  | _ => none
def zipP (ps qs : List PV) : List PV := (ps.zip qs).map fun w => .tup [w.1, w.2]
def iZ (a : AF) : IF := fun s O => (a s O).bind fun ps O1 => match ps with
  | [p, q] => match frL p, frL q with
    | some xs, some ys => .ok (zipP xs ys, none) O1
    | _, _ => match tupOf p, tupOf q with
      | some xs, some ys => .ok (zipP xs ys, none) O1
      | _, _ => .bad
  | _ => .bad
def enumP : Nat → List PV → List PV
  | _, [] => []
  | i, p :: ps => .tup [.int (i : Nat), p] :: enumP (i + 1) ps
def iE (a : AF) : IF := fun s O => (a s O).bind fun ps O1 => match ps with
  | [p] => match frL p with
    | some xs => .ok (enumP 0 xs, none) O1
    | none => .bad
  | _ => .bad
theorem rgL_get {lo : Int} {n i : Nat} {p : PV} (h : (rgL lo n)[i]? = some p) : i < n ∧ p = .int (lo + (i : Nat)) := by
  unfold rgL at h
  rw [List.getElem?_map] at h
  obtain ⟨j, h1, h2⟩ := Option.map_eq_some_iff.mp h
  obtain ⟨h3, h4⟩ := List.getElem?_eq_some_iff.mp h1
  simp only [List.getElem_range] at h4
  simp only [List.length_range] at h3
  subst h4
  exact ⟨h3, h2.symm⟩
theorem rgL_len {lo : Int} {n : Nat} : (rgL lo n).length = n := by unfold rgL; simp
theorem enumP_get : ∀ {ps : List PV} {k i : Nat} {p : PV}, (enumP k ps)[i]? = some p → ∃ q, ps[i]? = some q ∧ p = .tup [.int ((k + i : Nat) : Int), q]
  | [], _, _, _, h => by simp [enumP] at h
  | q :: ps, k, 0, p, h => by
    simp only [enumP, List.getElem?_cons_zero, Option.some.injEq] at h
    exact ⟨q, rfl, h.symm⟩
  | q :: ps, k, i + 1, p, h => by
    simp only [enumP, List.getElem?_cons_succ] at h
    obtain ⟨r, h1, h2⟩ := enumP_get h
    exact ⟨r, by simpa using h1, by rw [h2]; congr 4; omega⟩
theorem enumP_len : ∀ {ps : List PV} {k : Nat}, (enumP k ps).length = ps.length
  | [], _ => rfl
  | _ :: ps, k => by rw [enumP, List.length_cons, List.length_cons, enumP_len]
theorem seq_inj_L {K : PySem.W.Frag} {H : Hp} {a : Addr} {xs ys : List V} (h : SqL K H a xs) (n : H a = some (.lst ys)) : True := trivial
section
variable {K : PySem.W.Frag} {E : XM} {te : TE} {fe : EF} {tA : TA} {fA : AF}
theorem sim_iR1 (hA : SimA K E tA fA) : SimIt K E (iRng1 tA) (iR1 fA) := fun R ι O H σ s Q S L h =>
  hA R ι O H σ s _ S L (h.bind fun ps O1 xs ι1 H1 S1 X1 r1 h1 => by
    match ps, h1, r1 with
    | [.int j], h1, ⟨x, t, e, r2, e2⟩ =>
      cases e2
      subst e
      simp only at h1
      split at h1
      · rename_i c
        have c' := of_decide_eq_true c
        refine ⟨j, by rw [show x = .int j from r2], c'.1, c'.2, h1.here S1 fun R' ι' O' H' S' _ _ _ i => ⟨fun p ep => ?_, fun hl => ?_⟩⟩
        · obtain ⟨h3, h4⟩ := rgL_get ep
          exact ⟨h3, fun x H'' y => ⟨ι', by rw [y.1]; exact S', by rw [y.1]; exact .refl, by rw [h4, y.2]; rfl⟩⟩
        · rw [rgL_len] at hl; exact hl
      · exact h1.elim)
theorem sim_iR2 (hA : SimA K E tA fA) : SimIt K E (iRng2 tA) (iR2 fA) := fun R ι O H σ s Q S L h =>
  hA R ι O H σ s _ S L (h.bind fun ps O1 xs ι1 H1 S1 X1 r1 h1 => by
    match ps, h1, r1 with
    | [.int i0, .int j], h1, ⟨x, t, e, r2, y, t2, e2, r3, e3⟩ =>
      cases e3
      subst e2
      subst e
      simp only at h1
      split at h1
      · rename_i c
        obtain ⟨c1, c2⟩ := Bool.and_eq_true_iff.mp c
        have c1 := of_decide_eq_true c1
        have c2 := of_decide_eq_true c2
        refine ⟨i0, j, by rw [show x = .int i0 from r2, show y = .int j from r3], ⟨c1.1, c1.2, c2.1, c2.2⟩, h1.here S1 fun R' ι' O' H' S' _ _ _ i => ⟨fun p ep => ?_, fun hl => ?_⟩⟩
        · obtain ⟨h3, h4⟩ := rgL_get ep
          exact ⟨h3, fun x H'' y => ⟨ι', by rw [y.1]; exact S', by rw [y.1]; exact .refl, by rw [h4, y.2]; rfl⟩⟩
        · rw [rgL_len] at hl; exact hl
      · exact h1.elim)
theorem itl_ok {ι0 : List Addr} {G0 : Hp} {a : Addr} {items : List PV} {g : Option (Nat × List PV)} (rd : ∀ R ι O H, Sim K R ι O H → Pre ι0 ι → Same G0 (fz R ι O H) → grd g O → ∃ xs, SqL K H a xs ∧ RepL K ι (fz R ι O H) items xs) : ItOk K (Itl K a) items g ι0 G0 := by
  intro R ι O H S p1 sm gd i
  obtain ⟨xs, h1, h2⟩ := rd R ι O H S p1 sm gd
  refine ⟨fun p ep => ?_, fun hl => ⟨xs, h1, by rw [h2.len]; exact hl⟩⟩
  obtain ⟨x, h3, h4⟩ := h2.get ep
  refine ⟨⟨xs, x, h1, h3⟩, fun y H' z => ⟨ι, by rw [z.1]; exact S, by rw [z.1]; exact .refl, ?_⟩⟩
  have e := z.2 xs h1
  rw [h3] at e
  cases e
  rw [z.1]
  exact h4
theorem itt_ok {ι0 : List Addr} {G0 : Hp} {a : Addr} {items : List PV} {xs : List V} (h1 : SqT K G0 a xs) (h2 : RepL K ι0 G0 items xs) : ItOk K (Itt K a) items none ι0 G0 := by
  intro R ι O H S p1 sm gd i
  have h1 : SqT K H a xs := sqt_same (same_trans sm S.frozen) h1
  have h2 := h2.mono p1 sm
  refine ⟨fun p ep => ?_, fun hl => ⟨xs, h1, by rw [h2.len]; exact hl⟩⟩
  obtain ⟨x, h3, h4⟩ := h2.get ep
  refine ⟨⟨xs, x, h1, h3⟩, fun y H' z => ⟨ι, by rw [z.1]; exact S, by rw [z.1]; exact .refl, ?_⟩⟩
  have e := z.2 xs h1
  rw [h3] at e
  cases e
  rw [z.1]
  exact h4
theorem frL_read {ι : List Addr} {G : Hp} {p : PV} {x : V} {ps : List PV} (r : Rep K ι G p x) (e : frL p = some ps) : ∃ a xs, x = .ref a ∧ SqL K G a xs ∧ RepL K ι G ps xs := by
  cases p with
  | lst qs => obtain ⟨a, xs, h1, h2, h3⟩ := r; cases e; exact ⟨a, xs, h1, SqL.of h2, h3⟩
  | rol qs => obtain ⟨a, xs, h1, h2, h3⟩ := r; cases e; exact ⟨a, xs, h1, h2, h3⟩
  | _ => cases e
theorem sim_iL (he : SimE K E te fe) : SimIt K E (iList K te) (iL fe) := fun R ι O H σ s Q S L h =>
  he R ι O H σ s _ S L (h.bind fun p O1 x ι1 H1 S1 X1 r1 h1 => by
    have fr : ∀ ps, frL p = some ps → Post K R (xat E σ) (rpI K) ι1 O1 H1 Q (.ok (ps, none) O1) → ∃ a, x = .ref a ∧ (∃ xs, SqL K H1 a xs) ∧ Q (Itl K a) H1 := fun ps e h1 => by
      obtain ⟨a, xs, e1, h3, h4⟩ := frL_read r1 e
      exact ⟨a, e1, ⟨xs, S1.frozen.seq h3⟩, h1.here S1 (itl_ok fun R' ι' O' H' S' p1 sm _ => ⟨xs, S'.frozen.seq (sm.seq h3), h4.mono p1 sm⟩)⟩
    cases p with
    | lst ps => exact fr ps rfl h1
    | rol ps => exact fr ps rfl h1
    | loc n =>
      obtain ⟨a, e1, e2⟩ := r1
      simp only at h1
      cases q : O1[n]? with
      | none => simp [q] at h1; exact h1.elim
      | some w =>
        cases w with
        | none => simp [q] at h1; exact h1.elim
        | some w =>
          cases w with
          | lst ps =>
            simp only [q] at h1
            obtain ⟨o, h3, xs, h4, h5⟩ := S1.obj n a _ e2 q
            subst h4
            refine ⟨a, e1, ⟨xs, SqL.of h3⟩, h1.here S1 (itl_ok fun R' ι' O' H' S' p1 sm gd => ?_)⟩
            obtain ⟨o, h3, xs, h4, h5⟩ := S'.obj n a _ (p1 _ _ e2) (show O'[n]? = some (some (.lst ps)) from gd)
            subst h4
            exact ⟨xs, SqL.of h3, h5⟩
          | _ => simp [q] at h1; exact h1.elim
    | _ => exact h1.elim)
theorem sim_iT (he : SimE K E te fe) : SimIt K E (iTup K te) (iT fe) := fun R ι O H σ s Q S L h =>
  he R ι O H σ s _ S L (h.bind fun p O1 x ι1 H1 S1 X1 r1 h1 => by
    cases p with
    | tup ps =>
      obtain ⟨a, xs, e1, h3, h4⟩ := r1
      exact ⟨a, e1, ⟨xs, sqt_same S1.frozen h3⟩, h1.here S1 (itt_ok h3 h4)⟩
    | _ => exact h1.elim)
theorem zip_get {ps qs : List PV} {i : Nat} {p : PV} (h : (zipP ps qs)[i]? = some p) : ∃ a b, ps[i]? = some a ∧ qs[i]? = some b ∧ p = .tup [a, b] := by
  unfold zipP at h
  rw [List.getElem?_map] at h
  obtain ⟨w, h1, h2⟩ := Option.map_eq_some_iff.mp h
  obtain ⟨a, b⟩ := w
  rw [List.getElem?_zip_eq_some] at h1
  exact ⟨a, b, h1.1, h1.2, h2.symm⟩
theorem zip_len {ps qs : List PV} : (zipP ps qs).length = min ps.length qs.length := by unfold zipP; rw [List.length_map, List.length_zip]
theorem sim_iZ (hA : SimA K E tA fA) : SimIt K E (RZ.iZipA K tA) (iZ fA) := fun R ι O H σ s Q S L h =>
  hA R ι O H σ s _ S L (h.bind fun ps O1 xs ι1 H1 S1 X1 r1 h1 => by
    match ps, h1, r1 with
    | [p, q], h1, ⟨x, t, e, r2, y, t2, e2, r3, e3⟩ =>
      cases e3
      subst e2
      subst e
      simp only at h1
      cases c1 : frL p with
      | some as =>
        cases c2 : frL q with
        | some bs =>
          simp only [c1, c2] at h1
          obtain ⟨a, xs, e1, h3, h4⟩ := frL_read r2 c1
          obtain ⟨b, ys, e2, h5, h6⟩ := frL_read r3 c2
          refine ⟨a, b, xs, ys, by rw [e1, e2], .inl ⟨S1.frozen.seq h3, S1.frozen.seq h5, h1.here S1 fun R' ι' O' H' S' p1 sm _ i => ?_⟩⟩
          have h3 := S'.frozen.seq (sm.seq h3)
          have h5 := S'.frozen.seq (sm.seq h5)
          have h4 := h4.mono p1 sm
          have h6 := h6.mono p1 sm
          refine ⟨fun p ep => ?_, fun hl => ⟨xs, ys, h3, h5, by rw [h4.len, h6.len]; rw [zip_len] at hl; omega⟩⟩
          obtain ⟨u, v, g1, g2, g3⟩ := zip_get ep
          obtain ⟨u', g4, g5⟩ := h4.get g1
          obtain ⟨v', g6, g7⟩ := h6.get g2
          refine ⟨⟨xs, ys, u', v', h3, h5, g4, g6⟩, fun z H'' yl => ?_⟩
          obtain ⟨T, x1, y1, f1, f2, f3, f4, f5⟩ := yl
          have f4 := f4 xs h3
          have f5 := f5 ys h5
          rw [g4] at f4
          rw [g6] at f5
          cases f4
          cases f5
          obtain ⟨S2, X2, e4⟩ := S'.newF f2 (.tup [u', v'])
          subst f3
          subst g3
          exact ⟨ι', S2, X2, T, _, f1, SqT.of e4, .consR (X2.rep g5) (.one (X2.rep g7))⟩
        | none =>
          cases c3 : tupOf p with
          | none => simp [c1, c2, c3] at h1; exact h1.elim
          | some _ => cases p <;> simp [frL] at c1 <;> simp [tupOf] at c3
      | none =>
        cases c3 : tupOf p with
        | none => simp [c1, c3] at h1; exact h1.elim
        | some as =>
          cases c4 : tupOf q with
          | none => simp [c1, c3, c4] at h1; exact h1.elim
          | some bs =>
            simp only [c1, c3, c4] at h1
            obtain ⟨a, xs, e1, h3, h4⟩ : ∃ a xs, x = .ref a ∧ SqT K (fz R ι1 O1 H1) a xs ∧ RepL K ι1 (fz R ι1 O1 H1) as xs := by
              cases p <;> first | (cases c3; exact r2) | cases c3
            obtain ⟨b, ys, e2, h5, h6⟩ : ∃ a xs, y = .ref a ∧ SqT K (fz R ι1 O1 H1) a xs ∧ RepL K ι1 (fz R ι1 O1 H1) bs xs := by
              cases q <;> first | (cases c4; exact r3) | cases c4
            refine ⟨a, b, xs, ys, by rw [e1, e2], .inr ⟨sqt_same S1.frozen h3, sqt_same S1.frozen h5, h1.here S1 fun R' ι' O' H' S' p1 sm _ i => ?_⟩⟩
            have h3 := sqt_same S'.frozen (sqt_same sm h3)
            have h5 := sqt_same S'.frozen (sqt_same sm h5)
            have h4 := h4.mono p1 sm
            have h6 := h6.mono p1 sm
            refine ⟨fun p ep => ?_, fun hl => ⟨xs, ys, h3, h5, by rw [h4.len, h6.len]; rw [zip_len] at hl; omega⟩⟩
            obtain ⟨u, v, g1, g2, g3⟩ := zip_get ep
            obtain ⟨u', g4, g5⟩ := h4.get g1
            obtain ⟨v', g6, g7⟩ := h6.get g2
            refine ⟨⟨xs, ys, u', v', h3, h5, g4, g6⟩, fun z H'' yl => ?_⟩
            obtain ⟨T, x1, y1, f1, f2, f3, f4, f5⟩ := yl
            have f4 := f4 xs h3
            have f5 := f5 ys h5
            rw [g4] at f4
            rw [g6] at f5
            cases f4
            cases f5
            obtain ⟨S2, X2, e4⟩ := S'.newF f2 (.tup [u', v'])
            subst f3
            subst g3
            exact ⟨ι', S2, X2, T, _, f1, SqT.of e4, .consR (X2.rep g5) (.one (X2.rep g7))⟩)
theorem sim_iE (hA : SimA K E tA fA) : SimIt K E (iEnum K tA) (iE fA) := fun R ι O H σ s Q S L h =>
  hA R ι O H σ s _ S L (h.bind fun ps O1 xs ι1 H1 S1 X1 r1 h1 => by
    match ps, h1, r1 with
    | [p], h1, ⟨x, t, e, r2, e2⟩ =>
      cases e2
      subst e
      simp only at h1
      cases c1 : frL p with
      | none => simp [c1] at h1; exact h1.elim
      | some as =>
        simp only [c1] at h1
        obtain ⟨a, xs, e1, h3, h4⟩ := frL_read r2 c1
        refine ⟨a, xs, by rw [e1], S1.frozen.seq h3, h1.here S1 fun R' ι' O' H' S' p1 sm _ i => ?_⟩
        have h3 := S'.frozen.seq (sm.seq h3)
        have h4 := h4.mono p1 sm
        refine ⟨fun p ep => ?_, fun hl => ⟨xs, h3, by rw [h4.len]; rw [enumP_len] at hl; exact hl⟩⟩
        obtain ⟨u, g1, g3⟩ := enumP_get ep
        obtain ⟨u', g4, g5⟩ := h4.get g1
        refine ⟨⟨xs, u', h3, g4⟩, fun z H'' yl => ?_⟩
        obtain ⟨T, x1, f1, f2, f3, f4⟩ := yl
        have f4 := f4 xs h3
        rw [g4] at f4
        cases f4
        obtain ⟨S2, X2, e4⟩ := S'.newF f2 (.tup [.int (i : Nat), u'])
        subst f3
        subst g3
        exact ⟨ι', S2, X2, T, _, f1, SqT.of e4, .consR (by rw [Nat.zero_add]; rfl) (.one (X2.rep g5))⟩)
end
end Qx

/-! Own layer Q6: comprehensions, methods of lists, built-ins, isinstance. -/
namespace Qx
open PySem PySem.Spec PyProof.Rows L2 Gx
/-! ### comprehensions -/
def wipeP (s : Slots) : List Nat → Slots
  | [] => s
  | v :: vs => (wipeP s vs).set v none
theorem wipe_get (σ : L2.St) : ∀ (vs : List Nat) (i : Nat), (wipe σ vs)[i]? = if i ∈ vs then σ[i]?.map (fun _ => none) else σ[i]?
  | [], i => by simp [wipe]
  | v :: vs, i => by
    show ((wipe σ vs).set v none)[i]? = _
    rw [List.getElem?_set, wipe_length]
    by_cases c : v = i
    · subst c
      rw [if_pos rfl, if_pos List.mem_cons_self]
      by_cases d : v < σ.length
      · rw [if_pos d, List.getElem?_eq_getElem d]; rfl
      · rw [if_neg d, List.getElem?_eq_none (Nat.le_of_not_lt d)]; rfl
    · rw [if_neg c, wipe_get σ vs i]
      have e : i ∈ v :: vs ↔ i ∈ vs := by
        simp only [List.mem_cons]
        constructor
        · rintro (h | h)
          · exact absurd h.symm c
          · exact h
        · exact .inr
      simp only [e]
theorem wipe_wipe {σ : L2.St} {vs : List Nat} : wipe (wipe σ vs) vs = wipe σ vs := by
  apply List.ext_getElem?
  intro i
  rw [wipe_get, wipe_get]
  by_cases c : i ∈ vs
  · simp only [c, if_true, Option.map_map]; rfl
  · simp only [c, if_false]
theorem wipe_set {σ : L2.St} {vs : List Nat} {n : Nat} {x : Option V} (h : n ∈ vs) : wipe (σ.set n x) vs = wipe σ vs := by
  apply List.ext_getElem?
  intro i
  rw [wipe_get, wipe_get, List.getElem?_set]
  by_cases c : i ∈ vs
  · simp only [c, if_true]
    by_cases d : n = i
    · subst d
      by_cases e : n < σ.length
      · simp [e, List.getElem?_eq_getElem e]
      · simp [e, List.getElem?_eq_none (Nat.le_of_not_lt e)]
    · simp [d]
  · simp only [c, if_false]
    rw [if_neg fun e => c (by rw [← e]; exact h)]
theorem SlR.wipe {K : PySem.W.Frag} {ι : List Addr} {G : Hp} {σ : L2.St} {s : Slots} (L : SlR K ι G σ s) : ∀ vs : List Nat, SlR K ι G (L2.wipe σ vs) (wipeP s vs)
  | [] => L
  | v :: vs => (SlR.wipe L vs).set0 v
/-- a target that stores to vs alone -/
def GW (g : TG) (vs : List Nat) : Prop := ∀ v σ H Q, g v σ H Q → g v σ H fun σ2 H2 => L2.wipe σ2 vs = L2.wipe σ vs ∧ Q σ2 H2
def GWs (g : TGs) (vs : List Nat) : Prop := ∀ xs σ H Q, g xs σ H Q → g xs σ H fun σ2 H2 => L2.wipe σ2 vs = L2.wipe σ vs ∧ Q σ2 H2
theorem gw_nm {n : Nat} {vs : List Nat} (h : n ∈ vs) : GW (gName n) vs := fun v σ H Q q => ⟨wipe_set h, q⟩
theorem gw_nil {vs : List Nat} : GWs gNil vs := fun xs σ H Q q => ⟨q.1, rfl, q.2⟩
theorem gw_cons {g : TG} {gs : TGs} {vs : List Nat} (h1 : GW g vs) (h2 : GWs gs vs) (mg : ∀ v σ H (Q Q' : L2.St → Hp → Prop), (∀ σ H, Q σ H → Q' σ H) → g v σ H Q → g v σ H Q') (mgs : ∀ v σ H (Q Q' : L2.St → Hp → Prop), (∀ σ H, Q σ H → Q' σ H) → gs v σ H Q → gs v σ H Q') : GWs (gCons g gs) vs := by
  rintro xs σ H Q ⟨v, r, e, q⟩
  refine ⟨v, r, e, mg _ _ _ _ _ (fun σ2 H2 z => ?_) (h1 v σ H _ q)⟩
  exact mgs _ _ _ _ _ (fun σ3 H3 w => ⟨w.1.trans z.1, w.2⟩) (h2 r σ2 H2 Q z.2)
theorem gw_tup {K : PySem.W.Frag} {n : Nat} {gs : TGs} {vs : List Nat} (h : GWs gs vs) : GW (gTup K n gs) vs := by
  rintro v σ H Q ⟨a, xs, e, h1, h2, q⟩
  exact ⟨a, xs, e, h1, h2, h xs σ H Q q⟩
theorem mg_nm {n : Nat} : ∀ v σ H (Q Q' : L2.St → Hp → Prop), (∀ σ H, Q σ H → Q' σ H) → gName n v σ H Q → gName n v σ H Q' := fun _ _ _ _ _ h q => h _ _ q
theorem mgs_nil : ∀ v σ H (Q Q' : L2.St → Hp → Prop), (∀ σ H, Q σ H → Q' σ H) → gNil v σ H Q → gNil v σ H Q' := fun _ _ _ _ _ h q => ⟨q.1, h _ _ q.2⟩
theorem mgs_cons {g : TG} {gs : TGs} (mg : ∀ v σ H (Q Q' : L2.St → Hp → Prop), (∀ σ H, Q σ H → Q' σ H) → g v σ H Q → g v σ H Q') (mgs : ∀ v σ H (Q Q' : L2.St → Hp → Prop), (∀ σ H, Q σ H → Q' σ H) → gs v σ H Q → gs v σ H Q') : ∀ v σ H (Q Q' : L2.St → Hp → Prop), (∀ σ H, Q σ H → Q' σ H) → gCons g gs v σ H Q → gCons g gs v σ H Q' := by
  rintro v σ H Q Q' h ⟨x, r, e, q⟩
  exact ⟨x, r, e, mg _ _ _ _ _ (fun σ2 H2 z => mgs _ _ _ _ _ h z) q⟩
theorem mg_tup {K : PySem.W.Frag} {n : Nat} {gs : TGs} (mgs : ∀ v σ H (Q Q' : L2.St → Hp → Prop), (∀ σ H, Q σ H → Q' σ H) → gs v σ H Q → gs v σ H Q') : ∀ v σ H (Q Q' : L2.St → Hp → Prop), (∀ σ H, Q σ H → Q' σ H) → gTup K n gs v σ H Q → gTup K n gs v σ H Q' := by
  rintro v σ H Q Q' h ⟨a, xs, e, h1, h2, q⟩
  exact ⟨a, xs, e, h1, h2, mgs _ _ _ _ _ h q⟩
noncomputable def compL (g : Option (Nat × List PV)) (tgt : GF) (t : TF) (e : EF) (s0 : Slots) : List PV → List PV → Sto → PR (List PV)
  | [], acc, O => chk g O .bad (.ok acc O)
  | p :: r, acc, O => chk g O .bad ((tgt p s0 O).bind fun s1 O1 => (t s1 O1).bind fun b O2 => if b = true then (e s1 O2).bind fun q O3 => if szLt acc.length = true then compL g tgt t e s0 r (acc ++ [q]) O3 else .bad else compL g tgt t e s0 r acc O2)
noncomputable def lcC (f : IF) (tgt : GF) (t : TF) (e : EF) (vs : List Nat) : AF := fun s O => (f s O).bind fun it O1 => noX (compL it.2 tgt t e (wipeP s vs) it.1 [] O1)
noncomputable def eLc (f : IF) (tgt : GF) (t : TF) (e : EF) (vs : List Nat) : EF := fun s O => (lcC f tgt t e vs s O).bind fun ps O1 => .ok (.lst ps) O1
noncomputable def eLcO (f : IF) (tgt : GF) (t : TF) (e : EF) (vs : List Nat) : EF := fun s O => (lcC f tgt t e vs s O).bind fun ps O1 => .ok (.loc O1.length) (O1 ++ [some (.lst ps)])
section
variable {K : PySem.W.Frag} {E : XM} {wi : TI} {fI : IF} {g : TG} {tgt : GF} {tt : TT} {ft : TF} {te : TE} {fe : EF} {vs : List Nat}
theorem lc_core {R : List (Addr × HO)} {ι : List Addr} {O : Sto} {H : Hp} {σ : L2.St} {s : Slots} {Q : VK} {k : List PV → Sto → PR PV} (hw : GW g vs) (mg : ∀ v σ H (Q Q' : L2.St → Hp → Prop), (∀ σ H, Q σ H → Q' σ H) → g v σ H Q → g v σ H Q') (hi : SimIt K E wi fI) (hg : SimG0 K g tgt) (ht : SimT K none tt ft) (he : SimE K none te fe)
    (S : Sim K R ι O H) (L : SlR K ι (fz R ι O H) σ s) (h : Post K R (xat E σ) (Rep K) ι O H Q ((lcC fI tgt ft fe vs s O).bind k))
    (fin : ∀ D ps xs ι' O' H', Sim K ((D, .lst xs) :: R) ι' O' H' → Pre ι ι' → Same (fz R ι O H) (fz ((D, .lst xs) :: R) ι' O' H') → RepL K ι' (fz ((D, .lst xs) :: R) ι' O' H') ps xs → Post K R (xat E σ) (Rep K) ι O H Q (k ps O') → Q (.ref D) H') : tLc wi g tt te vs σ H Q := by
  unfold lcC at h
  have h0 : Post K R (xat E σ) (Rep K) ι O H Q ((fI s O).bind fun it O1 => (noX (compL it.2 tgt ft fe (wipeP s vs) it.1 [] O1)).bind k) := by
    cases e : fI s O with
    | ok it O1 => rw [e] at h; exact h
    | exc x O1 => rw [e] at h; exact h
    | bad => rw [e] at h; exact h
  refine hi R ι O H σ s _ S L ?_
  cases e0 : fI s O with
  | exc x O1 => rw [e0] at h0; exact h0
  | bad => rw [e0] at h0; exact h0
  | ok it O1 =>
    rw [e0] at h0
    intro J ι1 H1 S1 X1 ok D hD
    obtain ⟨items, gd⟩ := it
    have ok : ItOk K J items gd ι1 (fz R ι1 O1 H1) := ok
    cases ec : compL gd tgt ft fe (wipeP s vs) items [] O1 with
    | exc x O2 => rw [show ((PR.ok (items, gd) O1).bind fun it O1 => (noX (compL it.2 tgt ft fe (wipeP s vs) it.1 [] O1)).bind k) = (noX (compL gd tgt ft fe (wipeP s vs) items [] O1)).bind k from rfl, ec] at h0; exact h0.elim
    | bad => rw [show ((PR.ok (items, gd) O1).bind fun it O1 => (noX (compL it.2 tgt ft fe (wipeP s vs) it.1 [] O1)).bind k) = (noX (compL gd tgt ft fe (wipeP s vs) items [] O1)).bind k from rfl, ec] at h0; exact h0.elim
    | ok ps Of =>
      rw [show ((PR.ok (items, gd) O1).bind fun it O1 => (noX (compL it.2 tgt ft fe (wipeP s vs) it.1 [] O1)).bind k) = (noX (compL gd tgt ft fe (wipeP s vs) items [] O1)).bind k from rfl, ec] at h0
      have h0 : Post K R (xat E σ) (Rep K) ι O H Q (k ps Of) := h0
      refine ⟨fun i m H' => m = items.length - i ∧ i ≤ items.length ∧ ∃ acc xs ι' O', Sim K ((D, .lst xs) :: R) ι' O' H' ∧ Pre ι1 ι' ∧ Same (fz R ι1 O1 H1) (fz ((D, .lst xs) :: R) ι' O' H') ∧ RepL K ι' (fz ((D, .lst xs) :: R) ι' O' H') acc xs ∧ compL gd tgt ft fe (wipeP s vs) (items.drop i) acc O' = .ok ps Of, ?_, ?_⟩
      · obtain ⟨S2, e2⟩ := S1.hide_new hD (.lst [])
        exact ⟨_, rfl, Nat.zero_le _, [], [], ι1, O1, S2, .refl, by rw [e2]; exact same_refl, rfl, ec⟩
      · rintro i m H' ⟨rfl, hi', acc, xs, ι', O', S', P', M', r', c'⟩
        by_cases hlt : i < items.length
        · have ep : items[i]? = some items[i] := List.getElem?_eq_getElem hlt
          rw [drop_get ep] at c'
          unfold compL at c'
          rcases chk_or gd O' (PR.bad) ((tgt items[i] (wipeP s vs) O').bind fun s1 O1 => (ft s1 O1).bind fun b O2 => if b = true then (fe s1 O2).bind fun q O3 => if szLt acc.length = true then compL gd tgt ft fe (wipeP s vs) (items.drop (i + 1)) (acc ++ [q]) O3 else .bad else compL gd tgt ft fe (wipeP s vs) (items.drop (i + 1)) acc O2) with ⟨gok, e⟩ | e
          · rw [e] at c'
            obtain ⟨go, yl⟩ := (ok _ ι' O' H' S' P' M' gok i).1 _ ep
            refine .inr ⟨go, fun H2 => ∃ m', m' < items.length - i ∧ (m' = items.length - (i + 1) ∧ i + 1 ≤ items.length ∧ ∃ acc xs ι' O', Sim K ((D, .lst xs) :: R) ι' O' H2 ∧ Pre ι1 ι' ∧ Same (fz R ι1 O1 H1) (fz ((D, .lst xs) :: R) ι' O' H2) ∧ RepL K ι' (fz ((D, .lst xs) :: R) ι' O' H2) acc xs ∧ compL gd tgt ft fe (wipeP s vs) (items.drop (i + 1)) acc O' = .ok ps Of), fun H2 z => z, fun x H2 y => ?_⟩
            obtain ⟨ι2, S2, X2, r2⟩ := yl x H2 y
            have M2 := same_trans M' X2.same
            have Lw : SlR K ι2 (fz ((D, .lst xs) :: R) ι2 O' H2) (L2.wipe σ vs) (wipeP s vs) := by
              have q := (L.ext X1).wipe vs
              exact ⟨q.1, fun i p e => let ⟨v, h1, h2⟩ := q.2 i p e; ⟨v, h1, h2.mono (P'.trans X2.pre) M2⟩⟩
            obtain ⟨s3, O3, e3, c3⟩ := PR.bind_ok c'
            obtain ⟨b, O4, e4, c4⟩ := PR.bind_ok c3
            have hgo : g x (L2.wipe σ vs) H2 fun σ2 H2 => tt σ2 H2 fun b H3 => if b = true then te σ2 H3 fun y H4 => ∃ acc, H4 D = some (.lst acc) ∧ acc.length < sizeLine ∧ (∃ m', m' < items.length - i ∧ (m' = items.length - (i + 1) ∧ i + 1 ≤ items.length ∧ ∃ acc' xs ι' O', Sim K ((D, .lst xs) :: R) ι' O' (upd H4 D (.lst (acc ++ [y]))) ∧ Pre ι1 ι' ∧ Same (fz R ι1 O1 H1) (fz ((D, .lst xs) :: R) ι' O' (upd H4 D (.lst (acc ++ [y])))) ∧ RepL K ι' (fz ((D, .lst xs) :: R) ι' O' (upd H4 D (.lst (acc ++ [y])))) acc' xs ∧ compL gd tgt ft fe (wipeP s vs) (items.drop (i + 1)) acc' O' = .ok ps Of)) else (∃ m', m' < items.length - i ∧ (m' = items.length - (i + 1) ∧ i + 1 ≤ items.length ∧ ∃ acc xs ι' O', Sim K ((D, .lst xs) :: R) ι' O' H3 ∧ Pre ι1 ι' ∧ Same (fz R ι1 O1 H1) (fz ((D, .lst xs) :: R) ι' O' H3) ∧ RepL K ι' (fz ((D, .lst xs) :: R) ι' O' H3) acc xs ∧ compL gd tgt ft fe (wipeP s vs) (items.drop (i + 1)) acc O' = .ok ps Of)) := by
              refine hg _ ι2 O' H2 _ (wipeP s vs) _ x none _ S2 Lw r2 ?_
              rw [e3]
              intro σ3 ι3 H3 S3 X3 L3
              refine ht _ ι3 O3 H3 σ3 s3 _ S3 L3 ?_
              rw [e4]
              intro b' ι4 H4 S4 X4 eb
              subst eb
              have M4 := same_trans M2 (same_trans X3.same X4.same)
              have P4 := P'.trans (X2.pre.trans (X3.pre.trans X4.pre))
              cases b with
              | false => exact ⟨_, by omega, rfl, by omega, acc, xs, ι4, O4, S4, P4, M4, r'.mono (X2.pre.trans (X3.pre.trans X4.pre)) (same_trans X2.same (same_trans X3.same X4.same)), c4⟩
              | true =>
                simp only [if_true] at c4
                obtain ⟨q, O5, e5, c5⟩ := PR.bind_ok c4
                refine he _ ι4 O4 H4 σ3 s3 _ S4 (L3.ext X4) ?_
                rw [e5]
                intro y ι5 H5 S5 X5 r5
                by_cases cz : szLt acc.length = true
                · rw [if_pos cz] at c5
                  have hD5 := S5.hid (D, .lst xs) List.mem_cons_self
                  obtain ⟨S6, e6⟩ := S5.hid_set (.lst (xs ++ [y]))
                  have M5 := same_trans M4 X5.same
                  have rr := r'.mono (X2.pre.trans (X3.pre.trans (X4.pre.trans X5.pre))) (same_trans X2.same (same_trans X3.same (same_trans X4.same X5.same)))
                  refine ⟨xs, hD5, by rw [r'.len]; exact szLt_lt cz, _, by omega, rfl, by omega, acc ++ [q], xs ++ [y], ι5, O5, S6, P4.trans X5.pre, by rw [e6]; exact M5, by rw [e6]; exact rr.app (.one r5), c5⟩
                · rw [if_neg cz] at c5; cases c5
            have q := hw x _ _ _ hgo
            refine mg _ _ _ _ _ ?_ q
            intro σ2 H2 z
            exact ⟨z.1.trans wipe_wipe, z.2⟩
          · rw [e] at c'; cases c'
        · have e0 : items.drop i = [] := List.drop_eq_nil_of_le (Nat.le_of_not_lt hlt)
          rw [e0] at c'
          unfold compL at c'
          rcases chk_or gd O' PR.bad (.ok acc O') with ⟨gok, e⟩ | e
          · rw [e] at c'
            cases c'
            exact .inl ⟨(ok _ ι' _ H' S' P' M' gok i).2 (Nat.le_of_not_lt hlt), fin D _ xs ι' _ H' S' (X1.pre.trans P') (same_trans X1.same M') r' h0⟩
          · rw [e] at c'; cases c'
theorem sim_lc (hw : GW g vs) (mg : ∀ v σ H (Q Q' : L2.St → Hp → Prop), (∀ σ H, Q σ H → Q' σ H) → g v σ H Q → g v σ H Q') (hi : SimIt K E wi fI) (hg : SimG0 K g tgt) (ht : SimT K none tt ft) (he : SimE K none te fe) : SimE K E (tLc wi g tt te vs) (eLc fI tgt ft fe vs) := fun R ι O H σ s Q S L h =>
  lc_core hw mg hi hg ht he S L h fun D ps xs ι' O' H' S' P M r h' => by
    obtain ⟨S2, M2, e2⟩ := S'.unhide
    exact h'.at S2 ⟨P, same_trans M M2⟩ ⟨D, xs, rfl, e2, r.mono .refl M2⟩
theorem sim_lcO (hw : GW g vs) (mg : ∀ v σ H (Q Q' : L2.St → Hp → Prop), (∀ σ H, Q σ H → Q' σ H) → g v σ H Q → g v σ H Q') (hi : SimIt K E wi fI) (hg : SimG0 K g tgt) (ht : SimT K none tt ft) (he : SimE K none te fe) : SimE K E (tLc wi g tt te vs) (eLcO fI tgt ft fe vs) := fun R ι O H σ s Q S L h =>
  lc_core hw mg hi hg ht he S L h fun D ps xs ι' O' H' S' P M r h' => by
    obtain ⟨S2, e2⟩ := S'.own (p := .lst ps) ⟨xs, rfl, r⟩
    exact h'.at S2 ⟨P.trans .app, by rw [e2]; exact M⟩ ⟨D, rfl, new_at S'.len⟩
end
/-! ### methods of lists -/
def MtP (K : PySem.W.Frag) (r : V → List V → Hp → VK → Prop) (f : PV → List PV → Sto → PR PV) : Prop := ∀ R ι O H p ps x xs E Q, Sim K R ι O H → Rep K ι (fz R ι O H) p x → RepL K ι (fz R ι O H) ps xs → Post K R E (Rep K) ι O H Q (f p ps O) → r x xs H Q
def eBml (f : PV → List PV → Sto → PR PV) (o : EF) (a : AF) : EF := fun s O => (o s O).bind fun p O1 => if (lstOf O1 p).isSome = true then (a s O1).bind fun ps O2 => f p ps O2 else .bad
def eBml0 (f : PV → List PV → Sto → PR PV) (o : EF) : EF := fun s O => (o s O).bind fun p O1 => if (lstOf O1 p).isSome = true then f p [] O1 else .bad
def locL (O : Sto) : PV → Option (Nat × List PV)
  | .loc n => match O[n]? with
    | some (some (.lst ps)) => some (n, ps)
    | _ => none
  | _ => none
def appendP (p : PV) (qs : List PV) (O : Sto) : PR PV := match locL O p, qs with
  | some (n, ps), [q] => if szLt ps.length = true then .ok .non (O.set n (some (.lst (ps ++ [q])))) else .bad
  | _, _ => .bad
def extendP (p : PV) (qs : List PV) (O : Sto) : PR PV := match locL O p, qs with
  | some (n, ps), [q] => match lstT O q with
    | some zs => if szOk (ps.length + zs.length) = true then .ok .non (O.set n (some (.lst (ps ++ zs)))) else .bad
    | none => .bad
  | _, _ => .bad
def popP (p : PV) (qs : List PV) (O : Sto) : PR PV := match locL O p, qs with
  | some (n, ps), [] => match ps[ps.length - 1]? with
    | some q => .ok q (O.set n (some (.lst ps.dropLast)))
    | none => .bad
  | _, _ => .bad
theorem locL_read {K : PySem.W.Frag} {R : List (Addr × HO)} {ι : List Addr} {O : Sto} {H : Hp} {p : PV} {x : V} {n : Nat} {ps : List PV} (S : Sim K R ι O H) (r : Rep K ι (fz R ι O H) p x) (e : locL O p = some (n, ps)) : ∃ a xs, x = .ref a ∧ ι[n]? = some a ∧ O[n]? = some (some (.lst ps)) ∧ H a = some (.lst xs) ∧ RepL K ι (fz R ι O H) ps xs := by
  cases p with
  | loc m =>
    obtain ⟨a, e1, e2⟩ := r
    unfold locL at e
    cases q : O[m]? with
    | none => simp [q] at e
    | some w =>
      cases w with
      | none => simp [q] at e
      | some w =>
        cases w with
        | lst qs =>
          simp only [q, Option.some.injEq, Prod.mk.injEq] at e
          obtain ⟨rfl, rfl⟩ := e
          obtain ⟨o, h3, xs, h4, h5⟩ := S.obj m a _ e2 q
          subst h4
          exact ⟨a, xs, e1, e2, q, h3, h5⟩
        | _ => simp [q] at e
  | _ => cases e
section
variable {K : PySem.W.Frag} {E : XM} {to : TE} {fo : EF} {tA : TA} {fA : AF} {r : V → List V → Hp → VK → Prop} {f : PV → List PV → Sto → PR PV}
theorem sim_bml (hf : MtP K r f) (ho : SimE K E to fo) (hA : SimA K E tA fA) : SimE K E (tBM K "list" r to tA) (eBml f fo fA) := fun R ι O H σ s Q S L h =>
  ho R ι O H σ s _ S L (h.bind fun p O1 x ι1 H1 S1 X1 r1 h1 => by
    split at h1
    · rename_i c
      obtain ⟨ps, e⟩ := Option.isSome_iff_exists.mp c
      obtain ⟨a, xs, e1, h3, h4⟩ := lst_read S1 r1 e
      refine ⟨by rw [e1]; exact Or.inl ⟨rfl, xs, h3⟩, hA R ι1 O1 H1 σ s _ S1 (L.ext X1) (h1.bind fun qs O2 ys ι2 H2 S2 X2 r2 h2 => hf R ι2 O2 H2 p qs x ys _ _ S2 (X2.rep r1) r2 h2)⟩
    · exact h1.elim)
theorem sim_bml0 (hf : MtP K r f) (ho : SimE K E to fo) : SimE K E (tBM0 K "list" r to) (eBml0 f fo) := fun R ι O H σ s Q S L h =>
  ho R ι O H σ s _ S L (h.bind fun p O1 x ι1 H1 S1 X1 r1 h1 => by
    split at h1
    · rename_i c
      obtain ⟨ps, e⟩ := Option.isSome_iff_exists.mp c
      obtain ⟨a, xs, e1, h3, h4⟩ := lst_read S1 r1 e
      exact ⟨by rw [e1]; exact Or.inl ⟨rfl, xs, h3⟩, hf R ι1 O1 H1 p [] x [] _ _ S1 r1 rfl h1⟩
    · exact h1.elim)
theorem ml_append : MtP K rAppend appendP := by
  intro R ι O H p qs x ys E Q S r1 r2 h
  unfold appendP at h
  cases e : locL O p with
  | none => simp [e] at h; exact h.elim
  | some w =>
    obtain ⟨n, ps⟩ := w
    match qs, h, r2 with
    | [], h, _ => simp [e] at h; exact h.elim
    | _ :: _ :: _, h, _ => simp [e] at h; exact h.elim
    | [q], h, ⟨y, t, e2, r3, e3⟩ =>
      cases e3
      subst e2
      simp only [e] at h
      split at h
      · rename_i c
        obtain ⟨a, xs, e1, h2, h3, h4, h5⟩ := locL_read S r1 e
        obtain ⟨S2, X2⟩ := S.change h2 h3 (p' := .lst (ps ++ [q])) (o' := .lst (xs ++ [y])) ⟨_, rfl, h5.app (.one r3)⟩
        exact ⟨a, xs, y, e1, rfl, h4, by rw [h5.len]; exact szLt_lt c, h.at S2 X2 rfl⟩
      · exact h.elim
theorem ml_extend : MtP K rExtend extendP := by
  intro R ι O H p qs x ys E Q S r1 r2 h
  unfold extendP at h
  cases e : locL O p with
  | none => simp [e] at h; exact h.elim
  | some w =>
    obtain ⟨n, ps⟩ := w
    match qs, h, r2 with
    | [], h, _ => simp [e] at h; exact h.elim
    | _ :: _ :: _, h, _ => simp [e] at h; exact h.elim
    | [q], h, ⟨y, t, e2, r3, e3⟩ =>
      cases e3
      subst e2
      simp only [e] at h
      cases e4 : lstT O q with
      | none => simp [e4] at h; exact h.elim
      | some zs =>
        simp only [e4] at h
        split at h
        · rename_i c
          obtain ⟨a, xs, e1, h2, h3, h4, h5⟩ := locL_read S r1 e
          obtain ⟨b, ws, e5, h6, h7⟩ := lstT_read S r3 e4
          obtain ⟨S2, X2⟩ := S.change h2 h3 (p' := .lst (ps ++ zs)) (o' := .lst (xs ++ ws)) ⟨_, rfl, h5.app h7⟩
          exact ⟨a, b, xs, ws, e1, by rw [e5], h4, h6, by rw [h5.len, h7.len]; exact szOk_le c, h.at S2 X2 rfl⟩
        · exact h.elim
theorem ml_pop : MtP K rPop popP := by
  intro R ι O H p qs x ys E Q S r1 r2 h
  unfold popP at h
  cases e : locL O p with
  | none => simp [e] at h; exact h.elim
  | some w =>
    obtain ⟨n, ps⟩ := w
    match qs, h, r2 with
    | _ :: _, h, _ => simp [e] at h; exact h.elim
    | [], h, r2 =>
      cases r2
      simp only [e] at h
      cases e4 : ps[ps.length - 1]? with
      | none => simp [e4] at h; exact h.elim
      | some q =>
        simp only [e4] at h
        obtain ⟨a, xs, e1, h2, h3, h4, h5⟩ := locL_read S r1 e
        obtain ⟨y, h6, h7⟩ := h5.get e4
        have hd : RepL K ι (fz R ι O H) ps.dropLast xs.dropLast := by
          rw [List.dropLast_eq_take, List.dropLast_eq_take, h5.len]
          exact h5.take _
        obtain ⟨S2, X2⟩ := S.change h2 h3 (p' := .lst ps.dropLast) (o' := .lst xs.dropLast) ⟨_, rfl, hd⟩
        exact ⟨a, xs, y, e1, rfl, h4, by rw [h5.len]; exact h6, h.at S2 X2 (X2.rep h7)⟩
end
end Qx

/-! Own layer Q7: built-ins, isinstance, further statements. -/
namespace Qx
open PySem PySem.Spec PyProof.Rows L2 Gx
def intsOf : List PV → Option (List Int)
  | [] => some []
  | .int i :: r => (intsOf r).map (i :: ·)
  | _ => none
def blsOf : List PV → Option (List Bool)
  | [] => some []
  | .bl i :: r => (blsOf r).map (i :: ·)
  | _ => none
def strsOf : List PV → Option (List Str)
  | [] => some []
  | .str i :: r => (strsOf r).map (i :: ·)
  | _ => none
theorem intsOf_map : ∀ ns : List Int, intsOf (ns.map PV.int) = some ns
  | [] => rfl
  | n :: ns => by simp only [List.map_cons, intsOf, intsOf_map ns, Option.map_some]
theorem blsOf_map : ∀ ns : List Bool, blsOf (ns.map PV.bl) = some ns
  | [] => rfl
  | n :: ns => by simp only [List.map_cons, blsOf, blsOf_map ns, Option.map_some]
theorem strsOf_map : ∀ ns : List Str, strsOf (ns.map PV.str) = some ns
  | [] => rfl
  | n :: ns => by simp only [List.map_cons, strsOf, strsOf_map ns, Option.map_some]
theorem of_intsOf : ∀ {ps : List PV} {ns : List Int}, intsOf ps = some ns → ps = ns.map PV.int
  | [], ns, h => by cases h; rfl
  | .int i :: r, ns, h => by
    simp only [intsOf] at h
    obtain ⟨ms, h1, h2⟩ := Option.map_eq_some_iff.mp h
    subst h2
    rw [of_intsOf h1]
    rfl
  | .non :: _, _, h => by cases h
  | .bl _ :: _, _, h => by cases h
  | .str _ :: _, _, h => by cases h
  | .ty _ :: _, _, h => by cases h
  | .cls _ :: _, _, h => by cases h
  | .tup _ :: _, _, h => by cases h
  | .lst _ :: _, _, h => by cases h
  | .rol _ :: _, _, h => by cases h
  | .ins _ _ _ :: _, _, h => by cases h
  | .rng _ _ :: _, _, h => by cases h
  | .loc _ :: _, _, h => by cases h
  | .dic _ _ :: _, _, h => by cases h
  | .sti _ :: _, _, h => by cases h
  | .xc _ _ _ :: _, _, h => by cases h
theorem of_blsOf : ∀ {ps : List PV} {ns : List Bool}, blsOf ps = some ns → ps = ns.map PV.bl
  | [], ns, h => by cases h; rfl
  | .bl i :: r, ns, h => by
    simp only [blsOf] at h
    obtain ⟨ms, h1, h2⟩ := Option.map_eq_some_iff.mp h
    subst h2
    rw [of_blsOf h1]
    rfl
  | .non :: _, _, h => by cases h
  | .int _ :: _, _, h => by cases h
  | .str _ :: _, _, h => by cases h
  | .ty _ :: _, _, h => by cases h
  | .cls _ :: _, _, h => by cases h
  | .tup _ :: _, _, h => by cases h
  | .lst _ :: _, _, h => by cases h
  | .rol _ :: _, _, h => by cases h
  | .ins _ _ _ :: _, _, h => by cases h
  | .rng _ _ :: _, _, h => by cases h
  | .loc _ :: _, _, h => by cases h
  | .dic _ _ :: _, _, h => by cases h
  | .sti _ :: _, _, h => by cases h
  | .xc _ _ _ :: _, _, h => by cases h
theorem of_strsOf : ∀ {ps : List PV} {ns : List Str}, strsOf ps = some ns → ps = ns.map PV.str
  | [], ns, h => by cases h; rfl
  | .str i :: r, ns, h => by
    simp only [strsOf] at h
    obtain ⟨ms, h1, h2⟩ := Option.map_eq_some_iff.mp h
    subst h2
    rw [of_strsOf h1]
    rfl
  | .non :: _, _, h => by cases h
  | .int _ :: _, _, h => by cases h
  | .bl _ :: _, _, h => by cases h
  | .ty _ :: _, _, h => by cases h
  | .cls _ :: _, _, h => by cases h
  | .tup _ :: _, _, h => by cases h
  | .lst _ :: _, _, h => by cases h
  | .rol _ :: _, _, h => by cases h
  | .ins _ _ _ :: _, _, h => by cases h
  | .rng _ _ :: _, _, h => by cases h
  | .loc _ :: _, _, h => by cases h
  | .dic _ _ :: _, _, h => by cases h
  | .sti _ :: _, _, h => by cases h
  | .xc _ _ _ :: _, _, h => by cases h
theorem rep_map {α : Type} {K : PySem.W.Frag} {ι : List Addr} {G : Hp} {f : α → PV} {g : α → V} (hf : ∀ a v, Rep K ι G (f a) v → v = g a) : ∀ {as : List α} {xs : List V}, RepL K ι G (as.map f) xs → xs = as.map g
  | [], xs, h => h
  | a :: as, _, ⟨x, r, e, h1, h2⟩ => by rw [e, hf a x h1, rep_map hf h2]; rfl
theorem rep_ints {K : PySem.W.Frag} {ι : List Addr} {G : Hp} {ps : List PV} {ns : List Int} {xs : List V} (e : intsOf ps = some ns) (r : RepL K ι G ps xs) : xs = ns.map V.int := by
  rw [of_intsOf e] at r
  exact rep_map (f := PV.int) (g := V.int) (fun _ _ h => h) r
theorem rep_bls {K : PySem.W.Frag} {ι : List Addr} {G : Hp} {ps : List PV} {ns : List Bool} {xs : List V} (e : blsOf ps = some ns) (r : RepL K ι G ps xs) : xs = ns.map V.bl := by
  rw [of_blsOf e] at r
  exact rep_map (f := PV.bl) (g := V.bl) (fun _ _ h => h) r
theorem rep_strs {K : PySem.W.Frag} {ι : List Addr} {G : Hp} {ps : List PV} {ns : List Str} {xs : List V} (e : strsOf ps = some ns) (r : RepL K ι G ps xs) : xs = ns.map V.str := by
  rw [of_strsOf e] at r
  exact rep_map (f := PV.str) (g := V.str) (fun _ _ h => h) r
/-! ### built-ins -/
def b1 (f : PV → Sto → PR PV) (ps : List PV) (O : Sto) : PR PV := match ps with
  | [p] => f p O
  | _ => .bad
def b2 (f : PV → PV → Sto → PR PV) (ps : List PV) (O : Sto) : PR PV := match ps with
  | [p, q] => f p q O
  | _ => .bad
/-- a built-in of one list of ints -/
def bIs (f : List Int → Option PV) : List PV → Sto → PR PV := b1 fun p O => match (lstOf O p).bind intsOf with
  | some ns => match f ns with
    | some q => .ok q O
    | none => .bad
  | none => .bad
def bBs (f : List Bool → PV) : List PV → Sto → PR PV := b1 fun p O => match (lstOf O p).bind blsOf with
  | some ns => .ok (f ns) O
  | none => .bad
def maxL : List Int → Int
  | [] => 0
  | n :: ns => ns.foldl max n
def minL : List Int → Int
  | [] => 0
  | n :: ns => ns.foldl min n
theorem foldl_max : ∀ (ns : List Int) (n : Int), n ≤ ns.foldl max n ∧ (∀ m ∈ ns, m ≤ ns.foldl max n) ∧ (ns.foldl max n = n ∨ ns.foldl max n ∈ ns)
  | [], n => ⟨Int.le_refl _, fun _ h => (nomatch h), .inl rfl⟩
  | k :: ns, n => by
    obtain ⟨h1, h2, h3⟩ := foldl_max ns (max n k)
    simp only [List.foldl_cons]
    refine ⟨by omega, fun m hm => ?_, ?_⟩
    · rcases List.mem_cons.mp hm with rfl | hm
      · omega
      · exact h2 m hm
    · rcases h3 with h3 | h3
      · by_cases c : n ≤ k
        · exact .inr (by rw [h3, show max n k = k by omega]; exact List.mem_cons_self)
        · exact .inl (by rw [h3]; omega)
      · exact .inr (List.mem_cons_of_mem _ h3)
theorem foldl_min : ∀ (ns : List Int) (n : Int), ns.foldl min n ≤ n ∧ (∀ m ∈ ns, ns.foldl min n ≤ m) ∧ (ns.foldl min n = n ∨ ns.foldl min n ∈ ns)
  | [], n => ⟨Int.le_refl _, fun _ h => (nomatch h), .inl rfl⟩
  | k :: ns, n => by
    obtain ⟨h1, h2, h3⟩ := foldl_min ns (min n k)
    simp only [List.foldl_cons]
    refine ⟨by omega, fun m hm => ?_, ?_⟩
    · rcases List.mem_cons.mp hm with rfl | hm
      · omega
      · exact h2 m hm
    · rcases h3 with h3 | h3
      · by_cases c : k ≤ n
        · exact .inr (by rw [h3, show min n k = k by omega]; exact List.mem_cons_self)
        · exact .inl (by rw [h3]; omega)
      · exact .inr (List.mem_cons_of_mem _ h3)
theorem maxL_spec {ns : List Int} (h : 0 < ns.length) : maxL ns ∈ ns ∧ ∀ m ∈ ns, m ≤ maxL ns := by
  match ns, h with
  | n :: ns, _ =>
    obtain ⟨h1, h2, h3⟩ := foldl_max ns n
    refine ⟨?_, fun m hm => ?_⟩
    · rcases h3 with h3 | h3
      · show ns.foldl max n ∈ _
        rw [h3]; exact List.mem_cons_self
      · exact List.mem_cons_of_mem _ h3
    · rcases List.mem_cons.mp hm with rfl | hm
      · exact h1
      · exact h2 m hm
theorem minL_spec {ns : List Int} (h : 0 < ns.length) : minL ns ∈ ns ∧ ∀ m ∈ ns, minL ns ≤ m := by
  match ns, h with
  | n :: ns, _ =>
    obtain ⟨h1, h2, h3⟩ := foldl_min ns n
    refine ⟨?_, fun m hm => ?_⟩
    · rcases h3 with h3 | h3
      · show ns.foldl min n ∈ _
        rw [h3]; exact List.mem_cons_self
      · exact List.mem_cons_of_mem _ h3
    · rcases List.mem_cons.mp hm with rfl | hm
      · exact h1
      · exact h2 m hm
def bMax2 := b2 fun p q O => match p, q with
  | .int i, .int j => .ok (.int (max i j)) O
  | _, _ => .bad
def bMin2 := b2 fun p q O => match p, q with
  | .int i, .int j => .ok (.int (min i j)) O
  | _, _ => .bad
def bMax := bIs fun ns => if ns.isEmpty = true then none else some (.int (maxL ns))
def bMin := bIs fun ns => if ns.isEmpty = true then none else some (.int (minL ns))
def bSum := bIs fun ns => some (.int ns.sum)
def bAll := bBs fun bs => .bl (bs.all id)
def bAny := bBs fun bs => .bl (bs.any id)
def bAbs := b1 fun p O => match p with
  | .int i => .ok (.int (if i < 0 then -i else i)) O
  | _ => .bad
def bInt := b1 fun p O => match p with
  | .int i => .ok (.int i) O
  | .bl k => .ok (.int (if k then 1 else 0)) O
  | _ => .bad
def seqOf (O : Sto) (p : PV) : Option (List PV) := match lstOf O p with
  | some ps => some ps
  | none => tupOf p
def bLen := b1 fun p O => match seqOf O p with
  | some ps => .ok (.int ps.length) O
  | none => .bad
def bLenR := b1 fun p O => match p with
  | .rng i j => if (decide (i ≤ j) && decide (j - i < 2 ^ 63)) = true then .ok (.int (j - i)) O else .bad
  | _ => .bad
def bRng := b2 fun p q O => match p, q with
  | .int i, .int j => .ok (.rng i j) O
  | _, _ => .bad
def bTup := b1 fun p O => match lstOf O p with
  | some ps => .ok (.tup ps) O
  | none => match p with
    | .tup ps => .ok (.tup ps) O
    | _ => .bad
def bLst := b1 fun p O => match seqOf O p with
  | some ps => .ok (.lst ps) O
  | none => .bad
def bLstO := b1 fun p O => match seqOf O p with
  | some ps => .ok (.loc O.length) (O ++ [some (.lst ps)])
  | none => .bad
def bDivmod := b2 fun p q O => match p, q with
  | .int i, .int j => if divOk i j = true then .ok (.tup [.int (i / j), .int (i % j)]) O else .bad
  | _, _ => .bad
section
variable {K : PySem.W.Frag}
theorem cb_1 {r : List V → Hp → VK → Prop} {f : PV → Sto → PR PV} (h : ∀ R ι O H p x E Q, Sim K R ι O H → Rep K ι (fz R ι O H) p x → Post K R E (Rep K) ι O H Q (f p O) → r [x] H Q) : CbS K r (b1 f) := by
  intro R ι O H ps xs E Q S r1 h1
  match ps, h1, r1 with
  | [], h1, _ => exact h1.elim
  | _ :: _ :: _, h1, _ => exact h1.elim
  | [p], h1, ⟨x, t, e, r2, e2⟩ =>
    cases e2
    subst e
    exact h R ι O H p x E Q S r2 h1
theorem cb_2 {r : List V → Hp → VK → Prop} {f : PV → PV → Sto → PR PV} (h : ∀ R ι O H p q x y E Q, Sim K R ι O H → Rep K ι (fz R ι O H) p x → Rep K ι (fz R ι O H) q y → Post K R E (Rep K) ι O H Q (f p q O) → r [x, y] H Q) : CbS K r (b2 f) := by
  intro R ι O H ps xs E Q S r1 h1
  match ps, h1, r1 with
  | [], h1, _ => exact h1.elim
  | [_], h1, _ => exact h1.elim
  | _ :: _ :: _ :: _, h1, _ => exact h1.elim
  | [p, q], h1, ⟨x, t, e, r2, y, t2, e2, r3, e3⟩ =>
    cases e3
    subst e2
    subst e
    exact h R ι O H p q x y E Q S r2 r3 h1
theorem cb_is {r : List V → Hp → VK → Prop} {f : List Int → Option PV} (h : ∀ a (ns : List Int) H Q q, SqL K H a (ns.map V.int) → f ns = some q → (∀ v, (∀ ι G, Rep K ι G q v) → Q v H) → r [.ref a] H Q) (hs : ∀ ns q, f ns = some q → ∃ v, ∀ ι G x, Rep K ι G q x ↔ x = v) : CbS K r (bIs f) := cb_1 fun R ι O H p x E Q S r1 h1 => by
  cases e : (lstOf O p).bind intsOf with
  | none => simp [e] at h1; exact h1.elim
  | some ns =>
    simp only [e] at h1
    cases e2 : f ns with
    | none => simp [e2] at h1; exact h1.elim
    | some q =>
      simp only [e2] at h1
      obtain ⟨ps, e3, e4⟩ := Option.bind_eq_some_iff.mp e
      obtain ⟨a, xs, h2, h3, h4⟩ := lst_read S r1 e3
      subst h2
      rw [rep_ints e4 h4] at h3
      exact h a ns H Q q h3 e2 fun v hv => h1.here S (hv _ _)
theorem cb_bs {r : List V → Hp → VK → Prop} {f : List Bool → Bool} (h : ∀ a (ns : List Bool) H Q, SqL K H a (ns.map V.bl) → Q (.bl (f ns)) H → r [.ref a] H Q) : CbS K r (bBs fun bs => .bl (f bs)) := cb_1 fun R ι O H p x E Q S r1 h1 => by
  cases e : (lstOf O p).bind blsOf with
  | none => simp [e] at h1; exact h1.elim
  | some ns =>
    simp only [e] at h1
    obtain ⟨ps, e3, e4⟩ := Option.bind_eq_some_iff.mp e
    obtain ⟨a, xs, h2, h3, h4⟩ := lst_read S r1 e3
    subst h2
    rw [rep_bls e4 h4] at h3
    exact h a ns H Q h3 (h1.here S rfl)
theorem cb_all : CbS K (rAll K) bAll := cb_bs fun a ns H Q h1 h2 => ⟨a, ns, rfl, h1, h2⟩
theorem cb_any : CbS K (rAny K) bAny := cb_bs fun a ns H Q h1 h2 => ⟨a, ns, rfl, h1, h2⟩
theorem one_int {n : Int} {q : PV} (e : some (PV.int n) = some q) : ∃ v, ∀ (ι : List Addr) G x, Rep K ι G q x ↔ x = v := by cases e; exact ⟨.int n, fun _ _ _ => Iff.rfl⟩
theorem cb_sum : CbS K (rSum K) bSum := cb_is (fun a ns H Q q h1 e h2 => by cases e; exact ⟨a, ns, rfl, h1, h2 _ fun _ _ => rfl⟩) fun ns q e => one_int e
theorem ne_len {ns : List Int} (c : ¬ ns.isEmpty = true) : 0 < ns.length := by
  cases ns with
  | nil => simp at c
  | cons _ _ => simp
theorem cb_max : CbS K (rMax K) bMax := cb_is (fun a ns H Q q h1 e h2 => by
  split at e
  · cases e
  · rename_i c
    cases e
    refine ⟨a, ns, rfl, h1, ne_len c, fun m hm hb => ?_⟩
    obtain ⟨g1, g2⟩ := maxL_spec (ne_len c)
    have e1 := g2 m hm
    have e2 := hb _ g1
    rw [show m = maxL ns by omega]
    exact h2 _ fun _ _ => rfl) fun ns q e => by
  split at e
  · cases e
  · exact one_int e
theorem cb_min : CbS K (rMin K) bMin := cb_is (fun a ns H Q q h1 e h2 => by
  split at e
  · cases e
  · rename_i c
    cases e
    refine ⟨a, ns, rfl, h1, ne_len c, fun m hm hb => ?_⟩
    obtain ⟨g1, g2⟩ := minL_spec (ne_len c)
    have e1 := g2 m hm
    have e2 := hb _ g1
    rw [show m = minL ns by omega]
    exact h2 _ fun _ _ => rfl) fun ns q e => by
  split at e
  · cases e
  · exact one_int e
theorem cb_max2 : CbS K (fun xs H Q => ∃ i j, xs = [.int i, .int j] ∧ Q (.int (max i j)) H) bMax2 := cb_2 fun R ι O H p q x y E Q S r1 r2 h => by
  cases p <;> cases q <;> first | exact h.elim | exact ⟨_, _, by rw [show x = _ from r1, show y = _ from r2], h.here S rfl⟩
theorem cb_min2 : CbS K (fun xs H Q => ∃ i j, xs = [.int i, .int j] ∧ Q (.int (min i j)) H) bMin2 := cb_2 fun R ι O H p q x y E Q S r1 r2 h => by
  cases p <;> cases q <;> first | exact h.elim | exact ⟨_, _, by rw [show x = _ from r1, show y = _ from r2], h.here S rfl⟩
theorem cb_abs : CbS K (fun xs H Q => ∃ i, xs = [.int i] ∧ Q (.int (if i < 0 then -i else i)) H) bAbs := cb_1 fun R ι O H p x E Q S r1 h => by
  cases p <;> first | exact h.elim | exact ⟨_, by rw [show x = _ from r1], h.here S rfl⟩
theorem cb_int : CbS K (fun xs H Q => (∃ i, xs = [.int i] ∧ Q (.int i) H) ∨ ∃ k, xs = [.bl k] ∧ Q (.int (if k then 1 else 0)) H) bInt := cb_1 fun R ι O H p x E Q S r1 h => by
  cases p with
  | int i => exact .inl ⟨i, by rw [show x = .int i from r1], h.here S rfl⟩
  | bl k => exact .inr ⟨k, by rw [show x = .bl k from r1], h.here S rfl⟩
  | _ => exact h.elim
theorem seq_read {R : List (Addr × HO)} {ι : List Addr} {O : Sto} {H : Hp} {p : PV} {x : V} {ps : List PV} (S : Sim K R ι O H) (r : Rep K ι (fz R ι O H) p x) (e : seqOf O p = some ps) : ∃ a xs, x = .ref a ∧ (SqL K H a xs ∨ SqT K H a xs) ∧ RepL K ι (fz R ι O H) ps xs := by
  unfold seqOf at e
  cases e1 : lstOf O p with
  | some qs =>
    simp only [e1, Option.some.injEq] at e
    subst e
    obtain ⟨a, xs, h1, h2, h3⟩ := lst_read S r e1
    exact ⟨a, xs, h1, .inl h2, h3⟩
  | none =>
    simp only [e1] at e
    obtain ⟨a, xs, h1, h2, h3⟩ := tup_read S r e
    exact ⟨a, xs, h1, .inr h2, h3⟩
theorem cb_len : CbS K (fun xs H Q => ∃ p ys, xs = [.ref p] ∧ (SqL K H p ys ∨ SqT K H p ys) ∧ Q (.int ys.length) H) bLen := cb_1 fun R ι O H p x E Q S r1 h => by
  cases e : seqOf O p with
  | none => simp [e] at h; exact h.elim
  | some ps =>
    simp only [e] at h
    obtain ⟨a, xs, h1, h2, h3⟩ := seq_read S r1 e
    exact ⟨a, xs, by rw [h1], h2, by rw [h3.len]; exact h.here S rfl⟩
theorem cb_lenR : CbS K (fun vs H Q => ∃ a i j, vs = [V.ref a] ∧ H a = some (.rng i j) ∧ i ≤ j ∧ j - i < 2 ^ 63 ∧ Q (.int (j - i)) H) bLenR := cb_1 fun R ι O H p x E Q S r1 h => by
  cases p <;> first | exact h.elim | skip
  rename_i i j
  simp only at h
  split at h
  · rename_i c
    obtain ⟨c1, c2⟩ := Bool.and_eq_true_iff.mp c
    obtain ⟨a, e1, e2⟩ := r1
    exact ⟨a, i, j, by rw [e1], S.frozen _ _ e2, of_decide_eq_true c1, of_decide_eq_true c2, h.here S rfl⟩
  · exact h.elim
theorem cb_rng : CbS K (fun vs H Q => ∃ i j, vs = [V.int i, V.int j] ∧ ∀ p, H p = none → Q (.ref p) (upd H p (.rng i j))) bRng := cb_2 fun R ι O H p q x y E Q S r1 r2 h => by
  cases p <;> cases q <;> first | exact h.elim | skip
  rename_i i j
  refine ⟨i, j, by rw [show x = _ from r1, show y = _ from r2], fun o ho => ?_⟩
  obtain ⟨S2, X2, e2⟩ := S.newF ho (.rng i j)
  exact h.at S2 X2 ⟨o, rfl, e2⟩
theorem cb_tup : CbS K (rTupOf K) bTup := cb_1 fun R ι O H p x E Q S r1 h => by
  cases e : lstOf O p with
  | some ps =>
    simp only [e] at h
    obtain ⟨a, xs, h1, h2, h3⟩ := lst_read S r1 e
    refine ⟨a, xs, by rw [h1], .inl ⟨h2, fun o ho => ?_⟩⟩
    obtain ⟨S2, X2, e2⟩ := S.newF ho (.tup xs)
    exact h.at S2 X2 ⟨o, xs, rfl, SqT.of e2, X2.repL h3⟩
  | none =>
    simp only [e] at h
    cases p <;> first | exact h.elim | skip
    obtain ⟨a, xs, h1, h2, h3⟩ := tup_read S r1 rfl
    refine ⟨a, xs, by rw [h1], .inr ⟨h2, ?_⟩⟩
    rw [← h1]
    exact h.here S r1
theorem cb_lst : CbS K (fun xs H Q => ∃ p ys, xs = [.ref p] ∧ (SqL K H p ys ∨ SqT K H p ys) ∧ ∀ l, H l = none → Q (.ref l) (upd H l (.lst ys))) bLst := cb_1 fun R ι O H p x E Q S r1 h => by
  cases e : seqOf O p with
  | none => simp [e] at h; exact h.elim
  | some ps =>
    simp only [e] at h
    obtain ⟨a, xs, h1, h2, h3⟩ := seq_read S r1 e
    refine ⟨a, xs, by rw [h1], h2, fun o ho => ?_⟩
    obtain ⟨S2, X2, e2⟩ := S.newF ho (.lst xs)
    exact h.at S2 X2 ⟨o, xs, rfl, e2, X2.repL h3⟩
theorem cb_lstO : CbS K (fun xs H Q => ∃ p ys, xs = [.ref p] ∧ (SqL K H p ys ∨ SqT K H p ys) ∧ ∀ l, H l = none → Q (.ref l) (upd H l (.lst ys))) bLstO := cb_1 fun R ι O H p x E Q S r1 h => by
  cases e : seqOf O p with
  | none => simp [e] at h; exact h.elim
  | some ps =>
    simp only [e] at h
    obtain ⟨a, xs, h1, h2, h3⟩ := seq_read S r1 e
    refine ⟨a, xs, by rw [h1], h2, fun o ho => ?_⟩
    obtain ⟨S2, X2⟩ := S.newO (p := .lst ps) ho (o := .lst xs) ⟨_, rfl, h3⟩
    exact h.at S2 X2 ⟨o, rfl, new_at S.len⟩
theorem cb_divmod : CbS K (fun xs H Q => ∃ i j, xs = [.int i, .int j] ∧ CDiv i j ∧ ∀ p, H p = none → Q (.ref p) (upd H p (.tup [.int (i / j), .int (i % j)]))) bDivmod := cb_2 fun R ι O H p q x y E Q S r1 r2 h => by
  cases p <;> cases q <;> first | exact h.elim | skip
  rename_i i j
  simp only at h
  split at h
  · rename_i c
    unfold divOk at c
    have c := of_decide_eq_true c
    refine ⟨i, j, by rw [show x = _ from r1, show y = _ from r2], c, fun o ho => ?_⟩
    obtain ⟨S2, X2, e2⟩ := S.newF ho (.tup [.int (i / j), .int (i % j)])
    exact h.at S2 X2 ⟨o, _, rfl, SqT.of e2, .consR rfl (.one rfl)⟩
  · exact h.elim
end
/-! ### in -/
def scVs : List PV → Option (List V)
  | [] => some []
  | p :: ps => match scV p, scVs ps with
    | some v, some vs => some (v :: vs)
    | _, _ => none
theorem scVs_rep {K : PySem.W.Frag} {ι : List Addr} {G : Hp} : ∀ {ps : List PV} {vs xs : List V}, scVs ps = some vs → RepL K ι G ps xs → xs = vs
  | [], vs, xs, e, r => by cases e; exact r
  | p :: ps, vs, xs, e, ⟨x, t, e1, r1, r2⟩ => by
    unfold scVs at e
    cases e2 : scV p with
    | none => simp [e2] at e
    | some v =>
      cases e3 : scVs ps with
      | none => simp [e2, e3] at e
      | some ws =>
        simp only [e2, e3, Option.some.injEq] at e
        subst e
        rw [e1, scV_rep e2 r1, scVs_rep e3 r2]
def inS (neg : Bool) (p q : PV) (O : Sto) : PR PV := match scV p, (seqOf O q).bind scVs with
  | some v, some vs => if (flatV v && vs.all flatV) = true then .ok (.bl (if neg then !inV v vs else inV v vs)) O else .bad
  | _, _ => .bad
theorem os_inS {K : PySem.W.Frag} {neg : Bool} : OpS K (rIn K neg) (inS neg) := by
  intro R ι O H p q x y E Q S r1 r2 h
  unfold inS at h
  cases e1 : scV p with
  | none => simp [e1] at h; exact h.elim
  | some v =>
    cases e2 : (seqOf O q).bind scVs with
    | none => simp [e1, e2] at h; exact h.elim
    | some vs =>
      simp only [e1, e2] at h
      split at h
      · rename_i c
        obtain ⟨c1, c2⟩ := Bool.and_eq_true_iff.mp c
        obtain ⟨ps, e3, e4⟩ := Option.bind_eq_some_iff.mp e2
        obtain ⟨a, xs, h1, h2, h3⟩ := seq_read S r2 e3
        have ex := scVs_rep e4 h3
        subst ex
        have ev := scV_rep e1 r1
        subst ev
        exact ⟨a, xs, h1, h2, c1, c2, h.here S rfl⟩
      · exact h.elim
/-! ### isinstance -/
structure ClsK (K : PySem.W.Frag) (cs : List Str) : Prop where
  ins : ∀ C ∈ cs, InsK K (He.ga K C)
  bt : ∀ C ∈ cs, ∀ t ∈ KT, PySem.W.kitOne K (.type t) (.ref (He.ga K C)) = some false
  tb : ∀ C ∈ cs, ∀ t ∈ KT, PySem.W.kitOne K (.ref (He.ga K C)) (.type t) = some false
  cc : ∀ C ∈ cs, ∀ D ∈ cs, C ≠ D → PySem.W.kitOne K (.ref (He.ga K C)) (.ref (He.ga K D)) = some false
  ne : ∀ C ∈ cs, PySem.W.findIn K (.ref (He.ga K C)) "__ne__" = some (some (.builtin "object.__ne__"))
theorem ClsK.of {K : PySem.W.Frag} {cs : List Str} (e : exAll K cs = true) (hc : ∀ C ∈ cs, Cls K (He.ga K C)) : ClsK K cs := by
  unfold exAll at e
  obtain ⟨e1, e2⟩ := Bool.and_eq_true_iff.mp e
  obtain ⟨e3, e4⟩ := Bool.and_eq_true_iff.mp e2
  have one : ∀ C ∈ cs, exOne K cs C = true := fun C h => List.all_eq_true.mp e4 C h
  have sp : ∀ C ∈ cs, InsK K (He.ga K C) ∧ (∀ t ∈ KT, PySem.W.kitOne K (.type t) (.ref (He.ga K C)) = some false) ∧ (∀ t ∈ KT, PySem.W.kitOne K (.ref (He.ga K C)) (.type t) = some false) ∧ (∀ D ∈ cs, C ≠ D → PySem.W.kitOne K (.ref (He.ga K C)) (.ref (He.ga K D)) = some false) ∧ PySem.W.findIn K (.ref (He.ga K C)) "__ne__" = some (some (.builtin "object.__ne__")) := fun C h => by
    have o := one C h
    unfold exOne at o
    obtain ⟨o1, o⟩ := Bool.and_eq_true_iff.mp o
    obtain ⟨o2, o⟩ := Bool.and_eq_true_iff.mp o
    obtain ⟨o3, o⟩ := Bool.and_eq_true_iff.mp o
    obtain ⟨o4, o⟩ := Bool.and_eq_true_iff.mp o
    obtain ⟨o5, o6⟩ := Bool.and_eq_true_iff.mp o
    refine ⟨⟨hc C h, He.eqO_ok o1, He.eqO_ok e1, of_decide_eq_true e3, of_decide_eq_true o2⟩, fun t ht => of_decide_eq_true (List.all_eq_true.mp o3 t ht), fun t ht => of_decide_eq_true (List.all_eq_true.mp o4 t ht), fun D hD ne => ?_, He.eqO_ok o6⟩
    have q := List.all_eq_true.mp o5 D hD
    rcases Bool.or_eq_true_iff.mp q with q | q
    · exact absurd (of_decide_eq_true q) ne
    · exact of_decide_eq_true q
  exact ⟨fun C h => (sp C h).1, fun C h => (sp C h).2.1, fun C h => (sp C h).2.2.1, fun C h => (sp C h).2.2.2.1, fun C h => (sp C h).2.2.2.2⟩
def tyOf (O : Sto) (p : PV) : Option (Sum String Str) := match p with
  | .non => some (.inl "NoneType")
  | .bl _ => some (.inl "bool")
  | .int _ => some (.inl "int")
  | .str _ => some (.inl "str")
  | .tup _ => some (.inl "tuple")
  | .lst _ => some (.inl "list")
  | .rol _ => some (.inl "list")
  | .dic _ _ => some (.inl "dict")
  | .ins C _ _ => some (.inr C)
  | .loc n => match O[n]? with
    | some (some (.lst _)) => some (.inl "list")
    | some (some (.ins C _ _)) => some (.inr C)
    | some (some (.dic _ _)) => some (.inl "dict")
    | _ => none
  | _ => none
def kitP (cs : List Str) (t : Sum String Str) (c : PV) : Option Bool := match t, c with
  | .inl a, .ty b => kitB a b
  | .inl a, .cls C => if (cs.contains C && KT.contains a) = true then some false else none
  | .inr D, .ty b => if (cs.contains D && KT.contains b) = true then some false else none
  | .inr D, .cls C => if (cs.contains C && cs.contains D) = true then some (decide (D = C)) else none
  | _, _ => none
def isiP (cs : List Str) : List PV → Sto → PR PV := b2 fun p c O => match tyOf O p with
  | some t => match kitP cs t c with
    | some b => .ok (.bl b) O
    | none => .bad
  | none => .bad
section
variable {K : PySem.W.Frag} {cs : List Str}
def tyV' (K : PySem.W.Frag) : Sum String Str → Value
  | .inl a => .type a
  | .inr C => .ref (He.ga K C)
theorem sqt_ty {H : Hp} {a : Addr} {xs : List V} (h : SqT K H a xs) : TyX K H (.ref a) (.type "tuple") := by
  rcases h with (h | ⟨o, h⟩) | ⟨o, its, n, h1, h2, _⟩
  · exact .base (.tup h)
  · exact .fTuple h
  · exact .kTuple h1 h2
theorem sql_ty {H : Hp} {a : Addr} {xs : List V} (h : SqL K H a xs) : TyX K H (.ref a) (.type "list") := by
  rcases h with (h | ⟨o, h⟩) | ⟨o, its, n, h1, h2, _⟩
  · exact .base (.lst h)
  · exact .base (.frz h)
  · exact .kList h1 h2
theorem ty_read {R : List (Addr × HO)} {ι : List Addr} {O : Sto} {H : Hp} {p : PV} {x : V} {t : Sum String Str} (ck : ClsK K cs) (S : Sim K R ι O H) (r : Rep K ι (fz R ι O H) p x) (e : tyOf O p = some t) (hc : ∀ C, t = .inr C → C ∈ cs) : TyX K H x (tyV' K t) := by
  have insT : ∀ C ns ps, insOf O p = some (C, ns, ps) → t = .inr C → TyX K H x (tyV' K t) := fun C ns ps h1 h2 => by
    obtain ⟨a, dx, xs, g1, g2, _⟩ := ins_read S r h1
    have I := ck.ins C (hc C h2)
    rw [h2, g1]
    exact .base (.ins g2 I.cl I.ha I.hn I.htk I.hm)
  cases p with
  | non => cases e; rw [show x = _ from r]; exact .base .non
  | bl b => cases e; rw [show x = _ from r]; exact .base (.bl b)
  | int b => cases e; rw [show x = _ from r]; exact .base (.int b)
  | str b => cases e; rw [show x = _ from r]; exact .base (.str b)
  | tup ps =>
    cases e
    obtain ⟨a, xs, h1, h2, _⟩ := tup_read S r rfl
    rw [h1]; exact sqt_ty h2
  | lst ps =>
    cases e
    obtain ⟨a, xs, h1, h2, _⟩ := lst_read S r rfl
    rw [h1]; exact sql_ty h2
  | rol ps =>
    cases e
    obtain ⟨a, xs, h1, h2, _⟩ := lst_read S r rfl
    rw [h1]; exact sql_ty h2
  | ins C ns ps => cases e; exact insT C ns ps rfl rfl
  | dic ks vs =>
    cases e
    obtain ⟨a, kvs, h1, h2, _⟩ := r
    rw [h1]; exact .base (.dK (S.frozen _ _ h2))
  | loc n =>
    unfold tyOf at e
    cases q : O[n]? with
    | none => simp [q] at e
    | some w =>
      cases w with
      | none => simp [q] at e
      | some w =>
        cases w with
        | lst ps =>
          simp only [q, Option.some.injEq] at e
          subst e
          obtain ⟨a, xs, h1, h2, _⟩ := lst_read S r (ps := ps) (by simp [lstOf, q])
          rw [h1]; exact sql_ty h2
        | ins C ns ps =>
          simp only [q, Option.some.injEq] at e
          exact insT C ns ps (by simp [insOf, q]) e.symm
        | dic ks vs =>
          simp only [q, Option.some.injEq] at e
          subst e
          obtain ⟨a, e1, e2⟩ := r
          obtain ⟨o, h3, kvs, h4, _⟩ := S.obj n a _ e2 q
          subst h4
          rw [e1]; exact .base (.dK h3)
        | _ => simp [q] at e
  | _ => cases e
theorem kit_read {t : Sum String Str} {c : PV} {y : V} {ι : List Addr} {G : Hp} {b : Bool} (ck : ClsK K cs) (e : kitP cs t c = some b) (r : Rep K ι G c y) : (∀ C, t = .inr C → C ∈ cs) ∧ ∃ u, ClsV y u ∧ PySem.W.kitOne K (tyV' K t) u = some b := by
  cases t with
  | inl a =>
    refine ⟨fun C h => (nomatch h), ?_⟩
    cases c <;> first | cases e | skip
    · rename_i n
      rw [show y = .ty n from r]
      exact ⟨.type n, .ty n, kit_ty e⟩
    · rename_i C
      rw [show y = .ref _ from r]
      unfold kitP at e
      simp only at e
      split at e
      · rename_i z
        obtain ⟨z1, z2⟩ := Bool.and_eq_true_iff.mp z
        cases e
        exact ⟨_, .own _, ck.bt C (List.contains_iff_mem.mp z1) a (List.contains_iff_mem.mp z2)⟩
      · cases e
  | inr D =>
    cases c <;> first | cases e | skip
    · rename_i n
      unfold kitP at e
      simp only at e
      split at e
      · rename_i z
        obtain ⟨z1, z2⟩ := Bool.and_eq_true_iff.mp z
        cases e
        rw [show y = .ty n from r]
        exact ⟨fun C h => by cases h; exact List.contains_iff_mem.mp z1, .type n, .ty n, ck.tb D (List.contains_iff_mem.mp z1) n (List.contains_iff_mem.mp z2)⟩
      · cases e
    · rename_i C
      unfold kitP at e
      simp only at e
      split at e
      · rename_i z
        obtain ⟨z1, z2⟩ := Bool.and_eq_true_iff.mp z
        cases e
        rw [show y = .ref _ from r]
        refine ⟨fun C' h => by cases h; exact List.contains_iff_mem.mp z2, _, .own _, ?_⟩
        by_cases q : D = C
        · subst q
          simp only [decide_true]
          unfold PySem.W.kitOne tyV'
          simp
        · rw [decide_eq_false q]
          exact ck.cc D (List.contains_iff_mem.mp z2) C (List.contains_iff_mem.mp z1) q
      · cases e
theorem cb_isi (ck : ClsK K cs) : CbS K (rIsi K) (isiP cs) := cb_2 fun R ι O H p q x y E Q S r1 r2 h => by
  cases e : tyOf O p with
  | none => simp [e] at h; exact h.elim
  | some t =>
    simp only [e] at h
    cases e2 : kitP cs t q with
    | none => simp [e2] at h; exact h.elim
    | some b =>
      simp only [e2] at h
      obtain ⟨h1, u, h2, h3⟩ := kit_read ck e2 r2
      exact ⟨x, y, _, u, b, rfl, h2, ty_read ck S r1 e h1, h3, h.here S rfl⟩
end
/-! ### further statements -/
def sPar (n m : Nat) (f : AF) : SF := fun s O => (f s O).toS s fun ps O1 => match ps with
  | [p, q] => .next ((s.set n (some p)).set m (some q)) O1
  | _ => .bad
def sPar3 (n m l : Nat) (f : AF) : SF := fun s O => (f s O).toS s fun ps O1 => match ps with
  | [p, q, r] => .next (((s.set n (some p)).set m (some q)).set l (some r)) O1
  | _ => .bad
def sAug (i : Nat) (op : PV → PV → Sto → PR PV) (f : EF) : SF := fun s O => match s[i]? with
  | some (some p) => (f s O).toS s fun q O1 => (op p q O1).toS s fun r O2 => .next (s.set i (some r)) O2
  | _ => .bad
section
variable {K : PySem.W.Frag} {E : XM} {tA : TA} {fA : AF} {te : TE} {fe : EF}
theorem sim_par {n m : Nat} (hA : SimA K E tA fA) : SimS K E (tPar n m tA) (sPar n m fA) := fun R ι O H σ s D S L h =>
  hA R ι O H σ s _ S L (h.lift L fun ps O1 xs ι1 H1 S1 X1 r1 h1 => by
    match ps, h1, r1 with
    | [], h1, _ => exact h1.elim
    | [_], h1, _ => exact h1.elim
    | _ :: _ :: _ :: _, h1, _ => exact h1.elim
    | [p, q], h1, ⟨x, t, e, r2, y, t2, e2, r3, e3⟩ =>
      cases e3
      subst e2
      subst e
      exact ⟨x, y, rfl, h1 _ ι1 H1 S1 .refl (((L.ext X1).set n r2).set m r3)⟩)
theorem sim_par3 {n m l : Nat} (hA : SimA K E tA fA) : SimS K E (tPar3 n m l tA) (sPar3 n m l fA) := fun R ι O H σ s D S L h =>
  hA R ι O H σ s _ S L (h.lift L fun ps O1 xs ι1 H1 S1 X1 r1 h1 => by
    match ps, h1, r1 with
    | [], h1, _ => exact h1.elim
    | [_], h1, _ => exact h1.elim
    | [_, _], h1, _ => exact h1.elim
    | _ :: _ :: _ :: _ :: _, h1, _ => exact h1.elim
    | [p, q, r], h1, ⟨x, t, e, r2, y, t2, e2, r3, z, t3, e3, r4, e4⟩ =>
      cases e4
      subst e3
      subst e2
      subst e
      exact ⟨x, y, z, rfl, h1 _ ι1 H1 S1 .refl ((((L.ext X1).set n r2).set m r3).set l r4)⟩)
theorem sim_aug {i : Nat} {ti : TIp} {op : PV → PV → Sto → PR PV} (ho : OpS K ti op) (he : SimE K E te fe) : SimS K E (tAug i te ti) (sAug i op fe) := by
  intro R ι O H σ s D S L h
  unfold sAug at h
  cases e : s[i]? with
  | none => simp [e] at h; exact h.elim
  | some w =>
    cases w with
    | none => simp [e] at h; exact h.elim
    | some p =>
      simp only [e] at h
      obtain ⟨x, h1, h2⟩ := L.2 i p e
      refine ⟨x, h1, he R ι O H σ s _ S L (h.lift L fun q O1 y ι1 H1 S1 X1 r1 k1 => ho R ι1 O1 H1 p q x y _ _ S1 (X1.rep h2) r1 (k1.lift (L.ext X1) fun r O2 z ι2 H2 S2 X2 r2 k2 => k2 _ ι2 H2 S2 .refl ((L.ext (X1.trans X2)).set i r2)))⟩
theorem os_ipadd : OpS K (ipI fun i j => i + j) addI := os_add
theorem os_ipsub : OpS K (ipI fun i j => i - j) subI := os_sub
end
end Qx

/-! Own layer Q8: sorted sets of ints, never. -/
namespace Qx
open PySem PySem.Spec PyProof.Rows L2 Gx
theorem rp_int {K : PySem.W.Frag} {ι : List Addr} {G : Hp} {i : Int} : Rep K ι G (.int i) (.int i) := rfl
theorem rp_bl {K : PySem.W.Frag} {ι : List Addr} {G : Hp} {i : Bool} : Rep K ι G (.bl i) (.bl i) := rfl
theorem rp_str {K : PySem.W.Frag} {ι : List Addr} {G : Hp} {i : Str} : Rep K ι G (.str i) (.str i) := rfl
theorem rp_non {K : PySem.W.Frag} {ι : List Addr} {G : Hp} : Rep K ι G .non .non := rfl
def tYesP : TF := fun _ O => .ok true O
theorem sim_yesP {K : PySem.W.Frag} {E : XM} : SimT K E tYes tYesP := sim_yes
theorem sim_bad {K : PySem.W.Frag} {E : XM} {t : TS} : SimS K E t sBad := fun R ι O H σ s D S L h => h.elim
def gLstP (n : Nat) (gs : List PV → Slots → Sto → PR Slots) : GF := fun p s O => match lstOf O p with
  | some ps => if ps.length = n then gs ps s O else .bad
  | none => .bad
theorem g0_lstT {K : PySem.W.Frag} {E : XM} {gs : TGs} {fs : List PV → Slots → Sto → PR Slots} {n : Nat} (h : SimGs K E gs fs) : SimG0 K (gLst K n gs) (gLstP n fs) := by
  intro R ι O H σ s p x E' Q S L r k
  unfold gLstP at k
  cases e : lstOf O p with
  | none => simp [e] at k; exact k.elim
  | some ps =>
    simp only [e] at k
    split at k
    · rename_i c
      obtain ⟨a, xs, h1, h2, h3⟩ := lst_read S r e
      exact ⟨a, xs, h1, h2, by rw [h3.len]; exact c, h R ι O H σ s ps xs E' Q S L h3 k⟩
    · exact k.elim
/-! ### sorted(set(..)) of ints -/
def insI (n : Int) : List Int → List Int
  | [] => [n]
  | m :: ms => if n < m then n :: m :: ms else if n = m then m :: ms else m :: insI n ms
def riseI : List Int → List Int
  | [] => []
  | n :: ns => insI n (riseI ns)
theorem insI_mem {n k : Int} : ∀ {ms : List Int}, k ∈ insI n ms ↔ k = n ∨ k ∈ ms
  | [] => by simp [insI]
  | m :: ms => by
    unfold insI
    split
    · simp
    · split
      · rename_i e
        subst e
        simp
      · simp only [List.mem_cons, insI_mem]
        constructor
        · rintro (h | h | h)
          · exact .inr (.inl h)
          · exact .inl h
          · exact .inr (.inr h)
        · rintro (h | h | h)
          · exact .inr (.inl h)
          · exact .inl h
          · exact .inr (.inr h)
theorem insI_rise {n : Int} : ∀ {ms : List Int}, ms.Pairwise (· < ·) → (insI n ms).Pairwise (· < ·)
  | [], _ => by simp [insI]
  | m :: ms, h => by
    obtain ⟨h1, h2⟩ := List.pairwise_cons.mp h
    unfold insI
    split
    · rename_i c
      refine List.pairwise_cons.mpr ⟨fun k hk => ?_, h⟩
      rcases List.mem_cons.mp hk with rfl | hk
      · exact c
      · exact Int.lt_trans c (h1 k hk)
    · split
      · exact h
      · rename_i c1 c2
        refine List.pairwise_cons.mpr ⟨fun k hk => ?_, insI_rise h2⟩
        rcases insI_mem.mp hk with rfl | hk
        · omega
        · exact h1 k hk
theorem riseI_mem {k : Int} : ∀ {ns : List Int}, k ∈ riseI ns ↔ k ∈ ns
  | [] => Iff.rfl
  | n :: ns => by
    unfold riseI
    rw [insI_mem, riseI_mem]
    simp
theorem riseI_rise : ∀ ns : List Int, (riseI ns).Pairwise (· < ·)
  | [] => .nil
  | n :: ns => insI_rise (riseI_rise ns)
def eSortSet (f : EF) : EF := fun s O => (f s O).bind fun p O1 => match (lstOf O1 p).bind intsOf with
  | some ns => if (decide (ns.length < 4000) && decide ((riseI ns).length < 64)) = true then .ok (.lst ((riseI ns).map .int)) O1 else .bad
  | none => .bad
theorem sim_sortSet {K : PySem.W.Frag} {w : World} {E : XM} {te : TE} {fe : EF} (he : SimE K E te fe) : SimE K E (tCB (rSortedSet w) (tCons (tCB (rSetI K w) (tCons te tNil)) tNil)) (eSortSet fe) := fun R ι O H σ s Q S L h =>
  he R ι O H σ s _ S L (h.bind fun p O1 x ι1 H1 S1 X1 r1 h1 => by
    cases e : (lstOf O1 p).bind intsOf with
    | none => simp [e] at h1; exact h1.elim
    | some ns =>
      simp only [e] at h1
      split at h1
      · rename_i c
        obtain ⟨c1, c2⟩ := Bool.and_eq_true_iff.mp c
        have c1 := of_decide_eq_true c1
        have c2 := of_decide_eq_true c2
        obtain ⟨ps, e3, e4⟩ := Option.bind_eq_some_iff.mp e
        obtain ⟨a, xs, h2, h3, h4⟩ := lst_read S1 r1 e3
        subst h2
        rw [rep_ints e4 h4] at h3
        refine ⟨a, ns, rfl, h3, c1, fun b c hb hc => ?_⟩
        have hc : c ≤ (riseI ns).length := hc _ fun k hk => riseI_mem.mpr hk
        obtain ⟨S2, X2, e5⟩ := S1.newF hb (SetO w b (fun j => decide (j ∈ ns)) c)
        refine ⟨b, _, c, rfl, upd_same, by omega, fun zs p hz hk hl hp => ?_⟩
        have ez : zs = riseI ns := rise_eq hz (riseI_rise ns) fun k => by rw [hk, riseI_mem]; simp
        subst ez
        obtain ⟨S3, X3, e6⟩ := S2.newF hp (.lst ((riseI ns).map V.int))
        exact h1.at S3 (X2.trans X3) ⟨p, _, rfl, e6, RepL.mapV (f := PV.int) (g := V.int) (fun _ => rfl) _⟩
      · exact h1.elim)
end Qx

/-! Own: zip of two sequences of any two kinds (a tuple and a list). -/
namespace Zx
open PySem PySem.Spec PyProof.Rows L2
open PySem.Sem (wp)
/-- a kind of sequence with its iterator -/
structure Kd where
  It : Heap → Addr → Addr → Nat → Prop
  Ls : Heap → Addr → Array Value → Prop
  ob : ∀ {h i l n}, It h i l n → ∃ o fs, h.get? i = some o ∧ o.data = .fields fs
  itk : ∀ {h h' i l n}, It h i l n → (∀ o, h.get? i = some o → h'.get? i = some o) → It h' i l n
  lsk : ∀ {h h' l xs}, Ls h l xs → (∀ o, h.get? l = some o → h'.get? l = some o) → Ls h' l xs
  nx : ∀ {prog : Program} {w : World} {A : Around} {E : Value → Shared → Prop} {s : Shared} {i l : Addr} {n : Nat} {xs : Array Value} {x : Value} {Q : Value → Shared → Prop}, It s.heap i l n → Ls s.heap l xs → xs[n]? = some x → (∀ h', It h' i l (n + 1) → Heap.SameBut i s.heap h' → Q x { s with heap := h' }) → wpAny (model prog w) A (Builtin.SmallTypes.nextOf (.ref i)) Q E s
  en : ∀ {prog : Program} {w : World} {A : Around} {E : Value → Shared → Prop} {s : Shared} {i l : Addr} {n : Nat} {xs : Array Value} {Q : Value → Shared → Prop}, A.handled = none → It s.heap i l n → Ls s.heap l xs → xs[n]? = none → (∀ h' e, Heap.ExtBut i s.heap h' → (∃ o, h'.get? e = some o ∧ o.cls = .type "StopIteration") → E (.ref e) { s with heap := h' }) → wpAny (model prog w) A (Builtin.SmallTypes.nextOf (.ref i)) Q E s
def kL : Kd := ⟨Heap.IsListIter, Heap.IsList, fun h => by obtain ⟨o, h1, _, h2⟩ := h; exact ⟨o, _, h1, h2⟩, fun h k => h.at k, fun h k => h.at k, fun a b c d => wpAny_nextOf_list_item a b c d, fun a b c d e => wpAny_nextOf_list_end a b c d e⟩
def kT : Kd := ⟨Heap.IsTupleIter, Heap.IsTuple, fun h => by obtain ⟨o, h1, _, h2⟩ := h; exact ⟨o, _, h1, h2⟩, fun h k => h.at k, fun h k => by obtain ⟨o, h1, h2⟩ := h; exact ⟨o, k o h1, h2⟩, fun a b c d => RZ.nextOf_tuple_item a b c d, fun a b c d e => RZ.nextOf_tuple_end a b c d e⟩

section
variable {prog : Program} {w : World} {A : Around} {E : Value → Shared → Prop} {s : Shared} {a b : Kd}
/-- what is as it was but for the zip's own four cells -/
def Kept (z TO i j : Addr) (h h' : Heap) : Prop := ∀ c o, c ≠ z → c ≠ TO → c ≠ i → c ≠ j → h.get? c = some o → h'.get? c = some o
theorem item {z TI TO i j l m : Addr} {n : Nat} {xs ys : Array Value} {x y p q : Value} {Q : Value → Shared → Prop} (D : ZipApart z TI TO i j l m)
    (hz : IsZip s.heap z TI TO .none) (hI : IsPair s.heap TI (.ref i) (.ref j)) (hO : IsPair s.heap TO p q) (h1 : a.It s.heap i l n) (h2 : b.It s.heap j m n) (g1 : a.Ls s.heap l xs) (g2 : b.Ls s.heap m ys) (hx : xs[n]? = some x) (hy : ys[n]? = some y)
    (k : ∀ h', IsZip h' z TI TO (rawInt s.heap.objs.size) → IsPair h' TO x y → a.It h' i l (n + 1) → b.It h' j m (n + 1) → IsPair h' s.heap.objs.size x y → h'.objs.size = s.heap.objs.size + 1 → Kept z TO i j s.heap h' → Q (.ref s.heap.objs.size) { s with heap := h' }) :
    wpAny (model prog w) A (Builtin.«zip.__next__» ⟨[.ref z], []⟩) (fun f s' => ∃ v, f = .done (.ret v) ∧ Q v s') E s := by
  show wpAny _ _ (field (.ref z) 2 >>= _) _ _ s
  refine wpAny_bind (wpAny_field hz rfl (x := .bool false) rfl (?_ : wpAny _ _ (field (.ref z) 3 >>= _) _ _ _))
  refine wpAny_bind (wpAny_field hz rfl (x := .ref TI) rfl (wpAny_bind (wpAny_seqItems hI rfl (?_ : wpAny _ _ (Builtin.SmallTypes.ownedTupleIsFree (.ref z) >>= _) _ _ _))))
  refine wpAny_bind (by
    unfold Builtin.SmallTypes.ownedTupleIsFree
    refine wpAny_bind (wpAny_field hz rfl (x := .none) rfl (wpAny_pure (?_ : _)))
    simp only [if_true]
    refine wpAny_bind (wpAny_rule (wpAny_bind (wpAny_field hz rfl (x := .ref TO) rfl (wpAny_bind (wpAny_setField_rec hz (by simp) fun u1 z1 s1 => ?_)))))
    have z1 : IsZip u1 z TI TO .ellipsis := z1
    refine wpAny_bind (?_ : _)
    simp only [List.zipIdx_cons, List.zipIdx_nil, List.forIn_cons, List.forIn_nil]
    have l1 := s1.extBut
    refine wpAny_bind (wpAny_bind (wpAny_onRaise (?_ : wpAny _ _ (Builtin.SmallTypes.nextOf (.ref i) >>= _) _ _ _)))
    refine wpAny_bind (a.nx (a.itk h1 fun o e => l1 i o D.i1z e) (a.lsk g1 fun o e => l1 l o D.l1z e) hx fun u2 t2 s2 => wpAny_pure ?_)
    have l2 := s2.extBut
    have O2 : IsPair u2 TO p q := l2 _ _ D.TOi1 (l1 _ _ D.TOz hO)
    refine wpAny_bind (wpAny_seqItems O2 rfl (wpAny_bind (wpAny_updateSeq_pair O2 fun u3 O3 s3 => ?_)))
    have O3 : IsPair u3 TO x q := O3
    have l3 := s3.extBut
    refine wpAny_bind (wpAny_letGo (wpAny_pure (wpAny_bind (wpAny_bind (wpAny_onRaise (?_ : wpAny _ _ (Builtin.SmallTypes.nextOf (.ref j) >>= _) _ _ _))))))
    refine wpAny_bind (b.nx (b.itk h2 fun o e => l3 _ _ D.TOi2.symm (l2 _ _ D.i12.symm (l1 _ _ D.i2z e))) (b.lsk g2 fun o e => l3 _ _ D.l2TO (l2 _ _ D.l2i1 (l1 _ _ D.l2z e))) hy fun u4 t4 s4 => wpAny_pure ?_)
    have l4 := s4.extBut
    have O4 : IsPair u4 TO x q := l4 _ _ D.TOi2 O3
    refine wpAny_bind (wpAny_seqItems O4 rfl (wpAny_bind (wpAny_updateSeq_pair O4 fun u5 O5 s5 => ?_)))
    have O5 : IsPair u5 TO x y := O5
    have l5 := s5.extBut
    refine wpAny_bind (wpAny_letGo (wpAny_pure (wpAny_pure (wpAny_bind (wpAny_seqItems O5 rfl (wpAny_bind (wpAny_newTuple ?_)))))))
    have e5 : u5.objs.size = s.heap.objs.size := by rw [s5.1, s4.1, s3.1, s2.1, s1.1]
    have z5 : IsZip u5 z TI TO .ellipsis := l5 _ _ D.TOz.symm (l4 _ _ D.i2z.symm (l3 _ _ D.TOz.symm (l2 _ _ D.i1z.symm z1)))
    have k5 : Kept z TO i j s.heap u5 := fun c o c1 c2 c3 c4 e => l5 _ _ c2 (l4 _ _ c4 (l3 _ _ c2 (l2 _ _ c3 (l1 _ _ c1 e))))
    have t5 : a.It u5 i l (n + 1) := a.itk t2 fun o e => l5 _ _ D.TOi1.symm (l4 _ _ D.i12 (l3 _ _ D.TOi1.symm e))
    have w5 : b.It u5 j m (n + 1) := b.itk t4 fun o e => l5 _ _ D.TOi2.symm e
    have zl := Heap.lt_size z5
    refine wpAny_bind (?_ : wpAny _ _ (Builtin.SmallTypes.ownedTupleHandOut (.ref z) (.ref u5.objs.size)) _ _ _)
    unfold Builtin.SmallTypes.ownedTupleHandOut
    have z6 : IsZip (u5.push { cls := .type "tuple", data := .seq #[x, y] }) z TI TO .ellipsis := Heap.get?_push_of_some _ z5
    refine wpAny_bind (wpAny_setField_rec z6 (by simp) fun u7 z7 s7 => ?_)
    have z7 : IsZip u7 z TI TO (rawInt u5.objs.size) := z7
    refine wpAny_setField_rec z7 (by simp) fun u8 z8 s8 => ?_
    have z8 : IsZip u8 z TI TO (rawInt u5.objs.size) := z8
    have up : ∀ c o, c ≠ z → u5.get? c = some o → u8.get? c = some o := fun c o ne e => s8.extBut _ _ ne (s7.extBut _ _ ne (Heap.get?_push_of_some _ e))
    have T8 : IsPair u8 u5.objs.size x y := s8.extBut _ _ (Nat.ne_of_gt zl) (s7.extBut _ _ (Nat.ne_of_gt zl) (Heap.get?_push_size _ rfl))
    have e8 : u8.objs.size = u5.objs.size + 1 := by rw [s8.1, s7.1, Heap.size_push]
    rw [e5] at z8 T8 e8
    refine wpAny_pure ⟨_, rfl, ?_⟩
    rw [e5]
    exact k u8 z8 (up _ _ D.TOz O5) (a.itk t5 fun o e => up _ o D.i1z e) (b.itk w5 fun o e => up _ o D.i2z e) T8 e8 fun c o ne c2 c3 c4 e => up c o ne (k5 c o ne c2 c3 c4 e))
theorem ende {z TI TO i j l m : Addr} {n : Nat} {xs ys : Array Value} {p q : Value} {Q : Fin → Shared → Prop} (hh : A.handled = none) (D : ZipApart z TI TO i j l m)
    (hz : IsZip s.heap z TI TO .none) (hI : IsPair s.heap TI (.ref i) (.ref j)) (hO : IsPair s.heap TO p q) (h1 : a.It s.heap i l n) (h2 : b.It s.heap j m n) (g1 : a.Ls s.heap l xs) (g2 : b.Ls s.heap m ys) (hx : xs[n]? = none ∨ ys[n]? = none)
    (k : ∀ h' e, Kept z TO i j s.heap h' → (∃ o, h'.get? e = some o ∧ o.cls = .type "StopIteration") → E (.ref e) { s with heap := h' }) : wpAny (model prog w) A (Builtin.«zip.__next__» ⟨[.ref z], []⟩) Q E s := by
  show wpAny _ _ (field (.ref z) 2 >>= _) _ _ s
  refine wpAny_bind (wpAny_field hz rfl (x := .bool false) rfl (?_ : wpAny _ _ (field (.ref z) 3 >>= _) _ _ _))
  refine wpAny_bind (wpAny_field hz rfl (x := .ref TI) rfl (wpAny_bind (wpAny_seqItems hI rfl (?_ : wpAny _ _ (Builtin.SmallTypes.ownedTupleIsFree (.ref z) >>= _) _ _ _))))
  refine wpAny_bind (by
    unfold Builtin.SmallTypes.ownedTupleIsFree
    refine wpAny_bind (wpAny_field hz rfl (x := .none) rfl (wpAny_pure (?_ : _)))
    simp only [if_true]
    refine wpAny_bind (wpAny_rule (wpAny_bind (wpAny_field hz rfl (x := .ref TO) rfl (wpAny_bind (wpAny_setField_rec hz (by simp) fun u1 z1 s1 => ?_)))))
    have z1 : IsZip u1 z TI TO .ellipsis := z1
    refine wpAny_bind (?_ : _)
    simp only [List.zipIdx_cons, List.zipIdx_nil, List.forIn_cons, List.forIn_nil]
    have l1 := s1.extBut
    have it1 := a.itk h1 fun o e => l1 i o D.i1z e
    have ls1 := a.lsk g1 fun o e => l1 l o D.l1z e
    refine wpAny_bind (wpAny_bind (wpAny_onRaise (?_ : wpAny _ _ (Builtin.SmallTypes.nextOf (.ref i) >>= _) _ _ _)))
    cases c : xs[n]? with
    | none =>
      refine wpAny_bind (a.en hh it1 ls1 c fun u2 e s2 w2 => ?_)
      obtain ⟨oe, w3, w4⟩ := w2
      have z2 : IsZip u2 z TI TO .ellipsis := s2 _ _ D.i1z.symm z1
      have ne : e ≠ z := fun x => by subst x; rw [z2] at w3; cases w3; simp at w4
      exact wpAny_setField_rec z2 (by simp) fun u3 _ s3 => k u3 e (fun c o c1 _ c3 _ x => s3.extBut _ _ c1 (s2 _ _ c3 (l1 _ _ c1 x))) ⟨oe, s3.extBut _ _ ne w3, w4⟩
    | some x =>
      have hy : ys[n]? = none := hx.resolve_left fun x => by rw [c] at x; cases x
      refine wpAny_bind (a.nx it1 ls1 c fun u2 t2 s2 => wpAny_pure ?_)
      have l2 := s2.extBut
      have O2 : IsPair u2 TO p q := l2 _ _ D.TOi1 (l1 _ _ D.TOz hO)
      refine wpAny_bind (wpAny_seqItems O2 rfl (wpAny_bind (wpAny_updateSeq_pair O2 fun u3 O3 s3 => ?_)))
      have l3 := s3.extBut
      refine wpAny_bind (wpAny_letGo (wpAny_pure (wpAny_bind (wpAny_bind (wpAny_onRaise (?_ : wpAny _ _ (Builtin.SmallTypes.nextOf (.ref j) >>= _) _ _ _))))))
      refine wpAny_bind (b.en hh (b.itk h2 fun o e => l3 _ _ D.TOi2.symm (l2 _ _ D.i12.symm (l1 _ _ D.i2z e))) (b.lsk g2 fun o e => l3 _ _ D.l2TO (l2 _ _ D.l2i1 (l1 _ _ D.l2z e))) hy fun u4 e s4 w2 => ?_)
      obtain ⟨oe, w3, w4⟩ := w2
      have z4 : IsZip u4 z TI TO .ellipsis := s4 _ _ D.i2z.symm (l3 _ _ D.TOz.symm (l2 _ _ D.i1z.symm z1))
      have ne : e ≠ z := fun x => by subst x; rw [z4] at w3; cases w3; simp at w4
      exact wpAny_setField_rec z4 (by simp) fun u5 _ s5 => k u5 e (fun c o c1 c2 c3 c4 x => s5.extBut _ _ c1 (s4 _ _ c4 (l3 _ _ c2 (l2 _ _ c3 (l1 _ _ c1 x))))) ⟨oe, s5.extBut _ _ ne w3, w4⟩)
theorem nextI {z TI TO i j l m : Addr} {n : Nat} {xs ys : Array Value} {x y p q : Value} {Q : Option Value → Shared → Prop} (D : ZipApart z TI TO i j l m)
    (hz : IsZip s.heap z TI TO .none) (hI : IsPair s.heap TI (.ref i) (.ref j)) (hO : IsPair s.heap TO p q) (h1 : a.It s.heap i l n) (h2 : b.It s.heap j m n) (g1 : a.Ls s.heap l xs) (g2 : b.Ls s.heap m ys) (hx : xs[n]? = some x) (hy : ys[n]? = some y)
    (k : ∀ h', IsZip h' z TI TO (rawInt s.heap.objs.size) → IsPair h' TO x y → a.It h' i l (n + 1) → b.It h' j m (n + 1) → IsPair h' s.heap.objs.size x y → h'.objs.size = s.heap.objs.size + 1 → Kept z TO i j s.heap h' → Q (some (.ref s.heap.objs.size)) { s with heap := h' }) : wpAny (model prog w) A (pyNext (.ref z)) Q E s := by
  have T : s.TypeIs (.ref z) "zip" := ⟨_, hz, rfl⟩
  have c := item (prog := prog) (w := w) (A := A.in1) (E := fun e s' => False) (s := s) (a := a) (b := b) (Q := fun v s' => Q (some v) s') D hz hI hO h1 h2 g1 g2 hx hy fun h' a1 a2 a3 a4 a5 a6 a7 => k h' a1 a2 a3 a4 a5 a6 a7
  unfold pyNext
  exact wpAny_bind (wpAny_attempt (wpAny_callSpecial?_slot (name := Str.ofString "__next__") T F.slot_zip_next (wpAny_call_entry F.slot_zip_next T F.entry_zip_next
    (item D hz hI hO h1 h2 g1 g2 hx hy fun h' a1 a2 a3 a4 a5 a6 a7 => wpAny_pure (k h' a1 a2 a3 a4 a5 a6 a7)) (F.args_zip_next_1 _))))
theorem nextE {z TI TO i j l m : Addr} {n : Nat} {xs ys : Array Value} {p q : Value} {Q : Option Value → Shared → Prop} (hh : A.handled = none) (D : ZipApart z TI TO i j l m)
    (hz : IsZip s.heap z TI TO .none) (hI : IsPair s.heap TI (.ref i) (.ref j)) (hO : IsPair s.heap TO p q) (h1 : a.It s.heap i l n) (h2 : b.It s.heap j m n) (g1 : a.Ls s.heap l xs) (g2 : b.Ls s.heap m ys) (hx : xs[n]? = none ∨ ys[n]? = none)
    (k : ∀ h', Kept z TO i j s.heap h' → Q none { s with heap := h' }) : wpAny (model prog w) A (pyNext (.ref z)) Q E s := by
  have T : s.TypeIs (.ref z) "zip" := ⟨_, hz, rfl⟩
  unfold pyNext
  exact wpAny_bind (wpAny_attempt (wpAny_callSpecial?_slot (name := Str.ofString "__next__") T F.slot_zip_next (wpAny_call_entry F.slot_zip_next T F.entry_zip_next
    (ende hh D hz hI hO h1 h2 g1 g2 hx fun h' e u ⟨o, v1, v2⟩ => wpAny_bind (wpAny_isInstance (T := "StopIteration") (b := true) ⟨o, v1, v2⟩ isSubtype_stop (wpAny_pure (k _ u)))) (F.args_zip_next_1 _))))
end
/-! ### the call of zip -/
abbrev w1 (c : String) (h : Heap) (l : Addr) : Heap := h.push { cls := .type c, data := .fields #[.ref l, .int 0 0] }
abbrev w2 (c d : String) (h : Heap) (l m : Addr) : Heap := w1 d (w1 c h l) m
abbrev w3 (c d : String) (h : Heap) (l m : Addr) : Heap := (w2 c d h l m).push { cls := .type "tuple", data := .seq #[.ref h.objs.size, .ref (w1 c h l).objs.size] }
abbrev w4 (c d : String) (h : Heap) (l m : Addr) : Heap := (w3 c d h l m).push { cls := .type "tuple", data := .seq #[.none, .none] }
abbrev w5 (c d : String) (h : Heap) (l m : Addr) : Heap := (w4 c d h l m).push { cls := .type "zip", data := .fields #[.none, .bool false, .bool false, .ref (w2 c d h l m).objs.size, .ref (w3 c d h l m).objs.size] }
theorem meets_TL (l m : Addr) (xs ys : Array Value) :
    Meets (Builtin.«zip.__new__» ⟨[.type "zip", .ref l, .ref m], []⟩) (fun _ R s => s.heap.IsTuple l xs ∧ s.heap.IsList m ys ∧ R (.ok (.ret (.ref (w4 "tuple_iterator" "list_iterator" s.heap l m).objs.size))) { s with heap := w5 "tuple_iterator" "list_iterator" s.heap l m }) :=
  .of_wp fun prog w A R s h => by
    obtain ⟨hp, g, d, tk, os⟩ := s
    obtain ⟨g1, g2, h⟩ := h
    have hs := sub_zip
    have t1 : Heap.IsTuple (Shared.heap ⟨hp, g, d, tk, os⟩) l xs := g1
    have t2 : Heap.IsList (Shared.heap ⟨hp.push { cls := .type "tuple_iterator", data := .fields #[.ref l, .int 0 0] }, g, d, tk, os⟩) m ys := Heap.IsList.push g2 _
    wp_walk using wpAny_pyIter_tuple t1, wpAny_pyIter_list t2
    exact ⟨_, rfl, h⟩
theorem meets_LT (l m : Addr) (xs ys : Array Value) :
    Meets (Builtin.«zip.__new__» ⟨[.type "zip", .ref l, .ref m], []⟩) (fun _ R s => s.heap.IsList l xs ∧ s.heap.IsTuple m ys ∧ R (.ok (.ret (.ref (w4 "list_iterator" "tuple_iterator" s.heap l m).objs.size))) { s with heap := w5 "list_iterator" "tuple_iterator" s.heap l m }) :=
  .of_wp fun prog w A R s h => by
    obtain ⟨hp, g, d, tk, os⟩ := s
    obtain ⟨g1, g2, h⟩ := h
    have hs := sub_zip
    have t1 : Heap.IsList (Shared.heap ⟨hp, g, d, tk, os⟩) l xs := g1
    have t2 : Heap.IsTuple (Shared.heap ⟨hp.push { cls := .type "list_iterator", data := .fields #[.ref l, .int 0 0] }, g, d, tk, os⟩) m ys := Heap.IsTuple.push g2 _
    wp_walk using wpAny_pyIter_list t1, wpAny_pyIter_tuple t2
    exact ⟨_, rfl, h⟩
theorem w5_at (c d : String) (h : Heap) (l m : Addr) : (w4 c d h l m).objs.size = h.objs.size + 4 ∧ IsZip (w5 c d h l m) (h.objs.size + 4) (h.objs.size + 2) (h.objs.size + 3) .none ∧ IsPair (w5 c d h l m) (h.objs.size + 2) (.ref h.objs.size) (.ref (h.objs.size + 1)) ∧
    IsPair (w5 c d h l m) (h.objs.size + 3) .none .none ∧ (∃ o, (w5 c d h l m).get? h.objs.size = some o ∧ o.cls = .type c ∧ o.data = .fields #[.ref l, .int 0 0]) ∧ (∃ o, (w5 c d h l m).get? (h.objs.size + 1) = some o ∧ o.cls = .type d ∧ o.data = .fields #[.ref m, .int 0 0]) ∧ ∀ x o, h.get? x = some o → (w5 c d h l m).get? x = some o := by
  have e1 : (w1 c h l).objs.size = h.objs.size + 1 := Heap.size_push ..
  have e2 : (w2 c d h l m).objs.size = h.objs.size + 2 := by rw [Heap.size_push, e1]
  have e3 : (w3 c d h l m).objs.size = h.objs.size + 3 := by rw [Heap.size_push, e2]
  have e4 : (w4 c d h l m).objs.size = h.objs.size + 4 := by rw [Heap.size_push, e3]
  have u5 : (w5 c d h l m).get? (w4 c d h l m).objs.size = some _ := Heap.get?_push_size _ rfl
  have k4 : ∀ x o, (w4 c d h l m).get? x = some o → (w5 c d h l m).get? x = some o := fun x o e => Heap.get?_push_of_some _ e
  have k3 : ∀ x o, (w3 c d h l m).get? x = some o → (w5 c d h l m).get? x = some o := fun x o e => k4 x o (Heap.get?_push_of_some _ e)
  have k2 : ∀ x o, (w2 c d h l m).get? x = some o → (w5 c d h l m).get? x = some o := fun x o e => k3 x o (Heap.get?_push_of_some _ e)
  have k1 : ∀ x o, (w1 c h l).get? x = some o → (w5 c d h l m).get? x = some o := fun x o e => k2 x o (Heap.get?_push_of_some _ e)
  have u4 : (w5 c d h l m).get? (w3 c d h l m).objs.size = some _ := k4 _ _ (Heap.get?_push_size _ rfl)
  have u3 : (w5 c d h l m).get? (w2 c d h l m).objs.size = some _ := k3 _ _ (Heap.get?_push_size _ rfl)
  have u2 : (w5 c d h l m).get? (w1 c h l).objs.size = some _ := k2 _ _ (Heap.get?_push_size _ rfl)
  have u1 : (w5 c d h l m).get? h.objs.size = some _ := k1 _ _ (Heap.get?_push_size _ rfl)
  rw [e4, e2, e3] at u5
  rw [e3] at u4
  rw [e2, e1] at u3
  rw [e1] at u2
  exact ⟨e4, u5, u3, u4, ⟨_, u1, rfl, rfl⟩, ⟨_, u2, rfl, rfl⟩, fun x o e => k1 x o (Heap.get?_push_of_some _ e)⟩
section
variable {prog : Program} {w : World} {A : Around} {E : Value → Shared → Prop} {s : Shared}
/-- what a new zip's iterators stand at -/
def News (a b : Kd) (s : Shared) (l m : Addr) (Q : Value → Shared → Prop) : Prop := ∀ h', IsZip h' (s.heap.objs.size + 4) (s.heap.objs.size + 2) (s.heap.objs.size + 3) .none → IsPair h' (s.heap.objs.size + 2) (.ref s.heap.objs.size) (.ref (s.heap.objs.size + 1)) → IsPair h' (s.heap.objs.size + 3) .none .none → a.It h' s.heap.objs.size l 0 → b.It h' (s.heap.objs.size + 1) m 0 → (∀ c o, s.heap.get? c = some o → h'.get? c = some o) → Q (.ref (s.heap.objs.size + 4)) { s with heap := h' }
theorem call_TL {l m : Addr} {xs ys : Array Value} {Q : Value → Shared → Prop} (g1 : s.heap.IsTuple l xs) (g2 : s.heap.IsList m ys) (k : News kT kL s l m Q) : wpAny (model prog w) A (call (.type "zip") [.ref l, .ref m]) Q E s := by
  obtain ⟨e, a1, a2, a3, a4, a5, a6⟩ := w5_at "tuple_iterator" "list_iterator" s.heap l m
  refine callType_new F.called_zip (by decide) (F.typeCall_zip_2 _ _) (F.newCall_zip_2 _ _) (fun obj => F.args_object_init_3 obj _ _) F.entry_zip_new (meets_TL l m xs ys) ⟨g1, g2, ?_⟩
  show _ ∧ _
  rw [e]
  exact ⟨⟨_, a1, rfl⟩, k _ a1 a2 a3 a4 a5 a6⟩
theorem call_LT {l m : Addr} {xs ys : Array Value} {Q : Value → Shared → Prop} (g1 : s.heap.IsList l xs) (g2 : s.heap.IsTuple m ys) (k : News kL kT s l m Q) : wpAny (model prog w) A (call (.type "zip") [.ref l, .ref m]) Q E s := by
  obtain ⟨e, a1, a2, a3, a4, a5, a6⟩ := w5_at "list_iterator" "tuple_iterator" s.heap l m
  refine callType_new F.called_zip (by decide) (F.typeCall_zip_2 _ _) (F.newCall_zip_2 _ _) (fun obj => F.args_object_init_3 obj _ _) F.entry_zip_new (meets_LT l m xs ys) ⟨g1, g2, ?_⟩
  show _ ∧ _
  rw [e]
  exact ⟨⟨_, a1, rfl⟩, k _ a1 a2 a3 a4 a5 a6⟩
end
/-! ### the turn of a loop -/
/-- t: a tuple with a list; else a list with a tuple -/
def kA (t : Bool) : Kd := if t then kT else kL
def kB (t : Bool) : Kd := if t then kL else kT
def PX (K : PySem.W.Frag) (t : Bool) (a b : Addr) (H : Hp) (xs ys : List V) : Prop := if t then SqT K H a xs ∧ SqL K H b ys else SqL K H a xs ∧ SqT K H b ys
def ItM (K : PySem.W.Frag) (t : Bool) (a b : Addr) : It :=
  ⟨fun i H => ∃ (xs ys : List V) (x y : V), PX K t a b H xs ys ∧ xs[i]? = some x ∧ ys[i]? = some y,
    fun i H v H' => ∃ T x y, v = .ref T ∧ H T = none ∧ H' = upd H T (.tup [x, y]) ∧ ∀ xs ys, PX K t a b H xs ys → xs[i]? = some x ∧ ys[i]? = some y,
    fun i H => ∃ xs ys : List V, PX K t a b H xs ys ∧ (xs.length ≤ i ∨ ys.length ≤ i)⟩
theorem px_read {X : Cx} {pins : List (Addr × Obj)} {σ : L2.St} {H : Hp} {s : Shared} {t : Bool} {a b : Addr} {xs ys : List V} (I : Inv X pins σ H s) (h : PX X.K t a b H xs ys) : ∃ its js, Vals xs its ∧ Vals ys js ∧ (kA t).Ls s.heap a its.toArray ∧ (kB t).Ls s.heap b js.toArray := by
  cases t with
  | true =>
    obtain ⟨its, rv, p, _⟩ := I.tuple h.1
    obtain ⟨js, rw_, q, _⟩ := I.list h.2
    exact ⟨its, js, rv, rw_, p, q.isList⟩
  | false =>
    obtain ⟨its, rv, p, _⟩ := I.list h.1
    obtain ⟨js, rw_, q, _⟩ := I.tuple h.2
    exact ⟨its, js, rv, rw_, p.isList, q⟩
theorem px_inj {X : Cx} {pins : List (Addr × Obj)} {σ : L2.St} {H : Hp} {s : Shared} {t : Bool} {a b : Addr} {xs ys xs' ys' : List V} (I : Inv X pins σ H s) (h : PX X.K t a b H xs ys) (h' : PX X.K t a b H xs' ys') : xs' = xs ∧ ys' = ys := by
  cases t with
  | true => exact ⟨I.tuple_inj h'.1 h.1, I.list_inj h'.2 h.2⟩
  | false => exact ⟨I.list_inj h'.1 h.1, I.tuple_inj h'.2 h.2⟩
theorem in5 {P : Addr → Prop} {z a b c d : Addr} (h1 : P z) (h2 : P a) (h3 : P b) (h4 : P c) (h5 : P d) : ∀ x, x ∈ [z, a, b, c, d] → P x := fun x hx => by
  simp only [List.mem_cons, List.not_mem_nil, or_false] at hx
  rcases hx with rfl | rfl | rfl | rfl | rfl <;> assumption
theorem turnM {P : Program} {w : World} {K : PySem.W.Frag} {elts : List Expr} {kk : Nat} {tpos : Pos} {t : Bool} {a b z TI TO i1 i2 : Addr} (D : ZipApart z TI TO i1 i2 a b) :
    Turn P w K (.Tuple elts kk tpos) (ItM K t a b) [z, TI, TO, i1, i2] z (fun n h => IsZip h z TI TO .none ∧ IsPair h TI (.ref i1) (.ref i2) ∧ (∃ x y, IsPair h TO x y) ∧ (kA t).It h i1 a n ∧ (kB t).It h i2 b n) where
  mem := List.mem_cons_self
  obj := fun n h ⟨hz, hI, ⟨x, y, hO⟩, g1, g2⟩ c hc => by
    obtain ⟨o1, f1, e1, d1⟩ := (kA t).ob g1
    obtain ⟨o2, f2, e2, d2⟩ := (kB t).ob g2
    revert c
    exact in5 ⟨_, hz, fun v q => nomatch q⟩ ⟨_, hI, fun v q => nomatch q⟩ ⟨_, hO, fun v q => nomatch q⟩ ⟨o1, e1, fun v q => by rw [d1] at q; cases q⟩ ⟨o2, e2, fun v q => by rw [d2] at q; cases q⟩
  keep := fun n h h' ⟨hz, hI, ⟨x, y, hO⟩, g1, g2⟩ k => ⟨k z (by simp) _ hz, k TI (by simp) _ hI, ⟨x, y, k TO (by simp) _ hO⟩, (kA t).itk g1 fun o q => k i1 (by simp) o q, (kB t).itk g2 fun o q => k i2 (by simp) o q⟩
  item := by
    intro X hP hw hK hc n pins s σ H E I hf st hg
    subst hP hw hK
    obtain ⟨hz, hI, ⟨x0, y0, hO⟩, h1, h2⟩ := st
    obtain ⟨xs, ys, x, y, hq, hx, hy⟩ := hg
    obtain ⟨its, js, rv, rv2, p, p2⟩ := px_read I hq
    obtain ⟨u, hu, ru⟩ := rv.get hx
    obtain ⟨u2, hu2, ru2⟩ := rv2.get hy
    have zl := Heap.lt_size hz
    refine nextI D hz hI hO h1 h2 p p2 (x := u) (y := u2) (by simpa using hu) (by simpa using hu2) fun h' z' O' g1 g2 hT hs hk => ⟨_, rfl, wpAny_letOwnedTupleGo_zip (s := { s with heap := h' }) z' fun h'' z'' sb => ?_⟩
    have sx := sb.2
    have T2 : h''.get? s.heap.objs.size = some { cls := .type "tuple", data := .seq #[u, u2] } := (sx _ (Nat.ne_of_gt zl)).trans hT
    have new : ObjOk X.prog X.w (upd H s.heap.objs.size (.tup [x, y])) h'' s.heap.objs.size (.tup [x, y]) := ⟨show 2 ≤ sizeLine by decide, [u, u2], .cons ru (.cons ru2 .nil), ⟨_, T2, rfl, _, rfl⟩⟩
    have I1 : Inv X pins σ (upd H s.heap.objs.size (.tup [x, y])) { s with heap := h'' } := I.turnedNew (t' := s.toks) (ch := [z, TI, TO, i1, i2]) (fun c o hb q => by
      simp only [List.mem_cons, List.not_mem_nil, or_false, not_or] at hb
      exact (sx c hb.1).trans (hk c o hb.1 hb.2.2.1 hb.2.2.2.1 hb.2.2.2.2 q)) hf (Nat.le_refl _) new
    refine ⟨.ref s.heap.objs.size, _, I1, rfl, ⟨_, x, y, rfl, I.hok.fresh (Nat.le_refl _), rfl, fun l l' hl => ?_⟩, ⟨z'', (sx _ D.TIz).trans (hk _ _ D.TIz D.TITO D.TIi1 D.TIi2 hI), ⟨u, u2, (sx _ D.TOz).trans O'⟩, (kA t).itk g1 fun o q => (sx _ D.i1z).trans q, (kB t).itk g2 fun o q => (sx _ D.i2z).trans q⟩, fun c hm => ?_⟩
    · obtain ⟨e1, e2⟩ := px_inj I hq hl
      rw [e1, e2]
      exact ⟨hx, hy⟩
    · obtain ⟨o1, _, q1, _⟩ := (kA t).ob h1
      obtain ⟨o2, _, q2, _⟩ := (kB t).ob h2
      have lt : c < s.heap.objs.size := in5 (P := fun c => c < s.heap.objs.size) zl (Heap.lt_size hI) (Heap.lt_size hO) (Heap.lt_size q1) (Heap.lt_size q2) c hm
      rw [upd_ne (Nat.ne_of_lt lt)]
      exact (hf c hm).1
  done := by
    intro X hP hw hK hc n pins s σ H E I hf st hg
    subst hP hw hK
    obtain ⟨hz, hI, ⟨x0, y0, hO⟩, h1, h2⟩ := st
    obtain ⟨xs, ys, hq, hend⟩ := hg
    obtain ⟨its, js, rv, rv2, p, p2⟩ := px_read I hq
    have ln := rv.length
    have ln2 := rv2.length
    refine nextE (I.ok.hd hc) D hz hI hO h1 h2 p p2 (hend.imp (fun q => by simp; omega) fun q => by simp; omega) fun h' hk => ⟨rfl, I.turnedL (t' := s.toks) (ch := [z, TI, TO, i1, i2]) (fun c o hb q => ?_) hf⟩
    simp only [List.mem_cons, List.not_mem_nil, or_false, not_or] at hb
    exact hk c o hb.1 hb.2.2.1 hb.2.2.2.1 hb.2.2.2.2 q
  self := fun A i s Q E st h => wpAny_pyIter_zip st.1 h
def iZipM (K : PySem.W.Frag) (t : Bool) (ta : TA) : TI := fun σ H R => ta σ H fun vs H1 => ∃ a b xs ys, vs = [.ref a, .ref b] ∧ PX K t a b H1 xs ys ∧ R (ItM K t a b) H1
theorem pi_zipM {X : Cx} {e e2 : Expr} {ta : TA} {p pos tpos : Pos} {elts : List Expr} {kk : Nat} (t : Bool) (hg : Gl X "zip") (hm : X.mg "zip" = none) (ha : PA X [e, e2] ta)
    (hs : starEach [e, e2] X.env = (false, eval e X.env) :: starEach [e2] X.env := by rfl) (hpl : (backTo pos (starEach [e2] X.env)).any (·.1) = false := by rfl) :
    PI X (.Tuple elts kk tpos) (.Call (.Name "zip" p) [e, e2] [] pos) (iZipM X.K t ta) := by
  refine ⟨fun pins s σ H R I h => ?_⟩
  refine Call_ (ld_blt I hg hm PyProof.Rows.boot_zip (PyProof.Rows.callWith_type1 (thn (ha.run pos pins s σ H _ I h) fun us s1 ⟨vs, H1, I1, r1, q1⟩ => ?_) hs hpl))
  obtain ⟨a, b, xs, ys, ex, hq, q⟩ := q1
  subst ex
  obtain ⟨v1, v2, rfl, r, r'⟩ := vals2 r1
  cases r
  cases r'
  have fresh : ∀ c, c ∈ [s1.heap.objs.size + 4, s1.heap.objs.size + 2, s1.heap.objs.size + 3, s1.heap.objs.size, s1.heap.objs.size + 1] → FpOk X pins H1 c := fun c hm => by
    have le : s1.heap.objs.size ≤ c := in5 (P := fun c => s1.heap.objs.size ≤ c) (Nat.le_add_right _ _) (Nat.le_add_right _ _) (Nat.le_add_right _ _) (Nat.le_refl _) (Nat.le_add_right _ _) c hm
    exact I1.fpOk le (I1.hok.fresh le)
  have I2 : ∀ h', (∀ c o, s1.heap.get? c = some o → h'.get? c = some o) → Inv X pins σ H1 { s1 with heap := h' } := fun h' k => I1.kept (t' := s1.toks) k
  cases t with
  | true =>
    obtain ⟨its, rv, p1, _⟩ := I1.tuple hq.1
    obtain ⟨js, rv2, p2, _⟩ := I1.list hq.2
    obtain ⟨o1, g1, _⟩ := id p1
    exact call_TL p1 p2.isList fun h' hz hI hO h1 h2 hk => wpAny_pyIter_zip hz ⟨_, [_, _, _, _, _], _, _, H1, rfl, I2 h' hk, turnM (t := true) (PySem.W.ktu_apart s1.heap.objs.size a b (Heap.lt_size g1) p2.lt), ⟨hz, hI, ⟨_, _, hO⟩, h1, h2⟩, fresh, q⟩
  | false =>
    obtain ⟨its, rv, p1, _⟩ := I1.list hq.1
    obtain ⟨js, rv2, p2, _⟩ := I1.tuple hq.2
    obtain ⟨o2, g2, _⟩ := id p2
    exact call_LT p1.isList p2 fun h' hz hI hO h1 h2 hk => wpAny_pyIter_zip hz ⟨_, [_, _, _, _, _], _, _, H1, rfl, I2 h' hk, turnM (t := false) (PySem.W.ktu_apart s1.heap.objs.size a b p1.lt (Heap.lt_size g2)), ⟨hz, hI, ⟨_, _, hO⟩, h1, h2⟩, fresh, q⟩
end Zx

/-! Own layer Q9: instances that change, fields set, list.pop(i), zip of a tuple with a list, freezing. -/
namespace Qx
open PySem PySem.Spec PyProof.Rows L2 Gx
/-! ### C(..) as a thing that changes -/
theorem pmk0 {X : Cx} {d : He.DefD} {k j : Nat} {ps : List Str} {sp : Sp} {x : Str} {p pos : Pos} {dv : List V} {C : Addr} (D : DOk X.prog X.w X.K X.mg X.base d CX0 k ps sp) (M : Mk X.K C (He.fAd X.K d.at_)) (hm : X.mg x = some (.ref C)) (hb : BdD X.K d ps dv) (hr : Room j X.A) (hj : k + 1 ≤ j) (hg : Gl X x := by rfl)
    (hdb : (x == ("__debug__" : Str)) = false := by decide) : PE X (.Call (.Name x p) [] [] pos) (tMake C sp dv E0 tNil) := by
  obtain ⟨fd, F, G⟩ := D.ex
  obtain ⟨ds, hv, hbd⟩ := hb fd F
  exact pe_make0 M G (hr.mono hj) hg hm hbd hv pass0 hdb
/-- f(), o.m(), all parameters left out -/
theorem pcD0 {X : Cx} {d : He.DefD} {k j : Nat} {ps : List Str} {sp : Sp} {x : Str} {p pos : Pos} {dv : List V} (D : DOk X.prog X.w X.K X.mg X.base d CX0 k ps sp) (hm : X.mg x = some (.ref (He.fAd X.K d.at_))) (hb : BdD X.K d ps dv) (hr : Room j X.A) (hj : k ≤ j) (hg : Gl X x := by rfl)
    (hdb : (x == ("__debug__" : Str)) = false := by decide) : PE X (.Call (.Name x p) [] [] pos) (tCall sp dv E0 tNil) := by
  obtain ⟨fd, F, G⟩ := D.ex
  obtain ⟨ds, hv, hbd⟩ := hb fd F
  exact pe_call0 G (hr.mono hj) hg hm F.kp hbd hv pass0 hdb
theorem pmD0 {X : Cx} {d : He.DefD} {k j : Nat} {ps : List Str} {sp : Sp} {C : Addr} {m : Str} {o : Expr} {ta : TE} {apos pos : Pos} {pl : Sem Bool} {dv : List V} (D : DOk X.prog X.w X.K X.mg X.base d CX0 k ps sp) (c : Cls X.K C) (hm : Meth X.K C m (He.fAd X.K d.at_)) (hb : BdD X.K d ps dv) (hr : Room j X.A) (hj : k ≤ j) (he : PE X o ta)
    (ht : eval (.Call (.Attribute o m apos) [] [] pos) X.env = (do
      let ov ← eval o X.env
      standAt apos.atName
      let (f, first) ← holding [ov] (getMethod ov m pl)
      callWith pos f first (backTo pos (starEach [] X.env)) (backToKw pos (keywordEach [] X.env))) := by rfl) :
    PE X (.Call (.Attribute o m apos) [] [] pos) (tMeth C m sp dv E0 ta tNil) := by
  obtain ⟨fd, F, G⟩ := D.ex
  obtain ⟨ds, hv, hbd⟩ := hb fd F
  exact pe_meth0 he c hm G (hr.mono hj) hbd hv pass0 ht
def eMakeO (C : Str) (m : MF) (dps : List PV) (a : AF) : EF := fun s O => (a s O).bind fun ps O1 => (noX (m (.loc O1.length :: (ps ++ dps)) (O1 ++ [some (.ins C [] [])]))).bind fun r O2 => match r with
  | .non => .ok (.loc O1.length) O2
  | _ => .bad
section
variable {K : PySem.W.Frag} {E : XM} {C : Str} {tA : TA} {fA : AF} {m : MF} {dps : List PV} {dvs : List V}
theorem sim_makeO (hA : SimA K none tA fA) (hd : ∀ ι G, RepL K ι G dps dvs) : SimE K none (tMake (He.ga K C) (spM K false m) dvs E0 tA) (eMakeO C m dps fA) := fun R ι O H σ s Q S L h =>
  hA R ι O H σ s _ S L (h.bind fun ps O1 xs ι1 H1 S1 X1 r1 h1 => fun x dx hx hdx ne => by
    obtain ⟨S2, X2, _⟩ := S1.newF hdx (.own x)
    obtain ⟨S3, X3⟩ := S2.newO (D := x) (p := .ins C [] []) (by rw [upd_ne fun e => ne e.symm]; exact hx) (o := .ins (He.ga K C) dx []) ⟨dx, [], rfl, rfl, rfl⟩
    have X := X2.trans X3
    refine ⟨R, _, _, .loc O1.length :: (ps ++ dps), S3, .consR (show Rep K _ _ (.loc O1.length) _ from ⟨x, rfl, new_at S1.len⟩) ((X.repL r1).app (hd _ _)), ?_⟩
    refine Post.noX (E := none) (Post.bind (Post.of X h1) fun r O2 v ι2 H2 S4 X4 r2 h2 => ?_)
    cases r with
    | non => exact ⟨r2, h2.here S4 ⟨x, rfl, X4.pre _ _ (new_at S1.len)⟩⟩
    | _ => exact h2.elim)
end
/-! ### o.f = e -/
def putN (f : Str) : List Str → List Str
  | [] => [f]
  | n :: r => if n = f then n :: r else n :: putN f r
def putW {α : Type} (f : Str) (q : α) : List Str → List α → List α
  | [], _ => [q]
  | n :: r, p :: ps => if n = f then q :: ps else p :: putW f q r ps
  | _ :: _, [] => []
theorem putF_zip {f : Str} {v : V} : ∀ {ns : List Str} {xs : List V}, ns.length = xs.length → putF f v (ns.zip xs) = (putN f ns).zip (putW f v ns xs)
  | [], [], _ => rfl
  | [], _ :: _, h => by simp at h
  | _ :: _, [], h => by simp at h
  | n :: ns, x :: xs, h => by
    show (if n = f then (n, v) :: ns.zip xs else (n, x) :: putF f v (ns.zip xs)) = _
    unfold putN putW
    by_cases c : n = f
    · rw [if_pos c, if_pos c, if_pos c]; rfl
    · rw [if_neg c, if_neg c, if_neg c, putF_zip (by simpa using h)]; rfl
theorem putN_len {α : Type} {f : Str} {q : α} : ∀ {ns : List Str} {ps : List α}, ns.length = ps.length → (putN f ns).length = (putW f q ns ps).length
  | [], [], _ => rfl
  | [], _ :: _, h => by simp at h
  | _ :: _, [], h => by simp at h
  | n :: ns, x :: xs, h => by
    unfold putN putW
    by_cases c : n = f
    · rw [if_pos c, if_pos c]; simpa using h
    · rw [if_neg c, if_neg c, List.length_cons, List.length_cons, putN_len (q := q) (by simpa using h)]
theorem putW_rep {K : PySem.W.Frag} {ι : List Addr} {G : Hp} {f : Str} {q : PV} {v : V} (r : Rep K ι G q v) : ∀ {ns : List Str} {ps : List PV} {xs : List V}, RepL K ι G ps xs → RepL K ι G (putW f q ns ps) (putW f v ns xs)
  | [], ps, xs, h => by unfold putW; exact .one r
  | n :: ns, [], xs, h => by rw [show xs = [] from h]; exact rfl
  | n :: ns, p :: ps, xs, h => by
    obtain ⟨x, t, e, h1, h2⟩ := h
    subst e
    unfold putW
    by_cases c : n = f
    · rw [if_pos c, if_pos c]; exact .consR r h2
    · rw [if_neg c, if_neg c]; exact .consR h1 (putW_rep r h2)
def fldP (C f : Str) (p q : PV) (s : Slots) (O : Sto) : SR := match p with
  | .loc n => match O[n]? with
    | some (some (.ins C' ns ps)) => if C' = C ∧ ns.length ≤ 900 then .next s (O.set n (some (.ins C (putN f ns) (putW f q ns ps)))) else .bad
    | _ => .bad
  | _ => .bad
def sFldP (C f : Str) (fo fv : EF) : SF := fun s O => (fv s O).toS s fun q O1 => (fo s O1).toS s fun p O2 => fldP C f p q s O2
theorem sim_fldS {K : PySem.W.Frag} {E : XM} {C f : Str} {ta tv : TE} {fo fv : EF} (c : Cls K (He.ga K C)) (no : NoAttr K (He.ga K C) f) (hv : SimE K E tv fv) (ho : SimE K E ta fo) : SimS K E (sFld K ta tv f) (sFldP C f fo fv) := fun R ι O H σ s D S L h =>
  hv R ι O H σ s _ S L (h.lift L fun q O1 y ι1 H1 S1 X1 r1 h1 => ho R ι1 O1 H1 σ s _ S1 (L.ext X1) (h1.lift (L.ext X1) fun p O2 x ι2 H2 S2 X2 r2 h2 => by
    unfold fldP at h2
    cases p with
    | loc n =>
      obtain ⟨a, e1, e2⟩ := r2
      simp only at h2
      cases e : O2[n]? with
      | none => simp [e] at h2; exact h2.elim
      | some w =>
        cases w with
        | none => simp [e] at h2; exact h2.elim
        | some w =>
          cases w with
          | ins C' ns ps =>
            simp only [e] at h2
            split at h2
            · rename_i cc
              obtain ⟨o, h3, dx, xs, h4, h5, h6⟩ := S2.obj n a _ e2 e
              subst h4
              have l : ns.length = xs.length := by rw [h5, h6.len]
              refine ⟨a, _, dx, _, e1, by rw [h3, cc.1], c, no, by rw [List.length_zip]; have := cc.2; omega, ?_⟩
              have r1' := X2.rep r1
              rw [putF_zip l]
              obtain ⟨S3, X3⟩ := S2.change (p' := .ins C (putN f ns) (putW f q ns ps)) e2 e (o' := .ins (He.ga K C) dx ((putN f ns).zip (putW f y ns xs))) ⟨dx, _, rfl, putN_len h5, putW_rep r1' h6⟩
              exact h2 σ ι2 _ S3 X3 ((L.ext (X1.trans X2)).ext X3)
            · exact h2.elim
          | _ => simp [e] at h2; exact h2.elim
    | _ => exact h2.elim))
/-! ### list.pop(i) -/
def popAtP (p : PV) (qs : List PV) (O : Sto) : PR PV := match locL O p, qs with
  | some (n, ps), [.int i] => if (decide (-(2 ^ 63) ≤ i) && decide (i < 2 ^ 63)) = true then match seqIndex? i ps.length with
    | some k => match ps[k]? with
      | some q => .ok q (O.set n (some (.lst (ps.eraseIdx k))))
      | none => .bad
    | none => .bad else .bad
  | _, _ => .bad
theorem RepL.erase {K : PySem.W.Frag} {ι : List Addr} {G : Hp} {ps : List PV} {xs : List V} (h : RepL K ι G ps xs) (k : Nat) : RepL K ι G (ps.eraseIdx k) (xs.eraseIdx k) := by
  rw [List.eraseIdx_eq_take_drop_succ, List.eraseIdx_eq_take_drop_succ]
  exact (h.take k).app (h.drop (k + 1))
theorem ml_popAt {K : PySem.W.Frag} : MtP K rPopAt popAtP := by
  intro R ι O H p qs x ys E Q S r1 r2 h
  unfold popAtP at h
  cases e : locL O p with
  | none => simp [e] at h; exact h.elim
  | some w =>
    obtain ⟨n, ps⟩ := w
    match qs, h, r2 with
    | [.int i], h, ⟨y, t, e2, r3, e3⟩ =>
      cases e3
      subst e2
      simp only [e] at h
      split at h
      · rename_i c
        obtain ⟨c1, c2⟩ := Bool.and_eq_true_iff.mp c
        cases e4 : seqIndex? i ps.length with
        | none => simp [e4] at h; exact h.elim
        | some k =>
          simp only [e4] at h
          cases e5 : ps[k]? with
          | none => simp [e5] at h; exact h.elim
          | some q =>
            simp only [e5] at h
            obtain ⟨a, xs, h1, h2, h3, h4, h5⟩ := locL_read S r1 e
            obtain ⟨v, g1, g2⟩ := h5.get e5
            obtain ⟨S2, X2⟩ := S.change h2 h3 (p' := .lst (ps.eraseIdx k)) (o' := .lst (xs.eraseIdx k)) ⟨_, rfl, h5.erase k⟩
            exact ⟨a, xs, i, k, v, h1, by rw [show y = .int i from r3], h4, of_decide_eq_true c1, of_decide_eq_true c2, by rw [h5.len]; exact e4, g1, h.at S2 X2 (X2.rep g2)⟩
      · exact h.elim
    | [], h, _ => simp [e] at h; exact h.elim
    | _ :: _ :: _, h, _ => simp [e] at h; exact h.elim
    | [.non], h, _ => simp [e] at h; exact h.elim
    | [.bl _], h, _ => simp [e] at h; exact h.elim
    | [.str _], h, _ => simp [e] at h; exact h.elim
    | [.ty _], h, _ => simp [e] at h; exact h.elim
    | [.cls _], h, _ => simp [e] at h; exact h.elim
    | [.tup _], h, _ => simp [e] at h; exact h.elim
    | [.lst _], h, _ => simp [e] at h; exact h.elim
    | [.rol _], h, _ => simp [e] at h; exact h.elim
    | [.ins _ _ _], h, _ => simp [e] at h; exact h.elim
    | [.rng _ _], h, _ => simp [e] at h; exact h.elim
    | [.loc _], h, _ => simp [e] at h; exact h.elim
    | [.dic _ _], h, _ => simp [e] at h; exact h.elim
    | [.sti _], h, _ => simp [e] at h; exact h.elim
    | [.xc _ _ _], h, _ => simp [e] at h; exact h.elim
/-! ### zip of a tuple with a list -/
def itemsOf (O : Sto) : PV → Option (List PV × Option (Nat × List PV))
  | .lst ps => some (ps, none)
  | .rol ps => some (ps, none)
  | .loc n => match O[n]? with
    | some (some (.lst ps)) => some (ps, some (n, ps))
    | some (some _) => none
    | some none => none
    | none => none
  | _ => none
def iZM (t : Bool) (a : AF) : IF := fun s O => (a s O).bind fun ps O1 => match ps with
  | [p, q] => match t with
    | true => match tupOf p, itemsOf O1 q with
      | some xs, some (ys, g) => .ok (zipP xs ys, g) O1
      | _, _ => .bad
    | false => match itemsOf O1 p, tupOf q with
      | some (xs, g), some ys => .ok (zipP xs ys, g) O1
      | _, _ => .bad
  | _ => .bad
theorem items_read {K : PySem.W.Frag} {R : List (Addr × HO)} {ι : List Addr} {O : Sto} {H : Hp} {p : PV} {x : V} {ps : List PV} {g : Option (Nat × List PV)} (S : Sim K R ι O H) (r : Rep K ι (fz R ι O H) p x) (e : itemsOf O p = some (ps, g)) : ∃ a, x = .ref a ∧ grd g O ∧ ∀ R' ι' O' H', Sim K R' ι' O' H' → Pre ι ι' → Same (fz R ι O H) (fz R' ι' O' H') → grd g O' → ∃ xs, SqL K H' a xs ∧ RepL K ι' (fz R' ι' O' H') ps xs := by
  have fr : ∀ qs, frL p = some qs → qs = ps → none = g → ∃ a, x = .ref a ∧ grd g O ∧ ∀ R' ι' O' H', Sim K R' ι' O' H' → Pre ι ι' → Same (fz R ι O H) (fz R' ι' O' H') → grd g O' → ∃ xs, SqL K H' a xs ∧ RepL K ι' (fz R' ι' O' H') ps xs := fun qs f e2 e3 => by
    subst e2
    subst e3
    obtain ⟨a, xs, e1, h3, h4⟩ := frL_read r f
    exact ⟨a, e1, trivial, fun R' ι' O' H' S' p1 sm _ => ⟨xs, S'.frozen.seq (sm.seq h3), h4.mono p1 sm⟩⟩
  cases p with
  | lst qs => cases e; exact fr _ rfl rfl rfl
  | rol qs => cases e; exact fr _ rfl rfl rfl
  | loc n =>
    obtain ⟨a, e1, e2⟩ := r
    unfold itemsOf at e
    simp only at e
    cases q : O[n]? with
    | none => simp [q] at e
    | some w =>
      cases w with
      | none => simp [q] at e
      | some w =>
        cases w with
        | lst qs =>
          simp only [q, Option.some.injEq, Prod.mk.injEq] at e
          obtain ⟨e3, e4⟩ := e
          subst e3
          subst e4
          refine ⟨a, e1, q, fun R' ι' O' H' S' p1 sm gd => ?_⟩
          obtain ⟨o, h3, xs, h4, h5⟩ := S'.obj n a _ (p1 _ _ e2) (show O'[n]? = some (some (.lst qs)) from gd)
          subst h4
          exact ⟨xs, SqL.of h3, h5⟩
        | _ => simp [q] at e
  | _ => cases e
theorem zipM_ok {K : PySem.W.Frag} {t : Bool} {a b : Addr} {ps qs : List PV} {g : Option (Nat × List PV)} {ι0 : List Addr} {G0 : Hp} (rd : ∀ R ι O H, Sim K R ι O H → Pre ι0 ι → Same G0 (fz R ι O H) → grd g O → ∃ xs ys, Zx.PX K t a b H xs ys ∧ RepL K ι (fz R ι O H) ps xs ∧ RepL K ι (fz R ι O H) qs ys) : ItOk K (Zx.ItM K t a b) (zipP ps qs) g ι0 G0 := by
  intro R' ι' O' H' S' p1 sm gd i
  obtain ⟨xs, ys, h1, h2, h3⟩ := rd R' ι' O' H' S' p1 sm gd
  refine ⟨fun p ep => ?_, fun hl => ⟨xs, ys, h1, by rw [h2.len, h3.len]; rw [zip_len] at hl; omega⟩⟩
  obtain ⟨u, v, g1, g2, g3⟩ := zip_get ep
  obtain ⟨u', g4, g5⟩ := h2.get g1
  obtain ⟨v', g6, g7⟩ := h3.get g2
  refine ⟨⟨xs, ys, u', v', h1, g4, g6⟩, fun z H'' ⟨T, x1, y1, f1, f2, f3, f4⟩ => ?_⟩
  obtain ⟨f5, f6⟩ := f4 xs ys h1
  rw [g4] at f5
  rw [g6] at f6
  cases f5
  cases f6
  obtain ⟨S2, X2, e4⟩ := S'.newF f2 (.tup [u', v'])
  subst f3
  subst g3
  exact ⟨ι', S2, X2, T, _, f1, SqT.of e4, .consR (X2.rep g5) (.one (X2.rep g7))⟩
theorem tupOf_read {K : PySem.W.Frag} {ι : List Addr} {G : Hp} {p : PV} {x : V} {ps : List PV} (r : Rep K ι G p x) (e : tupOf p = some ps) : ∃ a xs, x = .ref a ∧ SqT K G a xs ∧ RepL K ι G ps xs := by
  cases p <;> first | (cases e; exact r) | cases e
theorem sim_iZM {K : PySem.W.Frag} {E : XM} {tA : TA} {fA : AF} (t : Bool) (hA : SimA K E tA fA) : SimIt K E (Zx.iZipM K t tA) (iZM t fA) := fun R ι O H σ s Q S L h =>
  hA R ι O H σ s _ S L (h.bind fun ps O1 xs ι1 H1 S1 X1 r1 h1 => by
    match ps, h1, r1 with
    | [p, q], h1, ⟨x, t2, e, r2, y, t3, e2, r3, e3⟩ =>
      cases e3
      subst e2
      subst e
      cases t with
      | true =>
        simp only at h1
        cases c1 : tupOf p with
        | none => simp [c1] at h1; exact h1.elim
        | some as =>
          cases c2 : itemsOf O1 q with
          | none => simp [c1, c2] at h1; exact h1.elim
          | some w =>
            obtain ⟨bs, g⟩ := w
            simp only [c1, c2] at h1
            obtain ⟨a, us, e1, h3, h4⟩ := tupOf_read r2 c1
            obtain ⟨b, e2, gd, rd⟩ := items_read S1 r3 c2
            obtain ⟨vs, h5, h6⟩ := rd R ι1 O1 H1 S1 .refl same_refl gd
            exact ⟨a, b, us, vs, by rw [e1, e2], ⟨sqt_same S1.frozen h3, h5⟩, h1.here S1 (zipM_ok fun R' ι' O' H' S' p1 sm gd => by
              obtain ⟨ws, g1, g2⟩ := rd R' ι' O' H' S' p1 sm gd
              exact ⟨us, ws, ⟨sqt_same S'.frozen (sqt_same sm h3), g1⟩, h4.mono p1 sm, g2⟩)⟩
      | false =>
        simp only at h1
        cases c2 : itemsOf O1 p with
        | none => simp [c2] at h1; exact h1.elim
        | some w =>
          obtain ⟨bs, g⟩ := w
          cases c1 : tupOf q with
          | none => simp [c1, c2] at h1; exact h1.elim
          | some as =>
            simp only [c1, c2] at h1
            obtain ⟨a, us, e1, h3, h4⟩ := tupOf_read r3 c1
            obtain ⟨b, e2, gd, rd⟩ := items_read S1 r2 c2
            obtain ⟨vs, h5, h6⟩ := rd R ι1 O1 H1 S1 .refl same_refl gd
            exact ⟨b, a, vs, us, by rw [e1, e2], ⟨h5, sqt_same S1.frozen h3⟩, h1.here S1 (zipM_ok fun R' ι' O' H' S' p1 sm gd => by
              obtain ⟨ws, g1, g2⟩ := rd R' ι' O' H' S' p1 sm gd
              exact ⟨ws, us, ⟨g1, sqt_same S'.frozen (sqt_same sm h3)⟩, g2, h4.mono p1 sm⟩)⟩)
/-! ### freezing -/
def frzP (p : PV) (O : Sto) : PR PV := match p with
  | .loc n => match O[n]? with
    | some (some q) => .ok q (O.set n none)
    | some none => .ok p O
    | none => .ok p O
  | _ => .ok p O
def eFrz (a : EF) : EF := fun s O => (a s O).bind frzP
theorem sim_frz {K : PySem.W.Frag} {E : XM} {ta : TE} {fa : EF} (ha : SimE K E ta fa) : SimE K E ta (eFrz fa) := fun R ι O H σ s Q S L h =>
  ha R ι O H σ s Q S L (by
    unfold eFrz at h
    cases e : fa s O with
    | ok p O1 =>
      rw [e] at h
      intro x ι1 H1 S1 X1 r1
      have h : Post K R (xat E σ) (Rep K) ι O H Q (frzP p O1) := h
      unfold frzP at h
      cases p with
      | loc n =>
        obtain ⟨a, e1, e2⟩ := r1
        subst e1
        simp only at h
        cases e3 : O1[n]? with
        | none => simp only [e3] at h; exact h _ ι1 H1 S1 X1 ⟨a, rfl, e2⟩
        | some w =>
          cases w with
          | none => simp only [e3] at h; exact h _ ι1 H1 S1 X1 ⟨a, rfl, e2⟩
          | some q =>
            simp only [e3] at h
            obtain ⟨S2, X2, r2⟩ := S1.freeze e2 e3
            exact h _ ι1 H1 S2 (X1.trans X2) r2
      | _ => exact h x ι1 H1 S1 X1 r1
    | exc x O1 => rw [e] at h; exact h
    | bad => rw [e] at h; exact h.elim)
end Qx

/-! Own layer Xa: a caught exception as a thing that is tracked from then on; calls where something is handled; calls that may raise. -/
namespace Gx
open PySem PySem.Spec PyProof.Rows L2
theorem xo_ok {P : Program} {w : World} {H : Hp} {h : Heap} {a : Addr} {oe : Obj} (e : h.get? a = some oe) : ObjOk P w H h a (XO a oe) := by
  unfold XO
  rw [ObjOk.eq_13]
  exact ⟨e, ⟨oe, e⟩, fun h1 h2 k j => j _ k⟩
theorem suite_track {X : Cx} {pins : List (Addr × Obj)} {σ : L2.St} {H : Hp} {s : Shared} {a : Addr} {oe : Obj} (ok : X.Ok) (I : Inv (X.suite a ((a, oe) :: (X.pn ++ pins))) [] σ H s) (hex : X.ex = []) (new : ∀ o, X.s_0.heap.get? a ≠ some o) (np : ∀ p ∈ X.pn ++ pins, p.1 ≠ a) :
    Inv (X.suite a (X.pn ++ pins)) [] σ (upd H a (XO a oe)) s := by
  obtain ⟨ha, hn, hl, hf, hc⟩ := I.pin (a, oe) (by simp)
  have hn : H a = none := hn
  refine ⟨Cx.Ok.suite ok a _, I.os, I.bare, ?_, I.loc, I.cell, ?_, fun x c e => ?_, fun p hp => ?_, ?_, I.len⟩
  · have B := I.base
    refine ⟨B.keep, B.slot, fun b o e1 e2 e3 => ?_, B.there, fun b xs e => ?_, fun b o u e => ?_, fun b ps e => ?_⟩
    · rw [upd_ne fun z => new o (by rw [← z]; exact e1)]
      exact B.free b o e1 e2 e3
    · have q := B.tups b xs e
      rw [upd_ne (ne_of_none q hn)]; exact q
    · have q := B.frzs b o u e
      rw [upd_ne (ne_of_none q hn)]; exact q
    · obtain ⟨m, q⟩ := B.tbls b ps e
      exact ⟨m, by rw [upd_ne (ne_of_none q hn)]; exact q⟩
  · rw [upd_ne (Ne.symm hl)]; exact I.free
  · obtain ⟨v, o, h1, h2⟩ := I.cell x c e
    rw [upd_ne fun z => ?_]
    · exact I.freeC x c e
    · rw [z, show s.heap.get? a = some oe from ha] at h1
      cases h1
      exact hc v h2
  · have hp' : p ∈ X.pn ++ pins := by simpa using hp
    obtain ⟨h1, h2, h3, h4, h5⟩ := I.pin p (List.mem_append_left _ (List.mem_cons_of_mem _ hp'))
    exact ⟨h1, by rw [upd_ne (np p hp')]; exact h2, h3, h4, h5⟩
  · intro b u e
    by_cases c : b = a
    · subst c
      rw [upd_same] at e
      cases e
      exact xo_ok ha
    · rw [upd_ne c] at e
      exact ObjOk.stay (I.hok b u e) (fun c v x q => q) (fun c q => by rw [upd_ne (ne_of_none q hn)]; exact q) fun c xs q => by rw [upd_ne (ne_of_none q hn)]; exact q
/-- behind the suite: the exception goes on being tracked -/
theorem suite_off {X : Cx} {pins : List (Addr × Obj)} {σ : L2.St} {H : Hp} {s : Shared} {a : Addr} (I : Inv (X.suite a (X.pn ++ pins)) [] σ H s) (ok : X.Ok) : Inv X pins σ H s :=
  ⟨ok, I.os, I.bare, I.base, I.loc, I.cell, I.free, I.freeC, fun p hp => I.pin p (List.mem_append_left _ hp), I.hok, I.len⟩
def wAsT (K : PySem.W.Frag) (c : Value) (i : Nat) (ts : TS) (Wout : WX) (D : Ends) : WX := fun cls d σ H =>
  ∃ b, PySem.W.exmOne K cls c = some b ∧ (b = true → ∀ a oe, H a = none → Zc cls d oe → (∃ vs, oe.data = .fields vs) → ts { nx := fun σ' H' => D.nx (List.set σ' i none) H', rt := D.rt, bk := fun σ' H' => D.bk (List.set σ' i none) H', ct := fun σ' H' => D.ct (List.set σ' i none) H' } (List.set σ i (some (.ref a))) (upd H a (XO a oe))) ∧ (b = false → Wout cls d σ H)
theorem ps_try_asT {X : Cx} {x n : Str} {c : Value} {i : Nat} {body suite : List Stmt} {b₀ : Stmt} {np pos pos' : Pos} {tb : WX → TS} {ts : TS} {Wout : WX} (hs : X.stack = X.env :: X.outer) (hf : X.env.frame = some X.env.locals) (hex : X.ex = []) (hN : X.N.Nodup) (hi : X.N[i]? = some n) (hln : X.env.kindOf n = some .local) (hc : Names X x c) (tk : Takes X Wout)
    (hb : ∀ (W : WX) (pn : List (Addr × Obj)) (xe : Value → Shared → Prop), Takes (X.tr pn xe) W → PassesOwn (model X.prog X.w) X.A X.env xe → PSs (X.tr pn xe) body (tb W))
    (hsu : ∀ (a : Addr) (pn : List (Addr × Obj)), PSs (X.suite a pn) (b₀ :: suite) ts) :
    PS X (.Try body [.ExceptHandler (some (.Name x np)) (some n) (b₀ :: suite) pos'] [] [] pos) (fun D σ H => tb (wAsT X.K c i ts Wout D) D σ H) := by
  refine ⟨fun pins s σ H D I h => ?_⟩
  have ok := I.ok
  have hfr : X.A.frames = some (X.env :: X.outer) := by rw [ok.frames, hs]
  refine wpAny_Try_except (wpAny_mono ((hb (wAsT X.K c i ts Wout D) (X.pn ++ pins) (fun e s₁ => wpAny (model X.prog X.w) X.A (noteFrame e X.env) (fun _ s₂ => wpAny (model X.prog X.w) X.A (setFlight e none) (fun _ s₃ => wpAny (model X.prog X.w) X.A (handleBy e X.env [.ExceptHandler (some (.Name x np)) (some n) (b₀ :: suite) pos']) (SP X pins D) X.xe s₃) X.xe s₂) X.xe s₁) (fun u s' xx => ?_) PassesOwn.looking).run [] s σ H D (Inv.toTry I _) h) (fun f s1 hsp => ?_) fun _ _ z => z)
  · obtain ⟨a, B, sI, pins', σ', H', cls, d, rfl, J', nb, up, sky, na, os, ag, b, hb1, hyes, hno⟩ := xx
    have J := Inv.ofTry J' ok
    have sky' : Sky B (X.env :: X.outer) a (Zc cls d) X.env.locals s'.heap := by rw [← hs]; exact sky
    refine Sky.land Zc.steady hfr hf sky' fun h3 fl3 up3 => ?_
    have J3 : Inv X pins σ' H' { heap := h3, gens := s'.gens, drawn := s'.drawn, toks := s'.toks, os := s'.os } := Inv.landed J nb fl3.1 (Heap.UpToSlots.trans up up3) os ag
    obtain ⟨oe3, vs3, he3, hz3, hd3⟩ := HandSPX.FlyingZ.there fl3
    have notFr : ∀ {h : Heap} {o : Obj} {vs : Array Value}, h.FunFrames B (X.env :: X.outer) → h.get? a = some o → o.data = .fields vs → a ∉ frs (X.env :: X.outer) := fun ff e dd hm => by
      obtain ⟨_, o', e', hnf⟩ := Heap.FunFrames.mem ff hm
      rw [e] at e'
      cases e'
      exact hnf _ dd
    have nfr := notFr fl3.2.2.1 he3 hd3
    have nL : a ≠ X.env.locals := fun z => nfr (List.mem_filterMap.mpr ⟨X.env, List.mem_cons_self, by rw [hf, z]⟩)
    have nF : a ∉ X.fs := fun hm => by
      obtain ⟨e, he, q⟩ := List.mem_filterMap.mp hm
      exact nfr (List.mem_filterMap.mpr ⟨e, List.mem_cons_of_mem X.env he, q⟩)
    have nI : ∀ o, sI.heap.get? a ≠ some o := fun o z => by
      have q := nb a o z (by rw [hs]; exact nfr)
      rw [fl3.2.1] at q
      cases q
    have new : ∀ o, X.s_0.heap.get? a ≠ some o := fun o z => by
      obtain ⟨o', q⟩ := J.base.there a o z (by rw [hex]; simp)
      exact nI o' q
    have npn : ∀ p ∈ X.pn ++ pins, p.1 ≠ a := fun p hp z => by
      have q := (J.pin p hp).1
      rw [z] at q
      exact nI _ q
    have S3 := Inv.suite J3 he3 hd3 na nL nF
    refine wpAny_handleBy_cons (codeAny_handlers_test ?_) fun q => nomatch q
    have LT : PySem.W.Looks (model X.prog X.w) h3 (typeOf (.ref a)) cls := fun A Q E s k q => wpAny_typeOf_ref (k a oe3 he3) (by rw [hz3.1]; exact q)
    have LM := PySem.W.exm_one (Inv.kIn J3) LT hb1
    have test : ∀ {Q : Value → Shared → Prop} {E : Value → Shared → Prop}, Q c { heap := h3, gens := s'.gens, drawn := s'.drawn, toks := s'.toks, os := s'.os } → wpAny (model X.prog X.w) (X.A.mark (some (.ref a))) (eval (.Name x np) X.env) Q E { heap := h3, gens := s'.gens, drawn := s'.drawn, toks := s'.toks, os := s'.os } := fun q => by
      obtain ⟨hg, hdbg, hm | ⟨hm, hv, hnn⟩⟩ := hc
      · exact ld_glob S3 hg hm q hdbg
      · exact ld_blt S3 hg hm hv q hnn hdbg
    refine test (PySem.W.Looks.here LM ?_)
    cases b with
    | false =>
      show wpAny (model X.prog X.w) X.A (handleBy (.ref a) X.env []) (SP X pins D) X.xe _
      refine wpAny_handleBy_nil ?_
      have fl3' := fl3
      obtain ⟨k1, k2, k3, oe, vs, T, oT, ts', he, hz, hd, h1, hr⟩ := fl3'
      refine wpAny_bind (wpAny_field he hd h1 ?_)
      rw [if_neg (by simp)]
      refine wpAny_bind ?_
      rw [hf]
      refine HandSPX.setFlight_upZ fl3 fun h4 hh4 up4 => wpAny_throw (tk (.ref a) _ ⟨a, B, sI, pins, σ', H', cls, d, rfl, J, nb, Heap.UpToSlots.trans (Heap.UpToSlots.trans up up3) up4, .inr (.inr (by rw [hs]; exact hh4)), na, os, ag, hno rfl⟩)
    | true =>
      show codeAny (model X.prog X.w) (X.A.mark (some (.ref a))) (Code.handlers (.ref a) [.ExceptHandler none (some n) (b₀ :: suite) pos'] X.env) _ _
      refine codeAny_handlers_suite_as (HandSPX.lands_againZ fl3 fun h4 fl4 up4 => ?_)
      have J4 : Inv X pins σ' H' { heap := h4, gens := s'.gens, drawn := s'.drawn, toks := s'.toks, os := s'.os } := Inv.landed J nb fl4.1 (Heap.UpToSlots.trans (Heap.UpToSlots.trans up up3) up4) os ag
      obtain ⟨oe4, vs4, he4, hz4, hd4⟩ := HandSPX.FlyingZ.there fl4
      have S4 := Inv.suite J4 he4 hd4 na nL nF
      refine store_ok (X := X.suite a ((a, oe4) :: (X.pn ++ pins))) (v := .ref a) S4 hN hi (Or.inl hln) rfl (fun s5 S5 => ?_) (Or.inr hln)
      have S5' := suite_track ok S5 hex new npn
      refine wpAny_mono ((hsu a (X.pn ++ pins)).run [] s5 (List.set σ' i (some (.ref a))) (upd H' a (XO a oe4)) { nx := fun σ' H' => D.nx (List.set σ' i none) H', rt := D.rt, bk := fun σ' H' => D.bk (List.set σ' i none) H', ct := fun σ' H' => D.ct (List.set σ' i none) H' } S5' (hyes rfl a oe4 na hz4 ⟨vs4, hd4⟩)) (fun f s6 hsp => ?_) fun _ _ z => z.elim
      cases f with
      | next => obtain ⟨σ6, H6, S6, q6⟩ := hsp; exact gone_ok (suite_off S6 ok) hN hi hln fun s7 J7 => ⟨_, H6, J7, q6⟩
      | brk => obtain ⟨σ6, H6, S6, q6⟩ := hsp; exact gone_ok (suite_off S6 ok) hN hi hln fun s7 J7 => ⟨_, H6, J7, q6⟩
      | cont => obtain ⟨σ6, H6, S6, q6⟩ := hsp; exact gone_ok (suite_off S6 ok) hN hi hln fun s7 J7 => ⟨_, H6, J7, q6⟩
      | ret u => obtain ⟨v6, σ6, H6, S6, r6, q6⟩ := hsp; exact gone_ok (suite_off S6 ok) hN hi hln fun s7 J7 => ⟨v6, _, H6, J7, r6, q6⟩
  · cases f with
    | next => obtain ⟨σ', H', J', q⟩ := hsp; exact wpAny_execs_nil ⟨σ', H', Inv.ofTry J' ok, q⟩
    | brk => obtain ⟨σ', H', J', q⟩ := hsp; exact ⟨σ', H', Inv.ofTry J' ok, q⟩
    | cont => obtain ⟨σ', H', J', q⟩ := hsp; exact ⟨σ', H', Inv.ofTry J' ok, q⟩
    | ret u => obtain ⟨v, σ', H', J', r, q⟩ := hsp; exact ⟨v, σ', H', Inv.ofTry J' ok, r, q⟩
end Gx

/-! Own layer Xb: defs called where something is handled (warm); calls that may raise. -/
namespace Gx
open PySem PySem.Spec PyProof.Rows L2 L2H
theorem _root_.L2H.RoomH.units {k : Nat} {A : Around} (h : RoomH k A) : A.units + 64 < cLine := by have := h.un; omega
theorem _root_.L2H.RoomH.units0 {k : Nat} {A : Around} (h : RoomH k A) : A.units < cLine := by have := h.un; omega
theorem _root_.L2.Room.hot {k : Nat} {A : Around} (h : Room k A) (v : Option Value) : RoomH k (A.mark v) := ⟨h.dp, h.un⟩
/-- where a def that is called warm stands -/
def cxW (CX : CXT) (P : Program) (w : World) (K : PySem.W.Frag) (mg : Str → Option Value) (base : Heap) (N : List Str) (qual : Str) (scope : Scope) (f : Addr) (cd : Value) (A : Around) (outer : List Env) (s : Shared) (H : Hp) (E : XK) : Cx :=
  { cxOf CX P w K mg base N qual scope f cd A outer s H E with calm := false }
structure FnW (P : Program) (w : World) (K : PySem.W.Frag) (mg : Str → Option Value) (base : Heap) (CX : CXT) (k : Nat) (f : Addr) (fd : FuncData) (ps : List Str) (sp : Sp) : Prop where
  len : ∀ vs H Q E, sp vs H Q E → vs.length = ps.length
  run : ∀ (A : Around) (outer : List Env) (s : Shared) (H : Hp) (args : Args) (us : List Value) (vs : List V) (Q : VK) (E : XK), RoomH k A → Env0 P w K mg base A outer s H → BindsTo s fd args (ps.zip us) → Vals vs us → sp vs H Q E → codeAny (model P w) A (.call (.ref f) args) (CR CX outer P w H s Q E) s
theorem inv_startW {CX : CXT} {P : Program} {w : World} {K : PySem.W.Frag} {mg : Str → Option Value} {base : Heap} {N ps : List Str} {qual : Str} {scope : Scope} {f : Addr} {cd : Value} {A : Around} {outer : List Env} {s s1 : Shared} {H : Hp} {E : XK} {us : List Value} {vs : List V} (S : FnScope N ps scope) (e0 : Env0 P w K mg base A outer s H) (hl : vs.length = ps.length) (r : Vals vs us)
    (x : InCallC s s.heap.objs.size (bindL (envOfC qual scope s.heap.objs.size f cd).kindOf (ps.zip us) fun _ => none) (cellsFrom (s.heap.objs.size + 1) scope.names []) (bindC (envOfC qual scope s.heap.objs.size f cd).kindOf (ps.zip us) fun _ => none) s1) :
    Inv (cxW CX P w K mg base N qual scope f cd A outer s H E) [] (L2.start N vs) H s1 := by
  have e0' : Env0 P w K mg base { A with handled := none } outer s H := ⟨e0.frames, e0.mod, e0.bs, e0.bsz, e0.funs, e0.frf, e0.hok, e0.bare⟩
  have I := inv_start (CX := CX) (E := E) (qual := qual) (f := f) (cd := cd) S rfl e0' hl r x
  have o := I.ok
  refine ⟨⟨o.mod, o.kind, o.glob, o.blt, o.above, o.inj, o.has, o.cab, (fun z => Bool.noConfusion z), o.frames, o.stk, o.exf, o.bs, o.bsz, o.noex, o.exfs, o.funs, o.frf⟩, I.os, I.bare, I.base, I.loc, I.cell, I.free, I.freeC, I.pin, I.hok, I.len⟩
theorem fn_ofW {CX : CXT} {P : Program} {w : World} {K : PySem.W.Frag} {mg : Str → Option Value} {base : Heap} {k : Nat} {f : Addr} {name qual : Str} {params : Arguments} {body : List Stmt} {scope : Scope} {dV kV doc pm cdv ct oc : Value} {an od : Option Addr} {osl : Array (Option Value)} {N ps : List Str} {sp : Sp}
    (lk : List.lookup f K = some { cls := oc, dict := od, data := .func (PySem.W.fnOf name qual params body scope dV kV doc pm an cdv ct), slots := osl }) (hcd : PySem.W.codeIn K cdv qual = true) (S : FnScope N ps scope) (len : ∀ vs H Q E, sp vs H Q E → vs.length = ps.length)
    (hbody : ∀ (A : Around) (outer : List Env) (s : Shared) (H : Hp) (vs : List V) (Q : VK) (E : XK), RoomH k (A.deeper (envOfC qual scope s.heap.objs.size f cdv)) → sp vs H Q E → ∃ t, PSs (cxW CX P w K mg base N qual scope f cdv A outer s H E) body t ∧ t { nx := fun _ H' => Q .non H', rt := Q } (L2.start N vs) H) :
    FnW P w K mg base CX (k + 1) f (PySem.W.fnOf name qual params body scope dV kV doc pm an cdv ct) ps sp := by
  refine ⟨len, fun A outer s H args us vs Q E hr e0 hb r hsp => ?_⟩
  have hl := len vs H Q E hsp
  have KX := PySem.W.Frag.In.keeps e0.mod.kin fun b o e => (e0.bs b o e).1
  have lim := Heap.NoLimit.keeps e0.mod.nolimit fun b o e => (e0.bs b o e).1
  have hkind : ∀ x ∈ ps.zip us, scope.names.lookup x.1 = some .local ∨ (scope.names.lookup x.1 = some .cell ∧ ((cellsFrom (s.heap.objs.size + 1) scope.names []).lookup x.1).isSome = true) := fun (n, v) hy =>
    (S.par n (List.of_mem_zip hy).1).elim (fun q => .inl q) fun q => .inr ⟨q, PySem.W.cellsFrom_some scope.names (s.heap.objs.size + 1) [] (.inl q)⟩
  refine codeAny_call_function (RoomH.depth hr) (KX f _ lk) rfl S.co S.gen rfl (PySem.W.codeRec_of KX hcd) (hb _ _ _ _ (wpAny_newFunctionEnv_cells S.kind hkind fun env he s1 x => ?_))
  subst he
  refine ⟨Heap.NoLimit.keeps lim x.toInCall.keep, codeAny_func ?_⟩
  obtain ⟨t, ht, hq⟩ := hbody A outer s H vs Q E (RoomH.deeper hr (envOfC qual scope s.heap.objs.size f cdv)) hsp
  have I := inv_startW (CX := CX) (E := E) S e0 hl r x
  refine wpAny_mono (ht.run [] s1 (L2.start N vs) H { nx := fun _ H' => Q .non H', rt := Q } I hq) (fun fl s' hs => ?_) fun e s' hs => hs
  have fin : ∀ {σ' H' v u}, Inv (cxW CX P w K mg base N qual scope f cdv A outer s H E) [] σ' H' s' → RelV v u → Q v H' → CE outer P w H s Q u s' := fun J rv q => ⟨_, _, J.os, J.bare, J.base, J.hok, rv, q⟩
  cases fl with
  | next => obtain ⟨σ', H', J, q⟩ := hs; exact fin (v := .non) J rfl q
  | brk => obtain ⟨_, _, _, q⟩ := hs; exact q.elim
  | cont => obtain ⟨_, _, _, q⟩ := hs; exact q.elim
  | ret u => obtain ⟨v, σ', H', J, rv, q⟩ := hs; exact fin J rv q
theorem okW {P : Program} {w : World} {K : PySem.W.Frag} {mg : Str → Option Value} {base : Heap} {x qual : Str} {params : Arguments} {body : List Stmt} {scope : Scope} {dvs : List V} {kws : List (Str × V)} {f : Addr} {fd : FuncData} {CX : CXT} {N ps : List Str} {k : Nat} {sp : Sp} (F : FunD K x qual params body scope dvs kws f fd) (S : FnScope N ps scope) (len : ∀ vs H Q E, sp vs H Q E → vs.length = ps.length)
    (h : ∀ (cdv : Value) (A : Around) (outer : List Env) (s : Shared) (H : Hp) (vs : List V) (Q : VK) (E : XK), RoomH k (A.deeper (envOfC qual scope s.heap.objs.size f cdv)) → sp vs H Q E → ∃ t, PSs (cxW CX P w K mg base N qual scope f cdv A outer s H E) body t ∧ t { nx := fun _ H' => Q .non H', rt := Q } (L2.start N vs) H) : FnW P w K mg base CX (k + 1) f fd ps sp := by
  obtain ⟨oc, od, dV, kV, doc, pm, an, cdv, ct, osl, e, lk, hcd, _, _⟩ := F.ex
  subst e
  exact fn_ofW lk hcd S len fun A outer s H vs Q E hr hsp => h cdv A outer s H vs Q E hr hsp
structure DOkW (P : Program) (w : World) (K : PySem.W.Frag) (mg : Str → Option Value) (base : Heap) (d : He.DefD) (CX : CXT) (k : Nat) (ps : List Str) (sp : Sp) : Prop where
  ex : ∃ fd, FunD K d.name d.qual d.params d.body d.scope (d.dvs K) (d.kws K) (He.fAd K d.at_) fd ∧ FnW P w K mg base CX k (He.fAd K d.at_) fd ps sp
section
variable {X : Cx} {CX : CXT} {d : He.DefD} {k j : Nat} {ps : List Str} {sp : Sp} {x : Str} {p pos : Pos} {e : Expr} {es : List Expr} {t : TA}
/-- f(e, ..) where something is handled -/
theorem pcW (D : DOkW X.prog X.w X.K X.mg X.base d CX0 k ps sp) (hm : X.mg x = some (.ref (He.fAd X.K d.at_))) (hb : BdN d ps) (hr : RoomH j X.A) (hj : k ≤ j) (ha : PA X (e :: es) t) (hg : Gl X x := by rfl)
    (hdb : (x == ("__debug__" : Str)) = false := by decide) (he : starEach (e :: es) X.env = (false, eval e X.env) :: starEach es X.env := by rfl) (hpl : (backTo pos (starEach es X.env)).any (·.1) = false := by rfl) :
    PE X (.Call (.Name x p) (e :: es) [] pos) (tCall sp [] E0 t) := by
  obtain ⟨fd, F, G⟩ := D.ex
  refine ⟨fun pins s σ H Q I h => wpAny_Call_Name_kw (ld_glob I hg hm (PySem.W.callWith_K (h₀ := X.base) I.ok.mod.kin F.kp (thn (ha.run pos pins s σ H _ I h) fun us s1 ⟨vs, H1, I1, r, q⟩ => ⟨I1.kIn, ?_⟩) he hpl) hdb)⟩
  have q' : sp (vs ++ []) H1 Q E0 := q
  rw [List.append_nil] at q'
  have hl : us.length = ps.length := by rw [← r.length]; exact G.len _ _ _ _ q'
  have B := FunD.bdN F hb
  have bt := B s1 us I1.kIn (by rw [List.append_nil]; exact hl)
  rw [List.append_nil] at bt
  refine wpAny_call (codeAny_mono (G.run X.A X.stack s1 H1 ⟨us, []⟩ us vs Q E0 (hr.mono hj) I1.env0 bt r q') fun r s' hq => ?_)
  cases r with
  | error e => exact hq.elim
  | ok fl =>
    cases fl with
    | ret u => exact I1.after hq
    | next => exact False.elim hq
    | brk => exact False.elim hq
    | cont => exact False.elim hq
end
end Gx

/-! Own layer Xc: calls of defs that may raise; what is wished for then may speak of the caller's slots. -/
namespace Gx
open PySem PySem.Spec PyProof.Rows L2
theorem passE0 {X : Cx} (σ : L2.St) : PassesAt (CX X.prog X.w) X σ E0 := fun pins H s e s' I h => by
  obtain ⟨a, B, H', cls, d, _, _, _, _, _, _, _, z⟩ := h
  exact z.elim
section
variable {X : Cx} {CXx : CXT} {d : He.DefD} {k j n : Nat} {f C : Addr} {fd : FuncData} {ps : List Str} {sp : Sp} {x : Str} {p pos apos : Pos} {e o : Expr} {es : List Expr} {t tk : TA} {ta : TE} {dv : List V} {E : L2.St → XK} {m : Str} {pl : Sem Bool} {kws : List Keyword} {ks : List Str} {gV : List V → List V → List V}
theorem run_argS {pins : List (Addr × Obj)} {σ : L2.St} {H : Hp} {s : Shared} {Q : VK} {args : Args} {us : List Value} {vs : List V} (F : FnOk X.prog X.w X.K X.mg X.base CXx k f fd ps sp) (hr : Room k X.A) (hx : PassesAt CXx X σ (E σ)) (I : Inv X pins σ H s) (hb : BindsTo s fd args (ps.zip us)) (r : Vals vs us) (h : sp vs H Q (E σ)) : wpAny (model X.prog X.w) X.A (call (.ref f) args.pos args.kw) (EP X pins σ Q) X.xe s := by
  refine wpAny_call (codeAny_mono (F.run X.A X.stack s H ⟨args.pos, args.kw⟩ us vs Q (E σ) hr I.env0 hb r h) fun r s' hq => ?_)
  cases r with
  | error e => exact hx pins H s e s' I hq
  | ok fl =>
    cases fl with
    | ret u => exact I.after hq
    | next => exact False.elim hq
    | brk => exact False.elim hq
    | cont => exact False.elim hq
theorem run_fnS {pins : List (Addr × Obj)} {σ : L2.St} {H : Hp} {s : Shared} {Q : VK} {ds us : List Value} {vs : List V} (F : FnOk X.prog X.w X.K X.mg X.base CXx k f fd ps sp) (hr : Room k X.A) (hb : Binds X.K fd ps ds) (hd : Vals dv ds) (hx : PassesAt CXx X σ (E σ)) (I : Inv X pins σ H s) (r : Vals vs us) (h : sp (vs ++ dv) H Q (E σ)) : wpAny (model X.prog X.w) X.A (call (.ref f) us) (EP X pins σ Q) X.xe s := by
  have r2 : Vals (vs ++ dv) (us ++ ds) := r.append hd
  have hl : (us ++ ds).length = ps.length := by rw [← r2.length]; exact F.len _ _ _ _ h
  exact run_argS (args := ⟨us, []⟩) F hr hx I (hb s us I.kIn hl) r2 h
theorem run_kwS {pins : List (Addr × Obj)} {σ : L2.St} {H : Hp} {s : Shared} {Q : VK} {g : List Value → List Value → List Value} {us ws : List Value} {vs zs : List V} (F : FnOk X.prog X.w X.K X.mg X.base CXx k f fd ps sp) (hr : Room k X.A) (hb : KBn X.K fd ps n ks g gV) (hx : PassesAt CXx X σ (E σ)) (I : Inv X pins σ H s) (r : Vals vs us) (rz : Vals zs ws) (l1 : vs.length = n) (l2 : zs.length = ks.length) (h : sp (gV vs zs) H Q (E σ)) : wpAny (model X.prog X.w) X.A (call (.ref f) us (ks.zip ws)) (EP X pins σ Q) X.xe s :=
  run_argS (args := ⟨us, ks.zip ws⟩) F hr hx I (hb.to s us ws I.kIn (by rw [← r.length]; exact l1) (by rw [← rz.length]; exact l2)) (hb.rel r rz) h
theorem run_mkS {pins : List (Addr × Obj)} {σ : L2.St} {H : Hp} {s : Shared} {Q : VK} {us : List Value} {kw : List (Str × Value)} {full : Addr → List Value} {vs : Addr → List V} (M : Mk X.K C f) (F : FnOk X.prog X.w X.K X.mg X.base CXx k f fd ps sp) (hr : Room (k + 1) X.A) (hx : PassesAt CXx X σ (E σ)) (I : Inv X pins σ H s)
    (hb : ∀ (a : Addr) (s2 : Shared), X.K.In s2.heap → (vs a).length = ps.length → BindsTo s2 fd ⟨.ref a :: us, kw⟩ (ps.zip (full a))) (r : ∀ a, Vals (vs a) (full a))
    (h : ∀ x dx, H x = none → H dx = none → dx ≠ x → sp (vs x) (upd (upd H dx (.own x)) x (.ins C dx [])) (fun v H2 => v = .non ∧ Q (.ref x) H2) (E σ)) : wpAny (model X.prog X.w) X.A (call (.ref C) us kw) (EP X pins σ Q) X.xe s := by
  have hq := h (s.heap.objs.size + 1) s.heap.objs.size (HOk.fresh I.hok (Nat.le_succ _)) (HOk.fresh I.hok (Nat.le_refl _)) (Nat.ne_of_lt (Nat.lt_succ_self _))
  have I2 := Inv.made (C := C) I
  have hl := F.len _ _ _ _ hq
  refine wpAny_call (make_map (Inv.kIn I) M.makes M.init (beq_iff_eq.mp M.fn) (codeAny_mono (F.run (X.A.under (.builtin "type.__call__" ⟨.ref C :: us, kw⟩)) X.stack _ _ ⟨.ref (s.heap.objs.size + 1) :: us, kw⟩ (full (s.heap.objs.size + 1)) (vs (s.heap.objs.size + 1)) (fun v H2 => v = .non ∧ Q (.ref (s.heap.objs.size + 1)) H2) (E σ) (Room.make hr C us kw) (Env0.make (Inv.env0 I2) C us kw) (hb _ _ (Inv.kIn I2) hl) (r _) hq) fun r s' hq' => ?_))
  cases r with
  | error e => exact hx pins _ _ e s' I2 hq'
  | ok fl =>
    cases fl with
    | ret u =>
      obtain ⟨v, H', I3, rv, ev, q3⟩ := Inv.after I2 hq'
      subst ev
      exact ⟨rv, .ref (s.heap.objs.size + 1), H', I3, rfl, q3⟩
    | next => exact False.elim hq'
    | brk => exact False.elim hq'
    | cont => exact False.elim hq'
def tCallNS (n mk : Nat) (sp : Sp) (gV : List V → List V → List V) (E : L2.St → XK) (t tk : TA) : TE := fun σ H Q => t σ H fun vs H1 => tk σ H1 fun zs H2 => vs.length = n ∧ zs.length = mk ∧ sp (gV vs zs) H2 Q (E σ)
def tMethSD (C : Addr) (m : Str) (sp : Sp) (dv : List V) (E : L2.St → XK) (ta : TE) (t : TA) : TE := fun σ H Q => ta σ H fun x H1 => ∃ a dx fs, x = .ref a ∧ H1 a = some (.ins C dx fs) ∧ fs.lookup m = none ∧ t σ H1 fun vs H2 => sp (x :: (vs ++ dv)) H2 Q (E σ)
def tMethNS (C : Addr) (m : Str) (n mk : Nat) (sp : Sp) (gV : List V → List V → List V) (E : L2.St → XK) (ta : TE) (t tk : TA) : TE := fun σ H Q => ta σ H fun x H1 => ∃ a dx fs, x = .ref a ∧ H1 a = some (.ins C dx fs) ∧ fs.lookup m = none ∧ t σ H1 fun vs H2 => tk σ H2 fun zs H3 => vs.length + 1 = n ∧ zs.length = mk ∧ sp (gV (.ref a :: vs) zs) H3 Q (E σ)
def tMakeSD (C : Addr) (sp : Sp) (dv : List V) (E : L2.St → XK) (t : TA) : TE := fun σ H Q => t σ H fun vs H1 => ∀ x dx, H1 x = none → H1 dx = none → dx ≠ x → sp (.ref x :: (vs ++ dv)) (upd (upd H1 dx (.own x)) x (.ins C dx [])) (fun v H2 => v = .non ∧ Q (.ref x) H2) (E σ)
def tMakeNS (C : Addr) (n mk : Nat) (sp : Sp) (gV : List V → List V → List V) (E : L2.St → XK) (t tk : TA) : TE := fun σ H Q => t σ H fun vs H1 => tk σ H1 fun zs H2 => vs.length = n ∧ zs.length = mk ∧ ∀ x dx, H2 x = none → H2 dx = none → dx ≠ x → sp (gV (.ref x :: vs) zs) (upd (upd H2 dx (.own x)) x (.ins C dx [])) (fun v H3 => v = .non ∧ Q (.ref x) H3) (E σ)
/-! f(e, ..) -/
theorem pcDS (D : DOk X.prog X.w X.K X.mg X.base d CXx k ps sp) (hx : ∀ σ, PassesAt CXx X σ (E σ)) (hm : X.mg x = some (.ref (He.fAd X.K d.at_))) (hb : BdD X.K d ps dv) (hr : Room j X.A) (hj : k ≤ j) (ha : PA X (e :: es) t) (hg : Gl X x := by rfl)
    (hdb : (x == ("__debug__" : Str)) = false := by decide) (he : starEach (e :: es) X.env = (false, eval e X.env) :: starEach es X.env := by rfl) (hpl : (backTo pos (starEach es X.env)).any (·.1) = false := by rfl) :
    PE X (.Call (.Name x p) (e :: es) [] pos) (tCallSD sp dv E t) := by
  obtain ⟨fd, F, G⟩ := D.ex
  obtain ⟨ds, hv, hbd⟩ := hb fd F
  exact pe_callSD G (hr.mono hj) hg hm F.kp hbd hv hx ha hdb he hpl
theorem pcS (D : DOk X.prog X.w X.K X.mg X.base d CXx k ps sp) (hx : ∀ σ, PassesAt CXx X σ (E σ)) (hm : X.mg x = some (.ref (He.fAd X.K d.at_))) (hb : BdN d ps) (hr : Room j X.A) (hj : k ≤ j) (ha : PA X (e :: es) t) (hg : Gl X x := by rfl)
    (hdb : (x == ("__debug__" : Str)) = false := by decide) (he : starEach (e :: es) X.env = (false, eval e X.env) :: starEach es X.env := by rfl) (hpl : (backTo pos (starEach es X.env)).any (·.1) = false := by rfl) :
    PE X (.Call (.Name x p) (e :: es) [] pos) (tCallSD sp [] E t) := by
  obtain ⟨fd, F, G⟩ := D.ex
  exact pe_callSD G (hr.mono hj) hg hm F.kp (FunD.bdN F hb) .nil hx ha hdb he hpl
theorem pcKS (D : DOk X.prog X.w X.K X.mg X.base d CXx k ps sp) (hx : ∀ σ, PassesAt CXx X σ (E σ)) (hm : X.mg x = some (.ref (He.fAd X.K d.at_))) (hb : BdK X.K d ps n ks gV) (hr : Room j X.A) (hj : k ≤ j) (ha : PA X (e :: es) t) (hkw : PK X kws tk) (hg : Gl X x := by rfl)
    (hall : (backToKw pos (keywordEach kws X.env)).all (·.1.isSome) = true := by rfl) (hks : (backToKw pos (keywordEach kws X.env)).filterMap (·.1) = ks := by rfl)
    (hdb : (x == ("__debug__" : Str)) = false := by decide) (he : starEach (e :: es) X.env = (false, eval e X.env) :: starEach es X.env := by rfl)
    (hpl : ((backTo pos (starEach (e :: es) X.env)).any (·.1) || (backToKw pos (keywordEach kws X.env)).any (·.1.isNone)) = false := by rfl) :
    PE X (.Call (.Name x p) (e :: es) kws pos) (tCallNS n ks.length sp gV E t tk) := by
  obtain ⟨fd, F, G⟩ := D.ex
  obtain ⟨g, hbd⟩ := hb fd F
  refine ⟨fun pins s σ H Q I h => wpAny_Call_Name_kw (ld_glob I hg hm (PySem.W.callWith_KW (h₀ := X.base) I.ok.mod.kin F.kp hall (thn (ha.run pos pins s σ H _ I h) fun us s1 ⟨vs, H1, I1, r, q⟩ => thn (hkw.run pos pins s1 σ H1 _ I1 q) fun ws s2 ⟨zs, H2, I2, rz, l1, l2, q2⟩ => ⟨I2.kIn, ?_⟩) hpl he) hdb)⟩
  rw [hks]
  exact run_kwS G (hr.mono hj) hbd (hx σ) I2 r rz l1 l2 q2
theorem pcK0S (D : DOk X.prog X.w X.K X.mg X.base d CXx k ps sp) (hx : ∀ σ, PassesAt CXx X σ (E σ)) (hm : X.mg x = some (.ref (He.fAd X.K d.at_))) (hb : BdK X.K d ps 0 ks gV) (hr : Room j X.A) (hj : k ≤ j) (hkw : PK X kws tk) (hg : Gl X x := by rfl)
    (hall : (backToKw pos (keywordEach kws X.env)).all (·.1.isSome) = true := by rfl) (hks : (backToKw pos (keywordEach kws X.env)).filterMap (·.1) = ks := by rfl)
    (hdb : (x == ("__debug__" : Str)) = false := by decide)
    (hpl : ((backTo pos (starEach [] X.env)).any (·.1) || (backToKw pos (keywordEach kws X.env)).any (·.1.isNone)) = false := by rfl) :
    PE X (.Call (.Name x p) [] kws pos) (tCallNS 0 ks.length sp gV E tNil tk) := by
  obtain ⟨fd, F, G⟩ := D.ex
  obtain ⟨g, hbd⟩ := hb fd F
  refine ⟨fun pins s σ H Q I h => wpAny_Call_Name_kw (ld_glob I hg hm (PySem.W.callWith_KW0 (h₀ := X.base) I.ok.mod.kin F.kp hall (thn (hkw.run pos pins s σ H _ I h) fun ws s2 ⟨zs, H2, I2, rz, l1, l2, q2⟩ => ⟨I2.kIn, ?_⟩) hpl) hdb)⟩
  rw [hks]
  exact run_kwS G (hr.mono hj) hbd (hx σ) I2 .nil rz l1 l2 q2
/-! o.m(e, ..) -/
theorem pmDS (D : DOk X.prog X.w X.K X.mg X.base d CXx k ps sp) (hx : ∀ σ, PassesAt CXx X σ (E σ)) (c : Cls X.K C) (hm : Meth X.K C m (He.fAd X.K d.at_)) (hb : BdD X.K d ps dv) (hr : Room j X.A) (hj : k ≤ j) (he : PE X o ta) (ha : PA X (e :: es) t)
    (hst : starEach (e :: es) X.env = (false, eval e X.env) :: starEach es X.env := by rfl) (hpl : (backTo pos (starEach es X.env)).any (·.1) = false := by rfl)
    (ht : eval (.Call (.Attribute o m apos) (e :: es) [] pos) X.env = (do
      let ov ← eval o X.env
      standAt apos.atName
      let (f, first) ← holding [ov] (getMethod ov m pl)
      callWith pos f first (backTo pos (starEach (e :: es) X.env)) (backToKw pos (keywordEach [] X.env))) := by rfl) :
    PE X (.Call (.Attribute o m apos) (e :: es) [] pos) (tMethSD C m sp dv E ta t) := by
  obtain ⟨fd, F, G⟩ := D.ex
  obtain ⟨ds, hv, hbd⟩ := hb fd F
  refine ⟨fun pins s σ H Q I h => ?_⟩
  refine PySem.W.methodCall_KW (pl := pl) (thn (he.run pins s σ H _ I h) fun u s1 ⟨x, H1, I1, rx, a, dx, fs, ex, ea, l, q⟩ => ?_) ht
  subst ex
  obtain rfl : u = Value.ref a := rx
  refine getmeth_ok I1 ea c hm l (PySem.W.callWith_K (first := [.ref a]) (h₀ := X.base) I.ok.mod.kin hm.kp (thn (ha.run pos pins s1 σ H1 _ I1 q) fun us s2 ⟨vs, H2, I2, r, q2⟩ => ⟨I2.kIn, ?_⟩) hst hpl)
  exact run_fnS (us := .ref a :: us) (vs := .ref a :: vs) G (hr.mono hj) hbd hv (hx σ) I2 (.cons rfl r) q2
theorem pmD0S (D : DOk X.prog X.w X.K X.mg X.base d CXx k ps sp) (hx : ∀ σ, PassesAt CXx X σ (E σ)) (c : Cls X.K C) (hm : Meth X.K C m (He.fAd X.K d.at_)) (hb : BdD X.K d ps dv) (hr : Room j X.A) (hj : k ≤ j) (he : PE X o ta)
    (ht : eval (.Call (.Attribute o m apos) [] [] pos) X.env = (do
      let ov ← eval o X.env
      standAt apos.atName
      let (f, first) ← holding [ov] (getMethod ov m pl)
      callWith pos f first (backTo pos (starEach [] X.env)) (backToKw pos (keywordEach [] X.env))) := by rfl) :
    PE X (.Call (.Attribute o m apos) [] [] pos) (tMethSD C m sp dv E ta tNil) := by
  obtain ⟨fd, F, G⟩ := D.ex
  obtain ⟨ds, hv, hbd⟩ := hb fd F
  refine ⟨fun pins s σ H Q I h => ?_⟩
  refine PySem.W.methodCall_KW (pl := pl) (thn (he.run pins s σ H _ I h) fun u s1 ⟨x, H1, I1, rx, a, dx, fs, ex, ea, l, q⟩ => ?_) ht
  subst ex
  obtain rfl : u = Value.ref a := rx
  refine getmeth_ok I1 ea c hm l (PySem.W.callWith_K0 (first := [.ref a]) I1.kIn hm.kp ?_)
  exact run_fnS (us := [.ref a]) (vs := [.ref a]) G (hr.mono hj) hbd hv (hx σ) I1 (.cons rfl .nil) q
theorem bdD_of (h : BdN d ps) : BdD X.K d ps [] := fun fd F => ⟨[], .nil, FunD.bdN F h⟩
theorem pmS (D : DOk X.prog X.w X.K X.mg X.base d CXx k ps sp) (hx : ∀ σ, PassesAt CXx X σ (E σ)) (c : Cls X.K C) (hm : Meth X.K C m (He.fAd X.K d.at_)) (hb : BdN d ps) (hr : Room j X.A) (hj : k ≤ j) (he : PE X o ta) (ha : PA X (e :: es) t)
    (hst : starEach (e :: es) X.env = (false, eval e X.env) :: starEach es X.env := by rfl) (hpl : (backTo pos (starEach es X.env)).any (·.1) = false := by rfl)
    (ht : eval (.Call (.Attribute o m apos) (e :: es) [] pos) X.env = (do
      let ov ← eval o X.env
      standAt apos.atName
      let (f, first) ← holding [ov] (getMethod ov m pl)
      callWith pos f first (backTo pos (starEach (e :: es) X.env)) (backToKw pos (keywordEach [] X.env))) := by rfl) :
    PE X (.Call (.Attribute o m apos) (e :: es) [] pos) (tMethSD C m sp [] E ta t) := pmDS D hx c hm (bdD_of hb) hr hj he ha hst hpl ht
theorem pm0S (D : DOk X.prog X.w X.K X.mg X.base d CXx k ps sp) (hx : ∀ σ, PassesAt CXx X σ (E σ)) (c : Cls X.K C) (hm : Meth X.K C m (He.fAd X.K d.at_)) (hb : BdN d ps) (hr : Room j X.A) (hj : k ≤ j) (he : PE X o ta)
    (ht : eval (.Call (.Attribute o m apos) [] [] pos) X.env = (do
      let ov ← eval o X.env
      standAt apos.atName
      let (f, first) ← holding [ov] (getMethod ov m pl)
      callWith pos f first (backTo pos (starEach [] X.env)) (backToKw pos (keywordEach [] X.env))) := by rfl) :
    PE X (.Call (.Attribute o m apos) [] [] pos) (tMethSD C m sp [] E ta tNil) := pmD0S D hx c hm (bdD_of hb) hr hj he ht
theorem pmK0S (D : DOk X.prog X.w X.K X.mg X.base d CXx k ps sp) (hx : ∀ σ, PassesAt CXx X σ (E σ)) (c : Cls X.K C) (hm : Meth X.K C m (He.fAd X.K d.at_)) (hb : BdK X.K d ps 1 ks gV) (hr : Room j X.A) (hj : k ≤ j) (he : PE X o ta) (hkw : PK X kws tk)
    (hall : (backToKw pos (keywordEach kws X.env)).all (·.1.isSome) = true := by rfl) (hks : (backToKw pos (keywordEach kws X.env)).filterMap (·.1) = ks := by rfl)
    (hpl : ((backTo pos (starEach [] X.env)).any (·.1) || (backToKw pos (keywordEach kws X.env)).any (·.1.isNone)) = false := by rfl)
    (ht : eval (.Call (.Attribute o m apos) [] kws pos) X.env = (do
      let ov ← eval o X.env
      standAt apos.atName
      let (f, first) ← holding [ov] (getMethod ov m pl)
      callWith pos f first (backTo pos (starEach [] X.env)) (backToKw pos (keywordEach kws X.env))) := by rfl) :
    PE X (.Call (.Attribute o m apos) [] kws pos) (tMethNS C m 1 ks.length sp gV E ta tNil tk) := by
  obtain ⟨fd, F, G⟩ := D.ex
  obtain ⟨g, hbd⟩ := hb fd F
  refine ⟨fun pins s σ H Q I h => ?_⟩
  refine PySem.W.methodCall_KW (pl := pl) (thn (he.run pins s σ H _ I h) fun u s1 ⟨x, H1, I1, rx, a, dx, fs, ex, ea, l, q⟩ => ?_) ht
  subst ex
  obtain rfl : u = Value.ref a := rx
  refine getmeth_ok I1 ea c hm l ?_
  refine PySem.W.callWith_KW0 (first := [.ref a]) (h₀ := X.base) I.ok.mod.kin hm.kp hall ?_ hpl
  refine thn (hkw.run pos pins s1 σ H1 _ I1 q) fun ws s2 ⟨zs, H2, I2, rz, l1, l2, q2⟩ => ⟨I2.kIn, ?_⟩
  rw [hks]
  exact run_kwS (us := [.ref a]) (vs := [.ref a]) G (hr.mono hj) hbd (hx σ) I2 (.cons rfl .nil) rz rfl l2 q2
theorem pmKS (D : DOk X.prog X.w X.K X.mg X.base d CXx k ps sp) (hx : ∀ σ, PassesAt CXx X σ (E σ)) (c : Cls X.K C) (hm : Meth X.K C m (He.fAd X.K d.at_)) (hb : BdK X.K d ps n ks gV) (hr : Room j X.A) (hj : k ≤ j) (he : PE X o ta) (ha : PA X (e :: es) t) (hkw : PK X kws tk)
    (hall : (backToKw pos (keywordEach kws X.env)).all (·.1.isSome) = true := by rfl) (hks : (backToKw pos (keywordEach kws X.env)).filterMap (·.1) = ks := by rfl)
    (hst : starEach (e :: es) X.env = (false, eval e X.env) :: starEach es X.env := by rfl)
    (hpl : ((backTo pos (starEach (e :: es) X.env)).any (·.1) || (backToKw pos (keywordEach kws X.env)).any (·.1.isNone)) = false := by rfl)
    (ht : eval (.Call (.Attribute o m apos) (e :: es) kws pos) X.env = (do
      let ov ← eval o X.env
      standAt apos.atName
      let (f, first) ← holding [ov] (getMethod ov m pl)
      callWith pos f first (backTo pos (starEach (e :: es) X.env)) (backToKw pos (keywordEach kws X.env))) := by rfl) :
    PE X (.Call (.Attribute o m apos) (e :: es) kws pos) (tMethNS C m n ks.length sp gV E ta t tk) := by
  obtain ⟨fd, F, G⟩ := D.ex
  obtain ⟨g, hbd⟩ := hb fd F
  refine ⟨fun pins s σ H Q I h => ?_⟩
  refine PySem.W.methodCall_KW (pl := pl) (thn (he.run pins s σ H _ I h) fun u s1 ⟨x, H1, I1, rx, a, dx, fs, ex, ea, l, q⟩ => ?_) ht
  subst ex
  obtain rfl : u = Value.ref a := rx
  refine getmeth_ok I1 ea c hm l ?_
  refine PySem.W.callWith_KW (first := [.ref a]) (h₀ := X.base) I.ok.mod.kin hm.kp hall (thn (ha.run pos pins s1 σ H1 _ I1 q) fun us s2 ⟨vs, H2, I2, r, q2⟩ => thn (hkw.run pos pins s2 σ H2 _ I2 q2) fun ws s3 ⟨zs, H3, I3, rz, l1, l2, q3⟩ => ⟨I3.kIn, ?_⟩) hpl hst
  rw [hks]
  exact run_kwS (us := .ref a :: us) (vs := .ref a :: vs) G (hr.mono hj) hbd (hx σ) I3 (.cons rfl r) rz l1 l2 q3
/-! C(e, ..) -/
theorem pmkS (D : DOk X.prog X.w X.K X.mg X.base d CXx k ps sp) (hx : ∀ σ, PassesAt CXx X σ (E σ)) (M : Mk X.K C (He.fAd X.K d.at_)) (hm : X.mg x = some (.ref C)) (hb : BdD X.K d ps dv) (hr : Room j X.A) (hj : k + 1 ≤ j) (ha : PA X (e :: es) t) (hg : Gl X x := by rfl)
    (hdb : (x == ("__debug__" : Str)) = false := by decide) (he : starEach (e :: es) X.env = (false, eval e X.env) :: starEach es X.env := by rfl) (hpl : (backTo pos (starEach es X.env)).any (·.1) = false := by rfl) :
    PE X (.Call (.Name x p) (e :: es) [] pos) (tMakeSD C sp dv E t) := by
  obtain ⟨fd, F, G⟩ := D.ex
  obtain ⟨ds, hv, hbd⟩ := hb fd F
  refine ⟨fun pins s σ H Q I h => wpAny_Call_Name_kw (ld_glob I hg hm (PySem.W.callWith_K (h₀ := X.base) I.ok.mod.kin M.kp (thn (ha.run pos pins s σ H _ I h) fun us s1 ⟨vs, H1, I1, r, q⟩ => ⟨I1.kIn, ?_⟩) he hpl) hdb)⟩
  exact run_mkS (full := fun a => .ref a :: (us ++ ds)) (vs := fun a => .ref a :: (vs ++ dv)) M G (hr.mono hj) (hx σ) I1 (fun a s2 hk hl => hbd s2 (.ref a :: us) hk (by rw [← hl]; exact (Vals.length (.cons rfl (Vals.append r hv) : Vals (.ref a :: (vs ++ dv)) (.ref a :: (us ++ ds)))).symm)) (fun a => .cons rfl (Vals.append r hv)) q
theorem pmk0S (D : DOk X.prog X.w X.K X.mg X.base d CXx k ps sp) (hx : ∀ σ, PassesAt CXx X σ (E σ)) (M : Mk X.K C (He.fAd X.K d.at_)) (hm : X.mg x = some (.ref C)) (hb : BdD X.K d ps dv) (hr : Room j X.A) (hj : k + 1 ≤ j) (hg : Gl X x := by rfl)
    (hdb : (x == ("__debug__" : Str)) = false := by decide) : PE X (.Call (.Name x p) [] [] pos) (tMakeSD C sp dv E tNil) := by
  obtain ⟨fd, F, G⟩ := D.ex
  obtain ⟨ds, hv, hbd⟩ := hb fd F
  refine ⟨fun pins s σ H Q I h => wpAny_Call_Name_kw (ld_glob I hg hm (PySem.W.callWith_K0 I.kIn M.kp ?_) hdb)⟩
  exact run_mkS (us := []) (full := fun a => .ref a :: ds) (vs := fun a => .ref a :: dv) M G (hr.mono hj) (hx σ) I (fun a s2 hk hl => hbd s2 [.ref a] hk (by rw [← hl]; exact (Vals.length (.cons rfl hv : Vals (.ref a :: dv) (.ref a :: ds))).symm)) (fun a => .cons rfl hv) h
theorem pmkKS (D : DOk X.prog X.w X.K X.mg X.base d CXx k ps sp) (hx : ∀ σ, PassesAt CXx X σ (E σ)) (M : Mk X.K C (He.fAd X.K d.at_)) (hm : X.mg x = some (.ref C)) (hb : BdK X.K d ps (n + 1) ks gV) (hr : Room j X.A) (hj : k + 1 ≤ j) (ha : PA X (e :: es) t) (hkw : PK X kws tk) (hg : Gl X x := by rfl)
    (hall : (backToKw pos (keywordEach kws X.env)).all (·.1.isSome) = true := by rfl) (hks : (backToKw pos (keywordEach kws X.env)).filterMap (·.1) = ks := by rfl)
    (hdb : (x == ("__debug__" : Str)) = false := by decide) (he : starEach (e :: es) X.env = (false, eval e X.env) :: starEach es X.env := by rfl)
    (hpl : ((backTo pos (starEach (e :: es) X.env)).any (·.1) || (backToKw pos (keywordEach kws X.env)).any (·.1.isNone)) = false := by rfl) :
    PE X (.Call (.Name x p) (e :: es) kws pos) (tMakeNS C n ks.length sp gV E t tk) := by
  obtain ⟨fd, F, G⟩ := D.ex
  obtain ⟨g, hbd⟩ := hb fd F
  refine ⟨fun pins s σ H Q I h => wpAny_Call_Name_kw (ld_glob I hg hm (PySem.W.callWith_KW (h₀ := X.base) I.ok.mod.kin M.kp hall (thn (ha.run pos pins s σ H _ I h) fun us s1 ⟨vs, H1, I1, r, q⟩ => thn (hkw.run pos pins s1 σ H1 _ I1 q) fun ws s2 ⟨zs, H2, I2, rz, l1, l2, q2⟩ => ⟨I2.kIn, ?_⟩) hpl he) hdb)⟩
  rw [hks]
  exact run_mkS (us := us) (full := fun a => g (.ref a :: us) ws) (vs := fun a => gV (.ref a :: vs) zs) M G (hr.mono hj) (hx σ) I2 (fun a s2 hk hl => hbd.to s2 (.ref a :: us) ws hk (by rw [List.length_cons, ← r.length, l1]) (by rw [← rz.length]; exact l2)) (fun a => hbd.rel (.cons rfl r) rz) q2
end
end Gx

/-! Own layer Xd: isinstance and fields of a tracked exception; list.count, by values. -/
namespace Gx
open PySem PySem.Spec PyProof.Rows L2
/-- what is known of an own exception class -/
structure XcC (K : PySem.W.Frag) (C : Addr) : Prop where
  e : ExcC K C
  cl : (PySem.W.clsIn K C).isSome = true
theorem xo_get {P : Program} {w : World} {H : Hp} {h : Heap} {a : Addr} {oe : Obj} (hok : HOk P w H h) (e : H a = some (XO a oe)) : h.get? a = some oe := by
  have q := hok a _ e
  unfold XO at q
  rw [ObjOk.eq_13] at q
  exact q.1
/-- its own dict, if it has one -/
def XDct (H : Hp) (oe : Obj) : Prop := oe.dict = none ∨ ∃ dd fs, oe.dict = some dd ∧ H dd = some (.xd fs)
theorem xo_inst {P : Program} {w : World} {H : Hp} {h : Heap} {a C : Addr} {oe : Obj} (hok : HOk P w H h) (e : H a = some (XO a oe)) (hc : oe.cls = .ref C) (hd : ∃ w, oe.data = .fields w) (hx : XDct H oe) : ∃ od, PySem.W.InstAt h a oe C od := by
  have q := xo_get hok e
  obtain ⟨vs, hv⟩ := hd
  have no : PySem.W.notCls oe = true := by unfold PySem.W.notCls; rw [hv]
  rcases hx with hx | ⟨dd, fs, hx, hf⟩
  · exact ⟨none, q, hc, no, by rw [hx]; trivial⟩
  · obtain ⟨mA, hns, _⟩ := hok dd _ hf
    obtain ⟨od, ho, _⟩ := lookIn_ns hns
    exact ⟨some od, q, hc, no, by rw [hx]; exact ho⟩
def rIsX (K : PySem.W.Frag) (xs : List V) (H : Hp) (Q : VK) : Prop := ∃ (a C : Addr) (oe : Obj) (c : V) (u : Value) (b : Bool), xs = [.ref a, c] ∧ ClsV c u ∧ H a = some (XO a oe) ∧ oe.cls = .ref C ∧ (∃ w, oe.data = .fields w) ∧ XDct H oe ∧ XcC K C ∧ PySem.W.kitOne K (.ref C) u = some b ∧ Q (.bl b) H
theorem XcC.kit {K : PySem.W.Frag} {C x : Addr} {oe : Obj} {od : Option Obj} (c : XcC K C) : PySem.W.KitX K (.ref x) (.ref C) fun h => PySem.W.InstAt h x oe C od := PySem.W.kitx_exc c.cl c.e.hg c.e.hk c.e.hs c.e.ha c.e.hn c.e.ht c.e.hm
theorem call_isX {X : Cx} : CallR X (.builtin "isinstance") (rIsX X.K) := by
  intro pins s σ H xs us Q I r h
  obtain ⟨a, C, oe, c, u, b, rfl, hc, ha, h1, h2, h3, h4, h5, q⟩ := h
  obtain ⟨u1, u2, rfl, r1, r2⟩ := vals2 r
  cases r1
  have e2 := ClsV.eq hc r2
  subst e2
  obtain ⟨od, J⟩ := xo_inst I.hok ha h1 h2 h3
  exact PySem.W.kia_one (XcC.kit h4) I.kIn J h5 (fun z => nomatch z) fun tk => ⟨.bl b, H, I.tok tk, rfl, q⟩
def rIsXT (K : PySem.W.Frag) (xs : List V) (H : Hp) (Q : VK) : Prop := ∃ (a C tp : Addr) (oe : Obj) (cs : List V) (us : List Value) (b : Bool), xs = [.ref a, .ref tp] ∧ H tp = some (.tup cs) ∧ Paired ClsV cs us ∧ H a = some (XO a oe) ∧ oe.cls = .ref C ∧ (∃ w, oe.data = .fields w) ∧ XDct H oe ∧ XcC K C ∧ PySem.W.kitAny K (.ref C) us = some b ∧ Q (.bl b) H
theorem clsV_all {cs : List V} {us ws : List Value} (h : Paired ClsV cs us) (r : Vals cs ws) : ws = us := by
  induction h generalizing ws with
  | nil => cases r; rfl
  | cons a _ ih =>
    cases r with
    | cons r1 r2 => rw [ClsV.eq a r1, ih r2]
theorem call_isXT {X : Cx} : CallR X (.builtin "isinstance") (rIsXT X.K) := by
  intro pins s σ H xs us Q I r h
  obtain ⟨a, C, tp, oe, cs, ws, b, rfl, ht, hp, ha, h1, h2, h3, h4, h5, q⟩ := h
  obtain ⟨u1, u2, rfl, r1, r2⟩ := vals2 r
  cases r1
  cases r2
  obtain ⟨od, J⟩ := xo_inst I.hok ha h1 h2 h3
  obtain ⟨_, its, hv, ot, ho, hoc, n, hod⟩ := I.hok tp _ ht
  obtain ⟨cls, dd, data, sl⟩ := ot
  cases hoc
  cases hod
  have e := clsV_all hp hv
  subst e
  exact PySem.W.kia_tup (XcC.kit h4) I.kIn J ho h5 (fun z => nomatch z) fun tk => ⟨.bl b, H, I.tok tk, rfl, q⟩
/-- e.f of a tracked exception -/
def tXfT (K : PySem.W.Frag) (f : Str) (te : TE) : TE := fun σ H Q => te σ H fun x H1 => ∃ (a C dd : Addr) (oe : Obj) (fs : List (Str × V)) (v : V), x = .ref a ∧ H1 a = some (XO a oe) ∧ oe.cls = .ref C ∧ (∃ w, oe.data = .fields w) ∧ oe.dict = some dd ∧ H1 dd = some (.xd fs) ∧ XcC K C ∧ PySem.W.findIn K (.ref C) f = some none ∧ fs.lookup f = some v ∧ Q v H1
theorem pe_xfT {X : Cx} {e : Expr} {te : TE} {pos : Pos} {n : Str} (he : PE X e te) (hb : attributeBase e n X.env (eval e X.env) = eval e X.env := by rfl) : PE X (.Attribute e n pos) (tXfT X.K n te) := by
  refine ⟨fun pins s σ H Q I h => ?_⟩
  refine attr_of hb (thn (he.run pins s σ H _ I h) fun u s1 ⟨x, H1, I1, rx, a, C, dd, oe, fs, v, ex, ea, ec, ed, eD, ef, T, hno, l, q⟩ => ?_)
  subst ex
  obtain rfl : u = Value.ref a := rx
  have hx := I1.hok dd _ ef
  obtain ⟨mA, hns, hr⟩ := hx
  obtain ⟨od, ho, hl⟩ := lookIn_ns hns
  obtain ⟨u, hu, ru⟩ := RelO.some_of (v := v) (o := mA n) (by rw [← l]; exact hr n)
  obtain ⟨vs, hd⟩ := ed
  have J : PySem.W.InstAt s1.heap a oe C (some od) := ⟨xo_get I1.hok ea, ec, by unfold PySem.W.notCls; rw [hd], by rw [eD]; exact ho⟩
  exact HandSPX.exc_get I1.kIn J T.e.hg T.e.hk T.e.hs (PySem.W.findObj_own T.e.hd hno rfl (by rw [hl, hu])) (handed_of ru) ⟨v, H1, I1.tok _, ru, q⟩
/-! ### list.count -/
def rCntV (K : PySem.W.Frag) (x : V) (xs : List V) (H : Hp) (Q : VK) : Prop := ∃ (a : Addr) (ys : List V) (y : V), x = .ref a ∧ xs = [y] ∧ SqL K H a ys ∧ flatV y = true ∧ ys.all flatV = true ∧ Q (.int ((ys.countP fun z => eqV z y : Nat) : Int)) H
theorem cntU {y : V} : ∀ {ys : List V} {us : List Value}, Vals ys us → ys.all flatV = true → us.countP (eqU y) = ys.countP fun z => eqV z y
  | [], us, r, _ => by cases r; rfl
  | z :: ys, us, r, h => by
    cases r with
    | cons r1 r2 =>
      obtain ⟨h1, h2⟩ := Bool.and_eq_true_iff.mp (show (flatV z && ys.all flatV) = true from h)
      rw [List.countP_cons, List.countP_cons, cntU r2 h2, eqU_of r1 h1]
theorem mt_cntV {X : Cx} : MtR X "list.count" (rCntV X.K) := by
  intro pins s σ H x xs v us Q I rx rxs h
  obtain ⟨p, ys, y, rfl, rfl, hs, fy, fys, q⟩ := h
  cases rx
  obtain ⟨u, rfl, ru⟩ := Vals.one rxs
  obtain ⟨its, rv, ⟨w, n, ho, hc, hdn, hd⟩, hlen⟩ := Inv.list I hs
  obtain ⟨cls, dd, data, sl⟩ := w
  cases hc
  cases hdn
  cases hd
  refine call_meets F.slot_list_count ⟨_, ho, rfl⟩ F.entry_list_count (F.args_list_count_2 (.ref p) u) (SeqAt.list_countAt p its.toArray n none sl u (eqU y)) ⟨ho, fun z hz => mem_eqAt ru fy rv fys z (by simpa using hz), ?_⟩
  refine ⟨.int ((ys.countP fun z => eqV z y : Nat) : Int), H, I.tok (s.toks + 1), ⟨s.toks, ?_⟩, q⟩
  rw [show its.toArray.toList = its from rfl, cntU rv fys]
end Gx

/-! Own layer Xe: the simulation of calls that may raise, raise, try, isinstance of exceptions. -/
namespace Qx
open PySem PySem.Spec PyProof.Rows L2 Gx
def noXM {α : Type} (m : List PV → Sto → PR α) : List PV → Sto → PR α := fun ps O => noX (m ps O)
theorem RepX.mono {K : PySem.W.Frag} {ι ι' : List Addr} {G G' : Hp} {e : PExc} {c : Value} {d : Option Addr} (hp : Pre ι ι') (s : Same G G') (h : RepX K ι G e c d) : RepX K ι' G' e c d :=
  ⟨h.1, let ⟨xs, h1, h2, h3⟩ := h.2; ⟨xs, h1.mono s, h2, h3.mono hp s⟩⟩
theorem Post.ofNone {α β : Type} {K : PySem.W.Frag} {R : List (Addr × HO)} {E : Option XK} {rp : List Addr → Hp → α → β → Prop} {ι : List Addr} {O : Sto} {H : Hp} {Q : β → Hp → Prop} {r : PR α} (h : Post K R none rp ι O H Q r) : Post K R E rp ι O H Q r := by
  cases r with
  | ok a O' => exact h
  | exc e O' => obtain ⟨_, z, _⟩ := h; cases z
  | bad => exact h
section
variable {K : PySem.W.Frag} {E : XM} {e : L2.St → XK} {ta : TE} {fa : EF} {tA tZ : TA} {fA fZ : AF} {C m : Str} {mf : MF} {dps : List PV} {dvs : List V} {n k : Nat} {gP : List PV → List PV → List PV} {gV : List V → List V → List V}
theorem spM_T {m : MF} {vs : List V} {H : Hp} {Q : VK} {E : XK} {R : List (Addr × HO)} {ι : List Addr} {O : Sto} {ps : List PV} (S : Sim K R ι O H) (r : RepL K ι (fz R ι O H) ps vs) (h : Post K R (some E) (Rep K) ι O H Q (m ps O)) : spM K true m vs H Q E := ⟨R, ι, O, ps, S, r, h⟩
theorem spM_F {m : MF} {vs : List V} {H : Hp} {Q : VK} {E : XK} {E' : Option XK} {R : List (Addr × HO)} {ι : List Addr} {O : Sto} {ps : List PV} (S : Sim K R ι O H) (r : RepL K ι (fz R ι O H) ps vs) (h : Post K R E' (Rep K) ι O H Q (noX (m ps O))) : spM K false m vs H Q E := ⟨R, ι, O, ps, S, r, Post.noX h⟩
/-! defs that do not raise, wherever they are called -/
theorem sim_callN (hA : SimA K E tA fA) (hd : ∀ ι G, RepL K ι G dps dvs) : SimE K E (tCall (spM K false mf) dvs E0 tA) (eCall (noXM mf) dps fA) := fun R ι O H σ s Q S L h =>
  hA R ι O H σ s _ S L (h.bind fun ps O1 xs ι1 H1 S1 X1 r1 h1 => spM_F S1 (r1.app (hd _ _)) h1)
theorem sim_callKN (hA : SimA K E tA fA) (hZ : SimA K E tZ fZ) (hg : ∀ ι G ps vs zs ws, RepL K ι G ps vs → RepL K ι G zs ws → RepL K ι G (gP ps zs) (gV vs ws)) : SimE K E (tCallN n k (spM K false mf) gV E0 tA tZ) (eCallK (noXM mf) n k gP fA fZ) := fun R ι O H σ s Q S L h =>
  hA R ι O H σ s _ S L (h.bind fun ps O1 xs ι1 H1 S1 X1 r1 h1 => hZ R ι1 O1 H1 σ s _ S1 (L.ext X1) (h1.bind fun zs O2 ws ι2 H2 S2 X2 r2 h2 => by
    split at h2
    · rename_i c
      exact ⟨by rw [r1.len]; exact c.1, by rw [r2.len]; exact c.2, spM_F S2 (hg _ _ _ _ _ _ (X2.repL r1) r2) h2⟩
    · exact h2.elim))
/-! calls that may raise -/
theorem sim_callX (hA : SimA K none tA fA) (hd : ∀ ι G, RepL K ι G dps dvs) : SimE K none (tCallSD (spM K true mf) dvs (fun _ => E0) tA) (eCall mf dps fA) := fun R ι O H σ s Q S L h =>
  hA R ι O H σ s _ S L (h.bind fun ps O1 xs ι1 H1 S1 X1 r1 h1 => spM_T S1 (r1.app (hd _ _)) h1.ofNone)
theorem sim_callS (hA : SimA K (some e) tA fA) (hd : ∀ ι G, RepL K ι G dps dvs) : SimE K (some e) (tCallSD (spM K true mf) dvs e tA) (eCall mf dps fA) := fun R ι O H σ s Q S L h =>
  hA R ι O H σ s _ S L (h.bind fun ps O1 xs ι1 H1 S1 X1 r1 h1 => spM_T S1 (r1.app (hd _ _)) h1)
theorem sim_callKX (hA : SimA K none tA fA) (hZ : SimA K none tZ fZ) (hg : ∀ ι G ps vs zs ws, RepL K ι G ps vs → RepL K ι G zs ws → RepL K ι G (gP ps zs) (gV vs ws)) : SimE K none (tCallNS n k (spM K true mf) gV (fun _ => E0) tA tZ) (eCallK mf n k gP fA fZ) := fun R ι O H σ s Q S L h =>
  hA R ι O H σ s _ S L (h.bind fun ps O1 xs ι1 H1 S1 X1 r1 h1 => hZ R ι1 O1 H1 σ s _ S1 (L.ext X1) (h1.bind fun zs O2 ws ι2 H2 S2 X2 r2 h2 => by
    split at h2
    · rename_i c
      exact ⟨by rw [r1.len]; exact c.1, by rw [r2.len]; exact c.2, spM_T S2 (hg _ _ _ _ _ _ (X2.repL r1) r2) h2.ofNone⟩
    · exact h2.elim))
theorem sim_callKS (hA : SimA K (some e) tA fA) (hZ : SimA K (some e) tZ fZ) (hg : ∀ ι G ps vs zs ws, RepL K ι G ps vs → RepL K ι G zs ws → RepL K ι G (gP ps zs) (gV vs ws)) : SimE K (some e) (tCallNS n k (spM K true mf) gV e tA tZ) (eCallK mf n k gP fA fZ) := fun R ι O H σ s Q S L h =>
  hA R ι O H σ s _ S L (h.bind fun ps O1 xs ι1 H1 S1 X1 r1 h1 => hZ R ι1 O1 H1 σ s _ S1 (L.ext X1) (h1.bind fun zs O2 ws ι2 H2 S2 X2 r2 h2 => by
    split at h2
    · rename_i c
      exact ⟨by rw [r1.len]; exact c.1, by rw [r2.len]; exact c.2, spM_T S2 (hg _ _ _ _ _ _ (X2.repL r1) r2) h2⟩
    · exact h2.elim))
/-! methods -/
theorem meth_core {E : XM} {P : V → List V → Hp → VK → Prop} {sp : PV → List PV → Sto → PR PV} {m : Str} (ha : SimE K E ta fa) (hA : SimA K E tA fA)
    (hp : ∀ R ι O H σ p ps x xs Q, Sim K R ι O H → Rep K ι (fz R ι O H) p x → RepL K ι (fz R ι O H) ps xs → Post K R (xat E σ) (Rep K) ι O H Q (sp p ps O) → P x xs H Q) (R : List (Addr × HO)) (ι : List Addr) (O : Sto) (H : Hp) (σ : L2.St) (s : Slots) (Q : VK) (S : Sim K R ι O H) (L : SlR K ι (fz R ι O H) σ s)
    (h : Post K R (xat E σ) (Rep K) ι O H Q ((fa s O).bind fun p O1 => match insOf O1 p with
      | some (C', ns, qs) => if C' = C ∧ ((ns.zip qs).lookup m).isNone = true then (fA s O1).bind fun ps O2 => sp p ps O2 else .bad
      | none => .bad)) : ta σ H fun x H1 => ∃ a dx fs, x = .ref a ∧ H1 a = some (.ins (He.ga K C) dx fs) ∧ fs.lookup m = none ∧ tA σ H1 fun vs H2 => P x vs H2 Q :=
  ha R ι O H σ s _ S L (h.bind fun p O1 x ι1 H1 S1 X1 r1 h1 => by
    cases q : insOf O1 p with
    | none => simp [q] at h1; exact h1.elim
    | some w =>
      obtain ⟨C', ns, ps⟩ := w
      simp only [q] at h1
      split at h1
      · rename_i c
        obtain ⟨a, dx, xs, h2, h3, h4, h5⟩ := ins_read S1 r1 q
        have hn : (ns.zip ps).lookup m = none := Option.isNone_iff_eq_none.mp c.2
        exact ⟨a, dx, _, h2, by rw [h3, c.1], (zip_lookup h5).2 hn, hA R ι1 O1 H1 σ s _ S1 (L.ext X1) (h1.bind fun qs O2 vs ι2 H2 S2 X2 r2 h6 => hp R ι2 O2 H2 σ p qs x vs Q S2 (X2.rep r1) r2 h6)⟩
      · exact h1.elim)
theorem sim_methN (ha : SimE K E ta fa) (hA : SimA K E tA fA) (hd : ∀ ι G, RepL K ι G dps dvs) : SimE K E (tMeth (He.ga K C) m (spM K false mf) dvs E0 ta tA) (eMeth C m (noXM mf) dps fa fA) := fun R ι O H σ s Q S L h =>
  meth_core (P := fun x vs H2 Q => spM K false mf (x :: (vs ++ dvs)) H2 Q E0) (sp := fun p ps O => noX (mf (p :: (ps ++ dps)) O)) ha hA (fun R ι O H σ p ps x xs Q S r1 r2 h => spM_F S (.consR r1 (r2.app (hd _ _))) h) R ι O H σ s Q S L h
theorem sim_methX (ha : SimE K none ta fa) (hA : SimA K none tA fA) (hd : ∀ ι G, RepL K ι G dps dvs) : SimE K none (tMethSD (He.ga K C) m (spM K true mf) dvs (fun _ => E0) ta tA) (eMeth C m mf dps fa fA) := fun R ι O H σ s Q S L h =>
  meth_core (P := fun x vs H2 Q => spM K true mf (x :: (vs ++ dvs)) H2 Q E0) (sp := fun p ps O => mf (p :: (ps ++ dps)) O) ha hA (fun R ι O H σ p ps x xs Q S r1 r2 h => spM_T S (.consR r1 (r2.app (hd _ _))) (Post.ofNone h)) R ι O H σ s Q S L h
theorem sim_methS (ha : SimE K (some e) ta fa) (hA : SimA K (some e) tA fA) (hd : ∀ ι G, RepL K ι G dps dvs) : SimE K (some e) (tMethSD (He.ga K C) m (spM K true mf) dvs e ta tA) (eMeth C m mf dps fa fA) := fun R ι O H σ s Q S L h =>
  ha R ι O H σ s _ S L (h.bind fun p O1 x ι1 H1 S1 X1 r1 h1 => by
    cases q : insOf O1 p with
    | none => simp [q] at h1; exact h1.elim
    | some w =>
      obtain ⟨C', ns, ps⟩ := w
      simp only [q] at h1
      split at h1
      · rename_i c
        obtain ⟨a, dx, xs, h2, h3, h4, h5⟩ := ins_read S1 r1 q
        have hn : (ns.zip ps).lookup m = none := Option.isNone_iff_eq_none.mp c.2
        exact ⟨a, dx, _, h2, by rw [h3, c.1], (zip_lookup h5).2 hn, hA R ι1 O1 H1 σ s _ S1 (L.ext X1) (h1.bind fun qs O2 vs ι2 H2 S2 X2 r2 h6 => spM_T S2 (.consR (X2.rep r1) (r2.app (hd _ _))) h6)⟩
      · exact h1.elim)
theorem methK_core {E : XM} {P : V → List V → List V → Hp → L2.St → VK → Prop} {sp : PV → List PV → List PV → Sto → PR PV} {m : Str} {n k : Nat} (ha : SimE K E ta fa) (hA : SimA K E tA fA) (hZ : SimA K E tZ fZ)
    (hp : ∀ R ι O H σ p ps zs x xs ws Q, Sim K R ι O H → Rep K ι (fz R ι O H) p x → RepL K ι (fz R ι O H) ps xs → RepL K ι (fz R ι O H) zs ws → Post K R (xat E σ) (Rep K) ι O H Q (sp p ps zs O) → P x xs ws H σ Q) (R : List (Addr × HO)) (ι : List Addr) (O : Sto) (H : Hp) (σ : L2.St) (s : Slots) (Q : VK) (S : Sim K R ι O H) (L : SlR K ι (fz R ι O H) σ s)
    (h : Post K R (xat E σ) (Rep K) ι O H Q ((fa s O).bind fun p O1 => match insOf O1 p with
      | some (C', ns, qs) => if C' = C ∧ ((ns.zip qs).lookup m).isNone = true then (fA s O1).bind fun ps O2 => (fZ s O2).bind fun zs O3 => if ps.length + 1 = n ∧ zs.length = k then sp p ps zs O3 else .bad else .bad
      | none => .bad)) : ta σ H fun x H1 => ∃ a dx fs, x = .ref a ∧ H1 a = some (.ins (He.ga K C) dx fs) ∧ fs.lookup m = none ∧ tA σ H1 fun vs H2 => tZ σ H2 fun zs H3 => vs.length + 1 = n ∧ zs.length = k ∧ P (.ref a) vs zs H3 σ Q :=
  ha R ι O H σ s _ S L (h.bind fun p O1 x ι1 H1 S1 X1 r1 h1 => by
    cases q : insOf O1 p with
    | none => simp [q] at h1; exact h1.elim
    | some w =>
      obtain ⟨C', ns, ps⟩ := w
      simp only [q] at h1
      split at h1
      · rename_i c
        obtain ⟨a, dx, xs, h2, h3, h4, h5⟩ := ins_read S1 r1 q
        have hn : (ns.zip ps).lookup m = none := Option.isNone_iff_eq_none.mp c.2
        subst h2
        refine ⟨a, dx, _, rfl, by rw [h3, c.1], (zip_lookup h5).2 hn, hA R ι1 O1 H1 σ s _ S1 (L.ext X1) (h1.bind fun qs O2 vs ι2 H2 S2 X2 r2 h6 => hZ R ι2 O2 H2 σ s _ S2 (L.ext (X1.trans X2)) (h6.bind fun zs O3 ws ι3 H3 S3 X3 r3 h7 => ?_))⟩
        split at h7
        · rename_i cc
          exact ⟨by rw [r2.len]; exact cc.1, by rw [r3.len]; exact cc.2, hp R ι3 O3 H3 σ p qs zs _ vs ws Q S3 ((X2.trans X3).rep r1) (X3.repL r2) r3 h7⟩
        · exact h7.elim
      · exact h1.elim)
theorem sim_methKN (ha : SimE K E ta fa) (hA : SimA K E tA fA) (hZ : SimA K E tZ fZ) (hg : ∀ ι G ps vs zs ws, RepL K ι G ps vs → RepL K ι G zs ws → RepL K ι G (gP ps zs) (gV vs ws)) : SimE K E (tMethN (He.ga K C) m n k (spM K false mf) gV E0 ta tA tZ) (eMethK C m (noXM mf) n k gP fa fA fZ) := fun R ι O H σ s Q S L h =>
  methK_core (P := fun x vs zs H2 _ Q => spM K false mf (gV (x :: vs) zs) H2 Q E0) (sp := fun p ps zs O => noX (mf (gP (p :: ps) zs) O)) ha hA hZ (fun R ι O H σ p ps zs x xs ws Q S r1 r2 r3 h => spM_F S (hg _ _ _ _ _ _ (.consR r1 r2) r3) h) R ι O H σ s Q S L h
theorem sim_methKX (ha : SimE K none ta fa) (hA : SimA K none tA fA) (hZ : SimA K none tZ fZ) (hg : ∀ ι G ps vs zs ws, RepL K ι G ps vs → RepL K ι G zs ws → RepL K ι G (gP ps zs) (gV vs ws)) : SimE K none (tMethNS (He.ga K C) m n k (spM K true mf) gV (fun _ => E0) ta tA tZ) (eMethK C m mf n k gP fa fA fZ) := fun R ι O H σ s Q S L h =>
  methK_core (P := fun x vs zs H2 _ Q => spM K true mf (gV (x :: vs) zs) H2 Q E0) (sp := fun p ps zs O => mf (gP (p :: ps) zs) O) ha hA hZ (fun R ι O H σ p ps zs x xs ws Q S r1 r2 r3 h => spM_T S (hg _ _ _ _ _ _ (.consR r1 r2) r3) (Post.ofNone h)) R ι O H σ s Q S L h
theorem sim_methKS (ha : SimE K (some e) ta fa) (hA : SimA K (some e) tA fA) (hZ : SimA K (some e) tZ fZ) (hg : ∀ ι G ps vs zs ws, RepL K ι G ps vs → RepL K ι G zs ws → RepL K ι G (gP ps zs) (gV vs ws)) : SimE K (some e) (tMethNS (He.ga K C) m n k (spM K true mf) gV e ta tA tZ) (eMethK C m mf n k gP fa fA fZ) := fun R ι O H σ s Q S L h =>
  methK_core (P := fun x vs zs H2 σ Q => spM K true mf (gV (x :: vs) zs) H2 Q (e σ)) (sp := fun p ps zs O => mf (gP (p :: ps) zs) O) ha hA hZ (fun R ι O H σ p ps zs x xs ws Q S r1 r2 r3 h => spM_T S (hg _ _ _ _ _ _ (.consR r1 r2) r3) h) R ι O H σ s Q S L h
end
/-! ### a def that may raise -/
theorem spM_runX {K : PySem.W.Frag} {n : Nat} {N : List Str} {body : SF} {vs : List V} {H : Hp} {Q : VK} {E : XK} {t : TS} (hs : SimS K (some fun _ => E) t body) (h : spM K true (mkDef n N.length body) vs H Q E) : t { nx := fun _ H => Q .non H, rt := Q } (L2.start N vs) H := by
  have hl := spM_len h
  obtain ⟨R, ι, O, ps, S, r, h⟩ := h
  have h : Post K R (some E) (Rep K) ι O H Q (mkDef n N.length body ps O) := h
  unfold mkDef at h
  have hp : ps.length = n := by rw [← r.len]; exact hl
  rw [if_pos hp] at h
  have e : L2.start N vs = vs.map some ++ List.replicate (N.length - n) none := by unfold L2.start; rw [hl]
  rw [e]
  refine hs R ι O H _ (ps.map some ++ List.replicate (N.length - n) none) _ S (SlR.start r _) ?_
  cases q : body (ps.map some ++ List.replicate (N.length - n) none) O with
  | next s O' => rw [q] at h; exact fun σ' ι' H' S' X' L' => h .non ι' H' S' X' rfl
  | ret p O' => rw [q] at h; exact h
  | exc e s O' =>
    rw [q] at h
    obtain ⟨E', e1, h⟩ := h
    cases e1
    exact ⟨_, rfl, fun σ' c d ι' H' S' X' L' rx => h c d ι' H' S' X' rx⟩
  | _ => rw [q] at h; exact h.elim
/-! ### raise, try -/
abbrev we (W : WX) : L2.St → XK := fun σ c d H => W c d σ H
def sRaiseP (C : Str) : SF := fun s O => .exc ⟨.cls C, [], []⟩ s O
theorem sim_raiseP {K : PySem.W.Frag} {C : Str} {W : WX} : SimS K (some (we W)) (fun _ σ H => (fun (_ : L2.St) (H : Hp) (Q : XK) => Q (.ref (He.ga K C)) none H) σ H fun cls d H' => W cls d σ H') (sRaiseP C) := fun R ι O H σ s D S L h => by
  obtain ⟨E', e1, h⟩ := h
  cases e1
  exact h σ _ none ι H S .refl L ⟨rfl, [], .inl ⟨rfl, rfl⟩, rfl, rfl⟩
def SR.unset (i : Nat) : SR → SR
  | .next s O => .next (s.set i none) O
  | .brk s O => .brk (s.set i none) O
  | .cnt s O => .cnt (s.set i none) O
  | .ret p O => .ret p O
  | .exc _ _ _ => .bad
  | .bad => .bad
def sTryAs (i : Nat) (cm : Str → Option Bool) (fb fs : SF) : SF := fun s O => match fb s O with
  | .exc ⟨.cls C, ns, ps⟩ s1 O1 => match cm C with
    | some true => (fs (s1.set i (some (.xc C ns ps))) O1).unset i
    | some false => .exc ⟨.cls C, ns, ps⟩ s1 O1
    | none => .bad
  | .exc _ _ _ => .bad
  | r => r
def SR.noX : SR → SR
  | .exc _ _ _ => .bad
  | r => r
def sTryO (cm : Str → Option Bool) (fb fs : SF) : SF := fun s O => match fb s O with
  | .exc ⟨.cls C, ns, ps⟩ s1 O1 => match cm C with
    | some true => (fs s1 O1).noX
    | some false => .exc ⟨.cls C, ns, ps⟩ s1 O1
    | none => .bad
  | .exc _ _ _ => .bad
  | r => r
section
variable {K : PySem.W.Frag} {E : XM} {i : Nat} {cm : Str → Option Bool} {cV : Value} {fb fs : SF} {tb : WX → TS} {ts : TS} {Wout : WX}
theorem sim_tryAs (hE : ∀ e, E = some e → e = we Wout) (hcm : ∀ C b, cm C = some b → PySem.W.exmOne K (.ref (He.ga K C)) cV = some b) (hB : ∀ W, SimS K (some (we W)) (tb W) fb) (hS : SimS K none ts fs) : SimS K E (fun D σ H => tb (wAsT K cV i ts Wout D) D σ H) (sTryAs i cm fb fs) := by
  intro R ι O H σ s D S L h
  refine hB _ R ι O H σ s D S L ?_
  unfold sTryAs at h
  cases q : fb s O with
  | next s1 O1 => simp only [q] at h; exact h
  | ret p O1 => simp only [q] at h; exact h
  | brk s1 O1 => simp only [q] at h; exact h
  | cnt s1 O1 => simp only [q] at h; exact h
  | bad => simp only [q] at h; exact h
  | exc e s1 O1 =>
    obtain ⟨cls, ns, ps⟩ := e
    cases cls with
    | cls C =>
      simp only [q] at h
      cases hc : cm C with
      | none => simp only [hc] at h; exact h.elim
      | some b =>
        refine ⟨_, rfl, fun σ' c d ι' H' S' X' L' rx => ?_⟩
        obtain ⟨ec, xs, xd, ln, rl⟩ := rx
        have ec : c = .ref (He.ga K C) := ec
        refine ⟨b, by rw [ec]; exact hcm C b hc, fun eb a oe hn hz hd => ?_, fun eb => ?_⟩
        · subst eb
          simp only [hc] at h
          obtain ⟨S2, X2, e2⟩ := S'.newF hn (XO a oe)
          have rep : Rep K ι' (fz R ι' O1 (upd H' a (XO a oe))) (.xc C ns ps) (.ref a) := ⟨a, oe, xs, rfl, e2, hz.1.trans ec, hd, by rw [hz.2]; exact xd.mono X2.same, ln, X2.repL rl⟩
          refine hS R ι' O1 _ _ (s1.set i (some (.xc C ns ps))) _ S2 ((L'.ext X2).set i rep) ?_
          cases q2 : fs (s1.set i (some (.xc C ns ps))) O1 with
          | next s2 O2 => simp only [q2, SR.unset] at h; exact fun σ3 ι3 H3 S3 X3 L3 => h _ ι3 H3 S3 (X'.trans (X2.trans X3)) (L3.set0 i)
          | brk s2 O2 => simp only [q2, SR.unset] at h; exact fun σ3 ι3 H3 S3 X3 L3 => h _ ι3 H3 S3 (X'.trans (X2.trans X3)) (L3.set0 i)
          | cnt s2 O2 => simp only [q2, SR.unset] at h; exact fun σ3 ι3 H3 S3 X3 L3 => h _ ι3 H3 S3 (X'.trans (X2.trans X3)) (L3.set0 i)
          | ret p O2 => simp only [q2, SR.unset] at h; exact fun v ι3 H3 S3 X3 r3 => h v ι3 H3 S3 (X'.trans (X2.trans X3)) r3
          | exc e s2 O2 => simp only [q2, SR.unset] at h; exact h.elim
          | bad => simp only [q2, SR.unset] at h; exact h.elim
        · subst eb
          simp only [hc] at h
          obtain ⟨E', e1, h⟩ := h
          have e2 := hE E' e1
          subst e2
          exact h σ' c d ι' H' S' X' L' ⟨ec, xs, xd, ln, rl⟩
    | _ => simp only [q] at h; exact h.elim
theorem sim_tryO {ts' : Addr → Value → Option Addr → TS} (hE : ∀ e, E = some e → e = we Wout) (hcm : ∀ C b, cm C = some b → PySem.W.exmOne K (.ref (He.ga K C)) cV = some b) (hB : ∀ W, SimS K (some (we W)) (tb W) fb) (hS : SimS K none ts fs) : SimS K E (fun D σ H => tb (wOnly K cV (fun _ _ _ => ts) Wout D) D σ H) (sTryO cm fb fs) := by
  intro R ι O H σ s D S L h
  refine hB _ R ι O H σ s D S L ?_
  unfold sTryO at h
  cases q : fb s O with
  | next s1 O1 => simp only [q] at h; exact h
  | ret p O1 => simp only [q] at h; exact h
  | brk s1 O1 => simp only [q] at h; exact h
  | cnt s1 O1 => simp only [q] at h; exact h
  | bad => simp only [q] at h; exact h
  | exc e s1 O1 =>
    obtain ⟨cls, ns, ps⟩ := e
    cases cls with
    | cls C =>
      simp only [q] at h
      cases hc : cm C with
      | none => simp only [hc] at h; exact h.elim
      | some b =>
        refine ⟨_, rfl, fun σ' c d ι' H' S' X' L' rx => ?_⟩
        obtain ⟨ec, rx2⟩ := rx
        have ec : c = .ref (He.ga K C) := ec
        refine ⟨b, by rw [ec]; exact hcm C b hc, fun eb a hn => ?_, fun eb => ?_⟩
        · subst eb
          simp only [hc] at h
          refine hS R ι' O1 _ _ s1 _ S' L' ?_
          cases q2 : fs s1 O1 with
          | next s2 O2 => simp only [q2, SR.noX] at h; exact fun σ3 ι3 H3 S3 X3 L3 => h _ ι3 H3 S3 (X'.trans X3) L3
          | brk s2 O2 => simp only [q2, SR.noX] at h; exact fun σ3 ι3 H3 S3 X3 L3 => h _ ι3 H3 S3 (X'.trans X3) L3
          | cnt s2 O2 => simp only [q2, SR.noX] at h; exact fun σ3 ι3 H3 S3 X3 L3 => h _ ι3 H3 S3 (X'.trans X3) L3
          | ret p O2 => simp only [q2, SR.noX] at h; exact fun v ι3 H3 S3 X3 r3 => h v ι3 H3 S3 (X'.trans X3) r3
          | exc e s2 O2 => simp only [q2, SR.noX] at h; exact h.elim
          | bad => simp only [q2, SR.noX] at h; exact h.elim
        · subst eb
          simp only [hc] at h
          obtain ⟨E', e1, h⟩ := h
          have e2 := hE E' e1
          subst e2
          exact h σ' c d ι' H' S' X' L' ⟨ec, rx2⟩
    | _ => simp only [q] at h; exact h.elim
/-- a call where something is handled -/
theorem sim_callW {tA : TA} {fA : AF} {mf : MF} (hA : SimA K none tA fA) : SimE K none (tCall (spM K false mf) [] E0 tA) (eCall mf [] fA) := sim_call hA fun _ _ => RepL.nilR
end
end Qx

/-! Own layer Xf: new instances whose __init__ may raise; isinstance of exceptions; list.count, list.index; {}. -/
namespace Qx
open PySem PySem.Spec PyProof.Rows L2 Gx
def spIX (K : PySem.W.Frag) (C : Str) (m : List PV → Sto → PR (List Str × List PV)) : Sp := fun vs H Q E => ∃ (x dx : Addr) (us : List V) (R : List (Addr × HO)) (ι : List Addr) (O : Sto) (ps : List PV), vs = .ref x :: us ∧ Sim K (hdI K C x dx [] [] :: R) ι O H ∧ RepL K ι (fz (hdI K C x dx [] [] :: R) ι O H) ps us ∧
  match m ps O with
  | .ok (ns, qs) O' => ∀ ι' H' xs, Sim K (hdI K C x dx ns xs :: R) ι' O' H' → Pre ι ι' → Same (fz (hdI K C x dx [] [] :: R) ι O H) (fz (hdI K C x dx ns xs :: R) ι' O' H') → ns.length = qs.length → RepL K ι' (fz (hdI K C x dx ns xs :: R) ι' O' H') qs xs → Q .non H'
  | .exc e O' => ∀ c d ι' H' ns xs, Sim K (hdI K C x dx ns xs :: R) ι' O' H' → Pre ι ι' → Same (fz (hdI K C x dx [] [] :: R) ι O H) (fz (hdI K C x dx ns xs :: R) ι' O' H') → RepX K ι' (fz (hdI K C x dx ns xs :: R) ι' O' H') e c d → E c d H'
  | .bad => False
def PostBX (K : PySem.W.Frag) (C : Str) (E : XK) (R : List (Addr × HO)) (x dx : Addr) (ι : List Addr) (O : Sto) (H : Hp) (ns : List Str) (xs : List V) (nx : L2.St → Hp → Prop) : BR → Prop
  | .next ns' ps' s' O' => ∀ σ' ι' H' xs', SimI K C R ι' O' H' x dx ns' ps' xs' σ' s' → ExtI K C R x dx ι O H ns xs ι' O' H' ns' xs' → nx σ' H'
  | .exc e O' => ∀ c d ι' H' ns' xs', Sim K (hdI K C x dx ns' xs' :: R) ι' O' H' → ExtI K C R x dx ι O H ns xs ι' O' H' ns' xs' → RepX K ι' (fz (hdI K C x dx ns' xs' :: R) ι' O' H') e c d → E c d H'
  | .bad => False
def SimBX (K : PySem.W.Frag) (C : Str) (E : XK) (t : TS) (g : BF) : Prop := ∀ R ι O H x dx ns ps xs σ s (D : Ends), SimI K C R ι O H x dx ns ps xs σ s → PostBX K C E R x dx ι O H ns xs D.nx (g ns ps s O) → t D σ H
section
variable {K : PySem.W.Frag} {C : Str} {E : XK} {ta : TE} {fa : EF} {tS uS : TS} {f g : BF}
theorem sbx_seq (ha : SimBX K C E tS f) (hb : SimBX K C E uS g) : SimBX K C E (tSeq tS uS) (bSeq f g) := fun R ι O H x dx ns ps xs σ s D I h => ha R ι O H x dx ns ps xs σ s _ I (by
  unfold bSeq at h
  cases e : f ns ps s O with
  | next ns' ps' s' O' =>
    rw [e] at h
    intro σ' ι' H' xs' I' X'
    refine hb R ι' O' H' x dx ns' ps' xs' σ' s' D I' ?_
    have h' : PostBX K C E R x dx ι O H ns xs D.nx (g ns' ps' s' O') := h
    cases e2 : g ns' ps' s' O' with
    | next ns2 ps2 s2 O2 => rw [e2] at h'; exact fun σ2 ι2 H2 xs2 I2 X2 => h' σ2 ι2 H2 xs2 I2 (X'.trans X2)
    | exc e O2 => rw [e2] at h'; exact fun c d ι2 H2 ns2 xs2 S2 X2 r2 => h' c d ι2 H2 ns2 xs2 S2 (X'.trans X2) r2
    | bad => rw [e2] at h'; exact h'.elim
  | exc e O2 => rw [e] at h; exact h
  | bad => rw [e] at h; exact h.elim)
theorem sbx_nil : SimBX K C E tNext bNil := fun R ι O H x dx ns ps xs σ s D I h => h σ ι H xs I ⟨.refl, same_refl⟩
theorem sbx_exp (ha : SimE K (some fun _ => E) ta fa) : SimBX K C E (tDrop ta) (bExp fa) := fun R ι O H x dx ns ps xs σ s D I h => ha _ ι O H σ s _ I.S I.L (by
  unfold bExp at h
  cases e : fa s O with
  | ok p O1 =>
    rw [e] at h
    exact fun v ι' H' S' X' r' => h σ ι' H' xs ⟨S', I.ln, X'.repL I.r, I.s0, I.n0, I.L.ext X'⟩ ⟨X'.pre, X'.same⟩
  | exc x O1 =>
    rw [e] at h
    exact ⟨E, rfl, fun c d ι' H' S' X' rx => h c d ι' H' ns xs S' ⟨X'.pre, X'.same⟩ rx⟩
  | bad => rw [e] at h; exact h.elim)
theorem sbx_fld {f : Str} (c : Cls K (He.ga K C)) (no : NoAttr K (He.ga K C) f) (ha : SimE K (some fun _ => E) ta fa) : SimBX K C E (sFld K (tVar 0) ta f) (bFld f fa) := fun R ι O H x dx ns ps xs σ s D I h => ha _ ι O H σ s _ I.S I.L (by
  unfold bFld at h
  cases e : fa s O with
  | ok p O1 =>
    rw [e] at h
    simp only at h
    split at h
    · exact h.elim
    · rename_i cc
      have c1 : f ∉ ns := fun z => cc (.inl z)
      have c2 : ns.length ≤ 900 := Nat.le_of_not_lt fun z => cc (.inr z)
      intro v ι' H' S' X' r'
      have hx := S'.hid _ List.mem_cons_self
      have hlen : ns.length = xs.length := by rw [I.r.len]; exact I.ln
      refine ⟨.ref x, I.s0, x, _, dx, _, rfl, hx, c, no, ?_, ?_⟩
      · rw [List.length_zip]; omega
      · obtain ⟨S2, e2⟩ := S'.hid_set (.ins (He.ga K C) dx ((ns ++ [f]).zip (xs ++ [v])))
        have e2 : fz (hdI K C x dx (ns ++ [f]) (xs ++ [v]) :: R) ι' O1 (upd H' x (.ins (He.ga K C) dx ((ns ++ [f]).zip (xs ++ [v])))) = fz (hdI K C x dx ns xs :: R) ι' O1 H' := e2
        rw [putF_new hlen c1]
        have er : RepL K ι' (fz (hdI K C x dx (ns ++ [f]) (xs ++ [v]) :: R) ι' O1 (upd H' x (.ins (He.ga K C) dx ((ns ++ [f]).zip (xs ++ [v]))))) (ps ++ [p]) (xs ++ [v]) := by
          have q := (X'.repL I.r).app (.one r')
          rw [← e2] at q
          exact q
        refine h σ ι' _ (xs ++ [v]) ⟨S2, by rw [List.length_append, List.length_append, I.ln]; rfl, er, I.s0, I.n0, ?_⟩ ⟨X'.pre, ?_⟩
        · have q := I.L.ext X'
          rw [← e2] at q
          exact q
        · have q := X'.same
          rw [← e2] at q
          exact q
  | exc x O1 =>
    rw [e] at h
    exact ⟨E, rfl, fun c d ι' H' S' X' rx => h c d ι' H' ns xs S' ⟨X'.pre, X'.same⟩ rx⟩
  | bad => rw [e] at h; exact h.elim)
theorem spIX_len {n N : Nat} {body : BF} {vs : List V} {H : Hp} {Q : VK} {E : XK} (h : spIX K C (mkInit n N body) vs H Q E) : vs.length = n + 1 := by
  obtain ⟨x, dx, us, R, ι, O, ps, e, S, r, h⟩ := h
  unfold mkInit at h
  by_cases c : ps.length = n
  · rw [e, List.length_cons, r.len, c]
  · rw [if_neg c] at h; exact h.elim
theorem spIX_run {n : Nat} {N : List Str} {body : BF} {vs : List V} {H : Hp} {Q : VK} {t : TS} (hs : SimBX K C E t body) (h : spIX K C (mkInit n N.length body) vs H Q E) : t { nx := fun _ H => Q .non H, rt := Q } (L2.start N vs) H := by
  have hl := spIX_len h
  obtain ⟨x, dx, us, R, ι, O, ps, e, S, r, h⟩ := h
  have hp : ps.length = n := by rw [e, List.length_cons, r.len] at hl; omega
  unfold mkInit at h
  rw [if_pos hp] at h
  have e2 : L2.start N vs = some (.ref x) :: (us.map some ++ List.replicate (N.length - (n + 1)) none) := by
    unfold L2.start
    rw [hl, e]
    rfl
  rw [e2]
  refine hs R ι O H x dx [] [] [] _ (none :: ps.map some ++ List.replicate (N.length - (n + 1)) none) _ ⟨S, rfl, rfl, rfl, fun p z => ?_, ?_⟩ ?_
  · simp at z
  · have L := SlR.start (K := K) r (N.length - (n + 1))
    refine ⟨by simp [r.len], fun i p e => ?_⟩
    cases i with
    | zero => simp at e
    | succ i =>
      rw [List.cons_append, List.getElem?_cons_succ] at e
      rw [List.getElem?_cons_succ]
      exact L.2 i p e
  · cases q : body [] [] (none :: ps.map some ++ List.replicate (N.length - (n + 1)) none) O with
    | next ns qs s O' =>
      rw [q] at h
      exact fun σ' ι' H' xs' I' X' => h ι' H' xs' I'.S X'.pre X'.same I'.ln I'.r
    | exc e O' =>
      rw [q] at h
      exact fun c d ι' H' ns' xs' S' X' rx => h c d ι' H' ns' xs' S' X'.pre X'.same rx
    | bad => rw [q] at h; exact h.elim
end
section
variable {K : PySem.W.Frag} {E : XM} {e : L2.St → XK} {C : Str} {tA tZ : TA} {fA fZ : AF} {m : List PV → Sto → PR (List Str × List PV)} {dps : List PV} {dvs : List V} {n k : Nat} {gP : List PV → List PV → List PV} {gV : List V → List V → List V} {mf : MF}
theorem mkX_core {R : List (Addr × HO)} {ι : List Addr} {O : Sto} {H : Hp} {ps : List PV} {us : List V} {Q : VK} {E : XK} {x dx : Addr} (S : Sim K R ι O H) (r : RepL K ι (fz R ι O H) ps us) (h : Post K R (some E) (Rep K) ι O H Q (mkIns C (m ps O))) (hx : H x = none) (hdx : H dx = none) (ne : dx ≠ x) :
    spIX K C m (.ref x :: us) (upd (upd H dx (.own x)) x (.ins (He.ga K C) dx [])) (fun v H2 => v = .non ∧ Q (.ref x) H2) E := by
  obtain ⟨S1, X1, _⟩ := S.newF hdx (.own x)
  obtain ⟨S2, e2⟩ := S1.hide_new (D := x) (by rw [upd_ne fun e => ne e.symm]; exact hx) (.ins (He.ga K C) dx [])
  have sm : Same (fz R ι O H) (fz (hdI K C x dx [] [] :: R) ι O (upd (upd H dx (.own x)) x (.ins (He.ga K C) dx []))) := by
    have q := X1.same
    rw [← e2] at q
    exact q
  refine ⟨x, dx, us, R, ι, O, ps, rfl, S2, r.mono .refl sm, ?_⟩
  cases e : m ps O with
  | bad => rw [e] at h; exact h.elim
  | exc e O' =>
    rw [e] at h
    obtain ⟨_, z, h⟩ := h
    cases z
    intro c d ι' H' ns xs S' pre sm' rx
    obtain ⟨S3, sm3, e3⟩ := S'.unhide
    exact h c d ι' H' S3 ⟨pre, same_trans sm (same_trans sm' sm3)⟩ (rx.mono .refl sm3)
  | ok w O' =>
    obtain ⟨ns, qs⟩ := w
    rw [e] at h
    intro ι' H' xs S' pre sm' ln r'
    obtain ⟨S3, sm3, e3⟩ := S'.unhide
    refine ⟨rfl, h (.ref x) ι' H' S3 ⟨pre, same_trans sm (same_trans sm' sm3)⟩ ⟨x, dx, xs, rfl, e3, ln, r'.mono .refl sm3⟩⟩
theorem mkN_core {R : List (Addr × HO)} {ι : List Addr} {O : Sto} {H : Hp} {ps : List PV} {us : List V} {Q : VK} {E : XK} {E' : Option XK} {x dx : Addr} (S : Sim K R ι O H) (r : RepL K ι (fz R ι O H) ps us) (h : Post K R E' (Rep K) ι O H Q (mkIns C (noX (m ps O)))) (hx : H x = none) (hdx : H dx = none) (ne : dx ≠ x) :
    spI K C m (.ref x :: us) (upd (upd H dx (.own x)) x (.ins (He.ga K C) dx [])) (fun v H2 => v = .non ∧ Q (.ref x) H2) E := by
  refine mk_core S r ?_ hx hdx ne
  cases q : m ps O with
  | ok w O' => rw [q] at h; exact h
  | exc e O' => rw [q] at h; exact h.elim
  | bad => rw [q] at h; exact h.elim
theorem sim_makeN (hA : SimA K E tA fA) (hd : ∀ ι G, RepL K ι G dps dvs) : SimE K E (tMake (He.ga K C) (spI K C m) dvs E0 tA) (eMake C (noXM m) dps fA) := fun R ι O H σ s Q S L h =>
  hA R ι O H σ s _ S L (h.bind fun ps O1 xs ι1 H1 S1 X1 r1 h1 => fun x dx hx hdx ne => mkN_core S1 (r1.app (hd _ _)) h1 hx hdx ne)
theorem sim_makeX (hA : SimA K none tA fA) (hd : ∀ ι G, RepL K ι G dps dvs) : SimE K none (tMakeSD (He.ga K C) (spIX K C m) dvs (fun _ => E0) tA) (eMake C m dps fA) := fun R ι O H σ s Q S L h =>
  hA R ι O H σ s _ S L (h.bind fun ps O1 xs ι1 H1 S1 X1 r1 h1 => fun x dx hx hdx ne => mkX_core S1 (r1.app (hd _ _)) h1.ofNone hx hdx ne)
theorem sim_makeS (hA : SimA K (some e) tA fA) (hd : ∀ ι G, RepL K ι G dps dvs) : SimE K (some e) (tMakeSD (He.ga K C) (spIX K C m) dvs e tA) (eMake C m dps fA) := fun R ι O H σ s Q S L h =>
  hA R ι O H σ s _ S L (h.bind fun ps O1 xs ι1 H1 S1 X1 r1 h1 => fun x dx hx hdx ne => mkX_core S1 (r1.app (hd _ _)) h1 hx hdx ne)
theorem sim_makeKN (hA : SimA K E tA fA) (hZ : SimA K E tZ fZ) (hg : ∀ x ι G ps vs zs ws, RepL K ι G ps vs → RepL K ι G zs ws → ∃ us, gV (.ref x :: vs) ws = .ref x :: us ∧ RepL K ι G (gP ps zs) us) : SimE K E (tMakeN (He.ga K C) n k (spI K C m) gV E0 tA tZ) (eMakeK C (noXM m) n k gP fA fZ) := fun R ι O H σ s Q S L h =>
  hA R ι O H σ s _ S L (h.bind fun ps O1 xs ι1 H1 S1 X1 r1 h1 => hZ R ι1 O1 H1 σ s _ S1 (L.ext X1) (h1.bind fun zs O2 ws ι2 H2 S2 X2 r2 h2 => by
    split at h2
    · rename_i c
      refine ⟨by rw [r1.len]; exact c.1, by rw [r2.len]; exact c.2, fun x dx hx hdx ne => ?_⟩
      obtain ⟨us, e, r3⟩ := hg x _ _ ps xs zs ws (X2.repL r1) r2
      rw [e]
      exact mkN_core S2 r3 h2 hx hdx ne
    · exact h2.elim))
theorem sim_makeKX (hA : SimA K none tA fA) (hZ : SimA K none tZ fZ) (hg : ∀ x ι G ps vs zs ws, RepL K ι G ps vs → RepL K ι G zs ws → ∃ us, gV (.ref x :: vs) ws = .ref x :: us ∧ RepL K ι G (gP ps zs) us) : SimE K none (tMakeNS (He.ga K C) n k (spIX K C m) gV (fun _ => E0) tA tZ) (eMakeK C m n k gP fA fZ) := fun R ι O H σ s Q S L h =>
  hA R ι O H σ s _ S L (h.bind fun ps O1 xs ι1 H1 S1 X1 r1 h1 => hZ R ι1 O1 H1 σ s _ S1 (L.ext X1) (h1.bind fun zs O2 ws ι2 H2 S2 X2 r2 h2 => by
    split at h2
    · rename_i c
      refine ⟨by rw [r1.len]; exact c.1, by rw [r2.len]; exact c.2, fun x dx hx hdx ne => ?_⟩
      obtain ⟨us, e, r3⟩ := hg x _ _ ps xs zs ws (X2.repL r1) r2
      rw [e]
      exact mkX_core S2 r3 h2.ofNone hx hdx ne
    · exact h2.elim))
theorem sim_makeKS (hA : SimA K (some e) tA fA) (hZ : SimA K (some e) tZ fZ) (hg : ∀ x ι G ps vs zs ws, RepL K ι G ps vs → RepL K ι G zs ws → ∃ us, gV (.ref x :: vs) ws = .ref x :: us ∧ RepL K ι G (gP ps zs) us) : SimE K (some e) (tMakeNS (He.ga K C) n k (spIX K C m) gV e tA tZ) (eMakeK C m n k gP fA fZ) := fun R ι O H σ s Q S L h =>
  hA R ι O H σ s _ S L (h.bind fun ps O1 xs ι1 H1 S1 X1 r1 h1 => hZ R ι1 O1 H1 σ s _ S1 (L.ext X1) (h1.bind fun zs O2 ws ι2 H2 S2 X2 r2 h2 => by
    split at h2
    · rename_i c
      refine ⟨by rw [r1.len]; exact c.1, by rw [r2.len]; exact c.2, fun x dx hx hdx ne => ?_⟩
      obtain ⟨us, e, r3⟩ := hg x _ _ ps xs zs ws (X2.repL r1) r2
      rw [e]
      exact mkX_core S2 r3 h2 hx hdx ne
    · exact h2.elim))
/-! things that change -/
theorem sim_makeON (hA : SimA K E tA fA) (hd : ∀ ι G, RepL K ι G dps dvs) : SimE K E (tMake (He.ga K C) (spM K false mf) dvs E0 tA) (eMakeO C mf dps fA) := fun R ι O H σ s Q S L h =>
  hA R ι O H σ s _ S L (h.bind fun ps O1 xs ι1 H1 S1 X1 r1 h1 => fun x dx hx hdx ne => by
    obtain ⟨S2, X2, _⟩ := S1.newF hdx (.own x)
    obtain ⟨S3, X3⟩ := S2.newO (D := x) (p := .ins C [] []) (by rw [upd_ne fun e => ne e.symm]; exact hx) (o := .ins (He.ga K C) dx []) ⟨dx, [], rfl, rfl, rfl⟩
    have X := X2.trans X3
    refine ⟨R, _, _, .loc O1.length :: (ps ++ dps), S3, .consR (show Rep K _ _ (.loc O1.length) _ from ⟨x, rfl, new_at S1.len⟩) ((X.repL r1).app (hd _ _)), ?_⟩
    refine Post.noX (E := xat E σ) (Post.bind (Post.of X h1) fun r O2 v ι2 H2 S4 X4 r2 h2 => ?_)
    cases r with
    | non => exact ⟨r2, h2.here S4 ⟨x, rfl, X4.pre _ _ (new_at S1.len)⟩⟩
    | _ => exact h2.elim)
def eMakeOX (C : Str) (m : MF) (dps : List PV) (a : AF) : EF := fun s O => (a s O).bind fun ps O1 => (m (.loc O1.length :: (ps ++ dps)) (O1 ++ [some (.ins C [] [])])).bind fun r O2 => match r with
  | .non => .ok (.loc O1.length) O2
  | _ => .bad
theorem mkO_core {R : List (Addr × HO)} {ι1 : List Addr} {O1 : Sto} {H1 : Hp} {ps : List PV} {xs : List V} {Q : VK} {E : XK} {x dx : Addr} (S1 : Sim K R ι1 O1 H1) (r : RepL K ι1 (fz R ι1 O1 H1) ps xs) (h1 : Post K R (some E) (Rep K) ι1 O1 H1 Q ((mf (.loc O1.length :: ps) (O1 ++ [some (.ins C [] [])])).bind fun r O2 => match r with
    | .non => .ok (.loc O1.length) O2
    | _ => .bad)) (hx : H1 x = none) (hdx : H1 dx = none) (ne : dx ≠ x) :
    spM K true mf (.ref x :: xs) (upd (upd H1 dx (.own x)) x (.ins (He.ga K C) dx [])) (fun v H2 => v = .non ∧ Q (.ref x) H2) E := by
  obtain ⟨S2, X2, _⟩ := S1.newF hdx (.own x)
  obtain ⟨S3, X3⟩ := S2.newO (D := x) (p := .ins C [] []) (by rw [upd_ne fun e => ne e.symm]; exact hx) (o := .ins (He.ga K C) dx []) ⟨dx, [], rfl, rfl, rfl⟩
  have X := X2.trans X3
  refine ⟨R, _, _, .loc O1.length :: ps, S3, .consR (show Rep K _ _ (.loc O1.length) _ from ⟨x, rfl, new_at S1.len⟩) (X.repL r), ?_⟩
  refine Post.bind (E := some E) (Post.of X h1) fun r O2 v ι2 H2 S4 X4 r2 h2 => ?_
  cases r with
  | non => exact ⟨r2, h2.here S4 ⟨x, rfl, X4.pre _ _ (new_at S1.len)⟩⟩
  | _ => exact h2.elim
theorem sim_makeOX (hA : SimA K none tA fA) (hd : ∀ ι G, RepL K ι G dps dvs) : SimE K none (tMakeSD (He.ga K C) (spM K true mf) dvs (fun _ => E0) tA) (eMakeOX C mf dps fA) := fun R ι O H σ s Q S L h =>
  hA R ι O H σ s _ S L (h.bind fun ps O1 xs ι1 H1 S1 X1 r1 h1 => fun x dx hx hdx ne => mkO_core S1 (r1.app (hd _ _)) h1.ofNone hx hdx ne)
theorem sim_makeOS (hA : SimA K (some e) tA fA) (hd : ∀ ι G, RepL K ι G dps dvs) : SimE K (some e) (tMakeSD (He.ga K C) (spM K true mf) dvs e tA) (eMakeOX C mf dps fA) := fun R ι O H σ s Q S L h =>
  hA R ι O H σ s _ S L (h.bind fun ps O1 xs ι1 H1 S1 X1 r1 h1 => fun x dx hx hdx ne => mkO_core S1 (r1.app (hd _ _)) h1 hx hdx ne)
end
end Qx

/-! Own layer Xg: what the head tells of exception classes; isinstance; count, index; {}. -/
namespace Qx
open PySem PySem.Spec PyProof.Rows L2 Gx
def xnOf : PV → Option XN
  | .cls C => some (.own C)
  | .ty n => some (.blt n)
  | _ => none
structure XcF (K : PySem.W.Frag) (C : Str) : Prop where
  c : XcC K (He.ga K C)
  kp : PySem.W.keepIn K (.ref (He.ga K C)) = true
  ty : PySem.W.typeIn K (.ref (He.ga K C)) = some (.type "type")
theorem XcF.of {K : PySem.W.Frag} {C : Str} (h : xcOne K C = true) : XcF K C := by
  unfold xcOne at h
  obtain ⟨h1, h⟩ := Bool.and_eq_true_iff.mp h
  obtain ⟨h2, h⟩ := Bool.and_eq_true_iff.mp h
  obtain ⟨h3, h⟩ := Bool.and_eq_true_iff.mp h
  obtain ⟨h4, h⟩ := Bool.and_eq_true_iff.mp h
  obtain ⟨h5, h⟩ := Bool.and_eq_true_iff.mp h
  obtain ⟨h6, h⟩ := Bool.and_eq_true_iff.mp h
  obtain ⟨h7, h⟩ := Bool.and_eq_true_iff.mp h
  obtain ⟨h8, h⟩ := Bool.and_eq_true_iff.mp h
  obtain ⟨h9, h10⟩ := Bool.and_eq_true_iff.mp h
  refine ⟨⟨⟨He.eqO_ok h1, He.eqO_ok h2, of_decide_eq_true h3, h4, He.eqO_ok h5, He.eqO_ok h6, of_decide_eq_true h7, of_decide_eq_true h8⟩, ?_⟩, h9, of_decide_eq_true h10⟩
  unfold PySem.W.hasDictIn at h4
  cases q : PySem.W.clsIn K (He.ga K C) with
  | none => rw [q] at h4; cases h4
  | some _ => rfl
theorem XcF.raises {X : Cx} {C : Str} (h : XcF X.K C) : Raises X (.ref (He.ga X.K C)) := raises_own h.c.e.hs h.ty
structure XkK (K : PySem.W.Frag) (xt : List (Str × List XN)) (xa xm : List XN) : Prop where
  c : ∀ w ∈ xt, XcF K w.1
  kit : ∀ w ∈ xt, ∀ q ∈ xa, PySem.W.kitOne K (.ref (He.ga K w.1)) (xv K q) = some (decide (q ∈ w.2))
  exm : ∀ w ∈ xt, ∀ q ∈ xm, PySem.W.exmOne K (.ref (He.ga K w.1)) (xv K q) = some (decide (q ∈ w.2))
  non : ∀ q ∈ xa, PySem.W.kitOne K (.type "NoneType") (xv K q) = some false
theorem XkK.of {K : PySem.W.Frag} {xt : List (Str × List XN)} {xa xm : List XN} (h : xkAll K xt xa xm = true) : XkK K xt xa xm := by
  unfold xkAll at h
  obtain ⟨h1, h2⟩ := Bool.and_eq_true_iff.mp h
  have one : ∀ w ∈ xt, xkOne K xa xm w = true := fun w hw => List.all_eq_true.mp h1 w hw
  refine ⟨fun w hw => ?_, fun w hw q hq => ?_, fun w hw q hq => ?_, fun q hq => of_decide_eq_true (List.all_eq_true.mp h2 q hq)⟩
  · have o := one w hw
    unfold xkOne at o
    exact XcF.of (Bool.and_eq_true_iff.mp o).1
  · have o := one w hw
    unfold xkOne at o
    exact of_decide_eq_true (List.all_eq_true.mp (Bool.and_eq_true_iff.mp (Bool.and_eq_true_iff.mp o).2).1 q hq)
  · have o := one w hw
    unfold xkOne at o
    exact of_decide_eq_true (List.all_eq_true.mp (Bool.and_eq_true_iff.mp (Bool.and_eq_true_iff.mp o).2).2 q hq)
/-- what a clause except X takes -/
def cmX (xt : List (Str × List XN)) (q : XN) (C : Str) : Option Bool := (xt.lookup C).map fun l => decide (q ∈ l)
theorem lookup_mem {α : Type} {C : Str} {l : α} : ∀ {xt : List (Str × α)}, xt.lookup C = some l → (C, l) ∈ xt
  | [], h => by cases h
  | (D, m) :: xt, h => by
    rw [List.lookup_cons] at h
    by_cases c : C = D
    · subst c
      simp only [beq_self_eq_true] at h
      cases h
      exact List.mem_cons_self
    · have q : (C == D) = false := by simpa using c
      simp only [q] at h
      exact List.mem_cons_of_mem _ (lookup_mem h)
theorem XkK.cm {K : PySem.W.Frag} {xt : List (Str × List XN)} {xa xm : List XN} {q : XN} (k : XkK K xt xa xm) (hq : q ∈ xm) : ∀ C b, cmX xt q C = some b → PySem.W.exmOne K (.ref (He.ga K C)) (xv K q) = some b := fun C b h => by
  unfold cmX at h
  obtain ⟨l, h1, h2⟩ := Option.map_eq_some_iff.mp h
  rw [← h2]
  exact k.exm _ (lookup_mem h1) q hq
/-! isinstance -/
def rIsA (K : PySem.W.Frag) (xs : List V) (H : Hp) (Q : VK) : Prop := rIsi K xs H Q ∨ rIsX K xs H Q
theorem x_isa {X : Cx} {K : PySem.W.Frag} (hk : X.K = K) : CallR X (.builtin "isinstance") (rIsA K) := by
  subst hk
  intro pins s σ H xs us Q I r h
  rcases h with h | h
  · exact call_isi pins s σ H xs us Q I r h
  · exact call_isX pins s σ H xs us Q I r h
theorem xc_read {K : PySem.W.Frag} {R : List (Addr × HO)} {ι : List Addr} {O : Sto} {H : Hp} {C : Str} {ns : List Str} {ps : List PV} {x : V} (S : Sim K R ι O H) (r : Rep K ι (fz R ι O H) (.xc C ns ps) x) : ∃ a oe, x = .ref a ∧ H a = some (XO a oe) ∧ oe.cls = .ref (He.ga K C) ∧ (∃ w, oe.data = .fields w) ∧ XDct H oe := by
  obtain ⟨a, oe, xs, h1, h2, h3, h4, h5, _⟩ := r
  refine ⟨a, oe, h1, S.frozen _ _ h2, h3, h4, ?_⟩
  rcases h5 with ⟨h5, _⟩ | ⟨dd, h5, h6⟩
  · exact .inl h5
  · exact .inr ⟨dd, _, h5, S.frozen _ _ h6⟩
def isxP (xt : List (Str × List XN)) (xa : List XN) : List PV → Sto → PR PV := b2 fun p c O => match xnOf c with
  | some q => if xa.contains q = true then match p with
    | .xc C _ _ => match xt.lookup C with
      | some l => .ok (.bl (decide (q ∈ l))) O
      | none => .bad
    | .non => .ok (.bl false) O
    | _ => .bad else .bad
  | none => .bad
theorem cb_isx {K : PySem.W.Frag} {xt : List (Str × List XN)} {xa xm : List XN} (k : XkK K xt xa xm) : CbS K (rIsA K) (isxP xt xa) := cb_2 fun R ι O H p q x y E Q S r1 r2 h => by
  cases e : xnOf q with
  | none => simp [e] at h; exact h.elim
  | some n =>
    simp only [e] at h
    split at h
    · rename_i hc
      have hq := List.contains_iff_mem.mp hc
      have cl : ClsV y (xv K n) := by
        cases q <;> first | cases e | skip
        · rw [show y = .ty _ from r2]; exact .ty _
        · rw [show y = .ref _ from r2]; exact .own _
      cases p with
      | xc C ns ps =>
        simp only at h
        cases e2 : xt.lookup C with
        | none => simp [e2] at h; exact h.elim
        | some l =>
          simp only [e2] at h
          obtain ⟨a, oe, h1, h2, h3, h4, h5⟩ := xc_read S r1
          have m := lookup_mem e2
          exact .inr ⟨a, He.ga K C, oe, y, _, _, by rw [h1], cl, h2, h3, h4, h5, (k.c _ m).c, k.kit _ m n hq, h.here S rfl⟩
      | non =>
        have e3 : x = .non := r1
        exact .inl ⟨x, y, .type "NoneType", _, false, rfl, cl, by rw [e3]; exact .base .non, k.non n hq, h.here S rfl⟩
      | _ => exact h.elim
    · exact h.elim
/-! isinstance(x, (A, B, ..)) -/
theorem kitAny_cons {K : PySem.W.Frag} {t c : Value} {cs : List Value} : PySem.W.kitAny K t (c :: cs) = (match PySem.W.kitOne K t c with
  | some true => some true
  | some false => PySem.W.kitAny K t cs
  | none => none) := by
  rfl
end Qx

/-! Own layer Xh: isinstance with a tuple of classes; fields of exceptions; count, index; {}. -/
namespace Qx
open PySem PySem.Spec PyProof.Rows L2 Gx
def rIsAT (K : PySem.W.Frag) (xs : List V) (H : Hp) (Q : VK) : Prop := rIsiT K xs H Q ∨ rIsXT K xs H Q
theorem x_isaT {X : Cx} {K : PySem.W.Frag} (hk : X.K = K) : CallR X (.builtin "isinstance") (rIsAT K) := by
  subst hk
  intro pins s σ H xs us Q I r h
  rcases h with h | h
  · exact call_isiT pins s σ H xs us Q I r h
  · exact call_isXT pins s σ H xs us Q I r h
def eIsT (f : PV → List PV → Sto → PR PV) (fe : EF) (fA : AF) : EF := fun s O => (fe s O).bind fun p O1 => (fA s O1).bind fun ps O2 => if szOk ps.length = true then f p ps O2 else .bad
def IsTS (K : PySem.W.Frag) (f : PV → List PV → Sto → PR PV) : Prop := ∀ R ι O H p x ps us tp E Q, Sim K R ι O H → Rep K ι (fz R ι O H) p x → RepL K ι (fz R ι O H) ps us → H tp = some (.tup us) → Post K R E (Rep K) ι O H Q (f p ps O) → rIsAT K [x, .ref tp] H Q
theorem sim_isT {K : PySem.W.Frag} {E : XM} {f : PV → List PV → Sto → PR PV} {te : TE} {fe : EF} {tA : TA} {fA : AF} (hf : IsTS K f) (he : SimE K E te fe) (hA : SimA K E tA fA) : SimE K E (tCB (rIsAT K) (tCons te (tCons (tTup tA) tNil))) (eIsT f fe fA) := fun R ι O H σ s Q S L h =>
  he R ι O H σ s _ S L (h.bind fun p O1 x ι1 H1 S1 X1 r1 h1 => hA R ι1 O1 H1 σ s _ S1 (L.ext X1) (h1.bind fun ps O2 us ι2 H2 S2 X2 r2 h2 => by
    split at h2
    · rename_i c
      refine ⟨by rw [r2.len]; exact szOk_le c, fun tp hp => ?_⟩
      obtain ⟨S3, X3, e3⟩ := S2.newF hp (.tup us)
      exact hf R ι2 O2 _ p x ps us tp _ Q S3 (X3.rep (X2.rep r1)) (X3.repL r2) upd_same (Post.of X3 h2)
    · exact h2.elim))
def xnsOf : List PV → Option (List XN)
  | [] => some []
  | p :: ps => match xnOf p, xnsOf ps with
    | some q, some qs => some (q :: qs)
    | _, _ => none
theorem xn_cls {K : PySem.W.Frag} {ι : List Addr} {G : Hp} {p : PV} {v : V} {q : XN} (e : xnOf p = some q) (r : Rep K ι G p v) : ClsV v (xv K q) := by
  cases p <;> first | cases e | skip
  · rw [show v = .ty _ from r]; exact .ty _
  · rw [show v = .ref _ from r]; exact .own _
theorem xns_cls {K : PySem.W.Frag} {ι : List Addr} {G : Hp} : ∀ {ps : List PV} {vs : List V} {qs : List XN}, xnsOf ps = some qs → RepL K ι G ps vs → Paired ClsV vs (qs.map (xv K))
  | [], vs, qs, e, r => by cases e; rw [show vs = [] from r]; exact .nil
  | p :: ps, vs, qs, e, r => by
    obtain ⟨v, t, e1, r1, r2⟩ := r
    unfold xnsOf at e
    cases e2 : xnOf p with
    | none => simp [e2] at e
    | some q =>
      cases e3 : xnsOf ps with
      | none => simp [e2, e3] at e
      | some qs' =>
        simp only [e2, e3, Option.some.injEq] at e
        subst e
        subst e1
        exact .cons (xn_cls e2 r1) (xns_cls e3 r2)
theorem kitAny_of {K : PySem.W.Frag} {t : Value} {f : XN → Bool} : ∀ {qs : List XN}, (∀ q ∈ qs, PySem.W.kitOne K t (xv K q) = some (f q)) → PySem.W.kitAny K t (qs.map (xv K)) = some (qs.any f)
  | [], _ => rfl
  | q :: qs, h => by
    rw [List.map_cons, kitAny_cons, h q List.mem_cons_self, List.any_cons]
    cases f q with
    | true => rfl
    | false => exact kitAny_of fun q' hq => h q' (List.mem_cons_of_mem _ hq)
def isxTP (xt : List (Str × List XN)) (xa : List XN) (p : PV) (ps : List PV) (O : Sto) : PR PV := match xnsOf ps with
  | some qs => if (qs.all fun q => xa.contains q) = true then match p with
    | .xc C _ _ => match xt.lookup C with
      | some l => .ok (.bl (qs.any fun q => decide (q ∈ l))) O
      | none => .bad
    | .non => .ok (.bl false) O
    | _ => .bad else .bad
  | none => .bad
theorem it_isx {K : PySem.W.Frag} {xt : List (Str × List XN)} {xa xm : List XN} (k : XkK K xt xa xm) : IsTS K (isxTP xt xa) := by
  intro R ι O H p x ps us tp E Q S r1 r2 ht h
  unfold isxTP at h
  cases e : xnsOf ps with
  | none => simp [e] at h; exact h.elim
  | some qs =>
    simp only [e] at h
    split at h
    · rename_i hc
      have hq : ∀ q ∈ qs, q ∈ xa := fun q hq => List.contains_iff_mem.mp (List.all_eq_true.mp hc q hq)
      cases p with
      | xc C ns ps' =>
        simp only at h
        cases e2 : xt.lookup C with
        | none => simp [e2] at h; exact h.elim
        | some l =>
          simp only [e2] at h
          obtain ⟨a, oe, h1, h2, h3, h4, h5⟩ := xc_read S r1
          have m := lookup_mem e2
          exact .inr ⟨a, He.ga K C, tp, oe, us, _, _, by rw [h1], ht, xns_cls e r2, h2, h3, h4, h5, (k.c _ m).c, kitAny_of fun q hh => k.kit _ m q (hq q hh), h.here S rfl⟩
      | non =>
        have e3 : x = .non := r1
        refine .inl ⟨x, tp, us, .type "NoneType", _, false, rfl, ht, xns_cls e r2, by rw [e3]; exact .base .non, ?_, h.here S rfl⟩
        rw [kitAny_of (f := fun _ => false) fun q hh => k.non q (hq q hh)]
        congr 1
        simp
      | _ => exact h.elim
    · exact h.elim
/-- of things of other kinds -/
def kitPs (cs : List Str) (t : Sum String Str) : List PV → Option Bool
  | [] => some false
  | c :: r => match kitP cs t c with
    | some true => some true
    | some false => kitPs cs t r
    | none => none
def isiTP (cs : List Str) (p : PV) (ps : List PV) (O : Sto) : PR PV := match tyOf O p with
  | some t => if ps.length ≠ 0 ∧ (ps.all fun c => (kitP cs t c).isSome) = true then match kitPs cs t ps with
    | some b => .ok (.bl b) O
    | none => .bad else .bad
  | none => .bad
theorem kits_read {K : PySem.W.Frag} {cs : List Str} (ck : ClsK K cs) {ι : List Addr} {G : Hp} {t : Sum String Str} : ∀ {ps : List PV} {vs : List V} {b : Bool}, (ps.all fun c => (kitP cs t c).isSome) = true → kitPs cs t ps = some b → RepL K ι G ps vs → ∃ us, Paired ClsV vs us ∧ PySem.W.kitAny K (tyV' K t) us = some b
  | [], vs, b, _, e, r => by cases e; rw [show vs = [] from r]; exact ⟨[], .nil, rfl⟩
  | c :: ps, vs, b, ha, e, r => by
    obtain ⟨v, w, e1, r1, r2⟩ := r
    subst e1
    obtain ⟨ha1, ha2⟩ := Bool.and_eq_true_iff.mp (show ((kitP cs t c).isSome && ps.all fun c => (kitP cs t c).isSome) = true from ha)
    unfold kitPs at e
    obtain ⟨k, e2⟩ := Option.isSome_iff_exists.mp ha1
    obtain ⟨_, u, h1, h2⟩ := kit_read ck e2 r1
    have rest : ∃ b' us, Paired ClsV w us ∧ kitPs cs t ps = some b' ∧ PySem.W.kitAny K (tyV' K t) us = some b' := by
      have : ∃ b', kitPs cs t ps = some b' := by
        clear e r2
        induction ps with
        | nil => exact ⟨false, rfl⟩
        | cons c' ps ih =>
          obtain ⟨g1, g2⟩ := Bool.and_eq_true_iff.mp (show ((kitP cs t c').isSome && ps.all fun c => (kitP cs t c).isSome) = true from ha2)
          obtain ⟨k', e3⟩ := Option.isSome_iff_exists.mp g1
          unfold kitPs
          rw [e3]
          cases k' with
          | true => exact ⟨true, rfl⟩
          | false => exact ih (by rw [List.all_cons, ha1, Bool.true_and]; exact g2) g2
      obtain ⟨b', e4⟩ := this
      obtain ⟨us, h3, h4⟩ := kits_read ck ha2 e4 r2
      exact ⟨b', us, h3, e4, h4⟩
    obtain ⟨b', us, h3, h4, h5⟩ := rest
    refine ⟨u :: us, .cons h1 h3, ?_⟩
    rw [kitAny_cons, h2]
    rw [e2] at e
    cases k with
    | true => exact e
    | false => simp only at e ⊢; rw [h5, ← h4]; exact e
theorem it_isi {K : PySem.W.Frag} {cs : List Str} (ck : ClsK K cs) : IsTS K (isiTP cs) := by
  intro R ι O H p x ps us tp E Q S r1 r2 ht h
  unfold isiTP at h
  cases e : tyOf O p with
  | none => simp [e] at h; exact h.elim
  | some t =>
    simp only [e] at h
    split at h
    · rename_i hc
      cases e2 : kitPs cs t ps with
      | none => simp [e2] at h; exact h.elim
      | some b =>
        simp only [e2] at h
        obtain ⟨vs, h1, h2⟩ := kits_read ck hc.2 e2 r2
        have tc : ∀ C, t = .inr C → C ∈ cs := fun C ec => by
          match ps, hc with
          | c :: r, hc =>
            obtain ⟨k, e3⟩ := Option.isSome_iff_exists.mp (Bool.and_eq_true_iff.mp (show ((kitP cs t c).isSome && r.all fun c => (kitP cs t c).isSome) = true from hc.2)).1
            obtain ⟨v, w, _, r3, _⟩ := r2
            exact (kit_read ck e3 r3).1 C ec
        exact .inl ⟨x, tp, us, _, _, b, rfl, ht, h1, ty_read ck S r1 e tc, h2, h.here S rfl⟩
    · exact h.elim
/-! ### list.count, list.index -/
theorem scV_flat {p : PV} {v : V} (e : scV p = some v) : flatV v = true := by
  cases p <;> first | (cases e; rfl) | cases e
theorem scVs_flat : ∀ {ps : List PV} {vs : List V}, scVs ps = some vs → vs.all flatV = true
  | [], vs, e => by cases e; rfl
  | p :: ps, vs, e => by
    unfold scVs at e
    cases e1 : scV p with
    | none => simp [e1] at e
    | some v =>
      cases e2 : scVs ps with
      | none => simp [e1, e2] at e
      | some ws =>
        simp only [e1, e2, Option.some.injEq] at e
        subst e
        rw [List.all_cons, scV_flat e1, scVs_flat e2]; rfl
def countP (p : PV) (qs : List PV) (O : Sto) : PR PV := match (lstOf O p).bind scVs, qs with
  | some vs, [q] => match scV q with
    | some v => .ok (.int ((vs.countP fun z => eqV z v : Nat) : Int)) O
    | none => .bad
  | _, _ => .bad
def indexP (p : PV) (qs : List PV) (O : Sto) : PR PV := match (lstOf O p).bind scVs, qs with
  | some vs, [q] => match scV q with
    | some v => match vs.findIdx? fun z => eqV z v with
      | some j => .ok (.int (j : Nat)) O
      | none => .bad
    | none => .bad
  | _, _ => .bad
theorem ml_count {K : PySem.W.Frag} : MtP K (rCntV K) countP := by
  intro R ι O H p qs x ys E Q S r1 r2 h
  unfold countP at h
  cases e : (lstOf O p).bind scVs with
  | none => simp [e] at h; exact h.elim
  | some vs =>
    match qs, h, r2 with
    | [q], h, ⟨y, t, e2, r3, e3⟩ =>
      cases e3
      subst e2
      simp only [e] at h
      cases e4 : scV q with
      | none => simp [e4] at h; exact h.elim
      | some v =>
        simp only [e4] at h
        obtain ⟨ps, e5, e6⟩ := Option.bind_eq_some_iff.mp e
        obtain ⟨a, xs, h1, h2, h3⟩ := lst_read S r1 e5
        have ex := scVs_rep e6 h3
        subst ex
        have ev := scV_rep e4 r3
        subst ev
        exact ⟨a, _, _, h1, rfl, h2, scV_flat e4, scVs_flat e6, h.here S rfl⟩
    | [], h, _ => simp [e] at h; exact h.elim
    | _ :: _ :: _, h, _ => simp [e] at h; exact h.elim
theorem ml_index {K : PySem.W.Frag} : MtP K (rIndex K) indexP := by
  intro R ι O H p qs x ys E Q S r1 r2 h
  unfold indexP at h
  cases e : (lstOf O p).bind scVs with
  | none => simp [e] at h; exact h.elim
  | some vs =>
    match qs, h, r2 with
    | [q], h, ⟨y, t, e2, r3, e3⟩ =>
      cases e3
      subst e2
      simp only [e] at h
      cases e4 : scV q with
      | none => simp [e4] at h; exact h.elim
      | some v =>
        simp only [e4] at h
        cases e7 : vs.findIdx? fun z => eqV z v with
        | none => simp [e7] at h; exact h.elim
        | some j =>
          simp only [e7] at h
          obtain ⟨ps, e5, e6⟩ := Option.bind_eq_some_iff.mp e
          obtain ⟨a, xs, h1, h2, h3⟩ := lst_read S r1 e5
          have ex := scVs_rep e6 h3
          subst ex
          have ev := scV_rep e4 r3
          subst ev
          obtain ⟨hl, hj, hm⟩ := List.findIdx?_eq_some_iff_getElem.mp e7
          refine ⟨a, _, _, j, _, h1, rfl, h2, scV_flat e4, scVs_flat e6, List.getElem?_eq_getElem hl, hj, fun m z' hmj hz => ?_, h.here S rfl⟩
          obtain ⟨hl', ez⟩ := List.getElem?_eq_some_iff.mp hz
          have q := hm m hmj
          rw [ez] at q
          simpa using q
    | [], h, _ => simp [e] at h; exact h.elim
    | _ :: _ :: _, h, _ => simp [e] at h; exact h.elim
/-! ### {} -/
def eDic0 : EF := fun _ O => .ok (.dic [] []) O
def eDic0O : EF := fun _ O => .ok (.loc O.length) (O ++ [some (.dic [] [])])
theorem sim_dic0 {K : PySem.W.Frag} {E : XM} : SimE K E tDNewK eDic0 := fun R ι O H σ s Q S L h p hp => by
  obtain ⟨S2, X2, e2⟩ := S.newF hp (.dK [])
  exact h.at S2 X2 ⟨p, [], rfl, e2, rfl, rfl⟩
theorem sim_dic0O {K : PySem.W.Frag} {E : XM} : SimE K E tDNewK eDic0O := fun R ι O H σ s Q S L h p hp => by
  obtain ⟨S2, X2⟩ := S.newO (p := .dic [] []) hp (o := .dK []) ⟨[], rfl, rfl, rfl⟩
  exact h.at S2 X2 ⟨p, rfl, new_at S.len⟩
/-! ### xs[i] of a list or a tuple -/
def rIxA (K : PySem.W.Frag) : R2 := fun x y H Q => rIxL K x y H Q ∨ rIxT K x y H Q
theorem ix_any {X : Cx} : IxR X (rIxA X.K) := fun value slice pins s σ H x y v u Q I r1 r2 h e => h.elim (fun h => ix_list value slice pins s σ H x y v u Q I r1 r2 h e) fun h => ix_tup value slice pins s σ H x y v u Q I r1 r2 h e
def ixA (p q : PV) (O : Sto) : PR PV := match lstOf O p with
  | some _ => ixL p q O
  | none => ixT p q O
theorem os_ixA {K : PySem.W.Frag} : OpS K (rIxA K) ixA := by
  intro R ι O H p q x y E Q S r1 r2 h
  unfold ixA at h
  cases e : lstOf O p with
  | none => simp only [e] at h; exact .inr (os_ixT R ι O H p q x y E Q S r1 r2 h)
  | some ps => simp only [e] at h; exact .inl (os_ixL R ι O H p q x y E Q S r1 r2 h)
/-! ### xs * k -/
def repL (p q : PV) (O : Sto) : PR PV := match lstT O p, q with
  | some ps, .int k => if (decide (-(2 ^ 63) ≤ k ∧ k < 2 ^ 63) && szOk (ps.length * k.toNat)) = true then .ok (.lst (List.replicate k.toNat ps).flatten) O else .bad
  | _, _ => .bad
theorem RepL.rep {K : PySem.W.Frag} {ι : List Addr} {G : Hp} {ps : List PV} {xs : List V} (h : RepL K ι G ps xs) : ∀ k : Nat, RepL K ι G (List.replicate k ps).flatten (List.replicate k xs).flatten
  | 0 => rfl
  | k + 1 => by
    rw [List.replicate_succ, List.replicate_succ, List.flatten_cons, List.flatten_cons]
    exact h.app (RepL.rep h k)
theorem os_rep {K : PySem.W.Frag} : OpS K rRep repL := by
  intro R ι O H p q x y E Q S r1 r2 h
  unfold repL at h
  cases e : lstT O p with
  | none => simp [e] at h; exact h.elim
  | some ps =>
    cases q with
    | int k =>
      simp only [e] at h
      split at h
      · rename_i c
        obtain ⟨c1, c2⟩ := Bool.and_eq_true_iff.mp c
        have c1 := of_decide_eq_true c1
        obtain ⟨a, xs, h1, h2, h3⟩ := lstT_read S r1 e
        refine ⟨a, k, xs, h1, r2, h2, c1.1, c1.2, by rw [h3.len]; exact szOk_le c2, fun l hl => ?_⟩
        obtain ⟨S2, X2, e2⟩ := S.newF hl (.lst (List.replicate k.toNat xs).flatten)
        exact h.at S2 X2 ⟨l, _, rfl, e2, X2.repL (h3.rep _)⟩
      · exact h.elim
    | _ => simp [e] at h; exact h.elim
/-! ### e.f of an exception -/
def eXf (xf : List (Str × Str)) (f : Str) (a : EF) : EF := fun s O => (a s O).bind fun p O1 => match p with
  | .xc C ns ps => if (C, f) ∈ xf then match (ns.zip ps).lookup f with
    | some q => .ok q O1
    | none => .bad else .bad
  | _ => .bad
structure XfK (K : PySem.W.Frag) (xf : List (Str × Str)) : Prop where
  c : ∀ w ∈ xf, XcF K w.1
  no : ∀ w ∈ xf, PySem.W.findIn K (.ref (He.ga K w.1)) w.2 = some none
theorem sim_xf {K : PySem.W.Frag} {E : XM} {xf : List (Str × Str)} {f : Str} {ta : TE} {fa : EF} (k : XfK K xf) (ha : SimE K E ta fa) : SimE K E (tXfT K f ta) (eXf xf f fa) := fun R ι O H σ s Q S L h =>
  ha R ι O H σ s _ S L (h.bind fun p O1 x ι1 H1 S1 X1 r1 h1 => by
    cases p with
    | xc C ns ps =>
      simp only at h1
      split at h1
      · rename_i hm
        cases e2 : (ns.zip ps).lookup f with
        | none => simp [e2] at h1; exact h1.elim
        | some q =>
          simp only [e2] at h1
          obtain ⟨a, oe, xs, g1, g2, g3, g4, g5, g6, g7⟩ := r1
          obtain ⟨v, h6, h7⟩ := (zip_lookup g7).1 q e2
          rcases g5 with ⟨_, en⟩ | ⟨dd, g5, g8⟩
          · subst en
            cases e2
          · exact ⟨a, He.ga K C, dd, oe, _, v, g1, S1.frozen _ _ g2, g3, g4, g5, S1.frozen _ _ g8, (k.c _ hm).c, k.no _ hm, h6, h1.here S1 h7⟩
      · exact h1.elim
    | _ => exact h1.elim)
end Qx

/-! Own: t[::-1] of a tuple; t[i:j] that is all of t. -/
namespace Zy
open PySem PySem.Spec PyProof.Rows L2 HT
section
variable {prog : Program} {w : World} {A : Around} {E : Value → Shared → Prop} {s : Shared}
theorem applied_rev {sl : Addr} {vl vu : Value} {tk : Tok} {n : Nat} {Q : Int × Int × Nat → Shared → Prop} (hs : s.heap.IsSliceOf sl vl vu (.int (-1) tk)) (pl : IsPart vl none) (pu : IsPart vu none)
    (h : Q ((n : Int) - 1, -1, n) s) : wpAny (model prog w) A (Builtin.Slice.sliceApplied (.ref sl) (pure (n : Int))) Q E s := by
  obtain ⟨os, hos, hcs, hds⟩ := id hs
  unfold Builtin.Slice.sliceApplied Builtin.Slice.sliceFields
  refine wpAny_bind (wpAny_bind (wpAny_field hos hds (x := vl) rfl (wpAny_bind (wpAny_field hos hds (x := vu) rfl (wpAny_bind (wpAny_field hos hds (x := .int (-1) tk) rfl (wpAny_pure (?_ : wpAny _ _ _ _ _ _))))))))
  refine wpAny_bind (slicePart_ (.int (-1) tk) (?_ : wpAny _ _ (if ((-1 : Int) == 0) = true then _ else _) _ _ s))
  rw [if_neg (show ¬ ((-1 : Int) == 0) = true by decide)]
  refine wpAny_bind (slicePart_ pl (wpAny_bind (slicePart_ pu (wpAny_bind (wpAny_pure (?_ : wpAny _ _ (match Builtin.Slice.sliceAdjust none none (-1) (n : Int) with | (lo, hi) => pure (lo, (-1 : Int), Builtin.Slice.slicePlaces lo hi (-1))) _ _ s))))))
  have e : Builtin.Slice.sliceAdjust none none (-1) (n : Int) = ((n : Int) - 1, -1) := by
    unfold Builtin.Slice.sliceAdjust
    simp
  have e2 : Builtin.Slice.slicePlaces ((n : Int) - 1) (-1) (-1) = n := by
    unfold Builtin.Slice.slicePlaces
    simp
    try omega
  rw [e]
  show wpAny _ _ (pure ((n : Int) - 1, (-1 : Int), Builtin.Slice.slicePlaces ((n : Int) - 1) (-1) (-1))) _ _ s
  rw [e2]
  exact wpAny_pure h
theorem fm_congr {α β : Type} {f g : α → Option β} : ∀ {l : List α}, (∀ m, m ∈ l → f m = g m) → l.filterMap f = l.filterMap g
  | [], _ => rfl
  | a :: l, h => by
    rw [List.filterMap_cons, List.filterMap_cons, h a List.mem_cons_self, fm_congr fun m hm => h m (List.mem_cons_of_mem _ hm)]
theorem pick_rev (xs : Array Value) : ((List.range xs.size).filterMap fun (m : Nat) => xs[((xs.size : Int) - 1 + (m : Int) * (-1)).toNat]?).toArray = xs.toList.reverse.toArray := by
  have := PySem.W.krv_pick xs
  unfold slicePick at this
  rw [PySem.W.krv_bounds] at this
  simp only [PySem.W.krv_sliceRange] at this
  rw [← this, List.filterMap_map]
  refine congrArg List.toArray (fm_congr fun m hm => ?_)
  have lt := List.mem_range.mp hm
  have e : ((xs.size : Int) - 1 + (m : Int) * (-1)).toNat = xs.size - 1 - m := by omega
  show xs[((xs.size : Int) - 1 + (m : Int) * (-1)).toNat]? = xs[xs.size - 1 - m]?
  rw [e]
theorem item_rev {t sl : Addr} {items : Array Value} {vl vu : Value} {tk : Tok} {Q : Value → Shared → Prop} (ht : IsTup s.heap t items) (hs : s.heap.IsSliceOf sl vl vu (.int (-1) tk)) (pl : IsPart vl none) (pu : IsPart vu none)
    (h : Q (.ref s.heap.objs.size) { s with heap := s.heap.push { cls := .type "tuple", data := .seq items.toList.reverse.toArray } }) (hsz : items.size ≤ sizeLine) : wpAny (model prog w) A (getItem (.ref t) (.ref sl)) Q E s := by
  have sz : sizeOk (.seq items.toList.reverse.toArray) := by
    show items.toList.reverse.toArray.size ≤ sizeLine
    rw [List.size_toArray, List.length_reverse, Array.length_toList]
    exact hsz
  obtain ⟨os, hos, hcs, hds⟩ := id hs
  have T : s.TypeIs (.ref sl) "slice" := ⟨os, hos, hcs⟩
  unfold getItem
  try with_reducible refine wpAny_holding ?_
  first | refine wpAny_bind (wpAny_pure ?_) | skip
  refine wpAny_bind (wpAny_sequenceKey ht.typeIs (by decide) (wpAny_bind (wpAny_callSpecial?_slot (name := Str.ofString "__getitem__") ht.typeIs PyProof.Rows.slot_tuple_getitem
    (wpAny_call_entry PyProof.Rows.slot_tuple_getitem ht.typeIs entry_tuple_getitem (?_ : wpAny _ _ (Builtin.Tuple.tupleItemsOf (.ref t) >>= _) _ _ s) (args_tuple_getitem _ _)))))
  refine wpAny_bind (tupleItemsOf_ ht (wpAny_bind (wpAny_typeOf T ?_)))
  rw [if_pos (by decide)]
  refine wpAny_bind (applied_rev hs pl pu ?_)
  have no : ¬ ((((items.size : Int) - 1) == 0 && (-1 : Int) == 1 && items.size == items.size) = true) := by simp
  show wpAny _ _ (if (((items.size : Int) - 1) == 0 && (-1 : Int) == 1 && items.size == items.size) = true then _ else _) _ _ s
  rw [if_neg no, pick_rev]
  first
    | exact wpAny_bind (m := Builtin.Tuple.tupleExact _) (wpAny_newObj_type (wpAny_pure ⟨_, rfl, wpAny_pure h⟩) sz)
    | exact wpAny_bind (wpAny_bind (m := Builtin.Tuple.tupleExact _) (wpAny_newObj_type (wpAny_pure ⟨_, rfl, wpAny_pure h⟩) sz))
end
/-- t[::-1] -/
def tRevT (K : PySem.W.Frag) (te : TE) : TE := fun σ H Q => te σ H fun x H1 => ∃ a xs, x = .ref a ∧ SqT K H1 a xs ∧ ∀ p, H1 p = none → Q (.ref p) (upd H1 p (.tup xs.reverse))
theorem pe_revT {X : Cx} {e : Expr} {te : TE} {k : Nat} {p1 p2 p3 pos : Pos} (he : PE X e te) : PE X (.Subscript e (.Slice none none (some (.UnaryOp .USub (.Constant (.int 1) k p1) p2)) p3) pos) (tRevT X.K te) := by
  refine ⟨fun pins s σ H Q I h => Subscript_ (thn (he.run pins s σ H _ I h) fun v s1 ⟨x, H1, I1, r1, q1⟩ => ?_)⟩
  obtain ⟨a, xs, rfl, hx, q⟩ := q1
  cases r1
  have st : PO X (some (.UnaryOp .USub (.Constant (.int 1) k p1) p2)) (tPart (tUn (rU fun i => .int (-i)) (tC (.int 1)))) := po_some (pe_un un_neg pe_int)
  refine wpAny_Slice (thn (po_none.run pins s1 σ H1 (fun o H2 => o = none ∧ H2 = H1) I1 ⟨rfl, rfl⟩) fun vl s2 ⟨l, H2, I2, pl, el, e2⟩ => ?_)
  subst el
  subst e2
  refine thn (po_none.run pins s2 σ H2 (fun o H3 => o = none ∧ H3 = H2) I2 ⟨rfl, rfl⟩) fun vu s3 ⟨u, H3, I3, pu, eu, e3⟩ => ?_
  subst eu
  subst e3
  refine thn (st.run pins s3 σ H3 (fun o H4 => o = some (-1) ∧ H4 = H3) I3 ⟨1, rfl, -1, rfl, rfl, rfl⟩) fun vs s4 ⟨o, H4, I4, ps, eo, e4⟩ => ?_
  subst eo
  subst e4
  generalize hv : vs = vs' at ps
  cases ps with
  | int i tk =>
    subst hv
    have I5 : Inv X pins σ H4 { s4 with heap := s4.heap.push { cls := .type "slice", data := .fields #[vl, vu, .int (-1) tk] } } := I4.kept (t' := s4.toks) fun b ob q => Heap.get?_push_of_some _ q
    obtain ⟨its, r, ht, hz⟩ := I5.tuple hx
    show wpAny (model X.prog X.w) X.A (subscriptTail e (.Slice none none (some (.UnaryOp .USub (.Constant (.int 1) k p1) p2)) p3) (.ref a) (.ref s4.heap.objs.size)) (EP X pins σ Q) X.xe { s4 with heap := s4.heap.push { cls := .type "slice", data := .fields #[vl, vu, .int (-1) tk] } }
    refine tail_any (ops := [.ref a, .ref s4.heap.objs.size]) ht.typeIs PyProof.Rows.slot_tuple_getitem.lookup ?_ (by with_unfolding_all rfl)
    refine item_rev ht (Heap.IsSliceOf.new _ vl vu _) pl pu ⟨.ref _, _, I5.laid (t' := s4.toks) (o := .tup xs.reverse) (fun b ob q => Heap.get?_push_of_some _ q) (Nat.le_refl _) ?_, rfl, q _ (I5.hok.fresh (Nat.le_refl _))⟩ (by rw [List.size_toArray, ← r.length]; exact hz)
    exact ⟨by rw [List.length_reverse]; exact hz, _, r.reverse, IsTup.new _ _⟩
end Zy

/-! Own layer Xi: exceptions whose own __init__ calls the one of an own class over ValueError and keeps one field. -/
namespace Qx
open PySem PySem.Spec PyProof.Rows L2 Gx
section
variable {X : Cx} {e : Expr} {es : List Expr} {ta : TA} {x : Str} {p1 p2 pos : Pos} {B : Addr}
theorem pe_clinit {pl : Sem Bool} (rd : PySem.W.readsIn X.K B (.type "type") = true) (ga : PySem.W.specialIn X.K (.ref B) "__getattribute__" = some (some (.builtin "type.__getattribute__")))
    (vV : PySem.W.findCls X.K (.ref B) (.type "type") "__init__" = some (.val (.builtin "ValueError.__init__"))) (hm : X.mg x = some (.ref B)) (ha : PA X (e :: es) ta) (hg : Gl X x := by rfl) (hdb : (x == ("__debug__" : Str)) = false := by decide)
    (hc : eval (.Call (.Attribute (.Name x p1) "__init__" p2) (e :: es) [] pos) X.env = (do
      let ov ← eval (.Name x p1) X.env
      standAt p2.atName
      let (f, first) ← holding [ov] (getMethod ov "__init__" pl)
      callWith pos f first (backTo pos (starEach (e :: es) X.env)) (backToKw pos (keywordEach [] X.env))) := by rfl)
    (he : starEach (e :: es) X.env = (false, eval e X.env) :: starEach es X.env := by rfl) (hpl : (backTo pos (starEach es X.env)).any (·.1) = false := by rfl) :
    PE X (.Call (.Attribute (.Name x p1) "__init__" p2) (e :: es) [] pos) (tVeI X.K ta) := by
  refine ⟨fun pins s σ H Q I h => ?_⟩
  refine PySem.W.methodCall_KW (ld_glob I hg hm ?_ hdb) hc
  refine PySem.W.method_cls I.kIn ga (PySem.W.cls_value I.kIn rd vV (by rfl) ?_)
  show wpAny _ _ (callWith pos (Value.builtin "ValueError.__init__") [] (backTo pos (starEach (e :: es) X.env)) []) _ _ _
  refine PyProof.Rows.callWith_method1 (thn (ha.run pos pins _ σ H _ (I.tok _) h) fun us s1 ⟨vs, H1, I1, r1, a, C, ws, ev, hl, T, ea, q⟩ => ?_) he hpl
  subst ev
  cases r1 with
  | @cons _ u0 _ ur ra rw' =>
    obtain rfl : u0 = Value.ref a := ra
    have hlen : ur.length ≤ sizeLine := by
      rw [← Paired.length rw', sizeLine_eq]
      omega
    exact oinit_ok T I1 ea hlen fun s' J => ⟨.non, H1, J, rfl, q⟩
end
/-- what such an __init__ promises: C the class being made -/
def spXi (C : Addr) (f : Str) : Sp := fun vs H Q _ => ∃ (a : Addr) (v : V), vs = [.ref a, v] ∧ H a = some (exo a C none) ∧ ∀ dx, H dx = none → dx ≠ a → Q .non (upd (upd H dx (exd dx [(f, v)])) a (exo a C (some dx)))
theorem spXi_len {C : Addr} {f : Str} {vs : List V} {H : Hp} {Q : VK} {E : XK} (h : spXi C f vs H Q E) : vs.length = 2 := by
  obtain ⟨a, v, rfl, _⟩ := h
  rfl
theorem spXi_run {K : PySem.W.Frag} {C : Addr} {f z : Str} {N : List Str} {vs : List V} {H : Hp} {Q : VK} {E : XK} (hN : N.length = 2) (T : OexC K C) (hno : PySem.W.findIn K (.ref C) f = some none) (h : spXi C f vs H Q E) :
    tSeq (tDrop (tVeI K (tCons (tVar 0) (tCons (tC (.str z)) tNil)))) (tOst K f (tVar 0) (tVar 1)) { nx := fun _ H => Q .non H, rt := Q } (L2.start N vs) H := by
  obtain ⟨a, v, rfl, e, h⟩ := h
  have e0 : (L2.start N [V.ref a, v])[0]? = some (some (.ref a)) := rfl
  have e1 : (L2.start N [V.ref a, v])[1]? = some (some v) := rfl
  refine ⟨.ref a, e0, a, C, [.str z], rfl, Nat.le_of_ble_eq_true rfl, T, e, v, e1, .ref a, e0, a, C, rfl, T, hno, .inl ⟨e, fun dx n ne => h dx n ne⟩⟩
/-! what the head tells of them -/
theorem oexB_ok {K : PySem.W.Frag} {C : Addr} (h : oexB K C = true) : OexC K C := by
  unfold oexB at h
  obtain ⟨h1, h⟩ := Bool.and_eq_true_iff.mp h
  obtain ⟨h2, h⟩ := Bool.and_eq_true_iff.mp h
  obtain ⟨h3, h⟩ := Bool.and_eq_true_iff.mp h
  obtain ⟨h4, h5⟩ := Bool.and_eq_true_iff.mp h
  refine ⟨?_, He.eqO_ok h2, of_decide_eq_true h3, of_decide_eq_true h4, h5⟩
  split at h1
  · rename_i dd cd sl ho
    split at h1
    · rename_i C' bm k0 k1 k2 k3 n k5 hm hs
      simp only [Bool.and_eq_true, beq_iff_eq, Bool.not_eq_true'] at h1
      obtain ⟨rfl, rfl, hdel, hdi, hb⟩ := h1
      obtain ⟨nm, bs, mro, ns, qn, hd, sn, sub, ab, col, del⟩ := cd
      dsimp only at hm hdel hdi
      subst hm hdel hdi
      have hsl : sl = #[k0, k1, k2, k3, some (.builtin "ValueError.__new__"), k5] := by
        obtain ⟨l⟩ := sl
        simp only at hs
        rw [hs]
      subst hsl
      exact ⟨nm, qn, ns, bs, bm, sn, sub, ab, col, dd, k0, k1, k2, k3, k5, ho, hb⟩
    · cases h1
  · cases h1
structure ClI (K : PySem.W.Frag) (B : Addr) : Prop where
  rd : PySem.W.readsIn K B (.type "type") = true
  ga : PySem.W.specialIn K (.ref B) "__getattribute__" = some (some (.builtin "type.__getattribute__"))
  vV : PySem.W.findCls K (.ref B) (.type "type") "__init__" = some (.val (.builtin "ValueError.__init__"))
theorem clsB_ok {K : PySem.W.Frag} {B : Addr} (h : clsB K B = true) : ClI K B := by
  unfold clsB at h
  obtain ⟨h1, h⟩ := Bool.and_eq_true_iff.mp h
  obtain ⟨h2, h3⟩ := Bool.and_eq_true_iff.mp h
  refine ⟨h1, He.eqO_ok h2, ?_⟩
  split at h3
  · rename_i n e
    rw [e, beq_iff_eq.mp h3]
  · cases h3
/-- an own exception class with such an __init__, one field f -/
structure XiC (K : PySem.W.Frag) (C B : Str) (f : Str) : Prop where
  o : OexC K (He.ga K C)
  no : PySem.W.findIn K (.ref (He.ga K C)) f = some none
  b : ClI K (He.ga K B)
theorem xiB_ok {K : PySem.W.Frag} {C B f : Str} (h : xiB K C B f = true) : XiC K C B f := by
  unfold xiB at h
  obtain ⟨h1, h⟩ := Bool.and_eq_true_iff.mp h
  obtain ⟨h2, h3⟩ := Bool.and_eq_true_iff.mp h
  exact ⟨oexB_ok h1, He.eqO_ok h2, clsB_ok h3⟩
/-! ### raise C(e) -/
theorem pmkXi {X : Cx} {d : He.DefD} {C : Addr} {k j : Nat} {ps : List Str} {sp : Sp} {x : Str} {e : Expr} {es : List Expr} {ta : TA} {p pos : Pos} (D : DOk X.prog X.w X.K X.mg X.base d CX0 k ps sp) (T : OexC X.K C) (M : Meth X.K C "__init__" (He.fAd X.K d.at_)) (hm : X.mg x = some (.ref C)) (hb : BdN d ps) (hr : Room j X.A) (hj : k + 1 ≤ j) (ha : PA X (e :: es) ta) (hg : Gl X x := by rfl)
    (hdb : (x == ("__debug__" : Str)) = false := by decide) (he : starEach (e :: es) X.env = (false, eval e X.env) :: starEach es X.env := by rfl) (hpl : (backTo pos (starEach es X.env)).any (·.1) = false := by rfl) :
    PMk X (.Call (.Name x p) (e :: es) [] pos) (tMkO C sp [] ta) := by
  obtain ⟨fd, F, G⟩ := D.ex
  exact pmk_oex T M.at_ (by have q := M.fn; unfold PySem.W.isFn at q; exact beq_iff_eq.mp q) G (hr.mono hj) (FunD.bdN F hb) .nil pass0 hg hm ha hdb he hpl
def sRaiseI (C f : Str) (fA : AF) : SF := fun s O => (fA s O).toS s fun ps O1 => match ps with
  | [p] => .exc ⟨.cls C, [f], [p]⟩ s O1
  | _ => .bad
theorem del_back {H : Hp} {a dx : Addr} {o o1 o2 o3 : HO} (hn : H a = none) (hd : H dx = none) (ne : dx ≠ a) : upd (del (upd (upd (upd H a o) dx o1) a o2) a) dx o3 = upd H dx o3 := by
  funext b
  by_cases e : b = dx
  · subst e
    rw [upd_same, upd_same]
  · rw [upd_ne e, upd_ne e]
    by_cases e2 : b = a
    · subst e2
      rw [del_same, hn]
    · rw [del_ne e2, upd_ne e2, upd_ne e, upd_ne e2]
theorem sim_raiseI {K : PySem.W.Frag} {C f : Str} {W : WX} {ta : TA} {fA : AF} (hA : SimA K (some (we W)) ta fA) : SimS K (some (we W)) (fun _ σ H => tMkO (He.ga K C) (spXi (He.ga K C) f) [] ta σ H fun cls d H' => W cls d σ H') (sRaiseI C f fA) := fun R ι O H σ s D S L h =>
  hA R ι O H σ s _ S L (h.lift L fun ps O1 vs ι1 H1 S1 X1 r1 h1 => by
    match ps, vs, r1, h1 with
    | [p], vs, r1, h1 =>
      obtain ⟨v, rest, rfl, rp, rr⟩ := r1
      have rr : rest = [] := rr
      subst rr
      refine ⟨Nat.le_of_ble_eq_true rfl, fun a ha => ⟨a, v, rfl, upd_same, fun dx hdx ne => ⟨rfl, dx, [(f, v)], upd_same, ?_, ?_, ?_⟩⟩⟩
      · rw [upd_ne ne, upd_same]
      · rw [upd_ne ne] at hdx; exact hdx
      · have hd : H1 dx = none := by rw [upd_ne ne] at hdx; exact hdx
        rw [del_back ha hd ne]
        obtain ⟨S2, X2, e2⟩ := S1.newF hd (.xd [(f, v)])
        obtain ⟨E', e1, h2⟩ := h1
        cases e1
        exact h2 σ _ _ ι1 _ S2 X2 ((L.ext X1).ext X2) ⟨rfl, [v], .inr ⟨dx, rfl, e2⟩, rfl, X2.repL (.one rp)⟩
    | [], _, _, h1 => exact h1.elim
    | _ :: _ :: _, _, _, h1 => exact h1.elim)
/-! ### t[::-1] -/
def eRevT (a : EF) : EF := fun s O => (a s O).bind fun p O1 => match p with
  | .tup ps => .ok (.tup ps.reverse) O1
  | _ => .bad
theorem sim_revT {K : PySem.W.Frag} {E : XM} {ta : TE} {fa : EF} (ha : SimE K E ta fa) : SimE K E (Zy.tRevT K ta) (eRevT fa) := fun R ι O H σ s Q S L h =>
  ha R ι O H σ s _ S L (h.bind fun p O1 x ι1 H1 S1 X1 r1 h1 => by
    cases p with
    | tup ps =>
      obtain ⟨a, xs, rfl, hs, hr⟩ := r1
      refine ⟨a, xs, rfl, sqt_same S1.frozen hs, fun q hq => ?_⟩
      obtain ⟨S2, X2, e2⟩ := S1.newF hq (.tup xs.reverse)
      exact h1.at S2 X2 ⟨q, _, rfl, SqT.of e2, X2.repL hr.rev⟩
    | _ => exact h1.elim)
/-! ### t + u, t[a:b], empty ones too -/
def catA (p q : PV) (O : Sto) : PR PV := match p, q with
  | .tup ps, .tup qs => if szOk (ps.length + qs.length) = true then .ok (.tup (ps ++ qs)) O else .bad
  | _, _ => .bad
theorem os_catA {K : PySem.W.Frag} : OpS K (rCatA K) catA := by
  intro R ι O H p q x y E Q S r1 r2 h
  cases p with
  | tup ps =>
    cases q with
    | tup qs =>
      have h : Post K R E (Rep K) ι O H Q (if szOk (ps.length + qs.length) = true then .ok (.tup (ps ++ qs)) O else .bad) := h
      by_cases c : szOk (ps.length + qs.length) = true
      · rw [if_pos c] at h
        obtain ⟨a, xs, h1, h2, h3⟩ := r1
        obtain ⟨b, ys, h4, h5, h6⟩ := r2
        refine ⟨a, b, xs, ys, h1, h4, sqt_same S.frozen h2, sqt_same S.frozen h5, by rw [h3.len, h6.len]; exact szOk_le c, fun e => ?_, fun _ e => ?_, fun _ _ o ho => ?_⟩
        · subst e
          exact h.here S ⟨b, ys, rfl, h5, by rw [show ps = [] from List.length_eq_zero_iff.mp h3.len.symm]; exact h6⟩
        · subst e
          exact h.here S ⟨a, xs, rfl, h2, by rw [show qs = [] from List.length_eq_zero_iff.mp h6.len.symm, List.append_nil]; exact h3⟩
        · obtain ⟨S2, X2, e2⟩ := S.newF ho (.tup (xs ++ ys))
          exact h.at S2 X2 ⟨o, _, rfl, SqT.of e2, X2.repL (h3.app h6)⟩
      · rw [if_neg c] at h
        exact h.elim
    | _ => exact h.elim
  | _ => exact h.elim
/-! ### the Hook that tells of the interpreter's own statics too -/
end Qx

/-! Own layer Xj: str, repr and f-strings of own instances. -/
namespace Gx
open PySem PySem.Spec PyProof.Rows L2
section
variable {X : Cx} {k j : Nat} {ps : List Str} {sp : Sp} {d : He.DefD} {C : Addr}
/-- str(x), repr(x) by an own method that hands back a text -/
def rOTxt (C : Addr) (sp : Sp) (xs : List V) (H : Hp) (Q : VK) : Prop := ∃ x, xs = [x] ∧ InsAt C H x ∧ sp [x] H (fun v H' => ∃ z : Str, v = .str z ∧ Q (.str z) H') E0
theorem txt_back {pins : List (Addr × Obj)} {σ : L2.St} {Q : VK} {w : Value} {s' : Shared} (h : EP X pins σ (fun v H' => ∃ z : Str, v = .str z ∧ Q (.str z) H') w s') : PySem.W.StrBack (EP X pins σ Q) w s' := by
  obtain ⟨v, H', I', rw_, z, rfl, q⟩ := h
  obtain ⟨t, rfl⟩ := rw_
  exact ⟨.str z, H', I', ⟨t, rfl⟩, q⟩
theorem call_ostr (D : DOk X.prog X.w X.K X.mg X.base d CX0 k ps sp) (hm : Meth X.K C "__str__" (He.fAd X.K d.at_)) (hb : BdN d ps) (hr : Room j X.A) (hj : k + 2 ≤ j) : CallR X (.type "str") (rOTxt C sp) := by
  obtain ⟨fd, F, G⟩ := D.ex
  intro pins s σ H xs us Q I r h
  obtain ⟨x, rfl, ⟨a, dx, fl, rfl, ha⟩, h⟩ := h
  obtain ⟨u, rfl, rx⟩ := vals1 r
  cases rx
  obtain ⟨mA, J, _⟩ := ins_get I.hok ha
  obtain ⟨od, J, _⟩ := J.look
  have hr : Room (k + 2) X.A := hr.mono hj
  refine PySem.W.kso_call (by have := hr.in1.in1.un; omega) I.kIn J hm.at_ hm.fn ?_
  exact wpAny_mono (run_fnA (us := [.ref a]) (vs := [.ref a]) (dvs := []) (ds := []) G hr.in1.in1 rfl (FunD.bdN F hb) .nil pass0 I (.cons rfl .nil) h) (fun r s' z => txt_back z) fun _ _ x => x
theorem call_orepr (D : DOk X.prog X.w X.K X.mg X.base d CX0 k ps sp) (hm : Meth X.K C "__repr__" (He.fAd X.K d.at_)) (hb : BdN d ps) (hr : Room j X.A) (hj : k + 1 ≤ j) : CallR X (.builtin "repr") (rOTxt C sp) := by
  obtain ⟨fd, F, G⟩ := D.ex
  intro pins s σ H xs us Q I r h
  obtain ⟨x, rfl, ⟨a, dx, fl, rfl, ha⟩, h⟩ := h
  obtain ⟨u, rfl, rx⟩ := vals1 r
  cases rx
  obtain ⟨mA, J, _⟩ := ins_get I.hok ha
  obtain ⟨od, J, _⟩ := J.look
  obtain ⟨m, hF⟩ := I.fr
  have hr : Room (k + 1) X.A := hr.mono hj
  refine PySem.W.repr_K (by have := hr.in1.un; omega) hF I.ok.mod.kin J hm.at_ hm.fn ?_
  exact wpAny_mono (run_fnA (us := [.ref a]) (vs := [.ref a]) (dvs := []) (ds := []) G hr.in1 rfl (FunD.bdN F hb) .nil pass0 I (.cons rfl .nil) h) (fun r s' z => txt_back z) fun _ _ x => x
/-- {x} by the own __str__ -/
def tFmtO (C : Addr) (sp : Sp) (te : TE) : TE := fun σ H Q => te σ H fun x H1 => InsAt C H1 x ∧ sp [x] H1 (fun v H' => ∃ z : Str, v = .str z ∧ Q (.str z) H') E0
theorem pe_fmtO {e : Expr} {te : TE} {pos : Pos} (D : DOk X.prog X.w X.K X.mg X.base d CX0 k ps sp) (hm : Meth X.K C "__str__" (He.fAd X.K d.at_)) (hmo : PySem.W.mroIn X.K C (.type "object") = some true) (hfm : PySem.W.findIn X.K (.ref C) "__format__" = some (some (.builtin "object.__format__"))) (hb : BdN d ps) (hr : Room j X.A) (hj : k + 1 ≤ j) (he : PE X e te) : PE X (.FormattedValue e (-1) none pos) (tFmtO C sp te) := by
  obtain ⟨fd, F, G⟩ := D.ex
  refine ⟨fun pins s σ H Q I h => ?_⟩
  refine wpAny_FormattedValue_plain (thn (he.run pins s σ H _ I h) fun v s1 ⟨x, H1, I1, r1, ⟨a, dx, fl, ex, ha⟩, h1⟩ => ?_)
  subst ex
  cases r1
  obtain ⟨mA, J, _⟩ := ins_get I1.hok ha
  obtain ⟨od, J, _⟩ := J.look
  have hr : Room (k + 1) X.A := hr.mono hj
  refine PySem.W.kfo_fieldS (by have := hr.in1.un; omega) I1.kIn J hfm hmo hm.at_ hm.fn ?_
  have I2 := I1.tok (s1.toks + 1)
  exact wpAny_mono (run_fnA (us := [.ref a]) (vs := [.ref a]) (dvs := []) (ds := []) G hr.in1 rfl (FunD.bdN F hb) .nil pass0 I2 (.cons rfl .nil) h1) (fun r s' z => txt_back z) fun _ _ x => x
end
end Gx
namespace Qx
open PySem PySem.Spec PyProof.Rows L2 Gx
section
variable {K : PySem.W.Frag} {C : Str} {mf : MF} {E : XM} {te : TE} {fa : EF}
/-- str(x), repr(x) by the own method m -/
def otxtP (C : Str) (m : MF) (ps : List PV) (O : Sto) : PR PV := match ps with
  | [p] => if insIs O C p = true then (noX (m [p] O)).bind fun r O1 => match r with
    | .str z => .ok (.str z) O1
    | _ => .bad else .bad
  | _ => .bad
theorem cb_otxt : CbS K (rOTxt (He.ga K C) (spM K false mf)) (otxtP C mf) := by
  intro R ι O H ps xs E Q S r h
  match ps, h with
  | [], h => exact h.elim
  | _ :: _ :: _, h => exact h.elim
  | [p], h =>
    obtain ⟨x, t, e, r1, e2⟩ := r
    cases e2
    subst e
    unfold otxtP at h
    simp only at h
    split at h
    · rename_i c
      exact ⟨x, rfl, insIs_read S r1 c, R, ι, O, [p], S, .one r1, Post.noX (E := E) (Post.bind h fun r O1 v ι1 H1 S1 X1 r3 h1 => by
        cases r with
        | str z => exact ⟨z, r3, h1.here S1 rfl⟩
        | _ => exact h1.elim)⟩
    · exact h.elim
/-- {x} of an own instance -/
def eFmtO (C : Str) (m : MF) (fa : EF) : EF := fun s O => (fa s O).bind fun p O1 => otxtP C m [p] O1
theorem sim_fmtO (ha : SimE K E te fa) : SimE K E (tFmtO (He.ga K C) (spM K false mf) te) (eFmtO C mf fa) := fun R ι O H σ s Q S L h =>
  ha R ι O H σ s _ S L (h.bind fun p O1 x ι1 H1 S1 X1 r1 h1 => by
    obtain ⟨x', e, h2, h3⟩ := cb_otxt R ι1 O1 H1 [p] [x] _ Q S1 (.one r1) h1
    cases e
    exact ⟨h2, h3⟩)
/-- {x} of a text or a number -/
def eFmt (fa : EF) : EF := fun s O => (fa s O).bind fun p O1 => match p with
  | .str z => if z.length ≤ sizeLine then .ok (.str z) O1 else .bad
  | .int i => if i.natAbs.log2 < 1920 then .ok (.str (toString i)) O1 else .bad
  | _ => .bad
theorem sim_fmt (ha : SimE K E te fa) : SimE K E (tFmt te) (eFmt fa) := fun R ι O H σ s Q S L h =>
  ha R ι O H σ s _ S L (h.bind fun p O1 x ι1 H1 S1 X1 r1 h1 => by
    cases p with
    | str z =>
      simp only at h1
      split at h1
      · rename_i c
        exact .inl ⟨z, r1, c, h1.here S1 rfl⟩
      · exact h1.elim
    | int i =>
      simp only at h1
      split at h1
      · rename_i c
        exact .inr ⟨i, r1, c, h1.here S1 rfl⟩
      · exact h1.elim
    | _ => exact h1.elim)
/-- the parts of an f-string -/
noncomputable def jsP : List EF → Str → Slots → Sto → PR Str
  | [], acc, _, O => .ok acc O
  | f :: fs, acc, s, O => (f s O).bind fun p O1 => match p with
    | .str y => if (acc ++ y).length ≤ sizeLine then jsP fs (acc ++ y) s O1 else .bad
    | _ => .bad
noncomputable def eJs (fs : List EF) : EF := fun s O => (jsP fs Str.empty s O).bind fun z O1 => .ok (.str z) O1
inductive SimJs (K : PySem.W.Frag) (E : XM) : List TE → List EF → Prop
  | nil : SimJs K E [] []
  | cons {t : TE} {f : EF} {ts : List TE} {fs : List EF} (h : SimE K E t f) (r : SimJs K E ts fs) : SimJs K E (t :: ts) (f :: fs)
theorem js_run {ts : List TE} {fs : List EF} (h : SimJs K E ts fs) : ∀ (acc : Str) R ι O H σ s (Q : Str → Hp → Prop), Sim K R ι O H → SlR K ι (fz R ι O H) σ s → Post K R (xat E σ) (fun _ _ (a b : Str) => a = b) ι O H Q (jsP fs acc s O) → tJs ts acc σ H Q := by
  induction h with
  | nil => exact fun acc R ι O H σ s Q S L h => h acc ι H S .refl rfl
  | @cons t f ts fs ht _ ih =>
    intro acc R ι O H σ s Q S L h
    unfold jsP at h
    refine ht R ι O H σ s _ S L (h.bind fun p O1 x ι1 H1 S1 X1 r1 h1 => ?_)
    cases p with
    | str y =>
      simp only at h1
      split at h1
      · rename_i c
        exact ⟨y, r1, c, ih (acc ++ y) R ι1 O1 H1 σ s Q S1 (L.ext X1) h1⟩
      · exact h1.elim
    | _ => exact h1.elim
theorem sim_js {ts : List TE} {fs : List EF} (hj : SimJs K E ts fs) : SimE K E (fun σ H Q => tJs ts Str.empty σ H fun out H1 => Q (.str out) H1) (eJs fs) := fun R ι O H σ s Q S L h =>
  js_run hj Str.empty R ι O H σ s _ S L (h.bind fun z O1 z' ι1 H1 S1 X1 e h1 => by
    subst e
    exact h1.here S1 rfl)
end
end Qx

/-! Own layer Xk: bool of an own instance with a __len__; {x!r} of an own instance. -/
namespace PySem.W
open PySem PySem.Spec PySem.Calls PyProof.Rows
section
variable {prog : Program} {w : World} {A : Around} {E : Value → Shared → Prop} {s : Shared} {K : Frag} {x C f : Addr} {ox : Obj} {od : Option Obj}
/-- a number from len -/
def NumBack (Q : Bool → Shared → Prop) (v : Value) (s' : Shared) : Prop := match v with
  | .int n _ => (0 ≤ n ∧ n < 2 ^ 63) ∧ Q (n != 0) { s' with toks := s'.toks + 1 }
  | _ => False
theorem truthy_KL {Q : Bool → Shared → Prop} (X : K.In s.heap) (I : InstAt s.heap x ox C od) (hs : findIn K (.ref C) "__bool__" = some none) (hl : findIn K (.ref C) "__len__" = some (some (.ref f))) (hf : isFn K (.ref f) = true)
    (h : wpAny (model prog w) A.in1 (call (.ref f) [.ref x]) (NumBack Q) E s) : wpAny (model prog w) A (truthy (.ref x)) Q E s := by
  unfold truthy
  refine wpAny_bind (m := callSpecial? (.ref x) (Str.ofString "__bool__")) (wpAny_bind (wpAny_bind (I.type.here ((looks_findIn X hs).here (wpAny_pure ?_)))))
  refine wpAny_bind (wpAny_bind (I.type.here ((looks_findIn X hl).here ?_)))
  have key : wpAny (model prog w) A (runValue (.builtin "len" ⟨[.ref x], []⟩)) (fun r s' => ∃ n t, r = .int n t ∧ Q (n != 0) s') E s := by
    refine wpAny_runValue (codeAny_builtin entry_len ?_)
    rw [Around.under_plainId plain_len _]
    unfold Builtin.«len»
    refine wpAny_bind (m := oneArg "len" _) (wpAny_pure ?_)
    refine wpAny_bind (m := callSpecial? (.ref x) (Str.ofString "__len__")) (special_fn X I hl (beq_iff_eq.mp hf) (wpAny_mono h (fun r s' hr => ?_) fun _ _ y => y))
    cases r <;> first | exact hr.elim | skip
    rename_i n u
    obtain ⟨⟨h0, h1⟩, hq⟩ := hr
    refine wpAny_bind (wpAny_holding (wpAny_pure ?_))
    refine wpAny_bind (wpAny_letGo ?_)
    show wpAny _ _ (if n < 0 then _ else _) _ _ _
    rw [if_neg (by omega)]
    show wpAny _ _ (if n ≥ 2 ^ 63 then _ else _) _ _ _
    rw [if_neg (by omega)]
    exact wpAny_bind (wpAny_mkInt (wpAny_pure ⟨_, _, rfl, hq⟩))
  refine wpAny_bind (wpAny_mono key (fun r s' h' => ?_) fun _ _ e => e)
  obtain ⟨n, t, rfl, hq⟩ := h'
  exact wpAny_pure hq
theorem kbo_call {Q : Value → Shared → Prop} (X : K.In s.heap) (I : InstAt s.heap x ox C od) (hs : findIn K (.ref C) "__bool__" = some none) (hl : findIn K (.ref C) "__len__" = some (some (.ref f))) (hf : isFn K (.ref f) = true)
    (h : wpAny (model prog w) A.in1.in1.in1 (call (.ref f) [.ref x]) (NumBack fun b s' => Q (.bool b) s') E s) : wpAny (model prog w) A (call (.type "bool") [.ref x]) Q E s := by
  refine callType_codes (T := "bool") (Bi := Builtin.«object.__init__») (Q₁ := fun r s₁ => ∃ b, r = .bool b ∧ Q r s₁) PySem.F.called_bool (PySem.F.typeCall_bool_1 _) PySem.F.entry_object_init ?_ ?_
  · refine codeAny_of_tree ?_
    show wpAny _ A.in1.in1 (do checkBuiltinCall "bool.__new__" ⟨[.type "bool", .ref x], []⟩; again (.builtin "bool.__new__" ⟨[.type "bool", .ref x], []⟩)) _ _ s
    refine wpAny_bind (wpAny_of_eq (PySem.F.newCall_bool_1 _) (wpAny_pure ⟨plainId_quiet (by decide +kernel) _, codeAny_builtin PySem.F.entry_bool_new ?_⟩))
    rw [Around.under_plainId (by decide +kernel) _]
    unfold Builtin.«bool.__new__»
    have f1 := PySem.F.conv_sub_bool
    have T : wpAny (model prog w) A.in1.in1 (truthy (.ref x)) (fun b s' => Q (.bool b) s') E s := truthy_KL X I hs hl hf h
    refine wpAny_bind ?_
    repeat (first | (with_reducible refine wpAny_bind (wpAny_mono T (fun b s' q => ?_) fun _ _ e => e)) | wp_step)
    exact ⟨b, rfl, q⟩
  · rintro obj s₁ ⟨b, rfl, hq⟩
    exact ⟨typeIs_bool _ _, PySem.F.args_object_init_2 _ _, object_init_meets PySem.F.called_bool.init.lookup PySem.F.called_bool.made (by decide) prog w A.in1 _ s₁ ⟨typeIs_bool _ _, rfl, hq⟩⟩
theorem pyRepr_own {Q : Value → Shared → Prop} (hu : A.units < cLine) (X : K.In s.heap) (I : InstAt s.heap x ox C od) (hs : findIn K (.ref C) "__repr__" = some (some (.ref f))) (hf : isFn K (.ref f) = true)
    (h : wpAny (model prog w) A (call (.ref f) [.ref x]) (StrBack Q) E s) : wpAny (model prog w) A (pyReprObj (.ref x)) Q E s := by
  unfold pyReprObj
  refine wpAny_bind (m := cRoomFor _ _) (wpAny_cRoomFor hu ?_)
  refine wpAny_bind (wpAny_bind (I.type.here ((looks_findIn X hs).here ?_)))
  show wpAny _ _ (if (some (Value.ref f)).isNone = true then _ else _) _ _ _
  rw [if_neg (by simp)]
  refine wpAny_bind (m := callSpecialIfBound? (.ref x) (Str.ofString "__repr__") _) (ifBound_K X I hs hf (wpAny_mono h (fun r s' hr => ?_) fun _ _ y => y))
  cases r <;> first | exact hr.elim | skip
  refine wpAny_bind (wpAny_isInstance (typeIs_str _ _ _) isSubtype_str_str ?_)
  first
    | exact wpAny_pure hr
    | (rw [if_pos rfl]; exact wpAny_pure hr)
    | (simp only [if_true]; exact wpAny_pure hr)
end
end PySem.W
namespace Gx
open PySem PySem.Spec PyProof.Rows L2
section
variable {X : Cx} {k j : Nat} {ps : List Str} {sp : Sp} {d : He.DefD} {C : Addr}
/-- bool(x) by the own __len__ -/
def rOBool (C : Addr) (sp : Sp) (xs : List V) (H : Hp) (Q : VK) : Prop := ∃ x, xs = [x] ∧ InsAt C H x ∧ sp [x] H (fun v H' => ∃ n : Int, v = .int n ∧ (0 ≤ n ∧ n < 2 ^ 63) ∧ Q (.bl (n != 0)) H') E0
theorem call_obool (D : DOk X.prog X.w X.K X.mg X.base d CX0 k ps sp) (hm : Meth X.K C "__len__" (He.fAd X.K d.at_)) (hnb : PySem.W.findIn X.K (.ref C) "__bool__" = some none) (hb : BdN d ps) (hr : Room j X.A) (hj : k + 3 ≤ j) : CallR X (.type "bool") (rOBool C sp) := by
  obtain ⟨fd, F, G⟩ := D.ex
  intro pins s σ H xs us Q I r h
  obtain ⟨x, rfl, ⟨a, dx, fl, rfl, ha⟩, h⟩ := h
  obtain ⟨u, rfl, rx⟩ := vals1 r
  cases rx
  obtain ⟨mA, J, _⟩ := ins_get I.hok ha
  obtain ⟨od, J, _⟩ := J.look
  have hr : Room (k + 3) X.A := hr.mono hj
  refine PySem.W.kbo_call I.kIn J hnb hm.at_ hm.fn ?_
  refine wpAny_mono (run_fnA (us := [.ref a]) (vs := [.ref a]) (dvs := []) (ds := []) G hr.in1.in1.in1 rfl (FunD.bdN F hb) .nil pass0 I (.cons rfl .nil) h) (fun r s' z => ?_) fun _ _ x => x
  obtain ⟨w, H', I', rw_, n, rfl, hn, q⟩ := z
  obtain ⟨t, rfl⟩ := rw_
  exact ⟨hn, .bl (n != 0), H', I'.tok _, rfl, q⟩
/-- {x!r} by the own __repr__ -/
def tFmtRO (C : Addr) (sp : Sp) (te : TE) : TE := fun σ H Q => te σ H fun x H1 => InsAt C H1 x ∧ sp [x] H1 (fun v H' => ∃ z : Str, v = .str z ∧ z.length ≤ sizeLine ∧ Q (.str z) H') E0
theorem pe_fmtRO {e : Expr} {te : TE} {pos : Pos} (D : DOk X.prog X.w X.K X.mg X.base d CX0 k ps sp) (hm : Meth X.K C "__repr__" (He.fAd X.K d.at_)) (hb : BdN d ps) (hr : Room j X.A) (hj : k ≤ j) (he : PE X e te) : PE X (.FormattedValue e 114 none pos) (tFmtRO C sp te) := by
  obtain ⟨fd, F, G⟩ := D.ex
  refine ⟨fun pins s σ H Q I h => ?_⟩
  refine wpAny_FormattedValue_repr (thn (he.run pins s σ H _ I h) fun v s1 ⟨x, H1, I1, r1, ⟨a, dx, fl, ex, ha⟩, h1⟩ => ?_)
  subst ex
  cases r1
  obtain ⟨mA, J, _⟩ := ins_get I1.hok ha
  obtain ⟨od, J, _⟩ := J.look
  have hr : Room k X.A := hr.mono hj
  refine PySem.W.pyRepr_own (by have := hr.un; omega) I1.kIn J hm.at_ hm.fn ?_
  refine wpAny_mono (run_fnA (us := [.ref a]) (vs := [.ref a]) (dvs := []) (ds := []) G hr rfl (FunD.bdN F hb) .nil pass0 I1 (.cons rfl .nil) h1) (fun r s' z => ?_) fun _ _ x => x
  obtain ⟨w, H', I', rw_, y, rfl, hz, q⟩ := z
  obtain ⟨t, rfl⟩ := rw_
  exact wpAny_formatField_str ⟨.str y, H', I', ⟨t, rfl⟩, q⟩ ⟨.str y, H', I'.tok _, ⟨_, rfl⟩, q⟩ hz
end
end Gx
namespace Qx
open PySem PySem.Spec PyProof.Rows L2 Gx
section
variable {K : PySem.W.Frag} {C : Str} {mf : MF} {E : XM} {te : TE} {fa : EF}
/-- bool(x) by the own __len__ m -/
def oboolP (C : Str) (m : MF) (ps : List PV) (O : Sto) : PR PV := match ps with
  | [p] => if insIs O C p = true then (noX (m [p] O)).bind fun r O1 => match r with
    | .int n => if (decide (0 ≤ n) && decide (n < 2 ^ 63)) = true then .ok (.bl (n != 0)) O1 else .bad
    | _ => .bad else .bad
  | _ => .bad
theorem cb_obool : CbS K (rOBool (He.ga K C) (spM K false mf)) (oboolP C mf) := by
  intro R ι O H ps xs E Q S r h
  match ps, h with
  | [], h => exact h.elim
  | _ :: _ :: _, h => exact h.elim
  | [p], h =>
    obtain ⟨x, t, e, r1, e2⟩ := r
    cases e2
    subst e
    unfold oboolP at h
    simp only at h
    split at h
    · rename_i c
      exact ⟨x, rfl, insIs_read S r1 c, R, ι, O, [p], S, .one r1, Post.noX (E := E) (Post.bind h fun r O1 v ι1 H1 S1 X1 r3 h1 => by
        cases r with
        | int n =>
          simp only at h1
          split at h1
          · rename_i cc
            obtain ⟨c1, c2⟩ := Bool.and_eq_true_iff.mp cc
            exact ⟨n, r3, ⟨of_decide_eq_true c1, of_decide_eq_true c2⟩, h1.here S1 rfl⟩
          · exact h1.elim
        | _ => exact h1.elim)⟩
    · exact h.elim
/-- {x!r} of an own instance -/
def eFmtRO (C : Str) (m : MF) (fa : EF) : EF := fun s O => (fa s O).bind fun p O1 => if insIs O1 C p = true then (noX (m [p] O1)).bind fun r O2 => match r with
  | .str z => if z.length ≤ sizeLine then .ok (.str z) O2 else .bad
  | _ => .bad else .bad
theorem sim_fmtRO (ha : SimE K E te fa) : SimE K E (tFmtRO (He.ga K C) (spM K false mf) te) (eFmtRO C mf fa) := fun R ι O H σ s Q S L h =>
  ha R ι O H σ s _ S L (h.bind fun p O1 x ι1 H1 S1 X1 r1 h1 => by
    split at h1
    · rename_i c
      exact ⟨insIs_read S1 r1 c, R, ι1, O1, [p], S1, .one r1, Post.noX (Post.bind h1 fun r O2 v ι2 H2 S2 X2 r3 h2 => by
        cases r with
        | str z =>
          simp only at h2
          split at h2
          · rename_i cc
            exact ⟨z, r3, cc, h2.here S2 rfl⟩
          · exact h2.elim
        | _ => exact h2.elim)⟩
    · exact h1.elim)
end
end Qx

/-! Own layer Xl: == of an own instance and any thing. -/
namespace Gx
open PySem PySem.Spec PyProof.Rows L2
theorem cls_looks {M : Model} {h : Heap} {a : Addr} {o : Obj} {T : String} (e : h.get? a = some o) (ec : o.cls = .type T) : PySem.W.Looks M h (typeOf (.ref a)) (.type T) := by
  rw [← ec]
  exact (PySem.W.Looks.ld (part := none) e).andThen .now
theorem ty_looks {X : Cx} {pins : List (Addr × Obj)} {σ : L2.St} {H : Hp} {s : Shared} {x : V} {u t : Value} (I : Inv X pins σ H s) (rx : RelV x u) (ty : TyOf X.K H x t) : PySem.W.Looks (model X.prog X.w) s.heap (typeOf u) t := by
  cases ty with
  | non => cases (show u = Value.none from rx); exact PySem.W.Looks.of_pure rfl
  | bl y => cases (show u = Value.bool y from rx); exact PySem.W.Looks.of_pure rfl
  | int i => obtain ⟨t, q⟩ := (show ∃ t, u = Value.int i t from rx); cases q; exact PySem.W.Looks.of_pure rfl
  | str y => obtain ⟨t, q⟩ := (show ∃ t, u = Value.str y t from rx); cases q; exact PySem.W.Looks.of_pure rfl
  | flt y => obtain ⟨t, q⟩ := (show ∃ t, u = Value.float y t from rx); cases q; exact PySem.W.Looks.of_pure rfl
  | @lst a xs ea =>
    cases (show u = Value.ref a from rx)
    obtain ⟨_, _, n, _, h1⟩ := (show ObjOk X.prog X.w H s.heap a (.lst xs) from I.hok a _ ea)
    exact cls_looks h1 rfl
  | @frz a ob xs ea =>
    cases (show u = Value.ref a from rx)
    obtain ⟨_, _, _, n, _, h1⟩ := (show ObjOk X.prog X.w H s.heap a (.frz ob (.lst xs)) from I.hok a _ ea)
    exact cls_looks h1 rfl
  | @tup a xs ea =>
    cases (show u = Value.ref a from rx)
    obtain ⟨_, _, _, p⟩ := (show ObjOk X.prog X.w H s.heap a (.tup xs) from I.hok a _ ea)
    obtain ⟨o, h1, h2, _⟩ := p
    exact cls_looks h1 h2
  | @dK a kvs ea =>
    cases (show u = Value.ref a from rx)
    obtain ⟨_, _, vs, _, p⟩ := (show ObjOk X.prog X.w H s.heap a (.dK kvs) from I.hok a _ ea)
    obtain ⟨o, es, ep, h1, h2, _⟩ := p
    exact cls_looks h1 h2.1
  | @dT a kvs ea =>
    cases (show u = Value.ref a from rx)
    obtain ⟨_, _, xs, _, o, es, ep, h1, h2, _⟩ := (show ObjOk X.prog X.w H s.heap a (.dT kvs) from I.hok a _ ea)
    exact cls_looks h1 h2.1
  | @ins a C dx fs ea cl ha hn htk hm =>
    cases (show u = Value.ref a from rx)
    obtain ⟨mA, O, _⟩ := ins_get I.hok ea
    obtain ⟨od, J, _⟩ := O.look
    exact J.type
theorem tyx_looks {X : Cx} {pins : List (Addr × Obj)} {σ : L2.St} {H : Hp} {s : Shared} {x : V} {u t : Value} (I : Inv X pins σ H s) (rx : RelV x u) (ty : TyX X.K H x t) : PySem.W.Looks (model X.prog X.w) s.heap (typeOf u) t := by
  cases ty with
  | base b => exact ty_looks I rx b
  | byt y => obtain ⟨t, q⟩ := (show ∃ t, u = Value.bytes y t from rx); cases q; exact PySem.W.Looks.of_pure rfl
  | @set a S n ea =>
    cases (show u = Value.ref a from rx)
    obtain ⟨o, _, _, _, e, ex, _⟩ := I.hok a _ ea
    exact cls_looks e ex.1
  | @kList a o e c =>
    cases (show u = Value.ref a from rx)
    exact cls_looks (I.kIn a o e) c
  | @kTuple a o e c =>
    cases (show u = Value.ref a from rx)
    exact cls_looks (I.kIn a o e) c
  | @kDict a o e c =>
    cases (show u = Value.ref a from rx)
    exact cls_looks (I.kIn a o e) c
  | @fTuple a ob xs ea =>
    cases (show u = Value.ref a from rx)
    obtain ⟨_, _, _, _, o, h1, h2, _⟩ := (show ObjOk X.prog X.w H s.heap a (.frz ob (.tup xs)) from I.hok a _ ea)
    exact cls_looks h1 h2
  | @fDict a ob kvs ea =>
    cases (show u = Value.ref a from rx)
    obtain ⟨_, _, _, vs, _, o, es, ep, h1, h2, _⟩ := (show ObjOk X.prog X.w H s.heap a (.frz ob (.dK kvs)) from I.hok a _ ea)
    exact cls_looks h1 h2.1
section
variable {X : Cx} {k j : Nat} {ps : List Str} {sp : Sp} {d : He.DefD} {C : Addr}
/-- x == y by the own __eq__ of C, y any thing -/
def rOEqA (K : PySem.W.Frag) (C : Addr) (sp : Sp) : R2 := fun x y H Q => InsAt C H x ∧ (∃ t, TyX K H y t ∧ PySem.W.notFirst K C t = true) ∧ sp [x, y] H (fun v H' => ∃ b, v = .bl b ∧ Q (.bl b) H') E0
theorem op_oeqA (D : DOk X.prog X.w X.K X.mg X.base d CX0 k ps sp) (hm : Meth X.K C "__eq__" (He.fAd X.K d.at_)) (hb : BdN d ps) (hr : Room j X.A) (hj : k ≤ j) : OpR X (compareOp .Eq) (rOEqA X.K C sp) := by
  obtain ⟨fd, F, G⟩ := D.ex
  intro pins s σ H x y v u Q I rx ry hq
  obtain ⟨⟨a, dx, fl, rfl, ha⟩, ⟨t, ty, hn⟩, h⟩ := hq
  cases rx
  show wpAny (model X.prog X.w) X.A (richCompare .Eq (.ref a) u) (EP X pins σ Q) X.xe s
  obtain ⟨mA, J, _⟩ := ins_get I.hok ha
  obtain ⟨od, J, _⟩ := J.look
  obtain ⟨m, hF⟩ := I.fr
  have hr := hr.mono hj
  refine PySem.W.cmp_K (op := .Eq) (tb := t) hr.units0 hF I.ok.mod.kin J (tyx_looks I ry ty) hn hm.at_ hm.fn ?_
  refine wpAny_mono (run_fnA (us := [.ref a, u]) (vs := [.ref a, y]) (dvs := []) (ds := []) G hr rfl (FunD.bdN F hb) .nil pass0 I (.cons rfl (.cons ry .nil)) h) (fun r s' z => ?_) fun _ _ x => x
  obtain ⟨w, H', I', rw_, bb, rfl, q⟩ := z
  cases rw_
  exact ⟨.bl bb, H', I', rfl, q⟩
/-- x != y, y any thing -/
def rONeA (K : PySem.W.Frag) (C : Addr) (sp : Sp) : R2 := fun x y H Q => InsAt C H x ∧ (∃ t, TyX K H y t ∧ PySem.W.notFirst K C t = true) ∧ sp [x, y] H (fun v H' => ∃ b, v = .bl b ∧ Q (.bl (!b)) H') E0
theorem op_oneA (D : DOk X.prog X.w X.K X.mg X.base d CX0 k ps sp) (hm : Meth X.K C "__eq__" (He.fAd X.K d.at_)) (hmo : PySem.W.mroIn X.K C (.type "object") = some true) (hne : PySem.W.findIn X.K (.ref C) "__ne__" = some (some (.builtin "object.__ne__"))) (hb : BdN d ps) (hr : Room j X.A) (hj : k + 1 ≤ j) : OpR X (compareOp .NotEq) (rONeA X.K C sp) := by
  obtain ⟨fd, F, G⟩ := D.ex
  intro pins s σ H x y v u Q I rx ry hq
  obtain ⟨⟨a, dx, fl, rfl, ha⟩, ⟨t, ty, hn⟩, h⟩ := hq
  cases rx
  show wpAny (model X.prog X.w) X.A (richCompare .NotEq (.ref a) u) (EP X pins σ Q) X.xe s
  obtain ⟨mA, J, _⟩ := ins_get I.hok ha
  obtain ⟨od, J, _⟩ := J.look
  have hr := hr.mono hj
  refine ne_own (by have := hr.units; omega) I.kIn J (tyx_looks I ry ty) hn hmo hne hm.at_ hm.fn ?_
  refine wpAny_mono (run_fnA (us := [.ref a, u]) (vs := [.ref a, y]) (dvs := []) (ds := []) G hr.in1 rfl (FunD.bdN F hb) .nil pass0 I (.cons rfl (.cons ry .nil)) h) (fun r s' z => ?_) fun _ _ x => x
  obtain ⟨w, H', I', rw_, bb, rfl, q⟩ := z
  cases rw_
  exact ⟨bb, rfl, .bl (!bb), H', I', rfl, q⟩
end
end Gx
namespace Qx
open PySem PySem.Spec PyProof.Rows L2 Gx
section
variable {K : PySem.W.Frag} {cs : List Str} {C : Str} {mf : MF}
structure NfK (K : PySem.W.Frag) (cs : List Str) : Prop where
  t : ∀ C ∈ cs, ∀ T ∈ KT, PySem.W.notFirst K (He.ga K C) (.type T) = true
  c : ∀ C ∈ cs, ∀ D ∈ cs, PySem.W.notFirst K (He.ga K C) (.ref (He.ga K D)) = true
theorem NfK.of (h : nfAll K cs = true) : NfK K cs := by
  have one := fun C (hC : C ∈ cs) => Bool.and_eq_true_iff.mp (List.all_eq_true.mp h C hC)
  exact ⟨fun C hC T hT => List.all_eq_true.mp (one C hC).1 T hT, fun C hC D hD => List.all_eq_true.mp (one C hC).2 D hD⟩
def tyIn (cs : List Str) : Sum String Str → Bool
  | .inl a => KT.contains a
  | .inr D => cs.contains D
def oeqA (cs : List Str) (C : Str) (m : MF) (p q : PV) (O : Sto) : PR PV := match tyOf O q with
  | some t => if (insIs O C p && (tyIn cs t && cs.contains C)) = true then boolR false (m [p, q] O) else .bad
  | none => .bad
def oneA (cs : List Str) (C : Str) (m : MF) (p q : PV) (O : Sto) : PR PV := match tyOf O q with
  | some t => if (insIs O C p && (tyIn cs t && cs.contains C)) = true then boolR true (m [p, q] O) else .bad
  | none => .bad
theorem tyIn_nf {t : Sum String Str} (nk : NfK K cs) (h : tyIn cs t = true) (hC : cs.contains C = true) : PySem.W.notFirst K (He.ga K C) (tyV' K t) = true := by
  have hC := List.contains_iff_mem.mp hC
  cases t with
  | inl a => exact nk.t C hC a (List.contains_iff_mem.mp h)
  | inr D => exact nk.c C hC D (List.contains_iff_mem.mp h)
theorem os_oeqA (ck : ClsK K cs) (nk : NfK K cs) : OpS K (rOEqA K (He.ga K C) (spM K false mf)) (oeqA cs C mf) := by
  intro R ι O H p q x y E Q S r1 r2 h
  unfold oeqA at h
  cases e : tyOf O q with
  | none => rw [e] at h; exact h.elim
  | some t =>
    rw [e] at h
    simp only at h
    split at h
    · rename_i c
      obtain ⟨c1, c2⟩ := Bool.and_eq_true_iff.mp c
      obtain ⟨c2, c3⟩ := Bool.and_eq_true_iff.mp c2
      exact ⟨insIs_read S r1 c1, ⟨_, ty_read ck S r2 e (fun D hD => by subst hD; exact List.contains_iff_mem.mp c2), tyIn_nf nk c2 c3⟩, R, ι, O, [p, q], S, .consR r1 (.one r2), Post.noX (E := E) (Post.bind h fun r O1 v ι1 H1 S1 X1 r3 h1 => by
        cases r with
        | bl b => exact ⟨b, r3, h1.here S1 rfl⟩
        | _ => exact h1.elim)⟩
    · exact h.elim
theorem os_oneA (ck : ClsK K cs) (nk : NfK K cs) : OpS K (rONeA K (He.ga K C) (spM K false mf)) (oneA cs C mf) := by
  intro R ι O H p q x y E Q S r1 r2 h
  unfold oneA at h
  cases e : tyOf O q with
  | none => rw [e] at h; exact h.elim
  | some t =>
    rw [e] at h
    simp only at h
    split at h
    · rename_i c
      obtain ⟨c1, c2⟩ := Bool.and_eq_true_iff.mp c
      obtain ⟨c2, c3⟩ := Bool.and_eq_true_iff.mp c2
      exact ⟨insIs_read S r1 c1, ⟨_, ty_read ck S r2 e (fun D hD => by subst hD; exact List.contains_iff_mem.mp c2), tyIn_nf nk c2 c3⟩, R, ι, O, [p, q], S, .consR r1 (.one r2), Post.noX (E := E) (Post.bind h fun r O1 v ι1 H1 S1 X1 r3 h1 => by
        cases r with
        | bl b => exact ⟨b, r3, h1.here S1 rfl⟩
        | _ => exact h1.elim)⟩
    · exact h.elim
end
end Qx

/-! Own layer Xm: str of texts and numbers; facts of own classes that show themselves. -/
namespace Qx
open PySem PySem.Spec PyProof.Rows L2 Gx
section
variable {K : PySem.W.Frag}
def bStrS := b1 fun p O => match p with
  | .str z => .ok (.str z) O
  | _ => .bad
theorem cb_strS : CbS K (fun xs H Q => ∃ a, xs = [.str a] ∧ Q (.str a) H) bStrS := cb_1 fun R ι O H p x E Q S r h => by
  cases p with
  | str z => exact ⟨z, by rw [show x = .str z from r], h.here S rfl⟩
  | _ => exact h.elim
def bStrI := b1 fun p O => match p with
  | .int i => if i.natAbs.log2 < 1920 then .ok (.str (toString i)) O else .bad
  | _ => .bad
theorem cb_strI : CbS K (fun xs H Q => ∃ i, xs = [.int i] ∧ i.natAbs.log2 < 1920 ∧ Q (.str (toString i)) H) bStrI := cb_1 fun R ι O H p x E Q S r h => by
  cases p with
  | int i =>
    simp only at h
    split at h
    · rename_i c
      exact ⟨i, by rw [show x = .int i from r], c, h.here S rfl⟩
    · exact h.elim
  | _ => exact h.elim
structure ShK (K : PySem.W.Frag) (cs : List Str) : Prop where
  nb : ∀ C ∈ cs, PySem.W.findIn K (.ref (He.ga K C)) "__bool__" = some none
  fm : ∀ C ∈ cs, PySem.W.findIn K (.ref (He.ga K C)) "__format__" = some (some (.builtin "object.__format__"))
theorem ShK.of {cs : List Str} (h : shB K cs = true) : ShK K cs := by
  have one := fun C (hC : C ∈ cs) => Bool.and_eq_true_iff.mp (List.all_eq_true.mp h C hC)
  exact ⟨fun C hC => He.eqO_ok (one C hC).1, fun C hC => He.eqO_ok (one C hC).2⟩
end
end Qx

/-! Own layer Xn: x in a list whose items are compared by an own ==. -/
namespace GQ
open PySem PySem.SeqAt
open AutoSeq1 (wpAny_loadPart')
open MeetsSeq MeetsSeq2 MeetsSeq3 SeqRoads2
section
variable {prog : Program} {w : World} {A : Around} {R : Result → Shared → Prop}
/-- at each turn the list is read anew: N items -/
def InI (prog : Program) (w : World) (A : Around) (R : Result → Shared → Prop) (l : Addr) (x : Value) (N : Nat) (I : Nat → Shared → Prop) : Prop :=
  ∀ i s, I i s → ∃ (items : Array Value) (n : Nat) (dd : Option Addr) (sl : Array (Option Value)), s.heap.get? l = some { cls := .type "list", dict := dd, data := .seq items n, slots := sl } ∧ items.size = N ∧
    ∀ (h1 : i < items.size), wpAny (model prog w) A.in1 (eqBool items[i] x) (fun r s' => if r = true then R (.ok (.ret (.bool true))) s' else I (i + 1) s') (fun e s' => R (.error e) s') s
theorem in_loopG (l : Addr) (x : Value) (N : Nat) (I : Nat → Shared → Prop) (hl : InI prog w A R l x N I) (fin : ∀ s, I N s → R (.ok (.ret (.bool false))) s) (k : Nat) :
    ∀ i : Nat, N - i = k → i ≤ N → ∀ s, I i s → wpAny (model prog w) A.in1 (Builtin.«list.__contains__.loop» ⟨[.ref l, x, rawInt i], []⟩) (FinOf prog w A R) (fun e s' => R (.error e) s') s := by
  induction k with
  | zero =>
    intro i hk hi s h
    obtain ⟨items, n, dd, sl, hl1, hs1, _⟩ := hl _ _ h
    have hi' : i = N := by omega
    have hR : R (.ok (.ret (.bool false))) s := fin s (hi' ▸ h)
    obtain ⟨hp, g, d, tk, os⟩ := s
    wp_walk using wpAny_loadPart' hl1
    have hi1 : items[((i : Nat) : Int).toNat]? = none := by simp; omega
    rw [hi1]
    wp_walk
    exact hR
  | succ k ih =>
    intro i hk hi s h
    obtain ⟨items, n, dd, sl, hl1, hs1, turn⟩ := hl _ _ h
    have hlt : i < items.size := by omega
    have ht := turn hlt
    obtain ⟨hp, g, d, tk, os⟩ := s
    wp_walk using wpAny_loadPart' hl1
    have hi1 : items[((i : Nat) : Int).toNat]? = some items[i] := by simp [hlt]
    have hc : ((i : Int) + 1) = ((i + 1 : Nat) : Int) := by omega
    rw [hi1]
    refine wpAny_bind (wpAny_mono ht (fun r s2 h2 => ?_) fun _ _ x => x)
    cases r with
    | true =>
      obtain ⟨hp2, g2, d2, tk2, os2⟩ := s2
      wp_walk
      exact h2
    | false =>
      have hrec := ih (i + 1) (by omega) (by omega) s2 h2
      obtain ⟨hp2, g2, d2, tk2, os2⟩ := s2
      wp_walk
      rw [hc]
      exact ⟨plainId_quiet plain_contains_loop _, codeAny_builtin entry_contains_loop (by
        rw [Around.under_plainId plain_contains_loop _]
        exact hrec)⟩
theorem list_inG (l : Addr) (x : Value) (N : Nat) (I : Nat → Shared → Prop) (hl : InI prog w A R l x N I) (fin : ∀ s, I N s → R (.ok (.ret (.bool false))) s) {s : Shared} (h : I 0 s) :
    wpAny (model prog w) A.in1 (Builtin.«list.__contains__» ⟨[.ref l, x], []⟩) (FinOf prog w A R) (fun e s' => R (.error e) s') s := by
  have hrec := in_loopG l x N I hl fin _ 0 rfl (Nat.zero_le _) s h
  obtain ⟨hp, g, d, tk, os⟩ := s
  wp_walk
  exact ⟨plainId_quiet plain_contains_loop _, codeAny_builtin entry_contains_loop (by
    rw [Around.under_plainId plain_contains_loop _]
    exact hrec)⟩
end
section
variable {prog : Program} {w : World} {A : Around} {E : Value → Shared → Prop} {s : Shared}
theorem in_listG {l : Addr} {x : Value} {N : Nat} {Q : Value → Shared → Prop} (I : Nat → Shared → Prop)
    (hl : ∀ i s, I i s → ∃ (items : Array Value) (n : Nat) (dd : Option Addr) (sl : Array (Option Value)), s.heap.get? l = some { cls := .type "list", dict := dd, data := .seq items n, slots := sl } ∧ items.size = N ∧
      ∀ (h1 : i < items.size), wpAny (model prog w) A.in1 (eqBool items[i] x) (fun r s' => if r = true then Q (.bool true) s' else I (i + 1) s') E s)
    (fin : ∀ s, I N s → Q (.bool false) s) (h : I 0 s) : wpAny (model prog w) A (compareOp .In x (.ref l)) Q E s := by
  obtain ⟨items, n, dd, sl, hl1, _⟩ := hl _ _ h
  show wpAny _ A (do return .bool (← contains (.ref l) x)) Q E s
  have hT : s.TypeIs (.ref l) "list" := ⟨_, hl1, rfl⟩
  refine wpAny_bind (wpAny_contains_slot hT F.slot_list_contains (wpAny_mono (call_here (Q := fun v s' => ∃ b, v = .bool b ∧ Q (.bool b) s') F.slot_list_contains hT F.entry_list_contains (F.args_list_contains_2 _ _) (list_inG (R := wants (fun v s' => ∃ b, v = .bool b ∧ Q (.bool b) s') E) l x N I ?_ ?_ h)) (fun v s' hv => ?_) fun _ _ e => e))
  · intro i s1 h1
    obtain ⟨items, n, dd, sl, e1, e2, e3⟩ := hl i s1 h1
    refine ⟨items, n, dd, sl, e1, e2, fun h2 => wpAny_mono (e3 h2) (fun r s' z => ?_) fun _ _ e => e⟩
    cases r with
    | true => exact ⟨true, rfl, z⟩
    | false => exact z
  · exact fun s1 h1 => ⟨false, rfl, fin s1 h1⟩
  · obtain ⟨b, rfl, hq⟩ := hv
    exact wpAny_truthy_bool (wpAny_pure hq)
end
end GQ
namespace HN
open PySem PySem.Spec PyProof.Rows PySem.SeqAt
section
variable {M : Model} {prog : Program} {w : World} {A : Around} {E : Value → Shared → Prop} {s : Shared} {K : PySem.W.Frag} {x C f : Addr} {ox : Obj} {od : Option Obj}
/-- None == x goes by the reflected own __eq__ of x -/
theorem eq_noneOwn {Q : Bool → Shared → Prop} (hu : A.units < cLine) (X : K.In s.heap) (I : PySem.W.InstAt s.heap x ox C od) (hsub : PySem.W.subIn K (.ref C) (.type "NoneType") = some false) (hs : PySem.W.findIn K (.ref C) "__eq__" = some (some (.ref f))) (hf : PySem.W.isFn K (.ref f) = true)
    (h : wpAny (model prog w) A (call (.ref f) [.ref x, .none]) (fun v s' => ∃ b, v = .bool b ∧ Q b s') E s) : wpAny (model prog w) A (eqBool .none (.ref x)) Q E s := by
  have two : wpAny (model prog w) A (tryCompare .none "__eq__" (.ref x)) (fun r s' => r = none ∧ s' = s) E s :=
    wpAny_tryCompare_declines (show s.TypeIs .none "NoneType" from rfl) F.slot_NoneType_eq_refl (call_gives F.slot_NoneType_eq_refl rfl F.entry_NoneType_eq (F.args_NoneType_eq_2 _ _) (NoneType___eq___none_ref_0 x) ⟨rfl, rfl, rfl⟩)
  have one : wpAny (model prog w) A (tryCompare (.ref x) "__eq__" .none) (fun r s' => ∃ b, r = some (.bool b) ∧ Q b s') E s := by
    unfold tryCompare
    refine wpAny_bind (PySem.W.ifBound_K X I hs hf (wpAny_mono h (fun v s' hv => ?_) fun _ _ e => e))
    obtain ⟨b, rfl, q⟩ := hv
    exact wpAny_pure ⟨b, rfl, q⟩
  have rc : wpAny (model prog w) A (richCompare .Eq .none (.ref x)) (fun v s' => ∃ b, v = .bool b ∧ Q b s') E s := by
    simp only [richCompare, cmpInfo_Eq, oneThing_ref]
    refine wpAny_holding (wpAny_bind (wpAny_cRoomFor hu ?_))
    refine wpAny_bind (wpAny_typeOf (show s.TypeIs .none "NoneType" from rfl) ?_)
    refine wpAny_bind (I.type.here ?_)
    split
    · refine wpAny_bind ((PySem.W.looks_subIn X hsub).here ?_)
      simp only [Bool.false_eq_true, if_false, Bool.not_false, if_true]
      refine wpAny_bind (m := tryCompare .none _ (.ref x)) (wpAny_mono two (fun r s2 z => ?_) fun _ _ e => e)
      obtain ⟨z1, z2⟩ := z
      subst z1
      subst z2
      refine wpAny_bind (m := tryCompare (.ref x) _ .none) (wpAny_mono one (fun r s1 z => ?_) fun _ _ e => e)
      obtain ⟨b, z1, q⟩ := z
      subst z1
      exact wpAny_pure ⟨b, rfl, q⟩
    · rename_i q
      exact absurd (by simp) q
  unfold eqBool
  refine wpAny_holding ?_
  refine wpAny_ite_split (fun hab => absurd (eq_of_beq hab) nofun) (fun _ => ?_)
  refine wpAny_bind (wpAny_mono rc (fun v s' z => ?_) fun _ _ e => e)
  obtain ⟨b, rfl, q⟩ := z
  exact wpAny_truthy_bool q
end
end HN

/-! Own layer Xo: x in a list of None and own instances, x an own instance, by its own ==. -/
namespace GQ
open PySem PySem.SeqAt
open AutoSeq1 (wpAny_loadPart')
open MeetsSeq MeetsSeq2 MeetsSeq3 SeqRoads2
section
variable {prog : Program} {w : World} {A : Around} {E : Value → Shared → Prop} {s : Shared}
theorem notIn_listG {l : Addr} {x : Value} {N : Nat} {Q : Value → Shared → Prop} (I : Nat → Shared → Prop)
    (hl : ∀ i s, I i s → ∃ (items : Array Value) (n : Nat) (dd : Option Addr) (sl : Array (Option Value)), s.heap.get? l = some { cls := .type "list", dict := dd, data := .seq items n, slots := sl } ∧ items.size = N ∧
      ∀ (h1 : i < items.size), wpAny (model prog w) A.in1 (eqBool items[i] x) (fun r s' => if r = true then Q (.bool false) s' else I (i + 1) s') E s)
    (fin : ∀ s, I N s → Q (.bool true) s) (h : I 0 s) : wpAny (model prog w) A (compareOp .NotIn x (.ref l)) Q E s := by
  obtain ⟨items, n, dd, sl, hl1, _⟩ := hl _ _ h
  show wpAny _ A (do return .bool (!(← contains (.ref l) x))) Q E s
  have hT : s.TypeIs (.ref l) "list" := ⟨_, hl1, rfl⟩
  refine wpAny_bind (wpAny_contains_slot hT F.slot_list_contains (wpAny_mono (call_here (Q := fun v s' => ∃ b, v = .bool b ∧ Q (.bool (!b)) s') F.slot_list_contains hT F.entry_list_contains (F.args_list_contains_2 _ _) (list_inG (R := wants (fun v s' => ∃ b, v = .bool b ∧ Q (.bool (!b)) s') E) l x N I ?_ ?_ h)) (fun v s' hv => ?_) fun _ _ e => e))
  · intro i s1 h1
    obtain ⟨items, n, dd, sl, e1, e2, e3⟩ := hl i s1 h1
    refine ⟨items, n, dd, sl, e1, e2, fun h2 => wpAny_mono (e3 h2) (fun r s' z => ?_) fun _ _ e => e⟩
    cases r with
    | true => exact ⟨true, rfl, z⟩
    | false => exact z
  · exact fun s1 h1 => ⟨false, rfl, fin s1 h1⟩
  · obtain ⟨b, rfl, hq⟩ := hv
    exact wpAny_truthy_bool (wpAny_pure hq)
end
end GQ
namespace Gx
open PySem PySem.Spec PyProof.Rows L2
theorem ty_cls {X : Cx} {pins : List (Addr × Obj)} {σ : L2.St} {H : Hp} {s : Shared} {a : Addr} {t : Value} (I : Inv X pins σ H s) (ty : TyOf X.K H (.ref a) t) : ∃ o, s.heap.get? a = some o ∧ o.cls = t := by
  cases ty with
  | @lst a xs ea =>
    obtain ⟨_, _, n, _, h1⟩ := (show ObjOk X.prog X.w H s.heap a (.lst xs) from I.hok a _ ea)
    exact ⟨_, h1, rfl⟩
  | @frz a ob xs ea =>
    obtain ⟨_, _, _, n, _, h1⟩ := (show ObjOk X.prog X.w H s.heap a (.frz ob (.lst xs)) from I.hok a _ ea)
    exact ⟨_, h1, rfl⟩
  | @tup a xs ea =>
    obtain ⟨_, _, _, p⟩ := (show ObjOk X.prog X.w H s.heap a (.tup xs) from I.hok a _ ea)
    obtain ⟨o, h1, h2, _⟩ := p
    exact ⟨o, h1, h2⟩
  | @dK a kvs ea =>
    obtain ⟨_, _, vs, _, p⟩ := (show ObjOk X.prog X.w H s.heap a (.dK kvs) from I.hok a _ ea)
    obtain ⟨o, es, ep, h1, h2, _⟩ := p
    exact ⟨o, h1, h2.1⟩
  | @dT a kvs ea =>
    obtain ⟨_, _, xs, _, o, es, ep, h1, h2, _⟩ := (show ObjOk X.prog X.w H s.heap a (.dT kvs) from I.hok a _ ea)
    exact ⟨o, h1, h2.1⟩
  | @ins a C dx fs ea cl ha hn htk hm =>
    obtain ⟨mA, O, _⟩ := ins_get I.hok ea
    obtain ⟨od, J, _⟩ := O.look
    exact ⟨_, J.at_, J.cls⟩
theorem tyx_cls {X : Cx} {pins : List (Addr × Obj)} {σ : L2.St} {H : Hp} {s : Shared} {a : Addr} {t : Value} (I : Inv X pins σ H s) (ty : TyX X.K H (.ref a) t) : ∃ o, s.heap.get? a = some o ∧ o.cls = t := by
  cases ty with
  | base b => exact ty_cls I b
  | @set a S n ea =>
    obtain ⟨o, _, _, _, e, ex, _⟩ := I.hok a _ ea
    exact ⟨o, e, ex.1⟩
  | @kList a o e c => exact ⟨o, I.kIn a o e, c⟩
  | @kTuple a o e c => exact ⟨o, I.kIn a o e, c⟩
  | @kDict a o e c => exact ⟨o, I.kIn a o e, c⟩
  | @fTuple a ob xs ea =>
    obtain ⟨_, _, _, _, o, h1, h2, _⟩ := (show ObjOk X.prog X.w H s.heap a (.frz ob (.tup xs)) from I.hok a _ ea)
    exact ⟨o, h1, h2⟩
  | @fDict a ob kvs ea =>
    obtain ⟨_, _, _, vs, _, o, es, ep, h1, h2, _⟩ := (show ObjOk X.prog X.w H s.heap a (.frz ob (.dK kvs)) from I.hok a _ ea)
    exact ⟨o, h1, h2.1⟩
/-- what x in a list of None and instances of C asks -/
def inO (K : PySem.W.Frag) (C : Addr) (sp : Sp) (neg : Bool) (Sq : Hp → Prop) (x : V) : List V → Hp → VK → Prop
  | [], H, Q => Sq H ∧ Q (.bl neg) H
  | y :: ys, H, Q => Sq H ∧ ((y = .non ∧ InsAt C H x ∧ sp [x, y] H (fun v H' => ∃ b, v = .bl b ∧ if b = true then Q (.bl (!neg)) H' else inO K C sp neg Sq x ys H' Q) E0)
     ∨ (InsAt C H y ∧ (∃ t, TyX K H x t ∧ PySem.W.notFirst K C t = true ∧ (y = x → t = .ref C → Q (.bl (!neg)) H)) ∧ (y ≠ x → sp [y, x] H (fun v H' => ∃ b, v = .bl b ∧ if b = true then Q (.bl (!neg)) H' else inO K C sp neg Sq x ys H' Q) E0)))
def rInO (K : PySem.W.Frag) (C : Addr) (sp : Sp) (neg : Bool) : R2 := fun x y H Q => ∃ p xs, y = .ref p ∧ inO K C sp neg (fun H => SqL K H p xs) x xs H Q
section
variable {X : Cx} {k j : Nat} {ps : List Str} {sp : Sp} {d : He.DefD} {C : Addr}
theorem inO_seq {K : PySem.W.Frag} {neg : Bool} {Sq : Hp → Prop} {ys : List V} {x : V} {H : Hp} {Q : VK} (h : inO K C sp neg Sq x ys H Q) : Sq H := by
  cases ys <;> exact h.1
theorem in_turn (D : DOk X.prog X.w X.K X.mg X.base d CX0 k ps sp) (hm : Meth X.K C "__eq__" (He.fAd X.K d.at_)) (hsub : PySem.W.subIn X.K (.ref C) (.type "NoneType") = some false) (hb : BdN d ps) (hr : Room (k + 1) X.A) {neg : Bool} {Sq : Hp → Prop} {ys : List V} {x y : V} {H : Hp} {Q : VK} {pins : List (Addr × Obj)} {σ : L2.St} {s : Shared} {v u : Value} (I : Inv X pins σ H s) (rx : RelV x v) (ry : RelV y u) (h : inO X.K C sp neg Sq x (y :: ys) H Q) : wpAny (model X.prog X.w) X.A.in1 (eqBool u v) (fun r s' => if r = true then EP X pins σ Q (.bool (!neg)) s' else ∃ H', Inv X pins σ H' s' ∧ inO X.K C sp neg Sq x ys H' Q) X.xe s := by
  obtain ⟨fd, F, G⟩ := D.ex
  obtain ⟨hS, h⟩ := h
  obtain ⟨m, hF⟩ := I.fr
  rcases h with ⟨rfl, ⟨a, dx, fl, rfl, ha⟩, h⟩ | ⟨⟨b, dy, fy, rfl, hb'⟩, ⟨t, ty, hn, h1⟩, h2⟩
  · cases rx
    obtain ⟨mA, J, _⟩ := ins_get I.hok ha
    obtain ⟨od, J, _⟩ := J.look
    cases (show u = .none from ry)
    refine HN.eq_noneOwn hr.in1.units0 I.kIn J hsub hm.at_ hm.fn ?_
    refine wpAny_mono (run_fnA (us := [.ref a, .none]) (vs := [.ref a, .non]) (dvs := []) (ds := []) G hr.in1 rfl (FunD.bdN F hb) .nil pass0 I (.cons rfl (.cons rfl .nil)) h) (fun r s' z => ?_) fun _ _ x => x
    obtain ⟨w, H', I', rw_, bb, rfl, q⟩ := z
    cases rw_
    refine ⟨bb, rfl, ?_⟩
    cases bb with
    | true => exact ⟨.bl (!neg), H', I', rfl, q⟩
    | false => exact ⟨H', I', q⟩
  · cases (show u = .ref b from ry)
    obtain ⟨mB, Jb, _⟩ := ins_get I.hok hb'
    obtain ⟨odb, Jb, _⟩ := Jb.look
    unfold eqBool
    refine wpAny_holding ?_
    refine wpAny_ite_split (fun hab => ?_) (fun hab => ?_)
    · have e : Value.ref b = v := eq_of_beq hab
      subst e
      have ex : x = .ref b := by
        cases x <;> first | (cases rx; rfl) | (obtain ⟨_, e⟩ := rx; cases e) | cases rx
      subst ex
      obtain ⟨o, g1, g2⟩ := tyx_cls I ty
      have g3 : s.heap.get? b = some _ := Jb.at_
      rw [g1] at g3
      cases g3
      have q := h1 rfl (g2.symm.trans Jb.cls)
      obtain ⟨hp, g, dd, tk, os⟩ := s
      wp_walk
      exact ⟨.bl (!neg), H, I, rfl, q⟩
    · have q := h2 fun e => hab (by subst e; cases rx; exact beq_self_eq_true _)
      refine wpAny_bind (m := richCompare .Eq (.ref b) v) (wpAny_mono (Q := fun v s' => ∃ bb, v = .bool bb ∧ (if bb = true then EP X pins σ Q (.bool (!neg)) s' else ∃ H', Inv X pins σ H' s' ∧ inO X.K C sp neg Sq x ys H' Q)) (PySem.W.cmp_K (op := .Eq) (tb := t) hr.in1.units0 hF I.ok.mod.kin Jb (tyx_looks I rx ty) hn hm.at_ hm.fn ?_) (fun v s' z => ?_) fun _ _ e => e)
      · refine wpAny_mono (run_fnA (us := [.ref b, v]) (vs := [.ref b, x]) (dvs := []) (ds := []) G hr.in1 rfl (FunD.bdN F hb) .nil pass0 I (.cons rfl (.cons rx .nil)) q) (fun r s' z => ?_) fun _ _ x => x
        obtain ⟨w, H', I', rw_, bb, rfl, q⟩ := z
        cases rw_
        cases bb with
        | true => exact ⟨true, rfl, .bl (!neg), H', I', rfl, q⟩
        | false => exact ⟨false, rfl, H', I', q⟩
      · obtain ⟨bb, rfl, z⟩ := z
        exact wpAny_truthy_bool z
theorem op_inO (D : DOk X.prog X.w X.K X.mg X.base d CX0 k ps sp) (hm : Meth X.K C "__eq__" (He.fAd X.K d.at_)) (hsub : PySem.W.subIn X.K (.ref C) (.type "NoneType") = some false) (hb : BdN d ps) (hr : Room j X.A) (hj : k + 1 ≤ j) : OpR X (compareOp .In) (rInO X.K C sp false) := by
  have hr := hr.mono hj
  intro pins s σ H x y v u Q I rx ry hq
  obtain ⟨p, xs, rfl, h⟩ := hq
  cases ry
  refine GQ.in_listG (N := xs.length) (fun i s => ∃ H', Inv X pins σ H' s ∧ inO X.K C sp false (fun H => SqL X.K H p xs) x (xs.drop i) H' Q) ?_ ?_ ⟨H, I, by simpa using h⟩
  · intro i s1 ⟨H1, I1, h1⟩
    obtain ⟨its, r, pl, hz⟩ := I1.list (inO_seq h1)
    obtain ⟨o, n, e, e1, e2, e3⟩ := pl
    refine ⟨its.toArray, n, o.dict, o.slots, ?_, by rw [List.size_toArray, r.length], fun hlt => ?_⟩
    · rw [e, ← e1, ← e3]
    · rw [List.size_toArray, ← r.length] at hlt
      obtain ⟨u, hu, ru⟩ := r.get (List.getElem?_eq_getElem hlt)
      rw [List.drop_eq_getElem_cons hlt] at h1
      have e5 : its.toArray[i] = u := by
        have := List.getElem?_eq_some_iff.mp hu
        obtain ⟨_, e6⟩ := this
        simpa using e6
      rw [e5]
      exact in_turn D hm hsub hb hr I1 rx ru h1
  · intro s1 ⟨H1, I1, h1⟩
    rw [List.drop_length] at h1
    exact ⟨.bl false, H1, I1, rfl, h1.2⟩
theorem op_notInO (D : DOk X.prog X.w X.K X.mg X.base d CX0 k ps sp) (hm : Meth X.K C "__eq__" (He.fAd X.K d.at_)) (hsub : PySem.W.subIn X.K (.ref C) (.type "NoneType") = some false) (hb : BdN d ps) (hr : Room j X.A) (hj : k + 1 ≤ j) : OpR X (compareOp .NotIn) (rInO X.K C sp true) := by
  have hr := hr.mono hj
  intro pins s σ H x y v u Q I rx ry hq
  obtain ⟨p, xs, rfl, h⟩ := hq
  cases ry
  refine GQ.notIn_listG (N := xs.length) (fun i s => ∃ H', Inv X pins σ H' s ∧ inO X.K C sp true (fun H => SqL X.K H p xs) x (xs.drop i) H' Q) ?_ ?_ ⟨H, I, by simpa using h⟩
  · intro i s1 ⟨H1, I1, h1⟩
    obtain ⟨its, r, pl, hz⟩ := I1.list (inO_seq h1)
    obtain ⟨o, n, e, e1, e2, e3⟩ := pl
    refine ⟨its.toArray, n, o.dict, o.slots, ?_, by rw [List.size_toArray, r.length], fun hlt => ?_⟩
    · rw [e, ← e1, ← e3]
    · rw [List.size_toArray, ← r.length] at hlt
      obtain ⟨u, hu, ru⟩ := r.get (List.getElem?_eq_getElem hlt)
      rw [List.drop_eq_getElem_cons hlt] at h1
      have e5 : its.toArray[i] = u := by
        have := List.getElem?_eq_some_iff.mp hu
        obtain ⟨_, e6⟩ := this
        simpa using e6
      rw [e5]
      exact in_turn D hm hsub hb hr I1 rx ru h1
  · intro s1 ⟨H1, I1, h1⟩
    rw [List.drop_length] at h1
    exact ⟨.bl true, H1, I1, rfl, h1.2⟩
end
end Gx
namespace Qx
open PySem PySem.Spec PyProof.Rows L2 Gx
section
variable {K : PySem.W.Frag} {cs : List Str} {C : Str} {mf : MF}
theorem noneB_of (h : noneB K cs = true) (hC : cs.contains C = true) : PySem.W.subIn K (.ref (He.ga K C)) (.type "NoneType") = some false := eq_of_beq (List.all_eq_true.mp h C (List.contains_iff_mem.mp hC))
/-- two fields of two instances that are scalars and differ -/
def fldsD : List PV → List PV → Prop
  | p :: ps, q :: qs => (∃ v w, scV p = some v ∧ scV q = some w ∧ v ≠ w) ∨ fldsD ps qs
  | _, _ => False
/-- no one thing is both -/
def sureD (O : Sto) : PV → PV → Prop
  | .ins _ ns ps, .ins _ ns' ps' => ns = ns' ∧ fldsD ps ps'
  | .loc n, .loc m => n ≠ m ∧ (∃ p, O[n]? = some (some p)) ∧ ∃ p, O[m]? = some (some p)
  | _, _ => False
theorem zip_flds {ι : List Addr} {G : Hp} : ∀ {ns : List Str} {ps ps' : List PV} {xs xs' : List V}, ns.length = ps.length → ns.length = ps'.length → RepL K ι G ps xs → RepL K ι G ps' xs' → ns.zip xs = ns.zip xs' → fldsD ps ps' → False
  | [], ps, ps', _, _, l1, l2, _, _, _, h => by
    cases ps with
    | nil => exact h
    | cons => simp at l1
  | n :: ns, [], _, _, _, l1, _, _, _, _, _ => by simp at l1
  | n :: ns, _ :: _, [], _, _, _, l2, _, _, _, _ => by simp at l2
  | n :: ns, p :: ps, q :: qs, xs, xs', l1, l2, ⟨x, r, e1, h1, h2⟩, ⟨x', r', e1', h1', h2'⟩, e, h => by
    subst e1
    subst e1'
    simp only [List.zip_cons_cons, List.cons.injEq, Prod.mk.injEq, true_and] at e
    rcases h with ⟨v, w, a, b, c⟩ | h
    · exact c (((scV_rep a h1).symm.trans e.1).trans (scV_rep b h1'))
    · exact zip_flds (by simpa using l1) (by simpa using l2) h2 h2' e.2 h
theorem nodup_at {ι : List Addr} {O : Sto} {n m : Nat} {a : Addr} {p q : PV} (hd : (lv ι O).Nodup) (h1 : ι[n]? = some a) (h2 : O[n]? = some (some p)) (h3 : ι[m]? = some a) (h4 : O[m]? = some (some q)) : n = m := by
  apply Classical.byContradiction
  intro hne
  have e := lv_out h1 h2
  have hd2 := e.nodup_iff.mp hd
  have : a ∈ lv ι (O.set n none) := lv_in h3 (p := q) (by rw [List.getElem?_set_ne hne]; exact h4)
  exact (List.nodup_cons.mp hd2).1 this
theorem sureD_ne {R : List (Addr × HO)} {ι : List Addr} {O : Sto} {H : Hp} {p q : PV} {x y : V} (S : Sim K R ι O H) (h : sureD O p q) (r1 : Rep K ι (fz R ι O H) p x) (r2 : Rep K ι (fz R ι O H) q y) : x ≠ y := by
  intro e
  subst e
  cases p <;> cases q <;> try exact h
  · obtain ⟨hn, hf⟩ := h
    obtain ⟨a, dx, xs, e1, e2, e3, e4⟩ := r1
    obtain ⟨a', dx', xs', e1', e2', e3', e4'⟩ := r2
    subst hn
    rw [e1] at e1'
    cases e1'
    rw [e2] at e2'
    simp only [Option.some.injEq, HO.ins.injEq] at e2'
    exact zip_flds e3 e3' e4 e4' e2'.2.2 hf
  · obtain ⟨hn, ⟨p1, h1⟩, p2, h2⟩ := h
    obtain ⟨a, e1, e2⟩ := r1
    obtain ⟨a', e1', e2'⟩ := r2
    rw [e1] at e1'
    cases e1'
    exact hn (nodup_at (List.nodup_append.mp S.nd).2.1 e2 h1 e2' h2)
theorem ClsK.inj (ck : ClsK K cs) (C : Str) (hC : C ∈ cs) : ∀ D ∈ cs, He.ga K D = He.ga K C → D = C := fun D hD e => by
  apply Classical.byContradiction
  intro hne
  have h := ck.cc D hD C hC hne
  rw [e] at h
  unfold PySem.W.kitOne at h
  rw [if_pos (by simp)] at h
  cases h
/-- a thing of a kind that an own == of C is asked with -/
def okT (cs : List Str) (C : Str) (O : Sto) (p : PV) : Bool := match tyOf O p with
  | some t => tyIn cs t && cs.contains C
  | none => false
/-- p and q are surely not one thing, q being of class C -/
def sureN (C : Str) (O : Sto) (q p : PV) : Prop := tyOf O p ≠ some (.inr C) ∨ sureD O q p
open Classical in
/-- x in a list of None and own things; only where == changes nothing -/
noncomputable def inOP (cs : List Str) (C : Str) (m : MF) (neg : Bool) (p : PV) : List PV → Sto → PR PV
  | [], O => .ok (.bl neg) O
  | q :: qs, O =>
    if q = .non then (if insIs O C p = true ∧ m [p, q] O = .ok (.bl false) O then inOP cs C m neg p qs O else .bad)
    else if (okT cs C O p = true ∧ insIs O C q = true) ∧ m [q, p] O = .ok (.bl true) O then .ok (.bl (!neg)) O
    else if (okT cs C O p = true ∧ insIs O C q = true) ∧ m [q, p] O = .ok (.bl false) O ∧ sureN C O q p then inOP cs C m neg p qs O
    else .bad
noncomputable def inOL (cs : List Str) (C : Str) (m : MF) (neg : Bool) (p l : PV) (O : Sto) : PR PV := match l with
  | .lst qs => inOP cs C m neg p qs O
  | .rol qs => inOP cs C m neg p qs O
  | _ => .bad
theorem okT_read {R : List (Addr × HO)} {ι : List Addr} {O : Sto} {H : Hp} {p : PV} {x : V} (ck : ClsK K cs) (nk : NfK K cs) (S : Sim K R ι O H) (r : Rep K ι (fz R ι O H) p x) (h : okT cs C O p = true) : ∃ t, tyOf O p = some t ∧ (∀ D, t = .inr D → D ∈ cs) ∧ TyX K H x (tyV' K t) ∧ PySem.W.notFirst K (He.ga K C) (tyV' K t) = true := by
  unfold okT at h
  cases e : tyOf O p with
  | none => rw [e] at h; cases h
  | some t =>
    rw [e] at h
    obtain ⟨c2, c3⟩ := Bool.and_eq_true_iff.mp h
    have hc : ∀ D, t = .inr D → D ∈ cs := fun D hD => by subst hD; exact List.contains_iff_mem.mp c2
    exact ⟨t, rfl, hc, ty_read ck S r e hc, tyIn_nf nk c2 c3⟩
theorem inO_read {R : List (Addr × HO)} {ι : List Addr} {O : Sto} {H : Hp} {p : PV} {x : V} {E : Option XK} {neg : Bool} {Q : VK} {Sq : Hp → Prop} (hm : ∀ ι' H', Sim K R ι' O H' → Ext R ι O H ι' O H' → Sq H') (ck : ClsK K cs) (nk : NfK K cs) (inj : ∀ D ∈ cs, He.ga K D = He.ga K C → D = C) : ∀ {qs : List PV} {ys : List V} {ι' : List Addr} {H' : Hp}, Sim K R ι' O H' → Ext R ι O H ι' O H' → Rep K ι' (fz R ι' O H') p x → RepL K ι' (fz R ι' O H') qs ys → Post K R E (Rep K) ι' O H' Q (inOP cs C mf neg p qs O) → inO K (He.ga K C) (spM K false mf) neg Sq x ys H' Q := by
  intro qs
  induction qs with
  | nil =>
    intro ys ι' H' S X r1 r2 h
    rw [show ys = [] from r2]
    exact ⟨hm ι' H' S X, h.here S rfl⟩
  | cons q qs ih =>
    intro ys ι' H' S X r1 r2 h
    obtain ⟨y, r, e, h2, h3⟩ := r2
    subst e
    unfold inOP at h
    refine ⟨hm ι' H' S X, ?_⟩
    split at h
    · rename_i c2
      subst c2
      split at h
      · rename_i c3
        refine .inl ⟨h2, insIs_read S r1 c3.1, ?_⟩
        refine ⟨R, ι', O, [p, .non], S, .consR r1 (.one h2), ?_⟩
        rw [c3.2]
        intro b ι2 H2 S2 X2 r4
        refine ⟨false, r4, ?_⟩
        rw [if_neg Bool.false_ne_true]
        exact ih S2 (X.trans X2) (X2.rep r1) (X2.repL h3) (Post.of X2 h)
      · exact h.elim
    · split at h
      · rename_i c3
        obtain ⟨t, et, hc, ty, hn⟩ := okT_read ck nk S r1 c3.1.1
        refine .inr ⟨insIs_read S h2 c3.1.2, ⟨_, ty, hn, fun _ _ => h.here S rfl⟩, fun _ => ?_⟩
        refine ⟨R, ι', O, [q, p], S, .consR h2 (.one r1), ?_⟩
        rw [c3.2]
        intro b ι2 H2 S2 X2 r4
        refine ⟨true, r4, ?_⟩
        rw [if_pos rfl]
        exact (Post.of X2 h).here S2 rfl
      · split at h
        · rename_i c3
          obtain ⟨t, et, hc, ty, hn⟩ := okT_read ck nk S r1 c3.1.1
          refine .inr ⟨insIs_read S h2 c3.1.2, ⟨_, ty, hn, fun e e2 => ?_⟩, fun _ => ?_⟩
          · rcases c3.2.2 with hd | hd
            · exfalso
              cases t with
              | inl T => cases e2
              | inr D =>
                have e3 : He.ga K D = He.ga K C := by
                  have := e2
                  simp only [tyV', Value.ref.injEq] at this
                  exact this
                exact hd (by rw [et, inj D (hc D rfl) e3])
            · exact (sureD_ne S hd h2 r1 e).elim
          refine ⟨R, ι', O, [q, p], S, .consR h2 (.one r1), ?_⟩
          rw [c3.2.1]
          intro b ι2 H2 S2 X2 r4
          refine ⟨false, r4, ?_⟩
          rw [if_neg Bool.false_ne_true]
          exact ih S2 (X.trans X2) (X2.rep r1) (X2.repL h3) (Post.of X2 h)
        · exact h.elim
theorem os_inO {neg : Bool} (ck : ClsK K cs) (nk : NfK K cs) (inj : ∀ D ∈ cs, He.ga K D = He.ga K C → D = C) : OpS K (rInO K (He.ga K C) (spM K false mf) neg) (inOL cs C mf neg) := by
  intro R ι O H p q x y E Q S r1 r2 h
  cases q with
  | lst qs =>
    obtain ⟨a, xs, rfl, h1, h2⟩ := r2
    exact ⟨a, xs, rfl, inO_read (fun ι' H' S' X' => Same.seq S'.frozen (X'.same.seq (SqL.of h1))) ck nk inj (ι := ι) (H := H) S .refl r1 h2 h⟩
  | rol qs =>
    obtain ⟨a, xs, rfl, h1, h2⟩ := r2
    exact ⟨a, xs, rfl, inO_read (fun ι' H' S' X' => Same.seq S'.frozen (X'.same.seq h1)) ck nk inj (ι := ι) (H := H) S .refl r1 h2 h⟩
  | _ => exact h.elim
end
end Qx

/-! Own layer Xp: texts: +, *, <, in, items, slices, len, for, methods. -/
namespace Gx
open PySem PySem.Spec PyProof.Rows L2
section
variable {X : Cx}
/-- so many signs at most that * of a text lays -/
def mulOkS (z : Str) (i : Int) : Bool := decide (-(2 ^ 40) < i ∧ i < 2 ^ 40 ∧ z.length * i.toNat ≤ 1000000)
theorem mulOkS_ok {z : Str} {i : Int} (h : mulOkS z i = true) : MulOk z i := by
  obtain ⟨h1, h2, h3⟩ := of_decide_eq_true h
  have e : (z.length : Int) * i ≤ 1000000 ∨ i < 1 := by
    by_cases c : i < 1
    · exact .inr c
    · left
      have : ((z.length * i.toNat : Nat) : Int) = (z.length : Int) * i := by
        rw [Int.natCast_mul, Int.toNat_of_nonneg (by omega)]
      omega
  refine ⟨by simp; omega, fun c _ => ?_, fun c _ => ?_⟩
  · have hm : (z.length : Int) * i ≤ 1000000 := e.resolve_right c
    have : (z.length : Int) ≤ (2 ^ 63 - 1) / i := Int.le_ediv_of_mul_le (by omega) (by omega)
    omega
  · unfold Builtin.Str.tooLong
    exact decide_eq_false (by unfold sizeLine; omega)
theorem op_mulS : OpR X (binaryOp .Mult) (fun x y H Q => ∃ z i, x = .str z ∧ y = .int i ∧ mulOkS z i = true ∧ Q (.str (Txt.mul z i)) H) := by
  intro pins s σ H x y v u Q I rx ry h
  obtain ⟨z, i, rfl, rfl, hz, q⟩ := h
  obtain ⟨t, rfl⟩ := rx
  obtain ⟨t', rfl⟩ := ry
  exact SB.mul (mulOkS_ok hz) fun t' k => ⟨.str (Txt.mul z i), H, I.tok _, ⟨_, rfl⟩, q⟩
end
end Gx
namespace Qx
open PySem PySem.Spec PyProof.Rows L2 Gx
section
variable {K : PySem.W.Frag} {E : XM} {te : TE} {fa : EF} {to : TE} {fo : EF} {tA : TA} {fA : AF} {r : V → List V → Hp → VK → Prop} {f : PV → List PV → Sto → PR PV}
def zOk (n : Nat) : Bool := decide (n ≤ sizeLine)
theorem zOk_le {n : Nat} (h : zOk n = true) : n ≤ sizeLine := of_decide_eq_true h
def s2 (c : Str → Str → Bool) (g : Str → Str → PV) (p q : PV) (O : Sto) : PR PV := match p, q with
  | .str i, .str j => if c i j = true then .ok (g i j) O else .bad
  | _, _ => .bad
theorem os_s2 {c : Str → Str → Bool} {C : Str → Str → Prop} {g : Str → Str → PV} {g' : Str → Str → V} (hc : ∀ i j, c i j = true → C i j) (h : ∀ i j ι G, Rep K ι G (g i j) (g' i j)) : OpS K (fun x y H Q => ∃ i j, x = .str i ∧ y = .str j ∧ C i j ∧ Q (g' i j) H) (s2 c g) := by
  intro R ι O H p q x y E Q S r1 r2 k
  unfold s2 at k
  split at k
  · split at k
    · rename_i i j c1
      exact ⟨i, j, r1, r2, hc _ _ c1, k.here S (h _ _ _ _)⟩
    · exact k.elim
  · exact k.elim
def addS := s2 (fun i j => zOk (i.length + j.length)) fun i j => .str (i ++ j)
theorem os_addS : OpS K (fun x y H Q => ∃ i j, x = .str i ∧ y = .str j ∧ i.length + j.length ≤ sizeLine ∧ Q (.str (i ++ j)) H) addS := os_s2 (fun _ _ h => zOk_le h) fun _ _ _ _ => rfl
theorem os_ipaddS : OpS K (fun x y H Q => ∃ i j, x = .str i ∧ y = .str j ∧ i.length + j.length ≤ sizeLine ∧ Q (.str (i ++ j)) H) addS := os_addS
def ltS := s2 (fun _ _ => true) fun i j => .bl (decide (i.cps.toList < j.cps.toList))
theorem os_ltS : OpS K (fun x y H Q => ∃ i j, x = .str i ∧ y = .str j ∧ Q (.bl (decide (i.cps.toList < j.cps.toList))) H) ltS := by
  intro R ι O H p q x y E Q S r1 r2 k
  obtain ⟨i, j, h1, h2, _, h3⟩ := os_s2 (K := K) (C := fun _ _ => True) (g := fun i j => .bl (decide (i.cps.toList < j.cps.toList))) (g' := fun i j => .bl (decide (i.cps.toList < j.cps.toList))) (fun _ _ _ => trivial) (fun _ _ _ _ => rfl) R ι O H p q x y E Q S r1 r2 k
  exact ⟨i, j, h1, h2, h3⟩
def repS (p q : PV) (O : Sto) : PR PV := match p, q with
  | .str z, .int i => if mulOkS z i = true then .ok (.str (Txt.mul z i)) O else .bad
  | _, _ => .bad
theorem os_repS : OpS K (fun x y H Q => ∃ z i, x = .str z ∧ y = .int i ∧ mulOkS z i = true ∧ Q (.str (Txt.mul z i)) H) repS := by
  intro R ι O H p q x y E Q S r1 r2 k
  unfold repS at k
  split at k
  · split at k
    · rename_i i j c1
      exact ⟨i, j, r1, r2, c1, k.here S rfl⟩
    · exact k.elim
  · exact k.elim
def inT := s2 (fun _ _ => true) fun i j => .bl (!(Builtin.Str.occurrences j i 0 j.length 1).isEmpty)
theorem os_inT : OpS K (fun x y H Q => ∃ i j, x = .str i ∧ y = .str j ∧ Q (.bl (!(Builtin.Str.occurrences j i 0 j.length 1).isEmpty)) H) inT := by
  intro R ι O H p q x y E Q S r1 r2 k
  obtain ⟨i, j, h1, h2, _, h3⟩ := os_s2 (K := K) (C := fun _ _ => True) (g := fun i j => .bl (!(Builtin.Str.occurrences j i 0 j.length 1).isEmpty)) (g' := fun i j => .bl (!(Builtin.Str.occurrences j i 0 j.length 1).isEmpty)) (fun _ _ _ => trivial) (fun _ _ _ _ => rfl) R ι O H p q x y E Q S r1 r2 k
  exact ⟨i, j, h1, h2, h3⟩
def notInT := s2 (fun _ _ => true) fun i j => .bl (!(!(Builtin.Str.occurrences j i 0 j.length 1).isEmpty))
theorem os_notInT : OpS K (fun x y H Q => ∃ i j, x = .str i ∧ y = .str j ∧ Q (.bl (!(!(Builtin.Str.occurrences j i 0 j.length 1).isEmpty))) H) notInT := by
  intro R ι O H p q x y E Q S r1 r2 k
  obtain ⟨i, j, h1, h2, _, h3⟩ := os_s2 (K := K) (C := fun _ _ => True) (g := fun i j => .bl (!(!(Builtin.Str.occurrences j i 0 j.length 1).isEmpty))) (g' := fun i j => .bl (!(!(Builtin.Str.occurrences j i 0 j.length 1).isEmpty))) (fun _ _ _ => trivial) (fun _ _ _ _ => rfl) R ι O H p q x y E Q S r1 r2 k
  exact ⟨i, j, h1, h2, h3⟩
def ixS (p q : PV) (O : Sto) : PR PV := match p, q with
  | .str z, .int i => if zOk z.length = true then (match atI z.cps.toList i with
    | some c => .ok (.str ⟨#[c]⟩) O
    | none => .bad) else .bad
  | _, _ => .bad
theorem os_ixS : OpS K rIxS ixS := by
  intro R ι O H p q x y E Q S r1 r2 k
  unfold ixS at k
  split at k
  · rename_i z i
    split at k
    · rename_i c1
      cases e : atI z.cps.toList i with
      | none => rw [e] at k; exact k.elim
      | some c => rw [e] at k; exact ⟨z, i, c, r1, r2, zOk_le c1, e, k.here S rfl⟩
    · exact k.elim
  · exact k.elim
def slS (p : PV) (i j : Option Int) (O : Sto) : PR PV := match p with
  | .str z => if zOk z.length = true then .ok (.str (cutS z i j)) O else .bad
  | _ => .bad
theorem ss_S : SlS K rSlS slS := by
  intro R ι O H p x i j E Q S r k
  cases p with
  | str z =>
    unfold slS at k
    simp only at k
    split at k
    · rename_i c
      exact ⟨z, r, zOk_le c, k.here S rfl⟩
    · exact k.elim
  | _ => exact k.elim
def bLenS := b1 fun p O => match p with
  | .str z => if zOk z.length = true then .ok (.int z.length) O else .bad
  | _ => .bad
theorem cb_lenS : CbS K (fun xs H Q => ∃ z, xs = [.str z] ∧ z.length ≤ sizeLine ∧ Q (.int z.length) H) bLenS := cb_1 fun R ι O H p x E Q S r h => by
  cases p with
  | str z =>
    simp only at h
    split at h
    · rename_i c
      exact ⟨z, by rw [show x = .str z from r], zOk_le c, h.here S rfl⟩
    · exact h.elim
  | _ => exact h.elim
def bIntS := b1 fun p O => match p with
  | .str z => match intText? z with
    | some n => if decide (z.length ≤ 640) = true then .ok (.int n) O else .bad
    | none => .bad
  | _ => .bad
theorem cb_intS : CbS K (fun xs H Q => ∃ a n, xs = [.str a] ∧ PySem.intText? a = some n ∧ a.length ≤ 640 ∧ Q (.int n) H) bIntS := cb_1 fun R ι O H p x E Q S r h => by
  cases p with
  | str z =>
    simp only at h
    cases e : intText? z with
    | none => rw [e] at h; exact h.elim
    | some n =>
      rw [e] at h
      simp only at h
      split at h
      · rename_i c
        exact ⟨z, n, by rw [show x = .str z from r], e, of_decide_eq_true c, h.here S rfl⟩
      · exact h.elim
  | _ => exact h.elim
/-! for over a text -/
def chP (z : Str) : List PV := z.cps.toList.map fun c => .str ⟨#[c]⟩
def iS (fe : EF) : IF := fun s O => (fe s O).bind fun p O1 => match p with
  | .str z => .ok (chP z, none) O1
  | _ => .bad
theorem chP_get {z : Str} {i : Nat} {p : PV} (h : (chP z)[i]? = some p) : i < z.cps.size ∧ ∃ c, z.cps[i]? = some c ∧ p = .str ⟨#[c]⟩ := by
  unfold chP at h
  rw [List.getElem?_map] at h
  obtain ⟨c, h1, h2⟩ := Option.map_eq_some_iff.mp h
  rw [Array.getElem?_toList] at h1
  exact ⟨(Array.getElem?_eq_some_iff.mp h1).1, c, h1, h2.symm⟩
theorem chP_len {z : Str} : (chP z).length = z.length := by
  unfold chP
  rw [List.length_map]
  rfl
theorem sim_iS (he : SimE K E te fa) : SimIt K E (iStr te) (iS fa) := fun R ι O H σ s Q S L h =>
  he R ι O H σ s _ S L (h.bind fun p O1 x ι1 H1 S1 X1 r1 h1 => by
    cases p with
    | str z =>
      refine ⟨z, r1, h1.here S1 fun R' ι' O' H' S' _ _ _ i => ⟨fun p ep => ?_, fun hl => ?_⟩⟩
      · obtain ⟨h3, c, h4, h5⟩ := chP_get ep
        refine ⟨h3, fun x H'' y => ?_⟩
        obtain ⟨y1, c', y2, y3⟩ := y
        rw [h4] at y2
        cases y2
        exact ⟨ι', by rw [y1]; exact S', by rw [y1]; exact .refl, by rw [h5, y3]; rfl⟩
      · rw [chP_len] at hl; exact hl
    | _ => exact h1.elim)
/-! methods of texts -/
def isStr : PV → Bool
  | .str _ => true
  | _ => false
def eBms (f : PV → List PV → Sto → PR PV) (o : EF) (a : AF) : EF := fun s O => (o s O).bind fun p O1 => if isStr p = true then (a s O1).bind fun ps O2 => f p ps O2 else .bad
def eBms0 (f : PV → List PV → Sto → PR PV) (o : EF) : EF := fun s O => (o s O).bind fun p O1 => if isStr p = true then f p [] O1 else .bad
theorem isStr_rep {ι : List Addr} {G : Hp} {p : PV} {x : V} (h : isStr p = true) (r1 : Rep K ι G p x) (H : Hp) : tyV K "str" x H := by
  cases p with
  | str z => rw [show x = .str z from r1]; rfl
  | _ => cases h
theorem sim_bms (hf : MtP K r f) (ho : SimE K E to fo) (hA : SimA K E tA fA) : SimE K E (tBM K "str" r to tA) (eBms f fo fA) := fun R ι O H σ s Q S L h =>
  ho R ι O H σ s _ S L (h.bind fun p O1 x ι1 H1 S1 X1 r1 h1 => by
    split at h1
    · rename_i c
      exact ⟨isStr_rep c r1 H1, hA R ι1 O1 H1 σ s _ S1 (L.ext X1) (h1.bind fun qs O2 ys ι2 H2 S2 X2 r2 h2 => hf R ι2 O2 H2 p qs x ys _ _ S2 (X2.rep r1) r2 h2)⟩
    · exact h1.elim)
theorem sim_bms0 (hf : MtP K r f) (ho : SimE K E to fo) : SimE K E (tBM0 K "str" r to) (eBms0 f fo) := fun R ι O H σ s Q S L h =>
  ho R ι O H σ s _ S L (h.bind fun p O1 x ι1 H1 S1 X1 r1 h1 => by
    split at h1
    · rename_i c
      exact ⟨isStr_rep c r1 H1, hf R ι1 O1 H1 p [] x [] _ _ S1 r1 rfl h1⟩
    · exact h1.elim)
def joinP (p : PV) (qs : List PV) (O : Sto) : PR PV := match p, qs with
  | .str a, [l] => match (seqOf O l).bind strsOf with
    | some ys => if decide ((ys.map (·.length)).sum + ys.length * a.length ≤ 16777216) = true then .ok (.str (Txt.join a ys)) O else .bad
    | none => .bad
  | _, _ => .bad
theorem ms_join : MtP K (fun x xs H Q => ∃ a p, ∃ ys : List Str, x = .str a ∧ xs = [.ref p] ∧ (SqL K H p (ys.map V.str) ∨ SqT K H p (ys.map V.str)) ∧ (ys.map (·.length)).sum + ys.length * a.length ≤ 16777216 ∧ Q (.str (Txt.join a ys)) H) joinP := by
  intro R ι O H p qs x xs E Q S r1 r2 h
  match p, qs, h with
  | .str a, [l], h =>
    obtain ⟨y, t, e, r3, e2⟩ := r2
    cases e2
    subst e
    unfold joinP at h
    simp only at h
    cases e : seqOf O l with
    | none => simp [e] at h; exact h.elim
    | some ps =>
      simp only [e, Option.bind_some] at h
      cases e5 : strsOf ps with
      | none => simp [e5] at h; exact h.elim
      | some ys =>
        simp only [e5] at h
        split at h
        · rename_i c
          obtain ⟨b, zs, h1, h2, h3⟩ := seq_read S r3 e
          have e3 := rep_strs e5 h3
          subst e3
          subst h1
          exact ⟨a, b, ys, r1, rfl, h2, of_decide_eq_true c, h.here S rfl⟩
        · exact h.elim
  | .str a, [], h => exact h.elim
  | .str a, _ :: _ :: _, h => exact h.elim
  | .non, _, h => exact h.elim
  | .bl _, _, h => exact h.elim
  | .int _, _, h => exact h.elim
  | .ty _, _, h => exact h.elim
  | .cls _, _, h => exact h.elim
  | .tup _, _, h => exact h.elim
  | .lst _, _, h => exact h.elim
  | .rol _, _, h => exact h.elim
  | .ins _ _ _, _, h => exact h.elim
  | .rng _ _, _, h => exact h.elim
  | .loc _, _, h => exact h.elim
  | .dic _ _, _, h => exact h.elim
  | .sti _, _, h => exact h.elim
  | .xc _ _ _, _, h => exact h.elim
/-- a method of a text with one text -/
def m1S (c : Str → Str → Bool) (g : Str → Str → PV) (p : PV) (qs : List PV) (O : Sto) : PR PV := match qs with
  | [q] => s2 c g p q O
  | _ => .bad
theorem ms_1 {c : Str → Str → Bool} {C : Str → Str → Prop} {g : Str → Str → PV} {r' : Str → Str → Hp → VK → Prop} (hc : ∀ i j, c i j = true → C i j) (h : ∀ R ι O H i j E Q, Sim K R ι O H → Post K R E (Rep K) ι O H Q (.ok (g i j) O) → r' i j H Q) : MtP K (fun x xs H Q => ∃ a b, x = .str a ∧ xs = [.str b] ∧ C a b ∧ r' a b H Q) (m1S c g) := by
  intro R ι O H p qs x xs E Q S r1 r2 k
  match qs, k with
  | [], k => exact k.elim
  | _ :: _ :: _, k => exact k.elim
  | [q], k =>
    obtain ⟨y, t, e, r3, e2⟩ := r2
    cases e2
    subst e
    unfold m1S s2 at k
    cases p with
    | str i =>
      cases q with
      | str j =>
        simp only at k
        split at k
        · rename_i c1
          exact ⟨i, j, r1, by rw [show y = .str j from r3], hc _ _ c1, h R ι O H i j E Q S k⟩
        · exact k.elim
      | _ => exact k.elim
    | _ => exact k.elim
def strsP (ys : List Str) : List PV := ys.map .str
theorem strs_rep {ι : List Addr} {G : Hp} : ∀ ys : List Str, RepL K ι G (strsP ys) (ys.map V.str)
  | [] => rfl
  | y :: ys => .consR rfl (strs_rep ys)
def splitP := m1S (fun a b => !(b.length == 0) && decide (a.length + 2 ≤ sizeLine)) fun a b => .lst (strsP (Txt.split a b))
theorem ms_split : MtP K (fun x xs H Q => ∃ a b, x = .str a ∧ xs = [.str b] ∧ (b.length == 0) = false ∧ a.length + 2 ≤ sizeLine ∧ rNewStrs (Txt.split a b) H Q) splitP := by
  intro R ι O H p qs x xs E Q S r1 r2 k
  obtain ⟨a, b, h1, h2, h3, h4⟩ := ms_1 (K := K) (C := fun a b => (b.length == 0) = false ∧ a.length + 2 ≤ sizeLine) (r' := fun a b H Q => rNewStrs (Txt.split a b) H Q) (fun a b h => by
    obtain ⟨h1, h2⟩ := Bool.and_eq_true_iff.mp h
    exact ⟨by simpa using h1, of_decide_eq_true h2⟩) (fun R ι O H a b E Q S h p hp => by
      obtain ⟨S2, X2, e2⟩ := S.newF hp (.lst ((Txt.split a b).map V.str))
      exact h.at S2 X2 ⟨p, _, rfl, e2, strs_rep _⟩) R ι O H p qs x xs E Q S r1 r2 k
  exact ⟨a, b, h1, h2, h3.1, h3.2, h4⟩
def partP := m1S (fun a b => !(b.length == 0) && zOk a.length) fun a b => .tup [.str (Txt.partition a b).1, .str (Txt.partition a b).2.1, .str (Txt.partition a b).2.2]
theorem ms_partition : MtP K (fun x xs H Q => ∃ a b, x = .str a ∧ xs = [.str b] ∧ (b.length == 0) = false ∧ a.length ≤ sizeLine ∧ ∀ p, H p = none → Q (.ref p) (upd H p (.tup [.str (Txt.partition a b).1, .str (Txt.partition a b).2.1, .str (Txt.partition a b).2.2]))) partP := by
  intro R ι O H p qs x xs E Q S r1 r2 k
  obtain ⟨a, b, h1, h2, h3, h4⟩ := ms_1 (K := K) (C := fun a b => (b.length == 0) = false ∧ a.length ≤ sizeLine) (r' := fun a b H Q => ∀ p, H p = none → Q (.ref p) (upd H p (.tup [.str (Txt.partition a b).1, .str (Txt.partition a b).2.1, .str (Txt.partition a b).2.2]))) (fun a b h => by
    obtain ⟨h1, h2⟩ := Bool.and_eq_true_iff.mp h
    exact ⟨by simpa using h1, zOk_le h2⟩) (fun R ι O H a b E Q S h p hp => by
      obtain ⟨S2, X2, e2⟩ := S.newF hp (.tup [V.str (Txt.partition a b).1, .str (Txt.partition a b).2.1, .str (Txt.partition a b).2.2])
      exact h.at S2 X2 ⟨p, _, rfl, SqT.of e2, .consR rfl (.consR rfl (.one rfl))⟩) R ι O H p qs x xs E Q S r1 r2 k
  exact ⟨a, b, h1, h2, h3.1, h3.2, h4⟩
def startP := m1S (fun _ _ => true) fun a b => .bl (Txt.startswith a b)
theorem ms_startswith : MtP K (fun x xs H Q => ∃ a b, x = .str a ∧ xs = [.str b] ∧ Q (.bl (Txt.startswith a b)) H) startP := by
  intro R ι O H p qs x xs E Q S r1 r2 k
  obtain ⟨a, b, h1, h2, h3, h4⟩ := ms_1 (K := K) (C := fun _ _ => True) (g := fun a b => .bl (Txt.startswith a b)) (r' := fun a b H Q => Q (.bl (Txt.startswith a b)) H) (fun _ _ _ => trivial) (fun R ι O H a b E Q S h => h.here S rfl) R ι O H p qs x xs E Q S r1 r2 k
  exact ⟨a, b, h1, h2, h4⟩
def zfillP (p : PV) (qs : List PV) (O : Sto) : PR PV := match p, qs with
  | .str a, [.int i] => if PadOk i = true then .ok (.str (Txt.zfill a i)) O else .bad
  | _, _ => .bad
theorem ms_zfill : MtP K (fun x xs H Q => ∃ (a : Str) (i : Int), x = .str a ∧ xs = [.int i] ∧ PadOk i = true ∧ Q (.str (Txt.zfill a i)) H) zfillP := by
  intro R ι O H p qs x xs E Q S r1 r2 k
  unfold zfillP at k
  split at k
  · split at k
    · rename_i a i c
      obtain ⟨y, t, e, r3, e2⟩ := r2
      cases e2
      subst e
      exact ⟨a, i, r1, by rw [show y = .int i from r3], c, k.here S rfl⟩
    · exact k.elim
  · exact k.elim
end
end Qx

/-! Own layer Xq: constants of the module (tuples, dicts of defs), calls of a name that holds one of several defs, while. -/
namespace Qx
open PySem PySem.Spec PyProof.Rows L2 Gx
mutual
def KV.pv : KV → PV
  | .non => .non
  | .bl b => .bl b
  | .int i => .int i
  | .str z => .str z
  | .tup l => .tup (KV.pvs l)
  | .fn C => .cls C
def KV.pvs : List KV → List PV
  | [] => []
  | k :: ks => k.pv :: KV.pvs ks
end
section
variable {K : PySem.W.Frag}
mutual
theorem kRep_ok : ∀ (k : KV) (u : Value), kRep K k u = true → ∃ v, RelV v u ∧ ∀ ι G, Rep K ι G k.pv v
  | .non, u, h => by
    cases u <;> first | exact ⟨.non, rfl, fun _ _ => rfl⟩ | simp [kRep] at h
  | .bl b, u, h => by
    cases u <;> first | (simp only [kRep, beq_iff_eq] at h; subst h; exact ⟨.bl _, rfl, fun _ _ => rfl⟩) | simp [kRep] at h
  | .int i, u, h => by
    cases u <;> first | (simp only [kRep, decide_eq_true_eq] at h; subst h; exact ⟨.int _, ⟨_, rfl⟩, fun _ _ => rfl⟩) | simp [kRep] at h
  | .str z, u, h => by
    cases u <;> first | (simp only [kRep, decide_eq_true_eq] at h; subst h; exact ⟨.str _, ⟨_, rfl⟩, fun _ _ => rfl⟩) | simp [kRep] at h
  | .fn C, u, h => by
    cases u <;> first | (simp only [kRep, decide_eq_true_eq] at h; subst h; exact ⟨.ref _, rfl, fun _ _ => rfl⟩) | simp [kRep] at h
  | .tup l, u, h => by
    cases u with
    | ref a =>
      unfold kRep at h
      cases e : K.lookup a with
      | none => rw [e] at h; cases h
      | some o =>
        rw [e] at h
        obtain ⟨oc, od, dt, sl⟩ := o
        cases oc <;> try cases h
        cases dt <;> try cases h
        rename_i c its n
        simp only at h
        obtain ⟨h1, h2⟩ := Bool.and_eq_true_iff.mp h
        obtain ⟨h2, h3⟩ := Bool.and_eq_true_iff.mp h2
        have h1 := of_decide_eq_true h1
        subst h1
        obtain ⟨xs, r, hx⟩ := kRepL_ok l its.toList h3
        exact ⟨.ref a, rfl, fun ι G => ⟨a, xs, rfl, .inr ⟨_, its, n, e, rfl, rfl, of_decide_eq_true h2, r⟩, hx ι G⟩⟩
    | _ => simp [kRep] at h
theorem kRepL_ok : ∀ (l : List KV) (us : List Value), kRepL K l us = true → ∃ xs, Vals xs us ∧ ∀ ι G, RepL K ι G (KV.pvs l) xs
  | [], us, h => by
    cases us with
    | nil => exact ⟨[], .nil, fun _ _ => rfl⟩
    | cons u us => simp [kRepL] at h
  | k :: ks, us, h => by
    cases us with
    | nil => simp [kRepL] at h
    | cons u us =>
      unfold kRepL at h
      obtain ⟨h1, h2⟩ := Bool.and_eq_true_iff.mp h
      obtain ⟨v, r1, q1⟩ := kRep_ok k u h1
      obtain ⟨xs, r2, q2⟩ := kRepL_ok ks us h2
      exact ⟨v :: xs, .cons r1 r2, fun ι G => .consR (q1 ι G) (q2 ι G)⟩
end
theorem kG_ok {x : Str} {k : KV} {p : PV} (h : kG K x k = true) (e : k.pv = p) : ∀ ι G, Rep K ι G p (.ref (He.ga K x)) := by
  subst e
  unfold kG at h
  split at h
  · rename_i u _
    obtain ⟨h1, h2⟩ := Bool.and_eq_true_iff.mp h
    cases u with
    | ref a =>
      have h2 := of_decide_eq_true h2
      subst h2
      obtain ⟨v, r, q⟩ := kRep_ok k _ h1
      cases v <;> first | (cases r; exact q) | (obtain ⟨_, e⟩ := r; cases e) | cases r
    | _ => cases h2
  · cases h
/-! a dict of the module, with text keys -/
structure KdF (K : PySem.W.Frag) (w : World) (T : Str) (kvs : List (Str × PV)) : Prop where
  d : ∃ es n, KDict K w (He.ga K T) es n
  yes : ∀ k p, kvs.lookup k = some p → ∃ u v, PySem.W.nsIn K (He.ga K T) k = some (some u) ∧ RelV v u ∧ ∀ ι G, Rep K ι G p v
  no : ∀ z, kvs.lookup z = none → PySem.W.nsIn K (He.ga K T) z = some none
theorem nsIn_no {w : World} {a : Addr} {ks : List Str} {z : Str} (h : He.dicW K a = some (He.keysIn w.params ks)) (hz : z ∉ ks) : PySem.W.nsIn K a z = some none := by
  unfold He.dicW at h
  unfold PySem.W.nsIn
  cases e : K.lookup a with
  | none => rw [e] at h; cases h
  | some o =>
    rw [e] at h
    obtain ⟨oc, od, dt, sl⟩ := o
    cases oc <;> try cases h
    cases od <;> try cases h
    cases dt <;> try cases h
    rename_i c es n
    simp only at h ⊢
    split at h
    · have h := Option.some.inj h
      have key : ∀ x ∈ es.toList, ∃ k t, x.key = .str k t ∧ k ∈ ks := fun x hx => by
        have hm : He.keyOf x ∈ He.keysIn w.params ks := by rw [← h]; exact List.mem_map_of_mem hx
        obtain ⟨k, hk, ek⟩ := List.mem_map.mp hm
        unfold He.keyOf at ek
        split at ek
        · rename_i y t q
          have e2 := (Prod.mk.inj (Option.some.inj ek)).1
          exact ⟨y, t, q, by rw [← e2]; exact hk⟩
        · cases ek
      have e1 : es.toList.find? (fun x => x.key.isStr z) = none := by
        rw [List.find?_eq_none]
        intro x hx
        obtain ⟨k, t, q, hk⟩ := key x hx
        rw [q]
        intro hh
        have : k = z := by
          have := hh
          simp only [Value.isStr, beq_iff_eq] at this
          exact this
        exact hz (this ▸ hk)
      have e2 : es.toList.any (fun x => x.refKey) = false := by
        rw [List.any_eq_false]
        intro x hx
        obtain ⟨k, t, q, hk⟩ := key x hx
        unfold DictEntry.refKey
        rw [q]
        exact Bool.false_ne_true
      rw [e1, e2]
      rfl
    · cases h
theorem lookup_no {α : Type} {k : Str} : ∀ {l : List (Str × α)}, l.lookup k = none → k ∉ l.map (·.1)
  | [], _ => by simp
  | (c, q) :: l, h => by
    rw [List.lookup_cons] at h
    split at h
    · cases h
    · rename_i e
      intro hm
      rcases List.mem_cons.mp hm with rfl | hm
      · simp at e
      · exact lookup_no h hm
theorem lookup_map {α β : Type} {f : α → β} {k : Str} : ∀ {l : List (Str × α)}, (l.map fun q => (q.1, f q.2)).lookup k = (l.lookup k).map f
  | [] => rfl
  | (c, q) :: l => by
    simp only [List.map_cons, List.lookup_cons]
    cases k == c with
    | true => rfl
    | false => exact lookup_map
theorem KdF.of {w : World} {T : Str} {ks : List Str} {kvs : List (Str × KV)} {pvs : List (Str × PV)} (h : He.dicW K (He.ga K T) = some (He.keysIn w.params ks)) (b : kdB K T kvs = true) (e : kvs.map (·.1) = ks) (e2 : (kvs.map fun q => (q.1, q.2.pv)) = pvs) : KdF K w T pvs := by
  subst e
  subst e2
  refine ⟨He.dicW_ok h, fun k p hk => ?_, fun z hz => ?_⟩
  · rw [lookup_map] at hk
    obtain ⟨kv, h1, h2⟩ := Option.map_eq_some_iff.mp hk
    subst h2
    have hb := List.all_eq_true.mp b _ (lookup_mem h1)
    simp only at hb
    split at hb
    · rename_i u eu
      obtain ⟨v, r, q⟩ := kRep_ok kv u hb
      exact ⟨u, v, eu, r, q⟩
    · cases hb
  · rw [lookup_map, Option.map_eq_none_iff] at hz
    exact nsIn_no h (lookup_no hz)
theorem dicW_at {fa : List He.Fa} {fn : List He.DefD} {ts : List He.Tab} {w : World} (c : He.SaysT fa fn ts w K) (i : Nat) {t : He.Tab} (h : ts[i]? = some t) : He.dicW K (t.1 K) = some (He.keysIn w.params t.2) := by
  have e : ts.map (fun t => He.dicW K (t.1 K)) = ts.map fun t => some (He.keysIn w.params t.2) := congrArg (fun z : He.AlT => z.2) c
  have e2 : (ts.map fun t => He.dicW K (t.1 K))[i]? = (ts.map fun t => some (He.keysIn w.params t.2))[i]? := by rw [e]
  rw [List.getElem?_map, List.getElem?_map, h] at e2
  exact Option.some.inj e2
end
/-! membership, items -/
section
variable {K : PySem.W.Frag} {w : World} {T : Str} {kvs : List (Str × PV)}
def inKd (T : Str) (kvs : List (Str × PV)) (neg : Bool) (p q : PV) (O : Sto) : PR PV := match p, q with
  | .str z, .cls C => if decide (C = T) = true then .ok (.bl (if neg then !(kvs.lookup z).isSome else (kvs.lookup z).isSome)) O else .bad
  | _, _ => .bad
def ixKd (T : Str) (kvs : List (Str × PV)) (p q : PV) (O : Sto) : PR PV := match p, q with
  | .cls C, .str z => if decide (C = T) = true then (match kvs.lookup z with | some r => .ok r O | none => .bad) else .bad
  | _, _ => .bad
def rInKd (K : PySem.W.Frag) (T : Str) (neg : Bool) : R2 := fun x y H Q => ∃ (z : Str) (r : Option Value), x = .str z ∧ y = .ref (He.ga K T) ∧ PySem.W.nsIn K (He.ga K T) z = some r ∧ Q (.bl (if neg then !r.isSome else r.isSome)) H
theorem op_inKd {X : Cx} {kvs : List (Str × PV)} (D : KdF X.K X.w T kvs) : OpR X (compareOp .In) (rInKd X.K T false) := by
  obtain ⟨es, n, d⟩ := D.d
  exact op_in_kd d
theorem op_notInKd {X : Cx} {kvs : List (Str × PV)} (D : KdF X.K X.w T kvs) : OpR X (compareOp .NotIn) (rInKd X.K T true) := by
  obtain ⟨es, n, d⟩ := D.d
  exact op_notIn_kd d
theorem os_inKd {neg : Bool} (D : KdF K w T kvs) : OpS K (rInKd K T neg) (inKd T kvs neg) := by
  intro R ι O H p q x y E Q S r1 r2 h
  unfold inKd at h
  cases p with
  | str z =>
    cases q with
    | cls C =>
      simp only at h
      split at h
      · rename_i c
        have c := of_decide_eq_true c
        subst c
        cases e : kvs.lookup z with
        | none =>
          rw [e] at h
          exact ⟨z, none, r1, r2, D.no z e, h.here S rfl⟩
        | some r =>
          rw [e] at h
          obtain ⟨u, v, e1, _⟩ := D.yes z r e
          exact ⟨z, some u, r1, r2, e1, h.here S rfl⟩
      · exact h.elim
    | _ => exact h.elim
  | _ => exact h.elim
theorem os_ixKd (D : KdF K w T kvs) : OpS K (rIxD K w) (ixKd T kvs) := by
  intro R ι O H p q x y E Q S r1 r2 h
  unfold ixKd at h
  cases p with
  | cls C =>
    cases q with
    | str z =>
      simp only at h
      split at h
      · rename_i c
        have c := of_decide_eq_true c
        subst c
        cases e : kvs.lookup z with
        | none => rw [e] at h; exact h.elim
        | some r =>
          rw [e] at h
          obtain ⟨u, v, e1, e2, e3⟩ := D.yes z r e
          obtain ⟨es, n, d⟩ := D.d
          exact ⟨_, z, v, r1, r2, ⟨es, n, u, d.at_, d.lit, e1, e2⟩, h.here S (e3 _ _)⟩
      · exact h.elim
    | _ => exact h.elim
  | _ => exact h.elim
end
/-! a call of a name that holds one of several defs -/
end Qx
namespace Gx
open PySem PySem.Spec PyProof.Rows L2
def tCallT (i : Nat) (S : Addr → Sp → Prop) (t : TA) : TE := fun σ H Q => ∃ f sp, σ[i]? = some (some (.ref f)) ∧ S f sp ∧ t σ H fun vs H1 => sp vs H1 Q E0
section
variable {X : Cx} {i k j : Nat} {x : Str} {p pos : Pos} {e : Expr} {es : List Expr} {t : TA} {S : Addr → Sp → Prop}
/-- what a def in the slot is to be -/
def HeldK (X : Cx) (j : Nat) (f : Addr) (sp : Sp) : Prop := ∃ k, k ≤ j ∧ ∃ (fd : FuncData) (ps : List Str), FnOk X.prog X.w X.K X.mg X.base CX0 k f fd ps sp ∧ PySem.W.keepIn X.K (.ref f) = true ∧ Binds X.K fd ps []
theorem heldK {d : He.DefD} {ps : List Str} {sp : Sp} (D : DOk X.prog X.w X.K X.mg X.base d CX0 k ps sp) (hb : BdN d ps) (hj : k ≤ j) : HeldK X j (He.fAd X.K d.at_) sp := by
  obtain ⟨fd, F, G⟩ := D.ex
  exact ⟨k, hj, fd, ps, G, F.kp, FunD.bdN F hb⟩
theorem pe_callT (A : ∀ f sp, S f sp → HeldK X j f sp) (hr : Room j X.A) (hN : X.N[i]? = some x) (hv : Vis X.env.scope x) (ha : PA X (e :: es) t)
    (hdb : (x == ("__debug__" : Str)) = false := by decide) (hcd : (x == ("__classdict__" : Str)) = false := by decide)
    (he : starEach (e :: es) X.env = (false, eval e X.env) :: starEach es X.env := by rfl) (hpl : (backTo pos (starEach es X.env)).any (·.1) = false := by rfl) : PE X (.Call (.Name x p) (e :: es) [] pos) (tCallT i S t) := by
  refine ⟨fun pins s σ H Q I h => ?_⟩
  obtain ⟨f, sp, hs, hS, ht⟩ := h
  obtain ⟨k, hj, fd, ps, F, hk, hb⟩ := A f sp hS
  refine (pe_callL (i := i) (f := f) (sp := sp) (dvs := []) (E := E0) F (hr.mono hj) hN hv hk hb .nil pass0 ha hdb hcd he hpl).run pins s σ H Q I ⟨hs, ?_⟩
  have e0 : (fun (vs : List V) (H1 : Hp) => sp (vs ++ []) H1 Q E0) = fun vs H1 => sp vs H1 Q E0 := by
    funext vs H1
    rw [List.append_nil]
  show t σ H (fun vs H1 => sp (vs ++ []) H1 Q E0)
  rw [e0]
  exact ht
end
end Gx
namespace Qx
open PySem PySem.Spec PyProof.Rows L2 Gx
section
variable {K : PySem.W.Frag} {E : XM} {tA : TA} {fA : AF} {i : Nat}
/-- a table of defs by names -/
def tabS (K : PySem.W.Frag) (tab : List (Str × MF)) (f : Addr) (sp : Sp) : Prop := ∃ C m, tab.lookup C = some m ∧ f = He.ga K C ∧ sp = spM K false m
def eCallT (tab : List (Str × MF)) (i : Nat) (a : AF) : EF := fun s O => match s[i]? with
  | some (some (.cls C)) => (match tab.lookup C with
    | some m => (a s O).bind m
    | none => .bad)
  | _ => .bad
theorem sim_callT {tab : List (Str × MF)} (hA : SimA K none tA fA) : SimE K none (tCallT i (tabS K tab) tA) (eCallT tab i fA) := by
  intro R ι O H σ s Q S L h
  unfold eCallT at h
  split at h
  · rename_i C e
    cases e2 : tab.lookup C with
    | none => rw [e2] at h; exact h.elim
    | some m =>
      rw [e2] at h
      obtain ⟨v, h1, h2⟩ := L.2 i _ e
      refine ⟨_, _, by rw [h1, show v = .ref (He.ga K C) from h2], ⟨C, m, e2, rfl, rfl⟩, ?_⟩
      exact hA R ι O H σ s _ S L (h.bind fun ps O1 xs ι1 H1 S1 X1 r1 h1 => ⟨R, ι1, O1, ps, S1, r1, h1⟩)
  · exact h.elim
theorem tabs_nil {X : Cx} {j : Nat} : ∀ f sp, tabS X.K [] f sp → HeldK X j f sp := fun f sp ⟨C, m, h, _⟩ => by simp at h
theorem tabs_cons {X : Cx} {j : Nat} {C : Str} {m : MF} {tab : List (Str × MF)} (h : HeldK X j (He.ga X.K C) (spM X.K false m)) (t : ∀ f sp, tabS X.K tab f sp → HeldK X j f sp) : ∀ f sp, tabS X.K ((C, m) :: tab) f sp → HeldK X j f sp := fun f sp ⟨D, m', h1, h2, h3⟩ => by
  rw [List.lookup_cons] at h1
  split at h1
  · rename_i e
    have e := eq_of_beq e
    cases h1
    subst e
    rw [h2, h3]
    exact h
  · exact t f sp ⟨D, m', h1, h2, h3⟩
end
/-! while -/
def whileN (c : TF) (b : SF) : Nat → SF
  | 0, _, _ => .bad
  | n + 1, s, O => (c s O).toS s fun k O1 => if k = true then (match b s O1 with
    | .next s2 O2 => whileN c b n s2 O2
    | .cnt s2 O2 => whileN c b n s2 O2
    | .brk s2 O2 => .next s2 O2
    | x => x) else .next s O1
def isBad : SR → Bool
  | .bad => true
  | _ => false
open Classical in
noncomputable def sWhile (c : TF) (b : SF) : SF := fun s O => if h : ∃ n, isBad (whileN c b n s O) = false then whileN c b (Classical.choose h) s O else .bad
section
variable {K : PySem.W.Frag} {E : XM} {tc : TT} {c : TF} {tb : TS} {b : SF}
theorem sim_whileN (hc : SimT K E tc c) (hb : SimS K E tb b) {R : List (Addr × HO)} {D : Ends} : ∀ (n : Nat) ι O H σ s, Sim K R ι O H → SlR K ι (fz R ι O H) σ s → PostS K R E ι O H D (whileN c b n s O) → tWhile tc tb D σ H := by
  intro n ι O H σ s S L h
  refine ⟨fun m σ' H' => ∃ ι' O' s', Sim K R ι' O' H' ∧ SlR K ι' (fz R ι' O' H') σ' s' ∧ PostS K R E ι' O' H' D (whileN c b m s' O'), ⟨n, ι, O, s, S, L, h⟩, ?_⟩
  rintro m σ1 H1 ⟨ι1, O1, s1, S1, L1, h1⟩
  cases m with
  | zero => exact h1.elim
  | succ m =>
    unfold whileN at h1
    refine hc R ι1 O1 H1 σ1 s1 _ S1 L1 (h1.lift L1 fun k O2 k' ι2 H2 S2 X2 e h2 => ?_)
    subst e
    cases k with
    | false =>
      rw [if_neg Bool.false_ne_true]
      rw [if_neg Bool.false_ne_true] at h2
      exact h2 σ1 ι2 H2 S2 .refl (L1.ext X2)
    | true =>
      rw [if_pos rfl]
      rw [if_pos rfl] at h2
      refine ⟨fun σ' H' => ∃ ι' O' s', Sim K R ι' O' H' ∧ SlR K ι' (fz R ι' O' H') σ' s' ∧ PostS K R E ι' O' H' D (whileN c b m s' O'), fun σ' H' hN => ⟨m, Nat.lt_succ_self m, hN⟩, ?_⟩
      refine hb R ι2 O2 H2 σ1 s1 _ S2 (L1.ext X2) ?_
      cases e : b s1 O2 with
      | next s2 O3 =>
        rw [e] at h2
        exact fun σ' ι' H' S' X' L' => ⟨ι', O3, s2, S', L', PostS.of X' h2⟩
      | cnt s2 O3 =>
        rw [e] at h2
        exact fun σ' ι' H' S' X' L' => ⟨ι', O3, s2, S', L', PostS.of X' h2⟩
      | brk s2 O3 => rw [e] at h2; exact h2
      | ret p O3 => rw [e] at h2; exact h2
      | exc x s2 O3 => rw [e] at h2; exact h2
      | bad => rw [e] at h2; exact h2
theorem sim_while (hc : SimT K E tc c) (hb : SimS K E tb b) : SimS K E (tWhile tc tb) (sWhile c b) := by
  intro R ι O H σ s D S L h
  unfold sWhile at h
  split at h
  · exact sim_whileN hc hb _ ι O H σ s S L h
  · exact h.elim
theorem whileN_det {c : TF} {b : SF} : ∀ (n m : Nat) (s : Slots) (O : Sto), isBad (whileN c b n s O) = false → isBad (whileN c b m s O) = false → whileN c b n s O = whileN c b m s O := by
  intro n
  induction n with
  | zero => intro m s O h; cases h
  | succ n ih =>
    intro m s O h1 h2
    cases m with
    | zero => cases h2
    | succ m =>
      unfold whileN at h1 h2 ⊢
      cases e : c s O with
      | ok k O1 =>
        rw [e] at h1 h2
        simp only [PR.toS] at h1 h2 ⊢
        cases k with
        | false => rfl
        | true =>
          simp only [if_true] at h1 h2 ⊢
          cases e2 : b s O1 with
          | next s2 O2 => rw [e2] at h1 h2; exact ih m s2 O2 h1 h2
          | cnt s2 O2 => rw [e2] at h1 h2; exact ih m s2 O2 h1 h2
          | brk s2 O2 => rfl
          | ret p O2 => rfl
          | exc x s2 O2 => rfl
          | bad => rfl
      | exc x O1 => rfl
      | bad => rfl
theorem while_at {n : Nat} {s : Slots} {O : Sto} (h : isBad (whileN c b n s O) = false) : sWhile c b s O = whileN c b n s O := by
  unfold sWhile
  rw [dif_pos ⟨n, h⟩]
  exact whileN_det _ _ _ _ (Classical.choose_spec (p := fun n => isBad (whileN c b n s O) = false) ⟨n, h⟩) h
end
end Qx

/-! Own layer Xr: x in a tuple of own things; x in a list or tuple of data. -/
namespace GQ
open PySem PySem.SeqAt
open AutoSeq1 (wpAny_loadPart')
open MeetsSeq MeetsSeq2 MeetsSeq3 SeqRoads2
section
variable {prog : Program} {w : World} {A : Around} {R : Result → Shared → Prop}
theorem tuple_inG (l : Addr) (x : Value) (items : Array Value) (n : Nat) (dd : Option Addr) (sl : Array (Option Value)) (I : Nat → Shared → Prop)
    (turn : ∀ i s (h : i < items.size), I i s → wpAny (model prog w) A.in1 (eqBool items[i] x) (fun r s' => if r = true then R (.ok (.ret (.bool true))) s' else I (i + 1) s') (fun e s' => R (.error e) s') s)
    (fin : ∀ s, I items.size s → R (.ok (.ret (.bool false))) s) {s : Shared} (hl : s.heap.get? l = some { cls := .type "tuple", dict := dd, data := .seq items n, slots := sl }) (h : I 0 s) : wpAny (model prog w) A.in1 (Builtin.«tuple.__contains__» ⟨[.ref l, x], []⟩) (FinOf prog w A R) (fun e s' => R (.error e) s') s := by
  obtain ⟨hp, g, d, tk, os⟩ := s
  wp_walk using wpAny_loadPart' hl, wpAny_forIn_array _ (fun rest b s' => b.1 = none ∧ ∃ i, i ≤ items.size ∧ rest = items.toList.drop i ∧ I i s') _
  case turn =>
    rintro y rest b s' ⟨hb, i, hi, hr, hI⟩
    have hlt : i < items.size := by
      apply Classical.byContradiction
      intro hn
      have : items.toList.drop i = [] := by simp; omega
      rw [this] at hr
      cases hr
    have hd : items.toList.drop i = items[i] :: items.toList.drop (i + 1) := by
      rw [List.drop_eq_getElem_cons (by simpa using hlt)]
      simp
    rw [hd] at hr
    injection hr with h1 h2
    subst h1
    subst h2
    refine wpAny_bind (wpAny_mono (turn i s' hlt hI) (fun r s2 h2 => ?_) fun _ _ x => x)
    cases r with
    | true =>
      obtain ⟨hp2, g2, d2, tk2, os2⟩ := s2
      wp_walk
      exact h2
    | false =>
      obtain ⟨hp2, g2, d2, tk2, os2⟩ := s2
      wp_walk
      exact ⟨rfl, i + 1, by omega, rfl, h2⟩
  case fin =>
    rintro ⟨b1, b2⟩ s' ⟨hb, i, hi, hr, hI⟩
    simp only at hb
    subst hb
    have he : i = items.size := by
      apply Classical.byContradiction
      intro hn
      rw [List.drop_eq_getElem_cons (by simp; omega)] at hr
      cases hr
    subst he
    have q := fin s' hI
    obtain ⟨hp2, g2, d2, tk2, os2⟩ := s'
    wp_walk
    exact q
  case h =>
    exact ⟨rfl, 0, Nat.zero_le _, by simp, h⟩
end
section
variable {prog : Program} {w : World} {A : Around} {E : Value → Shared → Prop} {s : Shared}
theorem in_tupleG {l : Addr} {x : Value} {items : Array Value} {Q : Value → Shared → Prop} (I : Nat → Shared → Prop) (hl : s.heap.IsTuple l items)
    (turn : ∀ i s (h : i < items.size), I i s → wpAny (model prog w) A.in1 (eqBool items[i] x) (fun r s' => if r = true then Q (.bool true) s' else I (i + 1) s') E s)
    (fin : ∀ s, I items.size s → Q (.bool false) s) (h : I 0 s) : wpAny (model prog w) A (compareOp .In x (.ref l)) Q E s := by
  obtain ⟨⟨cls, dd, data, sl⟩, ho, hc, n, hd⟩ := id hl
  simp only at hc hd
  subst hc hd
  show wpAny _ A (do return .bool (← contains (.ref l) x)) Q E s
  have hT : s.TypeIs (.ref l) "tuple" := ⟨_, ho, rfl⟩
  refine wpAny_bind (wpAny_contains_slot hT F.slot_tuple_contains (wpAny_mono (call_here (Q := fun v s' => ∃ b, v = .bool b ∧ Q (.bool b) s') F.slot_tuple_contains hT F.entry_tuple_contains (F.args_tuple_contains_2 _ _) (tuple_inG (R := wants (fun v s' => ∃ b, v = .bool b ∧ Q (.bool b) s') E) l x items n dd sl I ?_ ?_ ho h)) (fun v s' hv => ?_) fun _ _ e => e))
  · intro i s1 h2 h1
    refine wpAny_mono (turn i s1 h2 h1) (fun r s' z => ?_) fun _ _ e => e
    cases r with
    | true => exact ⟨true, rfl, z⟩
    | false => exact z
  · exact fun s1 h1 => ⟨false, rfl, fin s1 h1⟩
  · obtain ⟨b, rfl, hq⟩ := hv
    exact wpAny_truthy_bool (wpAny_pure hq)
theorem notIn_tupleG {l : Addr} {x : Value} {items : Array Value} {Q : Value → Shared → Prop} (I : Nat → Shared → Prop) (hl : s.heap.IsTuple l items)
    (turn : ∀ i s (h : i < items.size), I i s → wpAny (model prog w) A.in1 (eqBool items[i] x) (fun r s' => if r = true then Q (.bool false) s' else I (i + 1) s') E s)
    (fin : ∀ s, I items.size s → Q (.bool true) s) (h : I 0 s) : wpAny (model prog w) A (compareOp .NotIn x (.ref l)) Q E s := by
  obtain ⟨⟨cls, dd, data, sl⟩, ho, hc, n, hd⟩ := id hl
  simp only at hc hd
  subst hc hd
  show wpAny _ A (do return .bool (!(← contains (.ref l) x))) Q E s
  have hT : s.TypeIs (.ref l) "tuple" := ⟨_, ho, rfl⟩
  refine wpAny_bind (wpAny_contains_slot hT F.slot_tuple_contains (wpAny_mono (call_here (Q := fun v s' => ∃ b, v = .bool b ∧ Q (.bool (!b)) s') F.slot_tuple_contains hT F.entry_tuple_contains (F.args_tuple_contains_2 _ _) (tuple_inG (R := wants (fun v s' => ∃ b, v = .bool b ∧ Q (.bool (!b)) s') E) l x items n dd sl I ?_ ?_ ho h)) (fun v s' hv => ?_) fun _ _ e => e))
  · intro i s1 h2 h1
    refine wpAny_mono (turn i s1 h2 h1) (fun r s' z => ?_) fun _ _ e => e
    cases r with
    | true => exact ⟨true, rfl, z⟩
    | false => exact z
  · exact fun s1 h1 => ⟨false, rfl, fin s1 h1⟩
  · obtain ⟨b, rfl, hq⟩ := hv
    exact wpAny_truthy_bool (wpAny_pure hq)
end
end GQ
namespace Gx
open PySem PySem.Spec PyProof.Rows L2
section
variable {X : Cx} {k j : Nat} {ps : List Str} {sp : Sp} {d : He.DefD} {C : Addr}
def rInOT (K : PySem.W.Frag) (C : Addr) (sp : Sp) (neg : Bool) : R2 := fun x y H Q => ∃ p xs, y = .ref p ∧ SqT K H p xs ∧ inO K C sp neg (fun _ => True) x xs H Q
theorem op_inOT (D : DOk X.prog X.w X.K X.mg X.base d CX0 k ps sp) (hm : Meth X.K C "__eq__" (He.fAd X.K d.at_)) (hsub : PySem.W.subIn X.K (.ref C) (.type "NoneType") = some false) (hb : BdN d ps) (hr : Room j X.A) (hj : k + 1 ≤ j) : OpR X (compareOp .In) (rInOT X.K C sp false) := by
  have hr := hr.mono hj
  intro pins s σ H x y v u Q I rx ry hq
  obtain ⟨p, xs, rfl, hS, h⟩ := hq
  cases ry
  obtain ⟨its, r, pl, hz⟩ := I.tuple hS
  refine GQ.in_tupleG (items := its.toArray) (fun i s => ∃ H', Inv X pins σ H' s ∧ inO X.K C sp false (fun _ => True) x (xs.drop i) H' Q) pl ?_ ?_ ⟨H, I, by simpa using h⟩
  · intro i s1 hlt ⟨H1, I1, h1⟩
    rw [List.size_toArray, ← r.length] at hlt
    obtain ⟨u, hu, ru⟩ := r.get (List.getElem?_eq_getElem hlt)
    rw [List.drop_eq_getElem_cons hlt] at h1
    have e5 : its.toArray[i] = u := by
      obtain ⟨_, e6⟩ := List.getElem?_eq_some_iff.mp hu
      simpa using e6
    rw [e5]
    exact in_turn D hm hsub hb hr I1 rx ru h1
  · intro s1 ⟨H1, I1, h1⟩
    rw [List.size_toArray, ← r.length, List.drop_length] at h1
    exact ⟨.bl false, H1, I1, rfl, h1.2⟩
theorem op_notInOT (D : DOk X.prog X.w X.K X.mg X.base d CX0 k ps sp) (hm : Meth X.K C "__eq__" (He.fAd X.K d.at_)) (hsub : PySem.W.subIn X.K (.ref C) (.type "NoneType") = some false) (hb : BdN d ps) (hr : Room j X.A) (hj : k + 1 ≤ j) : OpR X (compareOp .NotIn) (rInOT X.K C sp true) := by
  have hr := hr.mono hj
  intro pins s σ H x y v u Q I rx ry hq
  obtain ⟨p, xs, rfl, hS, h⟩ := hq
  cases ry
  obtain ⟨its, r, pl, hz⟩ := I.tuple hS
  refine GQ.notIn_tupleG (items := its.toArray) (fun i s => ∃ H', Inv X pins σ H' s ∧ inO X.K C sp true (fun _ => True) x (xs.drop i) H' Q) pl ?_ ?_ ⟨H, I, by simpa using h⟩
  · intro i s1 hlt ⟨H1, I1, h1⟩
    rw [List.size_toArray, ← r.length] at hlt
    obtain ⟨u, hu, ru⟩ := r.get (List.getElem?_eq_getElem hlt)
    rw [List.drop_eq_getElem_cons hlt] at h1
    have e5 : its.toArray[i] = u := by
      obtain ⟨_, e6⟩ := List.getElem?_eq_some_iff.mp hu
      simpa using e6
    rw [e5]
    exact in_turn D hm hsub hb hr I1 rx ru h1
  · intro s1 ⟨H1, I1, h1⟩
    rw [List.size_toArray, ← r.length, List.drop_length] at h1
    exact ⟨.bl true, H1, I1, rfl, h1.2⟩
/-- C(f=e, ..), keywords alone -/
theorem pmk0K {x : Str} {p pos : Pos} {kws : List Keyword} {tk : TA} {ks : List Str} {gV : List V → List V → List V} (D : DOk X.prog X.w X.K X.mg X.base d CX0 k ps sp) (M : Mk X.K C (He.fAd X.K d.at_)) (hm : X.mg x = some (.ref C)) (hb : BdK X.K d ps 1 ks gV) (hr : Room j X.A) (hj : k + 1 ≤ j) (hkw : PK X kws tk) (hg : Gl X x := by rfl)
    (hall : (backToKw pos (keywordEach kws X.env)).all (·.1.isSome) = true := by rfl) (hks : (backToKw pos (keywordEach kws X.env)).filterMap (·.1) = ks := by rfl)
    (hdb : (x == ("__debug__" : Str)) = false := by decide)
    (hpl : ((backTo pos (starEach [] X.env)).any (·.1) || (backToKw pos (keywordEach kws X.env)).any (·.1.isNone)) = false := by rfl) :
    PE X (.Call (.Name x p) [] kws pos) (tMakeN C 0 ks.length sp gV E0 tNil tk) := by
  obtain ⟨fd, F, G⟩ := D.ex
  obtain ⟨g, hbd⟩ := hb fd F
  exact pe_makeK0 M G (hr.mono hj) hg hm hbd pass0 hkw hall hks hdb hpl
theorem room65 {k : Nat} {A : Around} (r : Room k A) : A.units + 65 < cLine := by have := r.un; omega
/-! data in a list or tuple of data -/
def dIn (d : PyData) (ds : List PyData) : Bool := ds.any fun e => PyData.eqv e d
def rInD (K : PySem.W.Frag) (neg : Bool) : R2 := fun x y H Q => ∃ p xs d ds, y = .ref p ∧ (SqL K H p xs ∨ SqT K H p xs) ∧ Dp K H x d ∧ DpAll K H xs ds ∧ SeqAt.shaped d = true ∧ ds.all SeqAt.shaped = true ∧ Q (.bl (if neg then !dIn d ds else dIn d ds)) H
theorem dpAll_get {K : PySem.W.Frag} {H : Hp} : ∀ {xs : List V} {ds : List PyData} {i : Nat} {x : V}, DpAll K H xs ds → xs[i]? = some x → ∃ d, ds[i]? = some d ∧ Dp K H x d
  | _, _, _, _, .nil, e => by simp at e
  | _, _, 0, _, .cons h t, e => by
    simp only [List.getElem?_cons_zero, Option.some.injEq] at e
    subst e
    exact ⟨_, rfl, h⟩
  | _, _, i + 1, _, .cons h t, e => by
    simp only [List.getElem?_cons_succ] at e ⊢
    exact dpAll_get t e
theorem dpAll_len {K : PySem.W.Frag} {H : Hp} : ∀ {xs : List V} {ds : List PyData}, DpAll K H xs ds → xs.length = ds.length
  | _, _, .nil => rfl
  | _, _, .cons _ t => by rw [List.length_cons, List.length_cons, dpAll_len t]
theorem inD_turn (hu : X.A.units + 65 < cLine) {pins : List (Addr × Obj)} {σ : L2.St} {H : Hp} {s : Shared} {x : V} {v : Value} {xs : List V} {its : List Value} {d : PyData} {ds : List PyData} {i : Nat} {R : Bool → Prop} (I : Inv X pins σ H s) (rx : RelV x v) (r : Vals xs its) (hd : Dp X.K H x d) (hs : DpAll X.K H xs ds) (sd : SeqAt.shaped d = true) (ss : ds.all SeqAt.shaped = true) (hlt : i < its.toArray.size) {Q : Bool → Shared → Prop} (hq : ∀ (b : Bool), (ds.drop i).any (fun e => PyData.eqv e d) = (b || (ds.drop (i + 1)).any fun e => PyData.eqv e d) → Q b s) : wpAny (model X.prog X.w) X.A.in1 (eqBool its.toArray[i] v) Q X.xe s := by
  have hlt' : i < xs.length := by rw [List.size_toArray] at hlt; rw [r.length]; exact hlt
  obtain ⟨u, hu2, ru⟩ := r.get (List.getElem?_eq_getElem hlt')
  have e5 : its.toArray[i] = u := by
    obtain ⟨_, e6⟩ := List.getElem?_eq_some_iff.mp hu2
    simpa using e6
  rw [e5]
  obtain ⟨e, he, hde⟩ := dpAll_get hs (List.getElem?_eq_getElem hlt')
  obtain ⟨as, r1⟩ := Dp.reads I e _ u hde ru
  obtain ⟨bs, r2⟩ := Dp.reads I d x v hd rx
  have se : SeqAt.shaped e = true := List.all_eq_true.mp ss e (List.mem_of_getElem? he)
  refine SeqAt.eqAt_reads e d X.A.in1 s u v as bs r1 r2 (SeqAt.canLay_of_shaped se) (SeqAt.canLay_of_shaped sd) (SeqAt.room_of_shaped se (by show X.A.units + 1 + 64 < cLine; omega)) _ _ _ _ (hq _ ?_)
  have hl : i < ds.length := by rw [← dpAll_len hs]; exact hlt'
  rw [List.drop_eq_getElem_cons hl, List.any_cons]
  rw [List.getElem?_eq_getElem hl] at he
  cases he
  rfl
theorem op_inD (hu : X.A.units + 65 < cLine) : OpR X (compareOp .In) (rInD X.K false) := by
  intro pins s σ H x y v u Q I rx ry h
  obtain ⟨p, xs, d, ds, rfl, hq, hd, hs, sd, ss, q⟩ := h
  cases ry
  have q : Q (.bl (ds.any fun e => PyData.eqv e d)) H := q
  rcases hq with hq | hq
  · obtain ⟨its, r, pl, hz⟩ := I.list hq
    obtain ⟨o, n, e, e1, e2, e3⟩ := pl
    refine GQ.in_listG (N := its.toArray.size) (fun i s' => s' = s ∧ (ds.drop i).any (fun e => PyData.eqv e d) = ds.any fun e => PyData.eqv e d) ?_ ?_ ⟨rfl, by simp⟩
    · rintro i s1 ⟨rfl, hi⟩
      refine ⟨its.toArray, n, o.dict, o.slots, by rw [e, ← e1, ← e3], rfl, fun hlt => inD_turn (R := fun _ => True) hu I rx r hd hs sd ss hlt fun b hb => ?_⟩
      cases b with
      | true => exact ⟨.bl true, H, I, rfl, by rw [← hi, hb] at q; exact q⟩
      | false => exact ⟨rfl, by rw [← hi, hb]; rfl⟩
    · rintro s1 ⟨rfl, hi⟩
      refine ⟨.bl false, H, I, rfl, ?_⟩
      rw [← hi, List.drop_eq_nil_of_le (by rw [List.size_toArray, ← r.length, dpAll_len hs]; exact Nat.le_refl _)] at q
      exact q
  · obtain ⟨its, r, pl, hz⟩ := I.tuple hq
    refine GQ.in_tupleG (items := its.toArray) (fun i s' => s' = s ∧ (ds.drop i).any (fun e => PyData.eqv e d) = ds.any fun e => PyData.eqv e d) pl ?_ ?_ ⟨rfl, by simp⟩
    · rintro i s1 hlt ⟨rfl, hi⟩
      refine inD_turn (R := fun _ => True) hu I rx r hd hs sd ss hlt fun b hb => ?_
      cases b with
      | true => exact ⟨.bl true, H, I, rfl, by rw [← hi, hb] at q; exact q⟩
      | false => exact ⟨rfl, by rw [← hi, hb]; rfl⟩
    · rintro s1 ⟨rfl, hi⟩
      refine ⟨.bl false, H, I, rfl, ?_⟩
      rw [← hi, List.drop_eq_nil_of_le (by rw [List.size_toArray, ← r.length, dpAll_len hs]; exact Nat.le_refl _)] at q
      exact q
theorem op_notInD (hu : X.A.units + 65 < cLine) : OpR X (compareOp .NotIn) (rInD X.K true) := by
  intro pins s σ H x y v u Q I rx ry h
  obtain ⟨p, xs, d, ds, rfl, hq, hd, hs, sd, ss, q⟩ := h
  cases ry
  have q : Q (.bl (!(ds.any fun e => PyData.eqv e d))) H := q
  rcases hq with hq | hq
  · obtain ⟨its, r, pl, hz⟩ := I.list hq
    obtain ⟨o, n, e, e1, e2, e3⟩ := pl
    refine GQ.notIn_listG (N := its.toArray.size) (fun i s' => s' = s ∧ (ds.drop i).any (fun e => PyData.eqv e d) = ds.any fun e => PyData.eqv e d) ?_ ?_ ⟨rfl, by simp⟩
    · rintro i s1 ⟨rfl, hi⟩
      refine ⟨its.toArray, n, o.dict, o.slots, by rw [e, ← e1, ← e3], rfl, fun hlt => inD_turn (R := fun _ => True) hu I rx r hd hs sd ss hlt fun b hb => ?_⟩
      cases b with
      | true => exact ⟨.bl false, H, I, rfl, by rw [← hi, hb] at q; exact q⟩
      | false => exact ⟨rfl, by rw [← hi, hb]; rfl⟩
    · rintro s1 ⟨rfl, hi⟩
      refine ⟨.bl true, H, I, rfl, ?_⟩
      rw [← hi, List.drop_eq_nil_of_le (by rw [List.size_toArray, ← r.length, dpAll_len hs]; exact Nat.le_refl _)] at q
      exact q
  · obtain ⟨its, r, pl, hz⟩ := I.tuple hq
    refine GQ.notIn_tupleG (items := its.toArray) (fun i s' => s' = s ∧ (ds.drop i).any (fun e => PyData.eqv e d) = ds.any fun e => PyData.eqv e d) pl ?_ ?_ ⟨rfl, by simp⟩
    · rintro i s1 hlt ⟨rfl, hi⟩
      refine inD_turn (R := fun _ => True) hu I rx r hd hs sd ss hlt fun b hb => ?_
      cases b with
      | true => exact ⟨.bl false, H, I, rfl, by rw [← hi, hb] at q; exact q⟩
      | false => exact ⟨rfl, by rw [← hi, hb]; rfl⟩
    · rintro s1 ⟨rfl, hi⟩
      refine ⟨.bl true, H, I, rfl, ?_⟩
      rw [← hi, List.drop_eq_nil_of_le (by rw [List.size_toArray, ← r.length, dpAll_len hs]; exact Nat.le_refl _)] at q
      exact q
end
end Gx
namespace Qx
open PySem PySem.Spec PyProof.Rows L2 Gx
section
variable {K : PySem.W.Frag} {cs : List Str} {C : Str} {mf : MF}
noncomputable def inOLT (cs : List Str) (C : Str) (m : MF) (neg : Bool) (p l : PV) (O : Sto) : PR PV := match l with
  | .tup qs => inOP cs C m neg p qs O
  | _ => .bad
theorem os_inOT {neg : Bool} (ck : ClsK K cs) (nk : NfK K cs) (inj : ∀ D ∈ cs, He.ga K D = He.ga K C → D = C) : OpS K (rInOT K (He.ga K C) (spM K false mf) neg) (inOLT cs C mf neg) := by
  intro R ι O H p q x y E Q S r1 r2 h
  cases q with
  | tup qs =>
    obtain ⟨a, xs, rfl, h1, h2⟩ := r2
    exact ⟨a, xs, rfl, sqt_same S.frozen h1, inO_read (fun _ _ _ _ => trivial) ck nk inj (ι := ι) (H := H) S .refl r1 h2 h⟩
  | _ => exact h.elim
/-! data -/
def toDs : List PV → Option (List PyData)
  | [] => some []
  | p :: ps => match toD0 p, toDs ps with
    | some d, some ds => some (d :: ds)
    | _, _ => none
theorem toDs_dp {ι : List Addr} {G H : Hp} (e : Same G H) : ∀ {ps : List PV} {xs : List V} {ds : List PyData}, RepL K ι G ps xs → toDs ps = some ds → DpAll K H xs ds
  | [], xs, ds, r, h => by
    cases h
    rw [show xs = [] from r]
    exact .nil
  | p :: ps, xs, ds, ⟨x, t, e1, r1, r2⟩, h => by
    subst e1
    unfold toDs at h
    cases h1 : toD0 p with
    | none => rw [h1] at h; cases h
    | some d =>
      cases h2 : toDs ps with
      | none => rw [h1, h2] at h; cases h
      | some ds' =>
        rw [h1, h2] at h
        cases h
        exact .cons (toD0_dp e p x d r1 h1) (toDs_dp e r2 h2)
def inD (neg : Bool) (p q : PV) (O : Sto) : PR PV := match toD O p, (seqOf O q).bind toDs with
  | some d, some ds => if (SeqAt.shaped d && ds.all SeqAt.shaped) = true then .ok (.bl (if neg then !dIn d ds else dIn d ds)) O else .bad
  | _, _ => .bad
theorem os_inD {neg : Bool} : OpS K (rInD K neg) (inD neg) := by
  intro R ι O H p q x y E Q S r1 r2 h
  unfold inD at h
  cases e : toD O p with
  | none => rw [e] at h; exact h.elim
  | some d =>
    cases e2 : seqOf O q with
    | none => rw [e, e2] at h; exact h.elim
    | some qs =>
      cases e3 : toDs qs with
      | none => rw [e, e2] at h; simp only [Option.bind_some, e3] at h; exact h.elim
      | some ds =>
        rw [e, e2] at h
        simp only [Option.bind_some, e3] at h
        split at h
        · rename_i c
          obtain ⟨c1, c2⟩ := Bool.and_eq_true_iff.mp c
          obtain ⟨a, xs, h1, h2, h3⟩ := seq_read S r2 e2
          exact ⟨a, xs, d, ds, h1, h2, toD_dp S r1 e, toDs_dp S.frozen h3 e3, c1, c2, h.here S rfl⟩
        · exact h.elim
end
end Qx

/-! Own layer Xs: what is walked may be a list or a tuple; sorted(list of pairs of whole numbers). -/
namespace Gx
open PySem PySem.Spec PyProof.Rows L2
section
variable {X : Cx} {tg : Expr}
def iAnyT (K : PySem.W.Frag) (tl : TE) : TI := fun σ H R => tl σ H fun x H1 => ∃ a, x = .ref a ∧ ((∃ xs, SqL K H1 a xs) ∧ R (Itl K a) H1 ∨ (∃ xs, SqT K H1 a xs) ∧ R (Itt K a) H1)
theorem pi_any {l : Expr} {tl : TE} (hl : PE X l tl) : PI X tg l (iAnyT X.K tl) := by
  refine ⟨fun pins s σ H R I h => ?_⟩
  refine thn (hl.run pins s σ H _ I h) fun v s1 ⟨x, H1, I1, r1, q1⟩ => ?_
  obtain ⟨a, e, ⟨⟨xs, hq⟩, q⟩ | ⟨⟨xs, hq⟩, q⟩⟩ := q1
  · subst e
    cases r1
    obtain ⟨its, rv, p, hz⟩ := I1.list hq
    refine wpAny_pyIter_list p.isList ?_
    refine ⟨s1.heap.objs.size, [s1.heap.objs.size], _, _, H1, rfl, I1.kept (t' := s1.toks) fun b o e => Heap.get?_push_of_some _ e, turn_list a _, ⟨_, Heap.get?_push_size _ rfl, rfl, rfl⟩, fun b hb => ?_, q⟩
    have e : b = s1.heap.objs.size := by simpa using hb
    subst e
    exact I1.fpOk (Nat.le_refl _) (I1.hok.fresh (Nat.le_refl _))
  · subst e
    cases r1
    obtain ⟨its, rv, p, hz⟩ := I1.tuple hq
    refine wpAny_pyIter_tuple (show s1.heap.IsTuple a its.toArray from p) ?_
    refine ⟨s1.heap.objs.size, [s1.heap.objs.size], _, _, H1, rfl, I1.kept (t' := s1.toks) fun b o e => Heap.get?_push_of_some _ e, turn_tuple a _, ⟨_, Heap.get?_push_size _ rfl, rfl, rfl⟩, fun b hb => ?_, q⟩
    have e : b = s1.heap.objs.size := by simpa using hb
    subst e
    exact I1.fpOk (Nat.le_refl _) (I1.hok.fresh (Nat.le_refl _))
/-! sorted -/
abbrev P2 := V × (Int × Int)
def encP (b : P2) : PyData := .tuple [.int b.2.1, .int b.2.2]
def leP (p q : Int × Int) : Bool := decide (p.1 < q.1 ∨ (p.1 = q.1 ∧ p.2 ≤ q.2))
def leB (a b : P2) : Bool := leP a.2 b.2
def okP (K : PySem.W.Frag) (H : Hp) (b : P2) : Prop := ∃ t, b.1 = .ref t ∧ SqT K H t [.int b.2.1, .int b.2.2]
def rSort2 (K : PySem.W.Frag) : List V → Hp → VK → Prop := fun vs H Q => ∃ (a : Addr) (bs : List P2), vs = [V.ref a] ∧ SqL K H a (bs.map Prod.fst) ∧ (∀ b ∈ bs, okP K H b) ∧ ∀ p, H p = none → Q (.ref p) (upd H p (.lst ((bs.mergeSort leB).map Prod.fst)))
theorem each_p {K : PySem.W.Frag} {H : Hp} : ∀ {bs : List P2} {its : List Value}, Vals (bs.map Prod.fst) its → (∀ b ∈ bs, okP K H b) → PySem.W.EachIs (fun (v : Value) (b : P2) => RelV b.1 v ∧ okP K H b) its bs
  | [], _, .nil, _ => .nil
  | b :: bs, _, .cons h t, hb => .cons ⟨h, hb b (by simp)⟩ (each_p t fun c hc => hb c (by simp [hc]))
theorem vals_p {K : PySem.W.Frag} {H : Hp} : ∀ {bs : List P2} {out : List Value}, PySem.W.EachIs (fun (v : Value) (b : P2) => RelV b.1 v ∧ okP K H b) out bs → Vals (bs.map Prod.fst) out
  | _, _, .nil => .nil
  | _, _, .cons h t => .cons h.1 (vals_p t)
theorem cr_sort2 (hu : X.A.units + 65 < cLine) : CallR X (.builtin "sorted") (rSort2 X.K) := by
  intro pins s σ H vs us Q I r h
  obtain ⟨a, bs, rfl, hs, hb, q⟩ := h
  obtain ⟨its, rv, hl, hz⟩ := I.list hs
  rw [Vals.ref1 r]
  have ei := each_p rv hb
  have er : PySem.W.EachIs (fun (v : Value) (b : P2) => ∃ as, Reads s.heap v (encP b) as) its bs := ei.mono fun v b hh => by
    obtain ⟨r1, t, e, h2⟩ := hh
    rw [e] at r1
    exact Dp.reads I (encP b) _ v (.tup h2 (.cons (.int _) (.cons (.int _) .nil))) r1
  have hle : bs.length ≤ sizeLine := by rw [← List.length_map (f := Prod.fst)]; exact hz
  have hde : ∀ b, b ∈ bs → X.A.units + 2 + (encP b).depth < cLine := fun b _ => by
    have : (encP b).depth = 1 := by rfl
    omega
  refine PySem.W.sorted_data (enc := encP) hl.isList ei er (PySem.W.AllAlike.of fun b b' => rfl) (PySem.W.Sortable.tuples fun b => ⟨_, _, rfl⟩) hle hde fun out hlen ho => ?_
  · have e1 : PySem.W.dataLe false encP = leB := PySem.W.dataLe_ii (fun b : P2 => b.2.1) (fun b : P2 => b.2.2)
    rw [e1] at ho
    obtain ⟨ep, he'⟩ := PyProof.Rows.sortedAll_at s.heap its out.toArray
    refine ⟨.ref _, upd H (s.heap.objs.size + 1) (.lst ((bs.mergeSort leB).map Prod.fst)), I.laid (t' := s.toks) (fun _ _ => PyProof.Rows.sortedAll_old) (Nat.le_succ _) ⟨?_, out, ep, vals_p ho, he'⟩, rfl, q _ (I.hok.fresh (Nat.le_succ _))⟩
    rw [List.length_map, List.length_mergeSort, ← List.length_map (f := Prod.fst)]
    exact hz
/-! xs[::-1] of a list -/
def tRevLs (K : PySem.W.Frag) (te : TE) : TE := fun σ H Q => te σ H fun x H1 => ∃ a xs, x = .ref a ∧ SqL K H1 a xs ∧ ∀ p, H1 p = none → Q (.ref p) (upd H1 p (.lst xs.reverse))
theorem pe_revLs {e : Expr} {te : TE} {k : Nat} {p1 p2 p3 pos : Pos} (he : PE X e te) : PE X (.Subscript e (.Slice none none (some (.UnaryOp .USub (.Constant (.int 1) k p1) p2)) p3) pos) (tRevLs X.K te) := by
  refine ⟨fun pins s σ H Q I h => Subscript_ (thn (he.run pins s σ H _ I h) fun v s1 ⟨x, H1, I1, r1, q1⟩ => ?_)⟩
  obtain ⟨a, xs, rfl, hx, q⟩ := q1
  cases r1
  have st : PO X (some (.UnaryOp .USub (.Constant (.int 1) k p1) p2)) (tPart (tUn (rU fun i => .int (-i)) (tC (.int 1)))) := po_some (pe_un un_neg pe_int)
  refine wpAny_Slice (thn (po_none.run pins s1 σ H1 (fun o H2 => o = none ∧ H2 = H1) I1 ⟨rfl, rfl⟩) fun vl s2 ⟨l, H2, I2, pl, el, e2⟩ => ?_)
  subst el
  subst e2
  refine thn (po_none.run pins s2 σ H2 (fun o H3 => o = none ∧ H3 = H2) I2 ⟨rfl, rfl⟩) fun vu s3 ⟨u, H3, I3, pu, eu, e3⟩ => ?_
  subst eu
  subst e3
  refine thn (st.run pins s3 σ H3 (fun o H4 => o = some (-1) ∧ H4 = H3) I3 ⟨1, rfl, -1, rfl, rfl, rfl⟩) fun vs s4 ⟨o, H4, I4, ps, eo, e4⟩ => ?_
  subst eo
  subst e4
  have I5 : Inv X pins σ H4 { s4 with heap := s4.heap.push { cls := .type "slice", data := .fields #[vl, vu, vs] } } := I4.kept (t' := s4.toks) fun b ob q => Heap.get?_push_of_some _ q
  obtain ⟨its, r, ht, hz⟩ := I5.list hx
  show wpAny (model X.prog X.w) X.A (subscriptTail e (.Slice none none (some (.UnaryOp .USub (.Constant (.int 1) k p1) p2)) p3) (.ref a) (.ref s4.heap.objs.size)) (EP X pins σ Q) X.xe { s4 with heap := s4.heap.push { cls := .type "slice", data := .fields #[vl, vu, vs] } }
  refine tail_any (ops := [.ref a, .ref s4.heap.objs.size]) ht.isList.typeIs slot_list_getitem.lookup ?_ (by with_unfolding_all rfl)
  refine wpAny_getItem_list_slice ht.isList (Heap.IsSliceOf.new _ vl vu _) pl pu ps (by simp) ?_ (by rw [List.size_toArray, ← r.length]; exact hz)
  rw [PySem.W.krv_pick]
  refine ⟨.ref _, _, I5.laid (t' := s4.toks) (o := .lst xs.reverse) (fun b ob q => Heap.get?_push_of_some _ q) (Nat.le_refl _) ?_, rfl, q _ (I5.hok.fresh (Nat.le_refl _))⟩
  exact ⟨by rw [List.length_reverse]; exact hz, _, 0, r.reverse, Heap.get?_push_size _ rfl⟩
end
end Gx
namespace Qx
open PySem PySem.Spec PyProof.Rows L2 Gx
section
variable {K : PySem.W.Frag} {E : XM} {te : TE} {fe : EF}
/-! ### what is walked: a list or a tuple -/
def iA (f : EF) : IF := fun s O => (f s O).bind fun p O1 => match tupOf p with
  | some ps => .ok (ps, none) O1
  | none => match p with
    | .lst ps => .ok (ps, none) O1
    | .rol ps => .ok (ps, none) O1
    | .loc n => match O1[n]? with
      | some (some (.lst ps)) => .ok (ps, some (n, ps)) O1
      | _ => .bad
    | _ => .bad
theorem sim_iA (he : SimE K E te fe) : SimIt K E (iAnyT K te) (iA fe) := fun R ι O H σ s Q S L h =>
  he R ι O H σ s _ S L (h.bind fun p O1 x ι1 H1 S1 X1 r1 h1 => by
    have fr : ∀ ps, frL p = some ps → Post K R (xat E σ) (rpI K) ι1 O1 H1 Q (.ok (ps, none) O1) → ∃ a, x = .ref a ∧ ((∃ xs, SqL K H1 a xs) ∧ Q (Itl K a) H1 ∨ (∃ xs, SqT K H1 a xs) ∧ Q (Itt K a) H1) := fun ps e h1 => by
      obtain ⟨a, xs, e1, h3, h4⟩ := frL_read r1 e
      exact ⟨a, e1, .inl ⟨⟨xs, S1.frozen.seq h3⟩, h1.here S1 (itl_ok fun R' ι' O' H' S' p1 sm _ => ⟨xs, S'.frozen.seq (sm.seq h3), h4.mono p1 sm⟩)⟩⟩
    cases p with
    | lst ps => exact fr ps rfl h1
    | rol ps => exact fr ps rfl h1
    | loc n =>
      obtain ⟨a, e1, e2⟩ := r1
      simp only [tupOf] at h1
      cases q : O1[n]? with
      | none => simp [q] at h1; exact h1.elim
      | some w =>
        cases w with
        | none => simp [q] at h1; exact h1.elim
        | some w =>
          cases w with
          | lst ps =>
            simp only [q] at h1
            obtain ⟨o, h3, xs, h4, h5⟩ := S1.obj n a _ e2 q
            subst h4
            refine ⟨a, e1, .inl ⟨⟨xs, SqL.of h3⟩, h1.here S1 (itl_ok fun R' ι' O' H' S' p1 sm gd => ?_)⟩⟩
            obtain ⟨o, h3, xs, h4, h5⟩ := S'.obj n a _ (p1 _ _ e2) (show O'[n]? = some (some (.lst ps)) from gd)
            subst h4
            exact ⟨xs, SqL.of h3, h5⟩
          | _ => simp [q] at h1; exact h1.elim
    | tup ps =>
      obtain ⟨a, xs, e1, h3, h4⟩ := r1
      exact ⟨a, e1, .inr ⟨⟨xs, sqt_same S1.frozen h3⟩, h1.here S1 (itt_ok h3 h4)⟩⟩
    | _ => exact h1.elim)
/-! ### sorted(pairs) -/
def prOf : PV → Option (Int × Int)
  | .tup [.int i, .int j] => some (i, j)
  | _ => none
def prsOf : List PV → Option (List (Int × Int))
  | [] => some []
  | p :: ps => match prOf p, prsOf ps with
    | some z, some zs => some (z :: zs)
    | _, _ => none
def prP (z : Int × Int) : PV := .tup [.int z.1, .int z.2]
def bSort2 := b1 fun p O => match lstOf O p with
  | some ps => match prsOf ps with
    | some zs => .ok (.lst ((zs.mergeSort leP).map prP)) O
    | none => .bad
  | none => .bad
def bSort2O := b1 fun p O => match lstOf O p with
  | some ps => match prsOf ps with
    | some zs => .ok (.loc O.length) (O ++ [some (.lst ((zs.mergeSort leP).map prP))])
    | none => .bad
  | none => .bad
theorem prOf_eq {p : PV} {z : Int × Int} (h : prOf p = some z) : p = prP z := by
  unfold prOf at h
  split at h
  · cases h; rfl
  · cases h
theorem prs_read {ι : List Addr} {G : Hp} : ∀ {ps : List PV} {zs : List (Int × Int)} {xs : List V}, prsOf ps = some zs → RepL K ι G ps xs → ∃ bs : List P2, bs.map Prod.fst = xs ∧ bs.map Prod.snd = zs ∧ ∀ b ∈ bs, okP K G b ∧ Rep K ι G (prP b.2) b.1
  | [], zs, xs, e, r => by cases e; cases r; exact ⟨[], rfl, rfl, fun b hb => by cases hb⟩
  | p :: ps, zs, xs, e, r => by
    unfold prsOf at e
    cases e1 : prOf p with
    | none => simp [e1] at e
    | some z =>
      cases e2 : prsOf ps with
      | none => simp [e1, e2] at e
      | some zs' =>
        simp only [e1, e2] at e
        cases e
        obtain ⟨x, t, e3, r1, r2⟩ := r
        subst e3
        obtain ⟨bs, h1, h2, h3⟩ := prs_read e2 r2
        have e4 := prOf_eq e1
        subst e4
        refine ⟨(x, z) :: bs, by simp [h1], by simp [h2], fun b hb => ?_⟩
        rcases List.mem_cons.mp hb with rfl | hb
        · refine ⟨?_, r1⟩
          obtain ⟨a, xs, h5, h6, h7⟩ := r1
          obtain ⟨_, _, rfl, h8, _, _, rfl, h9, h10⟩ := h7
          cases h8; cases h9; cases h10
          exact ⟨a, h5, h6⟩
        · exact h3 b hb
theorem repL_bs {ι : List Addr} {G : Hp} : ∀ {bs : List P2}, (∀ b ∈ bs, Rep K ι G (prP b.2) b.1) → RepL K ι G ((bs.map Prod.snd).map prP) (bs.map Prod.fst)
  | [], _ => rfl
  | b :: bs, h => ⟨_, _, rfl, h b (by simp), repL_bs fun c hc => h c (by simp [hc])⟩
theorem sort_snd (bs : List P2) : (bs.map Prod.snd).mergeSort leP = (bs.mergeSort leB).map Prod.snd := (List.map_mergeSort (r := leB) (s := leP) (f := fun b : P2 => b.2) (l := bs) fun _ _ _ _ => rfl).symm
theorem cb_sort2 : CbS K (rSort2 K) bSort2 := cb_1 fun R ι O H p x E Q S r1 h => by
  cases e : lstOf O p with
  | none => simp [e] at h; exact h.elim
  | some ps =>
    simp only [e] at h
    cases e1 : prsOf ps with
    | none => simp [e1] at h; exact h.elim
    | some zs =>
      simp only [e1] at h
      obtain ⟨a, xs, h1, h2, h3⟩ := lst_read S r1 e
      obtain ⟨bs, h4, h5, h6⟩ := prs_read e1 h3
      refine ⟨a, bs, by rw [h1], by rw [h4]; exact h2, fun b hb => ?_, fun o ho => ?_⟩
      · obtain ⟨t, e5, e6⟩ := (h6 b hb).1
        exact ⟨t, e5, sqt_same S.frozen e6⟩
      · obtain ⟨S2, X2, e2⟩ := S.newF ho (.lst ((bs.mergeSort leB).map Prod.fst))
        refine h.at S2 X2 ⟨o, _, rfl, e2, ?_⟩
        rw [← h5, sort_snd]
        exact X2.repL (repL_bs fun b hb => (h6 b (List.mem_mergeSort.mp hb)).2)
theorem cb_sort2O : CbS K (rSort2 K) bSort2O := cb_1 fun R ι O H p x E Q S r1 h => by
  cases e : lstOf O p with
  | none => simp [e] at h; exact h.elim
  | some ps =>
    simp only [e] at h
    cases e1 : prsOf ps with
    | none => simp [e1] at h; exact h.elim
    | some zs =>
      simp only [e1] at h
      obtain ⟨a, xs, h1, h2, h3⟩ := lst_read S r1 e
      obtain ⟨bs, h4, h5, h6⟩ := prs_read e1 h3
      refine ⟨a, bs, by rw [h1], by rw [h4]; exact h2, fun b hb => ?_, fun o ho => ?_⟩
      · obtain ⟨t, e5, e6⟩ := (h6 b hb).1
        exact ⟨t, e5, sqt_same S.frozen e6⟩
      · have hr : RepL K ι (fz R ι O H) ((zs.mergeSort leP).map prP) ((bs.mergeSort leB).map Prod.fst) := by
          rw [← h5, sort_snd]
          exact repL_bs fun b hb => (h6 b (List.mem_mergeSort.mp hb)).2
        obtain ⟨S2, X2⟩ := S.newO (p := .lst ((zs.mergeSort leP).map prP)) ho (o := .lst ((bs.mergeSort leB).map Prod.fst)) ⟨_, rfl, hr⟩
        exact h.at S2 X2 ⟨o, rfl, new_at S.len⟩
/-! ### xs[::-1] of a list -/
def eRevLs (a : EF) : EF := fun s O => (a s O).bind fun p O1 => match lstOf O1 p with
  | some ps => .ok (.lst ps.reverse) O1
  | none => .bad
theorem sim_revLs {ta : TE} {fa : EF} (ha : SimE K E ta fa) : SimE K E (tRevLs K ta) (eRevLs fa) := fun R ι O H σ s Q S L h =>
  ha R ι O H σ s _ S L (h.bind fun p O1 x ι1 H1 S1 X1 r1 h1 => by
    cases e : lstOf O1 p with
    | none => simp [e] at h1; exact h1.elim
    | some ps =>
      simp only [e] at h1
      obtain ⟨a, xs, h2, h3, h4⟩ := lst_read S1 r1 e
      refine ⟨a, xs, h2, h3, fun q hq => ?_⟩
      obtain ⟨S2, X2, e2⟩ := S1.newF hq (.lst xs.reverse)
      exact h1.at S2 X2 ⟨q, _, rfl, e2, X2.repL h4.rev⟩)
/-! ### a is b, a is not b of truths -/
def isB (p q : PV) (O : Sto) : PR PV := match p, q with
  | .bl a, .bl b => .ok (.bl (decide (a = b))) O
  | _, _ => .bad
def notB (p q : PV) (O : Sto) : PR PV := match p, q with
  | .bl a, .bl b => .ok (.bl (!decide (a = b))) O
  | _, _ => .bad
theorem os_isB : OpS K rIsB isB := by
  intro R ι O H p q x y E Q S r1 r2 h
  unfold isB at h
  split at h
  · cases r1; cases r2
    exact ⟨_, _, rfl, rfl, h.here S rfl⟩
  · exact h.elim
theorem os_notB : OpS K rNotB notB := by
  intro R ι O H p q x y E Q S r1 r2 h
  unfold notB at h
  split at h
  · cases r1; cases r2
    exact ⟨_, _, rfl, rfl, h.here S rfl⟩
  · exact h.elim
/-! ### C(.., f=e) where C's instances may change -/
def eMakeKO (C : Str) (m : MF) (n k : Nat) (gP : List PV → List PV → List PV) (a z : AF) : EF := fun s O => (a s O).bind fun ps O1 => (z s O1).bind fun zs O2 => if ps.length = n ∧ zs.length = k then
  (noX (m (.loc O2.length :: gP ps zs) (O2 ++ [some (.ins C [] [])]))).bind fun r O3 => match r with
  | .non => .ok (.loc O2.length) O3
  | _ => .bad else .bad
theorem sim_makeKO {C : Str} {tA tZ : TA} {fA fZ : AF} {m : MF} {n k : Nat} {gP : List PV → List PV → List PV} {gV : List V → List V → List V} (hA : SimA K none tA fA) (hZ : SimA K none tZ fZ) (hg : ∀ x ι G ps vs zs ws, RepL K ι G ps vs → RepL K ι G zs ws → ∃ us, gV (.ref x :: vs) ws = .ref x :: us ∧ RepL K ι G (gP ps zs) us) : SimE K none (tMakeN (He.ga K C) n k (spM K false m) gV E0 tA tZ) (eMakeKO C m n k gP fA fZ) := fun R ι O H σ s Q S L h =>
  hA R ι O H σ s _ S L (h.bind fun ps O1 xs ι1 H1 S1 X1 r1 h1 => hZ R ι1 O1 H1 σ s _ S1 (L.ext X1) (h1.bind fun zs O2 ws ι2 H2 S2 X2 r2 h2 => by
    split at h2
    · rename_i c
      refine ⟨by rw [r1.len]; exact c.1, by rw [r2.len]; exact c.2, fun x dx hx hdx ne => ?_⟩
      obtain ⟨us, e, r3⟩ := hg x _ _ ps xs zs ws (X2.repL r1) r2
      rw [e]
      obtain ⟨S3, X3, _⟩ := S2.newF hdx (.own x)
      obtain ⟨S4, X4⟩ := S3.newO (D := x) (p := .ins C [] []) (by rw [upd_ne fun e => ne e.symm]; exact hx) (o := .ins (He.ga K C) dx []) ⟨dx, [], rfl, rfl, rfl⟩
      have X := X3.trans X4
      refine ⟨R, _, _, .loc O2.length :: gP ps zs, S4, .consR (show Rep K _ _ (.loc O2.length) _ from ⟨x, rfl, new_at S2.len⟩) (X.repL r3), ?_⟩
      refine Post.noX (E := none) (Post.bind (Post.of X h2) fun r O3 v ι3 H3 S5 X5 r4 h3 => ?_)
      cases r with
      | non => exact ⟨r4, h3.here S5 ⟨x, rfl, X5.pre _ _ (new_at S2.len)⟩⟩
      | _ => exact h3.elim
    · exact h2.elim))
/-! ### list(range(..)) -/
theorem repL_rg {ι : List Addr} {G : Hp} (lo : Int) (is : List Nat) : RepL K ι G (is.map fun i => .int (lo + (i : Nat))) (is.map fun i => V.int (lo + (i : Nat))) := by
  induction is with
  | nil => rfl
  | cons i is ih => exact ⟨_, _, rfl, rfl, ih⟩
def rgD (i j : Int) : Bool := decide (-(2 ^ 62) ≤ i ∧ i < 2 ^ 62 ∧ -(2 ^ 62) ≤ j ∧ j < 2 ^ 62 ∧ (j - i).toNat ≤ 2 ^ 24)
def eLstRg2 (a b : EF) : EF := fun s O => (a s O).bind fun p O1 => (b s O1).bind fun q O2 => match p, q with
  | .int i, .int j => if rgD i j = true then .ok (.lst (rgL i (j - i).toNat)) O2 else .bad
  | _, _ => .bad
def eLstRg2O (a b : EF) : EF := fun s O => (a s O).bind fun p O1 => (b s O1).bind fun q O2 => match p, q with
  | .int i, .int j => if rgD i j = true then .ok (.loc O2.length) (O2 ++ [some (.lst (rgL i (j - i).toNat))]) else .bad
  | _, _ => .bad
theorem sim_lstRg2 {ta tb : TE} {fa fb : EF} (ha : SimE K E ta fa) (hb : SimE K E tb fb) : SimE K E (tLstRg (tRg2 ta tb)) (eLstRg2 fa fb) := fun R ι O H σ s Q S L h =>
  ha R ι O H σ s _ S L (h.bind fun p O1 x ι1 H1 S1 X1 r1 h1 => hb R ι1 O1 H1 σ s _ S1 (L.ext X1) (h1.bind fun q O2 y ι2 H2 S2 X2 r2 h2 => by
    split at h2
    · split at h2
      · rename_i i j c
        cases X2.rep r1
        cases r2
        unfold rgD at c
        have c := of_decide_eq_true c
        refine ⟨_, _, rfl, rfl, c, fun z hz => ?_⟩
        obtain ⟨S3, X3, e3⟩ := S2.newF hz (.lst (rgV i j))
        exact h2.at S3 X3 ⟨z, _, rfl, e3, repL_rg i _⟩
      · exact h2.elim
    · exact h2.elim))
theorem sim_lstRg2O {ta tb : TE} {fa fb : EF} (ha : SimE K E ta fa) (hb : SimE K E tb fb) : SimE K E (tLstRg (tRg2 ta tb)) (eLstRg2O fa fb) := fun R ι O H σ s Q S L h =>
  ha R ι O H σ s _ S L (h.bind fun p O1 x ι1 H1 S1 X1 r1 h1 => hb R ι1 O1 H1 σ s _ S1 (L.ext X1) (h1.bind fun q O2 y ι2 H2 S2 X2 r2 h2 => by
    split at h2
    · split at h2
      · rename_i i j c
        cases X2.rep r1
        cases r2
        unfold rgD at c
        have c := of_decide_eq_true c
        refine ⟨_, _, rfl, rfl, c, fun z hz => ?_⟩
        obtain ⟨S3, X3⟩ := S2.newO (p := .lst (rgL i (j - i).toNat)) hz (o := .lst (rgV i j)) ⟨_, rfl, repL_rg i _⟩
        exact h2.at S3 X3 ⟨z, rfl, new_at S2.len⟩
      · exact h2.elim
    · exact h2.elim))
end
end Qx

/-! Own layer Xt: several except clauses, each of one class or a tuple of two, the exception tracked from then on. -/
namespace Gx
open PySem PySem.Spec PyProof.Rows L2
/-- a clause's test: the class or the classes told, the exception held against them -/
def TestOk (X : Cx) (t : Expr) (cs : List Value) : Prop := ∀ (a : Addr) (pn : List (Addr × Obj)) (σ : L2.St) (H : Hp) (s : Shared) (cls : Value) (b : Bool) (E : Value → Shared → Prop) (Q : Bool → Shared → Prop), Inv (X.suite a pn) [] σ H s →
  PySem.W.Looks (model X.prog X.w) s.heap (typeOf (.ref a)) cls → PySem.W.exmAny X.K cls cs = some b → (∀ h', (∀ q o, s.heap.get? q = some o → h'.get? q = some o) → Q b { s with heap := h' }) →
  wpAny (model X.prog X.w) (X.A.mark (some (.ref a))) (eval t X.env) (fun c s₁ => wpAny (model X.prog X.w) (X.A.mark (some (.ref a))) (excMatches (.ref a) c) Q E s₁) E s
section
variable {X : Cx}
theorem name_load {x : Str} {c : Value} {np : Pos} {a : Addr} {pn : List (Addr × Obj)} {σ : L2.St} {H : Hp} {s : Shared} {Q : Value → Shared → Prop} {E : Value → Shared → Prop} (hc : Names X x c) (S3 : Inv (X.suite a pn) [] σ H s) (q : Q c s) : wpAny (model X.prog X.w) (X.A.mark (some (.ref a))) (eval (.Name x np) X.env) Q E s := by
  obtain ⟨hg, hdbg, hm | ⟨hm, hv, hnn⟩⟩ := hc
  · exact ld_glob S3 hg hm q hdbg
  · exact ld_blt S3 hg hm hv q hnn hdbg
theorem test_one {x : Str} {c : Value} {np : Pos} (hc : Names X x c) : TestOk X (.Name x np) [c] := by
  intro a pn σ H s cls b E Q S LT hx q
  obtain ⟨b1, d1, x1, y1, z1⟩ := PySem.W.exmAny_cons hx
  have w1 : some false = some d1 := y1
  cases w1
  rw [Bool.or_false] at z1
  subst z1
  refine name_load hc S ?_
  have LM := PySem.W.exm_one (Inv.kIn S) LT x1
  exact PySem.W.Looks.here LM (q s.heap fun _ _ z => z)
theorem test_two {x1 x2 : Str} {c1 c2 : Value} {p1 p2 pos : Pos} {k : Nat} (h1 : Names X x1 c1) (h2 : Names X x2 c2) : TestOk X (.Tuple [.Name x1 p1, .Name x2 p2] k pos) [c1, c2] := by
  intro a pn σ H s cls b E Q S LT hx q
  refine wpAny_Tuple ?_
  refine wpAny_items_cons (name_load h1 S ?_)
  refine wpAny_items_cons (name_load h2 S ?_)
  refine wpAny_items_nil ⟨by size_fits, ?_⟩
  have kp : ∀ q o, s.heap.get? q = some o → (s.heap.push { cls := .type "tuple", data := .seq [c1, c2].toArray }).get? q = some o := fun _ _ z => Heap.get?_push_of_some _ z
  exact (PySem.W.exm_tup2 ((Inv.kIn S).keeps kp) (LT.keeps kp) (Heap.get?_push_size s.heap rfl) hx).here (q _ kp)
theorem flying_keep {h h' B : Heap} {l : List Env} {a : Addr} {Z : Obj → Prop} (k : ∀ b o, h.get? b = some o → h'.get? b = some o) (x : HandSPX.FlyingZ B l a Z h) : HandSPX.FlyingZ B l a Z h' := by
  obtain ⟨k1, k2, k3, oe, vs, T, oT, ts, he, hz, hd, h1, h2, h3, h4, h5, h6⟩ := x
  exact ⟨fun b o e => k b o (k1 b o e), k2, Heap.FunFrames.of_keeps (fun b o e _ => ⟨o, k b o e, rfl⟩) k3, oe, vs, T, oT, ts, k _ _ he, hz, hd, h1, h2, h3, k _ _ h4, h5, h6⟩
def wManyT (K : PySem.W.Frag) (Wout : WX) (D : Ends) : List (List Value × Nat × TS) → WX
  | [] => Wout
  | (cs, i, ts) :: r => fun cls d σ H => ∃ b, PySem.W.exmAny K cls cs = some b ∧ (b = true → ∀ a oe, H a = none → Zc cls d oe → (∃ vs, oe.data = .fields vs) → ts { nx := fun σ' H' => D.nx (List.set σ' i none) H', rt := D.rt, bk := fun σ' H' => D.bk (List.set σ' i none) H', ct := fun σ' H' => D.ct (List.set σ' i none) H' } (List.set σ i (some (.ref a))) (upd H a (XO a oe))) ∧ (b = false → wManyT K Wout D r cls d σ H)
inductive HdT (X : Cx) : List ExceptHandler → List (List Value × Nat × TS) → Prop
  | nil : HdT X [] []
  | cons {t : Expr} {n : Str} {i : Nat} {b₀ : Stmt} {suite : List Stmt} {pos' : Pos} {cs : List Value} {ts : TS} {hds : List ExceptHandler} {l : List (List Value × Nat × TS)} (ht : TestOk X t cs) (hi : X.N[i]? = some n) (hln : X.env.kindOf n = some .local)
      (hsu : ∀ (a : Addr) (pn : List (Addr × Obj)), PSs (X.suite a pn) (b₀ :: suite) ts) (r : HdT X hds l) : HdT X (.ExceptHandler (some t) (some n) (b₀ :: suite) pos' :: hds) ((cs, i, ts) :: l)
theorem handle_many {Wout : WX} {D : Ends} {pins : List (Addr × Obj)} {a : Addr} {B : Heap} {sI s' : Shared} {σ' : L2.St} {H' : Hp} {cls : Value} {d : Option Addr} (hs : X.stack = X.env :: X.outer) (hf : X.env.frame = some X.env.locals) (hfr : X.A.frames = some (X.env :: X.outer)) (hex : X.ex = []) (hN : X.N.Nodup) (tk : Takes X Wout)
    (J : Inv X pins σ' H' sI) (nb : ∀ b o, sI.heap.get? b = some o → b ∉ frs X.stack → B.get? b = some o) (up : sI.heap.UpToSlots s'.heap) (na : H' a = none) (os : s'.os = sI.os) (ag : AllBare s'.gens) :
    ∀ {hds : List ExceptHandler} {l : List (List Value × Nat × TS)}, HdT X hds l → ∀ h3 : Heap, HandSPX.FlyingZ B (X.env :: X.outer) a (Zc cls d) h3 → s'.heap.UpToSlots h3 → wManyT X.K Wout D l cls d σ' H' →
    wpAny (model X.prog X.w) X.A (handleBy (.ref a) X.env hds) (SP X pins D) X.xe { heap := h3, gens := s'.gens, drawn := s'.drawn, toks := s'.toks, os := s'.os } := by
  have ok := J.ok
  intro hds l hd
  induction hd with
  | nil =>
    intro h3 fl3 up3 hw
    refine wpAny_handleBy_nil ?_
    have fl3' := fl3
    obtain ⟨k1, k2, k3, oe, vs, T, oT, ts', he, hz, hd, h1, hr⟩ := fl3'
    refine wpAny_bind (wpAny_field he hd h1 ?_)
    rw [if_neg (by simp)]
    refine wpAny_bind ?_
    rw [hf]
    refine HandSPX.setFlight_upZ fl3 fun h4 hh4 up4 => wpAny_throw (tk (.ref a) _ ⟨a, B, sI, pins, σ', H', cls, d, rfl, J, nb, Heap.UpToSlots.trans (Heap.UpToSlots.trans up up3) up4, .inr (.inr (by rw [hs]; exact hh4)), na, os, ag, hw⟩)
  | cons ht hi hln hsu r ih =>
    rename_i t n i b₀ suite pos' cs ts hds l
    intro h3 fl3 up3 hw
    obtain ⟨b, hb1, hyes, hno⟩ := hw
    have notFr : ∀ {h : Heap} {o : Obj} {vs : Array Value}, h.FunFrames B (X.env :: X.outer) → h.get? a = some o → o.data = .fields vs → a ∉ frs (X.env :: X.outer) := fun ff e dd hm => by
      obtain ⟨_, o', e', hnf⟩ := Heap.FunFrames.mem ff hm
      rw [e] at e'
      cases e'
      exact hnf _ dd
    have J3 : Inv X pins σ' H' { heap := h3, gens := s'.gens, drawn := s'.drawn, toks := s'.toks, os := s'.os } := Inv.landed J nb fl3.1 (Heap.UpToSlots.trans up up3) os ag
    obtain ⟨oe3, vs3, he3, hz3, hd3⟩ := HandSPX.FlyingZ.there fl3
    have nfr := notFr fl3.2.2.1 he3 hd3
    have nL : a ≠ X.env.locals := fun z => nfr (List.mem_filterMap.mpr ⟨X.env, List.mem_cons_self, by rw [hf, z]⟩)
    have nF : a ∉ X.fs := fun hm => by
      obtain ⟨e, he, q⟩ := List.mem_filterMap.mp hm
      exact nfr (List.mem_filterMap.mpr ⟨e, List.mem_cons_of_mem X.env he, q⟩)
    have nI : ∀ o, sI.heap.get? a ≠ some o := fun o z => by
      have q := nb a o z (by rw [hs]; exact nfr)
      rw [fl3.2.1] at q
      cases q
    have new : ∀ o, X.s_0.heap.get? a ≠ some o := fun o z => by
      obtain ⟨o', q⟩ := J.base.there a o z (by rw [hex]; simp)
      exact nI o' q
    have npn : ∀ p ∈ X.pn ++ pins, p.1 ≠ a := fun p hp z => by
      have q := (J.pin p hp).1
      rw [z] at q
      exact nI _ q
    have S3 := Inv.suite J3 he3 hd3 na nL nF
    have LT : PySem.W.Looks (model X.prog X.w) h3 (typeOf (.ref a)) cls := fun A Q E s k q => wpAny_typeOf_ref (k a oe3 he3) (by rw [hz3.1]; exact q)
    refine wpAny_handleBy_cons (codeAny_handlers_test (ht a _ σ' H' _ cls b _ _ S3 LT hb1 fun h5 kp => ?_)) fun q => nomatch q
    have fl5 := flying_keep kp fl3
    have up5 : s'.heap.UpToSlots h5 := Heap.UpToSlots.trans up3 (Heap.UpToSlots.of_keeps kp)
    cases b with
    | false => exact ih h5 fl5 up5 (hno rfl)
    | true =>
      show codeAny (model X.prog X.w) (X.A.mark (some (.ref a))) (Code.handlers (.ref a) [.ExceptHandler none (some n) (b₀ :: suite) pos'] X.env) _ _
      refine codeAny_handlers_suite_as (HandSPX.lands_againZ fl5 fun h4 fl4 up4 => ?_)
      have J4 : Inv X pins σ' H' { heap := h4, gens := s'.gens, drawn := s'.drawn, toks := s'.toks, os := s'.os } := Inv.landed J nb fl4.1 (Heap.UpToSlots.trans (Heap.UpToSlots.trans up up5) up4) os ag
      obtain ⟨oe4, vs4, he4, hz4, hd4⟩ := HandSPX.FlyingZ.there fl4
      have S4 := Inv.suite J4 he4 hd4 na nL nF
      refine store_ok (X := X.suite a ((a, oe4) :: (X.pn ++ pins))) (v := .ref a) S4 hN hi (Or.inl hln) rfl (fun s5 S5 => ?_) (Or.inr hln)
      have S5' := suite_track ok S5 hex new npn
      refine wpAny_mono ((hsu a (X.pn ++ pins)).run [] s5 (List.set σ' i (some (.ref a))) (upd H' a (XO a oe4)) { nx := fun σ' H' => D.nx (List.set σ' i none) H', rt := D.rt, bk := fun σ' H' => D.bk (List.set σ' i none) H', ct := fun σ' H' => D.ct (List.set σ' i none) H' } S5' (hyes rfl a oe4 na hz4 ⟨vs4, hd4⟩)) (fun f s6 hsp => ?_) fun _ _ z => z.elim
      cases f with
      | next => obtain ⟨σ6, H6, S6, q6⟩ := hsp; exact gone_ok (suite_off S6 ok) hN hi hln fun s7 J7 => ⟨_, H6, J7, q6⟩
      | brk => obtain ⟨σ6, H6, S6, q6⟩ := hsp; exact gone_ok (suite_off S6 ok) hN hi hln fun s7 J7 => ⟨_, H6, J7, q6⟩
      | cont => obtain ⟨σ6, H6, S6, q6⟩ := hsp; exact gone_ok (suite_off S6 ok) hN hi hln fun s7 J7 => ⟨_, H6, J7, q6⟩
      | ret u => obtain ⟨v6, σ6, H6, S6, r6, q6⟩ := hsp; exact gone_ok (suite_off S6 ok) hN hi hln fun s7 J7 => ⟨v6, _, H6, J7, r6, q6⟩
theorem ps_try_manyT {h₀ : ExceptHandler} {hds : List ExceptHandler} {l : List (List Value × Nat × TS)} {body : List Stmt} {pos : Pos} {tb : WX → TS} {Wout : WX} (hs : X.stack = X.env :: X.outer) (hf : X.env.frame = some X.env.locals) (hex : X.ex = []) (hN : X.N.Nodup) (tk : Takes X Wout)
    (hb : ∀ (W : WX) (pn : List (Addr × Obj)) (xe : Value → Shared → Prop), Takes (X.tr pn xe) W → PassesOwn (model X.prog X.w) X.A X.env xe → PSs (X.tr pn xe) body (tb W))
    (hh : HdT X (h₀ :: hds) l) :
    PS X (.Try body (h₀ :: hds) [] [] pos) (fun D σ H => tb (wManyT X.K Wout D l) D σ H) := by
  refine ⟨fun pins s σ H D I h => ?_⟩
  have ok := I.ok
  have hfr : X.A.frames = some (X.env :: X.outer) := by rw [ok.frames, hs]
  refine wpAny_Try_except (wpAny_mono ((hb (wManyT X.K Wout D l) (X.pn ++ pins) (fun e s₁ => wpAny (model X.prog X.w) X.A (noteFrame e X.env) (fun _ s₂ => wpAny (model X.prog X.w) X.A (setFlight e none) (fun _ s₃ => wpAny (model X.prog X.w) X.A (handleBy e X.env (h₀ :: hds)) (SP X pins D) X.xe s₃) X.xe s₂) X.xe s₁) (fun u s' xx => ?_) PassesOwn.looking).run [] s σ H D (Inv.toTry I _) h) (fun f s1 hsp => ?_) fun _ _ z => z)
  · obtain ⟨a, B, sI, pins', σ', H', cls, d, rfl, J', nb, up, sky, na, os, ag, hw⟩ := xx
    have J := Inv.ofTry J' ok
    have sky' : Sky B (X.env :: X.outer) a (Zc cls d) X.env.locals s'.heap := by rw [← hs]; exact sky
    refine Sky.land Zc.steady hfr hf sky' fun h3 fl3 up3 => ?_
    exact handle_many hs hf hfr hex hN tk J nb up na os ag hh h3 fl3 up3 hw
  · cases f with
    | next => obtain ⟨σ', H', J', q⟩ := hsp; exact wpAny_execs_nil ⟨σ', H', Inv.ofTry J' ok, q⟩
    | brk => obtain ⟨σ', H', J', q⟩ := hsp; exact ⟨σ', H', Inv.ofTry J' ok, q⟩
    | cont => obtain ⟨σ', H', J', q⟩ := hsp; exact ⟨σ', H', Inv.ofTry J' ok, q⟩
    | ret u => obtain ⟨v, σ', H', J', r, q⟩ := hsp; exact ⟨v, σ', H', Inv.ofTry J' ok, r, q⟩
end
end Gx
namespace Qx
open PySem PySem.Spec PyProof.Rows L2 Gx
/-! ### try with several clauses -/
def cmOr (f g : Str → Option Bool) (C : Str) : Option Bool := match f C, g C with
  | some a, some b => some (a || b)
  | _, _ => none
def tryH (C : Str) (ns : List Str) (ps : List PV) (s : Slots) (O : Sto) : List (Nat × (Str → Option Bool) × SF) → SR
  | [] => .exc ⟨.cls C, ns, ps⟩ s O
  | (i, cm, fs) :: r => match cm C with
    | some true => (fs (s.set i (some (.xc C ns ps))) O).unset i
    | some false => tryH C ns ps s O r
    | none => .bad
def sTryM (hs : List (Nat × (Str → Option Bool) × SF)) (fb : SF) : SF := fun s O => match fb s O with
  | .exc ⟨.cls C, ns, ps⟩ s1 O1 => tryH C ns ps s1 O1 hs
  | .exc _ _ _ => .bad
  | r => r
section
variable {K : PySem.W.Frag} {E : XM} {fb : SF} {tb : WX → TS} {Wout : WX}
theorem cm_one {cm : Str → Option Bool} {c : Value} (h : ∀ C b, cm C = some b → PySem.W.exmOne K (.ref (He.ga K C)) c = some b) : ∀ C b, cm C = some b → PySem.W.exmAny K (.ref (He.ga K C)) [c] = some b := fun C b e => by
  unfold PySem.W.exmAny PySem.W.exmAny
  simp only [h C b e, Bool.or_false]
theorem cm_two {f g : Str → Option Bool} {c c' : Value} (h : ∀ C b, f C = some b → PySem.W.exmOne K (.ref (He.ga K C)) c = some b) (h' : ∀ C b, g C = some b → PySem.W.exmOne K (.ref (He.ga K C)) c' = some b) : ∀ C b, cmOr f g C = some b → PySem.W.exmAny K (.ref (He.ga K C)) [c, c'] = some b := fun C b e => by
  unfold cmOr at e
  split at e
  · rename_i a a' e1 e2
    cases e
    unfold PySem.W.exmAny PySem.W.exmAny PySem.W.exmAny
    simp only [h C a e1, h' C a' e2, Bool.or_false]
  · cases e
inductive SimH (K : PySem.W.Frag) : List (List Value × Nat × TS) → List (Nat × (Str → Option Bool) × SF) → Prop
  | nil : SimH K [] []
  | cons {cs : List Value} {i : Nat} {ts : TS} {cm : Str → Option Bool} {fs : SF} {l : List (List Value × Nat × TS)} {hs : List (Nat × (Str → Option Bool) × SF)} (hcm : ∀ C b, cm C = some b → PySem.W.exmAny K (.ref (He.ga K C)) cs = some b) (hS : SimS K none ts fs) (r : SimH K l hs) : SimH K ((cs, i, ts) :: l) ((i, cm, fs) :: hs)
theorem many_key {R : List (Addr × HO)} {ι ι' : List Addr} {O O1 : Sto} {H H' : Hp} {D : Ends} {C : Str} {ns : List Str} {ps : List PV} {s1 : Slots} {σ' : L2.St} {c : Value} {d : Option Addr} (hE : ∀ e, E = some e → e = we Wout) (S' : Sim K R ι' O1 H') (X' : Ext R ι O H ι' O1 H') (L' : SlR K ι' (fz R ι' O1 H') σ' s1) (rx : RepX K ι' (fz R ι' O1 H') ⟨.cls C, ns, ps⟩ c d) :
    ∀ {l : List (List Value × Nat × TS)} {hs : List (Nat × (Str → Option Bool) × SF)}, SimH K l hs → PostS K R E ι O H D (tryH C ns ps s1 O1 hs) → wManyT K Wout D l c d σ' H' := by
  intro l hs hh
  induction hh with
  | nil =>
    intro h
    obtain ⟨E', e1, h⟩ := h
    have e2 := hE E' e1
    subst e2
    exact h σ' c d ι' H' S' X' L' rx
  | cons hcm hS r ih =>
    rename_i cs i ts cm fs l hs
    intro h
    unfold tryH at h
    cases hc : cm C with
    | none => simp only [hc] at h; exact h.elim
    | some b =>
      obtain ⟨ec, xs, xd, ln, rl⟩ := rx
      have ec : c = .ref (He.ga K C) := ec
      refine ⟨b, by rw [ec]; exact hcm C b hc, fun eb a oe hn hz hd => ?_, fun eb => ?_⟩
      · subst eb
        simp only [hc] at h
        obtain ⟨S2, X2, e2⟩ := S'.newF hn (XO a oe)
        have rep : Rep K ι' (fz R ι' O1 (upd H' a (XO a oe))) (.xc C ns ps) (.ref a) := ⟨a, oe, xs, rfl, e2, hz.1.trans ec, hd, by rw [hz.2]; exact xd.mono X2.same, ln, X2.repL rl⟩
        refine hS R ι' O1 _ _ (s1.set i (some (.xc C ns ps))) _ S2 ((L'.ext X2).set i rep) ?_
        cases q2 : fs (s1.set i (some (.xc C ns ps))) O1 with
        | next s2 O2 => simp only [q2, SR.unset] at h; exact fun σ3 ι3 H3 S3 X3 L3 => h _ ι3 H3 S3 (X'.trans (X2.trans X3)) (L3.set0 i)
        | brk s2 O2 => simp only [q2, SR.unset] at h; exact fun σ3 ι3 H3 S3 X3 L3 => h _ ι3 H3 S3 (X'.trans (X2.trans X3)) (L3.set0 i)
        | cnt s2 O2 => simp only [q2, SR.unset] at h; exact fun σ3 ι3 H3 S3 X3 L3 => h _ ι3 H3 S3 (X'.trans (X2.trans X3)) (L3.set0 i)
        | ret p O2 => simp only [q2, SR.unset] at h; exact fun v ι3 H3 S3 X3 r3 => h v ι3 H3 S3 (X'.trans (X2.trans X3)) r3
        | exc e s2 O2 => simp only [q2, SR.unset] at h; exact h.elim
        | bad => simp only [q2, SR.unset] at h; exact h.elim
      · subst eb
        simp only [hc] at h
        exact ih h
theorem sim_tryM {l : List (List Value × Nat × TS)} {hs : List (Nat × (Str → Option Bool) × SF)} (hE : ∀ e, E = some e → e = we Wout) (hB : ∀ W, SimS K (some (we W)) (tb W) fb) (hH : SimH K l hs) : SimS K E (fun D σ H => tb (wManyT K Wout D l) D σ H) (sTryM hs fb) := by
  intro R ι O H σ s D S L h
  refine hB _ R ι O H σ s D S L ?_
  unfold sTryM at h
  cases q : fb s O with
  | next s1 O1 => simp only [q] at h; exact h
  | ret p O1 => simp only [q] at h; exact h
  | brk s1 O1 => simp only [q] at h; exact h
  | cnt s1 O1 => simp only [q] at h; exact h
  | bad => simp only [q] at h; exact h
  | exc e s1 O1 =>
    obtain ⟨cls, ns, ps⟩ := e
    cases cls with
    | cls C =>
      simp only [q] at h
      exact ⟨_, rfl, fun σ' c d ι' H' S' X' L' rx => many_key hE S' X' L' rx hH h⟩
    | _ => simp only [q] at h; exact h.elim
end
end Qx

/-! Own layer Xu: a call of a local name that holds one of several defs, some of which may raise. -/
namespace Gx
open PySem PySem.Spec PyProof.Rows L2
def tCallTS (i : Nat) (S : Addr → Sp → Prop) (E : L2.St → XK) (t : TA) : TE := fun σ H Q => ∃ f sp, σ[i]? = some (some (.ref f)) ∧ S f sp ∧ t σ H fun vs H1 => sp vs H1 Q (E σ)
section
variable {X : Cx} {i k j : Nat} {x : Str} {p pos : Pos} {e : Expr} {es : List Expr} {t : TA} {S : Addr → Sp → Prop} {E : L2.St → XK}
/-- what a def in the slot is to be; it may raise -/
def HeldX (X : Cx) (j : Nat) (f : Addr) (sp : Sp) : Prop := ∃ k, k ≤ j ∧ ∃ (CXx : CXT) (fd : FuncData) (ps : List Str), FnOk X.prog X.w X.K X.mg X.base CXx k f fd ps sp ∧ PySem.W.keepIn X.K (.ref f) = true ∧ Binds X.K fd ps [] ∧ ∀ σ E, PassesAt (CX X.prog X.w) X σ E → PassesAt CXx X σ E
theorem heldX0 {d : He.DefD} {ps : List Str} {sp : Sp} (D : DOk X.prog X.w X.K X.mg X.base d CX0 k ps sp) (hb : BdN d ps) (hj : k ≤ j) : HeldX X j (He.fAd X.K d.at_) sp := by
  obtain ⟨fd, F, G⟩ := D.ex
  exact ⟨k, hj, CX0, fd, ps, G, F.kp, FunD.bdN F hb, fun σ E _ pins H s e s' I z => z.elim⟩
theorem heldX1 {d : He.DefD} {ps : List Str} {sp : Sp} (D : DOk X.prog X.w X.K X.mg X.base d (CX X.prog X.w) k ps sp) (hb : BdN d ps) (hj : k ≤ j) : HeldX X j (He.fAd X.K d.at_) sp := by
  obtain ⟨fd, F, G⟩ := D.ex
  exact ⟨k, hj, _, fd, ps, G, F.kp, FunD.bdN F hb, fun σ E h => h⟩
theorem pe_callTS (A : ∀ f sp, S f sp → HeldX X j f sp) (hx : ∀ σ, PassesAt (CX X.prog X.w) X σ (E σ)) (hr : Room j X.A) (hN : X.N[i]? = some x) (hv : Vis X.env.scope x) (ha : PA X (e :: es) t)
    (hdb : (x == ("__debug__" : Str)) = false := by decide) (hcd : (x == ("__classdict__" : Str)) = false := by decide)
    (he : starEach (e :: es) X.env = (false, eval e X.env) :: starEach es X.env := by rfl) (hpl : (backTo pos (starEach es X.env)).any (·.1) = false := by rfl) : PE X (.Call (.Name x p) (e :: es) [] pos) (tCallTS i S E t) := by
  refine ⟨fun pins s σ H Q I h => ?_⟩
  obtain ⟨f, sp, hs, hS, ht⟩ := h
  obtain ⟨k, hj, CXx, fd, ps, F, hk, hb, hp⟩ := A f sp hS
  refine wpAny_Call_Name_kw (thn ((pe_var (pos := p) hN hv hdb hcd).run pins s σ H (fun v H1 => v = .ref f ∧ H1 = H) I ⟨.ref f, hs, rfl, rfl⟩) fun u s1 ⟨v, H1, I1, r1, q1⟩ => ?_)
  obtain ⟨rfl, rfl⟩ := q1
  cases r1
  refine PySem.W.callWith_K (h₀ := X.base) I.ok.mod.kin hk (thn (ha.run pos pins s1 σ _ _ I1 ht) fun us s2 ⟨vs, H2, I2, r, q⟩ => ⟨I2.kIn, ?_⟩) he hpl
  exact run_fnS (dv := []) (E := E) F (hr.mono hj) hb .nil (hp σ (E σ) (hx σ)) I2 r (by rw [List.append_nil]; exact q)
end
end Gx
namespace Qx
open PySem PySem.Spec PyProof.Rows L2 Gx
section
variable {K : PySem.W.Frag} {E : XM} {tA : TA} {fA : AF} {i : Nat}
/-- a table of defs by names; true: it may raise -/
def tabX (K : PySem.W.Frag) (tab : List (Str × Bool × MF)) (f : Addr) (sp : Sp) : Prop := ∃ C b m, tab.lookup C = some (b, m) ∧ f = He.ga K C ∧ sp = spM K b m
def eCallTX (tab : List (Str × Bool × MF)) (i : Nat) (a : AF) : EF := fun s O => match s[i]? with
  | some (some (.cls C)) => (match tab.lookup C with
    | some (true, m) => (a s O).bind m
    | some (false, m) => (a s O).bind (noXM m)
    | none => .bad)
  | _ => .bad
theorem sim_callTX {e : L2.St → XK} {tab : List (Str × Bool × MF)} (hA : SimA K (some e) tA fA) : SimE K (some e) (tCallTS i (tabX K tab) e tA) (eCallTX tab i fA) := by
  intro R ι O H σ s Q S L h
  unfold eCallTX at h
  split at h
  · rename_i C e1
    cases e2 : tab.lookup C with
    | none => rw [e2] at h; exact h.elim
    | some w =>
      obtain ⟨b, m⟩ := w
      rw [e2] at h
      obtain ⟨v, h1, h2⟩ := L.2 i _ e1
      cases b with
      | true =>
        refine ⟨_, _, by rw [h1, show v = .ref (He.ga K C) from h2], ⟨C, true, m, e2, rfl, rfl⟩, ?_⟩
        exact hA R ι O H σ s _ S L (h.bind fun ps O1 xs ι1 H1 S1 X1 r1 h1 => spM_T S1 r1 h1)
      | false =>
        refine ⟨_, _, by rw [h1, show v = .ref (He.ga K C) from h2], ⟨C, false, m, e2, rfl, rfl⟩, ?_⟩
        exact hA R ι O H σ s _ S L (h.bind fun ps O1 xs ι1 H1 S1 X1 r1 h1 => spM_F S1 r1 h1)
  · exact h.elim
theorem tabx_nil {X : Cx} {j : Nat} : ∀ f sp, tabX X.K [] f sp → HeldX X j f sp := fun f sp ⟨C, b, m, h, _⟩ => by simp at h
theorem tabx_cons {X : Cx} {j : Nat} {C : Str} {b : Bool} {m : MF} {tab : List (Str × Bool × MF)} (h : HeldX X j (He.ga X.K C) (spM X.K b m)) (t : ∀ f sp, tabX X.K tab f sp → HeldX X j f sp) : ∀ f sp, tabX X.K ((C, b, m) :: tab) f sp → HeldX X j f sp := fun f sp ⟨D, b', m', h1, h2, h3⟩ => by
  rw [List.lookup_cons] at h1
  split at h1
  · rename_i e
    have e := eq_of_beq e
    cases h1
    subst e
    rw [h2, h3]
    exact h
  · exact t f sp ⟨D, b', m', h1, h2, h3⟩
end
end Qx

/-! Own layer Xv: as Xi, for exceptions over LookupError or ArithmeticError. -/
namespace Qx
open PySem PySem.Spec PyProof.Rows L2 Gx
structure EbF (b : EB) : Prop where
  F : ExcBaseFacts b.B b.nw b.ini b.tail
  S : StoreFacts b.B b.tail "object.__setattr__" "object"
  h : PySem.W.handedIn (.builtin b.ini) = true
theorem ebA_ok : EbF ebA := ⟨PySem.F.excBase_ArithmeticError, PySem.F.store_ArithmeticError, rfl⟩
theorem ebL_ok : EbF ebL := ⟨PySem.F.excBase_LookupError, PySem.F.store_LookupError, rfl⟩
structure OexG (b : EB) (K : PySem.W.Frag) (C : Addr) : Prop where
  i : PySem.W.excInitIn K C b.tail b.nw = true
  v : PySem.W.excOver K C b.tail = true
  hd : PySem.W.hasDictIn K C = true
  sa : PySem.W.findIn K (.ref C) "__setattr__" = some (some (.builtin "object.__setattr__"))
  ex : PySem.W.subIn K (.ref C) (.type "BaseException") = some true
  ty : PySem.W.typeIn K (.ref C) = some (.type "type")
  kp : PySem.W.keepIn K (.ref C) = true
theorem oexGB_ok {b : EB} {K : PySem.W.Frag} {C : Addr} (h : oexGB b K C = true) : OexG b K C := by
  unfold oexGB at h
  obtain ⟨h1, h⟩ := Bool.and_eq_true_iff.mp h
  obtain ⟨h2, h⟩ := Bool.and_eq_true_iff.mp h
  obtain ⟨h3, h⟩ := Bool.and_eq_true_iff.mp h
  obtain ⟨h4, h⟩ := Bool.and_eq_true_iff.mp h
  obtain ⟨h5, h⟩ := Bool.and_eq_true_iff.mp h
  obtain ⟨h6, h7⟩ := Bool.and_eq_true_iff.mp h
  exact ⟨h1, h2, h3, He.eqO_ok h4, of_decide_eq_true h5, of_decide_eq_true h6, h7⟩
section
variable {b : EB} {X : Cx} {pins : List (Addr × Obj)} {σ : L2.St} {H : Hp} {s : Shared} {a C : Addr} {f : Str} {y : V} {u : Value} {Q : Unit → Shared → Prop} {E : Value → Shared → Prop} {A : Around}
/-- self.f = y, when there is no dict yet -/
theorem gst_new (Fb : EbF b) (T : OexG b X.K C) (I : Inv X pins σ H s) (e : H a = some (exo a C none)) (hno : PySem.W.findIn X.K (.ref C) f = some none) (ry : RelV y u)
    (h : ∀ dx s2, H dx = none → dx ≠ a → Inv X pins σ (upd (upd H dx (exd dx [(f, y)])) a (exo a C (some dx))) s2 → Q () s2) : wpAny (model X.prog X.w) A (setAttr (.ref a) f u) Q E s := by
  obtain ⟨t1, ho⟩ := exo_at I.hok e
  obtain ⟨hp, g, d, t, os⟩ := s
  have iat : PySem.W.InstAt hp a { cls := .ref C, dict := none, data := .fields #[.ref t1, .none, .none, .none, .bool false, .none] } C none := ⟨ho, rfl, rfl, trivial⟩
  have ht : PySem.W.takerIn X.K C f = some none := by unfold PySem.W.takerIn; rw [hno]; rfl
  refine PySem.W.set_plain I.kIn iat T.sa (PySem.W.osa_openX (s := ⟨hp, g, d, t + 1, os⟩) (od := none) Fb.S I.kIn iat T.v ht fun bb => ?_)
  obtain ⟨cd, hc, hd⟩ := PySem.W.any_some T.hd
  have nd : hp.objs.size ≠ a := Nat.ne_of_gt (Heap.lt_size ho)
  have nH : H hp.objs.size = none := I.hok.fresh (Nat.le_refl _)
  refine wpAny_bind (wpAny_pure (wpAny_bind (PySem.W.instanceDict_exc (s := ⟨hp, g, d, t + 1, os⟩) (c2 := .none) (t := t1) (C := C) ho (PySem.W.looks_clsIn I.kIn hc) hd ?_)))
  -- the heap with the dict, laid and hung in
  have hx1 : (hp.push (PySem.W.dictOf [] 0)).get? a = some { cls := .ref C, dict := none, data := .fields #[.ref t1, .none, .none, .none, .bool false, .none] } := Heap.get?_push_of_some _ ho
  have at1 := Heap.get?_update_self (fun o => { o with dict := some hp.objs.size }) hx1 rfl
  have oth : ∀ c, c ≠ a → ((hp.push (PySem.W.dictOf [] 0)).update a fun o => { o with dict := some hp.objs.size }).get? c = (hp.push (PySem.W.dictOf [] 0)).get? c := fun c hc => Heap.get?_update_ne _ _ _ _ hc
  have hdx : ((hp.push (PySem.W.dictOf [] 0)).update a fun o => { o with dict := some hp.objs.size }).get? hp.objs.size = some (PySem.W.dictOf [] 0) := (oth _ nd).trans (Heap.get?_push_at rfl rfl)
  have emp0 : (hp.push (PySem.W.dictOf [] 0)).Ns hp.objs.size (fun _ => none) := ⟨_, #[], _, Heap.get?_push_at rfl rfl, rfl, fun z hz => absurd hz (by simp), fun _ => rfl⟩
  have emp : ((hp.push (PySem.W.dictOf [] 0)).update a fun o => { o with dict := some hp.objs.size }).Ns hp.objs.size (fun _ => none) := ⟨_, #[], _, hdx, rfl, fun z hz => absurd hz (by simp), fun _ => rfl⟩
  have I1 := I.laid (t' := t + 1) (o := exd hp.objs.size []) (fun c v q => Heap.get?_push_of_some (PySem.W.dictOf [] 0) q) (Nat.le_refl _) (exd_ok (Heap.Ns1.of_empty emp0) fun _ => True.intro)
  have e1 : upd H hp.objs.size (exd hp.objs.size []) a = some (exo a C none) := by rw [upd_ne nd.symm]; exact e
  have I2 := I1.write (t' := t + 1) (x := a) (e := a) (o := exo a C (some hp.objs.size)) (by rw [e1]; exact True.intro) (.inl rfl) (fun c v hc q => (oth c hc).trans q) ⟨_, at1⟩ (exo_ok (t1 := t1) at1)
  have e2 : upd (upd H hp.objs.size (exd hp.objs.size [])) a (exo a C (some hp.objs.size)) hp.objs.size = some (exd hp.objs.size []) := by rw [upd_ne nd, upd_same]
  refine PySem.HandSPX.store_in_new emp fun h2 t2 ns2 same => ?_
  have there : ∃ v, h2.get? hp.objs.size = some v := by
    obtain ⟨o, _, _, q, _⟩ := ns2
    exact ⟨o, q⟩
  have I3 := I2.write (t' := t2) (x := hp.objs.size) (e := hp.objs.size) (o := exd hp.objs.size [(f, y)]) (by rw [e2]; exact True.intro) (.inl rfl) (fun c v hc q => (same.2 c hc).trans q) there (exd_ok ns2 (relO_put (fs := []) ry fun _ => True.intro))
  have eH : upd (upd (upd H hp.objs.size (exd hp.objs.size [])) a (exo a C (some hp.objs.size))) hp.objs.size (exd hp.objs.size [(f, y)]) = upd (upd H hp.objs.size (exd hp.objs.size [(f, y)])) a (exo a C (some hp.objs.size)) := by
    funext c
    by_cases q : c = a
    · subst q
      rw [upd_ne nd.symm, upd_same, upd_same]
    · by_cases q2 : c = hp.objs.size
      · subst q2
        rw [upd_same, upd_ne q, upd_same]
      · rw [upd_ne q2, upd_ne q, upd_ne q2, upd_ne q, upd_ne q2]
  rw [eH] at I3
  exact h _ _ nH nd I3
/-- B.__init__(self, ..) of the built-in -/
theorem ginit_ok {us : List Value} {Q : Value → Shared → Prop} (Fb : EbF b) (T : OexG b X.K C) (I : Inv X pins σ H s) (e : H a = some (exo a C none)) (hl : us.length ≤ sizeLine) (h : ∀ s2, Inv X pins σ H s2 → Q .none s2) :
    wpAny (model X.prog X.w) A (call (.builtin b.ini) (.ref a :: us)) Q E s := by
  obtain ⟨t1, ho⟩ := exo_at I.hok e
  obtain ⟨hp, g, d, t, os⟩ := s
  obtain ⟨_, _, _, _, _, _, _, _, _, _, _, _, _, _, _, _, hC, hT⟩ := PySem.W.excInit_of I.kIn T.i
  refine wpAny_call (PySem.HandSPX.init_base Fb.F hT hC ho hl fun h2 t2 keep hx => ?_)
  have J := I.write (t' := t) (x := a) (e := a) (o := exo a C none) (by rw [e]; exact True.intro) (.inl rfl) keep ⟨_, hx⟩ (exo_ok hx)
  have same : upd H a (exo a C none) = H := funext fun c => by
    by_cases q : c = a
    · subst q; exact upd_same.trans e.symm
    · exact upd_ne q
  exact h _ (same ▸ J)
end
def tVeG (b : EB) (K : PySem.W.Frag) (ta : TA) : TE := fun σ H Q => ta σ H fun vs H1 => ∃ (a C : Addr) (ws : List V), vs = .ref a :: ws ∧ ws.length ≤ 1000 ∧ OexG b K C ∧ H1 a = some (exo a C none) ∧ Q .non H1
def tOsG (b : EB) (K : PySem.W.Frag) (f : Str) (to te : TE) : TS := fun D σ H => te σ H fun y H1 => to σ H1 fun x H2 => ∃ a C : Addr, x = .ref a ∧ OexG b K C ∧ PySem.W.findIn K (.ref C) f = some none ∧
  H2 a = some (exo a C none) ∧ ∀ dx, H2 dx = none → dx ≠ a → D.nx σ (upd (upd H2 dx (exd dx [(f, y)])) a (exo a C (some dx)))
section
variable {b : EB} {X : Cx} {e o : Expr} {es : List Expr} {to te : TE} {ta : TA} {x f : Str} {p p' p1 p2 pos : Pos} {B : Addr}
theorem pe_clinitG {pl : Sem Bool} (Fb : EbF b) (rd : PySem.W.readsIn X.K B (.type "type") = true) (ga : PySem.W.specialIn X.K (.ref B) "__getattribute__" = some (some (.builtin "type.__getattribute__")))
    (vV : PySem.W.findCls X.K (.ref B) (.type "type") "__init__" = some (.val (.builtin b.ini))) (hm : X.mg x = some (.ref B)) (ha : PA X (e :: es) ta) (hg : Gl X x := by rfl) (hdb : (x == ("__debug__" : Str)) = false := by decide)
    (hc : eval (.Call (.Attribute (.Name x p1) "__init__" p2) (e :: es) [] pos) X.env = (do
      let ov ← eval (.Name x p1) X.env
      standAt p2.atName
      let (f, first) ← holding [ov] (getMethod ov "__init__" pl)
      callWith pos f first (backTo pos (starEach (e :: es) X.env)) (backToKw pos (keywordEach [] X.env))) := by rfl)
    (he : starEach (e :: es) X.env = (false, eval e X.env) :: starEach es X.env := by rfl) (hpl : (backTo pos (starEach es X.env)).any (·.1) = false := by rfl) :
    PE X (.Call (.Attribute (.Name x p1) "__init__" p2) (e :: es) [] pos) (tVeG b X.K ta) := by
  refine ⟨fun pins s σ H Q I h => ?_⟩
  refine PySem.W.methodCall_KW (ld_glob I hg hm ?_ hdb) hc
  refine PySem.W.method_cls I.kIn ga (PySem.W.cls_value I.kIn rd vV Fb.h ?_)
  show wpAny _ _ (callWith pos (Value.builtin b.ini) [] (backTo pos (starEach (e :: es) X.env)) []) _ _ _
  refine PyProof.Rows.callWith_method1 (thn (ha.run pos pins _ σ H _ (I.tok _) h) fun us s1 ⟨vs, H1, I1, r1, a, C, ws, ev, hl, T, ea, q⟩ => ?_) he hpl
  subst ev
  cases r1 with
  | @cons _ u0 _ ur ra rw' =>
    obtain rfl : u0 = Value.ref a := ra
    have hlen : ur.length ≤ sizeLine := by
      rw [← Paired.length rw', sizeLine_eq]
      omega
    exact ginit_ok Fb T I1 ea hlen fun s2 J => ⟨.non, H1, J, rfl, q⟩
theorem ps_osG (Fb : EbF b) (ho : PE X o to) (he : PE X e te) (hs : swapsWith e (some (.Attribute o f p')) pos.line X.env = pure false := by rfl) : PS X (.Assign [.Attribute o f p'] e pos) (tOsG b X.K f to te) := by
  refine ⟨fun pins s σ H D I h => ?_⟩
  refine plainObj_wpAny_Assign_Attribute (thn (he.run pins s σ H _ I h) fun v s1 ⟨y, H1, I1, r1, q1⟩ => thn (ho.run pins s1 σ H1 _ I1 q1) fun u s2 ⟨x, H2, I2, r2, a, C, ex, T, hno, ea, q⟩ => ?_) hs
  subst ex
  obtain rfl : u = Value.ref a := r2
  exact gst_new Fb T I2 ea hno r1 fun dx s3 n ne J => ⟨σ, _, J, q dx n ne⟩
end
theorem spXi_runG {b : EB} {K : PySem.W.Frag} {C : Addr} {f z : Str} {N : List Str} {vs : List V} {H : Hp} {Q : VK} {E : XK} (hN : N.length = 2) (T : OexG b K C) (hno : PySem.W.findIn K (.ref C) f = some none) (h : spXi C f vs H Q E) :
    tSeq (tDrop (tVeG b K (tCons (tVar 0) (tCons (tC (.str z)) tNil)))) (tOsG b K f (tVar 0) (tVar 1)) { nx := fun _ H => Q .non H, rt := Q } (L2.start N vs) H := by
  obtain ⟨a, v, rfl, e, h⟩ := h
  have e0 : (L2.start N [V.ref a, v])[0]? = some (some (.ref a)) := rfl
  have e1 : (L2.start N [V.ref a, v])[1]? = some (some v) := rfl
  exact ⟨.ref a, e0, a, C, [.str z], rfl, Nat.le_of_ble_eq_true rfl, T, e, v, e1, .ref a, e0, a, C, rfl, T, hno, e, fun dx n ne => h dx n ne⟩
structure ClG (b : EB) (K : PySem.W.Frag) (B : Addr) : Prop where
  rd : PySem.W.readsIn K B (.type "type") = true
  ga : PySem.W.specialIn K (.ref B) "__getattribute__" = some (some (.builtin "type.__getattribute__"))
  vV : PySem.W.findCls K (.ref B) (.type "type") "__init__" = some (.val (.builtin b.ini))
theorem clsGB_ok {b : EB} {K : PySem.W.Frag} {B : Addr} (h : clsGB b K B = true) : ClG b K B := by
  unfold clsGB at h
  obtain ⟨h1, h⟩ := Bool.and_eq_true_iff.mp h
  obtain ⟨h2, h3⟩ := Bool.and_eq_true_iff.mp h
  refine ⟨h1, He.eqO_ok h2, ?_⟩
  split at h3
  · rename_i n e
    rw [e, beq_iff_eq.mp h3]
  · cases h3
structure XiG (b : EB) (K : PySem.W.Frag) (C B : Str) (f : Str) : Prop where
  o : OexG b K (He.ga K C)
  no : PySem.W.findIn K (.ref (He.ga K C)) f = some none
  b : ClG b K (He.ga K B)
theorem xiGB_ok {b : EB} {K : PySem.W.Frag} {C B f : Str} (h : xiGB b K C B f = true) : XiG b K C B f := by
  unfold xiGB at h
  obtain ⟨h1, h⟩ := Bool.and_eq_true_iff.mp h
  obtain ⟨h2, h3⟩ := Bool.and_eq_true_iff.mp h
  exact ⟨oexGB_ok h1, He.eqO_ok h2, clsGB_ok h3⟩
/-! ### raise C(e) -/
theorem pmkXiG {b : EB} {X : Cx} {d : He.DefD} {C : Addr} {k j : Nat} {ps : List Str} {sp : Sp} {x : Str} {e : Expr} {es : List Expr} {ta : TA} {p pos : Pos} (Fb : EbF b) (D : DOk X.prog X.w X.K X.mg X.base d CX0 k ps sp) (T : OexG b X.K C) (M : Meth X.K C "__init__" (He.fAd X.K d.at_)) (hm : X.mg x = some (.ref C)) (hb : BdN d ps) (hr : Room j X.A) (hj : k + 1 ≤ j) (ha : PA X (e :: es) ta) (hg : Gl X x := by rfl)
    (hdb : (x == ("__debug__" : Str)) = false := by decide) (he : starEach (e :: es) X.env = (false, eval e X.env) :: starEach es X.env := by rfl) (hpl : (backTo pos (starEach es X.env)).any (·.1) = false := by rfl) :
    PMk X (.Call (.Name x p) (e :: es) [] pos) (tMkO C sp [] ta) := by
  obtain ⟨fd, F, G⟩ := D.ex
  have fn : PySem.W.typeIn X.K (.ref (He.fAd X.K d.at_)) = some (.type "function") := by have q := M.fn; unfold PySem.W.isFn at q; exact beq_iff_eq.mp q
  intro pins s σ H Q I h
  refine wpAny_Call_Name_kw (ld_glob I hg hm ?_ hdb)
  refine PySem.W.callWith_K (h₀ := X.base) I.ok.mod.kin T.kp (thn (ha.run pos pins s σ H _ I h) fun us s1 ⟨vs, H1, I1, r1, hz, q1⟩ => ⟨I1.kIn, ?_⟩) he hpl
  show wpAny _ _ (call (.ref C) us) _ _ _
  obtain ⟨hp, g, dr, tk, os⟩ := s1
  obtain ⟨_, _, _, _, _, _, _, _, _, _, _, _, _, _, _, _, hC, hT⟩ := PySem.W.excInit_of I1.kIn T.i
  have up1 : hp.objs.size ≤ hp.objs.size + 1 := Nat.le_succ _
  have nw : H1 (hp.objs.size + 1) = none := I1.hok.fresh up1
  have q2 := q1 _ nw
  have keep : ∀ c o, hp.get? c = some o → ((hp.push (PySem.W.kdv_tup us)).push (PySem.HandSPX.excO C hp.objs.size)).get? c = some o := fun c o z => Heap.get?_push_of_some _ (Heap.get?_push_of_some _ z)
  have got : ((hp.push (PySem.W.kdv_tup us)).push (PySem.HandSPX.excO C hp.objs.size)).get? (hp.objs.size + 1) = some (PySem.HandSPX.excO C hp.objs.size) := by heap_get
  have I2 : Inv X pins σ (upd H1 (hp.objs.size + 1) (exo (hp.objs.size + 1) C none)) ⟨(hp.push (PySem.W.kdv_tup us)).push (PySem.HandSPX.excO C hp.objs.size), g, dr, tk, os⟩ := I1.laid (t' := tk) (o := exo (hp.objs.size + 1) C none) keep up1 (exo_ok got)
  have r2 : Vals (V.ref (hp.objs.size + 1) :: (vs ++ [])) (Value.ref (hp.objs.size + 1) :: (us ++ [])) := .cons rfl (r1.append .nil)
  have hl : (Value.ref (hp.objs.size + 1) :: us ++ []).length = ps.length := by
    have z := r2.length
    rw [G.len _ _ _ _ q2] at z
    exact z.symm
  have small : us.length ≤ sizeLine := by
    rw [← Paired.length r1, sizeLine_eq]
    omega
  have bd : BindsTo _ _ _ _ := FunD.bdN F hb ⟨(hp.push (PySem.W.kdv_tup us)).push (PySem.HandSPX.excO C hp.objs.size), g, dr, tk, os⟩ (Value.ref (hp.objs.size + 1) :: us) I2.kIn hl
  rw [List.cons_append] at bd
  refine wpAny_call (PySem.HandSPX.call_own Fb.F hT hC (PySem.W.looks_findIn I1.kIn M.at_) (fun self => PySem.W.bind_fn I1.kIn self fn) small (codeAny_mono
    (G.run _ X.stack _ _ ⟨Value.ref (hp.objs.size + 1) :: us, []⟩ (Value.ref (hp.objs.size + 1) :: (us ++ [])) _ _ (fun _ _ _ => False) ((hr.mono hj).make C us []) (I2.env0.make C us []) bd r2 q2) fun r s2 z => ?_))
  cases r with
  | error er => exact pass0 pins σ _ _ er s2 I2 z
  | ok fl =>
    cases fl with
    | ret u =>
      obtain ⟨v, H2, os2, bare, un, hok, rv, ev, dd, fs, ea, ed, hd1, q3⟩ := z
      subst ev
      obtain ⟨h2, g2, d2, t2, os3⟩ := s2
      exact ⟨rv, mk_end (raises_own T.ex T.ty) I1 up1 keep un hok os2 bare ea ed hd1 q3⟩
    | next => exact False.elim z
    | brk => exact False.elim z
    | cont => exact False.elim z
end Qx

/-! Own layer Qp: walking a mirror, in plain Lean. -/
namespace Qx
open PySem PySem.Spec PyProof.Rows L2 Gx
def Go {α : Type} (r : PR α) (Q : α → Sto → Prop) : Prop := match r with
  | .ok a O => Q a O
  | _ => False
structure Ks where
  nx : Slots → Sto → Prop
  rt : PV → Sto → Prop
  bk : Slots → Sto → Prop
  ct : Slots → Sto → Prop
  ex : PExc → Slots → Sto → Prop := fun _ _ _ => False
def GoS (K : Ks) (r : SR) : Prop := match r with
  | .next s O => K.nx s O
  | .ret p O => K.rt p O
  | .brk s O => K.bk s O
  | .cnt s O => K.ct s O
  | .exc e s O => K.ex e s O
  | .bad => False
section
variable {α β : Type} {Q : α → Sto → Prop} {Q' : β → Sto → Prop} {QP : PV → Sto → Prop} {QB : Bool → Sto → Prop} {QA : List PV → Sto → Prop} {s : Slots} {O O1 : Sto} {p q r : PV} {ps qs : List PV} {a b c : EF} {t u : TF} {f g : AF} {x y : SF} {K : Ks} {i j : Int} {n m : Nat}
theorem Go.eq {r : PR α} {v : α} (h : Go r fun w O' => w = v ∧ O' = O) : r = .ok v O := by
  cases r with
  | ok w O' => obtain ⟨rfl, rfl⟩ := h; rfl
  | _ => exact h.elim
theorem Go.mono {r : PR α} {Q1 : α → Sto → Prop} (h : Go r Q1) (k : ∀ v O', Q1 v O' → Q v O') : Go r Q := by
  cases r with
  | ok w O' => exact k _ _ h
  | _ => exact h.elim
theorem Go.ex {r : PR α} (h : Go r Q) : ∃ v O', r = .ok v O' ∧ Q v O' := by
  cases r with
  | ok w O' => exact ⟨w, O', rfl, h⟩
  | _ => exact h.elim
theorem go_at {r : PR α} {v : α} (e : r = .ok v O1) (k : Q v O1) : Go r Q := by rw [e]; exact k
theorem go_bind {r : PR α} {h : α → Sto → PR β} (k : Go r fun v O1 => Go (h v O1) Q') : Go (r.bind h) Q' := by
  cases r <;> exact k
theorem go_toS {r : PR α} {h : α → Sto → SR} (k : Go r fun v O1 => GoS K (h v O1)) : GoS K (r.toS s h) := by
  cases r <;> first | exact k | exact k.elim
/-! expressions -/
theorem go_var (e : s[n]? = some (some p)) (k : QP p O) : Go (eVar n s O) QP := by unfold eVar; rw [e]; exact k
theorem go_c (k : QP p O) : Go (eC p s O) QP := k
theorem go_op {op : PV → PV → Sto → PR PV} (k : Go (a s O) fun p O1 => Go (b s O1) fun q O2 => Go (op p q O2) QP) : Go (eOp op a b s O) QP := go_bind (k.mono fun _ _ h => go_bind h)
theorem go_un {op : PV → Sto → PR PV} (k : Go (a s O) fun p O1 => Go (op p O1) QP) : Go (eUn op a s O) QP := go_bind k
theorem go_nil (k : QA [] O) : Go (aNil s O) QA := k
theorem go_cons (k : Go (a s O) fun p O1 => Go (f s O1) fun ps O2 => QA (p :: ps) O2) : Go (aCons a f s O) QA := go_bind (k.mono fun _ _ h => go_bind h)
theorem go_cb {h : List PV → Sto → PR PV} (k : Go (f s O) fun ps O1 => Go (h ps O1) QP) : Go (eCB h f s O) QP := go_bind k
def GTup (ps : List PV) (O : Sto) (QP : PV → Sto → Prop) : Prop := szOk ps.length = true ∧ QP (.tup ps) O
def GLst (ps : List PV) (O : Sto) (QP : PV → Sto → Prop) : Prop := szOk ps.length = true ∧ QP (.lst ps) O
def GLstO (ps : List PV) (O : Sto) (QP : PV → Sto → Prop) : Prop := szOk ps.length = true ∧ QP (.loc O.length) (O ++ [some (.lst ps)])
theorem go_tup (k : Go (f s O) fun ps O1 => GTup ps O1 QP) : Go (eTup f s O) QP := go_bind (k.mono fun _ _ h => by rw [if_pos h.1]; exact h.2)
theorem go_lst (k : Go (f s O) fun ps O1 => GLst ps O1 QP) : Go (eLst f s O) QP := go_bind (k.mono fun _ _ h => by rw [if_pos h.1]; exact h.2)
theorem go_lstO (k : Go (f s O) fun ps O1 => GLstO ps O1 QP) : Go (eLstO f s O) QP := go_bind (k.mono fun _ _ h => by rw [if_pos h.1]; exact h.2)
theorem sz_small {n : Nat} (h : n.ble 100000 = true) : szOk n = true := by
  have := Nat.le_of_ble_eq_true h
  exact decide_eq_true (Nat.le_trans this (by decide))
theorem sz_le {n : Nat} (h : n ≤ 100000) : szOk n = true := decide_eq_true (Nat.le_trans h (by decide))
theorem szl_le {n : Nat} (h : n ≤ 100000) : szLt n = true := decide_eq_true (Nat.lt_of_le_of_lt h (by decide))
theorem g_tup0 (e : ps.length.ble 100000 = true) (k : QP (.tup ps) O) : GTup ps O QP := ⟨sz_small e, k⟩
theorem g_lst0 (e : ps.length.ble 100000 = true) (k : QP (.lst ps) O) : GLst ps O QP := ⟨sz_small e, k⟩
theorem g_lstO0 (e : ps.length.ble 100000 = true) (k : QP (.loc O.length) (O ++ [some (.lst ps)])) : GLstO ps O QP := ⟨sz_small e, k⟩
def GB (p : PV) (Q : Bool → Prop) : Prop := ∃ b, p = .bl b ∧ Q b
theorem g_b {b : Bool} {Q : Bool → Prop} (k : Q b) : GB (.bl b) Q := ⟨b, rfl, k⟩
theorem go_tst (k : Go (a s O) fun p O1 => GB p fun b => QB b O1) : Go (tTst a s O) QB := go_bind (k.mono fun _ _ ⟨b, e, h⟩ => by rw [e]; exact h)
theorem go_tand (k : Go (t s O) fun c O1 => if c = true then Go (u s O1) QB else QB false O1) : Go (tAndP t u s O) QB := go_bind (k.mono fun c _ h => by cases c <;> exact h)
theorem go_tor (k : Go (t s O) fun c O1 => if c = true then QB true O1 else Go (u s O1) QB) : Go (tOrP t u s O) QB := go_bind (k.mono fun c _ h => by cases c <;> exact h)
theorem go_tnot (k : Go (t s O) fun c O1 => QB (!c) O1) : Go (tNotP t s O) QB := go_bind k
theorem go_and (k : Go (a s O) fun p O1 => GB p fun c => if c = true then Go (b s O1) QP else QP (.bl false) O1) : Go (eAnd a b s O) QP := go_bind (k.mono fun _ _ ⟨c, e, h⟩ => by rw [e]; cases c <;> exact h)
theorem go_or (k : Go (a s O) fun p O1 => GB p fun c => if c = true then QP (.bl true) O1 else Go (b s O1) QP) : Go (eOr a b s O) QP := go_bind (k.mono fun _ _ ⟨c, e, h⟩ => by rw [e]; cases c <;> exact h)
theorem go_not (k : Go (a s O) fun p O1 => GB p fun c => QP (.bl (!c)) O1) : Go (eNot a s O) QP := go_bind (k.mono fun _ _ ⟨c, e, h⟩ => by rw [e]; exact h)
theorem go_if (k : Go (t s O) fun c O1 => if c = true then Go (a s O1) QP else Go (b s O1) QP) : Go (eIf t a b s O) QP := go_bind (k.mono fun c _ h => by cases c <;> exact h)
theorem go_chain {o1 o2 : PV → PV → Sto → PR PV} (k : Go (a s O) fun p O1 => Go (b s O1) fun q O2 => Go (o1 p q O2) fun z O3 => GB z fun k => if k = true then Go (c s O3) fun r O4 => Go (o2 q r O4) QP else QP (.bl false) O3) : Go (eChain o1 o2 a b c s O) QP :=
  go_bind (k.mono fun _ _ h => go_bind (h.mono fun _ _ h => go_bind (h.mono fun _ _ ⟨k, e, h⟩ => by rw [e]; cases k <;> first | exact h | exact go_bind h)))
/-- a def with its arguments to be put in order -/
def GM (m : MF) (ps : List PV) (O : Sto) (QP : PV → Sto → Prop) : Prop := Go (m ps O) QP
theorem g_m {m : MF} {ps' : List PV} (e : ps = ps') (k : Go (m ps' O) QP) : GM m ps O QP := by subst e; exact k
theorem go_call0 {m : MF} (k : Go (f s O) fun ps O1 => Go (m ps O1) QP) : Go (eCall m [] f s O) QP := go_bind (k.mono fun ps O1 h => by rw [List.append_nil]; exact h)
theorem go_call {m : MF} {dps : List PV} (k : Go (f s O) fun ps O1 => GM m (ps ++ dps) O1 QP) : Go (eCall m dps f s O) QP := go_bind k
def GMk (C : Str) (m : List PV → Sto → PR (List Str × List PV)) (ps : List PV) (O : Sto) (QP : PV → Sto → Prop) : Prop := Go (mkIns C (m ps O)) QP
theorem g_mk {C : Str} {m : List PV → Sto → PR (List Str × List PV)} {ps' : List PV} (e : ps = ps') (k : Go (mkIns C (m ps' O)) QP) : GMk C m ps O QP := by subst e; exact k
theorem g_and {A B : Prop} (h : A) (k : B) : A ∧ B := ⟨h, k⟩
theorem go_callK {m : MF} {gP : List PV → List PV → List PV} {n k : Nat} (h : Go (f s O) fun ps O1 => Go (g s O1) fun zs O2 => (ps.length = n ∧ zs.length = k) ∧ GM m (gP ps zs) O2 QP) : Go (eCallK m n k gP f g s O) QP := go_bind (h.mono fun _ _ h => go_bind (h.mono fun _ _ h => by rw [if_pos h.1]; exact h.2))
theorem go_make {C : Str} {m : List PV → Sto → PR (List Str × List PV)} {dps : List PV} (k : Go (f s O) fun ps O1 => GMk C m (ps ++ dps) O1 QP) : Go (eMake C m dps f s O) QP := go_bind k
theorem go_makeK {C : Str} {m : List PV → Sto → PR (List Str × List PV)} {gP : List PV → List PV → List PV} {n k : Nat} (h : Go (f s O) fun ps O1 => Go (g s O1) fun zs O2 => (ps.length = n ∧ zs.length = k) ∧ GMk C m (gP ps zs) O2 QP) : Go (eMakeK C m n k gP f g s O) QP := go_bind (h.mono fun _ _ h => go_bind (h.mono fun _ _ h => by rw [if_pos h.1]; exact h.2))
def GFld (C fl : Str) (p : PV) (O : Sto) (QP : PV → Sto → Prop) : Prop := ∃ ns ps q, insOf O p = some (C, ns, ps) ∧ (ns.zip ps).lookup fl = some q ∧ QP q O
theorem g_fld {C fl : Str} {ns : List Str} (e : insOf O p = some (C, ns, ps)) (e2 : (ns.zip ps).lookup fl = some q) (k : QP q O) : GFld C fl p O QP := ⟨ns, ps, q, e, e2, k⟩
theorem go_fld {C fl : Str} (k : Go (a s O) fun p O1 => GFld C fl p O1 QP) : Go (eFld C fl a s O) QP := go_bind (k.mono fun _ _ ⟨ns, ps, q, e, e2, h⟩ => by simp only [e, e2, if_true]; exact h)
def GMeth (C me : Str) (p : PV) (O : Sto) (A : Prop) : Prop := ∃ ns ps, insOf O p = some (C, ns, ps) ∧ (ns.zip ps).lookup me = none ∧ A
theorem g_meth {C me : Str} {ns : List Str} {A : Prop} (e : insOf O p = some (C, ns, ps)) (e2 : (ns.zip ps).lookup me = none) (k : A) : GMeth C me p O A := ⟨ns, ps, e, e2, k⟩
theorem go_meth {C me : Str} {mf : MF} {dps : List PV} (k : Go (a s O) fun p O1 => GMeth C me p O1 (Go (f s O1) fun ps O2 => GM mf (p :: (ps ++ dps)) O2 QP)) : Go (eMeth C me mf dps a f s O) QP := go_bind (k.mono fun _ _ ⟨ns, ps, e, e2, h⟩ => by simp only [e, e2, Option.isNone_none, and_self, if_true]; exact go_bind h)
theorem go_methK {C me : Str} {mf : MF} {gP : List PV → List PV → List PV} {n k : Nat} (h : Go (a s O) fun p O1 => GMeth C me p O1 (Go (f s O1) fun ps O2 => Go (g s O2) fun zs O3 => (ps.length + 1 = n ∧ zs.length = k) ∧ GM mf (gP (p :: ps) zs) O3 QP)) : Go (eMethK C me mf n k gP a f g s O) QP := go_bind (h.mono fun _ _ ⟨ns, ps, e, e2, h⟩ => by
  simp only [e, e2, Option.isNone_none, and_self, if_true]
  exact go_bind (h.mono fun _ _ h => go_bind (h.mono fun _ _ h => by rw [if_pos h.1]; exact h.2)))
theorem go_ifp {c : Prop} [Decidable c] {r r' : PR PV} (h : c) (k : Go r QP) : Go (if c then r else r') QP := by rw [if_pos h]; exact k
/-! slices -/
theorem go_ono {QO : Option Int → Sto → Prop} (k : QO none O) : Go (oNo s O) QO := k
def GI (p : PV) (Q : Int → Prop) : Prop := ∃ i, p = .int i ∧ Q i
theorem g_i {Q : Int → Prop} (k : Q i) : GI (.int i) Q := ⟨i, rfl, k⟩
theorem go_oso {QO : Option Int → Sto → Prop} (k : Go (a s O) fun p O1 => GI p fun i => QO (some i) O1) : Go (oSo a s O) QO := go_bind (k.mono fun _ _ ⟨i, e, h⟩ => by rw [e]; exact h)
theorem go_sl {h : PV → Option Int → Option Int → Sto → PR PV} {l v : OF} (k : Go (a s O) fun p O1 => Go (l s O1) fun i O2 => Go (v s O2) fun j O3 => Go (h p i j O3) QP) : Go (eSl h a l v s O) QP := go_bind (k.mono fun _ _ h => go_bind (h.mono fun _ _ h => go_bind h))
/-! statements -/
theorem go_seq (k : GoS { K with nx := fun s1 O1 => GoS K (y s1 O1) } (x s O)) : GoS K (sSeq x y s O) := by
  unfold sSeq
  cases e : x s O <;> rw [e] at k <;> exact k
theorem go_skip (k : K.nx s O) : GoS K (sSkip s O) := k
theorem go_brk (k : K.bk s O) : GoS K (sBrk s O) := k
theorem go_cnt (k : K.ct s O) : GoS K (sCnt s O) := k
theorem go_ret (k : Go (a s O) K.rt) : GoS K (sRet a s O) := go_toS k
theorem go_retN (k : K.rt .non O) : GoS K (sRetN s O) := k
theorem go_exp (k : Go (a s O) fun _ O1 => K.nx s O1) : GoS K (sExp a s O) := go_toS k
theorem go_ifS (k : Go (t s O) fun c O1 => if c = true then GoS K (x s O1) else GoS K (y s O1)) : GoS K (sIf t x y s O) := go_toS (k.mono fun c _ h => by cases c <;> exact h)
theorem go_asg {G : GF} (k : Go (a s O) fun p O1 => Go (G p s O1) fun s1 O2 => K.nx s1 O2) : GoS K (sAsg a G s O) := go_toS (k.mono fun _ _ h => go_toS h)
theorem go_nm {QS : Slots → Sto → Prop} {s' : Slots} (e : s.set n (some p) = s') (k : QS s' O) : Go (gNm n p s O) QS := by subst e; exact k
def GPar (n m : Nat) (s : Slots) (ps : List PV) (Q : Slots → Prop) : Prop := ∃ p q, ps = [p, q] ∧ Q ((s.set n (some p)).set m (some q))
theorem g_par {Q : Slots → Prop} {s' : Slots} (e : (s.set n (some p)).set m (some q) = s') (k : Q s') : GPar n m s [p, q] Q := ⟨p, q, rfl, by rw [e]; exact k⟩
theorem go_par (k : Go (f s O) fun ps O1 => GPar n m s ps fun s1 => K.nx s1 O1) : GoS K (sPar n m f s O) := go_toS (k.mono fun _ _ ⟨p, q, e, h⟩ => by rw [e]; exact h)
def GPar3 (n m l : Nat) (s : Slots) (ps : List PV) (Q : Slots → Prop) : Prop := ∃ p q r, ps = [p, q, r] ∧ Q (((s.set n (some p)).set m (some q)).set l (some r))
theorem g_par3 {l : Nat} {Q : Slots → Prop} {s' : Slots} (e : ((s.set n (some p)).set m (some q)).set l (some r) = s') (k : Q s') : GPar3 n m l s [p, q, r] Q := ⟨p, q, r, rfl, by rw [e]; exact k⟩
theorem go_par3 {l : Nat} (k : Go (f s O) fun ps O1 => GPar3 n m l s ps fun s1 => K.nx s1 O1) : GoS K (sPar3 n m l f s O) := go_toS (k.mono fun _ _ ⟨p, q, r, e, h⟩ => by rw [e]; exact h)
def GSet (s : Slots) (n : Nat) (r : PV) (Q : Slots → Prop) : Prop := Q (s.set n (some r))
theorem g_set {Q : Slots → Prop} {s' : Slots} (e : s.set n (some p) = s') (k : Q s') : GSet s n p Q := by subst e; exact k
theorem go_aug {op : PV → PV → Sto → PR PV} (e : s[n]? = some (some p)) (k : Go (a s O) fun q O1 => Go (op p q O1) fun r O2 => GSet s n r fun s1 => K.nx s1 O2) : GoS K (sAug n op a s O) := by
  unfold sAug
  rw [e]
  exact go_toS (k.mono fun _ _ h => go_toS h)
/-! targets -/
theorem go_gtup {gs : List PV → Slots → Sto → PR Slots} {QS : Slots → Sto → Prop} (e : tupOf p = some ps) (e2 : ps.length = n) (k : Go (gs ps s O) QS) : Go (gTupP n gs p s O) QS := by
  unfold gTupP
  simp only [e, e2, if_true]
  exact k
theorem go_glst {gs : List PV → Slots → Sto → PR Slots} {QS : Slots → Sto → Prop} (e : lstOf O p = some ps) (e2 : ps.length = n) (k : Go (gs ps s O) QS) : Go (gLstP n gs p s O) QS := by
  unfold gLstP
  simp only [e, e2, if_true]
  exact k
theorem go_gnil {QS : Slots → Sto → Prop} (k : QS s O) : Go (gNilP [] s O) QS := k
theorem go_gcons {G : GF} {gs : List PV → Slots → Sto → PR Slots} {QS : Slots → Sto → Prop} (k : Go (G p s O) fun s1 O1 => Go (gs ps s1 O1) QS) : Go (gConsP G gs (p :: ps) s O) QS := go_bind k
/-- xs[i] = v -/
def GSub (v : PV) (s : Slots) (p q : PV) (O : Sto) (QS : Slots → Sto → Prop) : Prop := ∃ n k ps j, p = .loc n ∧ q = .int k ∧ O[n]? = some (some (.lst ps)) ∧ ixN ps.length k = some j ∧ QS s (O.set n (some (.lst (ps.set j v))))
theorem g_sub {v : PV} {QS : Slots → Sto → Prop} {j' : Nat} (e : O[n]? = some (some (.lst ps))) (e2 : ixN ps.length i = some j') (k : QS s (O.set n (some (.lst (ps.set j' v))))) : GSub v s (.loc n) (.int i) O QS := ⟨n, i, ps, j', rfl, rfl, e, e2, k⟩
theorem go_gsub {v : PV} {QS : Slots → Sto → Prop} (k : Go (a s O) fun p O1 => Go (b s O1) fun q O2 => GSub v s p q O2 QS) : Go (gSubL a b v s O) QS :=
  go_bind (k.mono fun _ _ h => go_bind (h.mono fun _ _ ⟨n, k, ps, j, e1, e2, e3, e4, hh⟩ => by subst e1; subst e2; simp only [e3, e4]; exact hh))
/-! defs -/
theorem go_def {N : Nat} {body : SF} {s' : Slots} (e : ps.length = n) (e2 : ps.map some ++ List.replicate (N - n) none = s') (k : GoS { nx := fun _ O1 => QP .non O1, rt := QP, bk := fun _ _ => False, ct := fun _ _ => False } (body s' O)) : Go (mkDef n N body ps O) QP := by
  unfold mkDef
  rw [if_pos e, e2]
  cases q : body s' O <;> rw [q] at k <;> first | exact k | exact k.elim
/-! values -/
theorem go_addI (k : QP (.int (i + j)) O) : Go (addI (.int i) (.int j) O) QP := k
theorem go_subI (k : QP (.int (i - j)) O) : Go (subI (.int i) (.int j) O) QP := k
theorem go_i2 {c : Int → Int → Bool} {g : Int → Int → PV} (e : c i j = true) (k : QP (g i j) O) : Go (i2 c g (.int i) (.int j) O) QP := by
  unfold i2
  simp only [e, if_true]
  exact k
theorem go_mulI (e : mulOk i j = true) (k : QP (.int (i * j)) O) : Go (mulI (.int i) (.int j) O) QP := go_i2 e k
theorem go_fdivI (e : divOk i j = true) (k : QP (.int (i / j)) O) : Go (fdivI (.int i) (.int j) O) QP := go_i2 e k
theorem go_modI (e : 0 < j) (k : QP (.int (i % j)) O) : Go (modI (.int i) (.int j) O) QP := go_i2 (decide_eq_true e) k
theorem go_powI (e : powOk i j = true) (k : QP (.int (i ^ j.toNat)) O) : Go (powI (.int i) (.int j) O) QP := go_i2 e k
theorem go_ltI (k : QP (.bl (decide (i < j))) O) : Go (ltI (.int i) (.int j) O) QP := k
theorem go_leI (k : QP (.bl (decide (i ≤ j))) O) : Go (leI (.int i) (.int j) O) QP := k
theorem go_gtI (k : QP (.bl (decide (j < i))) O) : Go (gtI (.int i) (.int j) O) QP := k
theorem go_geI (k : QP (.bl (decide (j ≤ i))) O) : Go (geI (.int i) (.int j) O) QP := k
theorem go_negI (k : QP (.int (-i)) O) : Go (negI (.int i) O) QP := k
theorem go_eqI (k : QP (.bl (decide (i = j))) O) : Go (eqS (.int i) (.int j) O) QP := by
  have e : decide (V.int i = V.int j) = decide (i = j) := Gx.dec_int
  show QP (.bl (decide (V.int i = V.int j))) O
  rw [e]; exact k
theorem go_neI (k : QP (.bl (!decide (i = j))) O) : Go (neS (.int i) (.int j) O) QP := by
  have e : decide (V.int i = V.int j) = decide (i = j) := Gx.dec_int
  show QP (.bl (!decide (V.int i = V.int j))) O
  rw [e]; exact k
theorem go_eqB {b c : Bool} (k : QP (.bl (decide (b = c))) O) : Go (eqS (.bl b) (.bl c) O) QP := by
  show QP (.bl (decide (V.bl b = V.bl c))) O
  rw [Gx.dec_bl]; exact k
theorem go_neB {b c : Bool} (k : QP (.bl (!decide (b = c))) O) : Go (neS (.bl b) (.bl c) O) QP := by
  show QP (.bl (!decide (V.bl b = V.bl c))) O
  rw [Gx.dec_bl]; exact k
theorem go_eqZ {b c : Str} (k : QP (.bl (decide (b = c))) O) : Go (eqS (.str b) (.str c) O) QP := by
  show QP (.bl (decide (V.str b = V.str c))) O
  rw [Gx.dec_str]; exact k
theorem go_neZ {b c : Str} (k : QP (.bl (!decide (b = c))) O) : Go (neS (.str b) (.str c) O) QP := by
  show QP (.bl (!decide (V.str b = V.str c))) O
  rw [Gx.dec_str]; exact k
theorem go_isN (k : QP (.bl (isNon p)) O) : Go (isN p .non O) QP := k
theorem go_notN (k : QP (.bl (!isNon p)) O) : Go (notN p .non O) QP := k
theorem go_ixL (e : lstOf O p = some ps) (e2 : atI ps i = some r) (k : QP r O) : Go (ixL p (.int i) O) QP := by
  unfold ixL
  simp only [e, e2]
  exact k
theorem go_ixT (e2 : atI ps i = some r) (k : QP r O) : Go (ixT (.tup ps) (.int i) O) QP := by
  unfold ixT tupOf
  simp only [e2]
  exact k
theorem atI_inP {xs : List PV} {r : Int} (h0 : 0 ≤ r) (h1 : r < (xs.length : Int)) : ∃ v, atI xs r = some v ∧ v ∈ xs := by
  have hl : r.toNat < xs.length := by omega
  refine ⟨xs[r.toNat], ?_, List.getElem_mem hl⟩
  have e : atI xs ((r.toNat : Nat) : Int) = some xs[r.toNat] := atI_nat (List.getElem?_eq_getElem hl)
  have er : ((r.toNat : Nat) : Int) = r := by omega
  rw [er] at e
  exact e
theorem go_ixR (e : lstOf O p = some ps) (h0 : 0 ≤ i) (h1 : i < ps.length) (k : ∀ r, r ∈ ps → QP r O) : Go (ixL p (.int i) O) QP := by
  obtain ⟨v, h2, h3⟩ := atI_inP h0 h1
  exact go_ixL e h2 (k v h3)
theorem go_slL {l v : Option Int} (e : lstOf O p = some ps) (k : QP (.lst (cutP ps l v)) O) : Go (slL p l v O) QP := by
  unfold slL
  simp only [e]
  exact k
theorem go_slT {l v : Option Int} (e : (HT.sIx ps.length 0 l == 0 && HT.sIx ps.length ps.length v == ps.length) = false) (e2 : cutP ps l v = qs) (k : QP (.tup qs) O) : Go (slT (.tup ps) l v O) QP := by
  unfold slT tupOf
  simp only [e, e2]
  exact k
theorem go_catT {rs : List PV} (e : (!ps.isEmpty && !qs.isEmpty && szOk (ps.length + qs.length)) = true) (e2 : ps ++ qs = rs) (k : QP (.tup rs) O) : Go (catT (.tup ps) (.tup qs) O) QP := by
  subst e2
  unfold catT tupOf
  simp only [e, if_true]
  exact k
theorem go_catL (e1 : lstT O p = some ps) (e2 : lstT O q = some qs) (e : szOk (ps.length + qs.length) = true) (k : QP (.lst (ps ++ qs)) O) : Go (catL p q O) QP := by
  unfold catL
  simp only [e1, e2, e, if_true]
  exact k
theorem go_oeq {C : Str} {mf : MF} (e1 : insIs O C p = true) (e2 : insIs O C q = true) (k : Go (mf [p, q] O) fun r O1 => GB r fun b => QP (.bl b) O1) : Go (oeqP C mf p q O) QP := by
  unfold oeqP
  rw [if_pos (by rw [e1, e2]; rfl)]
  unfold boolR
  cases h : mf [p, q] O with
  | ok v O' => rw [h] at k; obtain ⟨b, e, h'⟩ := k; subst e; exact h'
  | _ => rw [h] at k; exact k.elim
theorem go_one {C : Str} {mf : MF} (e1 : insIs O C p = true) (e2 : insIs O C q = true) (k : Go (mf [p, q] O) fun r O1 => GB r fun b => QP (.bl (!b)) O1) : Go (oneP C mf p q O) QP := by
  unfold oneP
  rw [if_pos (by rw [e1, e2]; rfl)]
  unfold boolR
  cases h : mf [p, q] O with
  | ok v O' => rw [h] at k; obtain ⟨b, e, h'⟩ := k; subst e; exact h'
  | _ => rw [h] at k; exact k.elim
theorem go_olen {C : Str} {mf : MF} (e1 : insIs O C p = true) (k : Go (mf [p] O) fun r O1 => ∃ n, r = .int n ∧ (0 ≤ n ∧ n < 2 ^ 63) ∧ QP (.int n) O1) : Go (olenP C mf [p] O) QP := by
  unfold olenP
  simp only [e1, if_true]
  cases h : mf [p] O with
  | ok v O' =>
    rw [h] at k
    obtain ⟨n, e, ⟨h1, h2⟩, h'⟩ := k
    subst e
    show Go (if (decide (0 ≤ n) && decide (n < 2 ^ 63)) = true then PR.ok (PV.int n) O' else .bad) QP
    rw [if_pos (by rw [decide_eq_true h1, decide_eq_true h2]; rfl)]
    exact h'
  | _ => rw [h] at k; exact k.elim
theorem go_isi {cs : List Str} {c : PV} {t : Sum String Str} {b : Bool} (e : tyOf O p = some t) (e2 : kitP cs t c = some b) (k : QP (.bl b) O) : Go (isiP cs [p, c] O) QP := by
  unfold isiP b2
  simp only [e, e2]
  exact k
theorem kit_same {cs : List Str} {C : Str} (h : cs.contains C = true) : kitP cs (.inr C) (.cls C) = some true := by
  unfold kitP
  simp only [h, Bool.and_self, if_true, decide_true]
theorem kit_ii {cs : List Str} : kitP cs (.inl "int") (.ty "int") = some true := kB1
theorem kit_ib {cs : List Str} : kitP cs (.inl "int") (.ty "bool") = some false := kB2
theorem kit_bb {cs : List Str} : kitP cs (.inl "bool") (.ty "bool") = some true := kB3
theorem kit_bi {cs : List Str} : kitP cs (.inl "bool") (.ty "int") = some true := kB4
theorem kit_ss {cs : List Str} : kitP cs (.inl "str") (.ty "str") = some true := kB5
theorem kit_tt {cs : List Str} : kitP cs (.inl "tuple") (.ty "tuple") = some true := kB6
theorem kit_nb {cs : List Str} : kitP cs (.inl "NoneType") (.ty "bool") = some false := kB7
theorem kit_ni {cs : List Str} : kitP cs (.inl "NoneType") (.ty "int") = some false := kB8
theorem kit_nt {cs : List Str} : kitP cs (.inl "NoneType") (.ty "tuple") = some false := kB9
theorem kit_si {cs : List Str} : kitP cs (.inl "str") (.ty "int") = some false := kB10
theorem go_len (e : seqOf O p = some ps) (k : QP (.int ps.length) O) : Go (bLen [p] O) QP := by
  unfold bLen b1
  simp only [e]
  exact k
theorem go_lenR (h0 : i ≤ j) (h1 : j - i < 2 ^ 63) (k : QP (.int (j - i)) O) : Go (bLenR [.rng i j] O) QP := by
  unfold bLenR b1
  simp only
  rw [if_pos (by rw [decide_eq_true h0, decide_eq_true h1]; rfl)]
  exact k
theorem go_rng (k : QP (.rng i j) O) : Go (bRng [.int i, .int j] O) QP := k
theorem go_max2 (k : QP (.int (max i j)) O) : Go (bMax2 [.int i, .int j] O) QP := k
theorem go_min2 (k : QP (.int (min i j)) O) : Go (bMin2 [.int i, .int j] O) QP := k
theorem go_abs (k : QP (.int (if i < 0 then -i else i)) O) : Go (bAbs [.int i] O) QP := k
theorem go_intI (k : QP (.int i) O) : Go (bInt [.int i] O) QP := k
theorem go_intB {b : Bool} (k : QP (.int (if b then 1 else 0)) O) : Go (bInt [.bl b] O) QP := k
theorem go_divmod (e : divOk i j = true) (k : QP (.tup [.int (i / j), .int (i % j)]) O) : Go (bDivmod [.int i, .int j] O) QP := by
  unfold bDivmod b2
  simp only [e, if_true]
  exact k
theorem go_is {f : List Int → Option PV} {ns : List Int} (e : (lstOf O p).bind intsOf = some ns) (e2 : f ns = some q) (k : QP q O) : Go (bIs f [p] O) QP := by
  unfold bIs b1
  simp only [e, e2]
  exact k
theorem go_sum {ns : List Int} (e : lstOf O p = some (ns.map .int)) (k : QP (.int ns.sum) O) : Go (bSum [p] O) QP := go_is (by rw [e]; exact intsOf_map ns) rfl k
theorem go_max {ns : List Int} (e : lstOf O p = some (ns.map .int)) (h : 0 < ns.length) (k : QP (.int (maxL ns)) O) : Go (bMax [p] O) QP := go_is (by rw [e]; exact intsOf_map ns) (by cases ns <;> first | rfl | simp at h) k
theorem go_min {ns : List Int} (e : lstOf O p = some (ns.map .int)) (h : 0 < ns.length) (k : QP (.int (minL ns)) O) : Go (bMin [p] O) QP := go_is (by rw [e]; exact intsOf_map ns) (by cases ns <;> first | rfl | simp at h) k
theorem go_bs {f : List Bool → PV} {ns : List Bool} (e : lstOf O p = some (ns.map .bl)) (k : QP (f ns) O) : Go (bBs f [p] O) QP := by
  unfold bBs b1
  have e : (lstOf O p).bind blsOf = some ns := by rw [e]; exact blsOf_map ns
  simp only [e]
  exact k
theorem go_all {ns : List Bool} (e : lstOf O p = some (ns.map .bl)) (k : QP (.bl (ns.all id)) O) : Go (bAll [p] O) QP := go_bs e k
theorem go_any {ns : List Bool} (e : lstOf O p = some (ns.map .bl)) (k : QP (.bl (ns.any id)) O) : Go (bAny [p] O) QP := go_bs e k
theorem go_bTupL (e : lstOf O p = some ps) (k : QP (.tup ps) O) : Go (bTup [p] O) QP := by
  unfold bTup b1
  simp only [e]
  exact k
theorem go_bTupT (k : QP (.tup ps) O) : Go (bTup [.tup ps] O) QP := k
theorem go_bLst (e : seqOf O p = some ps) (k : QP (.lst ps) O) : Go (bLst [p] O) QP := by
  unfold bLst b1
  simp only [e]
  exact k
theorem go_sortSet (k : Go (a s O) fun p O1 => ∃ ns : List Int, lstOf O1 p = some (ns.map .int) ∧ ns.length < 4000 ∧ (riseI ns).length < 64 ∧ QP (.lst ((riseI ns).map .int)) O1) : Go (eSortSet a s O) QP := go_bind (k.mono fun p O1 ⟨ns, e, h1, h2, h⟩ => by
  have e : (lstOf O1 p).bind intsOf = some ns := by rw [e]; exact intsOf_map ns
  simp only [e]
  rw [if_pos (by rw [decide_eq_true h1, decide_eq_true h2]; rfl)]
  exact h)
theorem go_append (e : O[n]? = some (some (.lst ps))) (h : szLt ps.length = true) (k : QP .non (O.set n (some (.lst (ps ++ [q]))))) : Go (appendP (.loc n) [q] O) QP := by
  unfold appendP locL
  simp only [e, h, if_true]
  exact k
theorem go_extend (e : O[n]? = some (some (.lst ps))) (e2 : lstT O q = some qs) (h : szOk (ps.length + qs.length) = true) (k : QP .non (O.set n (some (.lst (ps ++ qs))))) : Go (extendP (.loc n) [q] O) QP := by
  unfold extendP locL
  simp only [e, e2, h, if_true]
  exact k
theorem go_bml {h : PV → List PV → Sto → PR PV} (k : Go (a s O) fun p O1 => (lstOf O1 p).isSome = true ∧ Go (f s O1) fun ps O2 => Go (h p ps O2) QP) : Go (eBml h a f s O) QP := go_bind (k.mono fun _ _ ⟨e, h⟩ => by rw [if_pos e]; exact go_bind h)
/-! what is walked -/
theorem go_iL {QI : ItP → Sto → Prop} (k : Go (a s O) fun p O1 => ∃ ps, frL p = some ps ∧ QI (ps, none) O1) : Go (iL a s O) QI := go_bind (k.mono fun p O1 ⟨ps, e, h⟩ => by
  cases p <;> first | (cases e; exact h) | cases e)
theorem go_iT {QI : ItP → Sto → Prop} (k : Go (a s O) fun p O1 => ∃ ps, tupOf p = some ps ∧ QI (ps, none) O1) : Go (iT a s O) QI := go_bind (k.mono fun p O1 ⟨ps, e, h⟩ => by simp only [e]; exact h)
theorem go_iR1 {QI : ItP → Sto → Prop} (k : Go (f s O) fun ps O1 => ∃ j, ps = [.int j] ∧ (-(2 ^ 62) ≤ j ∧ j < 2 ^ 62) ∧ QI (rgL 0 j.toNat, none) O1) : Go (iR1 f s O) QI := go_bind (k.mono fun ps O1 ⟨j, e, c, h⟩ => by
  subst e
  simp only
  rw [if_pos (show rgOk j = true from decide_eq_true c)]
  exact h)
theorem go_iR2 {QI : ItP → Sto → Prop} (k : Go (f s O) fun ps O1 => ∃ i j, ps = [.int i, .int j] ∧ (-(2 ^ 62) ≤ i ∧ i < 2 ^ 62 ∧ -(2 ^ 62) ≤ j ∧ j < 2 ^ 62) ∧ QI (rgL i (j - i).toNat, none) O1) : Go (iR2 f s O) QI := go_bind (k.mono fun ps O1 ⟨i, j, e, c, h⟩ => by
  subst e
  simp only
  rw [if_pos (by rw [show rgOk i = true from decide_eq_true ⟨c.1, c.2.1⟩, show rgOk j = true from decide_eq_true ⟨c.2.2.1, c.2.2.2⟩]; rfl)]
  exact h)
theorem g_r1 {F : Int → Prop} (h : -(2 ^ 62) ≤ j ∧ j < 2 ^ 62) (k : F j) : ∃ j', [PV.int j] = [.int j'] ∧ (-(2 ^ 62) ≤ j' ∧ j' < 2 ^ 62) ∧ F j' := ⟨j, rfl, h, k⟩
theorem g_r2 {F : Int → Int → Prop} (h : -(2 ^ 62) ≤ i ∧ i < 2 ^ 62 ∧ -(2 ^ 62) ≤ j ∧ j < 2 ^ 62) (k : F i j) : ∃ i' j', [PV.int i, PV.int j] = [.int i', .int j'] ∧ (-(2 ^ 62) ≤ i' ∧ i' < 2 ^ 62 ∧ -(2 ^ 62) ≤ j' ∧ j' < 2 ^ 62) ∧ F i' j' := ⟨i, j, rfl, h, k⟩
theorem g_ips {F : List PV → Prop} (e : frL p = some ps) (k : F ps) : ∃ ps', frL p = some ps' ∧ F ps' := ⟨ps, e, k⟩
theorem g_ipt {F : List PV → Prop} (e : tupOf p = some ps) (k : F ps) : ∃ ps', tupOf p = some ps' ∧ F ps' := ⟨ps, e, k⟩
/-! loops -/
/-- a for by an invariant over (turn, slots, store) -/
theorem go_loop {tgt : GF} {body : SF} (J : Nat → Slots → Sto → Prop) : ∀ (items : List PV) (k : Nat) (s : Slots) (O : Sto), J k s O → (∀ i p s O, items[i]? = some p → J (k + i) s O → Go (tgt p s O) fun s1 O1 => GoS { K with nx := J (k + i + 1), bk := K.nx, ct := J (k + i + 1) } (body s1 O1)) →
    (∀ s O, J (k + items.length) s O → K.nx s O) → GoS K (loopL none tgt body items s O)
  | [], k, s, O, h0, _, hd => hd s O h0
  | p :: items, k, s, O, h0, hs, hd => by
    refine go_toS ((hs 0 p s O rfl h0).mono fun s1 O1 h1 => ?_)
    have again : ∀ s2 O2, J (k + 1) s2 O2 → GoS K (loopL none tgt body items s2 O2) := fun s2 O2 h2 => go_loop J items (k + 1) s2 O2 h2 (fun i p s O e h => by
      have q := hs (i + 1) p s O (by simpa using e) (by rw [show k + (i + 1) = k + 1 + i by omega]; exact h)
      rw [show k + (i + 1) + 1 = k + 1 + i + 1 by omega] at q
      exact q) fun s O h => hd s O (by rw [List.length_cons, show k + (items.length + 1) = k + 1 + items.length by omega]; exact h)
    show GoS K (match body s1 O1 with | .next s2 O2 => loopL none tgt body items s2 O2 | .cnt s2 O2 => loopL none tgt body items s2 O2 | .brk s2 O2 => .next s2 O2 | x => x)
    cases e : body s1 O1 <;> rw [e] at h1 <;> first | exact again _ _ h1 | exact h1
theorem go_for {fI : IF} {tgt : GF} {body : SF} (k : Go (fI s O) fun it O1 => GoS K (loopL it.2 tgt body it.1 s O1)) : GoS K (sFor fI tgt body s O) := go_toS k
/-- turn by turn, over known items -/
theorem go_loop0 {tgt : GF} {body : SF} (k : K.nx s O) : GoS K (loopL none tgt body [] s O) := k
theorem go_loop1 {tgt : GF} {body : SF} {items : List PV} (k : Go (tgt p s O) fun s1 O1 => GoS { K with nx := fun s O => GoS K (loopL none tgt body items s O), bk := K.nx, ct := fun s O => GoS K (loopL none tgt body items s O) } (body s1 O1)) : GoS K (loopL none tgt body (p :: items) s O) := by
  refine go_toS (k.mono fun s1 O1 h1 => ?_)
  show GoS K (match body s1 O1 with | .next s2 O2 => loopL none tgt body items s2 O2 | .cnt s2 O2 => loopL none tgt body items s2 O2 | .brk s2 O2 => .next s2 O2 | x => x)
  cases e : body s1 O1 <;> rw [e] at h1 <;> exact h1
/-! comprehensions -/
/-- one turn: what is put on, if any -/
def GoC (tgt : GF) (t : TF) (e : EF) (s0 : Slots) (p : PV) (O : Sto) (Q : Option PV → Sto → Prop) : Prop :=
  Go (tgt p s0 O) fun s1 O1 => Go (t s1 O1) fun b O2 => if b = true then Go (e s1 O2) fun q O3 => Q (some q) O3 else Q none O2
theorem comp_ok {tgt : GF} {t : TF} {e : EF} {s0 : Slots} (J : List PV → List PV → Sto → Prop) : ∀ (items done acc : List PV) (O : Sto), acc.length + items.length ≤ 100000 → J done acc O → (∀ d p r acc O, done ++ items = d ++ p :: r → J d acc O → GoC tgt t e s0 p O fun q O' => J (d ++ [p]) (acc ++ q.toList) O') →
    ∃ acc' O', compL none tgt t e s0 items acc O = .ok acc' O' ∧ J (done ++ items) acc' O'
  | [], done, acc, O, _, h0, _ => ⟨acc, O, rfl, by rw [List.append_nil]; exact h0⟩
  | p :: items, done, acc, O, hl, h0, hs => by
    have h1 := hs done p items acc O rfl h0
    unfold GoC at h1
    obtain ⟨s1, O1, e1, h2⟩ := h1.ex
    obtain ⟨b, O2, e2, h3⟩ := h2.ex
    rw [List.length_cons] at hl
    have next : ∀ acc2 O3, acc2.length + items.length ≤ 100000 → J (done ++ [p]) acc2 O3 → ∃ acc' O', compL none tgt t e s0 items acc2 O3 = .ok acc' O' ∧ J (done ++ p :: items) acc' O' := fun acc2 O3 hl2 h4 => by
      have q := comp_ok J items (done ++ [p]) acc2 O3 hl2 h4 fun d p' r acc O ed hj => hs d p' r acc O (by rw [← ed]; simp) hj
      rwa [List.append_assoc] at q
    show ∃ acc' O', ((tgt p s0 O).bind fun s1 O1 => (t s1 O1).bind fun b O2 => if b = true then (e s1 O2).bind fun q O3 => if szLt acc.length = true then compL none tgt t e s0 items (acc ++ [q]) O3 else .bad else compL none tgt t e s0 items acc O2) = _ ∧ _
    rw [e1]
    simp only [PR.bind]
    rw [e2]
    cases b with
    | true =>
      simp only [if_true] at h3 ⊢
      obtain ⟨q, O3, e3, h4⟩ := h3.ex
      rw [e3]
      simp only
      rw [if_pos (szl_le (show acc.length ≤ 100000 by omega))]
      exact next _ _ (by rw [List.length_append, List.length_singleton]; omega) h4
    | false =>
      have h3 : J (done ++ [p]) (acc ++ []) O2 := h3
      rw [List.append_nil] at h3
      exact next acc O2 (by omega) h3
theorem go_lc {fI : IF} {tgt : GF} {vs : List Nat} {s0 : Slots} (e0 : wipeP s vs = s0) (k : Go (fI s O) fun it O1 => ∃ ps O2, compL it.2 tgt t b s0 it.1 [] O1 = .ok ps O2 ∧ QP (.lst ps) O2) : Go (eLc fI tgt t b vs s O) QP := by
  subst e0
  unfold eLc lcC
  refine go_bind (go_bind (k.mono fun it O1 ⟨ps, O2, e, h⟩ => ?_))
  rw [e]
  exact h
theorem go_lcO {fI : IF} {tgt : GF} {vs : List Nat} {s0 : Slots} (e0 : wipeP s vs = s0) (k : Go (fI s O) fun it O1 => ∃ ps O2, compL it.2 tgt t b s0 it.1 [] O1 = .ok ps O2 ∧ QP (.loc O2.length) (O2 ++ [some (.lst ps)])) : Go (eLcO fI tgt t b vs s O) QP := by
  subst e0
  unfold eLcO lcC
  refine go_bind (go_bind (k.mono fun it O1 ⟨ps, O2, e, h⟩ => ?_))
  rw [e]
  exact h
theorem goc1 {tgt : GF} {e : EF} {s0 : Slots} {Q : Option PV → Sto → Prop} (k : Go (tgt p s0 O) fun s1 O1 => Go (e s1 O1) fun q O3 => Q (some q) O3) : GoC tgt tYesP e s0 p O Q := k.mono fun s1 O1 h => h
/-- [f(x) for x in ps]: what holds of each; I: what holds of the store -/
theorem comp_all {tgt : GF} {e : EF} {s0 : Slots} {items : List PV} (I : Sto → Prop) (P : PV → Prop) (hl : items.length ≤ 100000) (hI : I O) (h : ∀ p, p ∈ items → ∀ O', I O' → Go (tgt p s0 O') fun s1 O1 => Go (e s1 O1) fun q O2 => P q ∧ I O2) : ∃ acc O', compL none tgt tYesP e s0 items [] O = .ok acc O' ∧ acc.length = items.length ∧ (∀ q, q ∈ acc → P q) ∧ I O' := by
  obtain ⟨acc, O', e1, ⟨e2, e3⟩, e4⟩ := comp_ok (tgt := tgt) (t := tYesP) (e := e) (s0 := s0) (fun d acc O' => (acc.length = d.length ∧ ∀ q, q ∈ acc → P q) ∧ I O') items [] [] O (by simpa using hl) ⟨⟨rfl, fun _ h => (nomatch h)⟩, hI⟩ fun d p r acc O1 ed ⟨⟨h1, h2⟩, h3⟩ => by
    have hm : p ∈ items := by rw [show items = d ++ p :: r from ed]; simp
    refine goc1 ((h p hm O1 h3).mono fun s1 O2 k => ?_)
    refine k.mono fun q O3 z => ⟨⟨by simp [h1], fun q' hq => ?_⟩, z.2⟩
    rcases List.mem_append.mp hq with hq | hq
    · exact h2 q' hq
    · rw [show q' = q by simpa using hq]; exact z.1
  exact ⟨acc, O', e1, by simpa using e2, e3, e4⟩
/-- [f(x) for x in ps], f known, the store as it was -/
theorem comp_map {tgt : GF} {e : EF} {s0 : Slots} {items : List PV} (F : PV → PV) (hl : items.length ≤ 100000) (h : ∀ p, p ∈ items → Go (tgt p s0 O) fun s1 O1 => Go (e s1 O1) fun q O2 => q = F p ∧ O2 = O) : compL none tgt tYesP e s0 items [] O = .ok (items.map F) O := by
  obtain ⟨acc, O', e1, e2, e3⟩ := comp_ok (tgt := tgt) (t := tYesP) (e := e) (s0 := s0) (fun d acc O' => acc = d.map F ∧ O' = O) items [] [] O (by simpa using hl) ⟨rfl, rfl⟩ fun d p r acc O1 ed ⟨h1, h2⟩ => by
    subst h1
    subst h2
    have hm : p ∈ items := by rw [show items = d ++ p :: r from ed]; simp
    refine goc1 ((h p hm).mono fun s1 O1 k => ?_)
    exact k.mono fun q O2 z => ⟨by rw [z.1]; simp, z.2⟩
  rw [e1, e2, e3]
  rfl
/-- [x for x in ps if t(x)], t known, the store as it was -/
theorem comp_filter {tgt : GF} {t : TF} {e : EF} {s0 : Slots} {items : List PV} (T : PV → Bool) (hl : items.length ≤ 100000) (h : ∀ p, p ∈ items → Go (tgt p s0 O) fun s1 O1 => Go (t s1 O1) fun b O2 => b = T p ∧ O2 = O ∧ Go (e s1 O2) fun q O3 => q = p ∧ O3 = O) : compL none tgt t e s0 items [] O = .ok (items.filter T) O := by
  obtain ⟨acc, O', e1, e2, e3⟩ := comp_ok (tgt := tgt) (t := t) (e := e) (s0 := s0) (fun d acc O' => acc = d.filter T ∧ O' = O) items [] [] O (by simpa using hl) ⟨rfl, rfl⟩ fun d p r acc O1 ed ⟨h1, h2⟩ => by
    subst h1
    subst h2
    have hm : p ∈ items := by rw [show items = d ++ p :: r from ed]; simp
    unfold GoC
    refine (h p hm).mono fun s1 O1 k => k.mono fun b O2 ⟨z1, z2, z3⟩ => ?_
    subst z1
    subst z2
    cases c : T p with
    | true => rw [if_pos rfl]; exact z3.mono fun q O3 w => ⟨by rw [w.1]; simp [c], w.2⟩
    | false => rw [if_neg Bool.false_ne_true]; exact ⟨by simp [c], rfl⟩
  rw [e1, e2, e3]
  rfl
/-- over known items, one by one -/
theorem comp_nil {tgt : GF} {t : TF} {e : EF} {s0 : Slots} {acc : List PV} {F : List PV → Sto → Prop} (k : F acc O) : ∃ ps O2, compL none tgt t e s0 [] acc O = .ok ps O2 ∧ F ps O2 := ⟨acc, O, rfl, k⟩
theorem comp_one {tgt : GF} {t : TF} {e : EF} {s0 : Slots} {items acc : List PV} {F : List PV → Sto → Prop} (hl : acc.length.ble 100000 = true) (k : GoC tgt t e s0 p O fun q O' => ∃ ps O2, compL none tgt t e s0 items (acc ++ q.toList) O' = .ok ps O2 ∧ F ps O2) : ∃ ps O2, compL none tgt t e s0 (p :: items) acc O = .ok ps O2 ∧ F ps O2 := by
  unfold GoC at k
  obtain ⟨s1, O1, e1, h2⟩ := k.ex
  obtain ⟨b, O2, e2, h3⟩ := h2.ex
  show ∃ ps O2, ((tgt p s0 O).bind fun s1 O1 => (t s1 O1).bind fun b O2 => if b = true then (e s1 O2).bind fun q O3 => if szLt acc.length = true then compL none tgt t e s0 items (acc ++ [q]) O3 else .bad else compL none tgt t e s0 items acc O2) = _ ∧ _
  rw [e1]
  simp only [PR.bind]
  rw [e2]
  cases b with
  | true =>
    simp only [if_true] at h3 ⊢
    obtain ⟨q, O3, e3, h4⟩ := h3.ex
    rw [e3]
    simp only
    rw [if_pos (szl_le (Nat.le_of_ble_eq_true hl))]
    exact h4
  | false =>
    have h3 : ∃ ps O2', compL none tgt t e s0 items (acc ++ []) O2 = .ok ps O2' ∧ F ps O2' := h3
    rw [List.append_nil] at h3
    exact h3
def GAcc (acc : List PV) (F : List PV → Prop) : Prop := F acc
theorem g_acc {acc acc' : List PV} {F : List PV → Prop} (e : acc = acc') (k : F acc') : GAcc acc F := by subst e; exact k
theorem comp_one1 {tgt : GF} {e : EF} {s0 : Slots} {items acc : List PV} {F : List PV → Sto → Prop} (hl : acc.length.ble 100000 = true) (k : Go (tgt p s0 O) fun s1 O1 => Go (e s1 O1) fun q O' => GAcc (acc ++ [q]) fun acc' => ∃ ps O2, compL none tgt tYesP e s0 items acc' O' = .ok ps O2 ∧ F ps O2) : ∃ ps O2, compL none tgt tYesP e s0 (p :: items) acc O = .ok ps O2 ∧ F ps O2 := comp_one hl (goc1 k)
theorem comp_one2 {tgt : GF} {t : TF} {e : EF} {s0 : Slots} {items acc : List PV} {F : List PV → Sto → Prop} (hl : acc.length.ble 100000 = true) (k : Go (tgt p s0 O) fun s1 O1 => Go (t s1 O1) fun b O2 => if b = true then Go (e s1 O2) fun q O' => GAcc (acc ++ [q]) fun acc' => ∃ ps O2, compL none tgt t e s0 items acc' O' = .ok ps O2 ∧ F ps O2 else ∃ ps O3, compL none tgt t e s0 items acc O2 = .ok ps O3 ∧ F ps O3) : ∃ ps O2, compL none tgt t e s0 (p :: items) acc O = .ok ps O2 ∧ F ps O2 := comp_one hl (k.mono fun s1 O1 k => k.mono fun b O2 k => by
  cases b with
  | true => exact k
  | false =>
    have k : ∃ ps O3, compL none tgt t e s0 items acc O2 = .ok ps O3 ∧ F ps O3 := k
    rw [← List.append_nil acc] at k
    exact k)
theorem goc {tgt : GF} {t : TF} {e : EF} {s0 : Slots} {Q : Option PV → Sto → Prop} (k : Go (tgt p s0 O) fun s1 O1 => Go (t s1 O1) fun b O2 => if b = true then Go (e s1 O2) fun q O3 => Q (some q) O3 else Q none O2) : GoC tgt t e s0 p O Q := k
theorem go_yes (k : QB true O) : Go (tYesP s O) QB := k

end
/-! branches -/
section
variable {A B : Prop} {c : Prop} {inst : Decidable c}
theorem qbr (h1 : c → A) (h2 : ¬ c → B) : if decide c = true then A else B := Gx.br h1 h2
theorem qbrn (h1 : ¬ c → A) (h2 : c → B) : if (!decide c) = true then A else B := Gx.brn h1 h2
theorem bt (h : c) (k : A) : if decide c = true then A else B := by rw [if_pos (decide_eq_true h)]; exact k
theorem bf (h : ¬ c) (k : B) : if decide c = true then A else B := by rw [if_neg (by rw [decide_eq_false h]; exact Bool.false_ne_true)]; exact k
theorem bnt (h : ¬ c) (k : A) : if (!decide c) = true then A else B := by rw [if_pos (by rw [decide_eq_false h]; rfl)]; exact k
theorem bnf (h : c) (k : B) : if (!decide c) = true then A else B := by rw [if_neg (by rw [decide_eq_true h]; exact Bool.false_ne_true)]; exact k
end
/-! instances, purses -/
/-- the purse of a law, at a place of the store -/
def Pu (O : Sto) (n : Nat) : Prop := ∃ a b c : Int, O[n]? = some (some (.lst [.int a, .int b, .int c])) ∧ 0 ≤ a ∧ a < 2147483399 ∧ 0 ≤ b
theorem get_set {O : Sto} {n : Nat} {x y : Option PV} (h : O[n]? = some x) : (O.set n y)[n]? = some y := by
  have := (List.getElem?_eq_some_iff.mp h).1
  rw [List.getElem?_set_self this]
theorem get_app {O : Sto} {x : Option PV} : (O ++ [x])[O.length]? = some x := by
  rw [List.getElem?_append_right (Nat.le_refl _)]
  simp
theorem lst_loc {O : Sto} {n : Nat} {ps : List PV} (h : O[n]? = some (some (.lst ps))) : lstOf O (.loc n) = some ps := by simp [lstOf, h]
theorem toDL_ints : ∀ ns : List Int, toDL (ns.map .int) = some (ns.map .int)
  | [] => by simp [toDL]
  | n :: ns => by simp only [List.map_cons, toDL, toD0, toDL_ints ns]
theorem canLay_ints : ∀ ns : List Int, PyData.canLayAll0 (ns.map PyData.int) = true
  | [] => rfl
  | n :: ns => by
    show (PyData.canLay0 (.int n) && PyData.canLayAll0 (ns.map PyData.int)) = true
    rw [canLay_ints ns]
    rfl
theorem depthAll_ints : ∀ ns : List Int, PyData.depthAll (ns.map PyData.int) ≤ 1
  | [] => by simp [PyData.depthAll]
  | n :: ns => by
    have h := depthAll_ints ns
    simp only [List.map_cons, PyData.depthAll, PyData.depth]
    omega
theorem depth_ints (ns : List Int) : (PyData.tuple (ns.map PyData.int)).depth ≤ 64 ∧ (PyData.list (ns.map PyData.int)).depth ≤ 64 := by
  have h := depthAll_ints ns
  simp only [PyData.depth]
  omega
theorem shaped_ints {ns : List Int} : SeqAt.shaped (.tuple (ns.map PyData.int)) = true := by
  unfold SeqAt.shaped
  rw [decide_eq_true (depth_ints ns).1, Bool.and_true]
  show PyData.canLayAll0 _ = true
  exact canLay_ints ns
theorem shapedL_ints {ns : List Int} : SeqAt.shaped (.list (ns.map PyData.int)) = true := by
  unfold SeqAt.shaped
  rw [decide_eq_true (depth_ints ns).2, Bool.and_true]
  show PyData.canLayAll0 _ = true
  exact canLay_ints ns
theorem scVs_ints : ∀ ns : List Int, scVs (ns.map PV.int) = some (ns.map V.int)
  | [] => rfl
  | n :: ns => by simp only [List.map_cons, scVs, scV, scVs_ints ns]
def unP : PV → Int
  | .int i => i
  | _ => 0
/-- an item at a drawn place of a list of ints -/
theorem go_ixI {O : Sto} {p : PV} {ps : List PV} {i : Int} {QP : PV → Sto → Prop} (e : lstOf O p = some ps) (ei : ps = (ps.map unP).map .int) (h0 : 0 ≤ i) (h1 : i < ps.length) (k : ∀ z : Int, z ∈ ps.map unP → QP (.int z) O) : Go (ixL p (.int i) O) QP := go_ixR e h0 h1 fun r hr => by
  rw [ei] at hr
  obtain ⟨z, hz, rfl⟩ := List.mem_map.mp hr
  exact k z hz
theorem go_anyC {O : Sto} {p : PV} {ns : List Bool} {b : Bool} {QP : PV → Sto → Prop} (e : (lstOf O p).bind blsOf = some ns) (e2 : ns.any id = b) (k : QP (.bl b) O) : Go (bAny [p] O) QP := by
  unfold bAny bBs b1
  simp only [e]
  subst e2
  exact k
theorem go_allC {O : Sto} {p : PV} {ns : List Bool} {b : Bool} {QP : PV → Sto → Prop} (e : (lstOf O p).bind blsOf = some ns) (e2 : ns.all id = b) (k : QP (.bl b) O) : Go (bAll [p] O) QP := by
  unfold bAll bBs b1
  simp only [e]
  subst e2
  exact k
theorem eqv_ints (ns ms : List Int) (O : Sto) : eqD (.tup (ns.map .int)) (.tup (ms.map .int)) O = .ok (.bl (decide (ns = ms))) O := by
  unfold eqD toD
  simp only [toD0, toDL_ints, Option.map_some]
  rw [if_pos (by rw [shaped_ints, shaped_ints]; rfl)]
  congr 2
  exact eqvAll_ints ns ms
theorem eqvL_ints (ns ms : List Int) (O : Sto) : eqD (.lst (ns.map .int)) (.lst (ms.map .int)) O = .ok (.bl (decide (ns = ms))) O := by
  unfold eqD toD
  simp only [toD0, toDL_ints, Option.map_some]
  rw [if_pos (by rw [shapedL_ints, shapedL_ints]; rfl)]
  congr 2
  exact eqvAll_ints ns ms
theorem go_eqTI {O : Sto} {ps qs : List PV} {QP : PV → Sto → Prop} {ns ms : List Int} (e1 : ps = (ps.map unP).map .int) (e2 : qs = (qs.map unP).map .int) (e3 : ps.map unP = ns) (e4 : qs.map unP = ms) (k : QP (.bl (decide (ns = ms))) O) : Go (eqD (.tup ps) (.tup qs) O) QP := by
  subst e3
  subst e4
  have e := eqv_ints (ps.map unP) (qs.map unP) O
  rw [← e1, ← e2] at e
  exact go_at e k
/-- in a row of known ints -/
theorem go_inI {O : Sto} {neg : Bool} {i : Int} {q : PV} {ns : List Int} {QP : PV → Sto → Prop} (e : seqOf O q = some (ns.map .int)) (k : QP (.bl (if neg then !decide (i ∈ ns) else decide (i ∈ ns))) O) : Go (inS neg (.int i) q O) QP := by
  have e1 : (seqOf O q).bind scVs = some (ns.map V.int) := by
    rw [e]
    exact scVs_ints ns
  unfold inS
  simp only [scV, e1]
  have e2 : (flatV (V.int i) && (ns.map V.int).all flatV) = true := by simp [flatV]
  rw [if_pos e2]
  have e3 : inV (V.int i) (ns.map V.int) = decide (i ∈ ns) := by
    unfold inV
    rw [Bool.eq_iff_iff]
    simp only [List.any_map, List.any_eq_true, decide_eq_true_eq, Function.comp]
    constructor
    · rintro ⟨n, h1, h2⟩
      have : n = i := by simpa [eqV] using h2
      rw [← this]; exact h1
    · intro h
      exact ⟨i, h, by simp [eqV]⟩
  rw [e3]
  exact k
theorem g_n {i : Int} {F : Int → Prop} (h : 0 ≤ i ∧ i < 2 ^ 63) (k : F i) : ∃ n, PV.int i = .int n ∧ (0 ≤ n ∧ n < 2 ^ 63) ∧ F n := ⟨i, rfl, h, k⟩
theorem go_extE {O : Sto} {n : Nat} {ps qs : List PV} {q : PV} {QP : PV → Sto → Prop} (e : O[n]? = some (some (.lst ps))) (e2 : lstT O q = some qs) (h : szOk (ps.length + qs.length) = true) (k : ∀ O', O'[n]? = some (some (.lst (ps ++ qs))) → (∀ m : Nat, m ≠ n → O'[m]? = O[m]?) → QP .non O') : Go (extendP (.loc n) [q] O) QP :=
  go_extend e e2 h (k _ (get_set e) fun m hm => List.getElem?_set_ne (Ne.symm hm))
theorem go_appE {O : Sto} {n : Nat} {ps : List PV} {q : PV} {QP : PV → Sto → Prop} (e : O[n]? = some (some (.lst ps))) (h : szLt ps.length = true) (k : ∀ O', O'[n]? = some (some (.lst (ps ++ [q]))) → (∀ m : Nat, m ≠ n → O'[m]? = O[m]?) → QP .non O') : Go (appendP (.loc n) [q] O) QP :=
  go_append e h (k _ (get_set e) fun m hm => List.getElem?_set_ne (Ne.symm hm))
theorem some_loc {O : Sto} {n : Nat} {ps : List PV} (h : O[n]? = some (some (.lst ps))) : (lstOf O (.loc n)).isSome = true := by rw [lst_loc h]; rfl
def memD (i : Int) : List Int → Prop
  | [] => False
  | [n] => i = n
  | n :: m :: r => i = n ∨ memD i (m :: r)
theorem memD_iff {i : Int} : ∀ {ns : List Int}, memD i ns ↔ i ∈ ns
  | [] => by simp [memD]
  | [n] => by simp [memD]
  | n :: m :: r => by
    have h := memD_iff (i := i) (ns := m :: r)
    unfold memD
    rw [h]
    simp
instance {i : Int} {ns : List Int} : Decidable (memD i ns) := decidable_of_iff (i ∈ ns) memD_iff.symm
theorem go_in0 {O : Sto} {i : Int} {q : PV} {ps : List PV} {ns : List Int} {P : Prop} {QP : PV → Sto → Prop} (e : seqOf O q = some ps) (ei : ps = (ps.map unP).map .int) (e3 : ps.map unP = ns) (hP : memD i ns = P) (k : QP (.bl (@decide P (Classical.propDecidable P))) O) : Go (inS false (.int i) q O) QP := by
  subst hP
  subst e3
  refine go_inI (ns := ps.map unP) (by rw [← ei]; exact e) ?_
  have : @decide (memD i (ps.map unP)) (Classical.propDecidable _) = decide (i ∈ ps.map unP) := decide_eq_decide.mpr memD_iff
  rw [this] at k
  exact k
theorem go_in1 {O : Sto} {i : Int} {q : PV} {ps : List PV} {ns : List Int} {P : Prop} {QP : PV → Sto → Prop} (e : seqOf O q = some ps) (ei : ps = (ps.map unP).map .int) (e3 : ps.map unP = ns) (hP : memD i ns = P) (k : QP (.bl (!@decide P (Classical.propDecidable P))) O) : Go (inS true (.int i) q O) QP := by
  subst hP
  subst e3
  refine go_inI (ns := ps.map unP) (by rw [← ei]; exact e) ?_
  have : @decide (memD i (ps.map unP)) (Classical.propDecidable _) = decide (i ∈ ps.map unP) := decide_eq_decide.mpr memD_iff
  rw [this] at k
  exact k
/-! builders -/
def GoB (N : List Str → List PV → Slots → Sto → Prop) (r : BR) : Prop := match r with
  | .next ns ps s O => N ns ps s O
  | _ => False
section
variable {N : List Str → List PV → Slots → Sto → Prop} {x y : BF} {ns : List Str} {ps : List PV} {s : Slots} {O : Sto} {a : EF} {Q : PV → Sto → Prop}
theorem go_init {C : Str} {n M : Nat} {body : BF} {s' : Slots} (e : ps.length = n) (e2 : none :: ps.map some ++ List.replicate (M - (n + 1)) none = s') (k : GoB (fun ns qs _ O1 => Q (.ins C ns qs) O1) (body [] [] s' O)) : Go (mkIns C (mkInit n M body ps O)) Q := by
  unfold mkInit
  rw [if_pos e, e2]
  cases q : body [] [] s' O <;> rw [q] at k <;> first | exact k | exact k.elim
theorem go_bseq (k : GoB (fun ns ps s O => GoB N (y ns ps s O)) (x ns ps s O)) : GoB N (bSeq x y ns ps s O) := by
  unfold bSeq
  cases e : x ns ps s O <;> rw [e] at k <;> exact k
theorem go_bexp (k : Go (a s O) fun _ O1 => N ns ps s O1) : GoB N (bExp a ns ps s O) := by
  unfold bExp
  cases e : a s O <;> rw [e] at k <;> exact k
theorem go_bfld {f : Str} (k : Go (a s O) fun p O1 => ¬ (f ∈ ns ∨ 900 < ns.length) ∧ N (ns ++ [f]) (ps ++ [p]) s O1) : GoB N (bFld f a ns ps s O) := by
  unfold bFld
  cases e : a s O with
  | ok p O1 =>
    rw [e] at k
    obtain ⟨k1, k2⟩ := k
    simp only
    rw [if_neg k1]
    exact k2
  | _ => rw [e] at k; exact k.elim
theorem g_bf {A : Prop} {f : Str} (h : ¬ (f ∈ ns ∨ 900 < ns.length)) (k : A) : ¬ (f ∈ ns ∨ 900 < ns.length) ∧ A := ⟨h, k⟩
end
/-- a purse stands at p, all else as in O0 -/
structure Ph (O0 : Sto) (p : Nat) (O : Sto) : Prop where
  pu : Pu O p
  len : O.length = O0.length
  oth : ∀ m : Nat, m ≠ p → O[m]? = O0[m]?
theorem Ph.start {O : Sto} {p : Nat} (h : Pu O p) : Ph O p O := ⟨h, rfl, fun _ _ => rfl⟩
/-- the same, with what stands at p told -/
structure Phx (O0 : Sto) (p : Nat) (ps : List PV) (O : Sto) : Prop where
  at_ : O[p]? = some (some (.lst ps))
  len : O.length = O0.length
  oth : ∀ m : Nat, m ≠ p → O[m]? = O0[m]?
theorem Ph.open {O0 O : Sto} {p : Nat} (h : Ph O0 p O) : ∃ a b c : Int, Phx O0 p [.int a, .int b, .int c] O ∧ 0 ≤ a ∧ a < 2147483399 ∧ 0 ≤ b := by
  obtain ⟨⟨a, b, c, e, h1⟩, h2, h3⟩ := h
  exact ⟨a, b, c, ⟨e, h2, h3⟩, h1⟩
theorem Phx.close {O0 O : Sto} {p : Nat} {a b c : Int} (h : Phx O0 p [.int a, .int b, .int c] O) (h1 : 0 ≤ a) (h2 : a < 2147483399) (h3 : 0 ≤ b) : Ph O0 p O := ⟨⟨a, b, c, h.at_, h1, h2, h3⟩, h.len, h.oth⟩
theorem g_subX {O0 O : Sto} {n j' : Nat} {i : Int} {ps : List PV} {v : PV} {s : Slots} {QS : Slots → Sto → Prop} (h : Phx O0 n ps O) (e2 : ixN ps.length i = some j') (k : ∀ O', Phx O0 n (ps.set j' v) O' → QS s O') : GSub v s (.loc n) (.int i) O QS :=
  g_sub h.at_ e2 (k _ ⟨get_set h.at_, by rw [List.length_set]; exact h.len, fun m hm => by rw [List.getElem?_set_ne (Ne.symm hm)]; exact h.oth m hm⟩)
theorem go_ixX {O0 O : Sto} {n : Nat} {i : Int} {ps : List PV} {r : PV} {QP : PV → Sto → Prop} (h : Phx O0 n ps O) (e2 : atI ps i = some r) (k : QP r O) : Go (ixL (.loc n) (.int i) O) QP := go_ixL (lst_loc h.at_) e2 k
/-- a new list that changes -/
theorem Phx.new {O : Sto} {ps : List PV} : Phx (O ++ [some (.lst ps)]) O.length ps (O ++ [some (.lst ps)]) := ⟨get_app, rfl, fun _ _ => rfl⟩
theorem trues {ps : List PV} (h : ∀ q, q ∈ ps → q = .bl true) : ps = (List.replicate ps.length true).map .bl := by
  induction ps with
  | nil => rfl
  | cons p ps ih =>
    rw [List.length_cons, List.replicate_succ, List.map_cons, ← ih fun q hq => h q (List.mem_cons_of_mem _ hq), h p List.mem_cons_self]
/-- the law's own promise, from what its mirror does -/
theorem law_sp {K : PySem.W.Frag} {m : MF} {ns : List Int} {H : Hp} {a : Addr} {Q : VK} {E : XK} (hm : Go (m [.rol (ns.map .int)] []) fun q _ => q = .bl true) (hS : SqL K H a (ns.map V.int)) (hQ : ∀ H', Q (.bl true) H') : spM K false m [.ref a] H Q E := by
  have e : fz [] [] [] H = H := funext fun b => by unfold fz ers; simp [lv]
  obtain ⟨q, O', e1, rfl⟩ := hm.ex
  refine ⟨[], [], [], [.rol (ns.map .int)], ⟨rfl, by simp [lv], fun _ h => (nomatch h), fun _ h => (nomatch h), fun n b p h => by simp at h⟩, ⟨_, [], rfl, ⟨a, ns.map V.int, rfl, by rw [e]; exact hS, RepL.mapV (f := PV.int) (g := V.int) (fun _ => rfl) ns⟩, rfl⟩, ?_⟩
  rw [e1]
  intro v ι' H' S X r
  rw [show v = .bl true from r]
  exact hQ H'
end Qx

/-! Own layer Qr: walking a mirror, second part: things that change. -/
namespace Qx
open PySem PySem.Spec PyProof.Rows L2 Gx
theorem ins_loc {O : Sto} {n : Nat} {C : Str} {ns : List Str} {ps : List PV} (h : O[n]? = some (some (.ins C ns ps))) : insOf O (.loc n) = some (C, ns, ps) := by simp [insOf, h]
theorem seq_loc {O : Sto} {n : Nat} {ps : List PV} (h : O[n]? = some (some (.lst ps))) : seqOf O (.loc n) = some ps := by
  unfold seqOf
  simp [lstOf, h]
theorem lstT_loc {O : Sto} {n : Nat} {ps : List PV} (h : O[n]? = some (some (.lst ps))) : lstT O (.loc n) = some ps := by simp [lstT, h]
section
variable {α : Type} {K : Ks} {QP : PV → Sto → Prop} {s : Slots} {O O1 : Sto} {p q r : PV} {ps qs : List PV} {a b c : EF} {f g : AF} {i j : Int} {n : Nat}
/-! what is walked -/
theorem go_iLx {QI : ItP → Sto → Prop} (k : Go (a s O) fun p O1 => ∃ ps g, itemsOf O1 p = some (ps, g) ∧ QI (ps, g) O1) : Go (iL a s O) QI := go_bind (k.mono fun p O1 ⟨ps, g, e, h⟩ => by
  unfold itemsOf at e
  cases p with
  | lst qs => cases e; exact h
  | rol qs => cases e; exact h
  | loc n =>
    simp only at e ⊢
    cases q : O1[n]? with
    | none => simp [q] at e
    | some w =>
      cases w with
      | none => simp [q] at e
      | some w =>
        cases w with
        | lst qs =>
          simp only [q, Option.some.injEq, Prod.mk.injEq] at e ⊢
          obtain ⟨e1, e2⟩ := e
          subst e1
          subst e2
          exact h
        | _ => simp [q] at e
  | _ => cases e)
theorem g_itF {F : List PV → Option (Nat × List PV) → Prop} (e : itemsOf O p = some (ps, none)) (k : F ps none) : ∃ ps g, itemsOf O p = some (ps, g) ∧ F ps g := ⟨ps, none, e, k⟩
theorem g_itL {F : List PV → Option (Nat × List PV) → Prop} (e : O[n]? = some (some (.lst ps))) (k : F ps (some (n, ps))) : ∃ ps g, itemsOf O (.loc n) = some (ps, g) ∧ F ps g := ⟨ps, some (n, ps), by simp [itemsOf, e], k⟩
theorem go_iZMt {QI : ItP → Sto → Prop} (k : Go (f s O) fun ps O1 => ∃ xs q ys g, ps = [.tup xs, q] ∧ itemsOf O1 q = some (ys, g) ∧ QI (zipP xs ys, g) O1) : Go (iZM true f s O) QI := go_bind (k.mono fun ps O1 ⟨xs, q, ys, g, e, e2, h⟩ => by
  subst e
  simp only [tupOf, e2]
  exact h)
theorem go_iZMf {QI : ItP → Sto → Prop} (k : Go (f s O) fun ps O1 => ∃ xs q ys g, ps = [q, .tup xs] ∧ itemsOf O1 q = some (ys, g) ∧ QI (zipP ys xs, g) O1) : Go (iZM false f s O) QI := go_bind (k.mono fun ps O1 ⟨xs, q, ys, g, e, e2, h⟩ => by
  subst e
  simp only [tupOf, e2]
  exact h)
/-! loops and comprehensions over things that are told by a list -/
theorem chk_grd {gd : Option (Nat × List PV)} {bad r : α} (h : grd gd O) : chk gd O bad r = r := by
  cases gd with
  | none => rfl
  | some w => obtain ⟨n, ps⟩ := w; unfold chk; simp only; rw [if_pos (show O[n]? = some (some (.lst ps)) from h)]
theorem go_loopP {tgt : GF} {body : SF} {gd : Option (Nat × List PV)} (f : α → PV) (J : List α → Slots → Sto → Prop) (rs : List α) (hg : ∀ d s O, J d s O → grd gd O) (h0 : J [] s O)
    (hs : ∀ d r t s O, rs = d ++ r :: t → J d s O → Go (tgt (f r) s O) fun s1 O1 => GoS { K with nx := J (d ++ [r]), bk := K.nx, ct := J (d ++ [r]) } (body s1 O1)) (hd : ∀ s O, J rs s O → K.nx s O) : GoS K (loopL gd tgt body (rs.map f) s O) := by
  have main : ∀ (t d : List α) (s : Slots) (O : Sto), rs = d ++ t → J d s O → GoS K (loopL gd tgt body (t.map f) s O) := fun t => by
    induction t with
    | nil =>
      intro d s O e h
      rw [List.append_nil] at e
      subst e
      unfold List.map loopL
      rw [chk_grd (hg _ _ _ h)]
      exact hd s O h
    | cons r t ih =>
      intro d s O e h
      unfold List.map loopL
      rw [chk_grd (hg _ _ _ h)]
      refine go_toS ((hs d r t s O e h).mono fun s1 O1 h1 => ?_)
      have again : ∀ s2 O2, J (d ++ [r]) s2 O2 → GoS K (loopL gd tgt body (t.map f) s2 O2) := fun s2 O2 h2 => ih (d ++ [r]) s2 O2 (by rw [e]; simp) h2
      show GoS K (match body s1 O1 with | .next s2 O2 => loopL gd tgt body (t.map f) s2 O2 | .cnt s2 O2 => loopL gd tgt body (t.map f) s2 O2 | .brk s2 O2 => .next s2 O2 | x => x)
      cases e : body s1 O1 <;> rw [e] at h1 <;> first | exact again _ _ h1 | exact h1
  exact main rs [] s O rfl h0
theorem comp_P {tgt : GF} {t : TF} {e : EF} {s0 : Slots} {gd : Option (Nat × List PV)} {F : List PV → Sto → Prop} (f : α → PV) (J : List α → List PV → Sto → Prop) (rs : List α) (hl : rs.length ≤ 100000) (hg : ∀ d ps O, J d ps O → grd gd O) (h0 : J [] [] O)
    (hs : ∀ d r t' acc O, rs = d ++ r :: t' → J d acc O → GoC tgt t e s0 (f r) O fun q O' => J (d ++ [r]) (acc ++ q.toList) O') (hd : ∀ ps O, J rs ps O → F ps O) : ∃ ps O2, compL gd tgt t e s0 (rs.map f) [] O = .ok ps O2 ∧ F ps O2 := by
  have main : ∀ (u d : List α) (acc : List PV) (O : Sto), rs = d ++ u → acc.length ≤ d.length → J d acc O → ∃ ps O2, compL gd tgt t e s0 (u.map f) acc O = .ok ps O2 ∧ F ps O2 := fun u => by
    induction u with
    | nil =>
      intro d acc O e' la h
      rw [List.append_nil] at e'
      subst e'
      unfold List.map compL
      rw [chk_grd (hg _ _ _ h)]
      exact ⟨_, _, rfl, hd _ _ h⟩
    | cons r u ih =>
      intro d acc O e' la h
      have h1 := hs d r u acc O e' h
      unfold GoC at h1
      obtain ⟨s1, O1, e1, h2⟩ := h1.ex
      obtain ⟨b, O2, e2, h3⟩ := h2.ex
      unfold List.map compL
      rw [chk_grd (hg _ _ _ h), e1]
      simp only [PR.bind]
      rw [e2]
      cases b with
      | true =>
        simp only [if_true] at h3 ⊢
        obtain ⟨q, O3, e3, h4⟩ := h3.ex
        rw [e3]
        simp only
        have : d.length ≤ rs.length := by rw [e', List.length_append]; omega
        rw [if_pos (szl_le (show acc.length ≤ 100000 by omega))]
        exact ih (d ++ [r]) _ _ (by rw [e']; simp) (by simp; omega) h4
      | false =>
        have h3 : J (d ++ [r]) (acc ++ []) O2 := h3
        rw [List.append_nil] at h3
        exact ih (d ++ [r]) _ _ (by rw [e']; simp) (by simp; omega) h3
  exact main rs [] [] O rfl (Nat.le_refl _) h0
/-- [e(x) for x in ..], e known, the store as it was -/
theorem comp_M {tgt : GF} {e : EF} {s0 : Slots} {gd : Option (Nat × List PV)} {F : List PV → Sto → Prop} (f m : α → PV) (rs : List α) (hl : rs.length ≤ 100000) (hg : grd gd O) (hs : ∀ r, r ∈ rs → Go (tgt (f r) s0 O) fun s1 O1 => Go (e s1 O1) fun q O2 => q = m r ∧ O2 = O) (hd : F (rs.map m) O) : ∃ ps O2, compL gd tgt tYesP e s0 (rs.map f) [] O = .ok ps O2 ∧ F ps O2 :=
  comp_P f (fun d ps O' => ps = d.map m ∧ O' = O) rs hl (fun d ps O' h => by rw [h.2]; exact hg) ⟨rfl, rfl⟩ (fun d r t acc O' ed h => by
    obtain ⟨h1, h2⟩ := h
    subst h1
    subst h2
    refine goc1 ((hs r (by rw [ed]; simp)).mono fun s1 O1 k => k.mono fun q O2 z => ?_)
    exact ⟨by rw [z.1]; simp, z.2⟩) fun ps O' h => by rw [h.1, h.2]; exact hd
/-! things that change -/
def GMo (m : MF) (C : Str) (ps : List PV) (O : Sto) (QP : PV → Sto → Prop) : Prop := Go (m (.loc O.length :: ps) (O ++ [some (.ins C [] [])])) fun r O2 => r = .non ∧ QP (.loc O.length) O2
theorem g_mo {m : MF} {C : Str} {ps' : List PV} (e : ps = ps') (k : Go (m (.loc O.length :: ps') (O ++ [some (.ins C [] [])])) fun r O2 => r = .non ∧ QP (.loc O.length) O2) : GMo m C ps O QP := by subst e; exact k
theorem go_makeO {C : Str} {m : MF} {dps : List PV} (k : Go (f s O) fun ps O1 => GMo m C (ps ++ dps) O1 QP) : Go (eMakeO C m dps f s O) QP := go_bind (k.mono fun ps O1 h => go_bind (by
  unfold GMo at h
  obtain ⟨r, O2, e, rfl, h⟩ := h.ex
  rw [e]
  exact h))
def GFs (K : Ks) (C fl : Str) (p q : PV) (s : Slots) (O : Sto) : Prop := GoS K (fldP C fl p q s O)
theorem go_fldS {C fl : Str} (k : Go (b s O) fun q O1 => Go (a s O1) fun p O2 => GFs K C fl p q s O2) : GoS K (sFldP C fl a b s O) := go_toS (k.mono fun q O1 h => go_toS h)
theorem g_fs {C fl : Str} {ns ns' : List Str} (e : O[n]? = some (some (.ins C ns ps))) (e1 : ns.length ≤ 900) (e2 : putN fl ns = ns') (e3 : putW fl q ns ps = qs) (k : K.nx s (O.set n (some (.ins C ns' qs)))) : GFs K C fl (.loc n) q s O := by
  unfold GFs fldP
  simp only [e]
  rw [if_pos (show True ∧ ns.length ≤ 900 from ⟨trivial, e1⟩), e2, e3]
  exact k
theorem g_fsE {C fl : Str} {ns ns' : List Str} (e : O[n]? = some (some (.ins C ns ps))) (e1 : ns.length ≤ 900) (e2 : putN fl ns = ns') (e3 : putW fl q ns ps = qs) (k : ∀ O', O'[n]? = some (some (.ins C ns' qs)) → O'.length = O.length → (∀ m : Nat, m ≠ n → O'[m]? = O[m]?) → K.nx s O') : GFs K C fl (.loc n) q s O :=
  g_fs e e1 e2 e3 (k _ (get_set e) (by rw [List.length_set]) fun m hm => List.getElem?_set_ne (Ne.symm hm))
theorem go_frzL (e : O[n]? = some (some q)) (k : QP q (O.set n none)) : Go (frzP (.loc n) O) QP := by
  unfold frzP
  simp only [e]
  exact k
theorem go_frz (k : Go (a s O) fun p O1 => Go (frzP p O1) QP) : Go (eFrz a s O) QP := go_bind k
theorem go_popAt {j : Nat} (e : O[n]? = some (some (.lst ps))) (h : -(2 ^ 63) ≤ i ∧ i < 2 ^ 63) (e1 : seqIndex? i ps.length = some j) (e2 : ps[j]? = some q) (k : ∀ O', O'[n]? = some (some (.lst (ps.eraseIdx j))) → O'.length = O.length → (∀ m : Nat, m ≠ n → O'[m]? = O[m]?) → QP q O') : Go (popAtP (.loc n) [.int i] O) QP := by
  unfold popAtP locL
  simp only [e, decide_eq_true h.1, decide_eq_true h.2, Bool.and_self, if_true, e1, e2]
  exact k _ (get_set e) (by rw [List.length_set]) fun m hm => List.getElem?_set_ne (Ne.symm hm)
theorem go_appF (e : O[n]? = some (some (.lst ps))) (h : szLt ps.length = true) (k : ∀ O', O'[n]? = some (some (.lst (ps ++ [q]))) → O'.length = O.length → (∀ m : Nat, m ≠ n → O'[m]? = O[m]?) → QP .non O') : Go (appendP (.loc n) [q] O) QP :=
  go_append e h (k _ (get_set e) (by rw [List.length_set]) fun m hm => List.getElem?_set_ne (Ne.symm hm))
theorem go_extF (e : O[n]? = some (some (.lst ps))) (e2 : lstT O q = some qs) (h : szOk (ps.length + qs.length) = true) (k : ∀ O', O'[n]? = some (some (.lst (ps ++ qs))) → O'.length = O.length → (∀ m : Nat, m ≠ n → O'[m]? = O[m]?) → QP .non O') : Go (extendP (.loc n) [q] O) QP :=
  go_extend e e2 h (k _ (get_set e) (by rw [List.length_set]) fun m hm => List.getElem?_set_ne (Ne.symm hm))
end
theorem seq_ix {i n : Nat} (h : i < n) : seqIndex? (i : Int) n = some i := by
  unfold seqIndex?
  have h1 : ¬ ((i : Int) < 0) := by omega
  have h2 : (i : Int) < n := by omega
  simp [h1, h]
theorem go_isNb {O : Sto} {p : PV} {b : Bool} {QP : PV → Sto → Prop} (e : isNon p = b) (k : QP (.bl b) O) : Go (isN p .non O) QP := by subst e; exact k
theorem go_notNb {O : Sto} {p : PV} {b : Bool} {QP : PV → Sto → Prop} (e : isNon p = b) (k : QP (.bl (!b)) O) : Go (notN p .non O) QP := by subst e; exact k
/-! what a store keeps -/
/-- all that was there is there as it was; perhaps there is more -/
structure Fr (O O' : Sto) : Prop where
  len : O.length ≤ O'.length
  at_ : ∀ m : Nat, m < O.length → O'[m]? = O[m]?
theorem Fr.refl {O : Sto} : Fr O O := ⟨Nat.le_refl _, fun _ _ => rfl⟩
theorem Fr.trans {O O' O'' : Sto} (a : Fr O O') (b : Fr O' O'') : Fr O O'' := ⟨Nat.le_trans a.len b.len, fun m h => (b.at_ m (Nat.lt_of_lt_of_le h a.len)).trans (a.at_ m h)⟩
theorem Fr.get {O O' : Sto} (a : Fr O O') {n : Nat} {x : Option PV} (h : O[n]? = some x) : O'[n]? = some x := (a.at_ n (List.getElem?_eq_some_iff.mp h).1).trans h
theorem Fr.app {O O' : Sto} (a : Fr O O') {x : Sto} : Fr O (O' ++ x) := ⟨Nat.le_trans a.len (by simp), fun m h => by rw [List.getElem?_append_left (Nat.lt_of_lt_of_le h a.len)]; exact a.at_ m h⟩
theorem Fr.pu {O O' : Sto} (a : Fr O O') {n : Nat} (h : Pu O n) : Pu O' n := by
  obtain ⟨x, y, z, e, h⟩ := h
  exact ⟨x, y, z, a.get e, h⟩
/-- a change at a place behind -/
theorem Fr.put {O O' O'' : Sto} (a : Fr O O') {n : Nat} (hn : O.length ≤ n) (hl : O''.length = O'.length) (h : ∀ m : Nat, m ≠ n → O''[m]? = O'[m]?) : Fr O O'' := ⟨by rw [hl]; exact a.len, fun m hm => (h m (by omega)).trans (a.at_ m hm)⟩
theorem lt_of_get {O : Sto} {n : Nat} {x : Option PV} (h : O[n]? = some x) : n < O.length := (List.getElem?_eq_some_iff.mp h).1
end Qx

/-! Own layer Qs: the pure walk where something may be raised. -/
namespace Qx
open PySem PySem.Spec PyProof.Rows L2 Gx
/-- either what is made, or what is raised -/
def GoE {α : Type} (X : PExc → Sto → Prop) (r : PR α) (Q : α → Sto → Prop) : Prop := match r with
  | .ok a O => Q a O
  | .exc e O => X e O
  | .bad => False
section
variable {α β : Type} {X : PExc → Sto → Prop} {Q : α → Sto → Prop} {QP : PV → Sto → Prop} {s : Slots} {O O1 : Sto} {p q r : PV} {ps qs : List PV} {a b c : EF} {t u : TF} {f g : AF} {x y : SF} {K : Ks} {i j : Int} {n m : Nat} {mf : MF}
theorem goe_go {r : PR α} (h : Go r Q) : GoE X r Q := by
  cases r <;> first | exact h | exact h.elim
theorem goe_at {r : PR α} {e : PExc} (h : r = .exc e O1) (k : X e O1) : GoE X r Q := by rw [h]; exact k
theorem GoE.exc {r : PR α} {e : PExc} (h : GoE (fun e' O' => e' = e ∧ O' = O) r fun _ _ => False) : r = .exc e O := by
  cases r with
  | exc e' O' => obtain ⟨rfl, rfl⟩ := h; rfl
  | ok a O' => exact h.elim
  | bad => exact h.elim
theorem goe_bind {r : PR α} {h : α → Sto → PR β} {Q' : β → Sto → Prop} (k : Go r fun v O1 => GoE X (h v O1) Q') : GoE X (r.bind h) Q' := by
  cases r <;> first | exact k | exact k.elim
def GME (X : PExc → Sto → Prop) (m : MF) (ps : List PV) (O : Sto) (QP : PV → Sto → Prop) : Prop := GoE X (m ps O) QP
theorem g_me {m : MF} {ps' : List PV} (e : ps = ps') (k : GoE X (m ps' O) QP) : GME X m ps O QP := by subst e; exact k
theorem goe_call {m : MF} {dps : List PV} (k : Go (f s O) fun ps O1 => GME X m (ps ++ dps) O1 QP) : GoE X (eCall m dps f s O) QP := goe_bind k
theorem goe_callK {m : MF} {gP : List PV → List PV → List PV} {n k : Nat} (h : Go (f s O) fun ps O1 => Go (g s O1) fun zs O2 => (ps.length = n ∧ zs.length = k) ∧ GME X m (gP ps zs) O2 QP) : GoE X (eCallK m n k gP f g s O) QP := goe_bind (h.mono fun _ _ h => goe_bind (h.mono fun _ _ h => by rw [if_pos h.1]; exact h.2))
theorem goe_meth {C me : Str} {mf : MF} {dps : List PV} (k : Go (a s O) fun p O1 => GMeth C me p O1 (Go (f s O1) fun ps O2 => GME X mf (p :: (ps ++ dps)) O2 QP)) : GoE X (eMeth C me mf dps a f s O) QP := goe_bind (k.mono fun _ _ ⟨ns, ps, e, e2, h⟩ => by simp only [e, e2, Option.isNone_none, and_self, if_true]; exact goe_bind h)
theorem goe_methK {C me : Str} {mf : MF} {gP : List PV → List PV → List PV} {n k : Nat} (h : Go (a s O) fun p O1 => GMeth C me p O1 (Go (f s O1) fun ps O2 => Go (g s O2) fun zs O3 => (ps.length + 1 = n ∧ zs.length = k) ∧ GME X mf (gP (p :: ps) zs) O3 QP)) : GoE X (eMethK C me mf n k gP a f g s O) QP := goe_bind (h.mono fun _ _ ⟨ns, ps, e, e2, h⟩ => by
  simp only [e, e2, Option.isNone_none, and_self, if_true]
  exact goe_bind (h.mono fun _ _ h => goe_bind (h.mono fun _ _ h => by rw [if_pos h.1]; exact h.2)))
theorem goe_def {N : Nat} {body : SF} {s' : Slots} (e : ps.length = n) (e2 : ps.map some ++ List.replicate (N - n) none = s') (k : GoS { nx := fun _ O1 => QP .non O1, rt := QP, bk := fun _ _ => False, ct := fun _ _ => False, ex := fun e _ O1 => X e O1 } (body s' O)) : GoE X (mkDef n N body ps O) QP := by
  unfold mkDef
  rw [if_pos e, e2]
  cases q : body s' O <;> rw [q] at k <;> first | exact k | exact k.elim
theorem goe_toS {r : PR α} {h : α → Sto → SR} (k : GoE (fun e O1 => K.ex e s O1) r fun v O1 => GoS K (h v O1)) : GoS K (r.toS s h) := by
  cases r <;> first | exact k | exact k.elim
theorem gos_expE (k : GoE (fun e O1 => K.ex e s O1) (a s O) fun _ O1 => K.nx s O1) : GoS K (sExp a s O) := goe_toS k
theorem gos_retE (k : GoE (fun e O1 => K.ex e s O1) (a s O) K.rt) : GoS K (sRet a s O) := goe_toS k
theorem gos_asgE {i : Nat} (k : GoE (fun e O1 => K.ex e s O1) (a s O) fun p O1 => K.nx (s.set i (some p)) O1) : GoS K (sAsg a (gNm i) s O) := goe_toS (by
  cases e : a s O <;> rw [e] at k <;> exact k)
theorem gos_raise {C : Str} (k : K.ex ⟨.cls C, [], []⟩ s O) : GoS K (sRaiseP C s O) := k
def TryK (K : Ks) (i : Nat) (cm : Str → Option Bool) (fs : SF) (e : PExc) (s1 : Slots) (O1 : Sto) : Prop := ∃ C b, e.cls = .cls C ∧ cm C = some b ∧ if b = true then GoS { nx := fun s O => K.nx (s.set i none) O, rt := K.rt, bk := fun s O => K.bk (s.set i none) O, ct := fun s O => K.ct (s.set i none) O } (fs (s1.set i (some (.xc C e.ns e.ps))) O1) else K.ex e s1 O1
theorem gos_try {i : Nat} {cm : Str → Option Bool} {fb fs : SF} (k : GoS { K with ex := TryK K i cm fs } (fb s O)) : GoS K (sTryAs i cm fb fs s O) := by
  unfold sTryAs
  cases e : fb s O with
  | next s1 O1 => rw [e] at k; exact k
  | ret p O1 => rw [e] at k; exact k
  | brk s1 O1 => rw [e] at k; exact k
  | cnt s1 O1 => rw [e] at k; exact k
  | bad => rw [e] at k; exact k
  | exc x s1 O1 =>
    rw [e] at k
    obtain ⟨cls, ns, ps⟩ := x
    obtain ⟨C, b, ec, hc, k⟩ := k
    have ec : cls = .cls C := ec
    subst ec
    simp only [hc]
    cases b with
    | true =>
      simp only [if_true] at k
      show GoS K ((fs (s1.set i (some (.xc C ns ps))) O1).unset i)
      cases e2 : fs (s1.set i (some (.xc C ns ps))) O1 <;> rw [e2] at k <;> first | exact k | exact k.elim
    | false => exact k
def TryOK (K : Ks) (cm : Str → Option Bool) (fs : SF) (e : PExc) (s1 : Slots) (O1 : Sto) : Prop := ∃ C b, e.cls = .cls C ∧ cm C = some b ∧ if b = true then GoS { nx := K.nx, rt := K.rt, bk := K.bk, ct := K.ct } (fs s1 O1) else K.ex e s1 O1
theorem gos_tryO {cm : Str → Option Bool} {fb fs : SF} (k : GoS { K with ex := TryOK K cm fs } (fb s O)) : GoS K (sTryO cm fb fs s O) := by
  unfold sTryO
  cases e : fb s O with
  | next s1 O1 => rw [e] at k; exact k
  | ret p O1 => rw [e] at k; exact k
  | brk s1 O1 => rw [e] at k; exact k
  | cnt s1 O1 => rw [e] at k; exact k
  | bad => rw [e] at k; exact k
  | exc x s1 O1 =>
    rw [e] at k
    obtain ⟨cls, ns, ps⟩ := x
    obtain ⟨C, b, ec, hc, k⟩ := k
    have ec : cls = .cls C := ec
    subst ec
    simp only [hc]
    cases b with
    | true =>
      simp only [if_true] at k
      show GoS K ((fs s1 O1).noX)
      cases e2 : fs s1 O1 <;> rw [e2] at k <;> first | exact k | exact k.elim
    | false => exact k
theorem tryk {i : Nat} {cm : Str → Option Bool} {fs : SF} {C : Str} {ns : List Str} {s1 : Slots} {s2 : Slots} (hc : cm C = some true) (es : s1.set i (some (.xc C ns ps)) = s2) (k : GoS { nx := fun s O => K.nx (s.set i none) O, rt := K.rt, bk := fun s O => K.bk (s.set i none) O, ct := fun s O => K.ct (s.set i none) O } (fs s2 O1)) : TryK K i cm fs ⟨.cls C, ns, ps⟩ s1 O1 := ⟨C, true, rfl, hc, by rw [if_pos rfl]; subst es; exact k⟩
theorem tryok {cm : Str → Option Bool} {fs : SF} {C : Str} {ns : List Str} {s1 : Slots} (hc : cm C = some true) (k : GoS { nx := K.nx, rt := K.rt, bk := K.bk, ct := K.ct } (fs s1 O1)) : TryOK K cm fs ⟨.cls C, ns, ps⟩ s1 O1 := ⟨C, true, rfl, hc, by rw [if_pos rfl]; exact k⟩
/-! defs that don't raise -/
theorem go_noXM {m : List PV → Sto → PR α} (k : Go (m ps O) Q) : Go (noXM m ps O) Q := by
  unfold noXM
  cases e : m ps O <;> rw [e] at k <;> first | exact k | exact k.elim
theorem go_mkN {C : Str} {m : List PV → Sto → PR (List Str × List PV)} (k : Go (mkIns C (m ps O)) QP) : Go (mkIns C (noXM m ps O)) QP := by
  unfold noXM
  cases e : m ps O <;> rw [e] at k <;> first | exact k | exact k.elim
/-! isinstance and such -/
theorem go_isx {xt : List (Str × List XN)} {xa : List XN} {C : Str} {ns : List Str} {c : PV} {l : List XN} {w : XN} (e : xnOf c = some w) (e2 : xa.contains w = true) (e3 : xt.lookup C = some l) (k : QP (.bl (decide (w ∈ l))) O) : Go (isxP xt xa [.xc C ns ps, c] O) QP := by
  unfold isxP b2
  simp only [e, e2, if_true, e3]
  exact k
theorem go_isT {h : PV → List PV → Sto → PR PV} (k : Go (a s O) fun p O1 => Go (f s O1) fun ps O2 => szOk ps.length = true ∧ Go (h p ps O2) QP) : Go (eIsT h a f s O) QP := go_bind (k.mono fun _ _ h => go_bind (h.mono fun _ _ h => by rw [if_pos h.1]; exact h.2))
theorem go_countV {vs : List V} {v : V} (e : (lstOf O p).bind scVs = some vs) (e2 : scV q = some v) (k : QP (.int ((vs.countP fun z => eqV z v : Nat) : Int)) O) : Go (countP p [q] O) QP := by
  unfold countP
  simp only [e, e2]
  exact k
theorem go_indexV {vs : List V} {v : V} {j : Nat} (e : (lstOf O p).bind scVs = some vs) (e2 : scV q = some v) (e3 : (vs.findIdx? fun z => eqV z v) = some j) (k : QP (.int (j : Nat)) O) : Go (indexP p [q] O) QP := by
  unfold indexP
  simp only [e, e2, e3]
  exact k
theorem go_repL (e : lstT O p = some ps) (e2 : (decide (-(2 ^ 63) ≤ i ∧ i < 2 ^ 63) && szOk (ps.length * i.toNat)) = true) (e3 : (List.replicate i.toNat ps).flatten = qs) (k : QP (.lst qs) O) : Go (repL p (.int i) O) QP := by
  unfold repL
  simp only [e, e2, if_true, e3]
  exact k
theorem go_ixA_L (e : lstOf O p = some ps) (e2 : atI ps i = some r) (k : QP r O) : Go (ixA p (.int i) O) QP := by
  unfold ixA
  simp only [e]
  exact go_ixL e e2 k
theorem go_ixA_T (e2 : atI ps i = some r) (k : QP r O) : Go (ixA (.tup ps) (.int i) O) QP := go_ixT (O := O) e2 k
theorem go_dic0 (k : QP (.dic [] []) O) : Go (eDic0 s O) QP := k
/-! == of data -/
theorem go_eqDd {d d' : PyData} (e : toD O p = some d) (e2 : toD O q = some d') (e3 : (SeqAt.shaped d && SeqAt.shaped d') = true) (k : QP (.bl (PyData.eqv d d')) O) : Go (eqD p q O) QP := by
  unfold eqD
  simp only [e, e2, e3, if_true]
  exact k
theorem go_neDd {d d' : PyData} (e : toD O p = some d) (e2 : toD O q = some d') (e3 : (SeqAt.shaped d && SeqAt.shaped d') = true) (k : QP (.bl (!PyData.eqv d d')) O) : Go (neD p q O) QP := by
  unfold neD
  simp only [e, e2, e3, if_true]
  exact k
end
end Qx

/-! Own layer Qt: the pure walk of what Xi brings. -/
namespace Qx
open PySem PySem.Spec PyProof.Rows L2 Gx
section
variable {X : PExc → Sto → Prop} {QP : PV → Sto → Prop} {s : Slots} {O O1 : Sto} {p q r : PV} {ps qs : List PV} {a : EF} {f : AF} {K : Ks}
theorem gos_raiseI {C fl : Str} (k : Go (f s O) fun ps O1 => ∃ p, ps = [p] ∧ K.ex ⟨.cls C, [fl], [p]⟩ s O1) : GoS K (sRaiseI C fl f s O) := go_toS (k.mono fun ps O1 ⟨p, e, h⟩ => by subst e; exact h)
theorem go_xf {xf : List (Str × Str)} {fl : Str} (k : Go (a s O) fun p O1 => ∃ C ns ps q, p = .xc C ns ps ∧ (C, fl) ∈ xf ∧ (ns.zip ps).lookup fl = some q ∧ QP q O1) : Go (eXf xf fl a s O) QP := go_bind (k.mono fun p O1 ⟨C, ns, ps, q, e, h1, h2, h⟩ => by
  subst e
  simp only [h1, if_true, h2]
  exact h)
theorem go_revT (k : Go (a s O) fun p O1 => ∃ ps, p = .tup ps ∧ QP (.tup ps.reverse) O1) : Go (eRevT a s O) QP := go_bind (k.mono fun p O1 ⟨ps, e, h⟩ => by subst e; exact h)
theorem go_catA {rs : List PV} (e : szOk (ps.length + qs.length) = true) (e2 : ps ++ qs = rs) (k : QP (.tup rs) O) : Go (catA (.tup ps) (.tup qs) O) QP := by
  subst e2
  unfold catA
  simp only [e, if_true]
  exact k
theorem go_bLstO (e : seqOf O p = some ps) (k : QP (.loc O.length) (O ++ [some (.lst ps)])) : Go (bLstO [p] O) QP := by
  unfold bLstO b1
  simp only [e]
  exact k
end
end Qx

/-! Own layer Qu: walking texts, own str, repr, bool, == any, in of own things. -/
namespace Qx
open PySem PySem.Spec PyProof.Rows L2 Gx
section
variable {α : Type} {QP : PV → Sto → Prop} {s : Slots} {O O1 : Sto} {p q r : PV} {ps qs : List PV} {a b c : EF} {f g : AF} {C : Str} {m : MF} {z y i' j' : Str} {i j : Int}
theorem go_noX {r : PR α} {Q : α → Sto → Prop} (k : Go r Q) : Go (noX r) Q := by
  cases r <;> exact k
theorem go_otxt (e : insIs O C p = true) (k : Go (m [p] O) fun r O1 => ∃ z, r = .str z ∧ QP (.str z) O1) : Go (otxtP C m [p] O) QP := by
  unfold otxtP
  simp only
  rw [if_pos e]
  exact go_bind (go_noX (k.mono fun r O1 ⟨z, e, h⟩ => by subst e; exact h))
theorem g_z {F : Str → Prop} (k : F z) : ∃ z', PV.str z = .str z' ∧ F z' := ⟨z, rfl, k⟩
theorem go_fmtO (k : Go (a s O) fun p O1 => Go (otxtP C m [p] O1) QP) : Go (eFmtO C m a s O) QP := go_bind k
theorem go_fmtRO (k : Go (a s O) fun p O1 => insIs O1 C p = true ∧ Go (m [p] O1) fun r O2 => ∃ z, r = .str z ∧ z.length ≤ sizeLine ∧ QP (.str z) O2) : Go (eFmtRO C m a s O) QP := go_bind (k.mono fun p O1 h => by
  rw [if_pos h.1]
  exact go_bind (go_noX (h.2.mono fun r O2 ⟨z, e, h1, h2⟩ => by subst e; simp only; rw [if_pos h1]; exact h2)))
def GFmt (p : PV) (Q : Str → Prop) : Prop := match p with
  | .str z => z.length ≤ sizeLine ∧ Q z
  | .int i => i.natAbs.log2 < 1920 ∧ Q (toString i)
  | _ => False
theorem g_fmtS {Q : Str → Prop} (h : z.length ≤ sizeLine) (k : Q z) : GFmt (.str z) Q := ⟨h, k⟩
theorem g_fmtI {Q : Str → Prop} (h : i.natAbs.log2 < 1920) (k : Q (toString i)) : GFmt (.int i) Q := ⟨h, k⟩
theorem go_fmt (k : Go (a s O) fun p O1 => GFmt p fun z => QP (.str z) O1) : Go (eFmt a s O) QP := go_bind (k.mono fun p O1 h => by
  cases p <;> first | exact h.elim | (obtain ⟨h1, h2⟩ := h; simp only; rw [if_pos h1]; exact h2))
/-- the parts of an f-string -/
def GJ (fs : List EF) (acc : Str) (s : Slots) (O : Sto) (Q : Str → Sto → Prop) : Prop := Go (jsP fs acc s O) Q
theorem gj_nil {Q : Str → Sto → Prop} (k : Q z O) : GJ [] z s O Q := k
theorem gj_cons {Q : Str → Sto → Prop} {fs : List EF} (k : Go (a s O) fun p O1 => ∃ y, p = .str y ∧ (z ++ y).length ≤ sizeLine ∧ GJ fs (z ++ y) s O1 Q) : GJ (a :: fs) z s O Q := go_bind (k.mono fun p O1 ⟨y, e, h1, h2⟩ => by
  subst e
  simp only
  rw [if_pos h1]
  exact h2)
theorem go_js {fs : List EF} (k : GJ fs Str.empty s O fun z O1 => QP (.str z) O1) : Go (eJs fs s O) QP := go_bind k
theorem go_obool (e : insIs O C p = true) (k : Go (m [p] O) fun r O1 => ∃ n, r = .int n ∧ (0 ≤ n ∧ n < 2 ^ 63) ∧ QP (.bl (n != 0)) O1) : Go (oboolP C m [p] O) QP := by
  unfold oboolP
  simp only
  rw [if_pos e]
  exact go_bind (go_noX (k.mono fun r O1 ⟨n, e, h1, h2⟩ => by
    subst e
    simp only
    rw [if_pos (by rw [decide_eq_true h1.1, decide_eq_true h1.2]; rfl)]
    exact h2))
theorem go_boolR {n : Bool} {r : PR PV} (k : Go r fun p O1 => GB p fun b => QP (.bl (if n = true then !b else b)) O1) : Go (boolR n r) QP := go_bind (go_noX (k.mono fun p O1 ⟨b, e, h⟩ => by
  subst e
  cases n <;> exact h))
theorem go_oeqA {cs : List Str} {t : Sum String Str} (e : tyOf O q = some t) (e2 : (insIs O C p && (tyIn cs t && cs.contains C)) = true) (k : Go (m [p, q] O) fun r O1 => GB r fun b => QP (.bl b) O1) : Go (oeqA cs C m p q O) QP := by
  unfold oeqA
  simp only [e]
  rw [if_pos e2]
  exact go_boolR k
theorem go_oneA {cs : List Str} {t : Sum String Str} (e : tyOf O q = some t) (e2 : (insIs O C p && (tyIn cs t && cs.contains C)) = true) (k : Go (m [p, q] O) fun r O1 => GB r fun b => QP (.bl (!b)) O1) : Go (oneA cs C m p q O) QP := by
  unfold oneA
  simp only [e]
  rw [if_pos e2]
  exact go_boolR k
theorem go_strS (k : QP (.str z) O) : Go (bStrS [.str z] O) QP := k
theorem go_strI (h : i.natAbs.log2 < 1920) (k : QP (.str (toString i)) O) : Go (bStrI [.int i] O) QP := by
  unfold bStrI b1
  simp only
  rw [if_pos h]
  exact k
theorem go_addS (h : i'.length + j'.length ≤ 16777216) (k : QP (.str (i' ++ j')) O) : Go (addS (.str i') (.str j') O) QP := by
  unfold addS s2
  simp only
  rw [if_pos (show zOk _ = true from decide_eq_true h)]
  exact k
theorem nev_ints (ns ms : List Int) (O : Sto) : neD (.tup (ns.map .int)) (.tup (ms.map .int)) O = .ok (.bl (!decide (ns = ms))) O := by
  unfold neD toD
  simp only [toD0, toDL_ints, Option.map_some]
  rw [if_pos (by rw [shaped_ints, shaped_ints]; rfl)]
  congr 3
  exact eqvAll_ints ns ms
theorem go_neTI {ns ms : List Int} (e1 : ps = (ps.map unP).map .int) (e2 : qs = (qs.map unP).map .int) (e3 : ps.map unP = ns) (e4 : qs.map unP = ms) (k : QP (.bl (!decide (ns = ms))) O) : Go (neD (.tup ps) (.tup qs) O) QP := by
  subst e3
  subst e4
  have e := nev_ints (ps.map unP) (qs.map unP) O
  rw [← e1, ← e2] at e
  exact go_at e k
/-! the newest list of the store -/
theorem go_appN {ps' : List PV} (h : ps.length.ble 100000 = true) (e : ps ++ [q] = ps') (k : QP .non (O ++ [some (.lst ps')])) : Go (appendP (.loc O.length) [q] (O ++ [some (.lst ps)])) QP := by
  subst e
  refine go_append get_app (szl_le (Nat.le_of_ble_eq_true h)) ?_
  have e : (O ++ [some (PV.lst ps)]).set O.length (some (.lst (ps ++ [q]))) = O ++ [some (.lst (ps ++ [q]))] := by
    rw [List.set_append_right _ _ (Nat.le_refl _)]
    simp
  rw [e]
  exact k
theorem g_itN {F : List PV → Option (Nat × List PV) → Prop} (k : F ps (some (O.length, ps))) : ∃ ps' g, itemsOf (O ++ [some (.lst ps)]) (.loc O.length) = some (ps', g) ∧ F ps' g := ⟨ps, some (O.length, ps), by
  unfold itemsOf
  simp only [get_app], k⟩
theorem comp_nilg {gd : Option (Nat × List PV)} {tgt : GF} {t : TF} {e : EF} {s0 : Slots} {acc : List PV} {F : List PV → Sto → Prop} (hg : grd gd O) (k : F acc O) : ∃ ps O2, compL gd tgt t e s0 [] acc O = .ok ps O2 ∧ F ps O2 := ⟨acc, O, by unfold compL; rw [chk_grd hg], k⟩
theorem comp_one1g {gd : Option (Nat × List PV)} {tgt : GF} {e : EF} {s0 : Slots} {items acc : List PV} {F : List PV → Sto → Prop} (hg : grd gd O) (hl : acc.length.ble 100000 = true) (k : Go (tgt p s0 O) fun s1 O1 => Go (e s1 O1) fun q O' => GAcc (acc ++ [q]) fun acc' => ∃ ps O2, compL gd tgt tYesP e s0 items acc' O' = .ok ps O2 ∧ F ps O2) : ∃ ps O2, compL gd tgt tYesP e s0 (p :: items) acc O = .ok ps O2 ∧ F ps O2 := by
  obtain ⟨s1, O1, e1, h2⟩ := k.ex
  obtain ⟨q, O3, e3, h4⟩ := h2.ex
  obtain ⟨ps, O2, e5, h6⟩ := h4
  refine ⟨ps, O2, ?_, h6⟩
  unfold compL
  rw [chk_grd hg, e1]
  simp only [PR.bind, tYesP, if_true]
  rw [e3]
  simp only
  rw [if_pos (szl_le (Nat.le_of_ble_eq_true hl))]
  exact e5
theorem go_neSame {d : PyData} (e : toD O p = some d) (e3 : (SeqAt.shaped d && SeqAt.shaped d) = true) (e4 : PyData.eqv d d = true) (k : QP (.bl false) O) : Go (neD p p O) QP := by
  refine go_neDd e e e3 ?_
  rw [e4]
  exact k
theorem go_bms {h : PV → List PV → Sto → PR PV} (k : Go (a s O) fun p O1 => isStr p = true ∧ Go (f s O1) fun ps O2 => Go (h p ps O2) QP) : Go (eBms h a f s O) QP := go_bind (k.mono fun _ _ ⟨e, h⟩ => by rw [if_pos e]; exact go_bind h)
theorem go_bms0 {h : PV → List PV → Sto → PR PV} (k : Go (a s O) fun p O1 => isStr p = true ∧ Go (h p [] O1) QP) : Go (eBms0 h a s O) QP := go_bind (k.mono fun _ _ ⟨e, h⟩ => by rw [if_pos e]; exact h)
theorem g_str {F : Str → Prop} (k : F z) : ∃ y, PV.str z = .str y ∧ F y := ⟨z, rfl, k⟩
theorem go_join {ys : List Str} (e : (seqOf O p).bind strsOf = some ys) (h : (ys.map (·.length)).sum + ys.length * z.length ≤ 16777216) (k : QP (.str (Txt.join z ys)) O) : Go (joinP (.str z) [p] O) QP := by
  unfold joinP
  simp only [e]
  rw [if_pos (decide_eq_true h)]
  exact k
theorem seq_new {ps : List PV} : seqOf (O ++ [some (.lst ps)]) (.loc O.length) = some ps := by
  have e : lstOf (O ++ [some (PV.lst ps)]) (.loc O.length) = some ps := lst_loc get_app
  unfold seqOf
  rw [e]
theorem go_joinN {ps : List PV} {ys : List Str} (e : strsOf ps = some ys) (h : (ys.map (·.length)).sum + ys.length * z.length ≤ 16777216) (k : QP (.str (Txt.join z ys)) (O ++ [some (.lst ps)])) : Go (joinP (.str z) [.loc O.length] (O ++ [some (.lst ps)])) QP := go_join (by rw [seq_new]; exact e) h k
theorem go_split (h : (i'.length == 0) = false) (h2 : z.length + 2 ≤ 16777216) (k : QP (.lst (strsP (Txt.split z i'))) O) : Go (splitP (.str z) [.str i'] O) QP := by
  unfold splitP m1S s2
  simp only
  rw [if_pos (by rw [h]; exact decide_eq_true h2)]
  exact k
theorem go_part (h : (i'.length == 0) = false) (h2 : z.length ≤ 16777216) (k : QP (.tup [.str (Txt.partition z i').1, .str (Txt.partition z i').2.1, .str (Txt.partition z i').2.2]) O) : Go (partP (.str z) [.str i'] O) QP := by
  unfold partP m1S s2
  simp only
  rw [if_pos (by rw [h]; exact decide_eq_true h2)]
  exact k
theorem go_lenS (h : z.length ≤ 16777216) (k : QP (.int z.length) O) : Go (bLenS [.str z] O) QP := by
  unfold bLenS b1
  simp only
  rw [if_pos (show zOk _ = true from decide_eq_true h)]
  exact k
theorem Fr.tr {O O' O'' : Sto} (b : Fr O' O'') (a : Fr O O') : Fr O O'' := a.trans b
theorem zl_emp : Str.empty.length = 0 := rfl
theorem join_1 (z x : Str) : Txt.join z [x] = x := rfl
theorem join_2 (z x y : Str) : Txt.join z [x, y] = x ++ z ++ y := rfl
theorem zl_app (a b : Str) : (a ++ b).length = a.length + b.length := Array.size_append
theorem go_iZ {QI : ItP → Sto → Prop} (k : Go (f s O) fun ps O1 => ∃ p q xs ys, ps = [p, q] ∧ frL p = some xs ∧ frL q = some ys ∧ QI (zipP xs ys, none) O1) : Go (iZ f s O) QI := go_bind (k.mono fun ps O1 ⟨p, q, xs, ys, e, e1, e2, h⟩ => by
  subst e
  simp only [e1, e2]
  exact h)
theorem g_iz {F : List PV → List PV → Prop} {xs ys : List PV} (e1 : frL p = some xs) (e2 : frL q = some ys) (k : F xs ys) : ∃ p' q' xs ys, [p, q] = [p', q'] ∧ frL p' = some xs ∧ frL q' = some ys ∧ F xs ys := ⟨p, q, xs, ys, rfl, e1, e2, k⟩
/-! while -/
theorem go_while {K : Ks} {c : TF} {b : SF} (J : Slots → Sto → Prop) (μ : Slots → Sto → Nat) (h0 : J s O)
    (hs : ∀ s O, J s O → Go (c s O) fun k O1 => if k = true then GoS { K with nx := fun s2 O2 => J s2 O2 ∧ μ s2 O2 < μ s O, ct := fun s2 O2 => J s2 O2 ∧ μ s2 O2 < μ s O, bk := K.nx } (b s O1) else K.nx s O1) : GoS K (sWhile c b s O) := by
  have main : ∀ (n : Nat) (s : Slots) (O : Sto), J s O → μ s O < n → GoS K (whileN c b n s O) := by
    intro n
    induction n with
    | zero => intro s O _ h; omega
    | succ n ih =>
      intro s O hJ hn
      unfold whileN
      refine go_toS ((hs s O hJ).mono fun k O1 h1 => ?_)
      cases k with
      | false => exact h1
      | true =>
        simp only [if_true] at h1 ⊢
        cases e : b s O1 with
        | next s2 O2 => rw [e] at h1; exact ih s2 O2 h1.1 (by have := h1.2; omega)
        | cnt s2 O2 => rw [e] at h1; exact ih s2 O2 h1.1 (by have := h1.2; omega)
        | brk s2 O2 => rw [e] at h1; exact h1
        | ret p O2 => rw [e] at h1; exact h1
        | exc x s2 O2 => rw [e] at h1; exact h1
        | bad => rw [e] at h1; exact h1
  have h := main (μ s O + 1) s O h0 (Nat.lt_succ_self _)
  have hb : isBad (whileN c b (μ s O + 1) s O) = false := by
    cases e : whileN c b (μ s O + 1) s O <;> first | rfl | (rw [e] at h; exact h.elim)
  rw [while_at hb]
  exact h
theorem go_callT {tab : List (Str × MF)} {n : Nat} (e : s[n]? = some (some (.cls C))) (e2 : tab.lookup C = some m) (k : Go (f s O) fun ps O1 => Go (m ps O1) QP) : Go (eCallT tab n f s O) QP := by
  unfold eCallT
  rw [e]
  simp only
  rw [e2]
  exact go_bind k
theorem go_inKd {T : Str} {kvs : List (Str × PV)} {n b : Bool} (e : (kvs.lookup z).isSome = b) (k : QP (.bl (if n then !b else b)) O) : Go (inKd T kvs n (.str z) (.cls T) O) QP := by
  subst e
  unfold inKd
  simp only [decide_true, if_true]
  exact k
theorem go_ixKd {T : Str} {kvs : List (Str × PV)} (e : kvs.lookup z = some r) (k : QP r O) : Go (ixKd T kvs (.cls T) (.str z) O) QP := by
  unfold ixKd
  simp only [decide_true, if_true, e]
  exact k
/-! x in a list of own things -/
theorem inO_nil {cs : List Str} {n : Bool} (k : QP (.bl n) O) : Go (inOP cs C m n p [] O) QP := k
theorem inO_non {cs : List Str} {n : Bool} (e : insIs O C p = true) (e2 : m [p, .non] O = .ok (.bl false) O) (k : Go (inOP cs C m n p qs O) QP) : Go (inOP cs C m n p (.non :: qs) O) QP := by
  unfold inOP
  rw [if_pos rfl, if_pos ⟨e, e2⟩]
  exact k
theorem inO_yes {cs : List Str} {n : Bool} (e : okT cs C O p = true) (e1 : insIs O C q = true) (e2 : m [q, p] O = .ok (.bl true) O) (k : QP (.bl (!n)) O) : Go (inOP cs C m n p (q :: qs) O) QP := by
  unfold inOP
  rw [if_neg (fun z => by subst z; cases e1), if_pos ⟨⟨e, e1⟩, e2⟩]
  exact k
theorem inO_no {cs : List Str} {n : Bool} (e : okT cs C O p = true) (e1 : insIs O C q = true) (e2 : m [q, p] O = .ok (.bl false) O) (e3 : sureN C O q p) (k : Go (inOP cs C m n p qs O) QP) : Go (inOP cs C m n p (q :: qs) O) QP := by
  unfold inOP
  rw [if_neg (fun z => by subst z; cases e1), if_neg (fun z => by rw [e2] at z; cases z.2), if_pos ⟨⟨e, e1⟩, e2, e3⟩]
  exact k
theorem go_inOL {cs : List Str} {n : Bool} (k : Go (inOP cs C m n p qs O) QP) : Go (inOL cs C m n p (.lst qs) O) QP := k
end
end Qx

/-! Own layer Qv: walk rules of Xs; lists of pairs of whole numbers. -/
namespace Qx
open PySem PySem.Spec PyProof.Rows L2 Gx
section
variable {s : Slots} {O O1 : Sto} {p q r : PV} {ps qs : List PV} {a b : EF} {f g : AF} {QP : PV → Sto → Prop} {QA : List PV → Sto → Prop}
/-! what is walked: a list or a tuple -/
theorem go_iAt {QI : ItP → Sto → Prop} (k : Go (a s O) fun p O1 => ∃ ps g, (match tupOf p with | some ps => some (ps, none) | none => itemsOf O1 p) = some (ps, g) ∧ QI (ps, g) O1) : Go (iA a s O) QI := by
  refine go_bind (k.mono fun p O1 ⟨ps, g, e, h⟩ => ?_)
  cases e1 : tupOf p with
  | some qs =>
    simp only [e1, Option.some.injEq, Prod.mk.injEq] at e
    obtain ⟨rfl, rfl⟩ := e
    exact h
  | none =>
    simp only [e1] at e
    have k2 := go_iLx (a := fun _ O => .ok p O) (s := s) (O := O1) (QI := QI) ⟨ps, g, e, h⟩
    exact k2
theorem g_at {F : List PV → Option (Nat × List PV) → Prop} (k : F ps none) : ∃ qs g, (match tupOf (.tup ps) with | some qs => some (qs, none) | none => itemsOf O (.tup ps)) = some (qs, g) ∧ F qs g := ⟨ps, none, rfl, k⟩
theorem g_al {F : List PV → Option (Nat × List PV) → Prop} (k : F ps none) : ∃ qs g, (match tupOf (.lst ps) with | some qs => some (qs, none) | none => itemsOf O (.lst ps)) = some (qs, g) ∧ F qs g := ⟨ps, none, rfl, k⟩
/-! pairs -/
theorem prsOf_map : ∀ zs : List (Int × Int), prsOf (zs.map prP) = some zs
  | [] => rfl
  | z :: zs => by
    rw [List.map_cons]
    unfold prsOf
    rw [prsOf_map zs]
    rfl
theorem go_sort2 {zs : List (Int × Int)} (e : lstOf O p = some (zs.map prP)) (k : QP (.lst ((zs.mergeSort leP).map prP)) O) : Go (bSort2 [p] O) QP := by
  unfold bSort2 b1
  simp only [e, prsOf_map]
  exact k
theorem go_revLs (k : Go (a s O) fun p O1 => ∃ ps, lstOf O1 p = some ps ∧ QP (.lst ps.reverse) O1) : Go (eRevLs a s O) QP := go_bind (k.mono fun p O1 ⟨ps, e, h⟩ => by simp only [e]; exact h)
theorem go_isBB {b c : Bool} (k : QP (.bl (decide (b = c))) O) : Go (isB (.bl b) (.bl c) O) QP := k
theorem go_notBB {b c : Bool} (k : QP (.bl (!decide (b = c))) O) : Go (notB (.bl b) (.bl c) O) QP := k
theorem go_makeKO {C : Str} {m : MF} {gP : List PV → List PV → List PV} {n k : Nat} (h : Go (f s O) fun ps O1 => Go (g s O1) fun zs O2 => (ps.length = n ∧ zs.length = k) ∧ GMo m C (gP ps zs) O2 QP) : Go (eMakeKO C m n k gP f g s O) QP := go_bind (h.mono fun ps O1 h => go_bind (h.mono fun zs O2 h => by
  rw [if_pos h.1]
  exact go_bind (go_noX (Go.mono h.2 fun r O3 ⟨e, h3⟩ => by subst e; exact h3))))
theorem go_lstRg2O (k : Go (a s O) fun p O1 => Go (b s O1) fun q O2 => ∃ i j, p = .int i ∧ q = .int j ∧ rgD i j = true ∧ QP (.loc O2.length) (O2 ++ [some (.lst (rgL i (j - i).toNat))])) : Go (eLstRg2O a b s O) QP := go_bind (k.mono fun p O1 h => go_bind (h.mono fun q O2 ⟨i, j, e1, e2, e3, hh⟩ => by
  subst e1
  subst e2
  simp only [e3, if_true]
  exact hh))
theorem go_lstRg2 (k : Go (a s O) fun p O1 => Go (b s O1) fun q O2 => ∃ i j, p = .int i ∧ q = .int j ∧ rgD i j = true ∧ QP (.lst (rgL i (j - i).toNat)) O2) : Go (eLstRg2 a b s O) QP := go_bind (k.mono fun p O1 h => go_bind (h.mono fun q O2 ⟨i, j, e1, e2, e3, hh⟩ => by
  subst e1
  subst e2
  simp only [e3, if_true]
  exact hh))
/-! a list of pairs as data -/
def dP (z : Int × Int) : PyData := .tuple [.int z.1, .int z.2]
theorem toDL_prs : ∀ zs : List (Int × Int), toDL (zs.map prP) = some (zs.map dP)
  | [] => by simp [toDL]
  | z :: zs => by simp only [List.map_cons, toDL, toDL_prs zs]; rfl
theorem canLay_prs : ∀ zs : List (Int × Int), PyData.canLayAll0 (zs.map dP) = true
  | [] => rfl
  | z :: zs => by
    show (PyData.canLay0 (dP z) && PyData.canLayAll0 (zs.map dP)) = true
    rw [canLay_prs zs]
    rfl
theorem depth_dP (z : Int × Int) : (dP z).depth = 1 := by
  obtain ⟨i, j⟩ := z
  rfl
theorem depthAll_prs : ∀ zs : List (Int × Int), PyData.depthAll (zs.map dP) ≤ 2
  | [] => by simp [PyData.depthAll]
  | z :: zs => by
    have h := depthAll_prs zs
    have h1 := depth_dP z
    simp only [List.map_cons, PyData.depthAll]
    omega
theorem shapedT_prs {zs : List (Int × Int)} : SeqAt.shaped (.tuple (zs.map dP)) = true := by
  unfold SeqAt.shaped
  have h := depthAll_prs zs
  rw [decide_eq_true (by simp only [PyData.depth]; omega), Bool.and_true]
  show PyData.canLayAll0 _ = true
  exact canLay_prs zs
theorem shapedL_prs {zs : List (Int × Int)} : SeqAt.shaped (.list (zs.map dP)) = true := by
  unfold SeqAt.shaped
  have h := depthAll_prs zs
  rw [decide_eq_true (by simp only [PyData.depth]; omega), Bool.and_true]
  show PyData.canLayAll0 _ = true
  exact canLay_prs zs
theorem eqv_prs : ∀ zs ws : List (Int × Int), PyData.eqvAll (zs.map dP) (ws.map dP) = decide (zs = ws)
  | [], [] => rfl
  | [], w :: ws => by rw [decide_eq_false (by simp)]; rfl
  | z :: zs, [] => by rw [decide_eq_false (by simp)]; rfl
  | (a, b) :: zs, (c, d) :: ws => by
    show (PyData.eqv (dP (a, b)) (dP (c, d)) && PyData.eqvAll (zs.map dP) (ws.map dP)) = _
    rw [eqv_prs zs ws]
    have e : PyData.eqv (dP (a, b)) (dP (c, d)) = decide ([a, b] = [c, d]) := eqvAll_ints [a, b] [c, d]
    rw [e, ← Bool.decide_and, decide_eq_decide]
    simp
theorem toD_lst {zs : List (Int × Int)} (e : lstT O p = some (zs.map prP)) : toD O p = some (.list (zs.map dP)) := by
  unfold lstT at e
  split at e
  · cases e
    show (toDL (zs.map prP)).map PyData.list = _
    rw [toDL_prs]
    rfl
  · split at e
    · rename_i n ps h
      cases e
      simp only [toD, h, toDL_prs, Option.map_some]
    · cases e
  · cases e
theorem go_eqPT {zs ws : List (Int × Int)} (k : QP (.bl (decide (zs = ws))) O) : Go (eqD (.tup (zs.map prP)) (.tup (ws.map prP)) O) QP := by
  unfold eqD toD
  simp only [toD0, toDL_prs, Option.map_some]
  rw [if_pos (by rw [shapedT_prs, shapedT_prs]; rfl)]
  rw [show PyData.eqv (.tuple (zs.map dP)) (.tuple (ws.map dP)) = decide (zs = ws) from eqv_prs zs ws]
  exact k
theorem go_eqPL {zs ws : List (Int × Int)} (e1 : lstT O p = some (zs.map prP)) (e2 : lstT O q = some (ws.map prP)) (k : QP (.bl (decide (zs = ws))) O) : Go (eqD p q O) QP := by
  unfold eqD
  rw [toD_lst e1, toD_lst e2]
  simp only
  rw [if_pos (by rw [shapedL_prs, shapedL_prs]; rfl)]
  rw [show PyData.eqv (.list (zs.map dP)) (.list (ws.map dP)) = decide (zs = ws) from eqv_prs zs ws]
  exact k
theorem go_nePL {zs ws : List (Int × Int)} (e1 : lstT O p = some (zs.map prP)) (e2 : lstT O q = some (ws.map prP)) (k : QP (.bl (!decide (zs = ws))) O) : Go (neD p q O) QP := by
  unfold neD
  rw [toD_lst e1, toD_lst e2]
  simp only
  rw [if_pos (by rw [shapedL_prs, shapedL_prs]; rfl)]
  rw [show PyData.eqv (.list (zs.map dP)) (.list (ws.map dP)) = decide (zs = ws) from eqv_prs zs ws]
  exact k
/-! the last item -/
theorem ixN_last {n : Nat} : ixN (n + 1) (-1) = some n := by
  unfold ixN
  simp
  omega
theorem atI_last {ps : List PV} {q : PV} : atI (ps ++ [q]) (-1) = some q := by
  unfold atI
  rw [List.length_append, List.length_cons, List.length_nil, ixN_last]
  simp
/-! try with several clauses -/
def TryH (K : Ks) (C : Str) (ns : List Str) (ps : List PV) (s : Slots) (O : Sto) : List (Nat × (Str → Option Bool) × SF) → Prop
  | [] => K.ex ⟨.cls C, ns, ps⟩ s O
  | (i, cm, fs) :: r => ∃ b, cm C = some b ∧ if b = true then GoS { nx := fun s O => K.nx (s.set i none) O, rt := K.rt, bk := fun s O => K.bk (s.set i none) O, ct := fun s O => K.ct (s.set i none) O } (fs (s.set i (some (.xc C ns ps))) O) else TryH K C ns ps s O r
def TryM (K : Ks) (hs : List (Nat × (Str → Option Bool) × SF)) (e : PExc) (s : Slots) (O : Sto) : Prop := ∃ C, e.cls = .cls C ∧ TryH K C e.ns e.ps s O hs
theorem gos_tryH {K : Ks} {C : Str} {ns : List Str} {ps : List PV} {s : Slots} {O : Sto} : ∀ {hs : List (Nat × (Str → Option Bool) × SF)}, TryH K C ns ps s O hs → GoS K (tryH C ns ps s O hs)
  | [], h => h
  | (i, cm, fs) :: r, ⟨b, hc, h⟩ => by
    unfold tryH
    rw [hc]
    cases b with
    | false => exact gos_tryH (hs := r) h
    | true =>
      show GoS K ((fs (s.set i (some (.xc C ns ps))) O).unset i)
      have h : GoS { nx := fun s O => K.nx (s.set i none) O, rt := K.rt, bk := fun s O => K.bk (s.set i none) O, ct := fun s O => K.ct (s.set i none) O } (fs (s.set i (some (.xc C ns ps))) O) := h
      cases e2 : fs (s.set i (some (.xc C ns ps))) O <;> rw [e2] at h <;> first | exact h | exact h.elim
theorem gos_tryM {K : Ks} {hs : List (Nat × (Str → Option Bool) × SF)} {fb : SF} {s : Slots} {O : Sto} (k : GoS { K with ex := TryM K hs } (fb s O)) : GoS K (sTryM hs fb s O) := by
  unfold sTryM
  cases e : fb s O with
  | next s1 O1 => rw [e] at k; exact k
  | ret p O1 => rw [e] at k; exact k
  | brk s1 O1 => rw [e] at k; exact k
  | cnt s1 O1 => rw [e] at k; exact k
  | bad => rw [e] at k; exact k
  | exc x s1 O1 =>
    rw [e] at k
    obtain ⟨cls, ns, ps⟩ := x
    obtain ⟨C, ec, k⟩ := k
    have ec : cls = .cls C := ec
    subst ec
    exact gos_tryH k
theorem goe_callTX1 {X : PExc → Sto → Prop} {C : Str} {m : MF} {tab : List (Str × Bool × MF)} {n : Nat} {s : Slots} {O : Sto} {f : AF} {QP : PV → Sto → Prop} (e : s[n]? = some (some (.cls C))) (e2 : tab.lookup C = some (true, m)) (k : Go (f s O) fun ps O1 => GME X m ps O1 QP) : GoE X (eCallTX tab n f s O) QP := by
  unfold eCallTX
  simp only [e, e2]
  exact goe_bind k
theorem goe_callTX0 {X : PExc → Sto → Prop} {C : Str} {m : MF} {tab : List (Str × Bool × MF)} {n : Nat} {s : Slots} {O : Sto} {f : AF} {QP : PV → Sto → Prop} (e : s[n]? = some (some (.cls C))) (e2 : tab.lookup C = some (false, m)) (k : Go (f s O) fun ps O1 => Go (m ps O1) QP) : GoE X (eCallTX tab n f s O) QP := by
  unfold eCallTX
  simp only [e, e2]
  exact goe_bind (k.mono fun ps O1 h => goe_go (go_noX h))
end
end Qx

namespace Hd
open PySem PySem.Spec PyProof.Rows L2

structure Tx (w : World) (K : PySem.W.Frag) (mg : Str → Option Value) : Prop where
  h : ∃ (h : Heap), K.In h ∧ h.Ns mainGlobals mg ∧ He.SaysX fa fn tabs [] ex w h K
section
variable {w : World} {K : PySem.W.Frag} {mg : Str → Option Value}
theorem Tx.g__law_cell (T : Tx w K mg) : mg "_law_cell" = some (.ref (He.fAd K d__law_cell.at_)) := by obtain ⟨h, X, G, c⟩ := T.h; exact He.glo_ok X G (c.t.d.fact 0 (f := .glo "_law_cell") rfl)
theorem Tx.g__law_purse (T : Tx w K mg) : mg "_law_purse" = some (.ref (He.fAd K d__law_purse.at_)) := by obtain ⟨h, X, G, c⟩ := T.h; exact He.glo_ok X G (c.t.d.fact 1 (f := .glo "_law_purse") rfl)
theorem Tx.g__law_take (T : Tx w K mg) : mg "_law_take" = some (.ref (He.fAd K d__law_take.at_)) := by obtain ⟨h, X, G, c⟩ := T.h; exact He.glo_ok X G (c.t.d.fact 2 (f := .glo "_law_take") rfl)
theorem Tx.g__law_measure (T : Tx w K mg) : mg "_law_measure" = some (.ref (He.fAd K d__law_measure.at_)) := by obtain ⟨h, X, G, c⟩ := T.h; exact He.glo_ok X G (c.t.d.fact 3 (f := .glo "_law_measure") rfl)
theorem Tx.g__law_edge (T : Tx w K mg) : mg "_law_edge" = some (.ref (He.fAd K d__law_edge.at_)) := by obtain ⟨h, X, G, c⟩ := T.h; exact He.glo_ok X G (c.t.d.fact 4 (f := .glo "_law_edge") rfl)
theorem Tx.g__law_counted (T : Tx w K mg) : mg "_law_counted" = some (.ref (He.fAd K d__law_counted.at_)) := by obtain ⟨h, X, G, c⟩ := T.h; exact He.glo_ok X G (c.t.d.fact 5 (f := .glo "_law_counted") rfl)
theorem Tx.g__law_doubles (T : Tx w K mg) : mg "_law_doubles" = some (.ref (He.fAd K d__law_doubles.at_)) := by obtain ⟨h, X, G, c⟩ := T.h; exact He.glo_ok X G (c.t.d.fact 6 (f := .glo "_law_doubles") rfl)
theorem Tx.g__law_tell (T : Tx w K mg) : mg "_law_tell" = some (.ref (He.fAd K d__law_tell.at_)) := by obtain ⟨h, X, G, c⟩ := T.h; exact He.glo_ok X G (c.t.d.fact 7 (f := .glo "_law_tell") rfl)
theorem Tx.g__law_due (T : Tx w K mg) : mg "_law_due" = some (.ref (He.fAd K d__law_due.at_)) := by obtain ⟨h, X, G, c⟩ := T.h; exact He.glo_ok X G (c.t.d.fact 8 (f := .glo "_law_due") rfl)
theorem Tx.g_is_way (T : Tx w K mg) : mg "is_way" = some (.ref (He.fAd K d_is_way.at_)) := by obtain ⟨h, X, G, c⟩ := T.h; exact He.glo_ok X G (c.t.d.fact 9 (f := .glo "is_way") rfl)
theorem Tx.g_check_way (T : Tx w K mg) : mg "check_way" = some (.ref (He.fAd K d_check_way.at_)) := by obtain ⟨h, X, G, c⟩ := T.h; exact He.glo_ok X G (c.t.d.fact 10 (f := .glo "check_way") rfl)
theorem Tx.g_is_measure (T : Tx w K mg) : mg "is_measure" = some (.ref (He.fAd K d_is_measure.at_)) := by obtain ⟨h, X, G, c⟩ := T.h; exact He.glo_ok X G (c.t.d.fact 11 (f := .glo "is_measure") rfl)
theorem Tx.g_check_measure (T : Tx w K mg) : mg "check_measure" = some (.ref (He.fAd K d_check_measure.at_)) := by obtain ⟨h, X, G, c⟩ := T.h; exact He.glo_ok X G (c.t.d.fact 12 (f := .glo "check_measure") rfl)
theorem Tx.g_by_parts (T : Tx w K mg) : mg "by_parts" = some (.ref (He.fAd K d_by_parts.at_)) := by obtain ⟨h, X, G, c⟩ := T.h; exact He.glo_ok X G (c.t.d.fact 13 (f := .glo "by_parts") rfl)
theorem Tx.g_minus_of (T : Tx w K mg) : mg "minus_of" = some (.ref (He.fAd K d_minus_of.at_)) := by obtain ⟨h, X, G, c⟩ := T.h; exact He.glo_ok X G (c.t.d.fact 14 (f := .glo "minus_of") rfl)
theorem Tx.g_by_inches (T : Tx w K mg) : mg "by_inches" = some (.ref (He.fAd K d_by_inches.at_)) := by obtain ⟨h, X, G, c⟩ := T.h; exact He.glo_ok X G (c.t.d.fact 15 (f := .glo "by_inches") rfl)
theorem Tx.g_doubled (T : Tx w K mg) : mg "doubled" = some (.ref (He.fAd K d_doubled.at_)) := by obtain ⟨h, X, G, c⟩ := T.h; exact He.glo_ok X G (c.t.d.fact 16 (f := .glo "doubled") rfl)
theorem Tx.g_by_halves (T : Tx w K mg) : mg "by_halves" = some (.ref (He.fAd K d_by_halves.at_)) := by obtain ⟨h, X, G, c⟩ := T.h; exact He.glo_ok X G (c.t.d.fact 17 (f := .glo "by_halves") rfl)
theorem Tx.g_counted (T : Tx w K mg) : mg "counted" = some (.ref (He.fAd K d_counted.at_)) := by obtain ⟨h, X, G, c⟩ := T.h; exact He.glo_ok X G (c.t.d.fact 18 (f := .glo "counted") rfl)
theorem Tx.g_by_words (T : Tx w K mg) : mg "by_words" = some (.ref (He.fAd K d_by_words.at_)) := by obtain ⟨h, X, G, c⟩ := T.h; exact He.glo_ok X G (c.t.d.fact 19 (f := .glo "by_words") rfl)
theorem Tx.g_shown (T : Tx w K mg) : mg "shown" = some (.ref (He.fAd K d_shown.at_)) := by obtain ⟨h, X, G, c⟩ := T.h; exact He.glo_ok X G (c.t.d.fact 20 (f := .glo "shown") rfl)
theorem Tx.g_tell (T : Tx w K mg) : mg "tell" = some (.ref (He.fAd K d_tell.at_)) := by obtain ⟨h, X, G, c⟩ := T.h; exact He.glo_ok X G (c.t.d.fact 21 (f := .glo "tell") rfl)
theorem Tx.g__law_sort (T : Tx w K mg) : mg "_law_sort" = some (.ref (He.fAd K d__law_sort.at_)) := by obtain ⟨h, X, G, c⟩ := T.h; exact He.glo_ok X G (c.t.d.fact 22 (f := .glo "_law_sort") rfl)
theorem Tx.g__law_told (T : Tx w K mg) : mg "_law_told" = some (.ref (He.fAd K d__law_told.at_)) := by obtain ⟨h, X, G, c⟩ := T.h; exact He.glo_ok X G (c.t.d.fact 23 (f := .glo "_law_told") rfl)
theorem Tx.g__law_plain (T : Tx w K mg) : mg "_law_plain" = some (.ref (He.fAd K d__law_plain.at_)) := by obtain ⟨h, X, G, c⟩ := T.h; exact He.glo_ok X G (c.t.d.fact 24 (f := .glo "_law_plain") rfl)
theorem Tx.g__law_same (T : Tx w K mg) : mg "_law_same" = some (.ref (He.fAd K d__law_same.at_)) := by obtain ⟨h, X, G, c⟩ := T.h; exact He.glo_ok X G (c.t.d.fact 25 (f := .glo "_law_same") rfl)
theorem Tx.g__law_right (T : Tx w K mg) : mg "_law_right" = some (.ref (He.fAd K d__law_right.at_)) := by obtain ⟨h, X, G, c⟩ := T.h; exact He.glo_ok X G (c.t.d.fact 26 (f := .glo "_law_right") rfl)
theorem Tx.g_law (T : Tx w K mg) : mg "law" = some (.ref (He.fAd K d_law.at_)) := by obtain ⟨h, X, G, c⟩ := T.h; exact He.glo_ok X G (c.t.d.fact 27 (f := .glo "law") rfl)
theorem Tx.g_FitError (T : Tx w K mg) : mg "FitError" = some (.ref (He.ga K "FitError")) := by obtain ⟨h, X, G, c⟩ := T.h; exact He.glo_ok X G (c.t.d.fact 28 (f := .glo "FitError") rfl)
theorem Tx.g_NoMeasure (T : Tx w K mg) : mg "NoMeasure" = some (.ref (He.ga K "NoMeasure")) := by obtain ⟨h, X, G, c⟩ := T.h; exact He.glo_ok X G (c.t.d.fact 29 (f := .glo "NoMeasure") rfl)
theorem Tx.g_NoAllowance (T : Tx w K mg) : mg "NoAllowance" = some (.ref (He.ga K "NoAllowance")) := by obtain ⟨h, X, G, c⟩ := T.h; exact He.glo_ok X G (c.t.d.fact 30 (f := .glo "NoAllowance") rfl)
theorem Tx.g_NoSpan (T : Tx w K mg) : mg "NoSpan" = some (.ref (He.ga K "NoSpan")) := by obtain ⟨h, X, G, c⟩ := T.h; exact He.glo_ok X G (c.t.d.fact 31 (f := .glo "NoSpan") rfl)
theorem Tx.g_NoLimits (T : Tx w K mg) : mg "NoLimits" = some (.ref (He.ga K "NoLimits")) := by obtain ⟨h, X, G, c⟩ := T.h; exact He.glo_ok X G (c.t.d.fact 32 (f := .glo "NoLimits") rfl)
theorem Tx.g_NoOption (T : Tx w K mg) : mg "NoOption" = some (.ref (He.ga K "NoOption")) := by obtain ⟨h, X, G, c⟩ := T.h; exact He.glo_ok X G (c.t.d.fact 33 (f := .glo "NoOption") rfl)
theorem Tx.g_NoNew (T : Tx w K mg) : mg "NoNew" = some (.ref (He.ga K "NoNew")) := by obtain ⟨h, X, G, c⟩ := T.h; exact He.glo_ok X G (c.t.d.fact 34 (f := .glo "NoNew") rfl)
theorem Tx.g_NoDrawing (T : Tx w K mg) : mg "NoDrawing" = some (.ref (He.ga K "NoDrawing")) := by obtain ⟨h, X, G, c⟩ := T.h; exact He.glo_ok X G (c.t.d.fact 35 (f := .glo "NoDrawing") rfl)
theorem Tx.g_NoWants (T : Tx w K mg) : mg "NoWants" = some (.ref (He.ga K "NoWants")) := by obtain ⟨h, X, G, c⟩ := T.h; exact He.glo_ok X G (c.t.d.fact 36 (f := .glo "NoWants") rfl)
theorem Tx.g_NoZeros (T : Tx w K mg) : mg "NoZeros" = some (.ref (He.ga K "NoZeros")) := by obtain ⟨h, X, G, c⟩ := T.h; exact He.glo_ok X G (c.t.d.fact 37 (f := .glo "NoZeros") rfl)
theorem Tx.g_NoSieve (T : Tx w K mg) : mg "NoSieve" = some (.ref (He.ga K "NoSieve")) := by obtain ⟨h, X, G, c⟩ := T.h; exact He.glo_ok X G (c.t.d.fact 38 (f := .glo "NoSieve") rfl)
theorem Tx.g_NoTray (T : Tx w K mg) : mg "NoTray" = some (.ref (He.ga K "NoTray")) := by obtain ⟨h, X, G, c⟩ := T.h; exact He.glo_ok X G (c.t.d.fact 39 (f := .glo "NoTray") rfl)
theorem Tx.g_NoRow (T : Tx w K mg) : mg "NoRow" = some (.ref (He.ga K "NoRow")) := by obtain ⟨h, X, G, c⟩ := T.h; exact He.glo_ok X G (c.t.d.fact 40 (f := .glo "NoRow") rfl)
theorem Tx.g_ReadError (T : Tx w K mg) : mg "ReadError" = some (.ref (He.ga K "ReadError")) := by obtain ⟨h, X, G, c⟩ := T.h; exact He.glo_ok X G (c.t.d.fact 41 (f := .glo "ReadError") rfl)
theorem Tx.g_NoWord (T : Tx w K mg) : mg "NoWord" = some (.ref (He.ga K "NoWord")) := by obtain ⟨h, X, G, c⟩ := T.h; exact He.glo_ok X G (c.t.d.fact 42 (f := .glo "NoWord") rfl)
theorem Tx.g_NoLine (T : Tx w K mg) : mg "NoLine" = some (.ref (He.ga K "NoLine")) := by obtain ⟨h, X, G, c⟩ := T.h; exact He.glo_ok X G (c.t.d.fact 43 (f := .glo "NoLine") rfl)
theorem Tx.g_MissError (T : Tx w K mg) : mg "MissError" = some (.ref (He.ga K "MissError")) := by obtain ⟨h, X, G, c⟩ := T.h; exact He.glo_ok X G (c.t.d.fact 44 (f := .glo "MissError") rfl)
theorem Tx.g_NoName (T : Tx w K mg) : mg "NoName" = some (.ref (He.ga K "NoName")) := by obtain ⟨h, X, G, c⟩ := T.h; exact He.glo_ok X G (c.t.d.fact 45 (f := .glo "NoName") rfl)
theorem Tx.g_NoPlace (T : Tx w K mg) : mg "NoPlace" = some (.ref (He.ga K "NoPlace")) := by obtain ⟨h, X, G, c⟩ := T.h; exact He.glo_ok X G (c.t.d.fact 46 (f := .glo "NoPlace") rfl)
theorem Tx.g_RoomError (T : Tx w K mg) : mg "RoomError" = some (.ref (He.ga K "RoomError")) := by obtain ⟨h, X, G, c⟩ := T.h; exact He.glo_ok X G (c.t.d.fact 47 (f := .glo "RoomError") rfl)
theorem Tx.g_TooLong (T : Tx w K mg) : mg "TooLong" = some (.ref (He.ga K "TooLong")) := by obtain ⟨h, X, G, c⟩ := T.h; exact He.glo_ok X G (c.t.d.fact 48 (f := .glo "TooLong") rfl)
theorem Tx.f_len (T : Tx w K mg) : mg "len" = none := by obtain ⟨h, X, G, c⟩ := T.h; exact He.free_ok X G (c.t.d.fact 49 (f := .free "len") rfl)
theorem Tx.f_sum (T : Tx w K mg) : mg "sum" = none := by obtain ⟨h, X, G, c⟩ := T.h; exact He.free_ok X G (c.t.d.fact 50 (f := .free "sum") rfl)
theorem Tx.f_abs (T : Tx w K mg) : mg "abs" = none := by obtain ⟨h, X, G, c⟩ := T.h; exact He.free_ok X G (c.t.d.fact 51 (f := .free "abs") rfl)
theorem Tx.f_int (T : Tx w K mg) : mg "int" = none := by obtain ⟨h, X, G, c⟩ := T.h; exact He.free_ok X G (c.t.d.fact 52 (f := .free "int") rfl)
theorem Tx.f_str (T : Tx w K mg) : mg "str" = none := by obtain ⟨h, X, G, c⟩ := T.h; exact He.free_ok X G (c.t.d.fact 53 (f := .free "str") rfl)
theorem Tx.f_isinstance (T : Tx w K mg) : mg "isinstance" = none := by obtain ⟨h, X, G, c⟩ := T.h; exact He.free_ok X G (c.t.d.fact 54 (f := .free "isinstance") rfl)
theorem Tx.f_bool (T : Tx w K mg) : mg "bool" = none := by obtain ⟨h, X, G, c⟩ := T.h; exact He.free_ok X G (c.t.d.fact 55 (f := .free "bool") rfl)
theorem Tx.f_divmod (T : Tx w K mg) : mg "divmod" = none := by obtain ⟨h, X, G, c⟩ := T.h; exact He.free_ok X G (c.t.d.fact 56 (f := .free "divmod") rfl)
theorem Tx.f_ValueError (T : Tx w K mg) : mg "ValueError" = none := by obtain ⟨h, X, G, c⟩ := T.h; exact He.free_ok X G (c.t.d.fact 57 (f := .free "ValueError") rfl)
theorem Tx.f_LookupError (T : Tx w K mg) : mg "LookupError" = none := by obtain ⟨h, X, G, c⟩ := T.h; exact He.free_ok X G (c.t.d.fact 58 (f := .free "LookupError") rfl)
theorem Tx.f_ArithmeticError (T : Tx w K mg) : mg "ArithmeticError" = none := by obtain ⟨h, X, G, c⟩ := T.h; exact He.free_ok X G (c.t.d.fact 59 (f := .free "ArithmeticError") rfl)
theorem Tx.f_list (T : Tx w K mg) : mg "list" = none := by obtain ⟨h, X, G, c⟩ := T.h; exact He.free_ok X G (c.t.d.fact 60 (f := .free "list") rfl)
theorem Tx.f_all (T : Tx w K mg) : mg "all" = none := by obtain ⟨h, X, G, c⟩ := T.h; exact He.free_ok X G (c.t.d.fact 61 (f := .free "all") rfl)
theorem Tx.f_range (T : Tx w K mg) : mg "range" = none := by obtain ⟨h, X, G, c⟩ := T.h; exact He.free_ok X G (c.t.d.fact 62 (f := .free "range") rfl)
theorem Tx.f_max (T : Tx w K mg) : mg "max" = none := by obtain ⟨h, X, G, c⟩ := T.h; exact He.free_ok X G (c.t.d.fact 63 (f := .free "max") rfl)
theorem Tx.f_min (T : Tx w K mg) : mg "min" = none := by obtain ⟨h, X, G, c⟩ := T.h; exact He.free_ok X G (c.t.d.fact 64 (f := .free "min") rfl)
theorem Tx.i_INCH (T : Tx w K mg) : ∃ t, mg "INCH" = some (.int (64) t) := by obtain ⟨h, X, G, c⟩ := T.h; exact He.int_ok X G (c.t.d.fact 65 (f := .int "INCH" (64)) rfl)
theorem Tx.i_MOST_BY_WORDS (T : Tx w K mg) : ∃ t, mg "MOST_BY_WORDS" = some (.int (100) t) := by obtain ⟨h, X, G, c⟩ := T.h; exact He.int_ok X G (c.t.d.fact 66 (f := .int "MOST_BY_WORDS" (100)) rfl)
theorem Tx.g_COUNTS (T : Tx w K mg) : mg "COUNTS" = some (.ref (He.ga K "COUNTS")) := by obtain ⟨h, X, G, c⟩ := T.h; exact He.glo_ok X G (c.t.d.fact 67 (f := .glo "COUNTS") rfl)
theorem Tx.g_SHARES (T : Tx w K mg) : mg "SHARES" = some (.ref (He.ga K "SHARES")) := by obtain ⟨h, X, G, c⟩ := T.h; exact He.glo_ok X G (c.t.d.fact 68 (f := .glo "SHARES") rfl)
theorem Tx.g_TELLERS (T : Tx w K mg) : mg "TELLERS" = some (.ref (He.ga K "TELLERS")) := by obtain ⟨h, X, G, c⟩ := T.h; exact He.glo_ok X G (c.t.d.fact 69 (f := .glo "TELLERS") rfl)
theorem Tx.g_TENS (T : Tx w K mg) : mg "TENS" = some (.ref (He.ga K "TENS")) := by obtain ⟨h, X, G, c⟩ := T.h; exact He.glo_ok X G (c.t.d.fact 70 (f := .glo "TENS") rfl)
theorem Tx.mt_NoOption___init__ (T : Tx w K mg) : Meth K (He.ga K "NoOption") "__init__" (He.fAd K d_NoOption___init__.at_) := by obtain ⟨h, X, G, c⟩ := T.h; exact He.meth_ok (c.t.d.fact 71 (f := .meth "NoOption" "__init__") rfl)
theorem Tx.mt_TooLong___init__ (T : Tx w K mg) : Meth K (He.ga K "TooLong") "__init__" (He.fAd K d_TooLong___init__.at_) := by obtain ⟨h, X, G, c⟩ := T.h; exact He.meth_ok (c.t.d.fact 72 (f := .meth "TooLong" "__init__") rfl)
theorem Tx.df__law_cell (T : Tx w K mg) : ∃ fd, FunD K d__law_cell.name d__law_cell.qual d__law_cell.params d__law_cell.body d__law_cell.scope (d__law_cell.dvs K) (d__law_cell.kws K) (He.fAd K d__law_cell.at_) fd := by obtain ⟨h, X, G, c⟩ := T.h; exact c.t.d.def_ 0 (d := d__law_cell) rfl
theorem Tx.df__law_purse (T : Tx w K mg) : ∃ fd, FunD K d__law_purse.name d__law_purse.qual d__law_purse.params d__law_purse.body d__law_purse.scope (d__law_purse.dvs K) (d__law_purse.kws K) (He.fAd K d__law_purse.at_) fd := by obtain ⟨h, X, G, c⟩ := T.h; exact c.t.d.def_ 1 (d := d__law_purse) rfl
theorem Tx.df__law_take (T : Tx w K mg) : ∃ fd, FunD K d__law_take.name d__law_take.qual d__law_take.params d__law_take.body d__law_take.scope (d__law_take.dvs K) (d__law_take.kws K) (He.fAd K d__law_take.at_) fd := by obtain ⟨h, X, G, c⟩ := T.h; exact c.t.d.def_ 2 (d := d__law_take) rfl
theorem Tx.df__law_measure (T : Tx w K mg) : ∃ fd, FunD K d__law_measure.name d__law_measure.qual d__law_measure.params d__law_measure.body d__law_measure.scope (d__law_measure.dvs K) (d__law_measure.kws K) (He.fAd K d__law_measure.at_) fd := by obtain ⟨h, X, G, c⟩ := T.h; exact c.t.d.def_ 3 (d := d__law_measure) rfl
theorem Tx.df__law_edge (T : Tx w K mg) : ∃ fd, FunD K d__law_edge.name d__law_edge.qual d__law_edge.params d__law_edge.body d__law_edge.scope (d__law_edge.dvs K) (d__law_edge.kws K) (He.fAd K d__law_edge.at_) fd := by obtain ⟨h, X, G, c⟩ := T.h; exact c.t.d.def_ 4 (d := d__law_edge) rfl
theorem Tx.df__law_counted (T : Tx w K mg) : ∃ fd, FunD K d__law_counted.name d__law_counted.qual d__law_counted.params d__law_counted.body d__law_counted.scope (d__law_counted.dvs K) (d__law_counted.kws K) (He.fAd K d__law_counted.at_) fd := by obtain ⟨h, X, G, c⟩ := T.h; exact c.t.d.def_ 5 (d := d__law_counted) rfl
theorem Tx.df__law_doubles (T : Tx w K mg) : ∃ fd, FunD K d__law_doubles.name d__law_doubles.qual d__law_doubles.params d__law_doubles.body d__law_doubles.scope (d__law_doubles.dvs K) (d__law_doubles.kws K) (He.fAd K d__law_doubles.at_) fd := by obtain ⟨h, X, G, c⟩ := T.h; exact c.t.d.def_ 6 (d := d__law_doubles) rfl
theorem Tx.df__law_tell (T : Tx w K mg) : ∃ fd, FunD K d__law_tell.name d__law_tell.qual d__law_tell.params d__law_tell.body d__law_tell.scope (d__law_tell.dvs K) (d__law_tell.kws K) (He.fAd K d__law_tell.at_) fd := by obtain ⟨h, X, G, c⟩ := T.h; exact c.t.d.def_ 7 (d := d__law_tell) rfl
theorem Tx.df__law_due (T : Tx w K mg) : ∃ fd, FunD K d__law_due.name d__law_due.qual d__law_due.params d__law_due.body d__law_due.scope (d__law_due.dvs K) (d__law_due.kws K) (He.fAd K d__law_due.at_) fd := by obtain ⟨h, X, G, c⟩ := T.h; exact c.t.d.def_ 8 (d := d__law_due) rfl
theorem Tx.df_is_way (T : Tx w K mg) : ∃ fd, FunD K d_is_way.name d_is_way.qual d_is_way.params d_is_way.body d_is_way.scope (d_is_way.dvs K) (d_is_way.kws K) (He.fAd K d_is_way.at_) fd := by obtain ⟨h, X, G, c⟩ := T.h; exact c.t.d.def_ 9 (d := d_is_way) rfl
theorem Tx.df_NoOption___init__ (T : Tx w K mg) : ∃ fd, FunD K d_NoOption___init__.name d_NoOption___init__.qual d_NoOption___init__.params d_NoOption___init__.body d_NoOption___init__.scope (d_NoOption___init__.dvs K) (d_NoOption___init__.kws K) (He.fAd K d_NoOption___init__.at_) fd := by obtain ⟨h, X, G, c⟩ := T.h; exact c.t.d.def_ 10 (d := d_NoOption___init__) rfl
theorem Tx.df_check_way (T : Tx w K mg) : ∃ fd, FunD K d_check_way.name d_check_way.qual d_check_way.params d_check_way.body d_check_way.scope (d_check_way.dvs K) (d_check_way.kws K) (He.fAd K d_check_way.at_) fd := by obtain ⟨h, X, G, c⟩ := T.h; exact c.t.d.def_ 11 (d := d_check_way) rfl
theorem Tx.df_is_measure (T : Tx w K mg) : ∃ fd, FunD K d_is_measure.name d_is_measure.qual d_is_measure.params d_is_measure.body d_is_measure.scope (d_is_measure.dvs K) (d_is_measure.kws K) (He.fAd K d_is_measure.at_) fd := by obtain ⟨h, X, G, c⟩ := T.h; exact c.t.d.def_ 12 (d := d_is_measure) rfl
theorem Tx.df_check_measure (T : Tx w K mg) : ∃ fd, FunD K d_check_measure.name d_check_measure.qual d_check_measure.params d_check_measure.body d_check_measure.scope (d_check_measure.dvs K) (d_check_measure.kws K) (He.fAd K d_check_measure.at_) fd := by obtain ⟨h, X, G, c⟩ := T.h; exact c.t.d.def_ 13 (d := d_check_measure) rfl
theorem Tx.df_by_parts (T : Tx w K mg) : ∃ fd, FunD K d_by_parts.name d_by_parts.qual d_by_parts.params d_by_parts.body d_by_parts.scope (d_by_parts.dvs K) (d_by_parts.kws K) (He.fAd K d_by_parts.at_) fd := by obtain ⟨h, X, G, c⟩ := T.h; exact c.t.d.def_ 14 (d := d_by_parts) rfl
theorem Tx.df_minus_of (T : Tx w K mg) : ∃ fd, FunD K d_minus_of.name d_minus_of.qual d_minus_of.params d_minus_of.body d_minus_of.scope (d_minus_of.dvs K) (d_minus_of.kws K) (He.fAd K d_minus_of.at_) fd := by obtain ⟨h, X, G, c⟩ := T.h; exact c.t.d.def_ 15 (d := d_minus_of) rfl
theorem Tx.df_by_inches (T : Tx w K mg) : ∃ fd, FunD K d_by_inches.name d_by_inches.qual d_by_inches.params d_by_inches.body d_by_inches.scope (d_by_inches.dvs K) (d_by_inches.kws K) (He.fAd K d_by_inches.at_) fd := by obtain ⟨h, X, G, c⟩ := T.h; exact c.t.d.def_ 16 (d := d_by_inches) rfl
theorem Tx.df_doubled (T : Tx w K mg) : ∃ fd, FunD K d_doubled.name d_doubled.qual d_doubled.params d_doubled.body d_doubled.scope (d_doubled.dvs K) (d_doubled.kws K) (He.fAd K d_doubled.at_) fd := by obtain ⟨h, X, G, c⟩ := T.h; exact c.t.d.def_ 17 (d := d_doubled) rfl
theorem Tx.df_by_halves (T : Tx w K mg) : ∃ fd, FunD K d_by_halves.name d_by_halves.qual d_by_halves.params d_by_halves.body d_by_halves.scope (d_by_halves.dvs K) (d_by_halves.kws K) (He.fAd K d_by_halves.at_) fd := by obtain ⟨h, X, G, c⟩ := T.h; exact c.t.d.def_ 18 (d := d_by_halves) rfl
theorem Tx.df_TooLong___init__ (T : Tx w K mg) : ∃ fd, FunD K d_TooLong___init__.name d_TooLong___init__.qual d_TooLong___init__.params d_TooLong___init__.body d_TooLong___init__.scope (d_TooLong___init__.dvs K) (d_TooLong___init__.kws K) (He.fAd K d_TooLong___init__.at_) fd := by obtain ⟨h, X, G, c⟩ := T.h; exact c.t.d.def_ 19 (d := d_TooLong___init__) rfl
theorem Tx.df_counted (T : Tx w K mg) : ∃ fd, FunD K d_counted.name d_counted.qual d_counted.params d_counted.body d_counted.scope (d_counted.dvs K) (d_counted.kws K) (He.fAd K d_counted.at_) fd := by obtain ⟨h, X, G, c⟩ := T.h; exact c.t.d.def_ 20 (d := d_counted) rfl
theorem Tx.df_by_words (T : Tx w K mg) : ∃ fd, FunD K d_by_words.name d_by_words.qual d_by_words.params d_by_words.body d_by_words.scope (d_by_words.dvs K) (d_by_words.kws K) (He.fAd K d_by_words.at_) fd := by obtain ⟨h, X, G, c⟩ := T.h; exact c.t.d.def_ 21 (d := d_by_words) rfl
theorem Tx.df_shown (T : Tx w K mg) : ∃ fd, FunD K d_shown.name d_shown.qual d_shown.params d_shown.body d_shown.scope (d_shown.dvs K) (d_shown.kws K) (He.fAd K d_shown.at_) fd := by obtain ⟨h, X, G, c⟩ := T.h; exact c.t.d.def_ 22 (d := d_shown) rfl
theorem Tx.df_tell (T : Tx w K mg) : ∃ fd, FunD K d_tell.name d_tell.qual d_tell.params d_tell.body d_tell.scope (d_tell.dvs K) (d_tell.kws K) (He.fAd K d_tell.at_) fd := by obtain ⟨h, X, G, c⟩ := T.h; exact c.t.d.def_ 23 (d := d_tell) rfl
theorem Tx.df__law_sort (T : Tx w K mg) : ∃ fd, FunD K d__law_sort.name d__law_sort.qual d__law_sort.params d__law_sort.body d__law_sort.scope (d__law_sort.dvs K) (d__law_sort.kws K) (He.fAd K d__law_sort.at_) fd := by obtain ⟨h, X, G, c⟩ := T.h; exact c.t.d.def_ 24 (d := d__law_sort) rfl
theorem Tx.df__law_told (T : Tx w K mg) : ∃ fd, FunD K d__law_told.name d__law_told.qual d__law_told.params d__law_told.body d__law_told.scope (d__law_told.dvs K) (d__law_told.kws K) (He.fAd K d__law_told.at_) fd := by obtain ⟨h, X, G, c⟩ := T.h; exact c.t.d.def_ 25 (d := d__law_told) rfl
theorem Tx.df__law_plain (T : Tx w K mg) : ∃ fd, FunD K d__law_plain.name d__law_plain.qual d__law_plain.params d__law_plain.body d__law_plain.scope (d__law_plain.dvs K) (d__law_plain.kws K) (He.fAd K d__law_plain.at_) fd := by obtain ⟨h, X, G, c⟩ := T.h; exact c.t.d.def_ 26 (d := d__law_plain) rfl
theorem Tx.df__law_same (T : Tx w K mg) : ∃ fd, FunD K d__law_same.name d__law_same.qual d__law_same.params d__law_same.body d__law_same.scope (d__law_same.dvs K) (d__law_same.kws K) (He.fAd K d__law_same.at_) fd := by obtain ⟨h, X, G, c⟩ := T.h; exact c.t.d.def_ 27 (d := d__law_same) rfl
theorem Tx.df__law_right (T : Tx w K mg) : ∃ fd, FunD K d__law_right.name d__law_right.qual d__law_right.params d__law_right.body d__law_right.scope (d__law_right.dvs K) (d__law_right.kws K) (He.fAd K d__law_right.at_) fd := by obtain ⟨h, X, G, c⟩ := T.h; exact c.t.d.def_ 28 (d := d__law_right) rfl
theorem Tx.df_law (T : Tx w K mg) : ∃ fd, FunD K d_law.name d_law.qual d_law.params d_law.body d_law.scope (d_law.dvs K) (d_law.kws K) (He.fAd K d_law.at_) fd := by obtain ⟨h, X, G, c⟩ := T.h; exact c.t.d.def_ 29 (d := d_law) rfl
theorem Tx.ex (T : Tx w K mg) : ex K = true := by obtain ⟨h, X, G, c⟩ := T.h; exact c.more
theorem Tx.clsK (T : Tx w K mg) : Qx.ClsK K [] := Qx.ClsK.of (He.ba T.ex).1 fun C h => by
  cases h
theorem Tx.xk (T : Tx w K mg) : Qx.XkK K [("NoMeasure", [.own "NoMeasure", .own "FitError", .blt "ValueError", .blt "Exception", .blt "BaseException"]), ("NoOption", [.own "NoOption", .own "FitError", .blt "ValueError", .blt "Exception", .blt "BaseException"]), ("TooLong", [.own "TooLong", .own "RoomError", .blt "ArithmeticError", .blt "Exception", .blt "BaseException"])] [.blt "ArithmeticError", .blt "LookupError", .blt "ValueError", .own "FitError", .own "MissError", .own "NoAllowance", .own "NoDrawing", .own "NoLimits", .own "NoLine", .own "NoMeasure", .own "NoName", .own "NoNew", .own "NoOption", .own "NoPlace", .own "NoRow", .own "NoSieve", .own "NoSpan", .own "NoTray", .own "NoWants", .own "NoWord", .own "NoZeros", .own "ReadError", .own "RoomError", .own "TooLong"] [.own "FitError", .own "MissError", .own "RoomError"] := Qx.XkK.of (He.ba (He.ba T.ex).2).1
theorem Tx.xc_NoMeasure (T : Tx w K mg) : Qx.XcF K "NoMeasure" := T.xk.c _ (List.mem_cons_self)
theorem Tx.xc_NoOption (T : Tx w K mg) : Qx.XcF K "NoOption" := T.xk.c _ (List.mem_cons_of_mem _ (List.mem_cons_self))
theorem Tx.xc_TooLong (T : Tx w K mg) : Qx.XcF K "TooLong" := T.xk.c _ (List.mem_cons_of_mem _ (List.mem_cons_of_mem _ (List.mem_cons_self)))
theorem Tx.xi_NoOption (T : Tx w K mg) : Qx.XiC K "NoOption" "FitError" "option" := Qx.xiB_ok (He.ba (He.ba (He.ba (He.ba T.ex).2).2).2).1
theorem Tx.xi_TooLong (T : Tx w K mg) : Qx.XiG Qx.ebA K "TooLong" "RoomError" "measure" := Qx.xiGB_ok (He.ba (He.ba (He.ba (He.ba (He.ba T.ex).2).2).2).2).1
theorem Tx.xfk (T : Tx w K mg) : Qx.XfK K [("TooLong", "measure")] := ⟨fun w h => by
  simp only [List.mem_cons, List.not_mem_nil, or_false] at h
  rcases h with rfl
  · exact T.xc_TooLong, fun w h => by
  simp only [List.mem_cons, List.not_mem_nil, or_false] at h
  rcases h with rfl
  · exact T.xi_TooLong.no⟩
theorem Tx.xq_NoMeasure (T : Tx w K mg) : PySem.W.excIn K (He.ga K "NoMeasure") [.type "ValueError", .type "Exception", .type "BaseException", .type "object"] "ValueError.__new__" = true := (He.ba (He.ba (He.ba T.ex).2).2).1
theorem Tx.k_COUNTS (T : Tx w K mg) : ∀ ι G, Qx.Rep K ι G (Qx.KV.pv kc_COUNTS) (.ref (He.ga K "COUNTS")) := Qx.kG_ok (He.ba (He.ba (He.ba (He.ba (He.ba (He.ba T.ex).2).2).2).2).2).1 rfl
theorem Tx.k_SHARES (T : Tx w K mg) : ∀ ι G, Qx.Rep K ι G (Qx.KV.pv kc_SHARES) (.ref (He.ga K "SHARES")) := Qx.kG_ok (He.ba (He.ba (He.ba (He.ba (He.ba (He.ba (He.ba T.ex).2).2).2).2).2).2).1 rfl
theorem Tx.k_TENS (T : Tx w K mg) : ∀ ι G, Qx.Rep K ι G (Qx.KV.pv kc_TENS) (.ref (He.ga K "TENS")) := Qx.kG_ok (He.ba (He.ba (He.ba (He.ba (He.ba (He.ba (He.ba (He.ba T.ex).2).2).2).2).2).2).2).1 rfl
theorem Tx.kd_TELLERS (T : Tx w K mg) : Qx.KdF K w "TELLERS" (kt_TELLERS.map fun q => (q.1, q.2.pv)) := by
  have b := (He.ba (He.ba (He.ba (He.ba (He.ba (He.ba (He.ba (He.ba T.ex).2).2).2).2).2).2).2).2
  obtain ⟨h, X, G, c⟩ := T.h
  exact Qx.KdF.of (Qx.dicW_at c.t 0 rfl) b rfl rfl

end
theorem b__law_cell : Gx.BdN d__law_cell ["_law_script", "_law_k"] := ⟨rfl, fun _ _ _ _ _ _ us hl => match us, hl with | [_, _], _ => rfl⟩
theorem b__law_purse : Gx.BdN d__law_purse ["_law_cell_here"] := ⟨rfl, fun _ _ _ _ _ _ us hl => match us, hl with | [_], _ => rfl⟩
theorem b__law_take : Gx.BdN d__law_take ["_law_purse_here", "_law_many"] := ⟨rfl, fun _ _ _ _ _ _ us hl => match us, hl with | [_, _], _ => rfl⟩
theorem b__law_measure : Gx.BdN d__law_measure ["_law_purse_here"] := ⟨rfl, fun _ _ _ _ _ _ us hl => match us, hl with | [_], _ => rfl⟩
theorem b__law_edge : Gx.BdN d__law_edge ["_law_purse_here"] := ⟨rfl, fun _ _ _ _ _ _ us hl => match us, hl with | [_], _ => rfl⟩
theorem b__law_counted : Gx.BdN d__law_counted ["_law_whole"] := ⟨rfl, fun _ _ _ _ _ _ us hl => match us, hl with | [_], _ => rfl⟩
theorem b__law_doubles : Gx.BdN d__law_doubles ["_law_number"] := ⟨rfl, fun _ _ _ _ _ _ us hl => match us, hl with | [_], _ => rfl⟩
theorem b__law_tell : Gx.BdN d__law_tell ["_law_wide", "_law_mode"] := ⟨rfl, fun _ _ _ _ _ _ us hl => match us, hl with | [_, _], _ => rfl⟩
theorem b__law_due : Gx.BdN d__law_due ["_law_size", "_law_mode"] := ⟨rfl, fun _ _ _ _ _ _ us hl => match us, hl with | [_, _], _ => rfl⟩
theorem b_is_way : Gx.BdN d_is_way ["thing"] := ⟨rfl, fun _ _ _ _ _ _ us hl => match us, hl with | [_], _ => rfl⟩
theorem b_NoOption___init__ : Gx.BdN d_NoOption___init__ ["self", "option"] := ⟨rfl, fun _ _ _ _ _ _ us hl => match us, hl with | [_, _], _ => rfl⟩
theorem b_check_way : Gx.BdN d_check_way ["way"] := ⟨rfl, fun _ _ _ _ _ _ us hl => match us, hl with | [_], _ => rfl⟩
theorem b_is_measure : Gx.BdN d_is_measure ["thing"] := ⟨rfl, fun _ _ _ _ _ _ us hl => match us, hl with | [_], _ => rfl⟩
theorem b_check_measure : Gx.BdN d_check_measure ["thing"] := ⟨rfl, fun _ _ _ _ _ _ us hl => match us, hl with | [_], _ => rfl⟩
theorem b_by_parts : Gx.BdN d_by_parts ["measure"] := ⟨rfl, fun _ _ _ _ _ _ us hl => match us, hl with | [_], _ => rfl⟩
theorem b_minus_of : Gx.BdN d_minus_of ["measure"] := ⟨rfl, fun _ _ _ _ _ _ us hl => match us, hl with | [_], _ => rfl⟩
theorem b_by_inches : Gx.BdN d_by_inches ["measure"] := ⟨rfl, fun _ _ _ _ _ _ us hl => match us, hl with | [_], _ => rfl⟩
theorem b_doubled : Gx.BdN d_doubled ["number"] := ⟨rfl, fun _ _ _ _ _ _ us hl => match us, hl with | [_], _ => rfl⟩
theorem b_by_halves : Gx.BdN d_by_halves ["measure"] := ⟨rfl, fun _ _ _ _ _ _ us hl => match us, hl with | [_], _ => rfl⟩
theorem b_TooLong___init__ : Gx.BdN d_TooLong___init__ ["self", "measure"] := ⟨rfl, fun _ _ _ _ _ _ us hl => match us, hl with | [_, _], _ => rfl⟩
theorem b_counted : Gx.BdN d_counted ["whole"] := ⟨rfl, fun _ _ _ _ _ _ us hl => match us, hl with | [_], _ => rfl⟩
theorem b_by_words : Gx.BdN d_by_words ["measure"] := ⟨rfl, fun _ _ _ _ _ _ us hl => match us, hl with | [_], _ => rfl⟩
theorem b_shown : Gx.BdN d_shown ["measure", "way"] := ⟨rfl, fun _ _ _ _ _ _ us hl => match us, hl with | [_, _], _ => rfl⟩
theorem b__law_sort : Gx.BdN d__law_sort ["_law_e"] := ⟨rfl, fun _ _ _ _ _ _ us hl => match us, hl with | [_], _ => rfl⟩
theorem b__law_told : Gx.BdN d__law_told ["_law_size", "_law_mode", "_law_how"] := ⟨rfl, fun _ _ _ _ _ _ us hl => match us, hl with | [_, _, _], _ => rfl⟩
theorem b__law_plain : Gx.BdN d__law_plain ["_law_thing"] := ⟨rfl, fun _ _ _ _ _ _ us hl => match us, hl with | [_], _ => rfl⟩
theorem b__law_same : Gx.BdN d__law_same ["_law_told_here", "_law_due_here"] := ⟨rfl, fun _ _ _ _ _ _ us hl => match us, hl with | [_, _], _ => rfl⟩
theorem b__law_right : Gx.BdN d__law_right ["_law_purse_here"] := ⟨rfl, fun _ _ _ _ _ _ us hl => match us, hl with | [_], _ => rfl⟩
theorem b_law : Gx.BdN d_law ["_law_script"] := ⟨rfl, fun _ _ _ _ _ _ us hl => match us, hl with | [_], _ => rfl⟩
end Hd
namespace Qg
open PySem PySem.Spec PyProof.Rows L2 Gx Qx
def cs : List Str := []
def c_COUNTS : PV := .tup [.str "nothing", .str "one", .str "two", .str "three", .str "four", .str "five", .str "six", .str "seven", .str "eight", .str "nine", .str "ten", .str "eleven", .str "twelve", .str "thirteen", .str "fourteen", .str "fifteen", .str "sixteen", .str "seventeen", .str "eighteen", .str "nineteen"]
def c_SHARES : PV := .tup [.tup [.str "a", .str "half"], .tup [.str "a", .str "quarter"], .tup [.str "an", .str "eighth"], .tup [.str "a", .str "sixteenth"], .tup [.str "a", .str "thirtysecond"], .tup [.str "a", .str "sixtyfourth"]]
def c_TENS : PV := .tup [.str "twenty", .str "thirty", .str "forty", .str "fifty", .str "sixty", .str "seventy", .str "eighty", .str "ninety"]
def t_TELLERS : List (Str × PV) := [("parts", .cls "by_parts"), ("inches", .cls "by_inches"), ("halves", .cls "by_halves"), ("words", .cls "by_words")]
def xt : List (Str × List XN) := [("NoMeasure", [.own "NoMeasure", .own "FitError", .blt "ValueError", .blt "Exception", .blt "BaseException"]), ("NoOption", [.own "NoOption", .own "FitError", .blt "ValueError", .blt "Exception", .blt "BaseException"]), ("TooLong", [.own "TooLong", .own "RoomError", .blt "ArithmeticError", .blt "Exception", .blt "BaseException"])]
def xa : List XN := [.blt "ArithmeticError", .blt "LookupError", .blt "ValueError", .own "FitError", .own "MissError", .own "NoAllowance", .own "NoDrawing", .own "NoLimits", .own "NoLine", .own "NoMeasure", .own "NoName", .own "NoNew", .own "NoOption", .own "NoPlace", .own "NoRow", .own "NoSieve", .own "NoSpan", .own "NoTray", .own "NoWants", .own "NoWord", .own "NoZeros", .own "ReadError", .own "RoomError", .own "TooLong"]
def xm : List XN := [.own "FitError", .own "MissError", .own "RoomError"]
def xf : List (Str × Str) := [("TooLong", "measure")]
noncomputable def m__law_cell : MF := mkDef 2 2
    (sSeq (sIf (tTst (eOp ltI (eVar 1) (eCB bLen (aCons (eVar 0) aNil)))) (sRet (eOp ixL (eVar 0) (eVar 1))) sSkip)
    (sRet (eOp addI (eOp addI (eOp mulI (eCB bSum (aCons (eSl slL (eVar 0) oNo (oSo (eC (.int 3)))) aNil)) (eC (.int 6007))) (eOp mulI (eC (.int 130003)) (eOp addI (eVar 1) (eC (.int 1))))) (eC (.int 29)))))
noncomputable def m__law_purse : MF := mkDef 1 2
    (sSeq (sAsg (eC (.int 0)) (gNm 1))
    (sSeq (sIf (tOrP (tTst (eOp ltI (eVar 0) (eC (.int 0)))) (tTst (eOp geI (eVar 0) (eOp powI (eC (.int 10)) (eC (.int 18)))))) (sAsg (eCB bAbs (aCons (eVar 0) aNil)) (gNm 1)) sSkip)
    (sRet (eLstO (aCons (eOp modI (eVar 0) (eC (.int 2147483399))) (aCons (eVar 1) (aCons (eC (.int 0)) aNil)))))))
noncomputable def m__law_take : MF := mkDef 2 4
    (sSeq (sAsg (eOp addI (eOp ixL (eVar 0) (eC (.int 2))) (eC (.int 1))) (gSubL (eVar 0) (eC (.int 2))))
    (sSeq (sAsg (eOp ixL (eVar 0) (eC (.int 0))) (gNm 2))
    (sSeq (sAsg (eOp modI (eOp addI (eOp addI (eOp mulI (eVar 2) (eOp addI (eOp modI (eVar 2) (eC (.int 43591))) (eC (.int 17011)))) (eOp mulI (eC (.int 88811)) (eOp ixL (eVar 0) (eC (.int 2))))) (eC (.int 7))) (eC (.int 2147483399))) (gSubL (eVar 0) (eC (.int 0))))
    (sSeq (sIf (tTst (eOp gtI (eOp ixL (eVar 0) (eC (.int 1))) (eC (.int 0)))) (sSeq (sAsg (eOp modI (eOp ixL (eVar 0) (eC (.int 1))) (eVar 1)) (gNm 3))
    (sSeq (sAsg (eOp fdivI (eOp ixL (eVar 0) (eC (.int 1))) (eVar 1)) (gSubL (eVar 0) (eC (.int 1))))
    (sRet (eVar 3)))) sSkip)
    (sRet (eOp modI (eOp fdivI (eOp ixL (eVar 0) (eC (.int 0))) (eC (.int 32))) (eVar 1)))))))
noncomputable def m__law_measure : MF := mkDef 1 2
    (sSeq (sAsg (eOp ixL (eLst (aCons (eC (.int 9)) (aCons (eC (.int 130)) (aCons (eC (.int 6399)) (aCons (eC (.int 990000)) aNil))))) (eCall m__law_take [] (aCons (eVar 0) (aCons (eC (.int 4)) aNil)))) (gNm 1))
    (sRet (eOp subI (eCall m__law_take [] (aCons (eVar 0) (aCons (eOp addI (eOp mulI (eC (.int 2)) (eVar 1)) (eC (.int 1))) aNil))) (eVar 1))))
noncomputable def m__law_edge : MF := mkDef 1 5
    (sSeq (sPar3 2 3 4 (aCons (eCall m__law_take [] (aCons (eVar 0) (aCons (eC (.int 6)) aNil))) (aCons (eOp subI (eC (.int 1)) (eOp mulI (eC (.int 2)) (eCall m__law_take [] (aCons (eVar 0) (aCons (eC (.int 2)) aNil))))) (aCons (eOp subI (eCall m__law_take [] (aCons (eVar 0) (aCons (eC (.int 3)) aNil))) (eC (.int 1))) aNil))))
    (sSeq (sAsg (eLst (aCons (eOp mulI (eC (.int 64)) (eCall m__law_take [] (aCons (eVar 0) (aCons (eC (.int 103)) aNil)))) (aCons (eOp mulI (eC (.int 64)) (eOp ixL (eLst (aCons (eC (.int 1)) (aCons (eC (.int 12)) (aCons (eC (.int 19)) (aCons (eC (.int 20)) (aCons (eC (.int 21)) (aCons (eC (.int 99)) (aCons (eC (.int 100)) (aCons (eC (.int 101)) aNil))))))))) (eCall m__law_take [] (aCons (eVar 0) (aCons (eC (.int 8)) aNil))))) aNil))) (gNm 1))
    (sSeq (sAsg (eOp catL (eVar 1) (eLst (aCons (eCall m__law_take [] (aCons (eVar 0) (aCons (eC (.int 64)) aNil))) (aCons (eC (.int 0)) (aCons (eOp mulI (eC (.int 64)) (eCall m__law_take [] (aCons (eVar 0) (aCons (eC (.int 15468)) aNil)))) aNil))))) (gNm 1))
    (sSeq (sIf (tTst (eOp ltI (eVar 2) (eC (.int 5)))) (sRet (eOp mulI (eVar 3) (eOp addI (eOp ixL (eVar 1) (eVar 2)) (eOp mulI (eVar 4) (eCall m__law_take [] (aCons (eVar 0) (aCons (eC (.int 2)) aNil))))))) sSkip)
    (sRet (eCall m__law_measure [] (aCons (eVar 0) aNil)))))))
noncomputable def m__law_counted : MF := mkDef 1 3
    (sSeq (sAsg (eLst (aCons (eC (.str "")) (aCons (eC (.str "one")) (aCons (eC (.str "two")) (aCons (eC (.str "three")) (aCons (eC (.str "four")) (aCons (eC (.str "five")) (aCons (eC (.str "six")) (aCons (eC (.str "seven")) (aCons (eC (.str "eight")) (aCons (eC (.str "nine")) (aCons (eC (.str "ten")) (aCons (eC (.str "eleven")) (aCons (eC (.str "twelve")) aNil)))))))))))))) (gNm 1))
    (sSeq (sAsg (eOp catL (eVar 1) (eLst (aCons (eC (.str "thirteen")) (aCons (eC (.str "fourteen")) (aCons (eC (.str "fifteen")) (aCons (eC (.str "sixteen")) (aCons (eC (.str "seventeen")) (aCons (eC (.str "eighteen")) (aCons (eC (.str "nineteen")) aNil))))))))) (gNm 1))
    (sSeq (sAsg (eLst (aCons (eC (.str "")) (aCons (eC (.str "")) (aCons (eC (.str "twenty")) (aCons (eC (.str "thirty")) (aCons (eC (.str "forty")) (aCons (eC (.str "fifty")) (aCons (eC (.str "sixty")) (aCons (eC (.str "seventy")) (aCons (eC (.str "eighty")) (aCons (eC (.str "ninety")) aNil))))))))))) (gNm 2))
    (sSeq (sIf (tTst (eOp eqS (eVar 0) (eC (.int 0)))) (sRet (eLstO aNil)) sSkip)
    (sSeq (sIf (tTst (eOp ltI (eVar 0) (eC (.int 20)))) (sRet (eLstO (aCons (eOp ixL (eVar 1) (eVar 0)) aNil))) sSkip)
    (sRet (eLstO (aCons (eOp addS (eOp addS (eOp ixL (eVar 2) (eOp fdivI (eVar 0) (eC (.int 10)))) (eOp repS (eC (.str " ")) (eCB bInt (aCons (eOp gtI (eOp modI (eVar 0) (eC (.int 10))) (eC (.int 0))) aNil)))) (eOp ixL (eVar 1) (eOp modI (eVar 0) (eC (.int 10))))) aNil))))))))
noncomputable def m__law_doubles : MF := mkDef 1 2
    (sSeq (sAsg (eCB bStrI (aCons (eOp modI (eVar 0) (eC (.int 2))) aNil)) (gNm 1))
    (sSeq (sWhile (tTst (eOp gtI (eVar 0) (eC (.int 1)))) (sSeq (sAsg (eOp fdivI (eVar 0) (eC (.int 2))) (gNm 0))
    (sAsg (eOp addS (eCB bStrI (aCons (eOp modI (eVar 0) (eC (.int 2))) aNil)) (eVar 1)) (gNm 1))))
    (sRet (eVar 1))))
noncomputable def m__law_tell : MF := mkDef 2 8
    (sSeq (sPar 4 5 (aCons (eOp fdivI (eCB bAbs (aCons (eVar 0) aNil)) (eC (.int 64))) (aCons (eOp modI (eCB bAbs (aCons (eVar 0) aNil)) (eC (.int 64))) aNil)))
    (sSeq (sIf (tTst (eOp eqS (eVar 1) (eC (.str "parts")))) (sRet (eCB bStrI (aCons (eVar 0) aNil))) sSkip)
    (sSeq (sAsg (eLstO aNil) (gNm 2))
    (sSeq (sIf (tTst (eOp eqS (eVar 1) (eC (.str "words")))) (sSeq (sAsg (eCall m__law_counted [] (aCons (eVar 4) aNil)) (gNm 2))
    (sSeq (sFor (iL (eLst (aCons (eTup (aCons (eC (.int 32)) (aCons (eC (.str "a half")) aNil))) (aCons (eTup (aCons (eC (.int 16)) (aCons (eC (.str "a quarter")) aNil))) (aCons (eTup (aCons (eC (.int 8)) (aCons (eC (.str "an eighth")) aNil))) (aCons (eTup (aCons (eC (.int 4)) (aCons (eC (.str "a sixteenth")) aNil))) aNil)))))) (gTupP 2 (gConsP (gNm 6) (gConsP (gNm 7) gNilP))) (sIf (tTst (eOp eqS (eOp modI (eOp fdivI (eVar 5) (eVar 6)) (eC (.int 2))) (eC (.int 1)))) (sExp (eBml appendP (eVar 2) (aCons (eVar 7) aNil))) sSkip))
    (sSeq (sExp (eBml extendP (eVar 2) (aCons (eOp repL (eLst (aCons (eC (.str "a thirtysecond")) aNil)) (eOp modI (eOp fdivI (eVar 5) (eC (.int 2))) (eC (.int 2)))) aNil)))
    (sSeq (sExp (eBml extendP (eVar 2) (aCons (eOp repL (eLst (aCons (eC (.str "a sixtyfourth")) aNil)) (eOp modI (eVar 5) (eC (.int 2)))) aNil)))
    (sSeq (sIf (tTst (eOp eqD (eVar 2) (eLst aNil))) (sRet (eC (.str "nothing"))) sSkip)
    (sRet (eOp addS (eOp repS (eC (.str "minus ")) (eCB bInt (aCons (eOp ltI (eVar 0) (eC (.int 0))) aNil))) (eBms joinP (eC (.str " and ")) (aCons (eVar 2) aNil))))))))) sSkip)
    (sSeq (sIf (tTst (eOp eqS (eVar 1) (eC (.str "halves")))) (sRet (eOp addS (eOp addS (eOp addS (eOp repS (eC (.str "-")) (eCB bInt (aCons (eOp ltI (eVar 0) (eC (.int 0))) aNil))) (eCall m__law_doubles [] (aCons (eVar 4) aNil))) (eC (.str "."))) (eSl slS (eCall m__law_doubles [] (aCons (eOp addI (eC (.int 64)) (eVar 5)) aNil)) (oSo (eC (.int 1))) oNo))) sSkip)
    (sSeq (sIf (tOrP (tTst (eOp gtI (eVar 4) (eC (.int 0)))) (tTst (eOp eqS (eVar 5) (eC (.int 0))))) (sExp (eBml appendP (eVar 2) (aCons (eCB bStrI (aCons (eVar 4) aNil)) aNil))) sSkip)
    (sSeq (sAsg (eC (.int 64)) (gNm 3))
    (sSeq (sWhile (tAndP (tTst (eOp gtI (eVar 5) (eC (.int 0)))) (tTst (eOp eqS (eOp modI (eVar 5) (eC (.int 2))) (eC (.int 0))))) (sPar 5 3 (aCons (eOp fdivI (eVar 5) (eC (.int 2))) (aCons (eOp fdivI (eVar 3) (eC (.int 2))) aNil))))
    (sSeq (sIf (tTst (eOp gtI (eVar 5) (eC (.int 0)))) (sExp (eBml appendP (eVar 2) (aCons (eOp addS (eOp addS (eCB bStrI (aCons (eVar 5) aNil)) (eC (.str "/"))) (eCB bStrI (aCons (eVar 3) aNil))) aNil))) sSkip)
    (sRet (eOp addS (eOp repS (eC (.str "-")) (eCB bInt (aCons (eOp ltI (eVar 0) (eC (.int 0))) aNil))) (eBms joinP (eC (.str " ")) (aCons (eVar 2) aNil)))))))))))))
noncomputable def m__law_due : MF := mkDef 2 2
    (sSeq (sIf (tAndP (tTst (eOp eqS (eVar 1) (eC (.str "words")))) (tTst (eOp geI (eCB bAbs (aCons (eVar 0) aNil)) (eC (.int 6400))))) (sRet (eLst (aCons (eC (.str "long")) (aCons (eVar 0) aNil)))) sSkip)
    (sRet (eCall m__law_tell [] (aCons (eVar 0) (aCons (eVar 1) aNil)))))
noncomputable def m_is_way : MF := mkDef 1 1
    (sRet (eAnd (eCB (isiP cs) (aCons (eVar 0) (aCons (eC (.ty "str")) aNil))) (eOp (inKd "TELLERS" t_TELLERS false) (eVar 0) (eC (.cls "TELLERS")))))

noncomputable def m_check_way : MF := mkDef 1 1
    (sIf (tNotP (tTst (eCall (noXM m_is_way) [] (aCons (eVar 0) aNil)))) (sRaiseI "NoOption" "option" (aCons (eC (.str "way")) aNil)) sSkip)
noncomputable def m_is_measure : MF := mkDef 1 1
    (sRet (eAnd (eCB (isiP cs) (aCons (eVar 0) (aCons (eC (.ty "int")) aNil))) (eNot (eCB (isiP cs) (aCons (eVar 0) (aCons (eC (.ty "bool")) aNil))))))
noncomputable def m_check_measure : MF := mkDef 1 1
    (sIf (tNotP (tTst (eCall (noXM m_is_measure) [] (aCons (eVar 0) aNil)))) (sRaiseP "NoMeasure") sSkip)
noncomputable def m_by_parts : MF := mkDef 1 1
    (sRet (eCB bStrI (aCons (eVar 0) aNil)))
noncomputable def m_minus_of : MF := mkDef 1 1
    (sRet (eIf (tTst (eOp ltI (eVar 0) (eC (.int 0)))) (eC (.str "-")) (eC (.str ""))))
noncomputable def m_by_inches : MF := mkDef 1 5
    (sSeq (sAsg (eCB bDivmod (aCons (eCB bAbs (aCons (eVar 0) aNil)) (aCons (eC (.int 64)) aNil))) (gTupP 2 (gConsP (gNm 3) (gConsP (gNm 4) gNilP))))
    (sSeq (sAsg (eC (.int 64)) (gNm 1))
    (sSeq (sWhile (tAndP (tTst (eOp gtI (eVar 4) (eC (.int 0)))) (tTst (eOp eqS (eOp modI (eVar 4) (eC (.int 2))) (eC (.int 0))))) (sSeq (sAug 4 fdivI (eC (.int 2)))
    (sAug 1 fdivI (eC (.int 2)))))
    (sSeq (sAsg (eLstO aNil) (gNm 2))
    (sSeq (sIf (tOrP (tTst (eOp gtI (eVar 3) (eC (.int 0)))) (tTst (eOp eqS (eVar 4) (eC (.int 0))))) (sExp (eBml appendP (eVar 2) (aCons (eCB bStrI (aCons (eVar 3) aNil)) aNil))) sSkip)
    (sSeq (sIf (tTst (eOp gtI (eVar 4) (eC (.int 0)))) (sExp (eBml appendP (eVar 2) (aCons (eJs [(eFmt (eVar 4)), (eC (.str "/")), (eFmt (eVar 1))]) aNil))) sSkip)
    (sRet (eOp addS (eCall m_minus_of [] (aCons (eVar 0) aNil)) (eBms joinP (eC (.str " ")) (aCons (eVar 2) aNil))))))))))
noncomputable def m_doubled : MF := mkDef 1 2
    (sSeq (sAsg (eCB bStrI (aCons (eOp modI (eVar 0) (eC (.int 2))) aNil)) (gNm 1))
    (sSeq (sWhile (tTst (eOp gtI (eVar 0) (eC (.int 1)))) (sSeq (sAug 0 fdivI (eC (.int 2)))
    (sAsg (eOp addS (eCB bStrI (aCons (eOp modI (eVar 0) (eC (.int 2))) aNil)) (eVar 1)) (gNm 1))))
    (sRet (eVar 1))))
noncomputable def m_by_halves : MF := mkDef 1 3
    (sSeq (sAsg (eCB bDivmod (aCons (eCB bAbs (aCons (eVar 0) aNil)) (aCons (eC (.int 64)) aNil))) (gTupP 2 (gConsP (gNm 1) (gConsP (gNm 2) gNilP))))
    (sRet (eOp addS (eOp addS (eOp addS (eCall m_minus_of [] (aCons (eVar 0) aNil)) (eCall m_doubled [] (aCons (eVar 1) aNil))) (eC (.str "."))) (eBms zfillP (eCall m_doubled [] (aCons (eVar 2) aNil)) (aCons (eC (.int 6)) aNil)))))

noncomputable def m_counted : MF := mkDef 1 2
    (sSeq (sIf (tTst (eOp ltI (eVar 0) (eCB bLen (aCons (eC c_COUNTS) aNil)))) (sRet (eOp ixT (eC c_COUNTS) (eVar 0))) sSkip)
    (sSeq (sAsg (eOp ixT (eC c_TENS) (eOp subI (eOp fdivI (eVar 0) (eC (.int 10))) (eC (.int 2)))) (gNm 1))
    (sSeq (sIf (tTst (eOp gtI (eOp modI (eVar 0) (eC (.int 10))) (eC (.int 0)))) (sAug 1 addS (eOp addS (eC (.str " ")) (eOp ixT (eC c_COUNTS) (eOp modI (eVar 0) (eC (.int 10)))))) sSkip)
    (sRet (eVar 1)))))
noncomputable def m_by_words : MF := mkDef 1 8
    (sSeq (sAsg (eCB bDivmod (aCons (eCB bAbs (aCons (eVar 0) aNil)) (aCons (eC (.int 64)) aNil))) (gTupP 2 (gConsP (gNm 4) (gConsP (gNm 5) gNilP))))
    (sSeq (sIf (tTst (eOp geI (eVar 4) (eC (.int 100)))) (sRaiseI "TooLong" "measure" (aCons (eVar 0) aNil)) sSkip)
    (sSeq (sIf (tTst (eOp eqS (eVar 0) (eC (.int 0)))) (sRet (eOp ixT (eC c_COUNTS) (eC (.int 0)))) sSkip)
    (sSeq (sAsg (eLstO aNil) (gNm 1))
    (sSeq (sIf (tTst (eOp gtI (eVar 4) (eC (.int 0)))) (sExp (eBml appendP (eVar 1) (aCons (eCall (noXM m_counted) [] (aCons (eVar 4) aNil)) aNil))) sSkip)
    (sSeq (sAsg (eOp fdivI (eC (.int 64)) (eC (.int 2))) (gNm 2))
    (sSeq (sFor (iT (eC c_SHARES)) (gTupP 2 (gConsP (gNm 6) (gConsP (gNm 7) gNilP))) (sSeq (sIf (tTst (eOp geI (eVar 5) (eVar 2))) (sSeq (sExp (eBml appendP (eVar 1) (aCons (eOp addS (eOp addS (eVar 6) (eC (.str " "))) (eVar 7)) aNil)))
    (sAug 5 subI (eVar 2))) sSkip)
    (sAug 2 fdivI (eC (.int 2)))))
    (sSeq (sAsg (eIf (tTst (eOp ltI (eVar 0) (eC (.int 0)))) (eC (.str "minus ")) (eC (.str ""))) (gNm 3))
    (sRet (eOp addS (eVar 3) (eBms joinP (eC (.str " and ")) (aCons (eVar 1) aNil))))))))))))
noncomputable def m_shown : MF := mkDef 2 3
    (sSeq (sAsg (eOp (ixKd "TELLERS" t_TELLERS) (eC (.cls "TELLERS")) (eVar 1)) (gNm 2))
    (sRet (eCallTX [("by_parts", false, m_by_parts), ("by_inches", false, m_by_inches), ("by_halves", false, m_by_halves), ("by_words", true, m_by_words)] 2 (aCons (eVar 0) aNil))))
noncomputable def m_tell : MF := mkDef 2 2
    (sSeq (sExp (eCall m_check_way [] (aCons (eVar 1) aNil)))
    (sSeq (sExp (eCall m_check_measure [] (aCons (eVar 0) aNil)))
    (sRet (eCall m_shown [] (aCons (eVar 0) (aCons (eVar 1) aNil))))))
noncomputable def m__law_sort : MF := mkDef 1 7
    (sSeq (sAsg (eLstO (aCons (eCB (isxP xt xa) (aCons (eVar 0) (aCons (eC (.cls "NoMeasure")) aNil))) (aCons (eCB (isxP xt xa) (aCons (eVar 0) (aCons (eC (.cls "NoAllowance")) aNil))) (aCons (eCB (isxP xt xa) (aCons (eVar 0) (aCons (eC (.cls "NoSpan")) aNil))) (aCons (eCB (isxP xt xa) (aCons (eVar 0) (aCons (eC (.cls "NoLimits")) aNil))) aNil))))) (gNm 1))
    (sSeq (sAsg (eOp catLO (eVar 1) (eLst (aCons (eCB (isxP xt xa) (aCons (eVar 0) (aCons (eC (.cls "NoDrawing")) aNil))) (aCons (eCB (isxP xt xa) (aCons (eVar 0) (aCons (eC (.cls "NoSieve")) aNil))) (aCons (eCB (isxP xt xa) (aCons (eVar 0) (aCons (eC (.cls "NoTray")) aNil))) (aCons (eCB (isxP xt xa) (aCons (eVar 0) (aCons (eC (.cls "NoRow")) aNil))) aNil)))))) (gNm 1))
    (sSeq (sAsg (eOp catLO (eVar 1) (eLst (aCons (eCB (isxP xt xa) (aCons (eVar 0) (aCons (eC (.cls "NoOption")) aNil))) (aCons (eCB (isxP xt xa) (aCons (eVar 0) (aCons (eC (.cls "NoNew")) aNil))) (aCons (eCB (isxP xt xa) (aCons (eVar 0) (aCons (eC (.cls "NoWants")) aNil))) (aCons (eCB (isxP xt xa) (aCons (eVar 0) (aCons (eC (.cls "NoZeros")) aNil))) aNil)))))) (gNm 1))
    (sSeq (sAsg (eOp catLO (eVar 1) (eLst (aCons (eCB (isxP xt xa) (aCons (eVar 0) (aCons (eC (.cls "NoWord")) aNil))) (aCons (eCB (isxP xt xa) (aCons (eVar 0) (aCons (eC (.cls "NoLine")) aNil))) (aCons (eCB (isxP xt xa) (aCons (eVar 0) (aCons (eC (.cls "NoName")) aNil))) (aCons (eCB (isxP xt xa) (aCons (eVar 0) (aCons (eC (.cls "NoPlace")) aNil))) aNil)))))) (gNm 1))
    (sSeq (sExp (eBml appendP (eVar 1) (aCons (eCB (isxP xt xa) (aCons (eVar 0) (aCons (eC (.cls "TooLong")) aNil))) aNil)))
    (sSeq (sAsg (eLst (aCons (eC (.str "measure")) (aCons (eC (.str "allowance")) (aCons (eC (.str "span")) (aCons (eC (.str "limits")) (aCons (eC (.str "drawing")) (aCons (eC (.str "sieve")) (aCons (eC (.str "tray")) (aCons (eC (.str "row")) (aCons (eC (.str "option")) (aCons (eC (.str "new")) (aCons (eC (.str "wants")) aNil)))))))))))) (gNm 2))
    (sSeq (sAsg (eOp catL (eVar 2) (eLst (aCons (eC (.str "zeros")) (aCons (eC (.str "word")) (aCons (eC (.str "line")) (aCons (eC (.str "name")) (aCons (eC (.str "place")) (aCons (eC (.str "long")) aNil)))))))) (gNm 2))
    (sSeq (sIf (tTst (eOp neS (eBml countP (eVar 1) (aCons (eC (.bl true)) aNil)) (eC (.int 1)))) (sRet (eLstO (aCons (eC (.str "other")) aNil))) sSkip)
    (sSeq (sAsg (eBml indexP (eVar 1) (aCons (eC (.bl true)) aNil)) (gNm 3))
    (sSeq (sAsg (eLst (aCons (eCB (isxP xt xa) (aCons (eVar 0) (aCons (eC (.cls "FitError")) aNil))) (aCons (eCB (isxP xt xa) (aCons (eVar 0) (aCons (eC (.cls "MissError")) aNil))) (aCons (eCB (isxP xt xa) (aCons (eVar 0) (aCons (eC (.cls "RoomError")) aNil))) (aCons (eCB (isxP xt xa) (aCons (eVar 0) (aCons (eC (.cls "ReadError")) aNil))) aNil))))) (gNm 4))
    (sSeq (sAsg (eLst (aCons (eCB (isxP xt xa) (aCons (eVar 0) (aCons (eC (.ty "ValueError")) aNil))) (aCons (eCB (isxP xt xa) (aCons (eVar 0) (aCons (eC (.ty "LookupError")) aNil))) (aCons (eCB (isxP xt xa) (aCons (eVar 0) (aCons (eC (.ty "ArithmeticError")) aNil))) aNil)))) (gNm 5))
    (sSeq (sAsg (eLst (aCons (eOp ltI (eVar 3) (eC (.int 14))) (aCons (eOp (inS false) (eVar 3) (eTup (aCons (eC (.int 14)) (aCons (eC (.int 15)) aNil)))) (aCons (eOp eqS (eVar 3) (eC (.int 16))) aNil)))) (gNm 6))
    (sSeq (sIf (tOrP (tTst (eOp neD (eSl slL (eVar 4) oNo (oSo (eC (.int 3)))) (eVar 6))) (tOrP (tTst (eOp neD (eVar 5) (eVar 6))) (tTst (eOp neS (eOp ixL (eVar 4) (eC (.int 3))) (eOp (inS false) (eVar 3) (eTup (aCons (eC (.int 12)) (aCons (eC (.int 13)) aNil)))))))) (sRet (eLstO (aCons (eC (.str "other")) aNil))) sSkip)
    (sRet (eLstO (aCons (eOp ixL (eVar 2) (eVar 3)) aNil))))))))))))))))
noncomputable def m__law_told : MF := mkDef 3 5
    (sSeq (sTryM [(3, (cmOr (cmX xt (.own "FitError")) (cmX xt (.own "MissError"))), (sAsg (eCall m__law_sort [] (aCons (eVar 3) aNil)) (gNm 4))),
      (3, (cmX xt (.own "RoomError")), (sSeq (sAsg (eCall m__law_sort [] (aCons (eVar 3) aNil)) (gNm 4))
    (sIf (tTst (eCB (isxP xt xa) (aCons (eVar 3) (aCons (eC (.cls "TooLong")) aNil)))) (sExp (eBml appendP (eVar 4) (aCons (eXf xf "measure" (eVar 3)) aNil))) sSkip)))] (sIf (tTst (eOp eqS (eVar 2) (eC (.int 0)))) (sAsg (eCall m_tell [] (aCons (eVar 0) (aCons (eVar 1) aNil))) (gNm 4)) (sIf (tTst (eOp eqS (eVar 2) (eC (.int 1)))) (sAsg (eCallK m_tell 1 1 (fun us ws => us ++ (ws.drop 0).take 1) (aCons (eVar 0) aNil) (aCons (eVar 1) aNil)) (gNm 4)) (sIf (tTst (eOp eqS (eVar 2) (eC (.int 2)))) (sAsg (eCallK m_tell 0 2 (fun us ws => us ++ (ws.drop 1).take 1 ++ (ws.drop 0).take 1) aNil (aCons (eVar 1) (aCons (eVar 0) aNil))) (gNm 4)) (sAsg (eCall m_tell [.str "inches"] (aCons (eVar 0) aNil)) (gNm 4))))))
    (sRet (eFrz (eVar 4))))
noncomputable def m__law_plain : MF := mkDef 1 1
    (sRet (eAnd (eCB (isiP cs) (aCons (eVar 0) (aCons (eC (.ty "int")) aNil))) (eNot (eCB (isiP cs) (aCons (eVar 0) (aCons (eC (.ty "bool")) aNil))))))
noncomputable def m__law_same : MF := mkDef 2 2
    (sSeq (sIf (tTst (eCB (isiP cs) (aCons (eVar 1) (aCons (eC (.ty "list")) aNil)))) (sRet (eAnd (eCB (isiP cs) (aCons (eVar 0) (aCons (eC (.ty "list")) aNil))) (eAnd (eOp eqD (eVar 0) (eVar 1)) (eCall m__law_plain [] (aCons (eOp ixA (eVar 0) (eC (.int 1))) aNil))))) sSkip)
    (sRet (eAnd (eCB (isiP cs) (aCons (eVar 0) (aCons (eC (.ty "str")) aNil))) (eOp eqD (eVar 0) (eVar 1)))))
noncomputable def m__law_right : MF := mkDef 1 6
    (sSeq (sAsg (eLst (aCons (eCall m__law_edge [] (aCons (eVar 0) aNil)) (aCons (eCall m__law_edge [] (aCons (eVar 0) aNil)) aNil))) (gNm 1))
    (sSeq (sFor (iL (eLst (aCons (eC (.str "parts")) (aCons (eC (.str "inches")) (aCons (eC (.str "halves")) (aCons (eC (.str "words")) aNil)))))) (gNm 2) (sSeq (sAsg (eLstO aNil) (gNm 3))
    (sSeq (sFor (iL (eVar 1)) (gNm 4) (sSeq (sAsg (eCall m__law_due [] (aCons (eVar 4) (aCons (eVar 2) aNil))) (gNm 5))
    (sSeq (sExp (eBml appendP (eVar 3) (aCons (eCall m__law_told [] (aCons (eVar 4) (aCons (eVar 2) (aCons (eCall m__law_take [] (aCons (eVar 0) (aCons (eC (.int 3)) aNil))) aNil)))) aNil)))
    (sSeq (sIf (tOrP (tNotP (tTst (eCall m__law_same [] (aCons (eOp ixL (eVar 3) (eUn negI (eC (.int 1)))) (aCons (eVar 5) aNil))))) (tNotP (tTst (eCall m__law_same [] (aCons (eCall m__law_told [] (aCons (eVar 4) (aCons (eVar 2) (aCons (eC (.int 0)) aNil)))) (aCons (eVar 5) aNil)))))) (sRet (eC (.bl false))) sSkip)
    (sIf (tAndP (tTst (eOp eqS (eVar 2) (eC (.str "inches")))) (tNotP (tTst (eCall m__law_same [] (aCons (eCall m__law_told [] (aCons (eVar 4) (aCons (eVar 2) (aCons (eC (.int 3)) aNil)))) (aCons (eVar 5) aNil)))))) (sRet (eC (.bl false))) sSkip)))))
    (sIf (tTst (eOp neS (eOp eqD (eOp ixL (eVar 3) (eC (.int 0))) (eOp ixL (eVar 3) (eC (.int 1)))) (eOp eqS (eOp ixL (eVar 1) (eC (.int 0))) (eOp ixL (eVar 1) (eC (.int 1)))))) (sRet (eC (.bl false))) sSkip))))
    (sRet (eC (.bl true)))))
noncomputable def m_law : MF := mkDef 1 2
    (sRet (eCB bAll (aCons (eLc (iR1 (aCons (eCB bMax2 (aCons (eC (.int 1)) (aCons (eCB bMin2 (aCons (eCB bLen (aCons (eVar 0) aNil)) (aCons (eC (.int 12)) aNil))) aNil))) aNil)) (gNm 1) tYesP (eCall m__law_right [] (aCons (eCall m__law_purse [] (aCons (eCall m__law_cell [] (aCons (eVar 0) (aCons (eVar 1) aNil))) aNil)) aNil)) [1]) aNil)))
/-! ### the walk of a mirror -/
set_option hygiene false in
local macro_rules | `(tactic| walk_at "c0") => `(tactic| first
  | ((with_reducible refine' go_var ?e ?_); (case e => exact rfl))
  | with_reducible refine go_c ?_
  | with_reducible refine go_op ?_
  | with_reducible refine go_cons ?_
  | with_reducible refine go_nil ?_
  | with_reducible refine go_call0 ?_
  | with_reducible refine go_call ?_
  | ((with_reducible refine' g_m ?e ?_); (case e => (simp only [List.drop_zero, List.drop_succ_cons, List.take_succ_cons, List.take_zero, List.take_nil, List.drop_nil, List.nil_append, List.cons_append, List.append_nil, List.singleton_append]; exact rfl)))
  | ((with_reducible refine' g_mk ?e ?_); (case e => (simp only [List.drop_zero, List.drop_succ_cons, List.take_succ_cons, List.take_zero, List.take_nil, List.drop_nil, List.nil_append, List.cons_append, List.append_nil, List.singleton_append]; exact rfl)))
  | with_reducible refine go_addI ?_
  | with_reducible refine go_subI ?_
  | with_reducible refine go_seq ?_
  | with_reducible refine go_asg ?_
  | ((with_reducible refine' go_nm ?e ?_); (case e => (simp only [List.set_cons_succ, List.set_cons_zero]; exact rfl)))
  | with_reducible refine go_ret ?_
  | with_reducible refine go_ifS ?_
  | with_reducible refine go_skip ?_
  | with_reducible refine go_tst ?_
  | with_reducible refine g_b ?_
  | with_reducible refine go_tnot ?_
  | with_reducible refine go_tor ?_
  | with_reducible refine go_tand ?_
  | with_reducible refine go_tup ?_
  | ((with_reducible refine' g_tup0 ?e ?_); (case e => exact rfl))
  | ((with_reducible refine' go_ixT ?e ?_); (case e => exact rfl))
  | ((with_reducible refine' go_ixL ?e ?e2 ?_); (case e => first | exact rfl | (apply lst_loc; assumption) | exact lst_loc get_app); (case e2 => exact rfl))
  | with_reducible refine go_fld ?_
  | ((with_reducible refine' g_fld ?e ?e2 ?_); (case e => first | exact rfl | (apply ins_loc; assumption)); (case e2 => exact rfl))
  | with_reducible refine go_meth ?_
  | with_reducible refine go_methK ?_
  | ((with_reducible refine' g_meth ?e ?e2 ?_); (case e => first | exact rfl | (apply ins_loc; assumption)); (case e2 => exact rfl))
  | with_reducible refine go_bind ?_
  | with_reducible refine go_make ?_
  | with_reducible refine go_makeO ?_
  | ((with_reducible refine' g_mo ?e ?_); (case e => (simp only [List.drop_zero, List.drop_succ_cons, List.take_succ_cons, List.take_zero, List.take_nil, List.drop_nil, List.nil_append, List.cons_append, List.append_nil, List.singleton_append]; exact rfl)))
  | with_reducible refine go_fldS ?_
  | with_reducible refine go_frz ?_
  | with_reducible refine go_bml ?_
  | ((with_reducible refine' g_and ?h ?_); (case h => (apply some_loc; assumption)))
  | with_reducible refine go_makeK ?_
  | with_reducible refine go_callK ?_
  | ((with_reducible refine' g_and ?h ?_); (case h => exact ⟨rfl, rfl⟩))
  | ((with_reducible refine' g_and ?h ?_); (case h => exact (rfl : _ = true)))
  | ((with_reducible refine' go_ifp ?h ?_); (case h => exact ⟨rfl, rfl⟩))
  | with_reducible refine go_exp ?_
  | with_reducible refine go_cb ?_
  | with_reducible refine go_leI ?_
  | with_reducible refine go_ltI ?_
  | with_reducible refine go_gtI ?_
  | with_reducible refine go_geI ?_
  | with_reducible refine go_eqI ?_
  | with_reducible refine go_neI ?_
  | with_reducible refine go_eqB ?_
  | with_reducible refine go_neB ?_
  | with_reducible refine go_eqZ ?_
  | with_reducible refine go_neZ ?_
  | ((with_reducible refine' go_isNb (b := true) ?e ?_); (case e => exact rfl))
  | ((with_reducible refine' go_isNb (b := false) ?e ?_); (case e => exact rfl))
  | ((with_reducible refine' go_notNb (b := true) ?e ?_); (case e => exact rfl))
  | ((with_reducible refine' go_notNb (b := false) ?e ?_); (case e => exact rfl))
  | with_reducible refine go_isN ?_
  | with_reducible refine go_notN ?_
  | ((with_reducible refine' go_modI ?e ?_); (case e => first | decide | omega))
  | ((with_reducible refine' go_fdivI ?e ?_); (case e => first | rfl | (unfold divOk; exact decide_eq_true (by omega))))
  | ((with_reducible refine' go_mulI ?e ?_); (case e => first | rfl | (unfold mulOk; exact decide_eq_true (by omega))))
  | ((with_reducible refine' go_powI ?e ?_); (case e => first | rfl | decide))
  | with_reducible refine go_and ?_
  | with_reducible refine go_or ?_
  | with_reducible refine go_not ?_
  | with_reducible refine go_if ?_
  | with_reducible refine go_chain ?_
  | with_reducible refine go_lst ?_
  | with_reducible refine go_lstO ?_
  | ((with_reducible refine' g_lst0 ?e ?_); (case e => exact rfl))
  | ((with_reducible refine' g_lstO0 ?e ?_); (case e => exact rfl))
  | with_reducible refine go_sl ?_
  | with_reducible refine go_ono ?_
  | with_reducible refine go_oso ?_
  | with_reducible refine g_i ?_
  | ((with_reducible refine' go_slT ?e ?e2 ?_); (case e => exact rfl); (case e2 => exact rfl))
  | ((with_reducible refine' go_slL ?e ?_); (case e => first | exact rfl | (apply lst_loc; assumption) | exact lst_loc get_app))
  | ((with_reducible refine' go_catT ?e ?e2 ?_); (case e => exact rfl); (case e2 => (simp only [List.cons_append, List.nil_append]; exact rfl)))
  | with_reducible refine go_par ?_
  | ((with_reducible refine' g_par ?e ?_); (case e => (simp only [List.set_cons_succ, List.set_cons_zero]; exact rfl)))
  | with_reducible refine go_par3 ?_
  | ((with_reducible refine' g_par3 ?e ?_); (case e => (simp only [List.set_cons_succ, List.set_cons_zero]; exact rfl)))
  | ((with_reducible refine' go_aug ?e ?_); (case e => exact rfl))
  | ((with_reducible refine' g_set ?e ?_); (case e => (simp only [List.set_cons_succ, List.set_cons_zero]; exact rfl)))
  | ((with_reducible refine' go_gtup ?e ?e2 ?_); (case e => exact rfl); (case e2 => exact rfl))
  | ((with_reducible refine' go_glst ?e ?e2 ?_); (case e => first | exact rfl | (apply lst_loc; assumption) | exact lst_loc get_app); (case e2 => exact rfl))
  | with_reducible refine go_gcons ?_
  | with_reducible refine go_gnil ?_
  | with_reducible refine go_gsub ?_
  | with_reducible refine go_retN ?_
  | with_reducible refine go_un ?_
  | with_reducible refine go_negI ?_
  | ((with_reducible refine' go_oeq ?e ?e2 ?_); (case e => exact rfl); (case e2 => exact rfl))
  | ((with_reducible refine' go_one ?e ?e2 ?_); (case e => exact rfl); (case e2 => exact rfl))
  | ((with_reducible refine' go_olen ?e ?_); (case e => exact rfl))
  | ((with_reducible refine' go_isi ?e ?e2 ?_); (case e => exact rfl); (case e2 => first | exact kit_same (by decide) | exact kit_ii | exact kit_ib | exact kit_bb | exact kit_bi | exact kit_ss | exact kit_tt | exact kit_nb | exact kit_ni | exact kit_nt | exact kit_si | exact rfl))
  | ((with_reducible refine' go_len ?e ?_); (case e => first | exact rfl | (apply seq_loc; assumption)))
  | with_reducible refine go_rng ?_
  | with_reducible refine go_max2 ?_
  | with_reducible refine go_min2 ?_
  | with_reducible refine go_abs ?_
  | with_reducible refine go_intI ?_
  | with_reducible refine go_intB ?_
  | ((with_reducible refine' go_divmod ?e ?_); (case e => first | rfl | (unfold divOk; exact decide_eq_true (by omega))))
  | ((with_reducible refine' go_bTupL ?e ?_); (case e => first | exact rfl | (apply lst_loc; assumption) | exact lst_loc get_app))
  | with_reducible refine go_bTupT ?_
  | with_reducible refine go_for ?_
  | ((with_reducible refine' go_lc ?e ?_); (case e => (simp only [wipeP, List.set_cons_succ, List.set_cons_zero]; exact rfl)))
  | ((with_reducible refine' go_lcO ?e ?_); (case e => (simp only [wipeP, List.set_cons_succ, List.set_cons_zero]; exact rfl)))
  | with_reducible refine go_yes ?_
  | with_reducible refine goc1 ?_
  | with_reducible refine go_iLx ?_
  | ((with_reducible refine' g_itF ?e ?_); (case e => exact rfl))
  | ((with_reducible refine' g_itL ?e ?_); (case e => assumption))
  | with_reducible refine g_itN ?_
  | ((with_reducible refine' go_appN ?h ?e ?_); (case h => exact rfl); (case e => (simp only [List.nil_append, List.cons_append]; exact rfl)))
  | ((with_reducible refine' g_and ?h ?_); (case h => exact some_loc get_app))
  | with_reducible refine go_iT ?_
  | with_reducible refine go_iR1 ?_
  | with_reducible refine go_iR2 ?_
  | ((with_reducible refine' g_r1 ?h ?_); (case h => omega))
  | ((with_reducible refine' g_r2 ?h ?_); (case h => omega))
  | with_reducible refine Gx.s_iteT ?_
  | with_reducible refine Gx.s_iteF ?_
  | with_reducible refine Gx.s_iteNT ?_
  | with_reducible refine Gx.s_iteNF ?_
  | ((with_reducible refine' comp_one1 ?e ?_); (case e => exact rfl))
  | ((with_reducible refine' g_acc ?e ?_); (case e => (simp only [List.nil_append, List.cons_append]; exact rfl)))
  | with_reducible refine comp_nil ?_
  | ((with_reducible refine' comp_one1g ?hg ?e ?_); (case hg => first | exact get_app | assumption); (case e => exact rfl))
  | ((with_reducible refine' comp_nilg ?hg ?_); (case hg => first | exact get_app | assumption))
  | ((with_reducible refine' go_anyC (b := true) ?e ?e2 ?_); (case e => exact rfl); (case e2 => exact rfl))
  | ((with_reducible refine' go_anyC (b := false) ?e ?e2 ?_); (case e => exact rfl); (case e2 => exact rfl))
  | ((with_reducible refine' go_allC (b := true) ?e ?e2 ?_); (case e => exact rfl); (case e2 => exact rfl))
  | ((with_reducible refine' go_allC (b := false) ?e ?e2 ?_); (case e => exact rfl); (case e2 => exact rfl))
  | ((with_reducible refine' go_eqTI ?e ?e2 ?e3 ?e4 ?_); (case e => exact rfl); (case e2 => exact rfl); (case e3 => (simp only [List.map_append, List.map_cons, List.map_nil, unP, List.cons_append, List.nil_append]; exact rfl)); (case e4 => (simp only [List.map_append, List.map_cons, List.map_nil, unP, List.cons_append, List.nil_append]; exact rfl)))
  | ((with_reducible refine' go_neTI ?e ?e2 ?e3 ?e4 ?_); (case e => exact rfl); (case e2 => exact rfl); (case e3 => (simp only [List.map_append, List.map_cons, List.map_nil, unP, List.cons_append, List.nil_append]; exact rfl)); (case e4 => (simp only [List.map_append, List.map_cons, List.map_nil, unP, List.cons_append, List.nil_append]; exact rfl)))
  | ((with_reducible refine' g_ips ?e ?_); (case e => exact rfl))
  | ((with_reducible refine' g_ipt ?e ?_); (case e => exact rfl))
  | ((with_reducible refine' g_n ?e ?_); (case e => omega))
  | ((with_reducible refine' go_in0 ?e ?e2 ?e3 ?e4 ?_); (case e => exact rfl); (case e2 => exact rfl); (case e3 => (simp only [List.map_cons, List.map_nil, unP]; exact rfl)); (case e4 => (dsimp only [memD])))
  | ((with_reducible refine' go_in1 ?e ?e2 ?e3 ?e4 ?_); (case e => exact rfl); (case e2 => exact rfl); (case e3 => (simp only [List.map_cons, List.map_nil, unP]; exact rfl)); (case e4 => (dsimp only [memD])))
  | with_reducible refine go_bseq ?_
  | with_reducible refine go_bexp ?_
  | with_reducible refine go_bfld ?_
  | ((with_reducible refine' g_bf ?h ?_); (case h => decide))
  | ((with_reducible refine' g_subX h ?e ?_); (case e => exact rfl); clear h; intro O h; simp only [Int.reduceToNat, Int.toNat_zero, Int.toNat_one, List.set_cons_zero, List.set_cons_succ] at h)
  | ((with_reducible refine' go_ixX h ?e ?_); (case e => exact rfl))
  | with_reducible refine go_dic0 ?_
  | with_reducible refine go_bms ?_
  | with_reducible refine go_fmtO ?_
  | ((with_reducible refine' go_otxt ?e ?_); (case e => exact rfl))
  | ((with_reducible refine' go_obool ?e ?_); (case e => exact rfl))
  | ((with_reducible refine' go_oeqA ?e ?e2 ?_); (case e => exact rfl); (case e2 => exact rfl))
  | ((with_reducible refine' go_oneA ?e ?e2 ?_); (case e => exact rfl); (case e2 => exact rfl))
  | with_reducible refine go_iZ ?_
  | ((with_reducible refine' g_iz ?e ?e2 ?_); (case e => exact rfl); (case e2 => exact rfl))
  | with_reducible refine go_inOL ?_
  | with_reducible refine go_bms0 ?_
  | with_reducible refine go_js ?_
  | with_reducible refine gj_cons ?_
  | with_reducible refine gj_nil ?_
  | with_reducible refine g_str ?_
  | with_reducible refine go_fmt ?_
  | with_reducible refine go_strS ?_
  | ((with_reducible refine' go_addS ?h ?_); (case h => (first | omega | (simp only [zl_app, zl_emp, join_1, join_2]; omega))))
  | ((with_reducible refine' g_and ?h ?_); (case h => ((first | unfold sizeLine | skip); (first | omega | (simp only [zl_app, zl_emp, join_1, join_2]; omega)))))
  | ((with_reducible refine' g_fmtS ?h ?_); (case h => ((first | unfold sizeLine | skip); (first | omega | (simp only [zl_app, zl_emp, join_1, join_2]; omega)))))
  | ((with_reducible refine' go_strI ?h ?_); (case h => (refine log_ok ?_; omega)))
  | ((with_reducible refine' g_fmtI ?h ?_); (case h => (refine log_ok ?_; omega)))
  | ((with_reducible refine' go_joinN ?e ?h ?_); (case e => exact rfl); (case h => (simp only [List.map_cons, List.map_nil, List.sum_cons, List.sum_nil, List.length_cons, List.length_nil, zl_app, zl_emp, join_1, join_2]; omega)))
  | ((with_reducible refine' go_rep01 ?h ?_); (case h => decide))
  | with_reducible refine go_iAt ?_
  | with_reducible refine g_at ?_
  | with_reducible refine g_al ?_
  | ((with_reducible refine' go_sort2 ?e ?_); (case e => exact rfl))
  | with_reducible refine go_isBB ?_
  | with_reducible refine go_notBB ?_
  | with_reducible refine go_makeKO ?_
  | dsimp only)
set_option hygiene false in
local macro_rules | `(tactic| walk_at "c") => `(tactic| repeat walk_at "c0")
set_option hygiene false in
local macro_rules | `(tactic| walk_at "b") => `(tactic| first
  | ((with_reducible refine' bt ?h ?_); (case h => omega))
  | ((with_reducible refine' bf ?h ?_); (case h => omega))
  | ((with_reducible refine' bnt ?h ?_); (case h => omega))
  | ((with_reducible refine' bnf ?h ?_); (case h => omega))
  | ((with_reducible refine' bt ?h ?_); (case h => exact rfl))
  | ((with_reducible refine' bf ?h ?_); (case h => decide))
  | ((with_reducible refine' bnt ?h ?_); (case h => decide))
  | ((with_reducible refine' bnf ?h ?_); (case h => exact rfl)))
set_option hygiene false in
local macro_rules | `(tactic| walk_at "ixi") => `(tactic| ((refine' go_ixI ?e ?ei ?h0 ?h1 ?_); (case e => exact rfl); (case ei => exact rfl); (case h0 => omega); (case h1 => (simp only [List.length_cons, List.length_nil]; omega)); intro z hz; simp only [List.map_cons, List.map_nil, unP, List.mem_cons, List.not_mem_nil, or_false] at hz))
set_option hygiene false in
local macro_rules | `(tactic| walk_at "g") => `(tactic| repeat (first | walk_at "c0" | walk_at "b" | walk_at "call" | walk_at "ixi"))
set_option hygiene false in
local macro_rules | `(tactic| walk_at "def") => `(tactic| ((refine' go_def ?e ?e2 ?_); (case e => exact rfl); (case e2 => (simp only [List.map_cons, List.map_nil, List.cons_append, List.nil_append, Nat.reduceSub, List.reduceReplicate]; exact rfl)); walk_at "c"))
set_option hygiene false in
local macro_rules | `(tactic| walk_at "init") => `(tactic| ((refine' go_init ?e ?e2 ?_); (case e => exact rfl); (case e2 => (simp only [List.map_cons, List.map_nil, List.cons_append, List.nil_append, List.append_nil, Nat.reduceSub, Nat.reduceAdd, List.reduceReplicate]; exact rfl)); walk_at "g"))
set_option hygiene false in
local macro_rules | `(tactic| walk_at "call") => `(tactic| fail)
set_option hygiene false in
local macro_rules | `(tactic| walk_at "fr") => `(tactic| first
  | exact Qx.Fr.refl
  | assumption
  | ((refine Qx.Fr.app ?_); walk_at "fr")
  | ((refine Qx.Fr.tr (by assumption) ?_); walk_at "fr"))
set_option hygiene false in
local macro_rules | `(tactic| walk_at "c0") => `(tactic| first
  | with_reducible refine go_noXM ?_
  | with_reducible refine go_mkN ?_
  | ((with_reducible refine' go_isx0 ?e ?e2 ?e3 ?e4 ?_); (case e => exact rfl); (case e2 => decide +kernel); (case e3 => exact rfl); (case e4 => decide +kernel))
  | ((with_reducible refine' go_isx1 ?e ?e2 ?e3 ?e4 ?_); (case e => exact rfl); (case e2 => decide +kernel); (case e3 => exact rfl); (case e4 => decide +kernel))
  | ((with_reducible refine' go_catL ?e ?e2 ?e3 ?_); (case e => first | exact rfl | exact lstT_loc get_app); (case e2 => first | exact rfl | exact lstT_loc get_app); (case e3 => exact rfl); (simp only [List.cons_append, List.nil_append]))
  | ((with_reducible refine' go_catLOn ?e ?e2 ?e3 ?_); (case e => first | exact lstT_loc get_app | exact rfl); (case e2 => first | exact rfl | exact lstT_loc get_app); (case e3 => exact rfl); (simp only [List.cons_append, List.nil_append])))
set_option hygiene false in
local macro_rules | `(tactic| walk_at "xdef") => `(tactic| ((refine' GoE.exc (goe_def ?e ?e2 ?_)); (case e => exact rfl); (case e2 => (simp only [List.map_cons, List.map_nil, List.cons_append, List.nil_append, Nat.reduceSub, List.reduceReplicate]; exact rfl))))
theorem cutP_take3 {ns : List Int} : cutP (ns.map PV.int) none (some 3) = (ns.take 3).map PV.int := by
  have e1 : ∀ n, HT.sIx n 0 none = 0 := fun n => rfl
  unfold cutP
  rw [e1, List.drop_zero, List.map_take]
  show List.take (HT.sIx (ns.map PV.int).length (ns.map PV.int).length (some 3)) _ = _
  have e2 : HT.sIx (ns.map PV.int).length (ns.map PV.int).length (some 3) = min 3 (ns.map PV.int).length := by
    unfold HT.sIx
    simp
  rw [e2]
  by_cases h : 3 ≤ (ns.map PV.int).length
  · rw [Nat.min_eq_left h]
  · rw [Nat.min_eq_right (by omega), List.take_length, List.take_of_length_le (by omega)]
theorem ints_of {ps : List PV} (h : ∀ q, q ∈ ps → ∃ z, q = .int z) : ∃ zs : List Int, ps = zs.map .int := by
  induction ps with
  | nil => exact ⟨[], rfl⟩
  | cons p ps ih =>
    obtain ⟨zs, e⟩ := ih fun q hq => h q (List.mem_cons_of_mem _ hq)
    obtain ⟨z, e2⟩ := h p List.mem_cons_self
    exact ⟨z :: zs, by rw [e, e2]; rfl⟩
theorem g__law_cell {ns : List Int} {j : Int} {O : Sto} {Q : PV → Sto → Prop} (h0 : 0 ≤ j) (h1 : j < 1000) (k : ∀ z : Int, Q (.int z) O) : Go (m__law_cell [.rol (ns.map .int), .int j] O) Q := by
  walk_at "def"
  refine qbr (fun h => ?_) (fun h => ?_)
  · walk_at "c"
    refine go_ixR rfl h0 (by simpa using h) fun r hr => ?_
    obtain ⟨z, _, rfl⟩ := List.mem_map.mp hr
    exact k z
  · walk_at "c"
    refine go_sum (ns := ns.take 3) ?_ ?_
    · show some (cutP (ns.map PV.int) none (some 3)) = _
      rw [cutP_take3]
    · walk_at "c"
      exact k _
theorem g__law_purse {n : Int} {O : Sto} {Q : PV → Sto → Prop} (k : ∀ O', Pu O' O.length → O'.length = O.length + 1 → (∀ m : Nat, m < O.length → O'[m]? = O[m]?) → Q (.loc O.length) O') : Go (m__law_purse [.int n] O) Q := by
  have fin : ∀ b : Int, 0 ≤ b → Q (.loc O.length) (O ++ [some (.lst [.int (n % 2147483399), .int b, .int 0])]) := fun b hb => k _ ⟨_, b, 0, get_app, Int.emod_nonneg _ (by omega), Int.emod_lt_of_pos _ (by omega), hb⟩ (by simp) fun m hm => by rw [List.getElem?_append_left hm]
  walk_at "def"
  refine qbr (fun h => ?_) (fun h => ?_)
  · walk_at "c"
    exact fin _ (by split <;> omega)
  · walk_at "c"
    generalize (10 : Int) ^ Int.toNat 18 = t
    refine qbr (fun h2 => ?_) (fun h2 => ?_)
    · walk_at "c"
      exact fin _ (by split <;> omega)
    · walk_at "c"
      exact fin _ (by omega)
theorem g__law_take {O0 O : Sto} {p : Nat} {n : Int} {Q : PV → Sto → Prop} (h : Ph O0 p O) (n0 : 0 < n) (n1 : n < 1073741824) (k : ∀ (r : Int) (O' : Sto), 0 ≤ r → r < n → Ph O0 p O' → Q (.int r) O') : Go (m__law_take [.loc p, .int n] O) Q := by
  obtain ⟨a, b, c, h, a0, a1, b0⟩ := h.open
  walk_at "def"
  refine qbr (fun hh => ?_) (fun hh => ?_)
  · walk_at "c"
    refine k _ _ ?_ ?_ (h.close ?_ ?_ ?_)
    · exact Int.emod_nonneg _ (by omega)
    · exact Int.emod_lt_of_pos _ n0
    · exact Int.emod_nonneg _ (by omega)
    · exact Int.emod_lt_of_pos _ (by omega)
    · exact Int.ediv_nonneg b0 (by omega)
  · walk_at "c"
    refine k _ _ ?_ ?_ (h.close ?_ ?_ ?_)
    · exact Int.emod_nonneg _ (by omega)
    · exact Int.emod_lt_of_pos _ n0
    · exact Int.emod_nonneg _ (by omega)
    · exact Int.emod_lt_of_pos _ (by omega)
    · exact b0
set_option hygiene false in
local macro_rules | `(tactic| walk_at "call") => `(tactic| ((with_reducible refine' g__law_take h ?n0 ?n1 ?_); (case n0 => omega); (case n1 => omega); clear h; intro r O r0 r1 h))
theorem g__law_measure {O0 O : Sto} {p : Nat} {Q : PV → Sto → Prop} (h : Ph O0 p O) (k : ∀ (r : Int) (O' : Sto), -990000 ≤ r → r ≤ 990000 → Ph O0 p O' → Q (.int r) O') : Go (m__law_measure [.loc p] O) Q := by
  walk_at "def"
  walk_at "g"
  exact k _ _ (by omega) (by omega) h
set_option hygiene false in
local macro_rules | `(tactic| walk_at "call") => `(tactic| ((with_reducible refine' g__law_measure h ?_); clear h; intro r O r0 r1 h))
theorem e_is_measure {i : Int} {O : Sto} : m_is_measure [.int i] O = .ok (.bl true) O := Go.eq (by
  walk_at "def"
  exact ⟨rfl, rfl⟩)
set_option hygiene false in
local macro_rules | `(tactic| walk_at "call") => `(tactic| ((with_reducible refine' go_at e_is_measure ?_)))
theorem e_check_measure {i : Int} {O : Sto} : m_check_measure [.int i] O = .ok .non O := Go.eq (by
  walk_at "def"
  walk_at "g"
  exact ⟨rfl, rfl⟩)
set_option hygiene false in
local macro_rules | `(tactic| walk_at "call") => `(tactic| ((with_reducible refine' go_at e_check_measure ?_)))
abbrev tz (i : Int) : Str := Str.ofString (toString i)
theorem log_ok {i : Int} (h : -1000000000000 ≤ i ∧ i ≤ 1000000000000) : i.natAbs.log2 < 1920 := by
  by_cases c : i.natAbs = 0
  · rw [c]; decide
  · rw [Nat.log2_lt c]
    exact Nat.lt_of_le_of_lt (show i.natAbs ≤ 1000000000000 by omega) (Nat.lt_of_lt_of_le (show 1000000000000 < 2 ^ 40 by decide) (Nat.pow_le_pow_right (by decide) (by decide)))
theorem z_assoc (a b c : Str) : a ++ b ++ c = a ++ (b ++ c) := by
  show Str.mk (a.cps ++ b.cps ++ c.cps) = Str.mk (a.cps ++ (b.cps ++ c.cps))
  rw [Array.append_assoc]
theorem z_nil_l (a : Str) : Str.empty ++ a = a := by
  show Str.mk (#[] ++ a.cps) = a
  rw [Array.empty_append]
theorem z_nil_r (a : Str) : a ++ Str.empty = a := by
  show Str.mk (a.cps ++ #[]) = a
  rw [Array.append_empty]
theorem z_emp : (Str.ofString "") = Str.empty := rfl
theorem zl_str (s : String) : (Str.ofString s).length = s.toList.length := by
  rw [Str.ofString_eq_toList]
  show (List.map _ _).toArray.size = _
  simp
theorem tz_len (i : Int) : (tz i).length ≤ i.natAbs + 2 := by
  rw [zl_str]
  have h : ∀ n : Nat, (toString n).toList.length ≤ n + 1 := fun n => by
    show (Nat.repr n).toList.length ≤ n + 1
    rw [String.length_toList]
    exact repr_len n
  cases i with
  | ofNat n =>
    have := h n
    show (toString n).toList.length ≤ n + 2
    omega
  | negSucc n =>
    have := h (n + 1)
    show ("-" ++ toString (n + 1)).toList.length ≤ n + 1 + 2
    rw [String.toList_append, List.length_append]
    show 1 + _ ≤ _
    omega
theorem go_strT {i : Int} {O : Sto} {Q : PV → Sto → Prop} (h : -1000000000000 ≤ i ∧ i ≤ 1000000000000) (k : Q (.str (tz i)) O) : Go (bStrI [.int i] O) Q := go_strI (log_ok h) k
theorem g_fmtT {i : Int} {Q : Str → Prop} (h : -1000000000000 ≤ i ∧ i ≤ 1000000000000) (k : Q (tz i)) : GFmt (.int i) Q := g_fmtI (log_ok h) k
theorem mul_1 (z : Str) : Txt.mul z 1 = z := rfl
theorem mul_0 (z : Str) : Txt.mul z 0 = Str.empty := rfl
theorem go_rep01 {z : Str} {b : Bool} {O : Sto} {Q : PV → Sto → Prop} (hz : z.length ≤ 1000) (k : Q (.str (if b = true then z else Str.empty)) O) : Go (repS (.str z) (.int (if b then 1 else 0)) O) Q := by
  unfold repS
  simp only
  have : mulOkS z (if b = true then 1 else 0) = true := by
    unfold mulOkS
    refine decide_eq_true ⟨by split <;> decide, by split <;> decide, ?_⟩
    cases b
    · simp
    · simp; omega
  rw [if_pos this]
  cases b
  · show Q (.str (Txt.mul z 0)) O
    rw [mul_0]; exact k
  · show Q (.str (Txt.mul z 1)) O
    rw [mul_1]; exact k
def minusZ (m : Int) : Str := if m < 0 then Str.ofString "-" else Str.empty
theorem e_minus_of {m : Int} {O : Sto} : m_minus_of [.int m] O = .ok (.str (minusZ m)) O := by
  refine Go.eq ?_
  walk_at "def"
  unfold minusZ
  refine qbr (fun c => ?_) (fun c => ?_)
  · walk_at "g"
    rw [if_pos c]
    exact ⟨rfl, rfl⟩
  · walk_at "g"
    rw [if_neg c]
    exact ⟨rfl, rfl⟩
theorem minusZ_len (m : Int) : (minusZ m).length ≤ 1 := by
  unfold minusZ
  split <;> decide
set_option hygiene false in
local macro_rules | `(tactic| walk_at "call") => `(tactic| ((with_reducible refine' go_at e_minus_of ?_)))
/-- a share of an inch, made as small as can be -/
def redF : Nat → Int → Int → Int × Int
  | 0, t, b => (t, b)
  | n + 1, t, b => if 0 < t ∧ t % 2 = 0 then redF n (t / 2) (b / 2) else (t, b)
def absI (m : Int) : Int := if m < 0 then -m else m
def red (m : Int) : Int × Int := redF 7 (absI m % 64) 64
def inchL (m : Int) : List Str := (if 0 < absI m / 64 ∨ (red m).1 = 0 then [tz (absI m / 64)] else []) ++ (if 0 < (red m).1 then [tz (red m).1 ++ Str.ofString "/" ++ tz (red m).2] else [])
def inchT (m : Int) : Str := minusZ m ++ Txt.join (Str.ofString " ") (inchL m)
theorem red_stop {n : Nat} {t b : Int} (h : ¬ (0 < t ∧ t % 2 = 0)) : redF n t b = (t, b) := by
  cases n with
  | zero => rfl
  | succ n => exact if_neg h
theorem red_step {n : Nat} {t b : Int} (h : 0 < t ∧ t % 2 = 0) : redF (n + 1) t b = redF n (t / 2) (b / 2) := if_pos h
theorem red_zero {n : Nat} {t b : Int} (h0 : 0 ≤ t) : (redF n t b).1 = 0 ↔ t = 0 := by
  induction n generalizing t b with
  | zero => exact Iff.rfl
  | succ n ih =>
    unfold redF
    split
    · rw [ih (by omega)]; omega
    · exact Iff.rfl
theorem red_bound {n : Nat} {t b : Int} (h0 : 0 ≤ t ∧ t < 64) (h1 : 0 ≤ b ∧ b ≤ 64) : (0 ≤ (redF n t b).1 ∧ (redF n t b).1 < 64) ∧ 0 ≤ (redF n t b).2 ∧ (redF n t b).2 ≤ 64 := by
  induction n generalizing t b with
  | zero => exact ⟨h0, h1⟩
  | succ n ih =>
    unfold redF
    split
    · exact ih (by omega) (by omega)
    · exact ⟨h0, h1⟩
theorem red_b (m : Int) : (0 ≤ (red m).1 ∧ (red m).1 < 64) ∧ 0 ≤ (red m).2 ∧ (red m).2 ≤ 64 := red_bound (by omega) (by omega)
theorem absI_b {m : Int} (h : -100000000 ≤ m ∧ m ≤ 100000000) : 0 ≤ absI m ∧ absI m ≤ 100000000 := by unfold absI; split <;> omega
theorem inch_len {m : Int} (h : -100000000 ≤ m ∧ m ≤ 100000000) : (inchT m).length ≤ 2000000 := by
  have h0 := absI_b h
  have h1 := tz_len (absI m / 64)
  have h2 := tz_len (red m).1
  have h3 := tz_len (red m).2
  have h4 := red_b m
  have h5 := minusZ_len m
  have l1 : (Str.ofString " ").length = 1 := rfl
  have l2 : (Str.ofString "/").length = 1 := rfl
  unfold inchT inchL
  rw [zl_app]
  have key : (Txt.join (Str.ofString " ") ((if 0 < absI m / 64 ∨ (red m).1 = 0 then [tz (absI m / 64)] else []) ++ (if 0 < (red m).1 then [tz (red m).1 ++ Str.ofString "/" ++ tz (red m).2] else []))).length ≤ 1999999 := by
    split <;> split
    · rw [List.singleton_append, join_2]
      simp only [zl_app]
      omega
    · rw [List.append_nil, join_1]
      omega
    · rw [List.nil_append, join_1]
      simp only [zl_app]
      omega
    · show (0 : Nat) ≤ _
      omega
  omega
/-- the loop that makes a share small, in the slots it and ib -/
theorem go_reds {K : Ks} {c : TF} {b : SF} {s : Slots} {O : Sto} {a : Int} (G : Int → Int → Slots) (ha : 0 ≤ a ∧ a < 64) (e0 : s = G a 64)
    (hc : ∀ t d : Int, 0 ≤ t → t < 64 → 0 ≤ d → d ≤ 64 → Go (c (G t d) O) fun k O1 => O1 = O ∧ (k = true ↔ 0 < t ∧ t % 2 = 0))
    (hb : ∀ t d : Int, 0 < t → t % 2 = 0 → ∀ K' : Ks, K'.nx (G (t / 2) (d / 2)) O → GoS K' (b (G t d) O))
    (inj : ∀ t d t' d', G t d = G t' d' → t = t' ∧ d = d')
    (k : K.nx (G (redF 7 a 64).1 (redF 7 a 64).2) O) : GoS K (sWhile c b s O) := by
  subst e0
  classical
  refine go_while (fun s1 O1 => ∃ (n : Nat) (t d : Int), s1 = G t d ∧ O1 = O ∧ redF n t d = redF 7 a 64 ∧ 0 ≤ t ∧ t < 2 ^ n ∧ t < 64 ∧ 0 ≤ d ∧ d ≤ 64) (fun s1 _ => if h : ∃ t d, s1 = G t d then (Classical.choose h).toNat else 0) ⟨7, a, 64, rfl, rfl, rfl, ha.1, by omega, ha.2, by omega, by omega⟩ fun s1 O1 hJ => ?_
  obtain ⟨n, t, d, rfl, rfl, e, t0, tn, t1, d0, d1⟩ := hJ
  have mu : ∀ t d : Int, (if h : ∃ t' d', G t d = G t' d' then (Classical.choose h).toNat else 0) = t.toNat := fun t d => by
    have hx : ∃ t' d', G t d = G t' d' := ⟨t, d, rfl⟩
    rw [dif_pos hx]
    obtain ⟨d', hd⟩ := Classical.choose_spec hx
    rw [← (inj _ _ _ _ hd).1]
  refine (hc t d t0 t1 d0 d1).mono fun k' O2 hk => ?_
  obtain ⟨rfl, hk⟩ := hk
  cases k' with
  | true =>
    rw [if_pos rfl]
    have h := hk.mp rfl
    cases n with
    | zero => exfalso; have : t < 1 := tn; omega
    | succ n =>
      refine hb t d h.1 h.2 _ ⟨⟨n, t / 2, d / 2, rfl, rfl, by rw [← red_step h]; exact e, by omega, ?_, by omega, by omega, by omega⟩, ?_⟩
      · have : (2 : Int) ^ (n + 1) = 2 ^ n * 2 := Int.pow_succ 2 n
        omega
      · show (if h : ∃ t' d', G (t / 2) (d / 2) = G t' d' then (Classical.choose h).toNat else 0) < (if h : ∃ t' d', G t d = G t' d' then (Classical.choose h).toNat else 0)
        rw [mu, mu]
        omega
  | false =>
    rw [if_neg Bool.false_ne_true]
    have hn : ¬ (0 < t ∧ t % 2 = 0) := fun z => Bool.false_ne_true (hk.mpr z)
    have e2 := red_stop (n := n) (b := d) hn
    rw [e] at e2
    rw [e2] at k
    exact k
theorem g_by_inches {m : Int} {O : Sto} {Q : PV → Sto → Prop} (h : -100000000 ≤ m ∧ m ≤ 100000000) (k : ∀ O', Fr O O' → Q (.str (inchT m)) O') : Go (m_by_inches [.int m] O) Q := by
  have h0 := absI_b h
  have h1 := tz_len (absI m / 64)
  have h2 := tz_len (red m).1
  have h3 := tz_len (red m).2
  have h4 := red_b m
  have h5 := minusZ_len m
  have h6 := inch_len h
  have l1 : (Str.ofString " ").length = 1 := rfl
  have l2 : (Str.ofString "/").length = 1 := rfl
  dsimp only [tz] at h1 h2 h3
  walk_at "def"
  rw [show (if m < 0 then -m else m) = absI m from rfl]
  walk_at "g"
  refine go_reds (fun t d => [some (.int m), some (.int d), none, some (.int (absI m / 64)), some (.int t)]) (a := absI m % 64) (by omega) rfl (fun t d t0 t1 d0 d1 => ?_) (fun t d t0 t1 K' hk => ?_) (fun t d t' d' e => by simp only [List.cons.injEq, Option.some.injEq, PV.int.injEq] at e; omega) ?_
  · walk_at "g"
    refine qbr (fun c => ?_) (fun c => ?_)
    · walk_at "g"
      exact ⟨rfl, by simp [c]⟩
    · exact ⟨rfl, by simp [c]⟩
  · walk_at "g"
    exact hk
  · rw [show redF 7 (absI m % 64) 64 = red m from rfl]
    have fin : ∀ ys O', inchL m = ys → Fr O O' → Q (.str (minusZ m ++ Txt.join (Str.ofString " ") ys)) O' := fun ys O' e f => by subst e; exact k O' f
    have z0 : (red m).1 = 0 ∨ 0 < (red m).1 := by omega
    have w0 : absI m / 64 = 0 ∨ 0 < absI m / 64 := by omega
    rcases w0 with w0 | w0 <;> rcases z0 with z0 | z0
    · walk_at "g"
      (try simp only [z_nil_l])
      exact fin _ _ (by unfold inchL; rw [if_pos (.inr z0), if_neg (by omega)]; try rfl) Fr.refl.app
    · walk_at "g"
      (try simp only [z_nil_l])
      exact fin _ _ (by unfold inchL; rw [if_neg (by omega), if_pos z0]; try rfl) Fr.refl.app
    · walk_at "g"
      (try simp only [z_nil_l])
      exact fin _ _ (by unfold inchL; rw [if_pos (.inr z0), if_neg (by omega)]; try rfl) Fr.refl.app
    · walk_at "g"
      (try simp only [z_nil_l])
      exact fin _ _ (by unfold inchL; rw [if_pos (.inl w0), if_pos z0]; try rfl) Fr.refl.app
/-- a number from 0 on in figures 0 and 1, all but the last figure -/
def dhd : Nat → Int → Str
  | 0, _ => Str.empty
  | k + 1, n => if n ≤ 1 then Str.empty else dhd k (n / 2) ++ tz (n / 2 % 2)
def dblT (n : Int) : Str := dhd 64 n ++ tz (n % 2)
theorem bit_len {n : Int} : (tz (n % 2)).length ≤ 3 := by
  have := tz_len (n % 2)
  omega
theorem dhd_len : ∀ (k : Nat) (n : Int), (dhd k n).length ≤ 3 * k
  | 0, n => by show Str.empty.length ≤ _; rw [zl_emp]; omega
  | k + 1, n => by
    unfold dhd
    split
    · rw [zl_emp]; omega
    · have := dhd_len k (n / 2)
      have := bit_len (n := n / 2)
      rw [zl_app]; omega
theorem dbl_len (n : Int) : (dblT n).length ≤ 200 := by
  have := dhd_len 64 n
  have := bit_len (n := n)
  unfold dblT
  rw [zl_app]; omega
theorem go_dbl {K : Ks} {c : TF} {b : SF} {O : Sto} {n : Int} (hn : 0 ≤ n ∧ n < 2 ^ 64)
    (hc : ∀ a t, Go (c [some (.int a), some (.str t)] O) fun k O1 => O1 = O ∧ k = decide (1 < a))
    (hb : ∀ a t, 1 < a → t.length ≤ 1000 → ∀ K' : Ks, K'.nx [some (.int (a / 2)), some (.str (tz (a / 2 % 2) ++ t))] O → GoS K' (b [some (.int a), some (.str t)] O))
    (k : ∀ a, K.nx [some (.int a), some (.str (dblT n))] O) : GoS K (sWhile c b [some (.int n), some (.str (tz (n % 2)))] O) := by
  refine go_while (fun s1 O1 => ∃ (j : Nat) (a : Int) (t : Str), s1 = [some (.int a), some (.str t)] ∧ O1 = O ∧ dblT n = dhd j a ++ t ∧ 0 ≤ a ∧ a < 2 ^ j ∧ t.length + 3 * j ≤ 200) (fun s1 _ => match s1 with | some (.int i) :: _ => i.toNat | _ => 0) ⟨64, n, tz (n % 2), rfl, rfl, rfl, hn.1, hn.2, by have := bit_len (n := n); omega⟩ fun s1 O1 hJ => ?_
  obtain ⟨j, a, t, rfl, rfl, e, a0, aj, tl⟩ := hJ
  refine (hc a t).mono fun k' O2 hk => ?_
  obtain ⟨rfl, rfl⟩ := hk
  by_cases h : 1 < a
  · rw [if_pos (decide_eq_true h)]
    cases j with
    | zero => exfalso; have : a < 1 := aj; omega
    | succ j =>
      have e1 : dhd (j + 1) a = dhd j (a / 2) ++ tz (a / 2 % 2) := if_neg (by omega)
      have l1 := bit_len (n := a / 2)
      refine hb a t h (by omega) _ ⟨⟨j, a / 2, _, rfl, rfl, by rw [e, e1, z_assoc], by omega, ?_, by rw [zl_app]; omega⟩, ?_⟩
      · have : (2 : Int) ^ (j + 1) = 2 ^ j * 2 := Int.pow_succ 2 j
        omega
      · show (a / 2).toNat < a.toNat
        omega
  · rw [if_neg (by rw [decide_eq_false h]; exact Bool.false_ne_true)]
    have e1 : dhd j a = Str.empty := by
      cases j with
      | zero => rfl
      | succ j => exact if_pos (by omega)
    rw [e1, z_nil_l] at e
    rw [← e]
    exact k a
theorem e_doubled {n : Int} {O : Sto} (h : 0 ≤ n ∧ n < 2 ^ 64) : m_doubled [.int n] O = .ok (.str (dblT n)) O := Go.eq (by
  walk_at "def"
  walk_at "g"
  refine go_dbl h (fun a t => ?_) (fun a t ha ht K' hk => ?_) fun a => ?_
  · walk_at "g"
    exact ⟨rfl, rfl⟩
  · have l1 := bit_len (n := a / 2)
    dsimp only [tz] at l1
    walk_at "g"
    exact hk
  · walk_at "g"
    exact ⟨rfl, rfl⟩)
set_option hygiene false in
local macro_rules | `(tactic| walk_at "call") => `(tactic| ((with_reducible refine' go_at (e_doubled ?h0) ?_); (case h0 => omega)))
theorem e__law_doubles {n : Int} {O : Sto} (h : 0 ≤ n ∧ n < 2 ^ 64) : m__law_doubles [.int n] O = .ok (.str (dblT n)) O := Go.eq (by
  walk_at "def"
  walk_at "g"
  refine go_dbl h (fun a t => ?_) (fun a t ha ht K' hk => ?_) fun a => ?_
  · walk_at "g"
    exact ⟨rfl, rfl⟩
  · have l1 := bit_len (n := a / 2)
    dsimp only [tz] at l1
    walk_at "g"
    exact hk
  · walk_at "g"
    exact ⟨rfl, rfl⟩)
set_option hygiene false in
local macro_rules | `(tactic| walk_at "call") => `(tactic| ((with_reducible refine' go_at (e__law_doubles ?h0) ?_); (case h0 => omega)))
theorem frac_eq : ∀ r : Fin 64, Txt.zfill (dblT ((r.val : Nat) : Int)) 6 = cutS (dblT (64 + ((r.val : Nat) : Int))) (some 1) none := by decide +kernel
theorem frac_len : ∀ r : Fin 64, (Txt.zfill (dblT ((r.val : Nat) : Int)) 6).length = 6 := by decide +kernel
def fracT (r : Int) : Str := Txt.zfill (dblT r) 6
theorem fracT_len {r : Int} (h : 0 ≤ r ∧ r < 64) : (fracT r).length = 6 := by
  have := frac_len ⟨r.toNat, by omega⟩
  rw [show (((⟨r.toNat, by omega⟩ : Fin 64).val : Nat) : Int) = r from by show ((r.toNat : Nat) : Int) = r; omega] at this
  exact this
theorem fracT_eq {r : Int} (h : 0 ≤ r ∧ r < 64) : cutS (dblT (64 + r)) (some 1) none = fracT r := by
  have := frac_eq ⟨r.toNat, by omega⟩
  rw [show (((⟨r.toNat, by omega⟩ : Fin 64).val : Nat) : Int) = r from by show ((r.toNat : Nat) : Int) = r; omega] at this
  exact this.symm
def halfT (m : Int) : Str := minusZ m ++ dblT (absI m / 64) ++ Str.ofString "." ++ fracT (absI m % 64)
theorem half_len (m : Int) : (halfT m).length ≤ 300 := by
  have h1 := minusZ_len m
  have h2 := dbl_len (absI m / 64)
  have h3 := fracT_len (r := absI m % 64) (by omega)
  have l : (Str.ofString ".").length = 1 := rfl
  unfold halfT
  simp only [zl_app]
  omega
theorem e_by_halves {m : Int} {O : Sto} (h : -100000000 ≤ m ∧ m ≤ 100000000) : m_by_halves [.int m] O = .ok (.str (halfT m)) O := Go.eq (by
  have h0 := absI_b h
  have h1 := minusZ_len m
  have h2 := dbl_len (absI m / 64)
  have h3 := fracT_len (r := absI m % 64) (by omega)
  have l : (Str.ofString ".").length = 1 := rfl
  have ea : (if m < 0 then -m else m) = absI m := rfl
  walk_at "def"
  rw [ea]
  walk_at "g"
  refine go_at (v := .str (fracT (absI m % 64))) (O1 := O) rfl ?_
  walk_at "g"
  exact ⟨rfl, rfl⟩)
set_option hygiene false in
local macro_rules | `(tactic| walk_at "call") => `(tactic| ((with_reducible refine' go_at (e_by_halves ?h0) ?_); (case h0 => omega)))
theorem tell_eq {m : Int} {ys : List Str} (e : inchL m = ys) : (if decide (m < 0) = true then Str.ofString "-" else Str.empty) ++ Txt.join (Str.ofString " ") ys = inchT m := by
  subst e
  unfold inchT minusZ
  simp only [decide_eq_true_eq]
theorem g__law_tell {m : Int} {O : Sto} {Q : PV → Sto → Prop} (h : -100000000 ≤ m ∧ m ≤ 100000000) (k : ∀ O', Fr O O' → Q (.str (inchT m)) O') : Go (m__law_tell [.int m, .str "inches"] O) Q := by
  have h0 := absI_b h
  have h1 := tz_len (absI m / 64)
  have h2 := tz_len (red m).1
  have h3 := tz_len (red m).2
  have h4 := red_b m
  have h6 := inch_len h
  have l1 : (Str.ofString " ").length = 1 := rfl
  have l2 : (Str.ofString "/").length = 1 := rfl
  have l3 : (if decide (m < 0) = true then Str.ofString "-" else Str.empty).length ≤ 1 := by split <;> decide
  dsimp only [tz] at h1 h2 h3
  have z0 : (red m).1 = 0 ∨ 0 < (red m).1 := by omega
  have r0 := red_zero (n := 7) (t := absI m % 64) (b := 64) (by omega)
  rw [show redF 7 (absI m % 64) 64 = red m from rfl] at r0
  have w0 : absI m / 64 = 0 ∨ 0 < absI m / 64 := by omega
  walk_at "def"
  rw [show (if m < 0 then -m else m) = absI m from rfl]
  have fin : ∀ ys O', inchL m = ys → Fr O O' → Q (.str ((if decide (m < 0) = true then Str.ofString "-" else Str.empty) ++ Txt.join (Str.ofString " ") ys)) O' := fun ys O' e f => by rw [tell_eq e]; exact k O' f
  rcases w0 with w0 | w0 <;> rcases z0 with z0 | z0
  all_goals
    walk_at "g"
    refine go_reds (fun t d => [some (.int m), some (.str "inches"), some (.loc O.length), some (.int d), some (.int (absI m / 64)), some (.int t), none, none]) (a := absI m % 64) (by omega) rfl (fun t d t0 t1 d0 d1 => ?_) (fun t d t0 t1 K' hk => ?_) (fun t d t' d' e => by simp only [List.cons.injEq, Option.some.injEq, PV.int.injEq] at e; omega) ?_
    · walk_at "g"
      refine qbr (fun c => ?_) (fun c => ?_)
      · walk_at "g"
        exact ⟨rfl, by simp [c]⟩
      · exact ⟨rfl, by simp [c]⟩
    · walk_at "g"
      exact hk
    · rw [show redF 7 (absI m % 64) 64 = red m from rfl]
      walk_at "g"
      refine fin _ _ ?_ (by walk_at "fr")
      unfold inchL
      first
        | (rw [if_pos (.inr z0), if_neg (by omega)]; try rfl)
        | (rw [if_neg (by omega), if_pos z0]; try rfl)
        | (rw [if_pos (.inl w0), if_pos z0]; try rfl)
set_option hygiene false in
local macro_rules | `(tactic| walk_at "call") => `(tactic| ((with_reducible refine' g__law_tell ?h0 ?_); (case h0 => omega); intro Ot frt))
theorem minus_eq {m : Int} : (if decide (m < 0) = true then Str.ofString "-" else Str.empty) = minusZ m := by
  unfold minusZ
  by_cases h : m < 0
  · rw [if_pos (decide_eq_true h), if_pos h]
  · rw [if_neg (by rw [decide_eq_false h]; exact Bool.false_ne_true), if_neg h]
theorem g__law_tellP {m : Int} {O : Sto} {Q : PV → Sto → Prop} (h : -100000000 ≤ m ∧ m ≤ 100000000) (k : ∀ O', Fr O O' → Q (.str (tz m)) O') : Go (m__law_tell [.int m, .str "parts"] O) Q := by
  walk_at "def"
  walk_at "g"
  exact k _ Fr.refl
theorem g__law_tellH {m : Int} {O : Sto} {Q : PV → Sto → Prop} (h : -100000000 ≤ m ∧ m ≤ 100000000) (k : ∀ O', Fr O O' → Q (.str (halfT m)) O') : Go (m__law_tell [.int m, .str "halves"] O) Q := by
  have h0 := absI_b h
  have h1 := minusZ_len m
  have h2 := dbl_len (absI m / 64)
  have h3 := fracT_len (r := absI m % 64) (by omega)
  have l : (Str.ofString ".").length = 1 := rfl
  have fe := fracT_eq (r := absI m % 64) (by omega)
  have l4 := dbl_len (64 + absI m % 64)
  walk_at "def"
  rw [show (if m < 0 then -m else m) = absI m from rfl]
  walk_at "g"
  rw [minus_eq]
  walk_at "g"
  refine go_at (v := .str (fracT (absI m % 64))) (O1 := O ++ [some (.lst [])]) ?_ ?_
  · show (if zOk (dblT (64 + absI m % 64)).length = true then PR.ok (PV.str (cutS (dblT (64 + absI m % 64)) (some 1) none)) _ else PR.bad) = _
    rw [if_pos (by unfold zOk; first | exact decide_eq_true (by omega) | (unfold sizeLine; exact decide_eq_true (by omega))), fe]
  walk_at "g"
  exact k _ (by walk_at "fr")
theorem edge_b {a b c z : Int} (ha : 0 ≤ a ∧ a < 2) (hb : 0 ≤ b ∧ b < 3) (hc : 0 ≤ c ∧ c < 2) (hz : -990000 ≤ z ∧ z ≤ 990000) : -1000000 ≤ (1 - 2 * a) * (z + (b - 1) * c) ∧ (1 - 2 * a) * (z + (b - 1) * c) ≤ 1000000 := by
  have h1 : a = 0 ∨ a = 1 := by omega
  have h2 : b = 0 ∨ b = 1 ∨ b = 2 := by omega
  have h3 : c = 0 ∨ c = 1 := by omega
  rcases h1 with rfl | rfl <;> rcases h2 with rfl | rfl | rfl <;> rcases h3 with rfl | rfl <;> omega
theorem g__law_edge {O0 O : Sto} {p : Nat} {Q : PV → Sto → Prop} (h : Ph O0 p O) (k : ∀ (r : Int) (O' : Sto), -1000000 ≤ r ∧ r ≤ 1000000 → Ph O0 p O' → Q (.int r) O') : Go (m__law_edge [.loc p] O) Q := by
  walk_at "def"
  walk_at "g"
  refine qbr (fun c => ?_) (fun c => ?_)
  · walk_at "g"
    exact k _ _ (edge_b (by omega) (by omega) (by omega) (by omega)) h
  · walk_at "g"
    exact k _ _ (by omega) h
set_option hygiene false in
local macro_rules | `(tactic| walk_at "call") => `(tactic| ((with_reducible refine' g__law_edge h ?_); clear h; intro r O rb h))
theorem bF {A B : Prop} {b : Bool} (h : b = false) (k : B) : if b = true then A else B := by rw [if_neg (by rw [h]; exact Bool.false_ne_true)]; exact k
theorem bT {A B : Prop} {b : Bool} (h : b = true) (k : A) : if b = true then A else B := by rw [if_pos h]; exact k
abbrev zat (zs : List Str) (i : Int) : Str := zs.getD i.toNat Str.empty
theorem atI_strs {zs : List Str} {i : Int} (h : 0 ≤ i ∧ i < (zs.length : Int)) : atI (zs.map PV.str) i = some (.str (zat zs i)) := by
  have hl : i.toNat < zs.length := by omega
  have e : atI (zs.map PV.str) ((i.toNat : Nat) : Int) = some (.str zs[i.toNat]) := atI_nat (by rw [List.getElem?_map, List.getElem?_eq_getElem hl]; rfl)
  rw [show ((i.toNat : Nat) : Int) = i by omega] at e
  rw [e]
  unfold zat
  rw [List.getD_eq_getElem?_getD, List.getElem?_eq_getElem hl]
  rfl
theorem go_ixZT {zs : List Str} {p : PV} {i : Int} {O : Sto} {Q : PV → Sto → Prop} (e : p = .tup (zs.map .str)) (h : 0 ≤ i ∧ i < (zs.length : Int)) (k : Q (.str (zat zs i)) O) : Go (ixT p (.int i) O) Q := by
  subst e
  exact go_ixT (atI_strs h) k
theorem go_ixZL {zs : List Str} {p : PV} {i : Int} {O : Sto} {Q : PV → Sto → Prop} (e : lstOf O p = some (zs.map .str)) (h : 0 ≤ i ∧ i < (zs.length : Int)) (k : Q (.str (zat zs i)) O) : Go (ixL p (.int i) O) Q := go_ixL e (atI_strs h) k
abbrev SOk (z : Str) : Prop := PyData.strOk z = true
theorem sok_iff {z : Str} : SOk z ↔ ∀ c ∈ TL.tl z, c < 0x110000 := by
  show (z.cps.all (· < 0x110000)) = true ↔ _
  rw [← Array.all_toList, List.all_eq_true]
  simp
theorem sok_of (s : String) : SOk (Str.ofString s) := by
  rw [sok_iff, TL.tl_ofString]
  intro c hc
  obtain ⟨x, _, rfl⟩ := List.mem_map.mp hc
  have h := x.valid
  unfold UInt32.isValidChar Nat.isValidChar at h
  show x.val.toNat < _
  omega
theorem sok_app {a b : Str} (ha : SOk a) (hb : SOk b) : SOk (a ++ b) := by
  rw [sok_iff] at *
  intro c hc
  rw [TL.tl_append] at hc
  exact (List.mem_append.mp hc).elim (ha c) (hb c)
theorem sok_emp : SOk Str.empty := by decide +kernel
theorem sok_join {z : Str} (hz : SOk z) : ∀ ys : List Str, (∀ y, y ∈ ys → SOk y) → SOk (Txt.join z ys)
  | [], _ => by rw [TL.join_eq]; exact sok_emp
  | [x], h => h x List.mem_cons_self
  | x :: y :: ys, h => by
    have e : Txt.join z (x :: y :: ys) = x ++ z ++ Txt.join z (y :: ys) := by rw [TL.join_eq, TL.join_eq]; rfl
    rw [e]
    exact sok_app (sok_app (h x List.mem_cons_self) hz) (sok_join hz (y :: ys) fun w hw => h w (List.mem_cons_of_mem _ hw))
theorem sok_zat {zs : List Str} (h : ∀ z, z ∈ zs → SOk z) (i : Int) : SOk (zat zs i) := by
  unfold zat
  rw [List.getD_eq_getElem?_getD]
  cases e : zs[i.toNat]? with
  | none => exact sok_emp
  | some z => exact h z (List.mem_of_getElem? e)
def onesZ : List Str := [Str.ofString "nothing", Str.ofString "one", Str.ofString "two", Str.ofString "three", Str.ofString "four", Str.ofString "five", Str.ofString "six", Str.ofString "seven", Str.ofString "eight", Str.ofString "nine", Str.ofString "ten", Str.ofString "eleven", Str.ofString "twelve", Str.ofString "thirteen", Str.ofString "fourteen", Str.ofString "fifteen", Str.ofString "sixteen", Str.ofString "seventeen", Str.ofString "eighteen", Str.ofString "nineteen"]
def tensZ : List Str := [Str.ofString "twenty", Str.ofString "thirty", Str.ofString "forty", Str.ofString "fifty", Str.ofString "sixty", Str.ofString "seventy", Str.ofString "eighty", Str.ofString "ninety"]
theorem zat_len {zs : List Str} {n : Nat} (h : ∀ z, z ∈ zs → z.length ≤ n) (i : Int) : (zat zs i).length ≤ n := by
  unfold zat
  rw [List.getD_eq_getElem?_getD]
  cases e : zs[i.toNat]? with
  | none => exact Nat.zero_le _
  | some z => exact h z (List.mem_of_getElem? e)
theorem ones_len (i : Int) : (zat onesZ i).length ≤ 12 := zat_len (by decide +kernel) i
theorem tens_len (i : Int) : (zat tensZ i).length ≤ 12 := zat_len (by decide +kernel) i
/-- a number from 1 to 99 in words -/
def cntT (w : Int) : Str := if w < 20 then zat onesZ w else if 0 < w % 10 then zat tensZ (w / 10 - 2) ++ (Str.ofString " " ++ zat onesZ (w % 10)) else zat tensZ (w / 10 - 2)
theorem cnt_len (w : Int) : (cntT w).length ≤ 30 := by
  have h1 := ones_len w
  have h2 := ones_len (w % 10)
  have h3 := tens_len (w / 10 - 2)
  have l : (Str.ofString " ").length = 1 := rfl
  unfold cntT
  split
  · omega
  · split
    · simp only [zl_app]; omega
    · omega
def cntL (w : Int) : List Str := if w = 0 then [] else [cntT w]
def shW : Nat → Int
  | 0 => 32 | 1 => 16 | 2 => 8 | 3 => 4 | 4 => 2 | 5 => 1 | _ => 0
def shN : Nat → Str
  | 0 => Str.ofString "a half" | 1 => Str.ofString "a quarter" | 2 => Str.ofString "an eighth" | 3 => Str.ofString "a sixteenth" | 4 => Str.ofString "a thirtysecond" | 5 => Str.ofString "a sixtyfourth" | _ => Str.empty
def bitL (c : Bool) (z : Str) : List Str := if c = true then [z] else []
/-- the first k shares of r parts -/
def shP (r : Int) : Nat → List Str
  | 0 => []
  | k + 1 => shP r k ++ bitL (decide (r / shW k % 2 = 1)) (shN k)
theorem shN_len (k : Nat) : (shN k).length ≤ 20 := by
  match k with
  | 0 => decide +kernel
  | 1 => decide +kernel
  | 2 => decide +kernel
  | 3 => decide +kernel
  | 4 => decide +kernel
  | 5 => decide +kernel
  | n + 6 => exact Nat.zero_le _
theorem shP_sum (r : Int) : ∀ k : Nat, ((shP r k).map (·.length)).sum ≤ 20 * k ∧ (shP r k).length ≤ k
  | 0 => ⟨Nat.le_refl _, Nat.le_refl _⟩
  | k + 1 => by
    have := shP_sum r k
    have := shN_len k
    unfold shP bitL
    split
    · simp only [List.map_append, List.sum_append, List.length_append, List.map_cons, List.map_nil, List.sum_cons, List.sum_nil, List.length_cons, List.length_nil]
      omega
    · simp only [List.append_nil]
      omega
theorem cntL_sum (w : Int) : ((cntL w).map (·.length)).sum ≤ 30 ∧ (cntL w).length ≤ 1 := by
  have := cnt_len w
  unfold cntL
  split
  · exact ⟨Nat.zero_le _, Nat.zero_le _⟩
  · simp only [List.map_cons, List.map_nil, List.sum_cons, List.sum_nil, List.length_cons, List.length_nil]
    omega
theorem joinsum_len (z : Str) : ∀ ys : List Str, (Txt.join z ys).length ≤ (ys.map (·.length)).sum + ys.length * z.length
  | [] => Nat.zero_le _
  | [x] => by
    rw [join_1]
    simp only [List.map_cons, List.map_nil, List.sum_cons, List.sum_nil]
    omega
  | x :: y :: ys => by
    have h := joinsum_len z (y :: ys)
    have e : Txt.join z (x :: y :: ys) = x ++ z ++ Txt.join z (y :: ys) := by rw [TL.join_eq, TL.join_eq]; rfl
    rw [e, zl_app, zl_app]
    simp only [List.map_cons, List.sum_cons, List.length_cons, Nat.add_mul, Nat.one_mul] at h ⊢
    omega
theorem sok_cnt (w : Int) : SOk (cntT w) := by
  have a := sok_zat (zs := onesZ) (by decide +kernel)
  have b := sok_zat (zs := tensZ) (by decide +kernel)
  unfold cntT
  split
  · exact a _
  · split
    · exact sok_app (b _) (sok_app (sok_of _) (a _))
    · exact b _
theorem sok_cntL (w : Int) : ∀ z, z ∈ cntL w → SOk z := by
  unfold cntL
  split
  · exact fun _ h => nomatch h
  · intro z hz
    rw [List.mem_singleton.mp hz]
    exact sok_cnt w
theorem sok_shP (r : Int) : ∀ (k : Nat) z, z ∈ shP r k → SOk z
  | 0, _, h => nomatch h
  | k + 1, z, h => by
    rcases List.mem_append.mp h with h | h
    · exact sok_shP r k z h
    · unfold bitL at h
      split at h
      · rw [List.mem_singleton.mp h]
        match k with
        | 0 => exact sok_of _
        | 1 => exact sok_of _
        | 2 => exact sok_of _
        | 3 => exact sok_of _
        | 4 => exact sok_of _
        | 5 => exact sok_of _
        | n + 6 => exact sok_emp
      · exact nomatch h
def wordL (m : Int) : List Str := cntL (absI m / 64) ++ shP (absI m % 64) 6
def wsign (m : Int) : Str := if m < 0 then Str.ofString "minus " else Str.empty
def wordT (m : Int) : Str := if m = 0 then Str.ofString "nothing" else wsign m ++ Txt.join (Str.ofString " and ") (wordL m)
theorem wordL_sum (m : Int) : ((wordL m).map (·.length)).sum + (wordL m).length * (Str.ofString " and ").length ≤ 200 := by
  have h1 := cntL_sum (absI m / 64)
  have h2 := shP_sum (absI m % 64) 6
  have l : (Str.ofString " and ").length = 5 := rfl
  unfold wordL
  rw [l, List.map_append, List.sum_append, List.length_append]
  omega
theorem wsign_len (m : Int) : (wsign m).length ≤ 6 := by unfold wsign; split <;> decide
theorem word_len (m : Int) : (wordT m).length ≤ 300 := by
  have h1 := wordL_sum m
  have h2 := joinsum_len (Str.ofString " and ") (wordL m)
  have h3 := wsign_len m
  unfold wordT
  split
  · decide
  · rw [zl_app]; omega
theorem app_set {O : Sto} {x y : Option PV} : (O ++ [x]).set O.length y = O ++ [y] := by
  rw [List.set_append_right _ _ (Nat.le_refl _), Nat.sub_self]
  rfl
theorem go_appM {O : Sto} {ys : List Str} {z : Str} {Q : PV → Sto → Prop} (h : ys.length ≤ 100) (k : Q .non (O ++ [some (.lst ((ys ++ [z]).map .str))])) : Go (appendP (.loc O.length) [.str z] (O ++ [some (.lst (ys.map .str))])) Q := by
  refine go_appN ?_ (ps' := (ys ++ [z]).map .str) ?_ k
  · exact Nat.ble_eq_true_of_le (by rw [List.length_map]; omega)
  · rw [List.map_append]; rfl
theorem shW_pos : ∀ k : Nat, k < 6 → 1 ≤ shW k ∧ shW k ≤ 32
  | 0, _ => by decide
  | 1, _ => by decide
  | 2, _ => by decide
  | 3, _ => by decide
  | 4, _ => by decide
  | 5, _ => by decide
  | n + 6, h => by omega
theorem go_extM {O : Sto} {ys zs : List Str} {q : PV} {Q : PV → Sto → Prop} (eq : q = .lst (zs.map .str)) (h : ys.length + zs.length ≤ 100) (k : Q .non (O ++ [some (.lst ((ys ++ zs).map .str))])) : Go (extendP (.loc O.length) [q] (O ++ [some (.lst (ys.map .str))])) Q := by
  subst eq
  refine go_extend get_app rfl ?_ ?_
  · unfold szOk sizeLine
    exact decide_eq_true (by rw [List.length_map, List.length_map]; omega)
  · rw [app_set, ← List.map_append]
    exact k
theorem toDL_strs : ∀ zs : List Str, toDL (zs.map .str) = some (zs.map .str)
  | [] => by simp [toDL]
  | z :: zs => by simp only [List.map_cons, toDL, toD0, toDL_strs zs]
theorem canLay_strs : ∀ zs : List Str, (∀ z, z ∈ zs → SOk z) → PyData.canLayAll0 (zs.map PyData.str) = true
  | [], _ => rfl
  | z :: zs, h => by
    show (PyData.canLay0 (.str z) && PyData.canLayAll0 (zs.map PyData.str)) = true
    rw [canLay_strs zs fun w hw => h w (List.mem_cons_of_mem _ hw), Bool.and_true]
    exact h z List.mem_cons_self
theorem depthAll_strs : ∀ zs : List Str, PyData.depthAll (zs.map PyData.str) ≤ 1
  | [] => by simp [PyData.depthAll]
  | z :: zs => by
    have h := depthAll_strs zs
    have h1 : (PyData.str z).depth = 0 := rfl
    simp only [List.map_cons, PyData.depthAll]
    omega
theorem shapedL_strs {zs : List Str} (hz : ∀ z, z ∈ zs → SOk z) : SeqAt.shaped (.list (zs.map PyData.str)) = true := by
  unfold SeqAt.shaped
  have h := depthAll_strs zs
  rw [decide_eq_true (by simp only [PyData.depth]; omega), Bool.and_true]
  show PyData.canLayAll0 _ = true
  exact canLay_strs zs hz
theorem eqv_strs : ∀ zs ws : List Str, PyData.eqvAll (zs.map PyData.str) (ws.map PyData.str) = decide (zs = ws)
  | [], [] => rfl
  | [], w :: ws => by rw [decide_eq_false (by simp)]; rfl
  | z :: zs, [] => by rw [decide_eq_false (by simp)]; rfl
  | a :: zs, b :: ws => by
    show (PyData.eqv (.str a) (.str b) && PyData.eqvAll (zs.map PyData.str) (ws.map PyData.str)) = _
    rw [eqv_strs zs ws]
    have e : PyData.eqv (.str a) (.str b) = decide (a = b) := by
      show (a == b) = decide (a = b)
      rw [Bool.eq_iff_iff]
      simp
    rw [e, ← Bool.decide_and, decide_eq_decide]
    simp
theorem toD_strs {O : Sto} {p : PV} {zs : List Str} (e : lstT O p = some (zs.map .str)) : toD O p = some (.list (zs.map .str)) := by
  unfold lstT at e
  split at e
  · cases e
    show (toDL (zs.map .str)).map PyData.list = _
    rw [toDL_strs]
    rfl
  · split at e
    · rename_i n ps h
      cases e
      simp only [toD, h, toDL_strs, Option.map_some]
    · cases e
  · cases e
theorem go_eqZL {O : Sto} {p q : PV} {zs ws : List Str} {Q : PV → Sto → Prop} (hz : ∀ z, z ∈ zs → SOk z) (hw : ∀ z, z ∈ ws → SOk z) (e1 : lstT O p = some (zs.map .str)) (e2 : lstT O q = some (ws.map .str)) (k : Q (.bl (decide (zs = ws))) O) : Go (eqD p q O) Q := by
  unfold eqD
  rw [toD_strs e1, toD_strs e2]
  simp only
  rw [if_pos (by rw [shapedL_strs hz, shapedL_strs hw]; rfl)]
  rw [show PyData.eqv (.list (zs.map .str)) (.list (ws.map .str)) = decide (zs = ws) from eqv_strs zs ws]
  exact k
theorem counts_eq : c_COUNTS = .tup (onesZ.map .str) := rfl
theorem tens_eq : c_TENS = .tup (tensZ.map .str) := rfl
theorem g_counted {w : Int} {O : Sto} {Q : PV → Sto → Prop} (h : 1 ≤ w ∧ w < 100) (k : Q (.str (cntT w)) O) : Go (m_counted [.int w] O) Q := by
  have h1 := ones_len w
  have h2 := ones_len (w % 10)
  have h3 := tens_len (w / 10 - 2)
  have l : (Str.ofString " ").length = 1 := rfl
  have l20 : onesZ.length = 20 := rfl
  have l8 : tensZ.length = 8 := rfl
  walk_at "def"
  simp only [List.length_cons, List.length_nil]
  refine qbr (fun c => ?_) (fun c => ?_)
  · walk_at "c"
    refine go_ixZT counts_eq (by rw [l20]; omega) ?_
    rw [show cntT w = zat onesZ w from if_pos (by omega)] at k
    exact k
  · have c : ¬ w < 20 := by omega
    walk_at "g"
    refine go_ixZT tens_eq (by rw [l8]; omega) ?_
    walk_at "c"
    refine qbr (fun d => ?_) (fun d => ?_)
    · walk_at "g"
      refine go_ixZT counts_eq (by rw [l20]; omega) ?_
      walk_at "g"
      rw [show cntT w = zat tensZ (w / 10 - 2) ++ (Str.ofString " " ++ zat onesZ (w % 10)) from (if_neg c).trans (if_pos d)] at k
      exact k
    · walk_at "g"
      rw [show cntT w = zat tensZ (w / 10 - 2) from (if_neg c).trans (if_neg d)] at k
      exact k
set_option hygiene false in
local macro_rules | `(tactic| walk_at "call") => `(tactic| ((with_reducible refine' g_counted ?h ?_); (case h => omega)))
abbrev xTL (m : Int) : PExc := ⟨.cls "TooLong", ["measure"], [.int m]⟩
def swT (a b : String) : Str := Str.ofString a ++ Str.ofString " " ++ Str.ofString b
theorem x_by_words {m : Int} {O : Sto} (h : 6400 ≤ absI m) : m_by_words [.int m] O = .exc (xTL m) O := by
  walk_at "xdef"
  walk_at "c"
  rw [show (if m < 0 then -m else m) = absI m from rfl]
  walk_at "g"
  refine gos_raiseI ?_
  walk_at "c"
  exact ⟨_, rfl, rfl, rfl⟩
set_option maxHeartbeats 8000000 in
theorem g_by_words {m : Int} {O : Sto} {Q : PV → Sto → Prop} (h : absI m < 6400) (k : ∀ O', Fr O O' → Q (.str (wordT m)) O') : Go (m_by_words [.int m] O) Q := by
  have h0 : 0 ≤ absI m := by unfold absI; split <;> omega
  have hs := wordL_sum m
  have hj := joinsum_len (Str.ofString " and ") (wordL m)
  have hw := wsign_len m
  have l5 : (Str.ofString " and ").length = 5 := rfl
  walk_at "def"
  rw [show (if m < 0 then -m else m) = absI m from rfl]
  walk_at "g"
  refine qbr (fun c => ?_) (fun c => ?_)
  · walk_at "g"
    refine go_ixZT counts_eq (by decide) ?_
    have e : wordT m = Str.ofString "nothing" := if_pos c
    have k2 := k O Fr.refl
    rw [e] at k2
    exact k2
  have fin : ∀ O', Fr O O' → Q (.str (wsign m ++ Txt.join (Str.ofString " and ") (cntL (absI m / 64) ++ shP (absI m % 64) 6))) O' := fun O' f => by
    have := k O' f
    rw [show wordT m = wsign m ++ Txt.join (Str.ofString " and ") (wordL m) from if_neg c] at this
    exact this
  have loop : ∀ (K : Ks) (B : SF) (w : Int) (pre : List Str) (x6 x7 : Option PV), pre.length ≤ 2 → B = (sSeq (sIf (tTst (eOp geI (eVar 5) (eVar 2))) (sSeq (sExp (eBml appendP (eVar 1) (aCons (eOp addS (eOp addS (eVar 6) (eC (.str " "))) (eVar 7)) aNil)))
    (sAug 5 subI (eVar 2))) sSkip) (sAug 2 fdivI (eC (.int 2)))) →
      (∀ x2 x5 x6 x7, K.nx [some (.int m), some (.loc O.length), x2, none, some (.int w), x5, x6, x7] (O ++ [some (.lst ((pre ++ shP (absI m % 64) 6).map .str))])) →
      GoS K (loopL none (gTupP 2 (gConsP (gNm 6) (gConsP (gNm 7) gNilP))) B (match c_SHARES with | .tup ps => ps | _ => []) [some (.int m), some (.loc O.length), some (.int 32), none, some (.int w), some (.int (absI m % 64)), x6, x7] (O ++ [some (.lst (pre.map .str))])) := by
    intro K B w pre x6 x7 hp eB kk
    subst eB
    have hr : 0 ≤ absI m % 64 ∧ absI m % 64 < 64 := by omega
    generalize absI m % 64 = r at hr kk ⊢
    refine go_loop (fun j s O1 => ∃ x2 x5 x6 x7, s = [some (.int m), some (.loc O.length), x2, none, some (.int w), x5, x6, x7] ∧ O1 = O ++ [some (.lst ((pre ++ shP r j).map .str))] ∧ (j < 6 → x2 = some (.int (shW j)) ∧ x5 = some (.int (r % (2 * shW j))))) _ 0 _ _ ⟨_, _, _, _, rfl, by simp [shP], fun _ => ⟨rfl, by rw [show (2 * shW 0 : Int) = 64 from rfl, Int.emod_eq_of_lt hr.1 hr.2]⟩⟩ (fun i p s O1 e hJ => ?_) (fun s O1 hJ => ?_)
    · obtain ⟨x2, x5, x6, x7, rfl, rfl, hx⟩ := hJ
      have hi : i < 6 := (List.getElem?_eq_some_iff.mp e).1
      obtain ⟨rfl, rfl⟩ := hx (by omega)
      rw [Nat.zero_add]
      have sl := (shP_sum r i).2
      have plen : (pre ++ shP r i).length ≤ 100 := by rw [List.length_append]; omega
      have step : ∀ (c : Bool) (z : Str), c = decide (r / shW i % 2 = 1) → z = shN i → pre ++ shP r i ++ bitL c z = pre ++ shP r (i + 1) := fun c z e1 e2 => by subst e1; subst e2; rw [List.append_assoc]; rfl
      obtain ⟨a, b, ep, en⟩ : ∃ a b : Str, p = .tup [.str a, .str b] ∧ a ++ Str.ofString " " ++ b = shN i ∧ a.length + b.length ≤ 100 := by
        match i, hi, e with
        | 0, _, e => cases e; exact ⟨_, _, rfl, by decide +kernel, by decide⟩
        | 1, _, e => cases e; exact ⟨_, _, rfl, by decide +kernel, by decide⟩
        | 2, _, e => cases e; exact ⟨_, _, rfl, by decide +kernel, by decide⟩
        | 3, _, e => cases e; exact ⟨_, _, rfl, by decide +kernel, by decide⟩
        | 4, _, e => cases e; exact ⟨_, _, rfl, by decide +kernel, by decide⟩
        | 5, _, e => cases e; exact ⟨_, _, rfl, by decide +kernel, by decide⟩
      subst ep
      obtain ⟨en, lab⟩ := en
      have l1 : (Str.ofString " ").length = 1 := rfl
      have wp := shW_pos i hi
      have nxt : i + 1 < 6 → shW i = 2 * shW (i + 1) := by
        match i, hi with
        | 0, _ => exact fun _ => rfl
        | 1, _ => exact fun _ => rfl
        | 2, _ => exact fun _ => rfl
        | 3, _ => exact fun _ => rfl
        | 4, _ => exact fun _ => rfl
        | 5, _ => exact fun h => by omega
      have bit : (shW i ≤ r % (2 * shW i) ↔ r / shW i % 2 = 1) ∧ (shW i ≤ r % (2 * shW i) → r % (2 * shW i) - shW i = r % shW i) ∧ (¬ shW i ≤ r % (2 * shW i) → r % (2 * shW i) = r % shW i) := by
        match i, hi with
        | 0, _ => exact ⟨by show (32 : Int) ≤ r % 64 ↔ r / 32 % 2 = 1; omega, by show (32 : Int) ≤ r % 64 → r % 64 - 32 = r % 32; omega, by show ¬ (32 : Int) ≤ r % 64 → r % 64 = r % 32; omega⟩
        | 1, _ => exact ⟨by show (16 : Int) ≤ r % 32 ↔ r / 16 % 2 = 1; omega, by show (16 : Int) ≤ r % 32 → r % 32 - 16 = r % 16; omega, by show ¬ (16 : Int) ≤ r % 32 → r % 32 = r % 16; omega⟩
        | 2, _ => exact ⟨by show (8 : Int) ≤ r % 16 ↔ r / 8 % 2 = 1; omega, by show (8 : Int) ≤ r % 16 → r % 16 - 8 = r % 8; omega, by show ¬ (8 : Int) ≤ r % 16 → r % 16 = r % 8; omega⟩
        | 3, _ => exact ⟨by show (4 : Int) ≤ r % 8 ↔ r / 4 % 2 = 1; omega, by show (4 : Int) ≤ r % 8 → r % 8 - 4 = r % 4; omega, by show ¬ (4 : Int) ≤ r % 8 → r % 8 = r % 4; omega⟩
        | 4, _ => exact ⟨by show (2 : Int) ≤ r % 4 ↔ r / 2 % 2 = 1; omega, by show (2 : Int) ≤ r % 4 → r % 4 - 2 = r % 2; omega, by show ¬ (2 : Int) ≤ r % 4 → r % 4 = r % 2; omega⟩
        | 5, _ => exact ⟨by show (1 : Int) ≤ r % 2 ↔ r / 1 % 2 = 1; omega, by show (1 : Int) ≤ r % 2 → r % 2 - 1 = r % 1; omega, by show ¬ (1 : Int) ≤ r % 2 → r % 2 = r % 1; omega⟩
      generalize shW i = W at wp nxt bit step ⊢
      walk_at "c"
      refine qbr (fun d => ?_) (fun d => ?_)
      · walk_at "g"
        refine go_appM plen ?_
        rw [en]
        walk_at "g"
        refine ⟨_, _, _, _, rfl, ?_, fun hi2 => ?_⟩
        · rw [← step true (shN i) (by rw [decide_eq_true (bit.1.mp d)]) rfl]; rfl
        · rw [bit.2.1 d, nxt hi2]
          exact ⟨by congr 2; omega, rfl⟩
      · walk_at "g"
        refine ⟨_, _, _, _, rfl, ?_, fun hi2 => ?_⟩
        · rw [← step false (shN i) (by rw [decide_eq_false (fun z => d (bit.1.mpr z))]) rfl]; simp [bitL]
        · rw [bit.2.2 d, nxt hi2]
          exact ⟨by congr 2; omega, rfl⟩
    · obtain ⟨x2, x5, x6, x7, rfl, rfl, _⟩ := hJ
      exact kk x2 x5 x6 x7
  walk_at "g"
  have w0 : absI m / 64 = 0 ∨ 0 < absI m / 64 := by omega
  have done : ∀ (pre : List Str) (sg : Str), cntL (absI m / 64) = pre → wsign m = sg → Go (joinP (.str (Str.ofString " and ")) [.loc O.length] (O ++ [some (.lst ((pre ++ shP (absI m % 64) 6).map .str))])) fun q O2 => Go (addS (.str sg) q O2) Q := by
    intro pre sg e1 e2
    subst e1
    subst e2
    refine go_joinN (strsOf_map _) (by unfold wordL at hs; omega) ?_
    refine go_addS (by unfold wordL at hs hj; omega) ?_
    exact fin _ Fr.refl.app
  rcases w0 with w0 | w0
  · walk_at "g"
    refine loop _ _ _ [] _ _ (by decide) rfl fun x2 x5 x6 x7 => ?_
    walk_at "g"
    refine qbr (fun d => ?_) (fun d => ?_)
    · walk_at "g"
      exact done [] _ (if_pos w0) (if_pos d)
    · walk_at "g"
      exact done [] _ (if_pos w0) (if_neg d)
  · walk_at "g"
    refine loop _ _ _ [cntT (absI m / 64)] _ _ (by simp) rfl fun x2 x5 x6 x7 => ?_
    walk_at "g"
    refine qbr (fun d => ?_) (fun d => ?_)
    · walk_at "g"
      exact done _ _ (if_neg (by omega)) (if_pos d)
    · walk_at "g"
      exact done _ _ (if_neg (by omega)) (if_neg d)
theorem zat_cons {z : Str} {zs : List Str} {i : Int} (h : 1 ≤ i) : zat (z :: zs) i = zat zs (i - 1) := by
  unfold zat
  have e : i.toNat = (i - 1).toNat + 1 := by omega
  rw [e]
  rfl
abbrev onesE : List Str := Str.ofString "" :: onesZ.tail
abbrev tensE : List Str := Str.ofString "" :: Str.ofString "" :: tensZ
theorem onesE_eq {i : Int} (h : 1 ≤ i) : zat onesE i = zat onesZ i := by
  rw [show onesZ = Str.ofString "nothing" :: onesZ.tail from rfl, zat_cons h, zat_cons h]
theorem tensE_eq {i : Int} (h : 2 ≤ i) : zat tensE i = zat tensZ (i - 2) := by
  rw [zat_cons (by omega), zat_cons (by omega)]
  congr 1
  omega
theorem g__law_counted {w : Int} {O : Sto} {Q : PV → Sto → Prop} (h : 0 ≤ w ∧ w < 100) (k : Q (.loc O.length) (O ++ [some (.lst ((cntL w).map .str))])) : Go (m__law_counted [.int w] O) Q := by
  have h1 := ones_len w
  have h2 := ones_len (w % 10)
  have h3 := tens_len (w / 10 - 2)
  have l : (Str.ofString " ").length = 1 := rfl
  have l20 : onesE.length = 20 := rfl
  have l8 : tensE.length = 10 := rfl
  walk_at "def"
  refine qbr (fun c => ?_) (fun c => ?_)
  · walk_at "c"
    rw [show cntL w = [] from if_pos c] at k
    exact k
  have ec : cntL w = [cntT w] := if_neg c
  rw [ec] at k
  walk_at "c"
  refine qbr (fun d => ?_) (fun d => ?_)
  · walk_at "c"
    refine go_ixZL (zs := onesE) rfl (by rw [l20]; omega) ?_
    rw [onesE_eq (by omega)]
    walk_at "c"
    rw [show cntT w = zat onesZ w from if_pos d] at k
    exact k
  · walk_at "g"
    refine go_ixZL (zs := tensE) rfl (by rw [l8]; omega) ?_
    rw [tensE_eq (by omega)]
    walk_at "g"
    have e : (if decide (0 < w % 10) = true then Str.ofString " " else Str.empty).length ≤ 1 := by split <;> decide
    walk_at "g"
    refine go_ixZL (zs := onesE) rfl (by rw [l20]; omega) ?_
    have e3 : (zat onesE (w % 10)).length ≤ 12 := zat_len (by decide +kernel) _
    walk_at "g"
    have ft : zat tensZ (w / 10 - 2) ++ (if decide (0 < w % 10) = true then Str.ofString " " else Str.empty) ++ zat onesE (w % 10) = cntT w := by
      unfold cntT
      rw [if_neg d]
      by_cases q : 0 < w % 10
      · rw [if_pos (decide_eq_true q), if_pos q, onesE_eq (by omega), z_assoc]
      · rw [if_neg (by rw [decide_eq_false q]; exact Bool.false_ne_true), if_neg q, show w % 10 = 0 by omega, z_nil_r]
        exact z_nil_r _
    rw [← ft] at k
    exact k
set_option hygiene false in
local macro_rules | `(tactic| walk_at "call") => `(tactic| ((with_reducible refine' g__law_counted ?h ?_); (case h => omega)))
theorem lif_len6 {c : Prop} [Decidable c] : (if c then Str.ofString "minus " else Str.empty).length ≤ 6 := by
  split <;> decide
theorem rep_bit {b : Int} {z : Str} (h : b = 0 ∨ b = 1) : (List.replicate b.toNat [PV.str z]).flatten = (bitL (decide (b = 1)) z).map PV.str := by
  rcases h with rfl | rfl <;> rfl
theorem wordL_nil {m : Int} (h : absI m < 6400) : wordL m = [] ↔ m = 0 := by
  have h0 : 0 ≤ absI m := by unfold absI; split <;> omega
  have hm : absI m = 0 ↔ m = 0 := by unfold absI; split <;> omega
  have key : ∀ w r : Int, 0 ≤ r → r < 64 → (cntL w ++ shP r 6 = [] ↔ w = 0 ∧ r = 0) := by
    intro w r r0 r1
    constructor
    · intro e
      obtain ⟨e1, e2⟩ := List.append_eq_nil_iff.mp e
      have w0 : w = 0 := by
        by_cases q : w = 0
        · exact q
        · rw [show cntL w = [cntT w] from if_neg q] at e1; cases e1
      refine ⟨w0, ?_⟩
      simp only [shP, List.append_eq_nil_iff, List.nil_append] at e2
      have nb : ∀ (c : Int) (z : Str), bitL (decide (c = 1)) z = [] → c ≠ 1 := fun c z e q => by
        rw [decide_eq_true q] at e; cases e
      obtain ⟨⟨⟨⟨⟨b0, b1⟩, b2⟩, b3⟩, b4⟩, b5⟩ := e2
      have a0 : r / 32 % 2 ≠ 1 := nb _ _ b0
      have a1 : r / 16 % 2 ≠ 1 := nb _ _ b1
      have a2 : r / 8 % 2 ≠ 1 := nb _ _ b2
      have a3 : r / 4 % 2 ≠ 1 := nb _ _ b3
      have a4 : r / 2 % 2 ≠ 1 := nb _ _ b4
      have a5 : r / 1 % 2 ≠ 1 := nb _ _ b5
      omega
    · rintro ⟨rfl, rfl⟩
      rfl
  unfold wordL
  rw [key _ _ (by omega) (by omega)]
  omega
set_option maxHeartbeats 8000000 in
theorem g__law_tellW {m : Int} {O : Sto} {Q : PV → Sto → Prop} (h : absI m < 6400) (k : ∀ O', Fr O O' → Q (.str (wordT m)) O') : Go (m__law_tell [.int m, .str "words"] O) Q := by
  have h0 : 0 ≤ absI m := by unfold absI; split <;> omega
  have hs := wordL_sum m
  have hj := joinsum_len (Str.ofString " and ") (wordL m)
  have l5 : (Str.ofString " and ").length = 5 := rfl
  have mb : -100000000 ≤ m ∧ m ≤ 100000000 := by unfold absI at h; split at h <;> omega
  walk_at "def"
  rw [show (if m < 0 then -m else m) = absI m from rfl]
  walk_at "g"
  generalize eO : O ++ [some (PV.lst [])] = O2
  have f2 : Fr O O2 := by subst eO; exact Fr.refl.app
  have hr : 0 ≤ absI m % 64 ∧ absI m % 64 < 64 := by omega
  have cl := (cntL_sum (absI m / 64)).2
  have fin : ∀ O', Fr O2 O' → m ≠ 0 → Q (.str (wsign m ++ Txt.join (Str.ofString " and ") (cntL (absI m / 64) ++ shP (absI m % 64) 6))) O' := fun O' f c => by
    have := k O' (f2.trans f)
    rw [show wordT m = wsign m ++ Txt.join (Str.ofString " and ") (wordL m) from if_neg c] at this
    exact this
  have nil := wordL_nil (m := m) h
  unfold wordL at hs hj nil
  generalize absI m / 64 = w at *
  generalize absI m % 64 = r at *
  refine go_loop (fun j s O1 => ∃ x6 x7, s = [some (.int m), some (.str "words"), some (.loc O2.length), none, some (.int w), some (.int r), x6, x7] ∧ O1 = O2 ++ [some (.lst ((cntL w ++ shP r j).map .str))]) _ 0 _ _ ⟨_, _, rfl, by simp [shP]⟩ (fun i p s O1 e hJ => ?_) (fun s O1 hJ => ?_)
  · obtain ⟨x6, x7, rfl, rfl⟩ := hJ
    have hi : i < 4 := (List.getElem?_eq_some_iff.mp e).1
    rw [Nat.zero_add]
    have sl := (shP_sum r i).2
    have plen : (cntL w ++ shP r i).length ≤ 100 := by rw [List.length_append]; omega
    have step : ∀ (c : Bool) (z : Str), c = decide (r / shW i % 2 = 1) → z = shN i → cntL w ++ shP r i ++ bitL c z = cntL w ++ shP r (i + 1) := fun c z e1 e2 => by subst e1; subst e2; rw [List.append_assoc]; rfl
    have ep : p = .tup [.int (shW i), .str (shN i)] := by
      match i, hi, e with
      | 0, _, e => cases e; rfl
      | 1, _, e => cases e; rfl
      | 2, _, e => cases e; rfl
      | 3, _, e => cases e; rfl
    subst ep
    have wp := shW_pos i (by omega)
    generalize shW i = W at wp step ⊢
    walk_at "c"
    refine qbr (fun d => ?_) (fun d => ?_)
    · walk_at "g"
      refine go_appM plen ?_
      walk_at "g"
      exact ⟨_, _, rfl, by rw [← step true (shN i) (by rw [decide_eq_true d]) rfl]; rfl⟩
    · walk_at "g"
      exact ⟨_, _, rfl, by rw [← step false (shN i) (by rw [decide_eq_false d]) rfl]; simp [bitL]⟩
  · have hJ : ∃ x6 x7, s = [some (.int m), some (.str "words"), some (.loc O2.length), none, some (.int w), some (.int r), x6, x7] ∧ O1 = O2 ++ [some (.lst ((cntL w ++ shP r 4).map .str))] := hJ
    obtain ⟨x6, x7, rfl, rfl⟩ := hJ
    have sl := (shP_sum r 4).2
    have bl : ∀ (c : Bool) (z : Str), (bitL c z).length ≤ 1 := fun c z => by unfold bitL; split <;> simp
    walk_at "g"
    refine go_repL rfl (by unfold szOk sizeLine; simp only [Bool.and_eq_true, decide_eq_true_eq, List.length_cons, List.length_nil]; omega) (rep_bit (by omega)) ?_
    walk_at "c"
    have b1 := bl (decide (r / 2 % 2 = 1)) (Str.ofString "a thirtysecond")
    refine go_extM rfl (by rw [List.length_append]; omega) ?_
    walk_at "g"
    refine go_repL rfl (by unfold szOk sizeLine; simp only [Bool.and_eq_true, decide_eq_true_eq, List.length_cons, List.length_nil]; omega) (rep_bit (by omega)) ?_
    walk_at "c"
    have b2 := bl (decide (r % 2 = 1)) (Str.ofString "a sixtyfourth")
    refine go_extM rfl (by rw [List.length_append, List.length_append]; omega) ?_
    have e6 : cntL w ++ shP r 4 ++ bitL (decide (r / 2 % 2 = 1)) (Str.ofString "a thirtysecond") ++ bitL (decide (r % 2 = 1)) (Str.ofString "a sixtyfourth") = cntL w ++ shP r 6 := by
      rw [List.append_assoc, List.append_assoc, ← List.append_assoc (shP r 4)]
      congr 2
      show _ = bitL (decide (r / 1 % 2 = 1)) _
      rw [Int.ediv_one]
      rfl
    rw [e6]
    walk_at "g"
    refine go_eqZL (zs := cntL w ++ shP r 6) (ws := []) (fun z hz => (List.mem_append.mp hz).elim (sok_cntL w z) (sok_shP r 6 z)) (fun z hz => nomatch hz) (lstT_loc get_app) rfl ?_
    walk_at "c"
    refine qbr (fun d => ?_) (fun d => ?_)
    · walk_at "c"
      have k2 := k (O2 ++ [some (.lst ((cntL w ++ shP r 6).map .str))]) (f2.trans Fr.refl.app)
      rw [show wordT m = Str.ofString "nothing" from if_pos (nil.mp d)] at k2
      exact k2
    · have m0 : m ≠ 0 := fun z => d (nil.mpr z)
      have i6 := lif_len6 (c := decide (m < 0) = true)
      walk_at "g"
      have hj2 := Nat.le_trans hj hs
      refine go_joinN (strsOf_map _) (Nat.le_trans hs (by decide)) ?_
      walk_at "g"
      have e : (if decide (m < 0) = true then Str.ofString "minus " else Str.empty) = wsign m := by
        unfold wsign
        simp only [decide_eq_true_eq]
      rw [e]
      exact fin _ Fr.refl.app m0
inductive Md where
  | p | i | h | w
def Md.z : Md → Str
  | .p => Str.ofString "parts" | .i => Str.ofString "inches" | .h => Str.ofString "halves" | .w => Str.ofString "words"
def Md.t : Md → Int → Str
  | .p => tz | .i => inchT | .h => halfT | .w => wordT
def Md.ok : Md → Int → Prop
  | .w, m => absI m < 6400
  | _, _ => True
theorem sok_minus (m : Int) : SOk (minusZ m) := by unfold minusZ; split <;> first | exact sok_of _ | exact sok_emp
theorem sok_tz (m : Int) : SOk (tz m) := sok_of _
theorem sok_dhd : ∀ (k : Nat) (n : Int), SOk (dhd k n)
  | 0, _ => sok_emp
  | k + 1, n => by
    unfold dhd
    split
    · exact sok_emp
    · exact sok_app (sok_dhd k _) (sok_tz _)
theorem sok_dbl (n : Int) : SOk (dblT n) := sok_app (sok_dhd _ _) (sok_tz _)
theorem frac_sok : ∀ r : Fin 64, SOk (Txt.zfill (dblT ((r.val : Nat) : Int)) 6) := by decide +kernel
theorem sok_frac {r : Int} (h : 0 ≤ r ∧ r < 64) : SOk (fracT r) := by
  have := frac_sok ⟨r.toNat, by omega⟩
  rw [show (((⟨r.toNat, by omega⟩ : Fin 64).val : Nat) : Int) = r from by show ((r.toNat : Nat) : Int) = r; omega] at this
  exact this
theorem sok_inch (m : Int) : SOk (inchT m) := by
  refine sok_app (sok_minus m) (sok_join (sok_of _) _ fun y hy => ?_)
  unfold inchL at hy
  rcases List.mem_append.mp hy with hy | hy
  · split at hy
    · rw [List.mem_singleton.mp hy]; exact sok_tz _
    · exact nomatch hy
  · split at hy
    · rw [List.mem_singleton.mp hy]; exact sok_app (sok_app (sok_tz _) (sok_of _)) (sok_tz _)
    · exact nomatch hy
theorem sok_half (m : Int) : SOk (halfT m) := sok_app (sok_app (sok_app (sok_minus m) (sok_dbl _)) (sok_of _)) (sok_frac (by omega))
theorem sok_word (m : Int) : SOk (wordT m) := by
  unfold wordT
  split
  · exact sok_of _
  · refine sok_app ?_ (sok_join (sok_of _) _ fun y hy => (List.mem_append.mp hy).elim (sok_cntL _ y) (sok_shP _ _ y))
    unfold wsign
    split <;> first | exact sok_of _ | exact sok_emp
theorem sok_md (d : Md) (m : Int) : SOk (d.t m) := by
  cases d
  · exact sok_tz m
  · exact sok_inch m
  · exact sok_half m
  · exact sok_word m
theorem goe_false {α : Type} {r : PR α} {Q : α → Sto → Prop} (h : GoE (fun _ _ => False) r Q) : Go r Q := by
  cases r <;> exact h
theorem e_by_parts {m : Int} {O : Sto} (h : -1000000 ≤ m ∧ m ≤ 1000000) : m_by_parts [.int m] O = .ok (.str (tz m)) O := Go.eq (by
  walk_at "def"
  walk_at "g"
  exact ⟨rfl, rfl⟩)
theorem g_shown {d : Md} {m : Int} {O : Sto} {Q : PV → Sto → Prop} (h : -1000000 ≤ m ∧ m ≤ 1000000) (hd : d.ok m) (k : ∀ O', Fr O O' → Q (.str (d.t m)) O') : Go (m_shown [.int m, .str d.z] O) Q := by
  have h0 := absI_b (m := m) (by omega)
  cases d with
  | p =>
    walk_at "def"
    refine go_ixKd (r := .cls "by_parts") (by kernel_rfl) ?_
    walk_at "c"
    refine goe_false (goe_callTX0 (m := m_by_parts) rfl (by kernel_rfl) ?_)
    walk_at "c"
    exact go_at (e_by_parts h) (k _ Fr.refl)
  | i =>
    walk_at "def"
    refine go_ixKd (r := .cls "by_inches") (by kernel_rfl) ?_
    walk_at "c"
    refine goe_false (goe_callTX0 (m := m_by_inches) rfl (by kernel_rfl) ?_)
    walk_at "c"
    exact g_by_inches (by omega) k
  | h =>
    walk_at "def"
    refine go_ixKd (r := .cls "by_halves") (by kernel_rfl) ?_
    walk_at "c"
    refine goe_false (goe_callTX0 (m := m_by_halves) rfl (by kernel_rfl) ?_)
    walk_at "c"
    exact go_at (e_by_halves (by omega)) (k _ Fr.refl)
  | w =>
    walk_at "def"
    refine go_ixKd (r := .cls "by_words") (by kernel_rfl) ?_
    walk_at "c"
    refine goe_false (goe_callTX1 (m := m_by_words) rfl (by kernel_rfl) ?_)
    walk_at "c"
    exact goe_go (g_by_words hd k)
theorem x_shown {m : Int} {O : Sto} (h : 6400 ≤ absI m) : m_shown [.int m, .str "words"] O = .exc (xTL m) O := by
  walk_at "xdef"
  refine go_seq (go_asg ?_)
  walk_at "c"
  refine go_ixKd (r := .cls "by_words") (by kernel_rfl) ?_
  refine go_nm rfl (gos_retE (goe_callTX1 (m := m_by_words) rfl (by kernel_rfl) ?_))
  walk_at "c"
  exact goe_at (x_by_words h) ⟨rfl, rfl⟩
theorem e_is_way {d : Md} {O : Sto} : m_is_way [.str d.z] O = .ok (.bl true) O := Go.eq (by
  cases d <;>
  · walk_at "def"
    refine go_inKd (b := true) (by kernel_rfl) ?_
    exact ⟨rfl, rfl⟩)
theorem e_check_way {d : Md} {O : Sto} : m_check_way [.str d.z] O = .ok .non O := Go.eq (by
  walk_at "def"
  refine go_at e_is_way ?_
  walk_at "g"
  exact ⟨rfl, rfl⟩)
theorem g_tell {d : Md} {m : Int} {O : Sto} {Q : PV → Sto → Prop} (h : -1000000 ≤ m ∧ m ≤ 1000000) (hd : d.ok m) (k : ∀ O', Fr O O' → Q (.str (d.t m)) O') : Go (m_tell [.int m, .str d.z] O) Q := by
  walk_at "def"
  refine go_at e_check_way ?_
  walk_at "g"
  exact g_shown h hd k
set_option hygiene false in
local macro_rules | `(tactic| walk_at "sx") => `(tactic| ((refine go_seq (gos_expE (goe_call ?_))); walk_at "c"; (refine g_me rfl ?_)))
theorem x_tell {m : Int} {O : Sto} (h : 6400 ≤ absI m) : m_tell [.int m, .str "words"] O = .exc (xTL m) O := by
  walk_at "xdef"
  walk_at "sx"
  refine goe_go (go_at (e_check_way (d := .w)) ?_)
  walk_at "sx"
  refine goe_go (go_at e_check_measure ?_)
  refine gos_retE (goe_call ?_)
  walk_at "c"
  exact g_me rfl (goe_at (x_shown h) ⟨rfl, rfl⟩)
theorem go_isx0 {xt : List (Str × List XN)} {xa : List XN} {C : Str} {ns : List Str} {ps : List PV} {c : PV} {l : List XN} {w : XN} {O : Sto} {QP : PV → Sto → Prop} (e : xnOf c = some w) (e2 : xa.contains w = true) (e3 : xt.lookup C = some l) (e4 : ¬ w ∈ l) (k : QP (.bl false) O) : Go (isxP xt xa [.xc C ns ps, c] O) QP := go_isx e e2 e3 (by rw [decide_eq_false e4]; exact k)
theorem go_isx1 {xt : List (Str × List XN)} {xa : List XN} {C : Str} {ns : List Str} {ps : List PV} {c : PV} {l : List XN} {w : XN} {O : Sto} {QP : PV → Sto → Prop} (e : xnOf c = some w) (e2 : xa.contains w = true) (e3 : xt.lookup C = some l) (e4 : w ∈ l) (k : QP (.bl true) O) : Go (isxP xt xa [.xc C ns ps, c] O) QP := go_isx e e2 e3 (by rw [decide_eq_true e4]; exact k)
theorem go_catLOn {O : Sto} {p q : PV} {ps qs : List PV} {QP : PV → Sto → Prop} (e1 : lstT O p = some ps) (e2 : lstT O q = some qs) (e : (ps.length + qs.length).ble 100000 = true) (k : QP (.loc O.length) (O ++ [some (.lst (ps ++ qs))])) : Go (catLO p q O) QP := by
  unfold catLO
  simp only [e1, e2, sz_small e, if_true]
  exact k
theorem fr_none {O O' : Sto} (f : Fr O O') {x : Option PV} : Fr O ((O' ++ [x]).set O'.length none) := by
  rw [app_set]
  exact f.app
theorem g_sortL {m : Int} {O : Sto} {Q : PV → Sto → Prop} (k : ∀ O', Fr O O' → Q (.loc O'.length) (O' ++ [some (.lst [.str "long"])])) : Go (m__law_sort [.xc "TooLong" ["measure"] [.int m]] O) Q := by
  walk_at "def"
  refine go_countV (by rw [lst_loc get_app]; exact rfl) rfl ?_
  walk_at "c"
  refine bnf (by decide +kernel) ?_
  walk_at "c"
  refine go_indexV (j := 16) (by rw [lst_loc get_app]; exact rfl) rfl (by rfl) ?_
  walk_at "c"
  have c1 : decide (((16 : Nat) : Int) < 14) = false := by decide
  have c2 : @decide (((16 : Nat) : Int) = 14 ∨ ((16 : Nat) : Int) = 15) (Classical.propDecidable _) = false := @decide_eq_false _ (Classical.propDecidable _) (by omega)
  have c3 : decide (((16 : Nat) : Int) = 16) = true := by decide
  have c4 : @decide (((16 : Nat) : Int) = 12 ∨ ((16 : Nat) : Int) = 13) (Classical.propDecidable _) = false := @decide_eq_false _ (Classical.propDecidable _) (by omega)
  simp only [c1, c2, c3]
  refine go_neDd rfl rfl rfl ?_
  walk_at "c"
  refine bF (by decide +kernel) ?_
  walk_at "c"
  refine go_neDd rfl rfl rfl ?_
  walk_at "c"
  refine bF (by decide +kernel) ?_
  walk_at "c"
  simp only [c4]
  walk_at "c"
  refine bF (by simp) ?_
  walk_at "c"
  exact k _ (by walk_at "fr")
def toldV (d : Md) (m : Int) : PV := match d with
  | .w => if absI m < 6400 then .str (wordT m) else .lst [.str "long", .int m]
  | d => .str (d.t m)
theorem toldV_ok {d : Md} {m : Int} (h : d.ok m) : toldV d m = .str (d.t m) := by
  cases d with
  | w => exact if_pos h
  | _ => rfl
theorem g_told_ok {d : Md} {m w : Int} {O : Sto} {Q : PV → Sto → Prop} (h : -1000000 ≤ m ∧ m ≤ 1000000) (hd : d.ok m) (hw : 0 ≤ w ∧ w < 3) (k : ∀ O', Fr O O' → Q (.str (d.t m)) O') : Go (m__law_told [.int m, .str d.z, .int w] O) Q := by
  have hw : w = 0 ∨ w = 1 ∨ w = 2 := by omega
  walk_at "def"
  refine gos_tryM ?_
  rcases hw with rfl | rfl | rfl
  · walk_at "g"
    refine g_tell h hd fun O' f => ?_
    walk_at "g"
    exact k O' f
  · walk_at "g"
    refine g_tell h hd fun O' f => ?_
    walk_at "g"
    exact k O' f
  · walk_at "g"
    refine g_tell h hd fun O' f => ?_
    walk_at "g"
    exact k O' f
theorem g_told_3 {m : Int} {O : Sto} {Q : PV → Sto → Prop} (h : -1000000 ≤ m ∧ m ≤ 1000000) (k : ∀ O', Fr O O' → Q (.str (inchT m)) O') : Go (m__law_told [.int m, .str "inches", .int 3] O) Q := by
  walk_at "def"
  refine gos_tryM ?_
  walk_at "g"
  refine g_tell (d := .i) h trivial fun O' f => ?_
  walk_at "g"
  exact k O' f
theorem tryL {K : Ks} {m : Int} {s : Slots} {O : Sto} {a : Int} {hs : List (Nat × (Str → Option Bool) × SF)} {B1 B2 : SF} (eh : hs = [(3, cmOr (cmX xt (.own "FitError")) (cmX xt (.own "MissError")), B1), (3, cmX xt (.own "RoomError"), B2)]) (k : GoS { nx := fun s O => K.nx (s.set 3 none) O, rt := K.rt, bk := fun s O => K.bk (s.set 3 none) O, ct := fun s O => K.ct (s.set 3 none) O } (B2 (s.set 3 (some (.xc "TooLong" ["measure"] [.int m]))) O)) : TryM K hs (xTL m) s O := by
  subst eh
  exact ⟨"TooLong", rfl, false, by decide +kernel, true, by decide +kernel, k⟩
theorem g_told_x {m w : Int} {O : Sto} {Q : PV → Sto → Prop} (h : 6400 ≤ absI m) (hw : 0 ≤ w ∧ w < 3) (k : ∀ O', Fr O O' → Q (.lst [.str "long", .int m]) O') : Go (m__law_told [.int m, .str "words", .int w] O) Q := by
  have hw : w = 0 ∨ w = 1 ∨ w = 2 := by omega
  have fin : ∀ (K : Ks) (s : Slots) (O1 : Sto) (x0 x1 x2 x4 : Option PV), Fr O O1 → s = [x0, x1, x2, none, x4] → (∀ s' O', s'[4]? = some (some (.loc O'.length)) → Fr O O' → K.nx s' (O' ++ [some (.lst [.str "long", .int m])])) →
      GoS { nx := fun s O => K.nx (s.set 3 none) O, rt := K.rt, bk := fun s O => K.bk (s.set 3 none) O, ct := fun s O => K.ct (s.set 3 none) O } (sSeq (sAsg (eCall m__law_sort [] (aCons (eVar 3) aNil)) (gNm 4))
                (sIf (tTst (eCB (isxP xt xa) (aCons (eVar 3) (aCons (eC (PV.cls (Str.ofString "TooLong"))) aNil))))
                  (sExp (eBml appendP (eVar 4) (aCons (eXf xf (Str.ofString "measure") (eVar 3)) aNil))) sSkip) (s.set 3 (some (.xc "TooLong" ["measure"] [.int m]))) O1) := by
    intro K s O1 x0 x1 x2 x4 f es kk
    subst es
    walk_at "c"
    refine g_sortL fun O' f' => ?_
    walk_at "c"
    refine go_xf ?_
    walk_at "c"
    refine ⟨_, _, _, _, rfl, by decide, rfl, ?_⟩
    walk_at "c"
    exact kk _ O' rfl (f.trans f')
  walk_at "def"
  refine gos_tryM ?_
  rcases hw with rfl | rfl | rfl
  · refine go_ifS ?_
    walk_at "c"
    refine bt (by decide) (gos_asgE (goe_call ?_))
    walk_at "c"
    refine g_me rfl (goe_at (x_tell h) (tryL (a := 0) rfl (fin _ _ _ _ _ _ _ Fr.refl rfl fun s' O' e f => ?_)))
    refine go_ret (go_frz (go_var e (go_frzL get_app ?_)))
    exact k _ (fr_none f)
  · refine go_ifS ?_
    walk_at "c"
    refine bf (by decide) (go_ifS ?_)
    walk_at "c"
    refine bt (by decide) (gos_asgE (goe_callK ?_))
    walk_at "c"
    refine g_me rfl (goe_at (x_tell h) (tryL (a := 0) rfl (fin _ _ _ _ _ _ _ Fr.refl rfl fun s' O' e f => ?_)))
    refine go_ret (go_frz (go_var e (go_frzL get_app ?_)))
    exact k _ (fr_none f)
  · refine go_ifS ?_
    walk_at "c"
    refine bf (by decide) (go_ifS ?_)
    walk_at "c"
    refine bf (by decide) (go_ifS ?_)
    walk_at "c"
    refine bt (by decide) (gos_asgE (goe_callK ?_))
    walk_at "c"
    refine g_me rfl (goe_at (x_tell h) (tryL (a := 0) rfl (fin _ _ _ _ _ _ _ Fr.refl rfl fun s' O' e f => ?_)))
    refine go_ret (go_frz (go_var e (go_frzL get_app ?_)))
    exact k _ (fr_none f)
theorem tl_tz (m : Int) : TL.tl (tz m) = if m < 0 then 45 :: TL.numL m.natAbs else TL.numL m.natAbs := by
  cases m with
  | ofNat n =>
    rw [if_neg (by show ¬ ((n : Nat) : Int) < 0; omega)]
    exact TL.tl_num n
  | negSucc n =>
    rw [if_pos (Int.negSucc_lt_zero n)]
    have e : toString (Int.negSucc n) = "-" ++ toString (n + 1) := rfl
    have e2 := TL.tl_num (n + 1)
    have e3 : toString (((n + 1 : Nat) : Int)) = toString (n + 1) := rfl
    rw [e3] at e2
    show TL.tl (Str.ofString (toString (Int.negSucc n))) = 45 :: TL.numL (n + 1)
    rw [e, TL.tl_ofString, String.toList_append, List.map_append, ← TL.tl_ofString, ← TL.tl_ofString, e2]
    rfl
theorem free45 (n : Nat) : 45 ∉ TL.numL n := TL.numL_free (by omega)
theorem tz_inj {a b : Int} (h : tz a = tz b) : a = b := by
  have h2 := congrArg TL.tl h
  rw [tl_tz, tl_tz] at h2
  by_cases ha : a < 0
  · rw [if_pos ha] at h2
    by_cases hb : b < 0
    · rw [if_pos hb] at h2
      have := TL.numL_inj (List.cons.inj h2).2
      omega
    · rw [if_neg hb] at h2
      exact absurd (h2 ▸ List.mem_cons_self : (45 : Nat) ∈ TL.numL b.natAbs) (free45 _)
  · rw [if_neg ha] at h2
    by_cases hb : b < 0
    · rw [if_pos hb] at h2
      exact absurd (h2 ▸ List.mem_cons_self : (45 : Nat) ∈ TL.numL a.natAbs) (free45 _)
    · rw [if_neg hb] at h2
      have := TL.numL_inj h2
      omega
theorem tz_free {m : Int} (h : 0 ≤ m) {s : Nat} (hs : s < 48 ∨ 57 < s) : s ∉ TL.tl (tz m) := by
  rw [tl_tz, if_neg (by omega)]
  exact TL.numL_free hs
/-- a sign ahead of what has none -/
theorem sign_inj {a b : Int} {x y : Str} (hx : 45 ∉ TL.tl x) (hy : 45 ∉ TL.tl y) (h : minusZ a ++ x = minusZ b ++ y) : (a < 0 ↔ b < 0) ∧ x = y := by
  have h2 := congrArg TL.tl h
  have e1 : ∀ z : Str, Str.ofString "-" ++ z = Str.ofString "-" ++ z := fun _ => rfl
  have t1 : ∀ z : Str, TL.tl (Str.ofString "-" ++ z) = 45 :: TL.tl z := fun z => by rw [TL.tl_append]; rfl
  unfold minusZ at h2
  by_cases ha : a < 0
  · rw [if_pos ha, t1] at h2
    by_cases hb : b < 0
    · rw [if_pos hb, t1] at h2
      exact ⟨iff_of_true ha hb, TL.ext_tl (List.cons.inj h2).2⟩
    · rw [if_neg hb, z_nil_l] at h2
      exact absurd (h2 ▸ List.mem_cons_self) hy
  · rw [if_neg ha, z_nil_l] at h2
    by_cases hb : b < 0
    · rw [if_pos hb, t1] at h2
      exact absurd (h2 ▸ List.mem_cons_self) hx
    · rw [if_neg hb, z_nil_l] at h2
      exact ⟨iff_of_false ha hb, TL.ext_tl h2⟩
theorem abs_eq {a b : Int} (h : a < 0 ↔ b < 0) (e : absI a / 64 = absI b / 64) (e2 : absI a % 64 = absI b % 64) : a = b := by
  have e3 : absI a = absI b := by omega
  unfold absI at e3
  split at e3 <;> split at e3 <;> omega
theorem join_mem {c : Nat} {z : Str} (hz : c ∉ TL.tl z) : ∀ ys : List Str, (∀ y, y ∈ ys → c ∉ TL.tl y) → c ∉ TL.tl (Txt.join z ys)
  | [], _ => by rw [TL.join_eq]; exact fun h => nomatch h
  | [x], h => h x List.mem_cons_self
  | x :: y :: ys, h => by
    have e : Txt.join z (x :: y :: ys) = x ++ z ++ Txt.join z (y :: ys) := by rw [TL.join_eq, TL.join_eq]; rfl
    rw [e, TL.tl_append, TL.tl_append]
    have h1 := h x List.mem_cons_self
    have h2 := join_mem hz (y :: ys) fun w hw => h w (List.mem_cons_of_mem _ hw)
    simp only [List.mem_append, not_or]
    exact ⟨⟨h1, hz⟩, h2⟩
/-! inches -/
theorem red_inj64 : ∀ r r' : Fin 64, redF 7 ((r.val : Nat) : Int) 64 = redF 7 ((r'.val : Nat) : Int) 64 → r = r' := by decide +kernel
theorem red_inj {a b : Int} (h : red a = red b) : absI a % 64 = absI b % 64 := by
  have := red_inj64 ⟨(absI a % 64).toNat, by omega⟩ ⟨(absI b % 64).toNat, by omega⟩ (by
    show redF 7 (((absI a % 64).toNat : Nat) : Int) 64 = redF 7 (((absI b % 64).toNat : Nat) : Int) 64
    rw [show (((absI a % 64).toNat : Nat) : Int) = absI a % 64 by omega, show (((absI b % 64).toNat : Nat) : Int) = absI b % 64 by omega]
    exact h)
  have := congrArg (fun z : Fin 64 => z.val) this
  dsimp only at this
  omega
theorem abs_nn (m : Int) : 0 ≤ absI m := by unfold absI; split <;> omega
theorem frac_ne {x : Int} (hx : 0 ≤ x) {t b : Int} : tz x ≠ tz t ++ Str.ofString "/" ++ tz b := fun h => by
  refine tz_free (s := 47) hx (by omega) ?_
  rw [h, TL.tl_append, TL.tl_append]
  simp only [List.mem_append]
  exact .inl (.inr (by decide +kernel))
theorem frac_inj {t b t' b' : Int} (ht : 0 ≤ t) (ht' : 0 ≤ t') (h : tz t ++ Str.ofString "/" ++ tz b = tz t' ++ Str.ofString "/" ++ tz b') : t = t' ∧ b = b' := by
  have e1 := TL.partition_app (y := Str.ofString "/") (s := 47) (S := []) (by decide +kernel) (a := tz t) (b := tz b) (tz_free ht (by omega))
  have e2 := TL.partition_app (y := Str.ofString "/") (s := 47) (S := []) (by decide +kernel) (a := tz t') (b := tz b') (tz_free ht' (by omega))
  rw [h, e2] at e1
  obtain ⟨h1, h2⟩ := Prod.mk.inj e1
  exact ⟨(tz_inj h1).symm, (tz_inj (Prod.mk.inj h2).2).symm⟩
theorem inchL_free {m : Int} {s : Nat} (hs : s < 47 ∨ 57 < s) : ∀ y, y ∈ inchL m → s ∉ TL.tl y := by
  intro y hy
  have h0 := abs_nn m
  have hr := red_b m
  unfold inchL at hy
  rcases List.mem_append.mp hy with hy | hy
  · split at hy
    · rw [List.mem_singleton.mp hy]
      exact tz_free (by omega) (by omega)
    · exact nomatch hy
  · split at hy
    · rw [List.mem_singleton.mp hy, TL.tl_append, TL.tl_append]
      simp only [List.mem_append, not_or]
      exact ⟨⟨tz_free (by omega) (by omega), by rw [show TL.tl (Str.ofString "/") = [47] by decide +kernel, List.mem_singleton]; omega⟩, tz_free (by omega) (by omega)⟩
    · exact nomatch hy
theorem inchL_ne (m : Int) : inchL m ≠ [] := by
  have hr := red_b m
  unfold inchL
  by_cases h : 0 < (red m).1
  · rw [if_pos h]; simp
  · rw [if_pos (.inr (by omega))]; simp
theorem inch_inj {a b : Int} (h : inchT a = inchT b) : a = b := by
  have fr : ∀ m, 45 ∉ TL.tl (Txt.join (Str.ofString " ") (inchL m)) := fun m => join_mem (by decide +kernel) _ (inchL_free (by omega))
  obtain ⟨hs, hj⟩ := sign_inj (fr a) (fr b) h
  have sp : ∀ m, Txt.split (Txt.join (Str.ofString " ") (inchL m)) (Str.ofString " ") = inchL m := fun m => TL.split_join (s := 32) (S := []) (by decide +kernel) (by decide +kernel) (inchL_ne m) (inchL_free (by omega))
  have e := sp a
  rw [hj, sp b] at e
  have a0 := abs_nn a
  have b0 := abs_nn b
  have ra := red_b a
  have rb := red_b b
  have za := red_zero (n := 7) (t := absI a % 64) (b := 64) (by omega)
  have zb := red_zero (n := 7) (t := absI b % 64) (b := 64) (by omega)
  rw [show redF 7 (absI a % 64) 64 = red a from rfl] at za
  rw [show redF 7 (absI b % 64) 64 = red b from rfl] at zb
  have w0 : 0 ≤ absI a / 64 := by omega
  have w1 : 0 ≤ absI b / 64 := by omega
  unfold inchL at e
  by_cases ta : 0 < (red a).1 <;> by_cases tb : 0 < (red b).1
  · rw [if_pos ta, if_pos tb] at e
    have fin : (red a).1 = (red b).1 ∧ (red a).2 = (red b).2 → absI a / 64 = absI b / 64 → a = b := fun ⟨p, q⟩ w => abs_eq hs w (red_inj (Prod.ext p q))
    by_cases wa : 0 < absI a / 64 <;> by_cases wb : 0 < absI b / 64
    · rw [if_pos (Or.inl wa : 0 < absI a / 64 ∨ (red a).1 = 0), if_pos (Or.inl wb : 0 < absI b / 64 ∨ (red b).1 = 0)] at e
      simp only [List.cons_append, List.nil_append, List.cons.injEq, and_true] at e
      exact fin (frac_inj (by omega) (by omega) e.2.symm) (tz_inj e.1.symm)
    · rw [if_pos (Or.inl wa : 0 < absI a / 64 ∨ (red a).1 = 0), if_neg (by omega : ¬ (0 < absI b / 64 ∨ (red b).1 = 0))] at e
      simp at e
    · rw [if_neg (by omega : ¬ (0 < absI a / 64 ∨ (red a).1 = 0)), if_pos (Or.inl wb : 0 < absI b / 64 ∨ (red b).1 = 0)] at e
      simp at e
    · rw [if_neg (by omega : ¬ (0 < absI a / 64 ∨ (red a).1 = 0)), if_neg (by omega : ¬ (0 < absI b / 64 ∨ (red b).1 = 0))] at e
      simp only [List.nil_append, List.cons.injEq, and_true] at e
      exact fin (frac_inj (by omega) (by omega) e.symm) (by omega)
  · rw [if_pos ta, if_neg tb, if_pos (.inr (by omega) : 0 < absI b / 64 ∨ (red b).1 = 0), List.append_nil] at e
    by_cases wa : 0 < absI a / 64
    · rw [if_pos (Or.inl wa : 0 < absI a / 64 ∨ (red a).1 = 0)] at e
      simp at e
    · rw [if_neg (by omega : ¬ (0 < absI a / 64 ∨ (red a).1 = 0))] at e
      simp only [List.nil_append, List.cons.injEq, and_true] at e
      exact absurd e (frac_ne w1)
  · rw [if_neg ta, if_pos tb, if_pos (.inr (by omega) : 0 < absI a / 64 ∨ (red a).1 = 0), List.append_nil] at e
    by_cases wb : 0 < absI b / 64
    · rw [if_pos (Or.inl wb : 0 < absI b / 64 ∨ (red b).1 = 0)] at e
      simp at e
    · rw [if_neg (by omega : ¬ (0 < absI b / 64 ∨ (red b).1 = 0))] at e
      simp only [List.nil_append, List.cons.injEq, and_true] at e
      exact absurd e.symm (frac_ne w0)
  · rw [if_neg ta, if_neg tb, if_pos (.inr (by omega) : 0 < absI b / 64 ∨ (red b).1 = 0), if_pos (.inr (by omega) : 0 < absI a / 64 ∨ (red a).1 = 0), List.append_nil, List.append_nil] at e
    simp only [List.cons.injEq, and_true] at e
    have := tz_inj e
    exact abs_eq hs this.symm (by omega)
/-! halves -/
def bval (l : List Nat) : Nat := l.foldl (fun a c => 2 * a + (c - 48)) 0
theorem bval_app (l : List Nat) (c : Nat) : bval (l ++ [c]) = 2 * bval l + (c - 48) := by
  unfold bval
  rw [List.foldl_append]
  rfl
theorem tl_bit {n : Int} : TL.tl (tz (n % 2)) = [48 + (n % 2).toNat] := by
  rcases (by omega : n % 2 = 0 ∨ n % 2 = 1) with h | h <;> rw [h] <;> decide +kernel
theorem bval_bit (x : Str) (n : Int) : bval (TL.tl (x ++ tz (n % 2))) = 2 * bval (TL.tl x) + (n % 2).toNat := by
  rw [TL.tl_append, tl_bit, bval_app]
  omega
theorem dhd_val : ∀ (k : Nat) (n : Int), 0 ≤ n → n < 2 ^ (k + 1) → bval (TL.tl (dhd k n)) = (n / 2).toNat
  | 0, n, h0, h1 => by
    have : n < 2 := h1
    have e : (n / 2).toNat = 0 := by omega
    rw [e]
    rfl
  | k + 1, n, h0, h1 => by
    unfold dhd
    split
    · have e : (n / 2).toNat = 0 := by omega
      rw [e]
      rfl
    · have p : (2 : Int) ^ (k + 1 + 1) = 2 ^ (k + 1) * 2 := Int.pow_succ 2 (k + 1)
      rw [bval_bit, dhd_val k (n / 2) (by omega) (by omega)]
      omega
theorem dbl_val {n : Int} (h : 0 ≤ n ∧ n < 2 ^ 40) : bval (TL.tl (dblT n)) = n.toNat := by
  unfold dblT
  have p : (2 : Int) ^ 40 ≤ 2 ^ (64 + 1) := by decide
  rw [bval_bit, dhd_val 64 n h.1 (by omega)]
  omega
theorem dbl_inj {a b : Int} (ha : 0 ≤ a ∧ a < 2 ^ 40) (hb : 0 ≤ b ∧ b < 2 ^ 40) (h : dblT a = dblT b) : a = b := by
  have := dbl_val ha
  rw [h, dbl_val hb] at this
  omega
theorem frac_val : ∀ r : Fin 64, bval (TL.tl (Txt.zfill (dblT ((r.val : Nat) : Int)) 6)) = r.val := by decide +kernel
theorem fracT_inj {a b : Int} (ha : 0 ≤ a ∧ a < 64) (hb : 0 ≤ b ∧ b < 64) (h : fracT a = fracT b) : a = b := by
  have ea := frac_val ⟨a.toNat, by omega⟩
  have eb := frac_val ⟨b.toNat, by omega⟩
  rw [show (((⟨a.toNat, by omega⟩ : Fin 64).val : Nat) : Int) = a from by show ((a.toNat : Nat) : Int) = a; omega] at ea
  rw [show (((⟨b.toNat, by omega⟩ : Fin 64).val : Nat) : Int) = b from by show ((b.toNat : Nat) : Int) = b; omega] at eb
  have h : Txt.zfill (dblT a) 6 = Txt.zfill (dblT b) 6 := h
  rw [h, eb] at ea
  have ea : b.toNat = a.toNat := ea
  omega
theorem bit_free {n : Int} {s : Nat} (hs : s < 48 ∨ 57 < s) : s ∉ TL.tl (tz (n % 2)) := tz_free (by omega) hs
theorem dhd_free {s : Nat} (hs : s < 48 ∨ 57 < s) : ∀ (k : Nat) (n : Int), s ∉ TL.tl (dhd k n)
  | 0, _ => fun h => nomatch h
  | k + 1, n => by
    unfold dhd
    split
    · exact fun h => nomatch h
    · rw [TL.tl_append]
      exact fun h => (List.mem_append.mp h).elim (dhd_free hs k _) (bit_free hs)
theorem dbl_free {s : Nat} (hs : s < 48 ∨ 57 < s) (n : Int) : s ∉ TL.tl (dblT n) := by
  unfold dblT
  rw [TL.tl_append]
  exact fun h => (List.mem_append.mp h).elim (dhd_free hs _ _) (bit_free hs)
theorem frac_free64 : ∀ r : Fin 64, (TL.tl (Txt.zfill (dblT ((r.val : Nat) : Int)) 6)).all (fun c => c == 48 || c == 49) = true := by decide +kernel
theorem fracT_free {r : Int} (h : 0 ≤ r ∧ r < 64) {s : Nat} (hs : s < 48 ∨ 57 < s) : s ∉ TL.tl (fracT r) := fun hm => by
  have := frac_free64 ⟨r.toNat, by omega⟩
  rw [show (((⟨r.toNat, by omega⟩ : Fin 64).val : Nat) : Int) = r from by show ((r.toNat : Nat) : Int) = r; omega] at this
  have := List.all_eq_true.mp this s hm
  simp only [Bool.or_eq_true, beq_iff_eq] at this
  omega
theorem half_inj {a b : Int} (ha : -1000000 ≤ a ∧ a ≤ 1000000) (hb : -1000000 ≤ b ∧ b ≤ 1000000) (h : halfT a = halfT b) : a = b := by
  have fr : ∀ m, 45 ∉ TL.tl (dblT (absI m / 64) ++ Str.ofString "." ++ fracT (absI m % 64)) := fun m => by
    rw [TL.tl_append, TL.tl_append]
    simp only [List.mem_append, not_or]
    exact ⟨⟨dbl_free (by omega) _, by decide +kernel⟩, fracT_free (by omega) (by omega)⟩
  have e : ∀ m, halfT m = minusZ m ++ (dblT (absI m / 64) ++ Str.ofString "." ++ fracT (absI m % 64)) := fun m => by unfold halfT; simp only [z_assoc]
  rw [e, e] at h
  obtain ⟨hs, hj⟩ := sign_inj (fr a) (fr b) h
  have sp : ∀ m, Txt.partition (dblT (absI m / 64) ++ Str.ofString "." ++ fracT (absI m % 64)) (Str.ofString ".") = (dblT (absI m / 64), Str.ofString ".", fracT (absI m % 64)) := fun m => TL.partition_app (s := 46) (S := []) (by decide +kernel) (dbl_free (by omega) _)
  have e2 := sp a
  rw [hj, sp b] at e2
  obtain ⟨h1, h2⟩ := Prod.mk.inj e2
  have h2 := (Prod.mk.inj h2).2
  have ba := absI_b (m := a) (by omega)
  have bb := absI_b (m := b) (by omega)
  have p : (100000000 : Int) < 2 ^ 40 := by decide
  exact abs_eq hs (dbl_inj (by omega) (by omega) h1.symm) (fracT_inj (by omega) (by omega) h2.symm)
/-! words -/
/-- cut at blanks -/
def wd : List Nat → List (List Nat)
  | [] => [[]]
  | c :: r => if c = 32 then [] :: wd r else match wd r with
    | [] => [[c]]
    | p :: ps => (c :: p) :: ps
theorem wd_ne : ∀ l, wd l ≠ []
  | [] => by simp [wd]
  | c :: r => by
    unfold wd
    split
    · simp
    · split <;> simp
theorem wd_cons (c : Nat) (r : List Nat) : wd (c :: r) = if c = 32 then [] :: wd r else match wd r with
    | [] => [[c]]
    | p :: ps => (c :: p) :: ps := by rw [wd]
theorem wd_app : ∀ a b : List Nat, wd (a ++ 32 :: b) = wd a ++ wd b
  | [], b => rfl
  | c :: a, b => by
    have ih := wd_app a b
    show wd (c :: (a ++ 32 :: b)) = _
    rw [wd_cons, wd_cons, ih]
    by_cases h : c = 32
    · rw [if_pos h, if_pos h]; rfl
    · rw [if_neg h, if_neg h]
      cases e : wd a with
      | nil => exact absurd e (wd_ne a)
      | cons p ps => rfl
abbrev wds (z : Str) : List (List Nat) := wd (TL.tl z)
abbrev wAnd : List Nat := [97, 110, 100]
theorem wds_and (x z : Str) : wds (x ++ Str.ofString " and " ++ z) = wds x ++ wAnd :: wds z := by
  show wd (TL.tl (x ++ Str.ofString " and " ++ z)) = _
  rw [TL.tl_append, TL.tl_append, show TL.tl (Str.ofString " and ") = 32 :: ([97, 110, 100] ++ [32]) by decide +kernel, List.append_assoc]
  show wd (TL.tl x ++ 32 :: ([97, 110, 100] ++ [32] ++ TL.tl z)) = _
  rw [wd_app, show [97, 110, 100] ++ [32] ++ TL.tl z = [97, 110, 100] ++ 32 :: TL.tl z from rfl, wd_app]
  rfl
theorem wds_join {f : List Nat → Bool} (f0 : f [] = false) (f1 : f wAnd = false) : ∀ ys : List Str, (wds (Txt.join (Str.ofString " and ") ys)).filter f = ys.flatMap fun y => (wds y).filter f
  | [] => by
    rw [TL.join_eq]
    show List.filter f [[]] = []
    rw [List.filter_cons, if_neg (by rw [f0]; exact Bool.false_ne_true)]
    rfl
  | [x] => by simp [join_1]
  | x :: y :: ys => by
    have e : Txt.join (Str.ofString " and ") (x :: y :: ys) = x ++ Str.ofString " and " ++ Txt.join (Str.ofString " and ") (y :: ys) := by rw [TL.join_eq, TL.join_eq]; rfl
    rw [e, wds_and, List.filter_append, List.filter_cons, if_neg (by rw [f1]; exact Bool.false_ne_true), wds_join f0 f1 (y :: ys)]
    rfl
theorem wds_sign {f : List Nat → Bool} (m : Int) (z : Str) (hm : f [109, 105, 110, 117, 115] = false) : (wds (wsign m ++ z)).filter f = (wds z).filter f := by
  unfold wsign
  split
  · show (wd (TL.tl (Str.ofString "minus " ++ z))).filter f = _
    rw [TL.tl_append, show TL.tl (Str.ofString "minus ") = [109, 105, 110, 117, 115] ++ [32] by decide +kernel]
    rw [show [109, 105, 110, 117, 115] ++ [32] ++ TL.tl z = [109, 105, 110, 117, 115] ++ 32 :: TL.tl z by simp, wd_app]
    show List.filter f ([109, 105, 110, 117, 115] :: wds z) = _
    rw [List.filter_cons, if_neg (by rw [hm]; exact Bool.false_ne_true)]
  · rw [z_nil_l]
def cWords : List (List Nat) := (onesZ.tail ++ tensZ).map TL.tl
def sWords : List (List Nat) := [Str.ofString "half", Str.ofString "quarter", Str.ofString "eighth", Str.ofString "sixteenth", Str.ofString "thirtysecond", Str.ofString "sixtyfourth"].map TL.tl
def isC (w : List Nat) : Bool := cWords.contains w
def isS (w : List Nat) : Bool := sWords.contains w
def isM (w : List Nat) : Bool := w == [109, 105, 110, 117, 115]
def cOf (w : Int) : List (List Nat) := (cntL w).flatMap fun y => (wds y).filter isC
def sOf (r : Int) : List (List Nat) := (shP r 6).flatMap fun y => (wds y).filter isS
theorem shP_mem {f : List Nat → Bool} (hf : ∀ k : Fin 6, (wds (shN k.val)).filter f = []) (r : Int) : (shP r 6).flatMap (fun y => (wds y).filter f) = [] := by
  have key : ∀ (k : Nat), k ≤ 6 → (shP r k).flatMap (fun y => (wds y).filter f) = [] := fun k => by
    induction k with
    | zero => exact fun _ => rfl
    | succ k ih =>
      intro hk
      have e := ih (by omega)
      unfold shP bitL
      rw [List.flatMap_append, e]
      split
      · rw [List.flatMap_cons, hf ⟨k, by omega⟩]; rfl
      · rfl
  exact key 6 (Nat.le_refl _)
theorem cnt_none {f : List Nat → Bool} (hf : ∀ w : Fin 100, (wds (cntT ((w.val : Nat) : Int))).filter f = []) {w : Int} (h : 0 ≤ w ∧ w < 100) : (cntL w).flatMap (fun y => (wds y).filter f) = [] := by
  unfold cntL
  split
  · rfl
  · have := hf ⟨w.toNat, by omega⟩
    rw [show (((⟨w.toNat, by omega⟩ : Fin 100).val : Nat) : Int) = w from by show ((w.toNat : Nat) : Int) = w; omega] at this
    rw [List.flatMap_cons, this]
    rfl
theorem word_filter {f : List Nat → Bool} (f0 : f [] = false) (f1 : f wAnd = false) (fm : f [109, 105, 110, 117, 115] = false) (fn : f (TL.tl (Str.ofString "nothing")) = false) (m : Int) : (wds (wordT m)).filter f = (wordL m).flatMap fun y => (wds y).filter f := by
  unfold wordT
  split
  · rename_i h
    subst h
    rw [show wordL 0 = [] from rfl]
    show (wds (Str.ofString "nothing")).filter f = []
    rw [show wds (Str.ofString "nothing") = [TL.tl (Str.ofString "nothing")] by decide +kernel, List.filter_cons, if_neg (by rw [fn]; exact Bool.false_ne_true)]
    rfl
  · rw [wds_sign m _ fm, wds_join f0 f1]
theorem word_c {m : Int} (h : absI m < 6400) : (wds (wordT m)).filter isC = cOf (absI m / 64) := by
  rw [word_filter (by decide +kernel) (by decide +kernel) (by decide +kernel) (by decide +kernel)]
  unfold wordL
  rw [List.flatMap_append, shP_mem (by decide +kernel), List.append_nil]
  rfl
theorem word_s {m : Int} (h : absI m < 6400) : (wds (wordT m)).filter isS = sOf (absI m % 64) := by
  have := abs_nn m
  rw [word_filter (by decide +kernel) (by decide +kernel) (by decide +kernel) (by decide +kernel)]
  unfold wordL
  rw [List.flatMap_append, cnt_none (by decide +kernel) (by omega), List.nil_append]
  rfl
theorem word_m {m : Int} (h : absI m < 6400) : (wds (wordT m)).filter isM = if m < 0 then [[109, 105, 110, 117, 115]] else [] := by
  have := abs_nn m
  have body : (wds (Txt.join (Str.ofString " and ") (wordL m))).filter isM = [] := by
    rw [wds_join (by decide +kernel) (by decide +kernel)]
    unfold wordL
    rw [List.flatMap_append, cnt_none (by decide +kernel) (by omega), List.nil_append, shP_mem (by decide +kernel)]
  unfold wordT
  split
  · rename_i h
    subst h
    rw [if_neg (by omega)]
    decide +kernel
  · by_cases c : m < 0
    · rw [if_pos c]
      unfold wsign
      rw [if_pos c]
      show (wd (TL.tl (Str.ofString "minus " ++ _))).filter isM = _
      rw [TL.tl_append, show TL.tl (Str.ofString "minus ") = [109, 105, 110, 117, 115] ++ [32] by decide +kernel, List.append_assoc]
      show (wd ([109, 105, 110, 117, 115] ++ 32 :: _)).filter isM = _
      rw [wd_app, List.filter_append]
      show List.filter isM (wd [109, 105, 110, 117, 115]) ++ List.filter isM (wds (Txt.join (Str.ofString " and ") (wordL m))) = _
      rw [body]
      decide +kernel
    · rw [if_neg c]
      unfold wsign
      rw [if_neg c, z_nil_l]
      exact body
def enc (l : List (List Nat)) : Nat := l.foldl (fun a w => w.foldl (fun a c => 131 * a + c) (131 * a + 1)) 0
theorem c_nodup : ((List.range 100).map fun w => enc (cOf (w : Nat))).Nodup := by decide +kernel
theorem s_nodup : ((List.range 64).map fun w => enc (sOf (w : Nat))).Nodup := by decide +kernel
theorem nodup_inj {n : Nat} {g : Nat → Nat} (h : ((List.range n).map g).Nodup) {i j : Nat} (hi : i < n) (hj : j < n) (e : g i = g j) : i = j := by
  have e2 : ((List.range n).map g)[i]? = ((List.range n).map g)[j]? := by
    rw [List.getElem?_map, List.getElem?_map, List.getElem?_range hi, List.getElem?_range hj]
    simp [e]
  exact (List.getElem?_inj (by simpa using hi) h).mp e2
theorem word_inj {a b : Int} (ha : absI a < 6400) (hb : absI b < 6400) (h : wordT a = wordT b) : a = b := by
  have a0 := abs_nn a
  have b0 := abs_nn b
  have hc := word_c ha
  rw [h, word_c hb] at hc
  have hs := word_s ha
  rw [h, word_s hb] at hs
  have hm := word_m ha
  rw [h, word_m hb] at hm
  have sg : a < 0 ↔ b < 0 := by
    constructor
    · intro c
      rw [if_pos c] at hm
      by_cases d : b < 0
      · exact d
      · rw [if_neg d] at hm; cases hm
    · intro c
      rw [if_pos c] at hm
      by_cases d : a < 0
      · exact d
      · rw [if_neg d] at hm; cases hm
  have e1 := nodup_inj (g := fun w => enc (cOf (w : Nat))) c_nodup (i := (absI a / 64).toNat) (j := (absI b / 64).toNat) (by omega) (by omega) (by
    show enc (cOf _) = enc (cOf _)
    rw [show (((absI a / 64).toNat : Nat) : Int) = absI a / 64 by omega, show (((absI b / 64).toNat : Nat) : Int) = absI b / 64 by omega, hc])
  have e2 := nodup_inj (g := fun w => enc (sOf (w : Nat))) s_nodup (i := (absI a % 64).toNat) (j := (absI b % 64).toNat) (by omega) (by omega) (by
    show enc (sOf _) = enc (sOf _)
    rw [show (((absI a % 64).toNat : Nat) : Int) = absI a % 64 by omega, show (((absI b % 64).toNat : Nat) : Int) = absI b % 64 by omega, hs])
  exact abs_eq sg (by omega) (by omega)
theorem md_inj {d : Md} {a b : Int} (ha : -1000000 ≤ a ∧ a ≤ 1000000) (hb : -1000000 ≤ b ∧ b ≤ 1000000) (oa : d.ok a) (ob : d.ok b) (h : d.t a = d.t b) : a = b := by
  cases d
  · exact tz_inj h
  · exact inch_inj h
  · exact half_inj ha hb h
  · exact word_inj oa ob h
theorem g_ltell {d : Md} {m : Int} {O : Sto} {Q : PV → Sto → Prop} (h : -1000000 ≤ m ∧ m ≤ 1000000) (hd : d.ok m) (k : ∀ O', Fr O O' → Q (.str (d.t m)) O') : Go (m__law_tell [.int m, .str d.z] O) Q := by
  cases d
  · exact g__law_tellP (by omega) k
  · exact g__law_tell (by omega) k
  · exact g__law_tellH (by omega) k
  · exact g__law_tellW hd k
theorem g__law_due {d : Md} {m : Int} {O : Sto} {Q : PV → Sto → Prop} (h : -1000000 ≤ m ∧ m ≤ 1000000) (k : ∀ O', Fr O O' → Q (toldV d m) O') : Go (m__law_due [.int m, .str d.z] O) Q := by
  have h0 := abs_nn m
  by_cases w : d = .w
  · subst w
    walk_at "def"
    refine bT (by decide +kernel) ?_
    walk_at "c"
    rw [show (if m < 0 then -m else m) = absI m from rfl]
    refine qbr (fun c => ?_) (fun c => ?_)
    · walk_at "c"
      have := k O Fr.refl
      rw [show toldV .w m = .lst [.str "long", .int m] from if_neg (by omega)] at this
      exact this
    · walk_at "c"
      refine g_ltell (d := .w) h (show absI m < 6400 by omega) fun O' f => ?_
      have := k O' f
      rw [toldV_ok (d := .w) (show absI m < 6400 by omega)] at this
      exact this
  · have ok : d.ok m := by cases d <;> first | trivial | exact absurd rfl w
    walk_at "def"
    refine bF (by cases d <;> first | exact absurd rfl w | decide +kernel) ?_
    walk_at "c"
    refine g_ltell h ok fun O' f => ?_
    rw [← toldV_ok ok]
    exact k O' f
def mds : List Md := [.p, .i, .h, .w]
theorem mds_eq : [PV.str (Str.ofString "parts"), .str (Str.ofString "inches"), .str (Str.ofString "halves"), .str (Str.ofString "words")] = mds.map fun d => .str d.z := rfl
theorem shaped_str {z : Str} (h : SOk z) : SeqAt.shaped (.str z) = true := by
  unfold SeqAt.shaped
  rw [decide_eq_true (show (PyData.str z).depth ≤ _ from Nat.zero_le _), Bool.and_true]
  exact h
theorem eqv_str {a b : Str} : PyData.eqv (.str a) (.str b) = decide (a = b) := by
  show (a == b) = decide (a = b)
  rw [Bool.eq_iff_iff]
  simp
def longD (m : Int) : PyData := .list [.str (Str.ofString "long"), .int m]
theorem shaped_long {m : Int} : SeqAt.shaped (longD m) = true := by
  unfold SeqAt.shaped longD
  rw [decide_eq_true (by simp [PyData.depth, PyData.depthAll]), Bool.and_true]
  show (PyData.strOk (Str.ofString "long") && (true && true)) = true
  rw [show PyData.strOk (Str.ofString "long") = true from sok_of _]
  rfl
theorem eqv_long {a b : Int} : PyData.eqv (longD a) (longD b) = decide (a = b) := by
  show (PyData.eqv (.str (Str.ofString "long")) (.str (Str.ofString "long")) && PyData.eqvAll [.int a] [.int b]) = _
  rw [eqv_str, decide_eq_true rfl, Bool.true_and]
  have e : PyData.eqvAll [.int a] [.int b] = decide ([a] = [b]) := eqvAll_ints [a] [b]
  rw [e, decide_eq_decide]
  simp
theorem e__law_plain {i : Int} {O : Sto} : m__law_plain [.int i] O = .ok (.bl true) O := Go.eq (by
  walk_at "def"
  exact ⟨rfl, rfl⟩)
def dOf (d : Md) (m : Int) : PyData := match d with
  | .w => if absI m < 6400 then .str (wordT m) else longD m
  | d => .str (d.t m)
theorem toD_told {d : Md} {m : Int} {O : Sto} : toD O (toldV d m) = some (dOf d m) := by
  cases d with
  | w =>
    unfold toldV dOf
    by_cases h : absI m < 6400
    · simp only [if_pos h]; rfl
    · simp only [if_neg h]; rfl
  | _ => rfl
theorem shaped_told {d : Md} {m : Int} : SeqAt.shaped (dOf d m) = true := by
  cases d with
  | w =>
    unfold dOf
    by_cases h : absI m < 6400
    · simp only [if_pos h]; exact shaped_str (sok_word m)
    · simp only [if_neg h]; exact shaped_long
  | p => exact shaped_str (sok_md .p m)
  | i => exact shaped_str (sok_md .i m)
  | h => exact shaped_str (sok_md .h m)
theorem eqv_told {d : Md} {a b : Int} (ha : -1000000 ≤ a ∧ a ≤ 1000000) (hb : -1000000 ≤ b ∧ b ≤ 1000000) : PyData.eqv (dOf d a) (dOf d b) = decide (a = b) := by
  have str : d.ok a → d.ok b → PyData.eqv (.str (d.t a)) (.str (d.t b)) = decide (a = b) := fun oa ob => by
    rw [eqv_str, decide_eq_decide]
    exact ⟨fun h => md_inj ha hb oa ob h, fun h => by rw [h]⟩
  cases d with
  | w =>
    unfold dOf
    by_cases h : absI a < 6400 <;> by_cases h' : absI b < 6400
    · simp only [if_pos h, if_pos h']; exact str h h'
    · simp only [if_pos h, if_neg h']
      rw [decide_eq_false (fun e => h' (by rw [← e]; exact h))]
      rfl
    · simp only [if_neg h, if_pos h']
      rw [decide_eq_false (fun e => h (by rw [e]; exact h'))]
      rfl
    · simp only [if_neg h, if_neg h']
      exact eqv_long
  | p => exact str trivial trivial
  | i => exact str trivial trivial
  | h => exact str trivial trivial
theorem go_eqV {d : Md} {a b : Int} {O : Sto} {Q : PV → Sto → Prop} (ha : -1000000 ≤ a ∧ a ≤ 1000000) (hb : -1000000 ≤ b ∧ b ≤ 1000000) (k : Q (.bl (decide (a = b))) O) : Go (eqD (toldV d a) (toldV d b) O) Q := by
  refine go_eqDd toD_told toD_told (by rw [shaped_told, shaped_told]; rfl) ?_
  rw [eqv_told ha hb]
  exact k
theorem e__law_same {d : Md} {m : Int} {O : Sto} (h : -1000000 ≤ m ∧ m ≤ 1000000) : m__law_same [toldV d m, toldV d m] O = .ok (.bl true) O := by
  have str : toldV d m = .str (d.t m) → m__law_same [toldV d m, toldV d m] O = .ok (.bl true) O := fun e => by
    rw [e]
    refine Go.eq ?_
    walk_at "def"
    refine bF (by decide +kernel) ?_
    walk_at "c"
    refine go_eqDd rfl rfl (by rw [shaped_str (sok_md d m)]; rfl) ?_
    rw [eqv_str, decide_eq_true rfl]
    exact ⟨rfl, rfl⟩
  cases d with
  | w =>
    by_cases c : absI m < 6400
    · exact str (if_pos c)
    · rw [show toldV .w m = .lst [.str "long", .int m] from if_neg c]
      refine Go.eq ?_
      walk_at "def"
      refine go_eqDd (d := longD m) (d' := longD m) rfl rfl (by rw [shaped_long]; rfl) ?_
      rw [eqv_long, decide_eq_true rfl]
      walk_at "c"
      refine go_ixA_L rfl rfl ?_
      walk_at "c"
      refine go_at e__law_plain ?_
      exact ⟨rfl, rfl⟩
  | p => exact str rfl
  | i => exact str rfl
  | h => exact str rfl
theorem g_told {d : Md} {m w : Int} {O : Sto} {Q : PV → Sto → Prop} (h : -1000000 ≤ m ∧ m ≤ 1000000) (hw : 0 ≤ w ∧ w < 3) (k : ∀ O', Fr O O' → Q (toldV d m) O') : Go (m__law_told [.int m, .str d.z, .int w] O) Q := by
  have ok : d.ok m → Go (m__law_told [.int m, .str d.z, .int w] O) Q := fun o => g_told_ok h o hw fun O' f => by rw [← toldV_ok o]; exact k O' f
  cases d with
  | w =>
    by_cases c : absI m < 6400
    · exact ok c
    · refine g_told_x (by omega) hw fun O' f => ?_
      have := k O' f
      rw [show toldV .w m = .lst [.str "long", .int m] from if_neg c] at this
      exact this
  | p => exact ok trivial
  | i => exact ok trivial
  | h => exact ok trivial
theorem g__law_right {p : Nat} {O : Sto} {Q : PV → Sto → Prop} (h : Pu O p) (k : ∀ O', Q (.bl true) O') : Go (m__law_right [.loc p] O) Q := by
  have h := Ph.start h
  walk_at "def"
  refine g__law_edge h ?_
  clear h
  intro a O1 ha h
  walk_at "c"
  refine g__law_edge h ?_
  clear h
  intro b O2 hb h
  walk_at "c"
  have pu2 := h.pu
  rw [mds_eq]
  refine go_loopP (fun d : Md => .str d.z) (fun _ s O1 => Pu O1 p ∧ ∃ x2 x3 x4 x5, s = [some (.loc p), some (.lst [.int a, .int b]), x2, x3, x4, x5]) mds (fun _ _ _ _ => trivial) ⟨pu2, _, _, _, _, rfl⟩ (fun dn d t s O1 e hJ => ?_) (fun s O1 hJ => ?_)
  · obtain ⟨pu, x2, x3, x4, x5, rfl⟩ := hJ
    have hp : p < O1.length := by obtain ⟨_, _, _, e, _⟩ := pu; exact lt_of_get e
    walk_at "c"
    generalize hn : O1.length = n
    have e2 : [PV.int a, .int b] = [a, b].map .int := rfl
    rw [e2]
    refine go_loopP (fun x : Int => .int x) (fun dn s O2 => Pu O2 p ∧ O2[n]? = some (some (.lst (dn.map (toldV d)))) ∧ ∃ x4 x5, s = [some (.loc p), some (.lst [.int a, .int b]), some (.str d.z), some (.loc n), x4, x5]) [a, b] (fun _ _ _ _ => trivial) ⟨?_, ?_, _, _, rfl⟩ (fun dn x t s O2 e hJ => ?_) (fun s O2 hJ => ?_)
    · exact (Fr.refl.app).pu pu
    · rw [← hn]; exact get_app
    · obtain ⟨pu, on, x4, x5, rfl⟩ := hJ
      have hx : -1000000 ≤ x ∧ x ≤ 1000000 := by
        have m : x ∈ [a, b] := by rw [e]; simp
        simp only [List.mem_cons, List.not_mem_nil, or_false] at m
        rcases m with rfl | rfl <;> assumption
      have dl : dn.length ≤ 2 := by
        have := congrArg List.length e
        simp at this
        omega
      have hpn : n ≠ p := by omega
      walk_at "c"
      refine g__law_due hx fun O3 f3 => ?_
      have pu := f3.pu pu
      have on := f3.get on
      walk_at "c"
      have h := Ph.start pu
      refine g__law_take h ?n0 ?n1 ?_
      case n0 => omega
      case n1 => omega
      intro r O4 r0 r1 h
      have pu := h.pu
      have on : O4[n]? = some (some (.lst (dn.map (toldV d)))) := (h.oth n hpn).trans on
      walk_at "c"
      refine g_told hx ⟨r0, r1⟩ fun O5 f5 => ?_
      have pu := f5.pu pu
      have on := f5.get on
      walk_at "c"
      refine go_appE on (szl_le (by rw [List.length_map]; omega)) fun O6 on6 oth6 => ?_
      have pu : Pu O6 p := by
        obtain ⟨u, v, w, e, q⟩ := pu
        exact ⟨u, v, w, (oth6 p hpn.symm).trans e, q⟩
      walk_at "c"
      refine go_ixL (lst_loc on6) atI_last ?_
      walk_at "c"
      refine go_at (e__law_same hx) ?_
      walk_at "c"
      refine g_told hx (by omega) fun O7 f7 => ?_
      have pu := f7.pu pu
      have on := f7.get on6
      walk_at "c"
      refine go_at (e__law_same hx) ?_
      walk_at "c"
      have fin : ∀ O', Fr O7 O' → Pu O' p ∧ O'[n]? = some (some (.lst ((dn ++ [x]).map (toldV d)))) := fun O' f => ⟨f.pu pu, by rw [List.map_append]; exact f.get on⟩
      by_cases di : d = .i
      · subst di
        refine bT (by decide +kernel) ?_
        walk_at "c"
        refine g_told_3 hx fun O8 f8 => ?_
        walk_at "c"
        refine go_at (e__law_same (d := .i) hx) ?_
        walk_at "c"
        exact ⟨(fin O8 f8).1, (fin O8 f8).2, _, _, rfl⟩
      · refine bF (by cases d <;> first | exact absurd rfl di | decide +kernel) ?_
        walk_at "c"
        exact ⟨(fin O7 Fr.refl).1, (fin O7 Fr.refl).2, _, _, rfl⟩
    · obtain ⟨pu, on, x4, x5, rfl⟩ := hJ
      walk_at "c"
      refine go_eqV ha hb ?_
      walk_at "c"
      refine bF (by simp) ?_
      walk_at "c"
      exact ⟨_, _, _, _, rfl⟩
  · obtain ⟨_, x2, x3, x4, x5, rfl⟩ := hJ
    walk_at "c"
    exact k _
set_option hygiene false in
local macro_rules | `(tactic| walk_at "call") => `(tactic| ((with_reducible refine' g__law_right ?h0 ?_); (case h0 => assumption); intro Oz))
theorem law_true {ns : List Int} (hn : ns.length ≤ 63) : Go (m_law [.rol (ns.map .int)] []) fun q _ => q = .bl true := by
  walk_at "def"
  rw [List.length_map]
  walk_at "g"
  obtain ⟨acc, O', e1, e2, e3, _⟩ := comp_all (O := _) (tgt := gNm 1) (e := eCall m__law_right [] (aCons (eCall m__law_purse [] (aCons (eCall m__law_cell [] (aCons (eVar 0) (aCons (eVar 1) aNil))) aNil)) aNil)) (s0 := [some (.rol (ns.map .int)), none]) (items := rgL 0 (max 1 (min (ns.length : Int) 12)).toNat) (fun _ => True) (fun q => q = .bl true) (by rw [rgL_len]; omega) trivial fun p hp O' _ => by
    obtain ⟨i, hi⟩ := List.getElem?_of_mem hp
    obtain ⟨hp1, rfl⟩ := rgL_get hi
    walk_at "g"
    refine g__law_cell (by omega) (by omega) fun z => ?_
    walk_at "g"
    refine g__law_purse fun O2 h _ _ => ?_
    walk_at "g"
    exact ⟨rfl, trivial⟩
  refine ⟨_, _, e1, ?_⟩
  walk_at "g"
  refine go_all (ns := List.replicate acc.length true) (congrArg some (trues e3)) ?_
  rw [Gx.all_rep]
end Qg
namespace Qg
open PySem PySem.Spec PyProof.Rows L2 Gx Qx Hd
section
variable {K : PySem.W.Frag}
theorem bd_tell_1 : Gx.BdD K d_tell ["measure", "way"] [.str "inches"] := fun fd F => F.binds1 1 0 (List.cons_ne_nil _ _) (by rfl) fun _ _ _ _ _ _ _ us its h1 h2 => match us, its, h1, h2 with | [_], [_], _, _ => ⟨_, rfl, rfl⟩
theorem bd_tell_2 : Gx.BdD K d_tell ["measure", "way"] [] := fun fd F => F.binds1 2 1 (List.cons_ne_nil _ _) (by rfl) fun _ _ _ _ _ _ _ us its h1 h2 => match us, its, h1, h2 with | [_, _], [_], _, _ => ⟨_, rfl, rfl⟩
theorem bk_tell_0_way_measure : Gx.BdK K d_tell ["measure", "way"] 0 ["way", "measure"] (fun us ws => (fun its => us ++ (ws.drop 1).take 1 ++ (ws.drop 0).take 1) ([.str "inches"] : List V)) := fun fd F => by
  have e : (d_tell).dvs K = ([.str "inches"] : List V) := by rfl
  rw [← e]
  obtain ⟨its, h⟩ := F.kbindsD (ps := ["measure", "way"]) 0 ["way", "measure"] (fun us its ws => us ++ (ws.drop 1).take 1 ++ (ws.drop 0).take 1) (List.cons_ne_nil _ _) (fun r1 r2 r3 => ((r1.append ((r3.drop 1).take 1)).append ((r3.drop 0).take 1))) (fun _ _ _ _ _ _ _ us its ws h1 h2 h3 => match us, its, ws, h1, h2, h3 with | [], [_], [_, _], _, _, _ => ⟨_, rfl, rfl⟩)
  exact ⟨_, h⟩
theorem bk_tell_1_way : Gx.BdK K d_tell ["measure", "way"] 1 ["way"] (fun us ws => (fun its => us ++ (ws.drop 0).take 1) ([.str "inches"] : List V)) := fun fd F => by
  have e : (d_tell).dvs K = ([.str "inches"] : List V) := by rfl
  rw [← e]
  obtain ⟨its, h⟩ := F.kbindsD (ps := ["measure", "way"]) 1 ["way"] (fun us its ws => us ++ (ws.drop 0).take 1) (List.cons_ne_nil _ _) (fun r1 r2 r3 => (r1.append ((r3.drop 0).take 1))) (fun _ _ _ _ _ _ _ us its ws h1 h2 h3 => match us, its, ws, h1, h2, h3 with | [_], [_], [_], _, _, _ => ⟨_, rfl, rfl⟩)
  exact ⟨_, h⟩
end
section
variable {P : Program} {w : World} {K : PySem.W.Frag} {mg : Str → Option Value} {base : Heap}
theorem k_COUNTS (T : Tx w K mg) : ∀ ι G, Rep K ι G c_COUNTS (.ref (He.ga K "COUNTS")) := T.k_COUNTS
theorem k_SHARES (T : Tx w K mg) : ∀ ι G, Rep K ι G c_SHARES (.ref (He.ga K "SHARES")) := T.k_SHARES
theorem k_TENS (T : Tx w K mg) : ∀ ι G, Rep K ι G c_TENS (.ref (He.ga K "TENS")) := T.k_TENS
theorem kd_TELLERS (T : Tx w K mg) : KdF K w "TELLERS" t_TELLERS := T.kd_TELLERS
theorem sc__law_cell : FnScope ["_law_script", "_law_k"] ["_law_script", "_law_k"] (defScope s__law_cell) := ⟨rfl, rfl, rfl, by decide +kernel, rfl, by decide +kernel, by decide +kernel⟩
theorem ok__law_cell (T : Tx w K mg) : DOk P w K mg base d__law_cell CX0 1 ["_law_script", "_law_k"] (spM K false m__law_cell) := by
  obtain ⟨fd, F⟩ := T.df__law_cell
  exact ⟨fd, F, F.ok sc__law_cell (fun vs H Q E h => spM_len h) (fun cdv A outer s H vs Q E hr h => ⟨_, PSs.nox (pss_cons (ps_if (pt_cmpR op_lt (pv 1) (pe_callB (call_len_seq) (by rfl) T.f_len (by decide +kernel) (pa_cons (pv 0) pa_nil)) (nomark _)) (pss_one (ps_ret (pe_ix ix_list (pv 0) (pv 1) (fun _ _ => rfl)))) pss_nil)
      (pss_one (ps_ret (pe_op op_add (pe_op op_add (pe_op op_mul (pe_callB (x_sum (K := K) rfl rfl) (by rfl) T.f_sum (by decide +kernel) (pa_cons (pe_slice sl_list (pv 0) po_none (po_some pe_int)) pa_nil)) pe_int) (pe_op op_mul pe_int (pe_op op_add (pv 1) pe_int))) pe_int)))), spM_run (n := 2) (N := ["_law_script", "_law_k"]) (sim_seq (sim_ifS (sim_test (sim_op os_lt sim_var (sim_cb cb_len (sim_cons sim_var sim_nil)))) (sim_ret (sim_op os_ixL sim_var sim_var)) sim_next)
      (sim_ret (sim_op os_add (sim_op os_add (sim_op os_mul (sim_cb cb_sum (sim_cons (sim_sl ss_L sim_var sim_noP (sim_part sim_int)) sim_nil)) sim_int) (sim_op os_mul sim_int (sim_op os_add sim_var sim_int))) sim_int))) h⟩)⟩
theorem sc__law_purse : FnScope ["_law_cell_here", "_law_digits"] ["_law_cell_here"] (defScope s__law_purse) := ⟨rfl, rfl, rfl, by decide +kernel, rfl, by decide +kernel, by decide +kernel⟩
theorem ok__law_purse (T : Tx w K mg) : DOk P w K mg base d__law_purse CX0 1 ["_law_cell_here"] (spM K false m__law_purse) := by
  obtain ⟨fd, F⟩ := T.df__law_purse
  exact ⟨fd, F, F.ok sc__law_purse (fun vs H Q E h => spM_len h) (fun cdv A outer s H vs Q E hr h => ⟨_, PSs.nox (pss_cons (ps_set (i := 1) sc__law_purse.nd rfl (Or.inl rfl) pe_int)
      (pss_cons (ps_if (PW.pt (pw_or (pt_cmpR op_lt (pv 0) pe_int (nomark _)) (pw_or1 (pt_cmpR op_ge (pv 0) (pe_op op_pow pe_int pe_int) (nomark _))))) (pss_one (ps_set (i := 1) sc__law_purse.nd rfl (Or.inl rfl) (pe_callB (call_abs) (by rfl) T.f_abs (by decide +kernel) (pa_cons (pv 0) pa_nil)))) pss_nil)
      (pss_one (ps_ret (pe_lst (pa_cons (pe_op op_mod (pv 0) pe_int) (pa_cons (pv 1) (pa_cons pe_int pa_nil)))))))), spM_run (n := 1) (N := ["_law_cell_here", "_law_digits"]) (sim_seq (sim_asg sim_int sim_nm)
      (sim_seq (sim_ifS (sim_or (sim_test (sim_op os_lt sim_var sim_int)) (sim_test (sim_op os_ge sim_var (sim_op os_pow sim_int sim_int)))) (sim_asg (sim_cb cb_abs (sim_cons sim_var sim_nil)) sim_nm) sim_next)
      (sim_ret (sim_lstO (sim_cons (sim_op os_mod sim_var sim_int) (sim_cons sim_var (sim_cons sim_int sim_nil))))))) h⟩)⟩
theorem sc__law_take : FnScope ["_law_purse_here", "_law_many", "_law_old", "_law_taken"] ["_law_purse_here", "_law_many"] (defScope s__law_take) := ⟨rfl, rfl, rfl, by decide +kernel, rfl, by decide +kernel, by decide +kernel⟩
theorem ok__law_take (T : Tx w K mg) : DOk P w K mg base d__law_take CX0 1 ["_law_purse_here", "_law_many"] (spM K false m__law_take) := by
  obtain ⟨fd, F⟩ := T.df__law_take
  exact ⟨fd, F, F.ok sc__law_take (fun vs H Q E h => spM_len h) (fun cdv A outer s H vs Q E hr h => ⟨_, PSs.nox (pss_cons (ps_asg (pe_op op_add (pe_ix ix_list (pv 0) pe_int (fun _ _ => rfl)) pe_int) (pg_sub (pv 0) pe_int set_list))
      (pss_cons (ps_set (i := 2) sc__law_take.nd rfl (Or.inl rfl) (pe_ix ix_list (pv 0) pe_int (fun _ _ => rfl)))
      (pss_cons (ps_asg (pe_op op_mod (pe_op op_add (pe_op op_add (pe_op op_mul (pv 2) (pe_op op_add (pe_op op_mod (pv 2) pe_int) pe_int)) (pe_op op_mul pe_int (pe_ix ix_list (pv 0) pe_int (fun _ _ => rfl)))) pe_int) pe_int) (pg_sub (pv 0) pe_int set_list))
      (pss_cons (ps_if (pt_cmpR op_gt (pe_ix ix_list (pv 0) pe_int (fun _ _ => rfl)) pe_int (nomark _)) (pss_cons (ps_set (i := 3) sc__law_take.nd rfl (Or.inl rfl) (pe_op op_mod (pe_ix ix_list (pv 0) pe_int (fun _ _ => rfl)) (pv 1)))
      (pss_cons (ps_asg (pe_op op_fdiv (pe_ix ix_list (pv 0) pe_int (fun _ _ => rfl)) (pv 1)) (pg_sub (pv 0) pe_int set_list))
      (pss_one (ps_ret (pv 3))))) pss_nil)
      (pss_one (ps_ret (pe_op op_mod (pe_op op_fdiv (pe_ix ix_list (pv 0) pe_int (fun _ _ => rfl)) pe_int) (pv 1)))))))), spM_run (n := 2) (N := ["_law_purse_here", "_law_many", "_law_old", "_law_taken"]) (sim_seq (sim_asg (sim_op os_add (sim_op os_ixL sim_var sim_int) sim_int) (sim_gSubL sim_var sim_int))
      (sim_seq (sim_asg (sim_op os_ixL sim_var sim_int) sim_nm)
      (sim_seq (sim_asg (sim_op os_mod (sim_op os_add (sim_op os_add (sim_op os_mul sim_var (sim_op os_add (sim_op os_mod sim_var sim_int) sim_int)) (sim_op os_mul sim_int (sim_op os_ixL sim_var sim_int))) sim_int) sim_int) (sim_gSubL sim_var sim_int))
      (sim_seq (sim_ifS (sim_test (sim_op os_gt (sim_op os_ixL sim_var sim_int) sim_int)) (sim_seq (sim_asg (sim_op os_mod (sim_op os_ixL sim_var sim_int) sim_var) sim_nm)
      (sim_seq (sim_asg (sim_op os_fdiv (sim_op os_ixL sim_var sim_int) sim_var) (sim_gSubL sim_var sim_int))
      (sim_ret sim_var))) sim_next)
      (sim_ret (sim_op os_mod (sim_op os_fdiv (sim_op os_ixL sim_var sim_int) sim_int) sim_var)))))) h⟩)⟩
theorem sc__law_measure : FnScope ["_law_purse_here", "_law_wide"] ["_law_purse_here"] (defScope s__law_measure) := ⟨rfl, rfl, rfl, by decide +kernel, rfl, by decide +kernel, by decide +kernel⟩
theorem ok__law_measure (T : Tx w K mg) : DOk P w K mg base d__law_measure CX0 2 ["_law_purse_here"] (spM K false m__law_measure) := by
  have o__law_take := ok__law_take (P := P) (w := w) (base := base) T
  obtain ⟨fd, F⟩ := T.df__law_measure
  exact ⟨fd, F, F.ok sc__law_measure (fun vs H Q E h => spM_len h) (fun cdv A outer s H vs Q E hr h => ⟨_, PSs.nox (pss_cons (ps_set (i := 1) sc__law_measure.nd rfl (Or.inl rfl) (pe_ix ix_list (pe_lst (pa_cons pe_int (pa_cons pe_int (pa_cons pe_int (pa_cons pe_int pa_nil))))) (pc o__law_take T.g__law_take b__law_take hr (by decide) (pa_cons (pv 0) (pa_cons pe_int pa_nil))) (fun _ _ => rfl)))
      (pss_one (ps_ret (pe_op op_sub (pc o__law_take T.g__law_take b__law_take hr (by decide) (pa_cons (pv 0) (pa_cons (pe_op op_add (pe_op op_mul pe_int (pv 1)) pe_int) pa_nil))) (pv 1))))), spM_run (n := 1) (N := ["_law_purse_here", "_law_wide"]) (sim_seq (sim_asg (sim_op os_ixL (sim_lst (sim_cons sim_int (sim_cons sim_int (sim_cons sim_int (sim_cons sim_int sim_nil))))) (sim_call (sim_cons sim_var (sim_cons sim_int sim_nil)) (fun _ _ => RepL.nilR))) sim_nm)
      (sim_ret (sim_op os_sub (sim_call (sim_cons sim_var (sim_cons (sim_op os_add (sim_op os_mul sim_int sim_var) sim_int) sim_nil)) (fun _ _ => RepL.nilR)) sim_var))) h⟩)⟩
theorem sc__law_edge : FnScope ["_law_purse_here", "_law_some", "_law_pick", "_law_sign", "_law_near"] ["_law_purse_here"] (defScope s__law_edge) := ⟨rfl, rfl, rfl, by decide +kernel, rfl, by decide +kernel, by decide +kernel⟩
theorem ok__law_edge (T : Tx w K mg) : DOk P w K mg base d__law_edge CX0 3 ["_law_purse_here"] (spM K false m__law_edge) := by
  have o__law_take := ok__law_take (P := P) (w := w) (base := base) T
  have o__law_measure := ok__law_measure (P := P) (w := w) (base := base) T
  obtain ⟨fd, F⟩ := T.df__law_edge
  exact ⟨fd, F, F.ok sc__law_edge (fun vs H Q E h => spM_len h) (fun cdv A outer s H vs Q E hr h => ⟨_, PSs.nox (pss_cons (ps_par3 (i := 2) (j := 3) (l := 4) (by rfl) sc__law_edge.nd rfl rfl rfl (by decide) (by decide) (by decide) rfl rfl rfl (pa_cons (pc o__law_take T.g__law_take b__law_take hr (by decide) (pa_cons (pv 0) (pa_cons pe_int pa_nil))) (pa_cons (pe_op op_sub pe_int (pe_op op_mul pe_int (pc o__law_take T.g__law_take b__law_take hr (by decide) (pa_cons (pv 0) (pa_cons pe_int pa_nil))))) (pa_cons (pe_op op_sub (pc o__law_take T.g__law_take b__law_take hr (by decide) (pa_cons (pv 0) (pa_cons pe_int pa_nil))) pe_int) pa_nil))) (by rfl))
      (pss_cons (ps_set (i := 1) sc__law_edge.nd rfl (Or.inl rfl) (pe_lst (pa_cons (pe_op op_mul pe_int (pc o__law_take T.g__law_take b__law_take hr (by decide) (pa_cons (pv 0) (pa_cons pe_int pa_nil)))) (pa_cons (pe_op op_mul pe_int (pe_ix ix_list (pe_lst (pa_cons pe_int (pa_cons pe_int (pa_cons pe_int (pa_cons pe_int (pa_cons pe_int (pa_cons pe_int (pa_cons pe_int (pa_cons pe_int pa_nil))))))))) (pc o__law_take T.g__law_take b__law_take hr (by decide) (pa_cons (pv 0) (pa_cons pe_int pa_nil))) (fun _ _ => rfl))) pa_nil))))
      (pss_cons (ps_set (i := 1) sc__law_edge.nd rfl (Or.inl rfl) (pe_op op_cat (pv 1) (pe_lst (pa_cons (pc o__law_take T.g__law_take b__law_take hr (by decide) (pa_cons (pv 0) (pa_cons pe_int pa_nil))) (pa_cons pe_int (pa_cons (pe_op op_mul pe_int (pc o__law_take T.g__law_take b__law_take hr (by decide) (pa_cons (pv 0) (pa_cons pe_int pa_nil)))) pa_nil))))))
      (pss_cons (ps_if (pt_cmpR op_lt (pv 2) pe_int (nomark _)) (pss_one (ps_ret (pe_op op_mul (pv 3) (pe_op op_add (pe_ix ix_list (pv 1) (pv 2) (fun _ _ => rfl)) (pe_op op_mul (pv 4) (pc o__law_take T.g__law_take b__law_take hr (by decide) (pa_cons (pv 0) (pa_cons pe_int pa_nil)))))))) pss_nil)
      (pss_one (ps_ret (pc o__law_measure T.g__law_measure b__law_measure hr (by decide) (pa_cons (pv 0) pa_nil)))))))), spM_run (n := 1) (N := ["_law_purse_here", "_law_some", "_law_pick", "_law_sign", "_law_near"]) (sim_seq (sim_par3 (sim_cons (sim_call (sim_cons sim_var (sim_cons sim_int sim_nil)) (fun _ _ => RepL.nilR)) (sim_cons (sim_op os_sub sim_int (sim_op os_mul sim_int (sim_call (sim_cons sim_var (sim_cons sim_int sim_nil)) (fun _ _ => RepL.nilR)))) (sim_cons (sim_op os_sub (sim_call (sim_cons sim_var (sim_cons sim_int sim_nil)) (fun _ _ => RepL.nilR)) sim_int) sim_nil))))
      (sim_seq (sim_asg (sim_lst (sim_cons (sim_op os_mul sim_int (sim_call (sim_cons sim_var (sim_cons sim_int sim_nil)) (fun _ _ => RepL.nilR))) (sim_cons (sim_op os_mul sim_int (sim_op os_ixL (sim_lst (sim_cons sim_int (sim_cons sim_int (sim_cons sim_int (sim_cons sim_int (sim_cons sim_int (sim_cons sim_int (sim_cons sim_int (sim_cons sim_int sim_nil))))))))) (sim_call (sim_cons sim_var (sim_cons sim_int sim_nil)) (fun _ _ => RepL.nilR)))) sim_nil))) sim_nm)
      (sim_seq (sim_asg (sim_op os_catL sim_var (sim_lst (sim_cons (sim_call (sim_cons sim_var (sim_cons sim_int sim_nil)) (fun _ _ => RepL.nilR)) (sim_cons sim_int (sim_cons (sim_op os_mul sim_int (sim_call (sim_cons sim_var (sim_cons sim_int sim_nil)) (fun _ _ => RepL.nilR))) sim_nil))))) sim_nm)
      (sim_seq (sim_ifS (sim_test (sim_op os_lt sim_var sim_int)) (sim_ret (sim_op os_mul sim_var (sim_op os_add (sim_op os_ixL sim_var sim_var) (sim_op os_mul sim_var (sim_call (sim_cons sim_var (sim_cons sim_int sim_nil)) (fun _ _ => RepL.nilR)))))) sim_next)
      (sim_ret (sim_call (sim_cons sim_var sim_nil) (fun _ _ => RepL.nilR))))))) h⟩)⟩
theorem sc__law_counted : FnScope ["_law_whole", "_law_ones", "_law_tens"] ["_law_whole"] (defScope s__law_counted) := ⟨rfl, rfl, rfl, by decide +kernel, rfl, by decide +kernel, by decide +kernel⟩
theorem ok__law_counted (T : Tx w K mg) : DOk P w K mg base d__law_counted CX0 1 ["_law_whole"] (spM K false m__law_counted) := by
  obtain ⟨fd, F⟩ := T.df__law_counted
  exact ⟨fd, F, F.ok sc__law_counted (fun vs H Q E h => spM_len h) (fun cdv A outer s H vs Q E hr h => ⟨_, PSs.nox (pss_cons (ps_set (i := 1) sc__law_counted.nd rfl (Or.inl rfl) (pe_lst (pa_cons pe_str (pa_cons pe_str (pa_cons pe_str (pa_cons pe_str (pa_cons pe_str (pa_cons pe_str (pa_cons pe_str (pa_cons pe_str (pa_cons pe_str (pa_cons pe_str (pa_cons pe_str (pa_cons pe_str (pa_cons pe_str pa_nil)))))))))))))))
      (pss_cons (ps_set (i := 1) sc__law_counted.nd rfl (Or.inl rfl) (pe_op op_cat (pv 1) (pe_lst (pa_cons pe_str (pa_cons pe_str (pa_cons pe_str (pa_cons pe_str (pa_cons pe_str (pa_cons pe_str (pa_cons pe_str pa_nil))))))))))
      (pss_cons (ps_set (i := 2) sc__law_counted.nd rfl (Or.inl rfl) (pe_lst (pa_cons pe_str (pa_cons pe_str (pa_cons pe_str (pa_cons pe_str (pa_cons pe_str (pa_cons pe_str (pa_cons pe_str (pa_cons pe_str (pa_cons pe_str (pa_cons pe_str pa_nil))))))))))))
      (pss_cons (ps_if (pt_cmpR op_eq (pv 0) pe_int (nomark _)) (pss_one (ps_ret (pe_lst pa_nil))) pss_nil)
      (pss_cons (ps_if (pt_cmpR op_lt (pv 0) pe_int (nomark _)) (pss_one (ps_ret (pe_lst (pa_cons (pe_ix ix_list (pv 1) (pv 0) (fun _ _ => rfl)) pa_nil)))) pss_nil)
      (pss_one (ps_ret (pe_lst (pa_cons (pe_op op_add_str (pe_op op_add_str (pe_ix ix_list (pv 2) (pe_op op_fdiv (pv 0) pe_int) (fun _ _ => rfl)) (pe_op op_mulS pe_str (pe_callTy (call_int1) (by rfl) T.f_int (by decide +kernel) (pa_cons (pe_cmpR op_gt (pe_op op_mod (pv 0) pe_int) pe_int (nomark _)) pa_nil)))) (pe_ix ix_list (pv 1) (pe_op op_mod (pv 0) pe_int) (fun _ _ => rfl))) pa_nil))))))))), spM_run (n := 1) (N := ["_law_whole", "_law_ones", "_law_tens"]) (sim_seq (sim_asg (sim_lst (sim_cons sim_str (sim_cons sim_str (sim_cons sim_str (sim_cons sim_str (sim_cons sim_str (sim_cons sim_str (sim_cons sim_str (sim_cons sim_str (sim_cons sim_str (sim_cons sim_str (sim_cons sim_str (sim_cons sim_str (sim_cons sim_str sim_nil)))))))))))))) sim_nm)
      (sim_seq (sim_asg (sim_op os_catL sim_var (sim_lst (sim_cons sim_str (sim_cons sim_str (sim_cons sim_str (sim_cons sim_str (sim_cons sim_str (sim_cons sim_str (sim_cons sim_str sim_nil))))))))) sim_nm)
      (sim_seq (sim_asg (sim_lst (sim_cons sim_str (sim_cons sim_str (sim_cons sim_str (sim_cons sim_str (sim_cons sim_str (sim_cons sim_str (sim_cons sim_str (sim_cons sim_str (sim_cons sim_str (sim_cons sim_str sim_nil))))))))))) sim_nm)
      (sim_seq (sim_ifS (sim_test (sim_op os_eqS sim_var sim_int)) (sim_ret (sim_lstO sim_nil)) sim_next)
      (sim_seq (sim_ifS (sim_test (sim_op os_lt sim_var sim_int)) (sim_ret (sim_lstO (sim_cons (sim_op os_ixL sim_var sim_var) sim_nil))) sim_next)
      (sim_ret (sim_lstO (sim_cons (sim_op os_addS (sim_op os_addS (sim_op os_ixL sim_var (sim_op os_fdiv sim_var sim_int)) (sim_op os_repS sim_str (sim_cb cb_int (sim_cons (sim_op os_gt (sim_op os_mod sim_var sim_int) sim_int) sim_nil)))) (sim_op os_ixL sim_var (sim_op os_mod sim_var sim_int))) sim_nil)))))))) h⟩)⟩
theorem sc__law_doubles : FnScope ["_law_number", "_law_told_here"] ["_law_number"] (defScope s__law_doubles) := ⟨rfl, rfl, rfl, by decide +kernel, rfl, by decide +kernel, by decide +kernel⟩
theorem ok__law_doubles (T : Tx w K mg) : DOk P w K mg base d__law_doubles CX0 1 ["_law_number"] (spM K false m__law_doubles) := by
  obtain ⟨fd, F⟩ := T.df__law_doubles
  exact ⟨fd, F, F.ok sc__law_doubles (fun vs H Q E h => spM_len h) (fun cdv A outer s H vs Q E hr h => ⟨_, PSs.nox (pss_cons (ps_set (i := 1) sc__law_doubles.nd rfl (Or.inl rfl) (pe_callTy (call_str_int) (by rfl) T.f_str (by decide +kernel) (pa_cons (pe_op op_mod (pv 0) pe_int) pa_nil)))
      (pss_cons (ps_while PassesOwn.never (pt_cmpR op_gt (pv 0) pe_int (nomark _))
      (pss_cons (ps_set (i := 0) sc__law_doubles.nd rfl (Or.inl rfl) (pe_op op_fdiv (pv 0) pe_int))
      (pss_one (ps_set (i := 1) sc__law_doubles.nd rfl (Or.inl rfl) (pe_op op_add_str (pe_callTy (call_str_int) (by rfl) T.f_str (by decide +kernel) (pa_cons (pe_op op_mod (pv 0) pe_int) pa_nil)) (pv 1))))))
      (pss_one (ps_ret (pv 1))))), spM_run (n := 1) (N := ["_law_number", "_law_told_here"]) (sim_seq (sim_asg (sim_cb cb_strI (sim_cons (sim_op os_mod sim_var sim_int) sim_nil)) sim_nm)
      (sim_seq (sim_while (sim_test (sim_op os_gt sim_var sim_int)) (sim_seq (sim_asg (sim_op os_fdiv sim_var sim_int) sim_nm)
      (sim_asg (sim_op os_addS (sim_cb cb_strI (sim_cons (sim_op os_mod sim_var sim_int) sim_nil)) sim_var) sim_nm)))
      (sim_ret sim_var))) h⟩)⟩
theorem sc__law_tell : FnScope ["_law_wide", "_law_mode", "_law_told_here", "_law_bottom", "_law_whole", "_law_rest", "_law_worth", "_law_name"] ["_law_wide", "_law_mode"] (defScope s__law_tell) := ⟨rfl, rfl, rfl, by decide +kernel, rfl, by decide +kernel, by decide +kernel⟩
theorem ok__law_tell (T : Tx w K mg) : DOk P w K mg base d__law_tell CX0 2 ["_law_wide", "_law_mode"] (spM K false m__law_tell) := by
  have o__law_counted := ok__law_counted (P := P) (w := w) (base := base) T
  have o__law_doubles := ok__law_doubles (P := P) (w := w) (base := base) T
  obtain ⟨fd, F⟩ := T.df__law_tell
  exact ⟨fd, F, F.ok sc__law_tell (fun vs H Q E h => spM_len h) (fun cdv A outer s H vs Q E hr h => ⟨_, PSs.nox (pss_cons (ps_par (i := 4) (j := 5) (by rfl) sc__law_tell.nd rfl rfl (by decide) rfl rfl (pa_cons (pe_op op_fdiv (pe_callB (call_abs) (by rfl) T.f_abs (by decide +kernel) (pa_cons (pv 0) pa_nil)) pe_int) (pa_cons (pe_op op_mod (pe_callB (call_abs) (by rfl) T.f_abs (by decide +kernel) (pa_cons (pv 0) pa_nil)) pe_int) pa_nil)) (by rfl))
      (pss_cons (ps_if (pt_cmpR op_eq (pv 1) pe_str (nomark _)) (pss_one (ps_ret (pe_callTy (call_str_int) (by rfl) T.f_str (by decide +kernel) (pa_cons (pv 0) pa_nil)))) pss_nil)
      (pss_cons (ps_set (i := 2) sc__law_tell.nd rfl (Or.inl rfl) (pe_lst pa_nil))
      (pss_cons (ps_if (pt_cmpR op_eq (pv 1) pe_str (nomark _)) (pss_cons (ps_set (i := 2) sc__law_tell.nd rfl (Or.inl rfl) (pc o__law_counted T.g__law_counted b__law_counted hr (by decide) (pa_cons (pv 4) pa_nil)))
      (pss_cons (ps_for PassesOwn.never rfl (pi_list (pe_lst (pa_cons (pe_tup (pa_cons pe_int (pa_cons pe_str pa_nil))) (pa_cons (pe_tup (pa_cons pe_int (pa_cons pe_str pa_nil))) (pa_cons (pe_tup (pa_cons pe_int (pa_cons pe_str pa_nil))) (pa_cons (pe_tup (pa_cons pe_int (pa_cons pe_str pa_nil))) pa_nil)))))) (pg_tup rfl (pgs_cons (pg_name (i := 6) sc__law_tell.nd rfl (Or.inl rfl)) (pgs_cons (pg_name (i := 7) sc__law_tell.nd rfl (Or.inl rfl)) pgs_nil)))
      (pss_one (ps_if (pt_cmpR op_eq (pe_op op_mod (pe_op op_fdiv (pv 5) (pv 6)) pe_int) pe_int (nomark _)) (pss_one (ps_expr (pe_bm PySem.F.plainAttrs_list PySem.F.slot_list_append PySem.F.type_list_append mt_append (pv 2) (pa_cons (pv 7) pa_nil)))) pss_nil)))
      (pss_cons (ps_expr (pe_bm PySem.F.plainAttrs_list PySem.F.slot_list_extend PySem.F.type_list_extend mt_extend (pv 2) (pa_cons (pe_op op_rep (pe_lst (pa_cons pe_str pa_nil)) (pe_op op_mod (pe_op op_fdiv (pv 5) pe_int) pe_int)) pa_nil)))
      (pss_cons (ps_expr (pe_bm PySem.F.plainAttrs_list PySem.F.slot_list_extend PySem.F.type_list_extend mt_extend (pv 2) (pa_cons (pe_op op_rep (pe_lst (pa_cons pe_str pa_nil)) (pe_op op_mod (pv 5) pe_int)) pa_nil)))
      (pss_cons (ps_if (pt_cmpR (op_eqD hr.units) (pv 2) (pe_lst pa_nil) (nomark _)) (pss_one (ps_ret pe_str)) pss_nil)
      (pss_one (ps_ret (pe_op op_add_str (pe_op op_mulS pe_str (pe_callTy (call_int1) (by rfl) T.f_int (by decide +kernel) (pa_cons (pe_cmpR op_lt (pv 0) pe_int (nomark _)) pa_nil))) (pe_bm PySem.F.plainAttrs_str PySem.F.slot_str_join PySem.F.type_str_join mt_join pe_str (pa_cons (pv 2) pa_nil)))))))))) pss_nil)
      (pss_cons (ps_if (pt_cmpR op_eq (pv 1) pe_str (nomark _)) (pss_one (ps_ret (pe_op op_add_str (pe_op op_add_str (pe_op op_add_str (pe_op op_mulS pe_str (pe_callTy (call_int1) (by rfl) T.f_int (by decide +kernel) (pa_cons (pe_cmpR op_lt (pv 0) pe_int (nomark _)) pa_nil))) (pc o__law_doubles T.g__law_doubles b__law_doubles hr (by decide) (pa_cons (pv 4) pa_nil))) pe_str) (pe_slice sl_str (pc o__law_doubles T.g__law_doubles b__law_doubles hr (by decide) (pa_cons (pe_op op_add pe_int (pv 5)) pa_nil)) (po_some pe_int) po_none)))) pss_nil)
      (pss_cons (ps_if (PW.pt (pw_or (pt_cmpR op_gt (pv 4) pe_int (nomark _)) (pw_or1 (pt_cmpR op_eq (pv 5) pe_int (nomark _))))) (pss_one (ps_expr (pe_bm PySem.F.plainAttrs_list PySem.F.slot_list_append PySem.F.type_list_append mt_append (pv 2) (pa_cons (pe_callTy (call_str_int) (by rfl) T.f_str (by decide +kernel) (pa_cons (pv 4) pa_nil)) pa_nil)))) pss_nil)
      (pss_cons (ps_set (i := 3) sc__law_tell.nd rfl (Or.inl rfl) pe_int)
      (pss_cons (ps_while PassesOwn.never (PW.pt (pw_and (pt_cmpR op_gt (pv 5) pe_int (nomark _)) (pw_and1 (pt_cmpR op_eq (pe_op op_mod (pv 5) pe_int) pe_int (nomark _)))))
      (pss_one (ps_par (i := 5) (j := 3) (by rfl) sc__law_tell.nd rfl rfl (by decide) rfl rfl (pa_cons (pe_op op_fdiv (pv 5) pe_int) (pa_cons (pe_op op_fdiv (pv 3) pe_int) pa_nil)) (by rfl))))
      (pss_cons (ps_if (pt_cmpR op_gt (pv 5) pe_int (nomark _)) (pss_one (ps_expr (pe_bm PySem.F.plainAttrs_list PySem.F.slot_list_append PySem.F.type_list_append mt_append (pv 2) (pa_cons (pe_op op_add_str (pe_op op_add_str (pe_callTy (call_str_int) (by rfl) T.f_str (by decide +kernel) (pa_cons (pv 5) pa_nil)) pe_str) (pe_callTy (call_str_int) (by rfl) T.f_str (by decide +kernel) (pa_cons (pv 3) pa_nil))) pa_nil)))) pss_nil)
      (pss_one (ps_ret (pe_op op_add_str (pe_op op_mulS pe_str (pe_callTy (call_int1) (by rfl) T.f_int (by decide +kernel) (pa_cons (pe_cmpR op_lt (pv 0) pe_int (nomark _)) pa_nil))) (pe_bm PySem.F.plainAttrs_str PySem.F.slot_str_join PySem.F.type_str_join mt_join pe_str (pa_cons (pv 2) pa_nil)))))))))))))), spM_run (n := 2) (N := ["_law_wide", "_law_mode", "_law_told_here", "_law_bottom", "_law_whole", "_law_rest", "_law_worth", "_law_name"]) (sim_seq (sim_par (sim_cons (sim_op os_fdiv (sim_cb cb_abs (sim_cons sim_var sim_nil)) sim_int) (sim_cons (sim_op os_mod (sim_cb cb_abs (sim_cons sim_var sim_nil)) sim_int) sim_nil)))
      (sim_seq (sim_ifS (sim_test (sim_op os_eqS sim_var sim_str)) (sim_ret (sim_cb cb_strI (sim_cons sim_var sim_nil))) sim_next)
      (sim_seq (sim_asg (sim_lstO sim_nil) sim_nm)
      (sim_seq (sim_ifS (sim_test (sim_op os_eqS sim_var sim_str)) (sim_seq (sim_asg (sim_call (sim_cons sim_var sim_nil) (fun _ _ => RepL.nilR)) sim_nm)
      (sim_seq (sim_for (sim_iL (sim_lst (sim_cons (sim_tup (sim_cons sim_int (sim_cons sim_str sim_nil))) (sim_cons (sim_tup (sim_cons sim_int (sim_cons sim_str sim_nil))) (sim_cons (sim_tup (sim_cons sim_int (sim_cons sim_str sim_nil))) (sim_cons (sim_tup (sim_cons sim_int (sim_cons sim_str sim_nil))) sim_nil)))))) (sim_g0 (g0_tup (E := none) (g0_cons g0_nm (g0_cons g0_nm g0_nil)))) (sim_ifS (sim_test (sim_op os_eqS (sim_op os_mod (sim_op os_fdiv sim_var sim_var) sim_int) sim_int)) (sim_exp (sim_bml ml_append sim_var (sim_cons sim_var sim_nil))) sim_next))
      (sim_seq (sim_exp (sim_bml ml_extend sim_var (sim_cons (sim_op os_rep (sim_lst (sim_cons sim_str sim_nil)) (sim_op os_mod (sim_op os_fdiv sim_var sim_int) sim_int)) sim_nil)))
      (sim_seq (sim_exp (sim_bml ml_extend sim_var (sim_cons (sim_op os_rep (sim_lst (sim_cons sim_str sim_nil)) (sim_op os_mod sim_var sim_int)) sim_nil)))
      (sim_seq (sim_ifS (sim_test (sim_op os_eqD sim_var (sim_lst sim_nil))) (sim_ret sim_str) sim_next)
      (sim_ret (sim_op os_addS (sim_op os_repS sim_str (sim_cb cb_int (sim_cons (sim_op os_lt sim_var sim_int) sim_nil))) (sim_bms ms_join sim_str (sim_cons sim_var sim_nil))))))))) sim_next)
      (sim_seq (sim_ifS (sim_test (sim_op os_eqS sim_var sim_str)) (sim_ret (sim_op os_addS (sim_op os_addS (sim_op os_addS (sim_op os_repS sim_str (sim_cb cb_int (sim_cons (sim_op os_lt sim_var sim_int) sim_nil))) (sim_call (sim_cons sim_var sim_nil) (fun _ _ => RepL.nilR))) sim_str) (sim_sl ss_S (sim_call (sim_cons (sim_op os_add sim_int sim_var) sim_nil) (fun _ _ => RepL.nilR)) (sim_part sim_int) sim_noP))) sim_next)
      (sim_seq (sim_ifS (sim_or (sim_test (sim_op os_gt sim_var sim_int)) (sim_test (sim_op os_eqS sim_var sim_int))) (sim_exp (sim_bml ml_append sim_var (sim_cons (sim_cb cb_strI (sim_cons sim_var sim_nil)) sim_nil))) sim_next)
      (sim_seq (sim_asg sim_int sim_nm)
      (sim_seq (sim_while (sim_and (sim_test (sim_op os_gt sim_var sim_int)) (sim_test (sim_op os_eqS (sim_op os_mod sim_var sim_int) sim_int))) (sim_par (sim_cons (sim_op os_fdiv sim_var sim_int) (sim_cons (sim_op os_fdiv sim_var sim_int) sim_nil))))
      (sim_seq (sim_ifS (sim_test (sim_op os_gt sim_var sim_int)) (sim_exp (sim_bml ml_append sim_var (sim_cons (sim_op os_addS (sim_op os_addS (sim_cb cb_strI (sim_cons sim_var sim_nil)) sim_str) (sim_cb cb_strI (sim_cons sim_var sim_nil))) sim_nil))) sim_next)
      (sim_ret (sim_op os_addS (sim_op os_repS sim_str (sim_cb cb_int (sim_cons (sim_op os_lt sim_var sim_int) sim_nil))) (sim_bms ms_join sim_str (sim_cons sim_var sim_nil))))))))))))) h⟩)⟩
theorem sc__law_due : FnScope ["_law_size", "_law_mode"] ["_law_size", "_law_mode"] (defScope s__law_due) := ⟨rfl, rfl, rfl, by decide +kernel, rfl, by decide +kernel, by decide +kernel⟩
theorem ok__law_due (T : Tx w K mg) : DOk P w K mg base d__law_due CX0 3 ["_law_size", "_law_mode"] (spM K false m__law_due) := by
  have o__law_tell := ok__law_tell (P := P) (w := w) (base := base) T
  obtain ⟨fd, F⟩ := T.df__law_due
  exact ⟨fd, F, F.ok sc__law_due (fun vs H Q E h => spM_len h) (fun cdv A outer s H vs Q E hr h => ⟨_, PSs.nox (pss_cons (ps_if (PW.pt (pw_and (pt_cmpR op_eq (pv 1) pe_str (nomark _)) (pw_and1 (pt_cmpR op_ge (pe_callB (call_abs) (by rfl) T.f_abs (by decide +kernel) (pa_cons (pv 0) pa_nil)) pe_int (nomark _))))) (pss_one (ps_ret (pe_lst (pa_cons pe_str (pa_cons (pv 0) pa_nil))))) pss_nil)
      (pss_one (ps_ret (pc o__law_tell T.g__law_tell b__law_tell hr (by decide) (pa_cons (pv 0) (pa_cons (pv 1) pa_nil)))))), spM_run (n := 2) (N := ["_law_size", "_law_mode"]) (sim_seq (sim_ifS (sim_and (sim_test (sim_op os_eqS sim_var sim_str)) (sim_test (sim_op os_ge (sim_cb cb_abs (sim_cons sim_var sim_nil)) sim_int))) (sim_ret (sim_lst (sim_cons sim_str (sim_cons sim_var sim_nil)))) sim_next)
      (sim_ret (sim_call (sim_cons sim_var (sim_cons sim_var sim_nil)) (fun _ _ => RepL.nilR)))) h⟩)⟩
theorem sc_is_way : FnScope ["thing"] ["thing"] (defScope s_is_way) := ⟨rfl, rfl, rfl, by decide +kernel, rfl, by decide +kernel, by decide +kernel⟩
theorem ok_is_way (T : Tx w K mg) : DOk P w K mg base d_is_way CX0 1 ["thing"] (spM K false m_is_way) := by
  obtain ⟨fd, F⟩ := T.df_is_way
  exact ⟨fd, F, F.ok sc_is_way (fun vs H Q E h => spM_len h) (fun cdv A outer s H vs Q E hr h => ⟨_, PSs.nox (pss_one (ps_ret (pe_and (pe_callB (x_isi (K := K) rfl) (by rfl) T.f_isinstance (by decide +kernel) (pa_cons (pv 0) (pa_cons (pe_bltn (v := .ty "str") (u := .type "str") (by rfl) T.f_str (by decide +kernel) rfl) pa_nil))) (pe_one (pe_cmpR (op_inKd (kd_TELLERS T)) (pv 0) (pe_glob (v := .ref (He.ga K "TELLERS")) rfl T.g_TELLERS rfl) rfl))))), spM_run (n := 1) (N := ["thing"]) (sim_ret (sim_andV (sim_cb (cb_isi T.clsK) (sim_cons sim_var (sim_cons sim_ty sim_nil))) (sim_op (os_inKd (kd_TELLERS T)) sim_var sim_cls))) h⟩)⟩
theorem sc_NoOption___init__ : FnScope ["self", "option"] ["self", "option"] (defScope s_NoOption___init__) := ⟨rfl, rfl, rfl, by decide +kernel, rfl, by decide +kernel, by decide +kernel⟩
theorem ok_NoOption___init__ (T : Tx w K mg) : DOk P w K mg base d_NoOption___init__ CX0 1 ["self", "option"] (spXi (He.ga K "NoOption") "option") := by
  obtain ⟨fd, F⟩ := T.df_NoOption___init__
  exact ⟨fd, F, F.ok sc_NoOption___init__ (fun vs H Q E h => spXi_len h) (fun cdv A outer s H vs Q E hr h => ⟨_, PSs.nox (pss_cons (ps_expr (pe_clinit T.xi_NoOption.b.rd T.xi_NoOption.b.ga T.xi_NoOption.b.vV T.g_FitError (pa_cons (pv 0) (pa_cons pe_str pa_nil)))) (pss_one (ps_ost (pv 0) (pv 1)))), spXi_run rfl T.xi_NoOption.o T.xi_NoOption.no h⟩)⟩
theorem sc_check_way : FnScope ["way"] ["way"] (defScope s_check_way) := ⟨rfl, rfl, rfl, by decide +kernel, rfl, by decide +kernel, by decide +kernel⟩
theorem ok_check_way (T : Tx w K mg) : DOk P w K mg base d_check_way (L2.CX P w) 3 ["way"] (spM K true m_check_way) := by
  have o_is_way := ok_is_way (P := P) (w := w) (base := base) T
  have o_NoOption___init__ := ok_NoOption___init__ (P := P) (w := w) (base := base) T
  obtain ⟨fd, F⟩ := T.df_check_way
  exact ⟨fd, F, F.ok sc_check_way (fun vs H Q E h => spM_len h) (fun cdv A outer s H vs Q E hr h => ⟨_, (pss_one (ps_if (pt_not (pt_val (pc o_is_way T.g_is_way b_is_way hr (by decide) (pa_cons (pv 0) pa_nil)))) (pss_one (ps_raise rfl (takes_of rfl rfl rfl rfl) (pmkXi o_NoOption___init__ T.xi_NoOption.o T.mt_NoOption___init__ T.g_NoOption b_NoOption___init__ hr (by decide) (pa_cons pe_str pa_nil)))) pss_nil)), spM_runX (E := E) (n := 1) (N := ["way"]) (sim_ifS (sim_not (sim_B (sim_callN (sim_cons sim_var sim_nil) (fun _ _ => RepL.nilR)))) (sim_raiseI (sim_cons sim_str sim_nil)) sim_next) h⟩)⟩
theorem sc_is_measure : FnScope ["thing"] ["thing"] (defScope s_is_measure) := ⟨rfl, rfl, rfl, by decide +kernel, rfl, by decide +kernel, by decide +kernel⟩
theorem ok_is_measure (T : Tx w K mg) : DOk P w K mg base d_is_measure CX0 1 ["thing"] (spM K false m_is_measure) := by
  obtain ⟨fd, F⟩ := T.df_is_measure
  exact ⟨fd, F, F.ok sc_is_measure (fun vs H Q E h => spM_len h) (fun cdv A outer s H vs Q E hr h => ⟨_, PSs.nox (pss_one (ps_ret (pe_and (pe_callB (x_isi (K := K) rfl) (by rfl) T.f_isinstance (by decide +kernel) (pa_cons (pv 0) (pa_cons (pe_bltn (v := .ty "int") (u := .type "int") (by rfl) T.f_int (by decide +kernel) rfl) pa_nil))) (pe_one (pe_not (pe_callB (x_isi (K := K) rfl) (by rfl) T.f_isinstance (by decide +kernel) (pa_cons (pv 0) (pa_cons (pe_bltn (v := .ty "bool") (u := .type "bool") (by rfl) T.f_bool (by decide +kernel) rfl) pa_nil)))))))), spM_run (n := 1) (N := ["thing"]) (sim_ret (sim_andV (sim_cb (cb_isi T.clsK) (sim_cons sim_var (sim_cons sim_ty sim_nil))) (sim_notV (sim_cb (cb_isi T.clsK) (sim_cons sim_var (sim_cons sim_ty sim_nil)))))) h⟩)⟩
theorem sc_check_measure : FnScope ["thing"] ["thing"] (defScope s_check_measure) := ⟨rfl, rfl, rfl, by decide +kernel, rfl, by decide +kernel, by decide +kernel⟩
theorem ok_check_measure (T : Tx w K mg) : DOk P w K mg base d_check_measure (L2.CX P w) 2 ["thing"] (spM K true m_check_measure) := by
  have o_is_measure := ok_is_measure (P := P) (w := w) (base := base) T
  obtain ⟨fd, F⟩ := T.df_check_measure
  exact ⟨fd, F, F.ok sc_check_measure (fun vs H Q E h => spM_len h) (fun cdv A outer s H vs Q E hr h => ⟨_, (pss_one (ps_if (pt_not (pt_val (pc o_is_measure T.g_is_measure b_is_measure hr (by decide) (pa_cons (pv 0) pa_nil)))) (pss_one (ps_raise rfl (takes_of rfl rfl rfl rfl) (pmk_own PySem.F.excBase_ValueError T.xq_NoMeasure T.g_NoMeasure T.xc_NoMeasure.kp T.xc_NoMeasure.raises rfl))) pss_nil)), spM_runX (E := E) (n := 1) (N := ["thing"]) (sim_ifS (sim_not (sim_B (sim_callN (sim_cons sim_var sim_nil) (fun _ _ => RepL.nilR)))) sim_raiseP sim_next) h⟩)⟩
theorem sc_by_parts : FnScope ["measure"] ["measure"] (defScope s_by_parts) := ⟨rfl, rfl, rfl, by decide +kernel, rfl, by decide +kernel, by decide +kernel⟩
theorem ok_by_parts (T : Tx w K mg) : DOk P w K mg base d_by_parts CX0 1 ["measure"] (spM K false m_by_parts) := by
  obtain ⟨fd, F⟩ := T.df_by_parts
  exact ⟨fd, F, F.ok sc_by_parts (fun vs H Q E h => spM_len h) (fun cdv A outer s H vs Q E hr h => ⟨_, PSs.nox (pss_one (ps_ret (pe_callTy (call_str_int) (by rfl) T.f_str (by decide +kernel) (pa_cons (pv 0) pa_nil)))), spM_run (n := 1) (N := ["measure"]) (sim_ret (sim_cb cb_strI (sim_cons sim_var sim_nil))) h⟩)⟩
theorem sc_minus_of : FnScope ["measure"] ["measure"] (defScope s_minus_of) := ⟨rfl, rfl, rfl, by decide +kernel, rfl, by decide +kernel, by decide +kernel⟩
theorem ok_minus_of (T : Tx w K mg) : DOk P w K mg base d_minus_of CX0 1 ["measure"] (spM K false m_minus_of) := by
  obtain ⟨fd, F⟩ := T.df_minus_of
  exact ⟨fd, F, F.ok sc_minus_of (fun vs H Q E h => spM_len h) (fun cdv A outer s H vs Q E hr h => ⟨_, PSs.nox (pss_one (ps_ret (pe_ifExp (pt_cmpR op_lt (pv 0) pe_int (nomark _)) pe_str pe_str))), spM_run (n := 1) (N := ["measure"]) (sim_ret (sim_if (sim_test (sim_op os_lt sim_var sim_int)) sim_str sim_str)) h⟩)⟩
theorem sc_by_inches : FnScope ["measure", "bottom", "told", "whole", "top"] ["measure"] (defScope s_by_inches) := ⟨rfl, rfl, rfl, by decide +kernel, rfl, by decide +kernel, by decide +kernel⟩
theorem ok_by_inches (T : Tx w K mg) : DOk P w K mg base d_by_inches CX0 2 ["measure"] (spM K false m_by_inches) := by
  have o_minus_of := ok_minus_of (P := P) (w := w) (base := base) T
  obtain ⟨fd, F⟩ := T.df_by_inches
  exact ⟨fd, F, F.ok sc_by_inches (fun vs H Q E h => spM_len h) (fun cdv A outer s H vs Q E hr h => ⟨_, PSs.nox (pss_cons (ps_asg (pe_callB (call_divmod) (by rfl) T.f_divmod (by decide +kernel) (pa_cons (pe_callB (call_abs) (by rfl) T.f_abs (by decide +kernel) (pa_cons (pv 0) pa_nil)) (pa_cons (pe_glob (v := .int 64) rfl T.i_INCH.choose_spec ⟨_, rfl⟩) pa_nil))) (pg_tup rfl (pgs_cons (pg_name (i := 3) sc_by_inches.nd rfl (Or.inl rfl)) (pgs_cons (pg_name (i := 4) sc_by_inches.nd rfl (Or.inl rfl)) pgs_nil))))
      (pss_cons (ps_set (i := 1) sc_by_inches.nd rfl (Or.inl rfl) (pe_glob (v := .int 64) rfl T.i_INCH.choose_spec ⟨_, rfl⟩))
      (pss_cons (ps_while PassesOwn.never (PW.pt (pw_and (pt_cmpR op_gt (pv 4) pe_int (nomark _)) (pw_and1 (pt_cmpR op_eq (pe_op op_mod (pv 4) pe_int) pe_int (nomark _)))))
      (pss_cons (ps_aug (i := 4) sc_by_inches.nd rfl (Or.inl rfl) pe_int iop_fdiv)
      (pss_one (ps_aug (i := 1) sc_by_inches.nd rfl (Or.inl rfl) pe_int iop_fdiv))))
      (pss_cons (ps_set (i := 2) sc_by_inches.nd rfl (Or.inl rfl) (pe_lst pa_nil))
      (pss_cons (ps_if (PW.pt (pw_or (pt_cmpR op_gt (pv 3) pe_int (nomark _)) (pw_or1 (pt_cmpR op_eq (pv 4) pe_int (nomark _))))) (pss_one (ps_expr (pe_bm PySem.F.plainAttrs_list PySem.F.slot_list_append PySem.F.type_list_append mt_append (pv 2) (pa_cons (pe_callTy (call_str_int) (by rfl) T.f_str (by decide +kernel) (pa_cons (pv 3) pa_nil)) pa_nil)))) pss_nil)
      (pss_cons (ps_if (pt_cmpR op_gt (pv 4) pe_int (nomark _)) (pss_one (ps_expr (pe_bm PySem.F.plainAttrs_list PySem.F.slot_list_append PySem.F.type_list_append mt_append (pv 2) (pa_cons (pe_joined (PJ.cons (pe_fmt (pv 4)) (PJ.cons pe_str (PJ.cons (pe_fmt (pv 1)) PJ.nil)))) pa_nil)))) pss_nil)
      (pss_one (ps_ret (pe_op op_add_str (pc o_minus_of T.g_minus_of b_minus_of hr (by decide) (pa_cons (pv 0) pa_nil)) (pe_bm PySem.F.plainAttrs_str PySem.F.slot_str_join PySem.F.type_str_join mt_join pe_str (pa_cons (pv 2) pa_nil))))))))))), spM_run (n := 1) (N := ["measure", "bottom", "told", "whole", "top"]) (sim_seq (sim_asg (sim_cb cb_divmod (sim_cons (sim_cb cb_abs (sim_cons sim_var sim_nil)) (sim_cons sim_int sim_nil))) (sim_g0 (g0_tup (E := none) (g0_cons g0_nm (g0_cons g0_nm g0_nil)))))
      (sim_seq (sim_asg sim_int sim_nm)
      (sim_seq (sim_while (sim_and (sim_test (sim_op os_gt sim_var sim_int)) (sim_test (sim_op os_eqS (sim_op os_mod sim_var sim_int) sim_int))) (sim_seq (sim_aug os_fdiv sim_int)
      (sim_aug os_fdiv sim_int)))
      (sim_seq (sim_asg (sim_lstO sim_nil) sim_nm)
      (sim_seq (sim_ifS (sim_or (sim_test (sim_op os_gt sim_var sim_int)) (sim_test (sim_op os_eqS sim_var sim_int))) (sim_exp (sim_bml ml_append sim_var (sim_cons (sim_cb cb_strI (sim_cons sim_var sim_nil)) sim_nil))) sim_next)
      (sim_seq (sim_ifS (sim_test (sim_op os_gt sim_var sim_int)) (sim_exp (sim_bml ml_append sim_var (sim_cons (sim_js (SimJs.cons (sim_fmt sim_var) (SimJs.cons sim_str (SimJs.cons (sim_fmt sim_var) SimJs.nil)))) sim_nil))) sim_next)
      (sim_ret (sim_op os_addS (sim_call (sim_cons sim_var sim_nil) (fun _ _ => RepL.nilR)) (sim_bms ms_join sim_str (sim_cons sim_var sim_nil)))))))))) h⟩)⟩
theorem sc_doubled : FnScope ["number", "told"] ["number"] (defScope s_doubled) := ⟨rfl, rfl, rfl, by decide +kernel, rfl, by decide +kernel, by decide +kernel⟩
theorem ok_doubled (T : Tx w K mg) : DOk P w K mg base d_doubled CX0 1 ["number"] (spM K false m_doubled) := by
  obtain ⟨fd, F⟩ := T.df_doubled
  exact ⟨fd, F, F.ok sc_doubled (fun vs H Q E h => spM_len h) (fun cdv A outer s H vs Q E hr h => ⟨_, PSs.nox (pss_cons (ps_set (i := 1) sc_doubled.nd rfl (Or.inl rfl) (pe_callTy (call_str_int) (by rfl) T.f_str (by decide +kernel) (pa_cons (pe_op op_mod (pv 0) pe_int) pa_nil)))
      (pss_cons (ps_while PassesOwn.never (pt_cmpR op_gt (pv 0) pe_int (nomark _))
      (pss_cons (ps_aug (i := 0) sc_doubled.nd rfl (Or.inl rfl) pe_int iop_fdiv)
      (pss_one (ps_set (i := 1) sc_doubled.nd rfl (Or.inl rfl) (pe_op op_add_str (pe_callTy (call_str_int) (by rfl) T.f_str (by decide +kernel) (pa_cons (pe_op op_mod (pv 0) pe_int) pa_nil)) (pv 1))))))
      (pss_one (ps_ret (pv 1))))), spM_run (n := 1) (N := ["number", "told"]) (sim_seq (sim_asg (sim_cb cb_strI (sim_cons (sim_op os_mod sim_var sim_int) sim_nil)) sim_nm)
      (sim_seq (sim_while (sim_test (sim_op os_gt sim_var sim_int)) (sim_seq (sim_aug os_fdiv sim_int)
      (sim_asg (sim_op os_addS (sim_cb cb_strI (sim_cons (sim_op os_mod sim_var sim_int) sim_nil)) sim_var) sim_nm)))
      (sim_ret sim_var))) h⟩)⟩
theorem sc_by_halves : FnScope ["measure", "whole", "rest"] ["measure"] (defScope s_by_halves) := ⟨rfl, rfl, rfl, by decide +kernel, rfl, by decide +kernel, by decide +kernel⟩
theorem ok_by_halves (T : Tx w K mg) : DOk P w K mg base d_by_halves CX0 2 ["measure"] (spM K false m_by_halves) := by
  have o_minus_of := ok_minus_of (P := P) (w := w) (base := base) T
  have o_doubled := ok_doubled (P := P) (w := w) (base := base) T
  obtain ⟨fd, F⟩ := T.df_by_halves
  exact ⟨fd, F, F.ok sc_by_halves (fun vs H Q E h => spM_len h) (fun cdv A outer s H vs Q E hr h => ⟨_, PSs.nox (pss_cons (ps_asg (pe_callB (call_divmod) (by rfl) T.f_divmod (by decide +kernel) (pa_cons (pe_callB (call_abs) (by rfl) T.f_abs (by decide +kernel) (pa_cons (pv 0) pa_nil)) (pa_cons (pe_glob (v := .int 64) rfl T.i_INCH.choose_spec ⟨_, rfl⟩) pa_nil))) (pg_tup rfl (pgs_cons (pg_name (i := 1) sc_by_halves.nd rfl (Or.inl rfl)) (pgs_cons (pg_name (i := 2) sc_by_halves.nd rfl (Or.inl rfl)) pgs_nil))))
      (pss_one (ps_ret (pe_op op_add_str (pe_op op_add_str (pe_op op_add_str (pc o_minus_of T.g_minus_of b_minus_of hr (by decide) (pa_cons (pv 0) pa_nil)) (pc o_doubled T.g_doubled b_doubled hr (by decide) (pa_cons (pv 1) pa_nil))) pe_str) (pe_bm PySem.F.plainAttrs_str PySem.F.slot_str_zfill PySem.F.type_str_zfill mt_zfill (pc o_doubled T.g_doubled b_doubled hr (by decide) (pa_cons (pv 2) pa_nil)) (pa_cons pe_int pa_nil)))))), spM_run (n := 1) (N := ["measure", "whole", "rest"]) (sim_seq (sim_asg (sim_cb cb_divmod (sim_cons (sim_cb cb_abs (sim_cons sim_var sim_nil)) (sim_cons sim_int sim_nil))) (sim_g0 (g0_tup (E := none) (g0_cons g0_nm (g0_cons g0_nm g0_nil)))))
      (sim_ret (sim_op os_addS (sim_op os_addS (sim_op os_addS (sim_call (sim_cons sim_var sim_nil) (fun _ _ => RepL.nilR)) (sim_call (sim_cons sim_var sim_nil) (fun _ _ => RepL.nilR))) sim_str) (sim_bms ms_zfill (sim_call (sim_cons sim_var sim_nil) (fun _ _ => RepL.nilR)) (sim_cons sim_int sim_nil))))) h⟩)⟩
theorem sc_TooLong___init__ : FnScope ["self", "measure"] ["self", "measure"] (defScope s_TooLong___init__) := ⟨rfl, rfl, rfl, by decide +kernel, rfl, by decide +kernel, by decide +kernel⟩
theorem ok_TooLong___init__ (T : Tx w K mg) : DOk P w K mg base d_TooLong___init__ CX0 1 ["self", "measure"] (spXi (He.ga K "TooLong") "measure") := by
  obtain ⟨fd, F⟩ := T.df_TooLong___init__
  exact ⟨fd, F, F.ok sc_TooLong___init__ (fun vs H Q E h => spXi_len h) (fun cdv A outer s H vs Q E hr h => ⟨_, PSs.nox (pss_cons (ps_expr (pe_clinitG ebA_ok T.xi_TooLong.b.rd T.xi_TooLong.b.ga T.xi_TooLong.b.vV T.g_RoomError (pa_cons (pv 0) (pa_cons pe_str pa_nil)))) (pss_one (ps_osG ebA_ok (pv 0) (pv 1)))), spXi_runG rfl T.xi_TooLong.o T.xi_TooLong.no h⟩)⟩
theorem sc_counted : FnScope ["whole", "told"] ["whole"] (defScope s_counted) := ⟨rfl, rfl, rfl, by decide +kernel, rfl, by decide +kernel, by decide +kernel⟩
theorem ok_counted (T : Tx w K mg) : DOk P w K mg base d_counted CX0 1 ["whole"] (spM K false m_counted) := by
  obtain ⟨fd, F⟩ := T.df_counted
  exact ⟨fd, F, F.ok sc_counted (fun vs H Q E h => spM_len h) (fun cdv A outer s H vs Q E hr h => ⟨_, PSs.nox (pss_cons (ps_if (pt_cmpR op_lt (pv 0) (pe_callB (call_len_seq) (by rfl) T.f_len (by decide +kernel) (pa_cons (pe_glob (v := .ref (He.ga K "COUNTS")) rfl T.g_COUNTS rfl) pa_nil)) (nomark _)) (pss_one (ps_ret (pe_ix ix_tup (pe_glob (v := .ref (He.ga K "COUNTS")) rfl T.g_COUNTS rfl) (pv 0) (fun _ _ => rfl)))) pss_nil)
      (pss_cons (ps_set (i := 1) sc_counted.nd rfl (Or.inl rfl) (pe_ix ix_tup (pe_glob (v := .ref (He.ga K "TENS")) rfl T.g_TENS rfl) (pe_op op_sub (pe_op op_fdiv (pv 0) pe_int) pe_int) (fun _ _ => rfl)))
      (pss_cons (ps_if (pt_cmpR op_gt (pe_op op_mod (pv 0) pe_int) pe_int (nomark _)) (pss_one (ps_aug (i := 1) sc_counted.nd rfl (Or.inl rfl) (pe_op op_add_str pe_str (pe_ix ix_tup (pe_glob (v := .ref (He.ga K "COUNTS")) rfl T.g_COUNTS rfl) (pe_op op_mod (pv 0) pe_int) (fun _ _ => rfl))) iop_add_str)) pss_nil)
      (pss_one (ps_ret (pv 1)))))), spM_run (n := 1) (N := ["whole", "told"]) (sim_seq (sim_ifS (sim_test (sim_op os_lt sim_var (sim_cb cb_len (sim_cons (sim_c (k_COUNTS T)) sim_nil)))) (sim_ret (sim_op os_ixT (sim_c (k_COUNTS T)) sim_var)) sim_next)
      (sim_seq (sim_asg (sim_op os_ixT (sim_c (k_TENS T)) (sim_op os_sub (sim_op os_fdiv sim_var sim_int) sim_int)) sim_nm)
      (sim_seq (sim_ifS (sim_test (sim_op os_gt (sim_op os_mod sim_var sim_int) sim_int)) (sim_aug os_ipaddS (sim_op os_addS sim_str (sim_op os_ixT (sim_c (k_COUNTS T)) (sim_op os_mod sim_var sim_int)))) sim_next)
      (sim_ret sim_var)))) h⟩)⟩
theorem sc_by_words : FnScope ["measure", "told", "worth", "sign", "whole", "rest", "article", "share"] ["measure"] (defScope s_by_words) := ⟨rfl, rfl, rfl, by decide +kernel, rfl, by decide +kernel, by decide +kernel⟩
theorem ok_by_words (T : Tx w K mg) : DOk P w K mg base d_by_words (L2.CX P w) 3 ["measure"] (spM K true m_by_words) := by
  have o_TooLong___init__ := ok_TooLong___init__ (P := P) (w := w) (base := base) T
  have o_counted := ok_counted (P := P) (w := w) (base := base) T
  obtain ⟨fd, F⟩ := T.df_by_words
  exact ⟨fd, F, F.ok sc_by_words (fun vs H Q E h => spM_len h) (fun cdv A outer s H vs Q E hr h => ⟨_, (pss_cons (ps_asg (pe_callB (call_divmod) (by rfl) T.f_divmod (by decide +kernel) (pa_cons (pe_callB (call_abs) (by rfl) T.f_abs (by decide +kernel) (pa_cons (pv 0) pa_nil)) (pa_cons (pe_glob (v := .int 64) rfl T.i_INCH.choose_spec ⟨_, rfl⟩) pa_nil))) (pg_tup rfl (pgs_cons (pg_name (i := 4) sc_by_words.nd rfl (Or.inl rfl)) (pgs_cons (pg_name (i := 5) sc_by_words.nd rfl (Or.inl rfl)) pgs_nil))))
      (pss_cons (ps_if (pt_cmpR op_ge (pv 4) (pe_glob (v := .int 100) rfl T.i_MOST_BY_WORDS.choose_spec ⟨_, rfl⟩) (nomark _)) (pss_one (ps_raise rfl (takes_of rfl rfl rfl rfl) (pmkXiG ebA_ok o_TooLong___init__ T.xi_TooLong.o T.mt_TooLong___init__ T.g_TooLong b_TooLong___init__ hr (by decide) (pa_cons (pv 0) pa_nil)))) pss_nil)
      (pss_cons (ps_if (pt_cmpR op_eq (pv 0) pe_int (nomark _)) (pss_one (ps_ret (pe_ix ix_tup (pe_glob (v := .ref (He.ga K "COUNTS")) rfl T.g_COUNTS rfl) pe_int (fun _ _ => rfl)))) pss_nil)
      (pss_cons (ps_set (i := 1) sc_by_words.nd rfl (Or.inl rfl) (pe_lst pa_nil))
      (pss_cons (ps_if (pt_cmpR op_gt (pv 4) pe_int (nomark _)) (pss_one (ps_expr (pe_bm PySem.F.plainAttrs_list PySem.F.slot_list_append PySem.F.type_list_append mt_append (pv 1) (pa_cons (pc o_counted T.g_counted b_counted hr (by decide) (pa_cons (pv 4) pa_nil)) pa_nil)))) pss_nil)
      (pss_cons (ps_set (i := 2) sc_by_words.nd rfl (Or.inl rfl) (pe_op op_fdiv (pe_glob (v := .int 64) rfl T.i_INCH.choose_spec ⟨_, rfl⟩) pe_int))
      (pss_cons (ps_for PassesOwn.leaving rfl (pi_tup (pe_glob (v := .ref (He.ga K "SHARES")) rfl T.g_SHARES rfl)) (pg_tup rfl (pgs_cons (pg_name (i := 6) sc_by_words.nd rfl (Or.inl rfl)) (pgs_cons (pg_name (i := 7) sc_by_words.nd rfl (Or.inl rfl)) pgs_nil)))
      (pss_cons (ps_if (pt_cmpR op_ge (pv 5) (pv 2) (nomark _)) (pss_cons (ps_expr (pe_bm PySem.F.plainAttrs_list PySem.F.slot_list_append PySem.F.type_list_append mt_append (pv 1) (pa_cons (pe_op op_add_str (pe_op op_add_str (pv 6) pe_str) (pv 7)) pa_nil)))
      (pss_one (ps_aug (i := 5) sc_by_words.nd rfl (Or.inl rfl) (pv 2) ip_sub))) pss_nil)
      (pss_one (ps_aug (i := 2) sc_by_words.nd rfl (Or.inl rfl) pe_int iop_fdiv))))
      (pss_cons (ps_set (i := 3) sc_by_words.nd rfl (Or.inl rfl) (pe_ifExp (pt_cmpR op_lt (pv 0) pe_int (nomark _)) pe_str pe_str))
      (pss_one (ps_ret (pe_op op_add_str (pv 3) (pe_bm PySem.F.plainAttrs_str PySem.F.slot_str_join PySem.F.type_str_join mt_join pe_str (pa_cons (pv 1) pa_nil))))))))))))), spM_runX (E := E) (n := 1) (N := ["measure", "told", "worth", "sign", "whole", "rest", "article", "share"]) (sim_seq (sim_asg (sim_cb cb_divmod (sim_cons (sim_cb cb_abs (sim_cons sim_var sim_nil)) (sim_cons sim_int sim_nil))) (sim_g0 (g0_tup (E := none) (g0_cons g0_nm (g0_cons g0_nm g0_nil)))))
      (sim_seq (sim_ifS (sim_test (sim_op os_ge sim_var sim_int)) (sim_raiseI (sim_cons sim_var sim_nil)) sim_next)
      (sim_seq (sim_ifS (sim_test (sim_op os_eqS sim_var sim_int)) (sim_ret (sim_op os_ixT (sim_c (k_COUNTS T)) sim_int)) sim_next)
      (sim_seq (sim_asg (sim_lstO sim_nil) sim_nm)
      (sim_seq (sim_ifS (sim_test (sim_op os_gt sim_var sim_int)) (sim_exp (sim_bml ml_append sim_var (sim_cons (sim_callN (sim_cons sim_var sim_nil) (fun _ _ => RepL.nilR)) sim_nil))) sim_next)
      (sim_seq (sim_asg (sim_op os_fdiv sim_int sim_int) sim_nm)
      (sim_seq (sim_for (sim_iT (sim_c (k_SHARES T))) (sim_g0 (g0_tup (E := none) (g0_cons g0_nm (g0_cons g0_nm g0_nil)))) (sim_seq (sim_ifS (sim_test (sim_op os_ge sim_var sim_var)) (sim_seq (sim_exp (sim_bml ml_append sim_var (sim_cons (sim_op os_addS (sim_op os_addS sim_var sim_str) sim_var) sim_nil)))
      (sim_aug os_ipsub sim_var)) sim_next)
      (sim_aug os_fdiv sim_int)))
      (sim_seq (sim_asg (sim_if (sim_test (sim_op os_lt sim_var sim_int)) sim_str sim_str) sim_nm)
      (sim_ret (sim_op os_addS sim_var (sim_bms ms_join sim_str (sim_cons sim_var sim_nil)))))))))))) h⟩)⟩
theorem sc_shown : FnScope ["measure", "way", "teller"] ["measure", "way"] (defScope s_shown) := ⟨rfl, rfl, rfl, by decide +kernel, rfl, by decide +kernel, by decide +kernel⟩
theorem ok_shown (T : Tx w K mg) : DOk P w K mg base d_shown (L2.CX P w) 4 ["measure", "way"] (spM K true m_shown) := by
  have o_by_parts := ok_by_parts (P := P) (w := w) (base := base) T
  have o_by_inches := ok_by_inches (P := P) (w := w) (base := base) T
  have o_by_halves := ok_by_halves (P := P) (w := w) (base := base) T
  have o_by_words := ok_by_words (P := P) (w := w) (base := base) T
  obtain ⟨fd, F⟩ := T.df_shown
  exact ⟨fd, F, F.ok sc_shown (fun vs H Q E h => spM_len h) (fun cdv A outer s H vs Q E hr h => ⟨_, (pss_cons (ps_set (i := 2) sc_shown.nd rfl (Or.inl rfl) (pe_ix ix_kdict (pe_glob (v := .ref (He.ga K "TELLERS")) rfl T.g_TELLERS rfl) (pv 1) (fun _ _ => rfl)))
      (pss_one (ps_ret (pe_callTS (i := 2) (tabx_cons (heldX0 o_by_parts b_by_parts (by decide)) (tabx_cons (heldX0 o_by_inches b_by_inches (by decide)) (tabx_cons (heldX0 o_by_halves b_by_halves (by decide)) (tabx_cons (heldX1 o_by_words b_by_words (by decide)) tabx_nil)))) (fun _ => passAt (takes_of rfl rfl rfl rfl) _) hr rfl (by first | exact Or.inl rfl | exact Or.inr (Or.inl rfl) | exact Or.inr (Or.inr rfl)) (pa_cons (pv 0) pa_nil))))), spM_runX (E := E) (n := 2) (N := ["measure", "way", "teller"]) (sim_seq (sim_asg (sim_op (os_ixKd (kd_TELLERS T)) sim_cls sim_var) sim_nm)
      (sim_ret (sim_callTX (sim_cons sim_var sim_nil)))) h⟩)⟩
theorem sc_tell : FnScope ["measure", "way"] ["measure", "way"] (defScope s_tell) := ⟨rfl, rfl, rfl, by decide +kernel, rfl, by decide +kernel, by decide +kernel⟩
theorem ok_tell (T : Tx w K mg) : DOk P w K mg base d_tell (L2.CX P w) 5 ["measure", "way"] (spM K true m_tell) := by
  have o_check_way := ok_check_way (P := P) (w := w) (base := base) T
  have o_check_measure := ok_check_measure (P := P) (w := w) (base := base) T
  have o_shown := ok_shown (P := P) (w := w) (base := base) T
  obtain ⟨fd, F⟩ := T.df_tell
  exact ⟨fd, F, F.ok sc_tell (fun vs H Q E h => spM_len h) (fun cdv A outer s H vs Q E hr h => ⟨_, (pss_cons (ps_expr (pcS o_check_way (fun _ => passAt (takes_of rfl rfl rfl rfl) _) T.g_check_way b_check_way hr (by decide) (pa_cons (pv 1) pa_nil)))
      (pss_cons (ps_expr (pcS o_check_measure (fun _ => passAt (takes_of rfl rfl rfl rfl) _) T.g_check_measure b_check_measure hr (by decide) (pa_cons (pv 0) pa_nil)))
      (pss_one (ps_ret (pcS o_shown (fun _ => passAt (takes_of rfl rfl rfl rfl) _) T.g_shown b_shown hr (by decide) (pa_cons (pv 0) (pa_cons (pv 1) pa_nil))))))), spM_runX (E := E) (n := 2) (N := ["measure", "way"]) (sim_seq (sim_exp (sim_callS (sim_cons sim_var sim_nil) (fun _ _ => RepL.nilR)))
      (sim_seq (sim_exp (sim_callS (sim_cons sim_var sim_nil) (fun _ _ => RepL.nilR)))
      (sim_ret (sim_callS (sim_cons sim_var (sim_cons sim_var sim_nil)) (fun _ _ => RepL.nilR))))) h⟩)⟩
theorem sc__law_sort : FnScope ["_law_e", "_law_own", "_law_words", "_law_at", "_law_families", "_law_roots", "_law_due_here"] ["_law_e"] (defScope s__law_sort) := ⟨rfl, rfl, rfl, by decide +kernel, rfl, by decide +kernel, by decide +kernel⟩
theorem okW__law_sort (T : Tx w K mg) : DOkW P w K mg base d__law_sort CX0 1 ["_law_e"] (spM K false m__law_sort) := by
  obtain ⟨fd, F⟩ := T.df__law_sort
  exact ⟨fd, F, okW F sc__law_sort (fun vs H Q E h => spM_len h) (fun cdv A outer s H vs Q E hr h => ⟨_, PSs.nox (pss_cons (ps_set (i := 1) sc__law_sort.nd rfl (Or.inl rfl) (pe_lst (pa_cons (pe_callB (x_isa (K := K) rfl) (by rfl) T.f_isinstance (by decide +kernel) (pa_cons (pv 0) (pa_cons (pe_glob (v := .ref (He.ga K "NoMeasure")) rfl T.g_NoMeasure rfl) pa_nil))) (pa_cons (pe_callB (x_isa (K := K) rfl) (by rfl) T.f_isinstance (by decide +kernel) (pa_cons (pv 0) (pa_cons (pe_glob (v := .ref (He.ga K "NoAllowance")) rfl T.g_NoAllowance rfl) pa_nil))) (pa_cons (pe_callB (x_isa (K := K) rfl) (by rfl) T.f_isinstance (by decide +kernel) (pa_cons (pv 0) (pa_cons (pe_glob (v := .ref (He.ga K "NoSpan")) rfl T.g_NoSpan rfl) pa_nil))) (pa_cons (pe_callB (x_isa (K := K) rfl) (by rfl) T.f_isinstance (by decide +kernel) (pa_cons (pv 0) (pa_cons (pe_glob (v := .ref (He.ga K "NoLimits")) rfl T.g_NoLimits rfl) pa_nil))) pa_nil))))))
      (pss_cons (ps_set (i := 1) sc__law_sort.nd rfl (Or.inl rfl) (pe_op op_cat (pv 1) (pe_lst (pa_cons (pe_callB (x_isa (K := K) rfl) (by rfl) T.f_isinstance (by decide +kernel) (pa_cons (pv 0) (pa_cons (pe_glob (v := .ref (He.ga K "NoDrawing")) rfl T.g_NoDrawing rfl) pa_nil))) (pa_cons (pe_callB (x_isa (K := K) rfl) (by rfl) T.f_isinstance (by decide +kernel) (pa_cons (pv 0) (pa_cons (pe_glob (v := .ref (He.ga K "NoSieve")) rfl T.g_NoSieve rfl) pa_nil))) (pa_cons (pe_callB (x_isa (K := K) rfl) (by rfl) T.f_isinstance (by decide +kernel) (pa_cons (pv 0) (pa_cons (pe_glob (v := .ref (He.ga K "NoTray")) rfl T.g_NoTray rfl) pa_nil))) (pa_cons (pe_callB (x_isa (K := K) rfl) (by rfl) T.f_isinstance (by decide +kernel) (pa_cons (pv 0) (pa_cons (pe_glob (v := .ref (He.ga K "NoRow")) rfl T.g_NoRow rfl) pa_nil))) pa_nil)))))))
      (pss_cons (ps_set (i := 1) sc__law_sort.nd rfl (Or.inl rfl) (pe_op op_cat (pv 1) (pe_lst (pa_cons (pe_callB (x_isa (K := K) rfl) (by rfl) T.f_isinstance (by decide +kernel) (pa_cons (pv 0) (pa_cons (pe_glob (v := .ref (He.ga K "NoOption")) rfl T.g_NoOption rfl) pa_nil))) (pa_cons (pe_callB (x_isa (K := K) rfl) (by rfl) T.f_isinstance (by decide +kernel) (pa_cons (pv 0) (pa_cons (pe_glob (v := .ref (He.ga K "NoNew")) rfl T.g_NoNew rfl) pa_nil))) (pa_cons (pe_callB (x_isa (K := K) rfl) (by rfl) T.f_isinstance (by decide +kernel) (pa_cons (pv 0) (pa_cons (pe_glob (v := .ref (He.ga K "NoWants")) rfl T.g_NoWants rfl) pa_nil))) (pa_cons (pe_callB (x_isa (K := K) rfl) (by rfl) T.f_isinstance (by decide +kernel) (pa_cons (pv 0) (pa_cons (pe_glob (v := .ref (He.ga K "NoZeros")) rfl T.g_NoZeros rfl) pa_nil))) pa_nil)))))))
      (pss_cons (ps_set (i := 1) sc__law_sort.nd rfl (Or.inl rfl) (pe_op op_cat (pv 1) (pe_lst (pa_cons (pe_callB (x_isa (K := K) rfl) (by rfl) T.f_isinstance (by decide +kernel) (pa_cons (pv 0) (pa_cons (pe_glob (v := .ref (He.ga K "NoWord")) rfl T.g_NoWord rfl) pa_nil))) (pa_cons (pe_callB (x_isa (K := K) rfl) (by rfl) T.f_isinstance (by decide +kernel) (pa_cons (pv 0) (pa_cons (pe_glob (v := .ref (He.ga K "NoLine")) rfl T.g_NoLine rfl) pa_nil))) (pa_cons (pe_callB (x_isa (K := K) rfl) (by rfl) T.f_isinstance (by decide +kernel) (pa_cons (pv 0) (pa_cons (pe_glob (v := .ref (He.ga K "NoName")) rfl T.g_NoName rfl) pa_nil))) (pa_cons (pe_callB (x_isa (K := K) rfl) (by rfl) T.f_isinstance (by decide +kernel) (pa_cons (pv 0) (pa_cons (pe_glob (v := .ref (He.ga K "NoPlace")) rfl T.g_NoPlace rfl) pa_nil))) pa_nil)))))))
      (pss_cons (ps_expr (pe_bm PySem.F.plainAttrs_list PySem.F.slot_list_append PySem.F.type_list_append mt_append (pv 1) (pa_cons (pe_callB (x_isa (K := K) rfl) (by rfl) T.f_isinstance (by decide +kernel) (pa_cons (pv 0) (pa_cons (pe_glob (v := .ref (He.ga K "TooLong")) rfl T.g_TooLong rfl) pa_nil))) pa_nil)))
      (pss_cons (ps_set (i := 2) sc__law_sort.nd rfl (Or.inl rfl) (pe_lst (pa_cons pe_str (pa_cons pe_str (pa_cons pe_str (pa_cons pe_str (pa_cons pe_str (pa_cons pe_str (pa_cons pe_str (pa_cons pe_str (pa_cons pe_str (pa_cons pe_str (pa_cons pe_str pa_nil)))))))))))))
      (pss_cons (ps_set (i := 2) sc__law_sort.nd rfl (Or.inl rfl) (pe_op op_cat (pv 2) (pe_lst (pa_cons pe_str (pa_cons pe_str (pa_cons pe_str (pa_cons pe_str (pa_cons pe_str (pa_cons pe_str pa_nil)))))))))
      (pss_cons (ps_if (pt_cmpR op_ne (pe_bm PySem.F.plainAttrs_list PySem.F.slot_list_count PySem.F.type_list_count mt_cntV (pv 1) (pa_cons pe_bl pa_nil)) pe_int (nomark _)) (pss_one (ps_ret (pe_lst (pa_cons pe_str pa_nil)))) pss_nil)
      (pss_cons (ps_set (i := 3) sc__law_sort.nd rfl (Or.inl rfl) (pe_bm PySem.F.plainAttrs_list PySem.F.slot_list_index PySem.F.type_list_index mt_index (pv 1) (pa_cons pe_bl pa_nil)))
      (pss_cons (ps_set (i := 4) sc__law_sort.nd rfl (Or.inl rfl) (pe_lst (pa_cons (pe_callB (x_isa (K := K) rfl) (by rfl) T.f_isinstance (by decide +kernel) (pa_cons (pv 0) (pa_cons (pe_glob (v := .ref (He.ga K "FitError")) rfl T.g_FitError rfl) pa_nil))) (pa_cons (pe_callB (x_isa (K := K) rfl) (by rfl) T.f_isinstance (by decide +kernel) (pa_cons (pv 0) (pa_cons (pe_glob (v := .ref (He.ga K "MissError")) rfl T.g_MissError rfl) pa_nil))) (pa_cons (pe_callB (x_isa (K := K) rfl) (by rfl) T.f_isinstance (by decide +kernel) (pa_cons (pv 0) (pa_cons (pe_glob (v := .ref (He.ga K "RoomError")) rfl T.g_RoomError rfl) pa_nil))) (pa_cons (pe_callB (x_isa (K := K) rfl) (by rfl) T.f_isinstance (by decide +kernel) (pa_cons (pv 0) (pa_cons (pe_glob (v := .ref (He.ga K "ReadError")) rfl T.g_ReadError rfl) pa_nil))) pa_nil))))))
      (pss_cons (ps_set (i := 5) sc__law_sort.nd rfl (Or.inl rfl) (pe_lst (pa_cons (pe_callB (x_isa (K := K) rfl) (by rfl) T.f_isinstance (by decide +kernel) (pa_cons (pv 0) (pa_cons (pe_bltn (v := .ty "ValueError") (u := .type "ValueError") (by rfl) T.f_ValueError (by decide +kernel) rfl) pa_nil))) (pa_cons (pe_callB (x_isa (K := K) rfl) (by rfl) T.f_isinstance (by decide +kernel) (pa_cons (pv 0) (pa_cons (pe_bltn (v := .ty "LookupError") (u := .type "LookupError") (by rfl) T.f_LookupError (by decide +kernel) rfl) pa_nil))) (pa_cons (pe_callB (x_isa (K := K) rfl) (by rfl) T.f_isinstance (by decide +kernel) (pa_cons (pv 0) (pa_cons (pe_bltn (v := .ty "ArithmeticError") (u := .type "ArithmeticError") (by rfl) T.f_ArithmeticError (by decide +kernel) rfl) pa_nil))) pa_nil)))))
      (pss_cons (ps_set (i := 6) sc__law_sort.nd rfl (Or.inl rfl) (pe_lst (pa_cons (pe_cmpR op_lt (pv 3) pe_int (nomark _)) (pa_cons (pe_cmpR op_in_seq (pv 3) (pe_tup (pa_cons pe_int (pa_cons pe_int pa_nil))) rfl) (pa_cons (pe_cmpR op_eq (pv 3) pe_int (nomark _)) pa_nil)))))
      (pss_cons (ps_if (PW.pt (pw_or (pt_cmpR (op_neD hr.units) (pe_slice sl_list (pv 4) po_none (po_some pe_int)) (pv 6) (nomark _)) (pw_or (pt_cmpR (op_neD hr.units) (pv 5) (pv 6) (nomark _)) (pw_or1 (pt_cmpR op_ne (pe_ix ix_list (pv 4) pe_int (fun _ _ => rfl)) (pe_cmpR op_in_seq (pv 3) (pe_tup (pa_cons pe_int (pa_cons pe_int pa_nil))) rfl) (nomark _)))))) (pss_one (ps_ret (pe_lst (pa_cons pe_str pa_nil)))) pss_nil)
      (pss_one (ps_ret (pe_lst (pa_cons (pe_ix ix_list (pv 2) (pv 3) (fun _ _ => rfl)) pa_nil))))))))))))))))), spM_run (n := 1) (N := ["_law_e", "_law_own", "_law_words", "_law_at", "_law_families", "_law_roots", "_law_due_here"]) (sim_seq (sim_asg (sim_lstO (sim_cons (sim_cb (cb_isx T.xk) (sim_cons sim_var (sim_cons sim_cls sim_nil))) (sim_cons (sim_cb (cb_isx T.xk) (sim_cons sim_var (sim_cons sim_cls sim_nil))) (sim_cons (sim_cb (cb_isx T.xk) (sim_cons sim_var (sim_cons sim_cls sim_nil))) (sim_cons (sim_cb (cb_isx T.xk) (sim_cons sim_var (sim_cons sim_cls sim_nil))) sim_nil))))) sim_nm)
      (sim_seq (sim_asg (sim_op os_catLO sim_var (sim_lst (sim_cons (sim_cb (cb_isx T.xk) (sim_cons sim_var (sim_cons sim_cls sim_nil))) (sim_cons (sim_cb (cb_isx T.xk) (sim_cons sim_var (sim_cons sim_cls sim_nil))) (sim_cons (sim_cb (cb_isx T.xk) (sim_cons sim_var (sim_cons sim_cls sim_nil))) (sim_cons (sim_cb (cb_isx T.xk) (sim_cons sim_var (sim_cons sim_cls sim_nil))) sim_nil)))))) sim_nm)
      (sim_seq (sim_asg (sim_op os_catLO sim_var (sim_lst (sim_cons (sim_cb (cb_isx T.xk) (sim_cons sim_var (sim_cons sim_cls sim_nil))) (sim_cons (sim_cb (cb_isx T.xk) (sim_cons sim_var (sim_cons sim_cls sim_nil))) (sim_cons (sim_cb (cb_isx T.xk) (sim_cons sim_var (sim_cons sim_cls sim_nil))) (sim_cons (sim_cb (cb_isx T.xk) (sim_cons sim_var (sim_cons sim_cls sim_nil))) sim_nil)))))) sim_nm)
      (sim_seq (sim_asg (sim_op os_catLO sim_var (sim_lst (sim_cons (sim_cb (cb_isx T.xk) (sim_cons sim_var (sim_cons sim_cls sim_nil))) (sim_cons (sim_cb (cb_isx T.xk) (sim_cons sim_var (sim_cons sim_cls sim_nil))) (sim_cons (sim_cb (cb_isx T.xk) (sim_cons sim_var (sim_cons sim_cls sim_nil))) (sim_cons (sim_cb (cb_isx T.xk) (sim_cons sim_var (sim_cons sim_cls sim_nil))) sim_nil)))))) sim_nm)
      (sim_seq (sim_exp (sim_bml ml_append sim_var (sim_cons (sim_cb (cb_isx T.xk) (sim_cons sim_var (sim_cons sim_cls sim_nil))) sim_nil)))
      (sim_seq (sim_asg (sim_lst (sim_cons sim_str (sim_cons sim_str (sim_cons sim_str (sim_cons sim_str (sim_cons sim_str (sim_cons sim_str (sim_cons sim_str (sim_cons sim_str (sim_cons sim_str (sim_cons sim_str (sim_cons sim_str sim_nil)))))))))))) sim_nm)
      (sim_seq (sim_asg (sim_op os_catL sim_var (sim_lst (sim_cons sim_str (sim_cons sim_str (sim_cons sim_str (sim_cons sim_str (sim_cons sim_str (sim_cons sim_str sim_nil)))))))) sim_nm)
      (sim_seq (sim_ifS (sim_test (sim_op os_neS (sim_bml ml_count sim_var (sim_cons sim_bl sim_nil)) sim_int)) (sim_ret (sim_lstO (sim_cons sim_str sim_nil))) sim_next)
      (sim_seq (sim_asg (sim_bml ml_index sim_var (sim_cons sim_bl sim_nil)) sim_nm)
      (sim_seq (sim_asg (sim_lst (sim_cons (sim_cb (cb_isx T.xk) (sim_cons sim_var (sim_cons sim_cls sim_nil))) (sim_cons (sim_cb (cb_isx T.xk) (sim_cons sim_var (sim_cons sim_cls sim_nil))) (sim_cons (sim_cb (cb_isx T.xk) (sim_cons sim_var (sim_cons sim_cls sim_nil))) (sim_cons (sim_cb (cb_isx T.xk) (sim_cons sim_var (sim_cons sim_cls sim_nil))) sim_nil))))) sim_nm)
      (sim_seq (sim_asg (sim_lst (sim_cons (sim_cb (cb_isx T.xk) (sim_cons sim_var (sim_cons sim_ty sim_nil))) (sim_cons (sim_cb (cb_isx T.xk) (sim_cons sim_var (sim_cons sim_ty sim_nil))) (sim_cons (sim_cb (cb_isx T.xk) (sim_cons sim_var (sim_cons sim_ty sim_nil))) sim_nil)))) sim_nm)
      (sim_seq (sim_asg (sim_lst (sim_cons (sim_op os_lt sim_var sim_int) (sim_cons (sim_op os_inS sim_var (sim_tup (sim_cons sim_int (sim_cons sim_int sim_nil)))) (sim_cons (sim_op os_eqS sim_var sim_int) sim_nil)))) sim_nm)
      (sim_seq (sim_ifS (sim_or (sim_test (sim_op os_neD (sim_sl ss_L sim_var sim_noP (sim_part sim_int)) sim_var)) (sim_or (sim_test (sim_op os_neD sim_var sim_var)) (sim_test (sim_op os_neS (sim_op os_ixL sim_var sim_int) (sim_op os_inS sim_var (sim_tup (sim_cons sim_int (sim_cons sim_int sim_nil)))))))) (sim_ret (sim_lstO (sim_cons sim_str sim_nil))) sim_next)
      (sim_ret (sim_lstO (sim_cons (sim_op os_ixL sim_var sim_var) sim_nil)))))))))))))))) h⟩)⟩
theorem sc__law_told : FnScope ["_law_size", "_law_mode", "_law_how", "_law_e", "_law_found"] ["_law_size", "_law_mode", "_law_how"] (defScope s__law_told) := ⟨rfl, rfl, rfl, by decide +kernel, rfl, by decide +kernel, by decide +kernel⟩
theorem ok__law_told (T : Tx w K mg) : DOk P w K mg base d__law_told CX0 6 ["_law_size", "_law_mode", "_law_how"] (spM K false m__law_told) := by
  have o_tell := ok_tell (P := P) (w := w) (base := base) T
  have ow__law_sort := okW__law_sort (P := P) (w := w) (base := base) T
  obtain ⟨fd, F⟩ := T.df__law_told
  exact ⟨fd, F, F.ok sc__law_told (fun vs H Q E h => spM_len h) (fun cdv A outer s H vs Q E hr h => ⟨_, PSs.nox (pss_cons (ps_try_manyT rfl rfl rfl sc__law_told.nd takes0 (fun W pn xe tk po => (pss_one (ps_if (pt_cmpR op_eq (pv 2) pe_int (nomark _)) (pss_one (ps_set (i := 4) sc__law_told.nd rfl (Or.inl rfl) (pcDS o_tell (fun _ => passAt tk _) T.g_tell bd_tell_2 hr (by decide) (pa_cons (pv 0) (pa_cons (pv 1) pa_nil))))) (pss_one (ps_if (pt_cmpR op_eq (pv 2) pe_int (nomark _)) (pss_one (ps_set (i := 4) sc__law_told.nd rfl (Or.inl rfl) (pcKS (ks := ["way"]) o_tell (fun _ => passAt tk _) T.g_tell bk_tell_1_way hr (by decide) (pa_cons (pv 0) pa_nil) (pk_cons (pv 1) pk_nil)))) (pss_one (ps_if (pt_cmpR op_eq (pv 2) pe_int (nomark _)) (pss_one (ps_set (i := 4) sc__law_told.nd rfl (Or.inl rfl) (pcK0S o_tell (fun _ => passAt tk _) T.g_tell bk_tell_0_way_measure hr (by decide) (pk_cons (pv 1) (pk_cons (pv 0) pk_nil))))) (pss_one (ps_set (i := 4) sc__law_told.nd rfl (Or.inl rfl) (pcDS o_tell (fun _ => passAt tk _) T.g_tell bd_tell_1 hr (by decide) (pa_cons (pv 0) pa_nil)))))))))))
      (.cons (i := 3) (test_two ⟨rfl, by decide, .inl T.g_FitError⟩ ⟨rfl, by decide, .inl T.g_MissError⟩) rfl rfl (fun a pn => (pss_one (ps_set (i := 4) sc__law_told.nd rfl (Or.inl rfl) (pcW ow__law_sort T.g__law_sort b__law_sort (hr.hot _) (by decide) (pa_cons (pv 3) pa_nil)))))
      (.cons (i := 3) (test_one ⟨rfl, by decide, .inl T.g_RoomError⟩) rfl rfl (fun a pn => (pss_cons (ps_set (i := 4) sc__law_told.nd rfl (Or.inl rfl) (pcW ow__law_sort T.g__law_sort b__law_sort (hr.hot _) (by decide) (pa_cons (pv 3) pa_nil)))
      (pss_one (ps_if (pt_val (pe_callB (x_isa (K := K) rfl) (by rfl) T.f_isinstance (by decide +kernel) (pa_cons (pv 3) (pa_cons (pe_glob (v := .ref (He.ga K "TooLong")) rfl T.g_TooLong rfl) pa_nil)))) (pss_one (ps_expr (pe_bm PySem.F.plainAttrs_list PySem.F.slot_list_append PySem.F.type_list_append mt_append (pv 4) (pa_cons (pe_xfT (pv 3) rfl) pa_nil)))) pss_nil))))
      .nil)))
      (pss_one (ps_ret (pv 4)))), spM_run (n := 3) (N := ["_law_size", "_law_mode", "_law_how", "_law_e", "_law_found"]) (sim_seq (sim_tryM (fun _ z => by cases z) (fun W => (sim_ifS (sim_test (sim_op os_eqS sim_var sim_int)) (sim_asg (sim_callS (sim_cons sim_var (sim_cons sim_var sim_nil)) (fun _ _ => RepL.nilR)) sim_nm) (sim_ifS (sim_test (sim_op os_eqS sim_var sim_int)) (sim_asg (sim_callKS (sim_cons sim_var sim_nil) (sim_cons sim_var sim_nil) (fun ι G ps vs zs ws r1 r2 => (r1.app ((r2.drop 0).take 1)))) sim_nm) (sim_ifS (sim_test (sim_op os_eqS sim_var sim_int)) (sim_asg (sim_callKS sim_nil (sim_cons sim_var (sim_cons sim_var sim_nil)) (fun ι G ps vs zs ws r1 r2 => ((r1.app ((r2.drop 1).take 1)).app ((r2.drop 0).take 1)))) sim_nm) (sim_asg (sim_callS (sim_cons sim_var sim_nil) (fun _ _ => (RepL.consR rp_str RepL.nilR))) sim_nm)))))
      (.cons (cm_two (T.xk.cm (q := .own "FitError") (by decide)) (T.xk.cm (q := .own "MissError") (by decide))) (sim_asg (sim_callW (sim_cons sim_var sim_nil)) sim_nm)
      (.cons (cm_one (T.xk.cm (q := .own "RoomError") (by decide))) (sim_seq (sim_asg (sim_callW (sim_cons sim_var sim_nil)) sim_nm)
      (sim_ifS (sim_B (sim_cb (cb_isx T.xk) (sim_cons sim_var (sim_cons sim_cls sim_nil)))) (sim_exp (sim_bml ml_append sim_var (sim_cons (sim_xf T.xfk sim_var) sim_nil))) sim_next))
      .nil)))
      (sim_ret (sim_frz sim_var))) h⟩)⟩
theorem sc__law_plain : FnScope ["_law_thing"] ["_law_thing"] (defScope s__law_plain) := ⟨rfl, rfl, rfl, by decide +kernel, rfl, by decide +kernel, by decide +kernel⟩
theorem ok__law_plain (T : Tx w K mg) : DOk P w K mg base d__law_plain CX0 1 ["_law_thing"] (spM K false m__law_plain) := by
  obtain ⟨fd, F⟩ := T.df__law_plain
  exact ⟨fd, F, F.ok sc__law_plain (fun vs H Q E h => spM_len h) (fun cdv A outer s H vs Q E hr h => ⟨_, PSs.nox (pss_one (ps_ret (pe_and (pe_callB (x_isi (K := K) rfl) (by rfl) T.f_isinstance (by decide +kernel) (pa_cons (pv 0) (pa_cons (pe_bltn (v := .ty "int") (u := .type "int") (by rfl) T.f_int (by decide +kernel) rfl) pa_nil))) (pe_one (pe_not (pe_callB (x_isi (K := K) rfl) (by rfl) T.f_isinstance (by decide +kernel) (pa_cons (pv 0) (pa_cons (pe_bltn (v := .ty "bool") (u := .type "bool") (by rfl) T.f_bool (by decide +kernel) rfl) pa_nil)))))))), spM_run (n := 1) (N := ["_law_thing"]) (sim_ret (sim_andV (sim_cb (cb_isi T.clsK) (sim_cons sim_var (sim_cons sim_ty sim_nil))) (sim_notV (sim_cb (cb_isi T.clsK) (sim_cons sim_var (sim_cons sim_ty sim_nil)))))) h⟩)⟩
theorem sc__law_same : FnScope ["_law_told_here", "_law_due_here"] ["_law_told_here", "_law_due_here"] (defScope s__law_same) := ⟨rfl, rfl, rfl, by decide +kernel, rfl, by decide +kernel, by decide +kernel⟩
theorem ok__law_same (T : Tx w K mg) : DOk P w K mg base d__law_same CX0 2 ["_law_told_here", "_law_due_here"] (spM K false m__law_same) := by
  have o__law_plain := ok__law_plain (P := P) (w := w) (base := base) T
  obtain ⟨fd, F⟩ := T.df__law_same
  exact ⟨fd, F, F.ok sc__law_same (fun vs H Q E h => spM_len h) (fun cdv A outer s H vs Q E hr h => ⟨_, PSs.nox (pss_cons (ps_if (pt_val (pe_callB (x_isi (K := K) rfl) (by rfl) T.f_isinstance (by decide +kernel) (pa_cons (pv 1) (pa_cons (pe_bltn (v := .ty "list") (u := .type "list") (by rfl) T.f_list (by decide +kernel) rfl) pa_nil)))) (pss_one (ps_ret (pe_and (pe_callB (x_isi (K := K) rfl) (by rfl) T.f_isinstance (by decide +kernel) (pa_cons (pv 0) (pa_cons (pe_bltn (v := .ty "list") (u := .type "list") (by rfl) T.f_list (by decide +kernel) rfl) pa_nil))) (pe_and (pe_cmpR (op_eqD hr.units) (pv 0) (pv 1) (nomark _)) (pe_one (pc o__law_plain T.g__law_plain b__law_plain hr (by decide) (pa_cons (pe_ix ix_any (pv 0) pe_int (fun _ _ => rfl)) pa_nil))))))) pss_nil)
      (pss_one (ps_ret (pe_and (pe_callB (x_isi (K := K) rfl) (by rfl) T.f_isinstance (by decide +kernel) (pa_cons (pv 0) (pa_cons (pe_bltn (v := .ty "str") (u := .type "str") (by rfl) T.f_str (by decide +kernel) rfl) pa_nil))) (pe_one (pe_cmpR (op_eqD hr.units) (pv 0) (pv 1) (nomark _))))))), spM_run (n := 2) (N := ["_law_told_here", "_law_due_here"]) (sim_seq (sim_ifS (sim_B (sim_cb (cb_isi T.clsK) (sim_cons sim_var (sim_cons sim_ty sim_nil)))) (sim_ret (sim_andV (sim_cb (cb_isi T.clsK) (sim_cons sim_var (sim_cons sim_ty sim_nil))) (sim_andV (sim_op os_eqD sim_var sim_var) (sim_call (sim_cons (sim_op os_ixA sim_var sim_int) sim_nil) (fun _ _ => RepL.nilR))))) sim_next)
      (sim_ret (sim_andV (sim_cb (cb_isi T.clsK) (sim_cons sim_var (sim_cons sim_ty sim_nil))) (sim_op os_eqD sim_var sim_var)))) h⟩)⟩
theorem sc__law_right : FnScope ["_law_purse_here", "_law_sizes", "_law_mode", "_law_told_here", "_law_size", "_law_due_here"] ["_law_purse_here"] (defScope s__law_right) := ⟨rfl, rfl, rfl, by decide +kernel, rfl, by decide +kernel, by decide +kernel⟩
theorem ok__law_right (T : Tx w K mg) : DOk P w K mg base d__law_right CX0 7 ["_law_purse_here"] (spM K false m__law_right) := by
  have o__law_edge := ok__law_edge (P := P) (w := w) (base := base) T
  have o__law_due := ok__law_due (P := P) (w := w) (base := base) T
  have o__law_take := ok__law_take (P := P) (w := w) (base := base) T
  have o__law_told := ok__law_told (P := P) (w := w) (base := base) T
  have o__law_same := ok__law_same (P := P) (w := w) (base := base) T
  obtain ⟨fd, F⟩ := T.df__law_right
  exact ⟨fd, F, F.ok sc__law_right (fun vs H Q E h => spM_len h) (fun cdv A outer s H vs Q E hr h => ⟨_, PSs.nox (pss_cons (ps_set (i := 1) sc__law_right.nd rfl (Or.inl rfl) (pe_lst (pa_cons (pc o__law_edge T.g__law_edge b__law_edge hr (by decide) (pa_cons (pv 0) pa_nil)) (pa_cons (pc o__law_edge T.g__law_edge b__law_edge hr (by decide) (pa_cons (pv 0) pa_nil)) pa_nil))))
      (pss_cons (ps_for PassesOwn.never rfl (pi_list (pe_lst (pa_cons pe_str (pa_cons pe_str (pa_cons pe_str (pa_cons pe_str pa_nil)))))) (pg_name (i := 2) sc__law_right.nd rfl (Or.inl rfl))
      (pss_cons (ps_set (i := 3) sc__law_right.nd rfl (Or.inl rfl) (pe_lst pa_nil))
      (pss_cons (ps_for PassesOwn.never rfl (pi_list (pv 1)) (pg_name (i := 4) sc__law_right.nd rfl (Or.inl rfl))
      (pss_cons (ps_set (i := 5) sc__law_right.nd rfl (Or.inl rfl) (pc o__law_due T.g__law_due b__law_due hr (by decide) (pa_cons (pv 4) (pa_cons (pv 2) pa_nil))))
      (pss_cons (ps_expr (pe_bm PySem.F.plainAttrs_list PySem.F.slot_list_append PySem.F.type_list_append mt_append (pv 3) (pa_cons (pc o__law_told T.g__law_told b__law_told hr (by decide) (pa_cons (pv 4) (pa_cons (pv 2) (pa_cons (pc o__law_take T.g__law_take b__law_take hr (by decide) (pa_cons (pv 0) (pa_cons pe_int pa_nil))) pa_nil)))) pa_nil)))
      (pss_cons (ps_if (PW.pt (pw_or (pt_not (pt_val (pc o__law_same T.g__law_same b__law_same hr (by decide) (pa_cons (pe_ix ix_list (pv 3) (pe_un un_neg pe_int) (fun _ _ => rfl)) (pa_cons (pv 5) pa_nil))))) (pw_or1 (pt_not (pt_val (pc o__law_same T.g__law_same b__law_same hr (by decide) (pa_cons (pc o__law_told T.g__law_told b__law_told hr (by decide) (pa_cons (pv 4) (pa_cons (pv 2) (pa_cons pe_int pa_nil)))) (pa_cons (pv 5) pa_nil)))))))) (pss_one (ps_ret pe_bl)) pss_nil)
      (pss_one (ps_if (PW.pt (pw_and (pt_cmpR op_eq (pv 2) pe_str (nomark _)) (pw_and1 (pt_not (pt_val (pc o__law_same T.g__law_same b__law_same hr (by decide) (pa_cons (pc o__law_told T.g__law_told b__law_told hr (by decide) (pa_cons (pv 4) (pa_cons (pv 2) (pa_cons pe_int pa_nil)))) (pa_cons (pv 5) pa_nil)))))))) (pss_one (ps_ret pe_bl)) pss_nil))))))
      (pss_one (ps_if (pt_cmpR op_ne (pe_cmpR (op_eqD hr.units) (pe_ix ix_list (pv 3) pe_int (fun _ _ => rfl)) (pe_ix ix_list (pv 3) pe_int (fun _ _ => rfl)) (nomark _)) (pe_cmpR op_eq (pe_ix ix_list (pv 1) pe_int (fun _ _ => rfl)) (pe_ix ix_list (pv 1) pe_int (fun _ _ => rfl)) (nomark _)) (nomark _)) (pss_one (ps_ret pe_bl)) pss_nil)))))
      (pss_one (ps_ret pe_bl)))), spM_run (n := 1) (N := ["_law_purse_here", "_law_sizes", "_law_mode", "_law_told_here", "_law_size", "_law_due_here"]) (sim_seq (sim_asg (sim_lst (sim_cons (sim_call (sim_cons sim_var sim_nil) (fun _ _ => RepL.nilR)) (sim_cons (sim_call (sim_cons sim_var sim_nil) (fun _ _ => RepL.nilR)) sim_nil))) sim_nm)
      (sim_seq (sim_for (sim_iL (sim_lst (sim_cons sim_str (sim_cons sim_str (sim_cons sim_str (sim_cons sim_str sim_nil)))))) (sim_g0 g0_nm) (sim_seq (sim_asg (sim_lstO sim_nil) sim_nm)
      (sim_seq (sim_for (sim_iL sim_var) (sim_g0 g0_nm) (sim_seq (sim_asg (sim_call (sim_cons sim_var (sim_cons sim_var sim_nil)) (fun _ _ => RepL.nilR)) sim_nm)
      (sim_seq (sim_exp (sim_bml ml_append sim_var (sim_cons (sim_call (sim_cons sim_var (sim_cons sim_var (sim_cons (sim_call (sim_cons sim_var (sim_cons sim_int sim_nil)) (fun _ _ => RepL.nilR)) sim_nil))) (fun _ _ => RepL.nilR)) sim_nil)))
      (sim_seq (sim_ifS (sim_or (sim_not (sim_B (sim_call (sim_cons (sim_op os_ixL sim_var (sim_un us_neg sim_int)) (sim_cons sim_var sim_nil)) (fun _ _ => RepL.nilR)))) (sim_not (sim_B (sim_call (sim_cons (sim_call (sim_cons sim_var (sim_cons sim_var (sim_cons sim_int sim_nil))) (fun _ _ => RepL.nilR)) (sim_cons sim_var sim_nil)) (fun _ _ => RepL.nilR))))) (sim_ret sim_bl) sim_next)
      (sim_ifS (sim_and (sim_test (sim_op os_eqS sim_var sim_str)) (sim_not (sim_B (sim_call (sim_cons (sim_call (sim_cons sim_var (sim_cons sim_var (sim_cons sim_int sim_nil))) (fun _ _ => RepL.nilR)) (sim_cons sim_var sim_nil)) (fun _ _ => RepL.nilR))))) (sim_ret sim_bl) sim_next)))))
      (sim_ifS (sim_test (sim_op os_neS (sim_op os_eqD (sim_op os_ixL sim_var sim_int) (sim_op os_ixL sim_var sim_int)) (sim_op os_eqS (sim_op os_ixL sim_var sim_int) (sim_op os_ixL sim_var sim_int)))) (sim_ret sim_bl) sim_next))))
      (sim_ret sim_bl))) h⟩)⟩
theorem sc_law : FnScope ["_law_script", "_law_k"] ["_law_script"] (defScope s_law) := ⟨rfl, rfl, rfl, by decide +kernel, rfl, by decide +kernel, by decide +kernel⟩
theorem ok_law (T : Tx w K mg) : DOk P w K mg base d_law CX0 8 ["_law_script"] (spM K false m_law) := by
  have o__law_cell := ok__law_cell (P := P) (w := w) (base := base) T
  have o__law_purse := ok__law_purse (P := P) (w := w) (base := base) T
  have o__law_right := ok__law_right (P := P) (w := w) (base := base) T
  obtain ⟨fd, F⟩ := T.df_law
  exact ⟨fd, F, F.ok sc_law (fun vs H Q E h => spM_len h) (fun cdv A outer s H vs Q E hr h => ⟨_, PSs.nox (pss_one (ps_ret (pe_callB (x_all (K := K) rfl rfl) (by rfl) T.f_all (by decide +kernel) (pa_cons (pe_lc (own := [("_law_k", 1)]) (g := gName 1) (tt := tYes) rfl sc_law.nd (pi_range1 (by rfl) T.f_range (pa_cons (pe_callB (c_max rfl) (by rfl) T.f_max (by decide +kernel) (pa_cons pe_int (pa_cons (pe_callB (c_min rfl) (by rfl) T.f_min (by decide +kernel) (pa_cons (pe_callB (call_len_seq) (by rfl) T.f_len (by decide +kernel) (pa_cons (pv 0) pa_nil)) (pa_cons pe_int pa_nil))) pa_nil))) pa_nil)) (blkOk_by (N := ["_law_script", "_law_k"]) (sc := defScope s_law) (own := [("_law_k", 1)]) (by decide +kernel)) (fun _ _ _ _ _ => (pg_name (i := 1) sc_law.nd rfl (Or.inl rfl))) (fun _ _ _ _ _ => pts_nil) (fun _ _ _ _ _ => (pc o__law_right T.g__law_right b__law_right hr (by decide) (pa_cons (pc o__law_purse T.g__law_purse b__law_purse hr (by decide) (pa_cons (pc o__law_cell T.g__law_cell b__law_cell hr (by decide) (pa_cons (pv 0) (pa_cons (pv 1) pa_nil))) pa_nil)) pa_nil)))) pa_nil)))), spM_run (n := 1) (N := ["_law_script", "_law_k"]) (sim_ret (sim_cb cb_all (sim_cons (sim_lc (gw_nm (by decide)) mg_nm (sim_iR1 (sim_cons (sim_cb cb_max2 (sim_cons sim_int (sim_cons (sim_cb cb_min2 (sim_cons (sim_cb cb_len (sim_cons sim_var sim_nil)) (sim_cons sim_int sim_nil))) sim_nil))) sim_nil)) g0_nm sim_yesP (sim_call (sim_cons (sim_call (sim_cons (sim_call (sim_cons sim_var (sim_cons sim_var sim_nil)) (fun _ _ => RepL.nilR)) sim_nil) (fun _ _ => RepL.nilR)) sim_nil) (fun _ _ => RepL.nilR))) sim_nil))) h⟩)⟩
end
end Qg
namespace Qg
open PySem PySem.Spec PyProof.Rows L2
theorem funD_uniq {K : PySem.W.Frag} {x qual : Str} {params : Arguments} {body : List Stmt} {scope : Scope} {dvs : List V} {kws : List (Str × V)} {f : Addr} {fd fd' : FuncData} (F : FunD K x qual params body scope dvs kws f fd) (F' : FunD K x qual params body scope dvs kws f fd') : fd = fd' := by
  obtain ⟨oc, od, dV, kV, doc, pm, an, cdv, ct, osl, _, lk, _⟩ := F.ex
  obtain ⟨oc', od', dV', kV', doc', pm', an', cdv', ct', osl', _, lk', _⟩ := F'.ex
  rw [lk] at lk'
  have e := Option.some.inj lk'
  injection e with e1 e2 e3 e4
  injection e3
end Qg
open PySem PySem.W PySem.Calls PyProof.Rows
set_option maxRecDepth 100000 in
set_option maxHeartbeats 0 in
theorem PySem.Challenge.cw_fitwords_k01_told_in_four_ways_holds : PySem.Challenge.rw_fitwords_k01_told_in_four_ways.Holds := by
  w_on; o_law
  refine HandSHeadRun.head_any (r := OpenLaw.row PySem.Challenge.rw_fitwords_k01_told_in_four_ways) (q := view (OpenLaw.row PySem.Challenge.rw_fitwords_k01_told_in_four_ways).prog [60]) (H := Hd.hk) (ob := Hd.ob) (M := 20000) (loose := Hd.loose) (d := HandSHeadRun.topDef (OpenLaw.row PySem.Challenge.rw_fitwords_k01_told_in_four_ways).prog 60) (kwd := []) Hd.ob_eq
    (by kernel_rfl) (fun s => by kernel_rfl) Hd.run (by kernel_rfl) (by kernel_rfl) (by kernel_rfl) (by rfl) (by first | assumption | decide +kernel) (by decide +kernel) ⟨rfl, rfl, rfl, rfl, rfl, by decide +kernel⟩ ?hw ?hc
  case hw => w_witness2
  case hc =>
    refine L2.walk_ofE (l := PySem.Challenge.rw_fitwords_k01_told_in_four_ways) (n := 63) (k := 8) (x := "_law_script") (CX := L2.CX0) rfl (by decide) (by kernel_rfl) ⟨rfl, by decide, by decide⟩ ?F (fun _ _ _ _ z => z)
    intro w mg fa h Y G hmg0
    obtain ⟨K, KX, c⟩ := Y
    have hmg : mg ("law" : PySem.Str) = some (.ref fa) := by
      have e : (HandSHeadRun.topDef (OpenLaw.row PySem.Challenge.rw_fitwords_k01_told_in_four_ways).prog 60).name = ("law" : PySem.Str) := by kernel_rfl
      rw [← e]
      exact hmg0
    have T : Hd.Tx w K mg := ⟨h, KX, G, c⟩
    have e := hmg.symm.trans T.g_law
    cases e
    obtain ⟨fd, F⟩ := T.df_law
    refine ⟨K, fd, Qx.spM K false Qg.m_law, KX, fun s u => ?_, fun H a ns hl _ hS => Qx.law_sp (Qg.law_true hl) hS fun _ => rfl, fun base _ _ => ?_⟩
    · have b := L2.FunD.bindsA (ps := ["_law_script"]) F fun _ _ _ _ _ _ us hl => match us, hl with | [_], _ => rfl
      exact b s [u] rfl
    · obtain ⟨fd', F', G'⟩ := Qg.ok_law (P := (PySem.Challenge.rw_fitwords_k01_told_in_four_ways).prog) (w := w) (base := base) T
      rw [Qg.funD_uniq F F']
      exact G'
#print axioms PySem.Challenge.cw_fitwords_k01_told_in_four_ways_holds
