import PyProof.Rows.All
import Wide.All
import OpenK.AllK
import Wide.FinOn
import HandS.ForMost
import HandS.ForExc
import HandS.IsInst
import HandS.Defaults
import HandS.MakeKw
import HandS.Conv
import HandS.Wide
import HandS.WideMore
import HandS.Flow
import HandS.Style
import HandS.Head0
import HandS.Head1
import HandS.Head2
import HandS.HeadEnd
import HandS.HeadHook1
import HandS.HeadHook2
import HandS.HeadHook3
import HandS.HeadHook4
import HandS.EndBits
import HandS.TupSets
import PyProof.MinMaxWalk
import PyProof.DictWalks
import PyProof.ListStr
import PyProof.Rows.IntBool
import HandS.SetFor
import HandS.Sort
import HandS.Strs
import HandS.TryOnly
import HandS.Zip
import OpenK.KOps
import PyProof.InstNe
import HandS.CallSlots
import HandS.Exc
import HandS.ExcOwn
import HandS.HotCalls
import KE.KExcIs
import HandS.ExcIs
import HandS.ExcField
import HandS.ExcInit
import HandS.TupAny
import KE.KRevSl
import KE.KFmtOwn
import HandS.OwnEq
import HandS.More
import PyProof.Rows.StrMeet
import PyProof.Conv_bool
import HandS.RaiseMore
import PyProof.StrBlock2
import HandS.Text
import HandS.StrMore
import HandS.FStr
import HandS.CallLocal
import HandS.MakeKwOnly
import KE.SortData
import KE.KTryMore
import KE.KExcInit
import KE.KIntText
import HandS.Flt
import HandS.Dict
import HandS.Iter
import HandS.SetKeys
import HandS.WordsDict
import HandS.Lambda
import HandS.HeadWalk
import KE.DataMinKey
import HandS.SortInts
import KE.KDictSum
import HandS.ListItems
import KE.KDictPairs
import KE.GoesEnum
import KE.KTupSum
import KE.KEqNest
import PyProof.ReprRoads
import PyProof.Rows.RegFStrParts
import KE.SortKeyHeap
import HandS.Words
import KE.DataCmp
import PySem.Challenge.RW_fitwords_k06_spans_refused
set_option Elab.async false
set_option linter.all false
set_option maxRecDepth 100000
set_option maxHeartbeats 4000000
namespace Qx
open PySem PySem.Spec PyProof.Rows L2
def refB {α : Type} : List Addr → Nat → List Addr → (Nat → List Addr → α) → α
  | [], vis, nx, k => k vis nx
  | r :: rs, vis, nx, k => match Nat.testBit vis r with
    | true => refB rs vis nx k
    | false => HandSHeadRun.frNat (Nat.lor vis (Nat.shiftLeft 1 r)) fun v => refB rs v (r :: nx) k
def frontB {α : Type} (g : Addr → Option Obj) : List Addr → Nat → List Addr → (Nat → List Addr → α) → α
  | [], vis, nx, k => k vis nx
  | a :: as, vis, nx, k => match g a with
    | some o => refB (He.refsD o) vis nx fun v n => frontB g as v n k
    | none => frontB g as vis nx k
def lvB (g : Addr → Option Obj) : Nat → Nat → List Addr → List Addr → List Addr
  | 0, _, fr, acc => acc ++ fr
  | d + 1, vis, fr, acc => frontB g fr vis [] fun v n => lvB g d v n (acc ++ fr)
def asB (g : Addr → Option Obj) (n : Nat) (xs : List Addr) : List Addr := lvB g n (Nat.shiftLeft 1 mainGlobals) [mainGlobals] xs
def obsC (n : Nat) (xs : List Addr) (fa : List He.Fa) (fn : List He.DefD) (ts : List He.Tab) (tf : List He.Defn) (ex : PySem.W.Frag → Bool) (g : Addr → Option Obj) : He.AlX := (He.obsT fa fn ts (He.frT g (asB g n xs)), ex (He.frT g (asB g n xs)) && He.tabsB g tf (He.frT g (asB g n xs)))
theorem saysC_of {as : List Addr} {fa : List He.Fa} {fn : List He.DefD} {ts : List He.Tab} {tf : List He.Defn} {ex : PySem.W.Frag → Bool} {w : World} {h : Heap} (e : ((He.obsT fa fn ts (He.frT h.get? as), ex (He.frT h.get? as) && He.tabsB h.get? tf (He.frT h.get? as)) : He.AlX) = He.valX fn ts w) : He.SaysX fa fn ts tf ex w h (He.frT h.get? as) := by
  have e1 : He.obsT fa fn ts (He.frT h.get? as) = He.valT fn ts w := congrArg (fun z : He.AlX => z.1) e
  have e2 : (ex (He.frT h.get? as) && He.tabsB h.get? tf (He.frT h.get? as)) = true := congrArg (fun z : He.AlX => z.2) e
  have b := Bool.and_eq_true_iff.mp e2
  have one : ∀ p ∈ tf, PySem.W.codeHdIn (He.frT h.get? as) (He.cT (He.frT h.get? as) p).1 (He.cT (He.frT h.get? as) p).2 = true ∧ ∃ o, h.get? (He.cT (He.frT h.get? as) p).2 = some o ∧ He.emptyTab o = true := fun p hp => by
    have z := Bool.and_eq_true_iff.mp (List.all_eq_true.mp b.2 p hp)
    refine ⟨z.1, ?_⟩
    have y := z.2
    split at y
    · exact ⟨_, by assumption, y⟩
    · cases y
  refine ⟨e1, b.1, fun p hp => (one p hp).1, fun p hp => ?_, fun p hp => ?_⟩
  · obtain ⟨o, g1, g2⟩ := (one p hp).2
    exact He.frT_none g1 g2
  · obtain ⟨o, g1, g2⟩ := (one p hp).2
    rw [g1, He.emptyTab_eq g2]
def hookC (n : Nat) (xs : List Addr) (fa : List He.Fa) (fn : List He.DefD) (ts : List He.Tab) (tf : List He.Defn) (ex : PySem.W.Frag → Bool) : PySem.W.Hook where
  α := He.AlX
  obs := fun s => obsC n xs fa fn ts tf ex s.heap.get?
  val := fun w => He.valX fn ts w
  says := fun w h => ∃ K : PySem.W.Frag, K.In h ∧ He.SaysX fa fn ts tf ex w h K
  of := fun _ _ e => ⟨_, He.frT_in, saysC_of e⟩
  keeps := fun _ _ _ ⟨K, hK, c⟩ k => ⟨K, PySem.W.Frag.In.keeps hK k, ⟨c.t, c.more, c.hd, c.out, fun p hp => k _ _ (c.empty p hp)⟩⟩
theorem obsC_eq {n : Nat} {xs : List Addr} {fa : List He.Fa} {fn : List He.DefD} {ts : List He.Tab} {tf : List He.Defn} {ex : PySem.W.Frag → Bool} {g : Addr → Option Obj} {s : Shared} (h : ∀ a, g a = s.heap.get? a) : obsC n xs fa fn ts tf ex g = (hookC n xs fa fn ts tf ex).obs s := by
  have e : g = s.heap.get? := funext h
  rw [e] <;> rfl
def KT : List String := ["NoneType", "int", "bool", "str", "list", "tuple", "dict"]
def exOne (K : PySem.W.Frag) (cs : List Str) (C : Str) : Bool :=
  He.eqO (PySem.W.findIn K (.ref (He.ga K C)) "__class__") (some (some (.builtin "object.__class__"))) && (decide (PySem.W.mroIn K (He.ga K C) (.type "object") = some true) &&
  (KT.all (fun t => decide (PySem.W.kitOne K (.type t) (.ref (He.ga K C)) = some false)) && (KT.all (fun t => decide (PySem.W.kitOne K (.ref (He.ga K C)) (.type t) = some false)) &&
  (cs.all (fun D => decide (C = D) || decide (PySem.W.kitOne K (.ref (He.ga K C)) (.ref (He.ga K D)) = some false)) && He.eqO (PySem.W.findIn K (.ref (He.ga K C)) "__ne__") (some (some (.builtin "object.__ne__")))))))
def exAll (K : PySem.W.Frag) (cs : List Str) : Bool :=
  He.eqO (PySem.W.specialIn K (.builtin "object.__class__") "__get__") (some (some (.builtin "getset_descriptor.__get__"))) && (decide (PySem.W.takesIn K (.builtin "object.__class__") = some true) && cs.all (exOne K cs))
inductive XN where
  | own (C : Str) | blt (n : String)
  deriving DecidableEq
def xv (K : PySem.W.Frag) : XN → Value
  | .own C => .ref (He.ga K C)
  | .blt n => .type n
def xcOne (K : PySem.W.Frag) (C : Str) : Bool :=
  He.eqO (PySem.W.findIn K (.ref (He.ga K C)) "__getattribute__") (some (some (.builtin "BaseException.__getattribute__"))) && (He.eqO (PySem.W.findIn K (.ref (He.ga K C)) "__getattr__") (some none) &&
  (decide (PySem.W.subIn K (.ref (He.ga K C)) (.type "BaseException") = some true) && (PySem.W.hasDictIn K (He.ga K C) && (He.eqO (PySem.W.findIn K (.ref (He.ga K C)) "__class__") (some (some (.builtin "object.__class__"))) &&
  (He.eqO (PySem.W.specialIn K (.builtin "object.__class__") "__get__") (some (some (.builtin "getset_descriptor.__get__"))) && (decide (PySem.W.takesIn K (.builtin "object.__class__") = some true) && (decide (PySem.W.mroIn K (He.ga K C) (.type "object") = some true) &&
  (PySem.W.keepIn K (.ref (He.ga K C)) && decide (PySem.W.typeIn K (.ref (He.ga K C)) = some (.type "type"))))))))))
def xkOne (K : PySem.W.Frag) (xa xm : List XN) (w : Str × List XN) : Bool :=
  xcOne K w.1 && (xa.all (fun q => decide (PySem.W.kitOne K (.ref (He.ga K w.1)) (xv K q) = some (decide (q ∈ w.2)))) && xm.all (fun q => decide (PySem.W.exmOne K (.ref (He.ga K w.1)) (xv K q) = some (decide (q ∈ w.2)))))
def xkAll (K : PySem.W.Frag) (xt : List (Str × List XN)) (xa xm : List XN) : Bool :=
  xt.all (xkOne K xa xm) && xa.all (fun q => decide (PySem.W.kitOne K (.type "NoneType") (xv K q) = some false))
structure EB where
  B : String
  nw : String
  ini : String
  tail : List Value
def nfAll (K : PySem.W.Frag) (cs : List Str) : Bool := cs.all fun C => KT.all (fun T => PySem.W.notFirst K (He.ga K C) (.type T)) && cs.all fun D => PySem.W.notFirst K (He.ga K C) (.ref (He.ga K D))
def shB (K : PySem.W.Frag) (cs : List Str) : Bool := cs.all fun C => He.eqO (PySem.W.findIn K (.ref (He.ga K C)) "__bool__") (some none) && He.eqO (PySem.W.findIn K (.ref (He.ga K C)) "__format__") (some (some (.builtin "object.__format__")))
def noneB (K : PySem.W.Frag) (cs : List Str) : Bool := cs.all fun C => PySem.W.subIn K (.ref (He.ga K C)) (.type "NoneType") == some false
inductive KV where
  | non | bl (b : Bool) | int (i : Int) | str (z : Str) | tup (l : List KV) | fn (C : Str)
mutual
def kRep (K : PySem.W.Frag) : KV → Value → Bool
  | .non, .none => true
  | .bl b, .bool c => b == c
  | .int i, .int j _ => decide (i = j)
  | .str z, .str y _ => decide (z = y)
  | .fn C, .ref a => decide (a = He.ga K C)
  | .tup l, .ref a => match K.lookup a with
    | some ⟨.type c, _, .seq its _, _⟩ => decide (c = "tuple") && (decide (its.size ≤ sizeLine) && kRepL K l its.toList)
    | _ => false
  | _, _ => false
def kRepL (K : PySem.W.Frag) : List KV → List Value → Bool
  | [], [] => true
  | k :: ks, u :: us => kRep K k u && kRepL K ks us
  | _, _ => false
end
def kdB (K : PySem.W.Frag) (x : Str) (kvs : List (Str × KV)) : Bool := kvs.all fun q => match PySem.W.nsIn K (He.ga K x) q.1 with
  | some (some u) => kRep K q.2 u
  | _ => false
def tabsB (K : PySem.W.Frag) (ds : List He.Defn) : Bool := decide ((ds.map fun d => (He.cT K d).2).Nodup)
end Qx
namespace Hd
open PySem PySem.Spec PyProof.Rows L2
/-! ### the text by places -/
def top (i : Nat) : Stmt := PySem.Challenge.pw_fitwords_k06_spans_refused.main.body.getD i (.Pass ⟨0, 0, 0, 0⟩)
abbrev s__law_cell : Stmt := top 55
abbrev s__law_cells : Stmt := top 61
abbrev s__law_purse : Stmt := top 56
abbrev s__law_take : Stmt := top 57
abbrev s__law_measure : Stmt := top 58
abbrev s__law_allowed : Stmt := top 59
abbrev s__law_parts : Stmt := top 60
abbrev s_is_measure : Stmt := top 32
abbrev s_check_measure : Stmt := top 33
abbrev s_check_allowance : Stmt := top 45
abbrev s_Span___init__ : Stmt := inClass (top 46) 0
abbrev s__law_no_number : Stmt := top 65
abbrev s__law_made : Stmt := top 67
abbrev s__law_no_span : Stmt := top 66
abbrev s__law_two : Stmt := top 68
abbrev s__law_row : Stmt := top 69
abbrev s_Span___repr__ : Stmt := inClass (top 46) 3
abbrev s_Span_lets : Stmt := inClass (top 46) 5
abbrev s_check_span : Stmt := top 47
abbrev s_Span_plus : Stmt := inClass (top 46) 6
abbrev s_Span_turned : Stmt := inClass (top 46) 8
abbrev s_Span_minus : Stmt := inClass (top 46) 7
abbrev s_span_of : Stmt := top 49
abbrev s_both : Stmt := top 50
abbrev s_within : Stmt := top 51
abbrev s_unlike : Stmt := top 52
abbrev s_check_row : Stmt := top 48
abbrev s_in_order : Stmt := top 53
abbrev s__law_door : Stmt := top 63
abbrev s__law_sort : Stmt := top 62
abbrev s__law_seen : Stmt := top 64
abbrev s_Span___len__ : Stmt := inClass (top 46) 2
abbrev s__law_right : Stmt := top 70
abbrev s_law : Stmt := top 71
def d__law_cell : He.DefD := ⟨("_law_cell", none), "_law_cell", "_law_cell", defArgs s__law_cell, defBody s__law_cell, defScope s__law_cell, [], []⟩
def d__law_cells : He.DefD := ⟨("_law_cells", none), "_law_cells", "_law_cells", defArgs s__law_cells, defBody s__law_cells, defScope s__law_cells, [], []⟩
def d__law_purse : He.DefD := ⟨("_law_purse", none), "_law_purse", "_law_purse", defArgs s__law_purse, defBody s__law_purse, defScope s__law_purse, [], []⟩
def d__law_take : He.DefD := ⟨("_law_take", none), "_law_take", "_law_take", defArgs s__law_take, defBody s__law_take, defScope s__law_take, [], []⟩
def d__law_measure : He.DefD := ⟨("_law_measure", none), "_law_measure", "_law_measure", defArgs s__law_measure, defBody s__law_measure, defScope s__law_measure, [], []⟩
def d__law_allowed : He.DefD := ⟨("_law_allowed", none), "_law_allowed", "_law_allowed", defArgs s__law_allowed, defBody s__law_allowed, defScope s__law_allowed, [], []⟩
def d__law_parts : He.DefD := ⟨("_law_parts", none), "_law_parts", "_law_parts", defArgs s__law_parts, defBody s__law_parts, defScope s__law_parts, [], []⟩
def d_is_measure : He.DefD := ⟨("is_measure", none), "is_measure", "is_measure", defArgs s_is_measure, defBody s_is_measure, defScope s_is_measure, [], []⟩
def d_check_measure : He.DefD := ⟨("check_measure", none), "check_measure", "check_measure", defArgs s_check_measure, defBody s_check_measure, defScope s_check_measure, [], []⟩
def d_check_allowance : He.DefD := ⟨("check_allowance", none), "check_allowance", "check_allowance", defArgs s_check_allowance, defBody s_check_allowance, defScope s_check_allowance, [], []⟩
def d_Span___init__ : He.DefD := ⟨("Span", some "__init__"), "__init__", "Span.__init__", defArgs s_Span___init__, defBody s_Span___init__, defScope s_Span___init__, [.int (0), .int (0)], []⟩
def d__law_no_number : He.DefD := ⟨("_law_no_number", none), "_law_no_number", "_law_no_number", defArgs s__law_no_number, defBody s__law_no_number, defScope s__law_no_number, [], []⟩
def d__law_made : He.DefD := ⟨("_law_made", none), "_law_made", "_law_made", defArgs s__law_made, defBody s__law_made, defScope s__law_made, [], []⟩
def d__law_no_span : He.DefD := ⟨("_law_no_span", none), "_law_no_span", "_law_no_span", defArgs s__law_no_span, defBody s__law_no_span, defScope s__law_no_span, [], []⟩
def d__law_two : He.DefD := ⟨("_law_two", none), "_law_two", "_law_two", defArgs s__law_two, defBody s__law_two, defScope s__law_two, [], []⟩
def d__law_row : He.DefD := ⟨("_law_row", none), "_law_row", "_law_row", defArgs s__law_row, defBody s__law_row, defScope s__law_row, [], []⟩
def d_Span___repr__ : He.DefD := ⟨("Span", some "__repr__"), "__repr__", "Span.__repr__", defArgs s_Span___repr__, defBody s_Span___repr__, defScope s_Span___repr__, [], []⟩
def d_Span_lets : He.DefD := ⟨("Span", some "lets"), "lets", "Span.lets", defArgs s_Span_lets, defBody s_Span_lets, defScope s_Span_lets, [], []⟩
def d_check_span : He.DefD := ⟨("check_span", none), "check_span", "check_span", defArgs s_check_span, defBody s_check_span, defScope s_check_span, [], []⟩
def d_Span_plus : He.DefD := ⟨("Span", some "plus"), "plus", "Span.plus", defArgs s_Span_plus, defBody s_Span_plus, defScope s_Span_plus, [], []⟩
def d_Span_turned : He.DefD := ⟨("Span", some "turned"), "turned", "Span.turned", defArgs s_Span_turned, defBody s_Span_turned, defScope s_Span_turned, [], []⟩
def d_Span_minus : He.DefD := ⟨("Span", some "minus"), "minus", "Span.minus", defArgs s_Span_minus, defBody s_Span_minus, defScope s_Span_minus, [], []⟩
def d_span_of : He.DefD := ⟨("span_of", none), "span_of", "span_of", defArgs s_span_of, defBody s_span_of, defScope s_span_of, [], []⟩
def d_both : He.DefD := ⟨("both", none), "both", "both", defArgs s_both, defBody s_both, defScope s_both, [], []⟩
def d_within : He.DefD := ⟨("within", none), "within", "within", defArgs s_within, defBody s_within, defScope s_within, [], []⟩
def d_unlike : He.DefD := ⟨("unlike", none), "unlike", "unlike", defArgs s_unlike, defBody s_unlike, defScope s_unlike, [], []⟩
def d_check_row : He.DefD := ⟨("check_row", none), "check_row", "check_row", defArgs s_check_row, defBody s_check_row, defScope s_check_row, [], []⟩
def d_in_order : He.DefD := ⟨("in_order", none), "in_order", "in_order", defArgs s_in_order, defBody s_in_order, defScope s_in_order, [.non, .bl false], []⟩
def d__law_door : He.DefD := ⟨("_law_door", none), "_law_door", "_law_door", defArgs s__law_door, defBody s__law_door, defScope s__law_door, [], []⟩
def d__law_sort : He.DefD := ⟨("_law_sort", none), "_law_sort", "_law_sort", defArgs s__law_sort, defBody s__law_sort, defScope s__law_sort, [], []⟩
def d__law_seen : He.DefD := ⟨("_law_seen", none), "_law_seen", "_law_seen", defArgs s__law_seen, defBody s__law_seen, defScope s__law_seen, [], []⟩
def d_Span___len__ : He.DefD := ⟨("Span", some "__len__"), "__len__", "Span.__len__", defArgs s_Span___len__, defBody s_Span___len__, defScope s_Span___len__, [], []⟩
def d__law_right : He.DefD := ⟨("_law_right", none), "_law_right", "_law_right", defArgs s__law_right, defBody s__law_right, defScope s__law_right, [], []⟩
def d_law : He.DefD := ⟨("law", none), "law", "law", defArgs s_law, defBody s_law, defScope s_law, [], []⟩
def fc0 : List He.DefD := [d__law_cell, d__law_cells, d__law_purse, d__law_take, d__law_measure, d__law_allowed, d__law_parts, d_is_measure, d_check_measure, d_check_allowance, d_Span___init__, d__law_no_number, d__law_made, d__law_no_span, d__law_two, d__law_row, d_Span___repr__]
def fc1 : List He.DefD := [d_Span_lets, d_check_span, d_Span_plus, d_Span_turned, d_Span_minus, d_span_of, d_both, d_within, d_unlike, d_check_row, d_in_order, d__law_door, d__law_sort, d__law_seen, d_Span___len__, d__law_right, d_law]
def fn1 : List He.DefD := fc0
def fn2 : List He.DefD := fc1
def fn : List He.DefD := fn1 ++ fn2
def fa : List He.Fa := [.glo "_law_cell", .glo "_law_cells", .glo "_law_purse", .glo "_law_take", .glo "_law_measure", .glo "_law_allowed", .glo "_law_parts", .glo "is_measure", .glo "check_measure", .glo "check_allowance", .glo "_law_no_number", .glo "_law_made", .glo "_law_no_span", .glo "_law_two", .glo "_law_row", .glo "check_span", .glo "span_of", .glo "both", .glo "within", .glo "unlike", .glo "check_row", .glo "in_order", .glo "_law_door", .glo "_law_sort", .glo "_law_seen", .glo "_law_right", .glo "law", .glo "FitError", .glo "NoMeasure", .glo "NoAllowance", .glo "NoSpan", .glo "NoLimits", .glo "NoOption", .glo "NoNew", .glo "NoDrawing", .glo "NoWants", .glo "NoZeros", .glo "NoSieve", .glo "NoTray", .glo "NoRow", .glo "ReadError", .glo "NoWord", .glo "NoLine", .glo "MissError", .glo "NoName", .glo "NoPlace", .glo "RoomError", .glo "TooLong", .glo "Span", .free "len", .free "sum", .free "range", .free "max", .free "min", .free "abs", .free "isinstance", .free "int", .free "bool", .free "list", .free "tuple", .free "sorted", .free "LookupError", .free "ArithmeticError", .free "ValueError", .free "repr", .free "all", .meth "Span" "__repr__", .meth "Span" "lets", .meth "Span" "plus", .meth "Span" "turned", .meth "Span" "minus", .meth "Span" "__len__", .cls "Span", .mkr "Span", .noat "Span" "size", .noat "Span" "above", .noat "Span" "below", .noat "Span" "low", .noat "Span" "high"]
def tf : List He.Defn := [d_in_order.at_]
def ex (K : PySem.W.Frag) : Bool := Qx.exAll K ["Span"] && (Qx.xkAll K [("NoAllowance", [.own "NoAllowance", .own "FitError", .blt "ValueError", .blt "Exception", .blt "BaseException"]), ("NoMeasure", [.own "NoMeasure", .own "FitError", .blt "ValueError", .blt "Exception", .blt "BaseException"]), ("NoSpan", [.own "NoSpan", .own "FitError", .blt "ValueError", .blt "Exception", .blt "BaseException"])] [.blt "ArithmeticError", .blt "LookupError", .blt "ValueError", .own "MissError", .own "NoAllowance", .own "NoDrawing", .own "NoLimits", .own "NoLine", .own "NoMeasure", .own "NoName", .own "NoNew", .own "NoOption", .own "NoPlace", .own "NoRow", .own "NoSieve", .own "NoSpan", .own "NoTray", .own "NoWants", .own "NoWord", .own "NoZeros", .own "ReadError", .own "RoomError", .own "TooLong"] [.own "FitError"] && (PySem.W.excIn K (He.ga K "NoAllowance") [.type "ValueError", .type "Exception", .type "BaseException", .type "object"] "ValueError.__new__" && (PySem.W.excIn K (He.ga K "NoMeasure") [.type "ValueError", .type "Exception", .type "BaseException", .type "object"] "ValueError.__new__" && (PySem.W.excIn K (He.ga K "NoSpan") [.type "ValueError", .type "Exception", .type "BaseException", .type "object"] "ValueError.__new__" && (Qx.nfAll K ["Span"] && (Qx.shB K ["Span"] && (Qx.noneB K ["Span"])))))))
abbrev R : PySem.W.OpenRow := PySem.W.OpenLaw.row PySem.Challenge.rw_fitwords_k06_spans_refused
def loose0 : List Str := ["_wall", "FitError", "NoMeasure", "NoAllowance", "NoSpan", "NoLimits", "NoOption", "NoNew", "NoDrawing", "NoWants", "NoZeros", "NoSieve", "NoTray", "NoRow", "ReadError", "NoWord", "NoLine", "MissError", "NoName", "NoPlace", "RoomError", "TooLong", "INCH", "MOST_BY_WORDS", "ONES", "TEENS", "COUNTS", "TENS", "GREAT_SHARES", "SHARES"]
def loose1 : List Str := ["is_measure", "check_measure", "minus_of", "by_parts", "by_inches", "doubled", "by_halves", "counted", "by_words", "TELLERS", "shown", "shown_span", "check_allowance", "Span", "check_span", "check_row", "span_of", "both", "within", "unlike", "in_order", "_law_cell", "_law_purse", "_law_take", "_law_measure", "_law_allowed", "_law_parts", "_law_cells", "_law_sort", "_law_door"]
def loose2 : List Str := ["_law_seen", "_law_no_number", "_law_no_span", "_law_made", "_law_two", "_law_row", "_law_right"]
def loose : List Str := loose0 ++ loose1 ++ loose2
def tabs : List He.Tab := []
abbrev hk : PySem.W.Hook := Qx.hookC 5 [] fa fn tabs tf ex
def ob (s : PySem.W.SharedT) : He.AlX := Qx.obsC 5 [] fa fn tabs tf ex (HandSHeadRun.getT s)
theorem ob_eq (s : PySem.W.SharedT) : ob s = hk.obs s.abs := Qx.obsC_eq (HandSHeadRun.getT_eq s)
abbrev RunAt (w : World) : Prop := HandSHeadRun.RunEq R (PySem.W.view R.prog [71]) hk ob 20000 loose w
section
open PySem.W PySem.Calls
theorem join3 {α β : Type} {r : Option α} {L : α → Bool} {S : α → β} {K : α → PySem.W.Frag} {fa : List He.Fa} {fn1 fn2 : List He.DefD} {ts : List He.Tab} {E : α → Bool} {g : β} {v : List (Option (List (Option (Str × Int))))}
    (e1 : r.map (fun s => (L s, S s, fa.all (fun f => f.ok (K s)), ts.map (fun t => He.dicW (K s) (t.1 (K s))), E s)) = some (true, g, true, v, true))
    (e2 : r.map (fun s => (fn1.all (fun d => d.ok (K s)), fn1.map (fun d => He.fnW (K s) d.at_))) = some (true, fn1.map He.DefD.val))
    (e3 : r.map (fun s => (fn2.all (fun d => d.ok (K s)), fn2.map (fun d => He.fnW (K s) d.at_))) = some (true, fn2.map He.DefD.val)) :
    r.map (fun s => (L s, S s, (He.obsT fa (fn1 ++ fn2) ts (K s), E s))) = some (true, g, (((true, (fn1 ++ fn2).map He.DefD.val), v), true)) := by
  cases r with
  | none => cases e1
  | some s =>
    have e1 := Option.some.inj e1
    have e2 := Option.some.inj e2
    have e3 := Option.some.inj e3
    injection e1 with a1 e1
    injection e1 with a2 e1
    injection e1 with a3 e1
    injection e1 with a4 a5
    injection e2 with b1 b2
    injection e3 with c1 c2
    show some (L s, S s, ((((fa.all fun f => f.ok (K s)) && (fn1 ++ fn2).all fun d => d.ok (K s), (fn1 ++ fn2).map fun d => He.fnW (K s) d.at_), ts.map fun t => He.dicW (K s) (t.1 (K s))), E s)) = _
    rw [List.all_append, List.map_append, List.map_append, a1, a2, a3, a4, a5, b1, b2, c1, c2]
    rfl
def KK (s : PySem.W.SharedT) : PySem.W.Frag := He.frT (HandSHeadRun.getT s) (Qx.asB (HandSHeadRun.getT s) 5 [])
noncomputable abbrev RunO (w : World) (os : OsState) : Option PySem.W.SharedT := HandSHeadRun.endF (HandSHeadRun.stepQ (HandSHeadRun.denQ HandSHeadRun.tabQ) R.prog w) 20000 R.prog w os
theorem runF0 (w : World) (os : OsState) : (RunO (w.withFollow "special-get-raises" false) os).map (fun s => (HandSHeadRun.looksF R.prog (boot_heap (w.withFollow "special-get-raises" false).params) s.abs, HandSHeadRun.seenQ (PySem.W.view R.prog [71]) loose (importedModules R.prog.main.body) (fun s => PySem.W.xlAt (PySem.W.view R.prog [71]) [] s && PySem.W.recOk R.toRowW.records s) s.abs, fa.all (fun f => f.ok (KK s)), tabs.map (fun t => He.dicW (KK s) (t.1 (KK s))), (ex (KK s) && He.tabsB (HandSHeadRun.getT s) tf (KK s)))) = some (true, PySem.W.openGood (PySem.W.view R.prog [71]) loose, true, tabs.map (fun t => some (He.keysIn (w.withFollow "special-get-raises" false).params t.2)), true) := by
  kernel_rfl
theorem runFc0 (w : World) (os : OsState) : (RunO (w.withFollow "special-get-raises" false) os).map (fun s => (fc0.all (fun d => d.ok (KK s)), fc0.map (fun d => He.fnW (KK s) d.at_))) = some (true, fc0.map He.DefD.val) := by
  kernel_rfl
theorem runFc1 (w : World) (os : OsState) : (RunO (w.withFollow "special-get-raises" false) os).map (fun s => (fc1.all (fun d => d.ok (KK s)), fc1.map (fun d => He.fnW (KK s) d.at_))) = some (true, fc1.map He.DefD.val) := by
  kernel_rfl
theorem runF (w : World) : RunAt (w.withFollow "special-get-raises" false) := by
  intro os
  have z := join3 (r := RunO (w.withFollow "special-get-raises" false) os) (L := fun s => HandSHeadRun.looksF R.prog (boot_heap (w.withFollow "special-get-raises" false).params) s.abs) (S := fun s => HandSHeadRun.seenQ (PySem.W.view R.prog [71]) loose (importedModules R.prog.main.body) (fun s => PySem.W.xlAt (PySem.W.view R.prog [71]) [] s && PySem.W.recOk R.toRowW.records s) s.abs) (K := KK) (fa := fa) (fn1 := fc0) (fn2 := fc1) (ts := tabs) (E := fun s => (ex (KK s) && He.tabsB (HandSHeadRun.getT s) tf (KK s))) (g := PySem.W.openGood (PySem.W.view R.prog [71]) loose) (v := tabs.map (fun t => some (He.keysIn (w.withFollow "special-get-raises" false).params t.2))) (runF0 w os) (runFc0 w os) (runFc1 w os)
  exact z
theorem runT0 (w : World) (os : OsState) : (RunO (w.withFollow "special-get-raises" true) os).map (fun s => (HandSHeadRun.looksF R.prog (boot_heap (w.withFollow "special-get-raises" true).params) s.abs, HandSHeadRun.seenQ (PySem.W.view R.prog [71]) loose (importedModules R.prog.main.body) (fun s => PySem.W.xlAt (PySem.W.view R.prog [71]) [] s && PySem.W.recOk R.toRowW.records s) s.abs, fa.all (fun f => f.ok (KK s)), tabs.map (fun t => He.dicW (KK s) (t.1 (KK s))), (ex (KK s) && He.tabsB (HandSHeadRun.getT s) tf (KK s)))) = some (true, PySem.W.openGood (PySem.W.view R.prog [71]) loose, true, tabs.map (fun t => some (He.keysIn (w.withFollow "special-get-raises" true).params t.2)), true) := by
  kernel_rfl
theorem runTc0 (w : World) (os : OsState) : (RunO (w.withFollow "special-get-raises" true) os).map (fun s => (fc0.all (fun d => d.ok (KK s)), fc0.map (fun d => He.fnW (KK s) d.at_))) = some (true, fc0.map He.DefD.val) := by
  kernel_rfl
theorem runTc1 (w : World) (os : OsState) : (RunO (w.withFollow "special-get-raises" true) os).map (fun s => (fc1.all (fun d => d.ok (KK s)), fc1.map (fun d => He.fnW (KK s) d.at_))) = some (true, fc1.map He.DefD.val) := by
  kernel_rfl
theorem runT (w : World) : RunAt (w.withFollow "special-get-raises" true) := by
  intro os
  have z := join3 (r := RunO (w.withFollow "special-get-raises" true) os) (L := fun s => HandSHeadRun.looksF R.prog (boot_heap (w.withFollow "special-get-raises" true).params) s.abs) (S := fun s => HandSHeadRun.seenQ (PySem.W.view R.prog [71]) loose (importedModules R.prog.main.body) (fun s => PySem.W.xlAt (PySem.W.view R.prog [71]) [] s && PySem.W.recOk R.toRowW.records s) s.abs) (K := KK) (fa := fa) (fn1 := fc0) (fn2 := fc1) (ts := tabs) (E := fun s => (ex (KK s) && He.tabsB (HandSHeadRun.getT s) tf (KK s))) (g := PySem.W.openGood (PySem.W.view R.prog [71]) loose) (v := tabs.map (fun t => some (He.keysIn (w.withFollow "special-get-raises" true).params t.2))) (runT0 w os) (runTc0 w os) (runTc1 w os)
  exact z
end
theorem run (w : World) : RunAt w := PySem.W.byRow2 (P := RunAt) "special-get-raises" runF runT w
end Hd
namespace Gx
open PySem PySem.Spec PyProof.Rows L2
/-! ### what is known of a heap: the cells that may change, and facts that stay -/
abbrev Fact := Hp → Prop
def Mn (f : Fact) : Prop := ∀ H H', Same H H' → f H → f H'
def ers (m : List Addr) (H : Hp) : Hp := fun a => if a ∈ m then none else H a
theorem ers_sub (m : List Addr) (H : Hp) : Same (ers m H) H := fun b o e => by
  unfold ers at e
  by_cases h : b ∈ m
  · rw [if_pos h] at e; cases e
  · rw [if_neg h] at e; exact e
theorem ers_out {m : List Addr} {H : Hp} {a : Addr} (h : a ∉ m) : ers m H a = H a := if_neg h
theorem ers_mono {m : List Addr} {H H' : Hp} (e : Same H H') : Same (ers m H) (ers m H') := fun b o q => by
  have hb : b ∉ m := fun h => by unfold ers at q; rw [if_pos h] at q; cases q
  rw [ers_out hb] at q ⊢
  exact e b o q
theorem ers_less {m m' : List Addr} {H : Hp} (h : ∀ a ∈ m', a ∈ m) : Same (ers m H) (ers m' H) := fun b o q => by
  have hb : b ∉ m := fun h => by unfold ers at q; rw [if_pos h] at q; cases q
  rw [ers_out hb] at q
  rw [ers_out fun z => hb (h b z)]
  exact q
abbrev Cell := Addr × (HO → Prop)
structure Kn (M : List Cell) (fs : List Fact) (H : Hp) : Prop where
  cel : ∀ x ∈ M, ∃ o, H x.1 = some o ∧ x.2 o
  nd : (M.map (·.1)).Nodup
  fac : ∀ f ∈ fs, Mn f ∧ f (ers (M.map (·.1)) H)
section
variable {M : List Cell} {fs fs' : List Fact} {f : Fact} {H H' : Hp} {p : Addr} {o : HO} {P P' : HO → Prop} {x y : Cell}
theorem Kn.get (k : Kn M fs H) (h : f ∈ fs) : f H := (k.fac f h).1 _ _ (ers_sub _ _) (k.fac f h).2
theorem Kn.same (k : Kn M fs H) (e : Same H H') : Kn M fs H' :=
  ⟨fun x hx => let ⟨o, h1, h2⟩ := k.cel x hx; ⟨o, e _ _ h1, h2⟩, k.nd, fun f hf => ⟨(k.fac f hf).1, (k.fac f hf).1 _ _ (ers_mono e) (k.fac f hf).2⟩⟩
theorem Kn.sub (k : Kn M fs H) (h : ∀ f ∈ fs', f ∈ fs) : Kn M fs' H := ⟨k.cel, k.nd, fun f hf => k.fac f (h f hf)⟩
theorem Kn.hd {gs : List Fact} (k : Kn M (f :: gs) H) (h : ∀ g ∈ fs, g ∈ gs) : Kn M (f :: fs) H := k.sub fun g hg => by
  rcases List.mem_cons.mp hg with e | e
  · rw [e]; exact List.mem_cons_self
  · exact List.mem_cons_of_mem _ (h g e)
theorem Kn.tl (k : Kn M (f :: fs) H) : Kn M fs H := k.sub fun _ h => List.mem_cons_of_mem _ h
theorem Kn.notin (k : Kn M fs H) (hp : H p = none) : p ∉ M.map (·.1) := fun h => by
  obtain ⟨x, hx, e⟩ := List.mem_map.mp h
  obtain ⟨o, h1, _⟩ := k.cel x hx
  rw [e, hp] at h1
  cases h1
theorem same_new (hp : H p = none) : Same H (upd H p o) := fun b u e => by
  rw [upd_ne (ne_of_none e hp)]
  exact e
theorem Kn.new (k : Kn M fs H) (hp : H p = none) (mn : Mn f) (h : ∀ G : Hp, G p = some o → f G) : Kn M (f :: fs) (upd H p o) := by
  have k2 := k.same (same_new (o := o) hp)
  refine ⟨k2.cel, k2.nd, fun g hg => ?_⟩
  rcases List.mem_cons.mp hg with rfl | hg
  · exact ⟨mn, h _ (by rw [ers_out (k.notin hp)]; exact upd_same)⟩
  · exact k2.fac g hg
theorem Kn.set (k : Kn ((p, P) :: M) fs H) (h : P' o) : Kn ((p, P') :: M) fs (upd H p o) := by
  have nd := List.nodup_cons.mp k.nd
  refine ⟨fun x hx => ?_, k.nd, fun g hg => ?_⟩
  · rcases List.mem_cons.mp hx with rfl | hx
    · exact ⟨o, upd_same, h⟩
    · obtain ⟨u, h1, h2⟩ := k.cel x (List.mem_cons_of_mem _ hx)
      refine ⟨u, ?_, h2⟩
      rw [upd_ne fun e => nd.1 (List.mem_map.mpr ⟨x, hx, e⟩)]
      exact h1
  · refine ⟨(k.fac g hg).1, (k.fac g hg).1 _ _ (fun b u e => ?_) (k.fac g hg).2⟩
    have hb : b ∉ ((p, P) :: M).map (·.1) := fun h => by unfold ers at e; rw [if_pos h] at e; cases e
    rw [ers_out hb] at e
    have hb2 : b ∉ ((p, P') :: M).map (·.1) := hb
    rw [ers_out hb2, upd_ne fun z => hb (by rw [z]; exact List.mem_cons_self)]
    exact e
theorem Kn.drop (k : Kn ((p, P) :: M) fs H) : Kn M fs H :=
  ⟨fun x hx => k.cel x (List.mem_cons_of_mem _ hx), (List.nodup_cons.mp k.nd).2, fun g hg => ⟨(k.fac g hg).1, (k.fac g hg).1 _ _ (ers_less fun a ha => List.mem_cons_of_mem _ ha) (k.fac g hg).2⟩⟩
theorem Kn.swap (k : Kn (x :: y :: M) fs H) : Kn (y :: x :: M) fs H := by
  have n1 := List.nodup_cons.mp k.nd
  have n2 := List.nodup_cons.mp n1.2
  refine ⟨fun z hz => k.cel z ?_, ?_, fun g hg => ⟨(k.fac g hg).1, (k.fac g hg).1 _ _ (ers_less ?_) (k.fac g hg).2⟩⟩
  · rcases List.mem_cons.mp hz with rfl | hz
    · exact List.mem_cons_of_mem _ List.mem_cons_self
    · rcases List.mem_cons.mp hz with rfl | hz
      · exact List.mem_cons_self
      · exact List.mem_cons_of_mem _ (List.mem_cons_of_mem _ hz)
  · refine List.nodup_cons.mpr ⟨fun z => ?_, List.nodup_cons.mpr ⟨fun z => n1.1 (List.mem_cons_of_mem _ z), n2.2⟩⟩
    rcases List.mem_cons.mp z with z | z
    · exact n1.1 (by rw [← z]; exact List.mem_cons_self)
    · exact n2.1 z
  · intro a ha
    rcases List.mem_cons.mp ha with rfl | ha
    · exact List.mem_cons_of_mem _ List.mem_cons_self
    · rcases List.mem_cons.mp ha with rfl | ha
      · exact List.mem_cons_self
      · exact List.mem_cons_of_mem _ (List.mem_cons_of_mem _ ha)
theorem Kn.cell (k : Kn ((p, P) :: M) fs H) : ∃ o, H p = some o ∧ P o := k.cel _ List.mem_cons_self
end
/-! ### the usual facts -/
section
variable {K : PySem.W.Frag} {H H' : Hp} {a p : Addr} {xs : List V} {M : List Cell} {fs : List Fact} {C : Addr}
theorem rd_same {u : HO} (e : Same H H') (h : Rd H a u) : Rd H' a u := by
  rcases h with h | ⟨o, h⟩
  · exact .inl (e _ _ h)
  · exact .inr ⟨o, e _ _ h⟩
theorem sqt_same (e : Same H H') (h : SqT K H a xs) : SqT K H' a xs := by
  rcases h with h | h
  · exact .inl (rd_same e h)
  · exact .inr h
def fL (K : PySem.W.Frag) (a : Addr) (xs : List V) : Fact := fun H => SqL K H a xs
def fO (a : Addr) (o : HO) : Fact := fun H => H a = some o
theorem mn_L : Mn (fL K a xs) := fun _ _ e h => e.seq h
theorem Kn.obj {o : HO} (k : Kn M fs H) (h : fO a o ∈ fs) : H a = some o := k.get h
def isL (xs : List V) : HO → Prop := fun o => o = .lst xs
theorem Kn.lst (k : Kn ((p, isL xs) :: M) fs H) : H p = some (.lst xs) := by
  obtain ⟨o, h1, h2⟩ := k.cell
  rw [h2] at h1
  exact h1
end
theorem sl {n : Nat} (h : n.ble 1000 = true) : n ≤ sizeLine := Nat.le_trans (Nat.le_of_ble_eq_true h) (by decide)
/-! ### answers to what a reading asks -/
section
variable {K : PySem.W.Frag} {H H' : Hp} {a p : Addr} {xs : List V} {M : List Cell} {fs : List Fact} {C : Addr} {G : Addr → Prop} {A B : Prop}
theorem br {c : Prop} [Decidable c] (h1 : c → A) (h2 : ¬ c → B) : if decide c = true then A else B := by
  by_cases h : c
  · rw [if_pos (decide_eq_true h)]; exact h1 h
  · rw [if_neg (by rw [decide_eq_false h]; exact Bool.false_ne_true)]; exact h2 h
end
/-! ### a def of the text, with its promise -/
section
variable {X : Cx} {P : Program} {w : World} {K : PySem.W.Frag} {mg : Str → Option Value} {base : Heap} {d : He.DefD} {CX : CXT} {k j : Nat} {ps : List Str} {sp : Sp}
structure DOk (P : Program) (w : World) (K : PySem.W.Frag) (mg : Str → Option Value) (base : Heap) (d : He.DefD) (CX : CXT) (k : Nat) (ps : List Str) (sp : Sp) : Prop where
  ex : ∃ fd, FunD K d.name d.qual d.params d.body d.scope (d.dvs K) (d.kws K) (He.fAd K d.at_) fd ∧ FnOk P w K mg base CX k (He.fAd K d.at_) fd ps sp
def BdN (d : He.DefD) (ps : List Str) : Prop := d.dfl = [] ∧ ∀ (kV doc pm : Value) (an : Option Addr) (cdv ct : Value) (us : List Value), us.length = ps.length → bindArgs (PySem.W.fnOf d.name d.qual d.params d.body d.scope .none kV doc pm an cdv ct) ⟨us, []⟩ = pure (ps.zip us)
theorem FunD.bdN {fd : FuncData} (F : FunD K d.name d.qual d.params d.body d.scope (d.dvs K) (d.kws K) (He.fAd K d.at_) fd) (h : BdN d ps) : Binds K fd ps [] := by
  have e : d.dvs K = [] := by unfold He.DefD.dvs; rw [h.1]; rfl
  rw [e] at F
  exact F.bindsN h.2
theorem pc {x : Str} {p pos : Pos} {e : Expr} {es : List Expr} {t : TA} (D : DOk X.prog X.w X.K X.mg X.base d CX0 k ps sp) (hm : X.mg x = some (.ref (He.fAd X.K d.at_))) (hb : BdN d ps) (hr : Room j X.A) (hj : k ≤ j) (ha : PA X (e :: es) t) (hg : Gl X x := by rfl)
    (hdb : (x == ("__debug__" : Str)) = false := by decide) (he : starEach (e :: es) X.env = (false, eval e X.env) :: starEach es X.env := by rfl) (hpl : (backTo pos (starEach es X.env)).any (·.1) = false := by rfl) :
    PE X (.Call (.Name x p) (e :: es) [] pos) (tCall sp [] E0 t) := by
  obtain ⟨fd, F, G⟩ := D.ex
  exact pe_call G (hr.mono hj) hg hm F.kp (FunD.bdN F hb) .nil pass0 ha hdb he hpl
def BdD (K : PySem.W.Frag) (d : He.DefD) (ps : List Str) (dv : List V) : Prop := ∀ fd, FunD K d.name d.qual d.params d.body d.scope (d.dvs K) (d.kws K) (He.fAd K d.at_) fd → ∃ ds, Vals dv ds ∧ Binds K fd ps ds
def BdK (K : PySem.W.Frag) (d : He.DefD) (ps : List Str) (n : Nat) (ks : List Str) (gV : List V → List V → List V) : Prop := ∀ fd, FunD K d.name d.qual d.params d.body d.scope (d.dvs K) (d.kws K) (He.fAd K d.at_) fd → ∃ g, KBn K fd ps n ks g gV
section
variable {x : Str} {p pos : Pos} {e : Expr} {es : List Expr} {kws : List Keyword} {t tk : TA} {n : Nat} {ks : List Str} {gV : List V → List V → List V} {C : Addr}
end
end
end Gx

namespace Gx
open PySem PySem.Spec PyProof.Rows L2
/-! ### steps: what a reading asks, construct by construct -/
section
variable {K : PySem.W.Frag} {H : Hp} {σ : L2.St} {Q : VK} {QT : Bool → Hp → Prop} {QA : List V → Hp → Prop} {v x y : V} {i j : Int} {n : Nat} {ta tb te tc : TE} {t u : TT} {tA tR : TA} {r r' : R2} {tS uS : TS} {nx : L2.St → Hp → Prop} {rt : VK} {bk ct : L2.St → Hp → Prop} {a p C : Addr} {xs : List V} {M : List Cell} {fs : List Fact}
-- operators by values
theorem dec_int : decide (V.int i = V.int j) = decide (i = j) := by
  by_cases e : i = j
  · rw [decide_eq_true e, decide_eq_true (congrArg V.int e)]
  · rw [decide_eq_false e, decide_eq_false fun z => e (V.int.inj z)]
theorem dec_bl {b c : Bool} : decide (V.bl b = V.bl c) = decide (b = c) := by
  cases b <;> cases c <;> decide
theorem dec_str {b c : Str} : decide (V.str b = V.str c) = decide (b = c) := by
  by_cases e : b = c
  · rw [decide_eq_true e, decide_eq_true (congrArg V.str e)]
  · rw [decide_eq_false e, decide_eq_false fun z => e (V.str.inj z)]
theorem g_sub {to ti : TE} {s : TSet} {w : L2.St → Hp → Prop} (k : to σ H fun o H1 => ti σ H1 fun i H2 => s o i v H2 fun H3 => w σ H3) : gSub to ti s v σ H w := k
-- isinstance
theorem kB1 : kitB "int" "int" = some true := by decide +kernel
theorem kB2 : kitB "int" "bool" = some false := by decide +kernel
theorem kB3 : kitB "bool" "bool" = some true := by decide +kernel
theorem kB4 : kitB "bool" "int" = some true := by decide +kernel
theorem kB5 : kitB "str" "str" = some true := by decide +kernel
theorem kB6 : kitB "tuple" "tuple" = some true := by decide +kernel
theorem kB7 : kitB "NoneType" "bool" = some false := by decide +kernel
theorem kB8 : kitB "NoneType" "int" = some false := by decide +kernel
theorem kB9 : kitB "NoneType" "tuple" = some false := by decide +kernel
theorem kB10 : kitB "str" "int" = some false := by decide +kernel
structure InsK (K : PySem.W.Frag) (C : Addr) : Prop where
  cl : Cls K C
  ha : PySem.W.findIn K (.ref C) "__class__" = some (some (.builtin "object.__class__"))
  hn : PySem.W.specialIn K (.builtin "object.__class__") "__get__" = some (some (.builtin "getset_descriptor.__get__"))
  htk : PySem.W.takesIn K (.builtin "object.__class__") = some true
  hm : PySem.W.mroIn K C (.type "object") = some true
end
end Gx

namespace Gx
open PySem PySem.Spec PyProof.Rows L2
theorem Kn.exact {p : Addr} {Pr : HO → Prop} {M : List Cell} {fs : List Fact} {H : Hp} (k : Kn ((p, Pr) :: M) fs H) : ∃ o, Pr o ∧ Kn ((p, fun u => u = o) :: M) fs H := by
  obtain ⟨o, h1, h2⟩ := k.cell
  refine ⟨o, h2, fun x hx => ?_, k.nd, k.fac⟩
  rcases List.mem_cons.mp hx with rfl | hx
  · exact ⟨o, h1, rfl⟩
  · exact k.cel x (List.mem_cons_of_mem _ hx)
theorem Kn.cons {M : List Cell} {fs gs : List Fact} {H : Hp} (k : Kn M (gs ++ fs) H) : Kn M fs H := k.sub fun _ h => List.mem_append_right _ h
/-! ### fields, new instances -/
section
variable {K : PySem.W.Frag} {H : Hp} {σ : L2.St} {Q : VK} {E : XK} {v x y : V} {i j : Int} {n m : Nat} {ta tb te tc : TE} {tA tK : TA} {nx : L2.St → Hp → Prop} {rt : VK} {bk ct : L2.St → Hp → Prop} {a p C : Addr} {xs : List V} {M : List Cell} {fs : List Fact} {f : Str} {sp : Sp}
end
/-! ### loops -/
section
variable {K : PySem.W.Frag} {H : Hp} {σ : L2.St} {Q : VK} {v x : V} {tl : TE} {tA : TA} {g : TG} {tb : TS} {nx : L2.St → Hp → Prop} {rt : VK} {bk ct : L2.St → Hp → Prop} {a p : Addr} {xs : List V} {M : List Cell} {fs : List Fact}
theorem drop_get {α : Type} {xs : List α} {i : Nat} {x : α} (h : xs[i]? = some x) : xs.drop i = x :: xs.drop (i + 1) := by
  have hl := (List.getElem?_eq_some_iff.mp h).1
  have e := (List.getElem?_eq_some_iff.mp h).2
  rw [List.drop_eq_getElem_cons hl, e]
end
/-! ### slices, comprehensions -/
section
variable {K : PySem.W.Frag} {H : Hp} {σ : L2.St} {Q : VK} {v x : V} {te tl : TE} {t : TT} {tA : TA} {g : TG} {a p : Addr} {xs : List V} {M : List Cell} {fs : List Fact} {vs : List Nat}
theorem s_iteT {A B : Prop} (k : A) : if true = true then A else B := by rw [if_pos rfl]; exact k
theorem s_iteF {A B : Prop} (k : B) : if false = true then A else B := by rw [if_neg Bool.false_ne_true]; exact k
theorem s_iteNT {A B : Prop} (k : B) : if (!true) = true then A else B := by rw [if_neg (by decide)]; exact k
theorem s_iteNF {A B : Prop} (k : A) : if (!false) = true then A else B := by rw [if_pos (by decide)]; exact k
-- slices
end
/-! ### spans -/
section
variable {K : PySem.W.Frag} {H : Hp} {σ : L2.St} {Q : VK} {E : XK} {v x y : V} {a p C : Addr} {xs : List V} {M : List Cell} {fs : List Fact} {f : Str} {s u l s' u' l' : Int}
end
end Gx
namespace Gx
open PySem PySem.Spec PyProof.Rows L2
theorem kbN {K : PySem.W.Frag} {d : He.DefD} {fd : FuncData} {ps : List Str} (F : FunD K d.name d.qual d.params d.body d.scope (d.dvs K) (d.kws K) (He.fAd K d.at_) fd) (n : Nat) (ks : List Str) (g : {α : Type} → List α → List α → List α)
    (hrel : ∀ {vs zs : List V} {us ws : List Value}, Vals vs us → Vals zs ws → Vals (g vs zs) (g us ws))
    (h : ∀ (kV doc pm : Value) (an : Option Addr) (cdv ct : Value) (us ws : List Value), us.length = n → ws.length = ks.length → bindArgs (PySem.W.fnOf d.name d.qual d.params d.body d.scope .none kV doc pm an cdv ct) ⟨us, ks.zip ws⟩ = pure (ps.zip (g us ws))) (hd : d.dfl = [] := by rfl) :
    KBn K fd ps n ks (fun us ws => g us ws) (fun vs zs => g vs zs) := by
  have e : d.dvs K = [] := by unfold He.DefD.dvs; rw [hd]; rfl
  rw [e] at F
  obtain ⟨oc, od, dV, kV, doc, pm, an, cdv, ct, osl, rfl, lk, hcd, hD, hK⟩ := F.ex
  rcases hD with ⟨_, rfl⟩ | ⟨e, _⟩
  · exact ⟨fun s us ws X l1 l2 => BindsTo.of_eq (h kV doc pm an cdv ct us ws l1 l2), fun r1 r2 => hrel r1 r2⟩
  · exact absurd rfl e
end Gx

namespace Gx
open PySem PySem.Spec PyProof.Rows L2
section
variable {X : Cx}
theorem c_max (hc : X.calm = true) : CallR X (.builtin "max") (fun xs H Q => ∃ i j, xs = [.int i, .int j] ∧ Q (.int (max i j)) H) := by
  intro pins s σ H xs us Q I r h
  refine call_max2 hc pins s σ H xs us Q I r ?_
  obtain ⟨i, j, e, q⟩ := h
  refine ⟨i, j, e, ?_⟩
  have e2 : (if j > i then j else i) = max i j := by split <;> omega
  rw [e2]
  exact q
theorem c_min (hc : X.calm = true) : CallR X (.builtin "min") (fun xs H Q => ∃ i j, xs = [.int i, .int j] ∧ Q (.int (min i j)) H) := by
  intro pins s σ H xs us Q I r h
  refine call_min2 hc pins s σ H xs us Q I r ?_
  obtain ⟨i, j, e, q⟩ := h
  refine ⟨i, j, e, ?_⟩
  have e2 : (if j < i then j else i) = min i j := by split <;> omega
  rw [e2]
  exact q
end
section
variable {K : PySem.W.Frag} {H : Hp} {σ : L2.St} {Q : VK} {te tb : TE} {tS uS : TS} {nx : L2.St → Hp → Prop} {rt : VK} {bk ct : L2.St → Hp → Prop} {p q : Addr} {xs ys : List V} {M : List Cell} {fs : List Fact}
theorem eqvAll_ints : ∀ ns ms : List Int, PyData.eqvAll (ns.map PyData.int) (ms.map PyData.int) = decide (ns = ms)
  | [], [] => rfl
  | [], _ :: _ => rfl
  | _ :: _, [] => rfl
  | n :: ns, m :: ms => by
    show (PyData.eqv (.int n) (.int m) && PyData.eqvAll (ns.map PyData.int) (ms.map PyData.int)) = _
    rw [eqvAll_ints ns ms]
    show ((n == m) && decide (ns = ms)) = _
    by_cases h1 : n = m
    · by_cases h2 : ns = ms
      · rw [h1, h2]; simp
      · simp [h1, h2]
    · simp [h1]
theorem Kn.init {a : Addr} {ns : List Int} (h : SqL K H a (ns.map V.int)) : Kn [] [fL K a (ns.map V.int)] H := by
  refine ⟨fun x hx => (nomatch hx), List.nodup_nil, fun f hf => ?_⟩
  rcases List.mem_cons.mp hf with rfl | hf
  · refine ⟨mn_L, ?_⟩
    have e : ers ([].map fun x : Cell => x.1) H = H := funext fun b => ers_out (by simp)
    rw [e]
    exact h
  · exact nomatch hf
theorem all_rep (n : Nat) : (List.replicate n true).all id = true := by
  induction n with
  | zero => rfl
  | succ n ih => rw [List.replicate_succ, List.all_cons, ih]; rfl
end
end Gx

namespace Gx
open PySem PySem.Spec PyProof.Rows L2
/-! ### instances of any class, by their fields -/
section
variable {K : PySem.W.Frag} {H : Hp} {σ : L2.St} {Q : VK} {E : XK} {v x y : V} {a p C : Addr} {xs : List V} {M : List Cell} {fs : List Fact} {f : Str} {fl : List (Str × V)} {g : Fact}
theorem Kn.more (k : Kn M fs H) (mn : Mn g) (h : g (ers (M.map (·.1)) H)) : Kn M (g :: fs) H := ⟨k.cel, k.nd, fun f hf => by
  rcases List.mem_cons.mp hf with rfl | hf
  · exact ⟨mn, h⟩
  · exact k.fac f hf⟩
end
/-! ### gaps and limits -/
def goB (g f : Int) (o : Option Int) : Bool := decide (f ≤ g) && (match o with | none => true | some r => decide (g ≤ r))
def sureB (lo hi f : Int) (o : Option Int) : Bool := decide (f ≤ lo) && (match o with | none => true | some r => decide (hi ≤ r))
def neverB (lo hi f : Int) (o : Option Int) : Bool := decide (hi < f) || (match o with | none => false | some r => decide (r < lo))
def In2 (hl hh pl ph a b : Int) : Prop := hl ≤ a ∧ a ≤ hh ∧ pl ≤ b ∧ b ≤ ph
structure GoesOk (hl hh pl ph f : Int) (o : Option Int) (g : Option (Addr × Int × Int)) : Prop where
  non : g = none ↔ neverB (hl - ph) (hh - pl) f o = true
  som : ∀ t a b, g = some (t, a, b) → In2 hl hh pl ph a b ∧ goB (a - b) f o = true
structure FailsOk (hl hh pl ph f : Int) (o : Option Int) (g : Option (Addr × Int × Int)) : Prop where
  non : g = none ↔ sureB (hl - ph) (hh - pl) f o = true
  som : ∀ t a b, g = some (t, a, b) → In2 hl hh pl ph a b ∧ goB (a - b) f o = false
def TupOf (H : Hp) (g : Option (Addr × Int × Int)) : Prop := ∀ t a b, g = some (t, a, b) → H t = some (.tup [.int a, .int b])
theorem TupOf.none {H : Hp} : TupOf H none := fun _ _ _ e => nomatch e
theorem TupOf.some {H : Hp} {t : Addr} {a b : Int} (h : H t = .some (.tup [.int a, .int b])) : TupOf H (.some (t, a, b)) := fun _ _ _ e => by cases e; exact h
end Gx

namespace Gx
open PySem PySem.Spec PyProof.Rows L2
section
variable {K : PySem.W.Frag} {H : Hp} {σ : L2.St} {Q : VK} {v x : V} {te tl : TE} {t : TT} {tA : TA} {g : TG} {tb : TS} {nx : L2.St → Hp → Prop} {rt : VK} {bk ct : L2.St → Hp → Prop} {a p q : Addr} {xs ys : List V} {M : List Cell} {fs : List Fact} {vs : List Nat} {i : Int}
/-! ### comprehensions that keep facts of what they make -/
/-! ### loops by an invariant -/
/-! ### zip of two tuples of two -/
/-! ### items, sums of lists, growing lists -/
theorem x_sum {X : Cx} {K : PySem.W.Frag} (hk : X.K = K) (hc : X.calm = true) : CallR X (.builtin "sum") (rSum K) := by
  subst hk
  exact cr_sum hc
theorem x_all {X : Cx} {K : PySem.W.Frag} (hk : X.K = K) (hc : X.calm = true) : CallR X (.builtin "all") (rAll K) := by
  subst hk
  exact cr_all hc
end
end Gx

namespace Gx
open PySem PySem.Spec PyProof.Rows L2
/-! ### methods, own ==, !=, len -/
section
variable {X : Cx} {K : PySem.W.Frag} {d : He.DefD} {k j n : Nat} {ps : List Str} {sp : Sp} {C : Addr} {m : Str} {o : Expr} {ta : TE} {apos pos : Pos} {pl : Sem Bool}
theorem pm {e : Expr} {es : List Expr} {t : TA} (D : DOk X.prog X.w X.K X.mg X.base d CX0 k ps sp) (c : Cls X.K C) (hm : Meth X.K C m (He.fAd X.K d.at_)) (hb : BdN d ps) (hr : Room j X.A) (hj : k ≤ j) (he : PE X o ta) (ha : PA X (e :: es) t)
    (hst : starEach (e :: es) X.env = (false, eval e X.env) :: starEach es X.env := by rfl) (hpl : (backTo pos (starEach es X.env)).any (·.1) = false := by rfl)
    (ht : eval (.Call (.Attribute o m apos) (e :: es) [] pos) X.env = (do
      let ov ← eval o X.env
      standAt apos.atName
      let (f, first) ← holding [ov] (getMethod ov m pl)
      callWith pos f first (backTo pos (starEach (e :: es) X.env)) (backToKw pos (keywordEach [] X.env))) := by rfl) :
    PE X (.Call (.Attribute o m apos) (e :: es) [] pos) (tMeth C m sp [] E0 ta t) := by
  obtain ⟨fd, F, G⟩ := D.ex
  exact pe_meth he c hm G (hr.mono hj) (FunD.bdN F hb) .nil pass0 ha hst hpl ht
theorem run_fnA {CX : CXT} {f : Addr} {fd : FuncData} {dvs : List V} {ds : List Value} {E : XK} {A : Around} {pins : List (Addr × Obj)} {σ : L2.St} {H : Hp} {s : Shared} {Q : VK} {us : List Value} {vs : List V} (F : FnOk X.prog X.w X.K X.mg X.base CX k f fd ps sp) (hr : Room k A) (hf : A.frames = X.A.frames) (hb : Binds X.K fd ps ds) (hd : Vals dvs ds) (hx : Passes CX X E)
    (I : Inv X pins σ H s) (r : Vals vs us) (h : sp (vs ++ dvs) H Q E) : wpAny (model X.prog X.w) A (call (.ref f) us) (EP X pins σ Q) X.xe s := by
  have r2 : Vals (vs ++ dvs) (us ++ ds) := r.append hd
  have hl : (us ++ ds).length = ps.length := by rw [← r2.length]; exact F.len _ _ _ _ h
  have e0 : Env0 X.prog X.w X.K X.mg X.base A X.stack s H := by
    have e := I.env0
    exact ⟨by rw [hf]; exact e.frames, e.mod, e.bs, e.bsz, e.funs, e.frf, e.hok, e.bare⟩
  refine wpAny_call (codeAny_mono (F.run A X.stack s H ⟨us, []⟩ (us ++ ds) (vs ++ dvs) Q E hr e0 (hb s us I.kIn hl) r2 h) fun r s' hq => ?_)
  cases r with
  | error e => exact hx pins σ H s e s' I hq
  | ok fl =>
    cases fl with
    | ret u => exact I.after hq
    | next => exact False.elim hq
    | brk => exact False.elim hq
    | cont => exact False.elim hq
def InsAt (C : Addr) (H : Hp) (x : V) : Prop := ∃ a dx fl, x = .ref a ∧ H a = some (.ins C dx fl)
def rOLen (C : Addr) (sp : Sp) (xs : List V) (H : Hp) (Q : VK) : Prop := ∃ x, xs = [x] ∧ InsAt C H x ∧ sp [x] H (fun v H' => ∃ n : Int, v = .int n ∧ (0 ≤ n ∧ n < 2 ^ 63) ∧ Q (.int n) H') E0
theorem call_olen (D : DOk X.prog X.w X.K X.mg X.base d CX0 k ps sp) (hm : Meth X.K C "__len__" (He.fAd X.K d.at_)) (hb : BdN d ps) (hr : Room j X.A) (hj : k + 1 ≤ j) : CallR X (.builtin "len") (rOLen C sp) := by
  obtain ⟨fd, F, G⟩ := D.ex
  intro pins s σ H xs us Q I r h
  obtain ⟨x, rfl, ⟨a, dx, fl, rfl, ha⟩, h⟩ := h
  obtain ⟨u, rfl, rx⟩ := vals1 r
  cases rx
  obtain ⟨mA, J, _⟩ := ins_get I.hok ha
  obtain ⟨od, J, _⟩ := J.look
  obtain ⟨m, hF⟩ := I.fr
  have hr := hr.mono hj
  refine PySem.W.len_K hF I.ok.mod.kin J hm.at_ hm.fn ?_
  refine wpAny_mono (run_fnA (us := [.ref a]) (vs := [.ref a]) (dvs := []) (ds := []) G hr.in1 rfl (FunD.bdN F hb) .nil pass0 I (.cons rfl .nil) h) (fun r s' z => ?_) fun _ _ x => x
  obtain ⟨w, H', I', rw_, n, rfl, hn, q⟩ := z
  obtain ⟨t, rfl⟩ := rw_
  exact ⟨hn, .int n, H', I'.tok _, ⟨_, rfl⟩, q⟩
/-! ### readings of these, by what is known -/
section
variable {M : List Cell} {fs : List Fact} {H : Hp} {σ : L2.St} {Q : VK} {a b : Addr} {s u l s' u' l' : Int} {fl gl : List (Str × V)} {E : XK} {t tk : TA} {dvs : List V} {mk : Nat} {gV : List V → List V → List V}
end
theorem call_len_rng : CallR X (.builtin "len") (fun vs H Q => ∃ a i j, vs = [V.ref a] ∧ H a = some (.rng i j) ∧ i ≤ j ∧ j - i < 2 ^ 63 ∧ Q (.int (j - i)) H) := by
  intro pins s σ H vs us Q I r h
  obtain ⟨a, i, j, rfl, ha, h0, h1, q⟩ := h
  obtain ⟨u, rfl, rx⟩ := vals1 r
  cases rx
  obtain ⟨t1, t2, t3, ho⟩ := I.hok a _ ha
  have hn : Builtin.Range.rangeSize i j 1 = (j - i).toNat := by
    unfold Builtin.Range.rangeSize
    simp
    omega
  have e : ((j - i).toNat : Int) = j - i := Int.toNat_of_nonneg (by omega)
  refine call_len_range ho hn (by omega) ?_
  rw [e]
  exact ⟨.int (j - i), H, (I.tok _).tok _, ⟨_, rfl⟩, q⟩
def rTupOf (K : PySem.W.Frag) (xs : List V) (H : Hp) (Q : VK) : Prop := ∃ p ys, xs = [.ref p] ∧ ((SqL K H p ys ∧ ∀ l, H l = none → Q (.ref l) (upd H l (.tup ys))) ∨ (SqT K H p ys ∧ Q (.ref p) H))
theorem x_tup {X : Cx} {K : PySem.W.Frag} (hk : X.K = K) : CallR X (.type "tuple") (rTupOf K) := by
  subst hk
  exact call_tuple_of
theorem x_isi {X : Cx} {K : PySem.W.Frag} (hk : X.K = K) : CallR X (.builtin "isinstance") (rIsi K) := by
  subst hk
  exact call_isi
end
end Gx

namespace Gx
open PySem PySem.Spec PyProof.Rows L2
/-! ### set and sorted of a list of whole numbers -/
section
variable {P : Program} {w : World} {A : Around} {E : Value → Shared → Prop} {s : Shared} {l : Addr} {items : Array Value} {ns : List Int}
end
section
variable {X : Cx} {K : PySem.W.Frag} {w : World}
section
variable {H : Hp} {Q : VK} {p q : Addr} {ns ms : List Int} {S : Int → Bool} {n : Nat} {M : List Cell} {fs : List Fact}
end
end
end Gx

/-! Own layer Q1: values without addresses (PV), a store of things that change, and how both stand in a heap. -/
namespace Gx
open PySem PySem.Spec PyProof.Rows L2
def XO (a : Addr) (oe : Obj) : HO := .ext fun h => h.get? a = some oe
end Gx
namespace Qx
open PySem PySem.Spec PyProof.Rows L2 Gx
structure TabI where
  d : Str
  x : Option Str
  q : Str
  deriving DecidableEq
structure LamI where
  t : TabI
  k : Nat
  params : Arguments
  body : Expr
  scope : Scope
inductive PV where
  | non | bl (b : Bool) | int (i : Int) | str (z : Str) | ty (n : String) | cls (C : Str)
  | tup (ps : List PV) | xtp (ps : List PV) | lst (ps : List PV) | rol (ps : List PV) | ins (C : Str) (ns : List Str) (ps : List PV)
  | rng (a b : Int) | loc (n : Nat) | dic (ks vs : List PV) | dtk (ks : List (List Key)) (vs : List PV) | tbl (t : TabI) | fn (L : LamI) | xc (C : Str) (ns : List Str) (ps : List PV)
def keyP : PV → Option Key
  | .int i => some (.inl i)
  | .str z => some (.inr z)
  | _ => none
def XD (G : Hp) (d : Option Addr) (ns : List Str) (xs : List V) : Prop := (d = none ∧ ns = []) ∨ ∃ dd, d = some dd ∧ G dd = some (.xd (ns.zip xs))
theorem XD.mono {G G' : Hp} {d : Option Addr} {ns : List Str} {xs : List V} (e : Same G G') (h : XD G d ns xs) : XD G' d ns xs := h.elim .inl fun ⟨dd, h1, h2⟩ => .inr ⟨dd, h1, e _ _ h2⟩
def TabO (K : PySem.W.Frag) (G : Hp) (t : TabI) (a : Addr) (o : HO) : Prop := a = (He.cT K (t.d, t.x)).2 ∧ ∃ ps : Array Value, o = .tbl ps ∧ TriplesOk ps.toList ∧ ∀ (pos : Pos) (cv : Value), codeAmong pos ps.toList = some cv → ∃ c, cv = .ref c ∧ G c = some (LamX.CodeO c t.q)
def FunO (f : Addr) (L : LamI) (c : Addr) (pm ctv : Value) : HO := .ext fun h => h.get? f = some (PySem.W.kla_obj "<lambda>" L.t.q L.params L.body L.scope [] pm c ctv)
def FunR (G : Hp) (L : LamI) (v : V) : Prop := ∃ f c pm ctv, v = .ref f ∧ G f = some (FunO f L c pm ctv) ∧ G c = some (LamX.CodeO c L.t.q)
theorem FunR.mono {G G' : Hp} {L : LamI} {v : V} (e : Same G G') (h : FunR G L v) : FunR G' L v := by
  obtain ⟨f, c, pm, ctv, h1, h2, h3⟩ := h
  exact ⟨f, c, pm, ctv, h1, e _ _ h2, e _ _ h3⟩
theorem TabO.mono {K : PySem.W.Frag} {G G' : Hp} {t : TabI} {a : Addr} {o : HO} (e : Same G G') (h : TabO K G t a o) : TabO K G' t a o := by
  obtain ⟨h1, ps, h2, h3, h4⟩ := h
  exact ⟨h1, ps, h2, h3, fun pos cv hc => (h4 pos cv hc).imp fun c z => ⟨z.1, e _ _ z.2⟩⟩
abbrev Sto := List (Option PV)
abbrev Slots := List (Option PV)
def Pre (ι ι' : List Addr) : Prop := ∀ (n : Nat) (a : Addr), ι[n]? = some a → ι'[n]? = some a
theorem Pre.refl {ι : List Addr} : Pre ι ι := fun _ _ h => h
theorem Pre.trans {ι ι' ι'' : List Addr} (a : Pre ι ι') (b : Pre ι' ι'') : Pre ι ι'' := fun n x h => b n x (a n x h)
theorem Pre.app {ι t : List Addr} : Pre ι (ι ++ t) := fun n a h => by
  rw [List.getElem?_append_left (List.getElem?_eq_some_iff.mp h).1]; exact h
theorem same_refl {H : Hp} : Same H H := fun _ _ h => h
theorem same_trans {H H' H'' : Hp} (a : Same H H') (b : Same H' H'') : Same H H'' := fun x o h => b x o (a x o h)
def ExT (G : Hp) (v : V) : Prop := ∃ a ob u, v = .ref a ∧ G a = some (.frz ob u) ∧ ob.cls = .type "tuple" ∧ ob.dict = none
theorem ExT.mono {G G' : Hp} {v : V} (e : Same G G') (h : ExT G v) : ExT G' v := by
  obtain ⟨a, ob, u, h1, h2, h3⟩ := h
  exact ⟨a, ob, u, h1, e _ _ h2, h3⟩
mutual
def Rep (K : PySem.W.Frag) (ι : List Addr) (G : Hp) : PV → V → Prop
  | .non, v => v = .non
  | .bl b, v => v = .bl b
  | .int i, v => v = .int i
  | .str z, v => v = .str z
  | .ty n, v => v = .ty n
  | .cls C, v => v = .ref (He.ga K C)
  | .tup ps, v => ∃ a xs, v = .ref a ∧ SqT K G a xs ∧ RepL K ι G ps xs
  | .xtp ps, v => (∃ a xs, v = .ref a ∧ SqT K G a xs ∧ RepL K ι G ps xs) ∧ ExT G v
  | .lst ps, v => ∃ a xs, v = .ref a ∧ G a = some (.lst xs) ∧ RepL K ι G ps xs
  | .rol ps, v => ∃ a xs, v = .ref a ∧ SqL K G a xs ∧ RepL K ι G ps xs
  | .ins C ns ps, v => ∃ a dx xs, v = .ref a ∧ G a = some (.ins (He.ga K C) dx (ns.zip xs)) ∧ ns.length = ps.length ∧ RepL K ι G ps xs
  | .rng i j, v => ∃ a, v = .ref a ∧ G a = some (.rng i j)
  | .loc n, v => ∃ a, v = .ref a ∧ ι[n]? = some a
  | .dic ks vs, v => ∃ a kvs, v = .ref a ∧ G a = some (.dK kvs) ∧ ks.map keyP = kvs.map (fun w => some w.1) ∧ RepL K ι G vs (kvs.map (·.2))
  | .dtk ks vs, v => ∃ a kvs, v = .ref a ∧ G a = some (.dT kvs) ∧ kvs.map (·.1) = ks ∧ RepL K ι G vs (kvs.map (·.2))
  | .tbl t, v => ∃ a, v = .ref a ∧ ∃ o, G a = some o ∧ TabO K G t a o
  | .fn L, v => FunR G L v
  | .xc C ns ps, v => ∃ a oe xs, v = .ref a ∧ G a = some (Gx.XO a oe) ∧ oe.cls = .ref (He.ga K C) ∧ (∃ w, oe.data = .fields w) ∧ XD G oe.dict ns xs ∧ ns.length = ps.length ∧ RepL K ι G ps xs
def RepL (K : PySem.W.Frag) (ι : List Addr) (G : Hp) : List PV → List V → Prop
  | [], xs => xs = []
  | p :: ps, xs => ∃ x r, xs = x :: r ∧ Rep K ι G p x ∧ RepL K ι G ps r
end
section
variable {K : PySem.W.Frag} {ι ι' : List Addr} {G G' : Hp}
mutual
theorem Rep.mono (hp : Pre ι ι') (e : Same G G') : ∀ (p : PV) (v : V), Rep K ι G p v → Rep K ι' G' p v
  | .non, _, h => h
  | .bl _, _, h => h
  | .int _, _, h => h
  | .str _, _, h => h
  | .ty _, _, h => h
  | .cls _, _, h => h
  | .tup ps, _, ⟨a, xs, h1, h2, h3⟩ => ⟨a, xs, h1, sqt_same e h2, RepL.mono hp e ps xs h3⟩
  | .xtp ps, _, ⟨⟨a, xs, h1, h2, h3⟩, h4⟩ => ⟨⟨a, xs, h1, sqt_same e h2, RepL.mono hp e ps xs h3⟩, h4.mono e⟩
  | .lst ps, _, ⟨a, xs, h1, h2, h3⟩ => ⟨a, xs, h1, e _ _ h2, RepL.mono hp e ps xs h3⟩
  | .rol ps, _, ⟨a, xs, h1, h2, h3⟩ => ⟨a, xs, h1, e.seq h2, RepL.mono hp e ps xs h3⟩
  | .ins _ _ ps, _, ⟨a, dx, xs, h1, h2, h3, h4⟩ => ⟨a, dx, xs, h1, e _ _ h2, h3, RepL.mono hp e ps xs h4⟩
  | .rng _ _, _, ⟨a, h1, h2⟩ => ⟨a, h1, e _ _ h2⟩
  | .loc _, _, ⟨a, h1, h2⟩ => ⟨a, h1, hp _ _ h2⟩
  | .dic _ vs, _, ⟨a, kvs, h1, h2, h3, h4⟩ => ⟨a, kvs, h1, e _ _ h2, h3, RepL.mono hp e vs _ h4⟩
  | .dtk _ vs, _, ⟨a, kvs, h1, h2, h3, h4⟩ => ⟨a, kvs, h1, e _ _ h2, h3, RepL.mono hp e vs _ h4⟩
  | .tbl _, _, ⟨a, h1, o, h2, h3⟩ => ⟨a, h1, o, e _ _ h2, h3.mono e⟩
  | .fn _, _, h => FunR.mono e h
  | .xc _ _ ps, _, ⟨a, oe, xs, h1, h2, h3, h4, h5, h6, h7⟩ => ⟨a, oe, xs, h1, e _ _ h2, h3, h4, h5.mono e, h6, RepL.mono hp e ps xs h7⟩
theorem RepL.mono (hp : Pre ι ι') (e : Same G G') : ∀ (ps : List PV) (xs : List V), RepL K ι G ps xs → RepL K ι' G' ps xs
  | [], _, h => h
  | p :: ps, _, ⟨x, r, h1, h2, h3⟩ => ⟨x, r, h1, Rep.mono hp e p x h2, RepL.mono hp e ps r h3⟩
end
theorem RepL.len : ∀ {ps : List PV} {xs : List V}, RepL K ι G ps xs → xs.length = ps.length
  | [], _, h => by rw [show _ = [] from h]; rfl
  | _ :: ps, _, ⟨x, r, h1, _, h3⟩ => by rw [h1, List.length_cons, List.length_cons, RepL.len h3]
theorem RepL.get : ∀ {ps : List PV} {xs : List V} {i : Nat} {p : PV}, RepL K ι G ps xs → ps[i]? = some p → ∃ x, xs[i]? = some x ∧ Rep K ι G p x
  | [], _, _, _, _, e => by simp at e
  | q :: ps, _, 0, p, ⟨x, r, h1, h2, _⟩, e => by
    subst h1
    simp only [List.getElem?_cons_zero, Option.some.injEq] at e
    subst e
    exact ⟨x, rfl, h2⟩
  | q :: ps, _, i + 1, p, ⟨x, r, h1, _, h3⟩, e => by
    subst h1
    simp only [List.getElem?_cons_succ] at e ⊢
    exact RepL.get h3 e
theorem RepL.of : ∀ {ps : List PV} {xs : List V}, xs.length = ps.length → (∀ (i : Nat) p, ps[i]? = some p → ∃ x, xs[i]? = some x ∧ Rep K ι G p x) → RepL K ι G ps xs
  | [], xs, hl, _ => by
    have : xs = [] := List.length_eq_zero_iff.mp hl
    exact this
  | p :: ps, [], hl, _ => by simp at hl
  | p :: ps, x :: xs, hl, h => by
    obtain ⟨y, e, hy⟩ := h 0 p rfl
    simp only [List.getElem?_cons_zero, Option.some.injEq] at e
    subst e
    refine ⟨x, xs, rfl, hy, RepL.of (by simpa using hl) fun i q hq => ?_⟩
    obtain ⟨z, e, hz⟩ := h (i + 1) q (by simpa using hq)
    exact ⟨z, by simpa using e, hz⟩
theorem RepL.app {ps qs : List PV} {xs ys : List V} (h : RepL K ι G ps xs) (h' : RepL K ι G qs ys) : RepL K ι G (ps ++ qs) (xs ++ ys) := by
  induction ps generalizing xs with
  | nil =>
    have e : xs = [] := h
    subst e
    exact h'
  | cons p ps ih =>
    obtain ⟨x, r, e, h2, h3⟩ := h
    subst e
    exact ⟨x, r ++ ys, rfl, h2, ih h3⟩
theorem RepL.one {p : PV} {x : V} (h : Rep K ι G p x) : RepL K ι G [p] [x] := ⟨x, [], rfl, h, rfl⟩
theorem RepL.nilR : RepL K ι G [] [] := rfl
theorem RepL.consR {p : PV} {x : V} {ps : List PV} {xs : List V} (h : Rep K ι G p x) (t : RepL K ι G ps xs) : RepL K ι G (p :: ps) (x :: xs) := ⟨x, xs, rfl, h, t⟩
theorem RepL.drop {ps : List PV} {xs : List V} (n : Nat) (h : RepL K ι G ps xs) : RepL K ι G (ps.drop n) (xs.drop n) := by
  refine RepL.of (by rw [List.length_drop, List.length_drop, h.len]) fun i p e => ?_
  rw [List.getElem?_drop] at e ⊢
  exact h.get e
theorem RepL.take {ps : List PV} {xs : List V} (n : Nat) (h : RepL K ι G ps xs) : RepL K ι G (ps.take n) (xs.take n) := by
  refine RepL.of (by rw [List.length_take, List.length_take, h.len]) fun i p e => ?_
  rw [List.getElem?_take] at e ⊢
  by_cases c : i < n
  · rw [if_pos c] at e ⊢; exact h.get e
  · rw [if_neg c] at e; cases e
theorem RepL.set {ps : List PV} {xs : List V} {n : Nat} {p : PV} {x : V} (h : RepL K ι G ps xs) (hp : Rep K ι G p x) : RepL K ι G (ps.set n p) (xs.set n x) := by
  refine RepL.of (by rw [List.length_set, List.length_set, h.len]) fun i q e => ?_
  rw [List.getElem?_set] at e ⊢
  by_cases c : n = i
  · rw [if_pos c] at e ⊢
    rw [h.len]
    by_cases d : n < ps.length
    · rw [if_pos d] at e ⊢
      cases e
      exact ⟨x, rfl, hp⟩
    · rw [if_neg d] at e; cases e
  · rw [if_neg c] at e ⊢
    exact h.get e
theorem RepL.mapV {α : Type} {f : α → PV} {g : α → V} (hf : ∀ a, Rep K ι G (f a) (g a)) : ∀ as : List α, RepL K ι G (as.map f) (as.map g)
  | [] => rfl
  | a :: as => ⟨g a, as.map g, rfl, hf a, RepL.mapV hf as⟩
theorem RepL.split : ∀ {ps qs : List PV} {xs : List V}, RepL K ι G (ps ++ qs) xs → ∃ ys zs, xs = ys ++ zs ∧ RepL K ι G ps ys ∧ RepL K ι G qs zs
  | [], qs, xs, h => ⟨[], xs, rfl, rfl, h⟩
  | p :: ps, qs, xs, ⟨x, r, e, h2, h3⟩ => by
    obtain ⟨ys, zs, e2, h4, h5⟩ := RepL.split h3
    exact ⟨x :: ys, zs, by rw [e, e2]; rfl, ⟨x, ys, rfl, h2, h4⟩, h5⟩
end
def RepO (K : PySem.W.Frag) (ι : List Addr) (G : Hp) (a : Addr) : PV → HO → Prop
  | .lst ps, o => ∃ xs, o = .lst xs ∧ RepL K ι G ps xs
  | .ins C ns ps, o => ∃ dx xs, o = .ins (He.ga K C) dx (ns.zip xs) ∧ ns.length = ps.length ∧ RepL K ι G ps xs
  | .dic ks vs, o => ∃ kvs, o = .dK kvs ∧ ks.map keyP = kvs.map (fun w => some w.1) ∧ RepL K ι G vs (kvs.map (·.2))
  | .dtk ks vs, o => ∃ kvs, o = .dT kvs ∧ kvs.map (·.1) = ks ∧ RepL K ι G vs (kvs.map (·.2))
  | .tbl t, o => TabO K G t a o
  | _, _ => False
theorem RepO.mono {K : PySem.W.Frag} {ι ι' : List Addr} {G G' : Hp} (hp : Pre ι ι') (e : Same G G') {p : PV} {o : HO} {a : Addr} (h : RepO K ι G a p o) : RepO K ι' G' a p o := by
  cases p with
  | lst ps => obtain ⟨xs, h1, h2⟩ := h; exact ⟨xs, h1, h2.mono hp e⟩
  | ins C ns ps => obtain ⟨dx, xs, h1, h2, h3⟩ := h; exact ⟨dx, xs, h1, h2, h3.mono hp e⟩
  | dic ks vs => obtain ⟨kvs, h1, h2, h3⟩ := h; exact ⟨kvs, h1, h2, h3.mono hp e⟩
  | dtk ks vs => obtain ⟨kvs, h1, h2, h3⟩ := h; exact ⟨kvs, h1, h2, h3.mono hp e⟩
  | tbl t => exact TabO.mono e h
  | _ => exact h.elim
theorem RepO.rep {K : PySem.W.Frag} {ι : List Addr} {G : Hp} {p : PV} {o : HO} {a : Addr} (h : RepO K ι G a p o) (e : G a = some o) : Rep K ι G p (.ref a) := by
  cases p with
  | lst ps => obtain ⟨xs, h1, h2⟩ := h; subst h1; exact ⟨a, xs, rfl, e, h2⟩
  | ins C ns ps => obtain ⟨dx, xs, h1, h2, h3⟩ := h; subst h1; exact ⟨a, dx, xs, rfl, e, h2, h3⟩
  | dic ks vs => obtain ⟨kvs, h1, h2, h3⟩ := h; subst h1; exact ⟨a, kvs, rfl, e, h2, h3⟩
  | dtk ks vs => obtain ⟨kvs, h1, h2, h3⟩ := h; subst h1; exact ⟨a, kvs, rfl, e, h2, h3⟩
  | tbl t => exact ⟨a, rfl, o, e, h⟩
  | _ => exact h.elim
/-! ### the live addresses of a store -/
def lv : List Addr → Sto → List Addr
  | a :: ι, some _ :: O => a :: lv ι O
  | _ :: ι, none :: O => lv ι O
  | _, _ => []
theorem lv_mem : ∀ {ι : List Addr} {O : Sto} {a : Addr}, a ∈ lv ι O → ∃ (n : Nat) (p : PV), ι[n]? = some a ∧ O[n]? = some (some p)
  | [], O, a, h => by simp [lv] at h
  | b :: ι, [], a, h => by simp [lv] at h
  | b :: ι, some p :: O, a, h => by
    simp only [lv, List.mem_cons] at h
    rcases h with rfl | h
    · exact ⟨0, p, rfl, rfl⟩
    · obtain ⟨n, q, h1, h2⟩ := lv_mem h
      exact ⟨n + 1, q, by simpa using h1, by simpa using h2⟩
  | b :: ι, none :: O, a, h => by
    simp only [lv] at h
    obtain ⟨n, q, h1, h2⟩ := lv_mem h
    exact ⟨n + 1, q, by simpa using h1, by simpa using h2⟩
theorem lv_in : ∀ {ι : List Addr} {O : Sto} {n : Nat} {a : Addr} {p : PV}, ι[n]? = some a → O[n]? = some (some p) → a ∈ lv ι O
  | [], _, _, _, _, h, _ => by simp at h
  | b :: ι, [], _, _, _, _, h => by simp at h
  | b :: ι, some q :: O, 0, a, p, h, _ => by
    simp only [List.getElem?_cons_zero, Option.some.injEq] at h
    subst h
    exact List.mem_cons_self
  | b :: ι, none :: O, 0, a, p, _, h => by simp at h
  | b :: ι, some q :: O, n + 1, a, p, h, h' => List.mem_cons_of_mem _ (lv_in (n := n) (p := p) (by simpa using h) (by simpa using h'))
  | b :: ι, none :: O, n + 1, a, p, h, h' => by
    simp only [lv]
    exact lv_in (n := n) (p := p) (by simpa using h) (by simpa using h')
theorem lv_app : ∀ {ι : List Addr} {O : Sto} {a : Addr} {p : PV}, ι.length = O.length → lv (ι ++ [a]) (O ++ [some p]) = lv ι O ++ [a]
  | [], [], _, _, _ => rfl
  | [], _ :: _, _, _, h => by simp at h
  | _ :: _, [], _, _, h => by simp at h
  | b :: ι, some q :: O, a, p, h => by
    simp only [List.cons_append, lv]
    rw [lv_app (by simpa using h)]
  | b :: ι, none :: O, a, p, h => by
    simp only [List.cons_append, lv]
    rw [lv_app (by simpa using h)]
theorem lv_out : ∀ {ι : List Addr} {O : Sto} {n : Nat} {a : Addr} {p : PV}, ι[n]? = some a → O[n]? = some (some p) → (lv ι O).Perm (a :: lv ι (O.set n none))
  | [], _, _, _, _, h, _ => by simp at h
  | b :: ι, [], _, _, _, _, h => by simp at h
  | b :: ι, some q :: O, 0, a, p, h, _ => by
    simp only [List.getElem?_cons_zero, Option.some.injEq] at h
    subst h
    simp only [List.set_cons_zero, lv]
    exact .refl _
  | b :: ι, none :: O, 0, a, p, _, h => by simp at h
  | b :: ι, some q :: O, n + 1, a, p, h, h' => by
    simp only [List.set_cons_succ, lv]
    exact ((lv_out (n := n) (p := p) (by simpa using h) (by simpa using h')).cons b).trans (.swap a b _)
  | b :: ι, none :: O, n + 1, a, p, h, h' => by
    simp only [List.set_cons_succ, lv]
    exact lv_out (n := n) (p := p) (by simpa using h) (by simpa using h')
theorem set_back {O : Sto} {n : Nat} {x : Option PV} (h : O[n]? = some x) : O.set n x = O := by
  apply List.ext_getElem?
  intro i
  rw [List.getElem?_set]
  split
  · rename_i e
    subst e
    rw [h, if_pos (List.getElem?_eq_some_iff.mp h).1]
  · rfl
theorem lv_put {ι : List Addr} {O : Sto} {n : Nat} {a : Addr} {p : PV} (h : ι[n]? = some a) (h' : O[n]? = some none) : (lv ι (O.set n (some p))).Perm (a :: lv ι O) := by
  have hl := (List.getElem?_eq_some_iff.mp h').1
  have e := lv_out (ι := ι) (O := O.set n (some p)) (n := n) (a := a) (p := p) h (by rw [List.getElem?_set_self hl])
  rw [List.set_set, set_back h'] at e
  exact e
/-! ### a store in a heap -/
def fz (R : List (Addr × HO)) (ι : List Addr) (O : Sto) (H : Hp) : Hp := ers (R.map (·.1) ++ lv ι O) H
structure Sim (K : PySem.W.Frag) (R : List (Addr × HO)) (ι : List Addr) (O : Sto) (H : Hp) : Prop where
  len : ι.length = O.length
  nd : (R.map (·.1) ++ lv ι O).Nodup
  hid : ∀ x ∈ R, H x.1 = some x.2
  thr : ∀ a ∈ ι, H a ≠ none
  obj : ∀ (n : Nat) a p, ι[n]? = some a → O[n]? = some (some p) → ∃ o, H a = some o ∧ RepO K ι (fz R ι O H) a p o
structure Ext (R : List (Addr × HO)) (ι : List Addr) (O : Sto) (H : Hp) (ι' : List Addr) (O' : Sto) (H' : Hp) : Prop where
  pre : Pre ι ι'
  same : Same (fz R ι O H) (fz R ι' O' H')
section
variable {K : PySem.W.Frag} {R : List (Addr × HO)} {ι ι' ι'' : List Addr} {O O' O'' : Sto} {H H' H'' : Hp} {D a : Addr} {o o' : HO} {n : Nat} {p p' : PV}
theorem Ext.refl : Ext R ι O H ι O H := ⟨.refl, same_refl⟩
theorem Ext.trans (x : Ext R ι O H ι' O' H') (y : Ext R ι' O' H' ι'' O'' H'') : Ext R ι O H ι'' O'' H'' := ⟨x.pre.trans y.pre, same_trans x.same y.same⟩
theorem Ext.rep (x : Ext R ι O H ι' O' H') {v : V} (h : Rep K ι (fz R ι O H) p v) : Rep K ι' (fz R ι' O' H') p v := h.mono x.pre x.same
theorem Ext.repL (x : Ext R ι O H ι' O' H') {ps : List PV} {vs : List V} (h : RepL K ι (fz R ι O H) ps vs) : RepL K ι' (fz R ι' O' H') ps vs := h.mono x.pre x.same
theorem ers_eq {m m' : List Addr} (h : ∀ b, b ∈ m ↔ b ∈ m') : ers m H = ers m' H := by
  funext b
  unfold ers
  by_cases c : b ∈ m
  · rw [if_pos c, if_pos ((h b).mp c)]
  · rw [if_neg c, if_neg fun z => c ((h b).mpr z)]
theorem ers_upd {m : List Addr} (h : D ∈ m) : ers m (upd H D o) = ers m H := by
  funext b
  unfold ers
  by_cases c : b ∈ m
  · rw [if_pos c, if_pos c]
  · rw [if_neg c, if_neg c, upd_ne fun z => c (by rw [z]; exact h)]
theorem Sim.frozen (S : Sim K R ι O H) : Same (fz R ι O H) H := ers_sub _ _
theorem Sim.fresh (S : Sim K R ι O H) (h : H D = none) : D ∉ R.map (·.1) ++ lv ι O := fun z => by
  rcases List.mem_append.mp z with z | z
  · obtain ⟨x, hx, e⟩ := List.mem_map.mp z
    have := S.hid x hx
    rw [e, h] at this
    cases this
  · obtain ⟨n, q, h1, h2⟩ := lv_mem z
    obtain ⟨o, h3, _⟩ := S.obj n D q h1 h2
    rw [h] at h3
    cases h3
theorem Sim.hide_new (S : Sim K R ι O H) (h : H D = none) (o : HO) : Sim K ((D, o) :: R) ι O (upd H D o) ∧ fz ((D, o) :: R) ι O (upd H D o) = fz R ι O H := by
  have hf := S.fresh h
  have e : fz ((D, o) :: R) ι O (upd H D o) = fz R ι O H := by
    show ers (D :: (R.map (·.1) ++ lv ι O)) (upd H D o) = ers (R.map (·.1) ++ lv ι O) H
    rw [ers_upd List.mem_cons_self]
    funext b
    unfold ers
    by_cases c : b ∈ R.map (·.1) ++ lv ι O
    · rw [if_pos c, if_pos (List.mem_cons_of_mem _ c)]
    · rw [if_neg c]
      by_cases d : b = D
      · rw [d, if_pos List.mem_cons_self, h]
      · rw [if_neg fun z => (List.mem_cons.mp z).elim d c]
  have hs : Same H (upd H D o) := same_new h
  refine ⟨⟨S.len, List.nodup_cons.mpr ⟨hf, S.nd⟩, fun x hx => ?_, fun b hb z => ?_, fun n b q h1 h2 => ?_⟩, e⟩
  · rcases List.mem_cons.mp hx with rfl | hx
    · exact upd_same
    · exact hs _ _ (S.hid x hx)
  · cases q : H b with
    | none => exact S.thr b hb q
    | some u => rw [hs _ _ q] at z; cases z
  · obtain ⟨u, h3, h4⟩ := S.obj n b q h1 h2
    rw [e]
    exact ⟨u, hs _ _ h3, h4⟩
theorem Sim.hid_set (S : Sim K ((D, o) :: R) ι O H) (o' : HO) : Sim K ((D, o') :: R) ι O (upd H D o') ∧ fz ((D, o') :: R) ι O (upd H D o') = fz ((D, o) :: R) ι O H := by
  have nd := List.nodup_cons.mp (show (D :: (R.map (·.1) ++ lv ι O)).Nodup from S.nd)
  have e : fz ((D, o') :: R) ι O (upd H D o') = fz ((D, o) :: R) ι O H := by
    show ers (D :: (R.map (·.1) ++ lv ι O)) (upd H D o') = ers (D :: (R.map (·.1) ++ lv ι O)) H
    exact ers_upd List.mem_cons_self
  refine ⟨⟨S.len, S.nd, fun x hx => ?_, fun b hb z => ?_, fun n b q h1 h2 => ?_⟩, e⟩
  · rcases List.mem_cons.mp hx with rfl | hx
    · exact upd_same
    · rw [upd_ne fun z => nd.1 (List.mem_append_left _ (List.mem_map.mpr ⟨x, hx, z⟩))]
      exact S.hid x (List.mem_cons_of_mem _ hx)
  · by_cases c : b = D
    · rw [c, upd_same] at z; cases z
    · rw [upd_ne c] at z; exact S.thr b hb z
  · obtain ⟨u, h3, h4⟩ := S.obj n b q h1 h2
    rw [e]
    exact ⟨u, by rw [upd_ne fun z => nd.1 (List.mem_append_right _ (by rw [← z]; exact lv_in h1 h2))]; exact h3, h4⟩
theorem Sim.unhide (S : Sim K ((D, o) :: R) ι O H) : Sim K R ι O H ∧ Same (fz ((D, o) :: R) ι O H) (fz R ι O H) ∧ fz R ι O H D = some o := by
  have nd := List.nodup_cons.mp (show (D :: (R.map (·.1) ++ lv ι O)).Nodup from S.nd)
  have e : Same (fz ((D, o) :: R) ι O H) (fz R ι O H) := ers_less fun b hb => List.mem_cons_of_mem _ hb
  refine ⟨⟨S.len, nd.2, fun x hx => S.hid x (List.mem_cons_of_mem _ hx), S.thr, fun n b q h1 h2 => ?_⟩, e, ?_⟩
  · obtain ⟨u, h3, h4⟩ := S.obj n b q h1 h2
    exact ⟨u, h3, h4.mono .refl e⟩
  · show ers _ H D = _
    rw [ers_out nd.1]
    exact S.hid (D, o) List.mem_cons_self
theorem Sim.own (S : Sim K ((D, o) :: R) ι O H) (r : RepO K ι (fz ((D, o) :: R) ι O H) D p o) : Sim K R (ι ++ [D]) (O ++ [some p]) H ∧ fz R (ι ++ [D]) (O ++ [some p]) H = fz ((D, o) :: R) ι O H := by
  have hm : ∀ b, b ∈ R.map (·.1) ++ lv (ι ++ [D]) (O ++ [some p]) ↔ b ∈ D :: (R.map (·.1) ++ lv ι O) := fun b => by
    rw [lv_app S.len]
    simp only [List.mem_append, List.mem_cons, List.not_mem_nil, or_false]
    constructor
    · rintro (h | h | h)
      · exact .inr (.inl h)
      · exact .inr (.inr h)
      · exact .inl h
    · rintro (h | h | h)
      · exact .inr (.inr h)
      · exact .inl h
      · exact .inr (.inl h)
  have e : fz R (ι ++ [D]) (O ++ [some p]) H = fz ((D, o) :: R) ι O H := ers_eq hm
  have hD := S.hid (D, o) List.mem_cons_self
  refine ⟨⟨by simp [S.len], ?_, fun x hx => S.hid x (List.mem_cons_of_mem _ hx), fun b hb z => ?_, fun n b q h1 h2 => ?_⟩, e⟩
  · rw [lv_app S.len, ← List.append_assoc]
    exact (List.perm_append_singleton D _).nodup_iff.mpr S.nd
  · rcases List.mem_append.mp hb with hb | hb
    · exact S.thr b hb z
    · rw [List.mem_singleton.mp hb] at z
      rw [show H D = some o from hD] at z
      cases z
  · rw [e]
    by_cases c : n < O.length
    · rw [List.getElem?_append_left (by rw [S.len]; exact c)] at h1
      rw [List.getElem?_append_left c] at h2
      obtain ⟨u, h3, h4⟩ := S.obj n b q h1 h2
      exact ⟨u, h3, h4.mono .app same_refl⟩
    · have hn := (List.getElem?_eq_some_iff.mp h2).1
      simp only [List.length_append, List.length_cons, List.length_nil] at hn
      have en : n = O.length := by omega
      rw [en, List.getElem?_append_right (Nat.le_refl _)] at h2
      rw [en, List.getElem?_append_right (by rw [S.len]; exact Nat.le_refl _)] at h1
      simp [S.len] at h1 h2
      subst h1
      subst h2
      exact ⟨o, hD, r.mono .app same_refl⟩
theorem Sim.out (S : Sim K R ι O H) (hn : ι[n]? = some a) (ho : O[n]? = some (some p)) : ∃ o, H a = some o ∧ Sim K ((a, o) :: R) ι (O.set n none) H ∧ fz ((a, o) :: R) ι (O.set n none) H = fz R ι O H ∧ RepO K ι (fz R ι O H) a p o := by
  obtain ⟨o, h1, h2⟩ := S.obj n a p hn ho
  have pm := lv_out hn ho
  have hm : ∀ b, b ∈ a :: (R.map (·.1) ++ lv ι (O.set n none)) ↔ b ∈ R.map (·.1) ++ lv ι O := fun b => by
    have := pm.mem_iff (a := b)
    simp only [List.mem_append, List.mem_cons] at this ⊢
    rw [this]
    constructor
    · rintro (h | h | h)
      · exact .inr (.inl h)
      · exact .inl h
      · exact .inr (.inr h)
    · rintro (h | h | h)
      · exact .inr (.inl h)
      · exact .inl h
      · exact .inr (.inr h)
  have e : fz ((a, o) :: R) ι (O.set n none) H = fz R ι O H := ers_eq hm
  refine ⟨o, h1, ⟨by rw [List.length_set]; exact S.len, ?_, fun x hx => ?_, S.thr, fun m b q h3 h4 => ?_⟩, e, h2⟩
  · show (a :: (R.map (·.1) ++ lv ι (O.set n none))).Nodup
    exact ((pm.append_left (R.map (·.1))).trans List.perm_middle).nodup_iff.mp S.nd
  · rcases List.mem_cons.mp hx with rfl | hx
    · exact h1
    · exact S.hid x hx
  · rw [e]
    rw [List.getElem?_set] at h4
    split at h4
    · split at h4
      · cases h4
      · cases h4
    · exact S.obj m b q h3 h4
theorem Sim.put (S : Sim K ((a, o) :: R) ι O H) (hn : ι[n]? = some a) (ho : O[n]? = some none) (r : RepO K ι (fz ((a, o) :: R) ι O H) a p o) : Sim K R ι (O.set n (some p)) H ∧ fz R ι (O.set n (some p)) H = fz ((a, o) :: R) ι O H := by
  have pm := lv_put (p := p) hn ho
  have hm : ∀ b, b ∈ R.map (·.1) ++ lv ι (O.set n (some p)) ↔ b ∈ a :: (R.map (·.1) ++ lv ι O) := fun b => by
    have := pm.mem_iff (a := b)
    simp only [List.mem_append, List.mem_cons] at this ⊢
    rw [this]
    constructor
    · rintro (h | h | h)
      · exact .inr (.inl h)
      · exact .inl h
      · exact .inr (.inr h)
    · rintro (h | h | h)
      · exact .inr (.inl h)
      · exact .inl h
      · exact .inr (.inr h)
  have e : fz R ι (O.set n (some p)) H = fz ((a, o) :: R) ι O H := ers_eq hm
  have ha := S.hid (a, o) List.mem_cons_self
  refine ⟨⟨by rw [List.length_set]; exact S.len, ?_, fun x hx => S.hid x (List.mem_cons_of_mem _ hx), S.thr, fun m b q h3 h4 => ?_⟩, e⟩
  · have q : (a :: (R.map (·.1) ++ lv ι O)).Nodup := S.nd
    exact ((pm.append_left (R.map (·.1))).trans List.perm_middle).nodup_iff.mpr q
  · rw [e]
    rw [List.getElem?_set] at h4
    split at h4
    · rename_i c
      subst c
      split at h4
      · cases h4
        rw [hn] at h3
        cases h3
        exact ⟨o, ha, r⟩
      · cases h4
    · exact S.obj m b q h3 h4
/-! what follows: a new frozen thing, a new thing that changes, a change, a freezing -/
theorem Sim.newF (S : Sim K R ι O H) (h : H D = none) (o : HO) : Sim K R ι O (upd H D o) ∧ Ext R ι O H ι O (upd H D o) ∧ fz R ι O (upd H D o) D = some o := by
  obtain ⟨S1, e1⟩ := S.hide_new h o
  obtain ⟨S2, e2, e3⟩ := S1.unhide
  exact ⟨S2, ⟨.refl, by rw [← e1]; exact e2⟩, e3⟩
theorem Sim.newO (S : Sim K R ι O H) (h : H D = none) {o : HO} (r : RepO K ι (fz R ι O H) D p o) : Sim K R (ι ++ [D]) (O ++ [some p]) (upd H D o) ∧ Ext R ι O H (ι ++ [D]) (O ++ [some p]) (upd H D o) := by
  obtain ⟨S1, e1⟩ := S.hide_new h o
  obtain ⟨S2, e2⟩ := S1.own (p := p) (by rw [e1]; exact r)
  exact ⟨S2, ⟨.app, by rw [e2, e1]; exact same_refl⟩⟩
theorem Sim.change (S : Sim K R ι O H) (hn : ι[n]? = some a) (ho : O[n]? = some (some p)) {o' : HO} (r : RepO K ι (fz R ι O H) a p' o') : Sim K R ι (O.set n (some p')) (upd H a o') ∧ Ext R ι O H ι (O.set n (some p')) (upd H a o') := by
  obtain ⟨o, _, S1, e1, _⟩ := S.out hn ho
  obtain ⟨S2, e2⟩ := S1.hid_set o'
  have hl := (List.getElem?_eq_some_iff.mp ho).1
  obtain ⟨S3, e3⟩ := S2.put (n := n) (p := p') hn (by rw [List.getElem?_set_self hl]) (by rw [e2, e1]; exact r)
  rw [List.set_set] at S3 e3
  exact ⟨S3, ⟨.refl, by rw [e3, e2, e1]; exact same_refl⟩⟩
end
end Qx

/-! Own layer Q2: what an expression, a test, a statement computes on PVs, and that a reading follows from it. -/
namespace Qx
open PySem PySem.Spec PyProof.Rows L2 Gx
structure PExc where
  cls : PV
  ns : List Str
  ps : List PV
inductive PR (α : Type) where
  | ok (a : α) (O : Sto) | exc (e : PExc) (O : Sto) | bad
def PR.bind {α β : Type} (x : PR α) (g : α → Sto → PR β) : PR β := match x with
  | .ok a O => g a O
  | .exc e O => .exc e O
  | .bad => .bad
def RepX (K : PySem.W.Frag) (ι : List Addr) (G : Hp) (e : PExc) (c : Value) (d : Option Addr) : Prop :=
  (match e.cls with | .cls C => c = .ref (He.ga K C) | .ty n => c = .type n | _ => False) ∧
  ∃ xs, XD G d e.ns xs ∧ e.ns.length = e.ps.length ∧ RepL K ι G e.ps xs
abbrev EF := Slots → Sto → PR PV
abbrev TF := Slots → Sto → PR Bool
abbrev AF := Slots → Sto → PR (List PV)
def SlR (K : PySem.W.Frag) (ι : List Addr) (G : Hp) (σ : L2.St) (s : Slots) : Prop := s.length = σ.length ∧ ∀ (i : Nat) p, s[i]? = some (some p) → ∃ v, σ[i]? = some (some v) ∧ Rep K ι G p v
section
variable {K : PySem.W.Frag} {R : List (Addr × HO)} {ι ι1 : List Addr} {O O1 : Sto} {H H1 : Hp} {σ : L2.St} {s : Slots}
theorem SlR.ext (X : Ext R ι O H ι1 O1 H1) (L : SlR K ι (fz R ι O H) σ s) : SlR K ι1 (fz R ι1 O1 H1) σ s := ⟨L.1, fun i p e => let ⟨v, h1, h2⟩ := L.2 i p e; ⟨v, h1, X.rep h2⟩⟩
theorem SlR.set {G : Hp} {p : PV} {v : V} (n : Nat) (L : SlR K ι G σ s) (r : Rep K ι G p v) : SlR K ι G (σ.set n (some v)) (s.set n (some p)) := by
  refine ⟨by rw [List.length_set, List.length_set]; exact L.1, fun i q e => ?_⟩
  rw [List.getElem?_set] at e ⊢
  by_cases c : n = i
  · rw [if_pos c] at e ⊢
    rw [← L.1]
    by_cases d : n < s.length
    · rw [if_pos d] at e ⊢
      cases e
      exact ⟨v, rfl, r⟩
    · rw [if_neg d] at e; cases e
  · rw [if_neg c] at e ⊢
    exact L.2 i q e
theorem SlR.set0 {G : Hp} {x : Option V} (n : Nat) (L : SlR K ι G σ s) : SlR K ι G (σ.set n x) (s.set n none) := by
  refine ⟨by rw [List.length_set, List.length_set]; exact L.1, fun i q e => ?_⟩
  rw [List.getElem?_set] at e ⊢
  by_cases c : n = i
  · rw [if_pos c] at e
    split at e <;> cases e
  · rw [if_neg c] at e ⊢
    exact L.2 i q e
theorem SlR.start {G : Hp} {ps : List PV} {vs : List V} (h : RepL K ι G ps vs) (n : Nat) : SlR K ι G (vs.map some ++ List.replicate n none) (ps.map some ++ List.replicate n none) := by
  refine ⟨by simp [h.len], fun i p e => ?_⟩
  by_cases c : i < ps.length
  · rw [List.getElem?_append_left (by rw [List.length_map]; exact c), List.getElem?_map] at e
    rw [List.getElem?_append_left (by rw [List.length_map, h.len]; exact c), List.getElem?_map]
    cases q : ps[i]? with
    | none => rw [q] at e; cases e
    | some p' =>
      rw [q] at e
      cases e
      obtain ⟨v, h1, h2⟩ := h.get q
      exact ⟨v, by rw [h1]; rfl, h2⟩
  · rw [List.getElem?_append_right (by rw [List.length_map]; omega), List.getElem?_replicate] at e
    split at e <;> cases e
end
def Post {α β : Type} (K : PySem.W.Frag) (R : List (Addr × HO)) (E : Option XK) (rp : List Addr → Hp → α → β → Prop) (ι : List Addr) (O : Sto) (H : Hp) (Q : β → Hp → Prop) : PR α → Prop
  | .ok a O' => ∀ b ι' H', Sim K R ι' O' H' → Ext R ι O H ι' O' H' → rp ι' (fz R ι' O' H') a b → Q b H'
  | .exc e O' => ∃ E', E = some E' ∧ ∀ c d ι' H', Sim K R ι' O' H' → Ext R ι O H ι' O' H' → RepX K ι' (fz R ι' O' H') e c d → E' c d H'
  | .bad => False
section
variable {α β γ δ : Type} {K : PySem.W.Frag} {R : List (Addr × HO)} {E : Option XK} {rp : List Addr → Hp → α → β → Prop} {rp' : List Addr → Hp → γ → δ → Prop} {ι ι1 : List Addr} {O O1 : Sto} {H H1 : Hp} {Q : β → Hp → Prop}
theorem Post.of (X : Ext R ι O H ι1 O1 H1) {r : PR α} (h : Post K R E rp ι O H Q r) : Post K R E rp ι1 O1 H1 Q r := by
  cases r with
  | ok a O' => exact fun b ι' H' S Y q => h b ι' H' S (X.trans Y) q
  | exc e O' => obtain ⟨E', e1, h⟩ := h; exact ⟨E', e1, fun c d ι' H' S Y q => h c d ι' H' S (X.trans Y) q⟩
  | bad => exact h
theorem Post.bind {x : PR α} {g : α → Sto → PR γ} {Q' : δ → Hp → Prop} (h : Post K R E rp' ι O H Q' (x.bind g)) (k : ∀ a O1 b ι1 H1, Sim K R ι1 O1 H1 → Ext R ι O H ι1 O1 H1 → rp ι1 (fz R ι1 O1 H1) a b → Post K R E rp' ι1 O1 H1 Q' (g a O1) → Q b H1) : Post K R E rp ι O H Q x := by
  cases x with
  | ok a O' => exact fun b ι' H' S Y q => k a O' b ι' H' S Y q (Post.of Y h)
  | exc e O' => exact h
  | bad => exact h
theorem Post.here {a : α} {b : β} (h : Post K R E rp ι O H Q (.ok a O)) (S : Sim K R ι O H) (r : rp ι (fz R ι O H) a b) : Q b H := h b ι H S .refl r
theorem Post.at {a : α} {b : β} (h : Post K R E rp ι O H Q (.ok a O1)) (S : Sim K R ι1 O1 H1) (X : Ext R ι O H ι1 O1 H1) (r : rp ι1 (fz R ι1 O1 H1) a b) : Q b H1 := h b ι1 H1 S X r
end
abbrev XM := Option (L2.St → XK)
def xat (E : XM) (σ : L2.St) : Option XK := E.map fun e => e σ
/-! ### judgements -/
def SimE (K : PySem.W.Frag) (E : XM) (t : TE) (f : EF) : Prop := ∀ R ι O H σ s Q, Sim K R ι O H → SlR K ι (fz R ι O H) σ s → Post K R (xat E σ) (Rep K) ι O H Q (f s O) → t σ H Q
def SimT (K : PySem.W.Frag) (E : XM) (t : TT) (f : TF) : Prop := ∀ R ι O H σ s Q, Sim K R ι O H → SlR K ι (fz R ι O H) σ s → Post K R (xat E σ) (fun _ _ a b => a = b) ι O H Q (f s O) → t σ H Q
def SimA (K : PySem.W.Frag) (E : XM) (t : TA) (f : AF) : Prop := ∀ R ι O H σ s Q, Sim K R ι O H → SlR K ι (fz R ι O H) σ s → Post K R (xat E σ) (RepL K) ι O H Q (f s O) → t σ H Q
def OpS (K : PySem.W.Frag) (r : R2) (op : PV → PV → Sto → PR PV) : Prop := ∀ R ι O H p q x y E Q, Sim K R ι O H → Rep K ι (fz R ι O H) p x → Rep K ι (fz R ι O H) q y → Post K R E (Rep K) ι O H Q (op p q O) → r x y H Q
def CbS (K : PySem.W.Frag) (r : List V → Hp → VK → Prop) (f : List PV → Sto → PR PV) : Prop := ∀ R ι O H ps xs E Q, Sim K R ι O H → RepL K ι (fz R ι O H) ps xs → Post K R E (Rep K) ι O H Q (f ps O) → r xs H Q
/-! ### expressions -/
def eVar (i : Nat) : EF := fun s O => match s[i]? with
  | some (some p) => .ok p O
  | _ => .bad
def eC (p : PV) : EF := fun _ O => .ok p O
def eOp (op : PV → PV → Sto → PR PV) (a b : EF) : EF := fun s O => (a s O).bind fun p O1 => (b s O1).bind fun q O2 => op p q O2
def eUn (op : PV → Sto → PR PV) (a : EF) : EF := fun s O => (a s O).bind op
def aNil : AF := fun _ O => .ok [] O
def aCons (a : EF) (r : AF) : AF := fun s O => (a s O).bind fun p O1 => (r s O1).bind fun ps O2 => .ok (p :: ps) O2
def eCB (f : List PV → Sto → PR PV) (a : AF) : EF := fun s O => (a s O).bind f
def szOk (n : Nat) : Bool := decide (n ≤ sizeLine)
def szLt (n : Nat) : Bool := decide (n < sizeLine)
def eTup (a : AF) : EF := fun s O => (a s O).bind fun ps O1 => if szOk ps.length = true then .ok (.tup ps) O1 else .bad
def eLst (a : AF) : EF := fun s O => (a s O).bind fun ps O1 => if szOk ps.length = true then .ok (.lst ps) O1 else .bad
def eLstO (a : AF) : EF := fun s O => (a s O).bind fun ps O1 => if szOk ps.length = true then .ok (.loc O1.length) (O1 ++ [some (.lst ps)]) else .bad
def tTst (a : EF) : TF := fun s O => (a s O).bind fun p O1 => match p with
  | .bl b => .ok b O1
  | _ => .bad
def tAndP (a b : TF) : TF := fun s O => (a s O).bind fun c O1 => if c = true then b s O1 else .ok false O1
def tOrP (a b : TF) : TF := fun s O => (a s O).bind fun c O1 => if c = true then .ok true O1 else b s O1
def tNotP (a : TF) : TF := fun s O => (a s O).bind fun c O1 => .ok (!c) O1
def eAnd (a b : EF) : EF := fun s O => (a s O).bind fun p O1 => match p with
  | .bl c => if c = true then b s O1 else .ok (.bl false) O1
  | _ => .bad
def eOr (a b : EF) : EF := fun s O => (a s O).bind fun p O1 => match p with
  | .bl c => if c = true then .ok (.bl true) O1 else b s O1
  | _ => .bad
def eNot (a : EF) : EF := fun s O => (a s O).bind fun p O1 => match p with
  | .bl c => .ok (.bl (!c)) O1
  | _ => .bad
def eIf (c : TF) (a b : EF) : EF := fun s O => (c s O).bind fun k O1 => if k = true then a s O1 else b s O1
def eChain (o1 o2 : PV → PV → Sto → PR PV) (a b c : EF) : EF := fun s O => (a s O).bind fun p O1 => (b s O1).bind fun q O2 => (o1 p q O2).bind fun z O3 => match z with
  | .bl k => if k = true then (c s O3).bind fun r O4 => o2 q r O4 else .ok (.bl false) O3
  | _ => .bad
section
variable {K : PySem.W.Frag} {E : XM} {ta tb tc : TE} {fa fb fc : EF} {tA tB' : TA} {gA gB : AF} {t u : TT} {f g : TF} {r r' : R2} {op op' : PV → PV → Sto → PR PV}
theorem sim_var {i : Nat} : SimE K E (tVar i) (eVar i) := by
  intro R ι O H σ s Q S L h
  unfold eVar at h
  cases e : s[i]? with
  | none => rw [e] at h; exact h.elim
  | some x =>
    cases x with
    | none => rw [e] at h; exact h.elim
    | some p =>
      rw [e] at h
      obtain ⟨v, h1, h2⟩ := L.2 i p e
      exact ⟨v, h1, h.here S h2⟩
theorem sim_c {v : V} {p : PV} (hr : ∀ ι G, Rep K ι G p v) : SimE K E (tC v) (eC p) := fun R ι O H σ s Q S L h => h.here S (hr _ _)
theorem sim_int {i : Int} : SimE K E (tC (.int i)) (eC (.int i)) := sim_c fun _ _ => rfl
theorem sim_bl {b : Bool} : SimE K E (tC (.bl b)) (eC (.bl b)) := sim_c fun _ _ => rfl
theorem sim_non : SimE K E (tC .non) (eC .non) := sim_c fun _ _ => rfl
theorem sim_str {z : Str} : SimE K E (tC (.str z)) (eC (.str z)) := sim_c fun _ _ => rfl
theorem sim_ty {n : String} : SimE K E (tC (.ty n)) (eC (.ty n)) := sim_c fun _ _ => rfl
theorem sim_cls {C : Str} : SimE K E (tC (.ref (He.ga K C))) (eC (.cls C)) := sim_c fun _ _ => rfl
theorem sim_op (ho : OpS K r op) (ha : SimE K E ta fa) (hb : SimE K E tb fb) : SimE K E (tOp r ta tb) (eOp op fa fb) := fun R ι O H σ s Q S L h =>
  ha R ι O H σ s _ S L (h.bind fun p O1 x ι1 H1 S1 X1 r1 h1 => hb R ι1 O1 H1 σ s _ S1 (L.ext X1) (h1.bind fun q O2 y ι2 H2 S2 X2 r2 h2 => ho R ι2 O2 H2 p q x y _ _ S2 (X2.rep r1) r2 h2))
theorem sim_nil : SimA K E tNil aNil := fun R ι O H σ s Q S L h => h.here S rfl
theorem sim_cons (ha : SimE K E ta fa) (hA : SimA K E tA gA) : SimA K E (tCons ta tA) (aCons fa gA) := fun R ι O H σ s Q S L h =>
  ha R ι O H σ s _ S L (h.bind fun p O1 x ι1 H1 S1 X1 r1 h1 => hA R ι1 O1 H1 σ s _ S1 (L.ext X1) (h1.bind fun ps O2 xs ι2 H2 S2 X2 r2 h2 => h2.here S2 (RepL.consR (X2.rep r1) r2)))
theorem sim_cb {r : List V → Hp → VK → Prop} {c : List PV → Sto → PR PV} (hc : CbS K r c) (hA : SimA K E tA gA) : SimE K E (tCB r tA) (eCB c gA) := fun R ι O H σ s Q S L h =>
  hA R ι O H σ s _ S L (h.bind fun ps O1 xs ι1 H1 S1 X1 r1 h1 => hc R ι1 O1 H1 ps xs _ _ S1 r1 h1)
theorem szOk_le {n : Nat} (h : szOk n = true) : n ≤ sizeLine := of_decide_eq_true h
theorem szLt_lt {n : Nat} (h : szLt n = true) : n < sizeLine := of_decide_eq_true h
theorem sim_tup (hA : SimA K E tA gA) : SimE K E (tTup tA) (eTup gA) := fun R ι O H σ s Q S L h =>
  hA R ι O H σ s _ S L (h.bind fun ps O1 xs ι1 H1 S1 X1 r1 h1 => by
    split at h1
    · rename_i c
      refine ⟨by rw [r1.len]; exact szOk_le c, fun p hp => ?_⟩
      obtain ⟨S2, X2, e2⟩ := S1.newF hp (.tup xs)
      exact h1.at S2 X2 ⟨p, xs, rfl, SqT.of e2, X2.repL r1⟩
    · exact h1.elim)
theorem sim_lst (hA : SimA K E tA gA) : SimE K E (tLst tA) (eLst gA) := fun R ι O H σ s Q S L h =>
  hA R ι O H σ s _ S L (h.bind fun ps O1 xs ι1 H1 S1 X1 r1 h1 => by
    split at h1
    · rename_i c
      refine ⟨by rw [r1.len]; exact szOk_le c, fun p hp => ?_⟩
      obtain ⟨S2, X2, e2⟩ := S1.newF hp (.lst xs)
      exact h1.at S2 X2 ⟨p, xs, rfl, e2, X2.repL r1⟩
    · exact h1.elim)
theorem new_at {ι : List Addr} {O : Sto} {D : Addr} (h : ι.length = O.length) : (ι ++ [D])[O.length]? = some D := by
  rw [List.getElem?_append_right (by omega), h]
  simp
theorem sim_lstO (hA : SimA K E tA gA) : SimE K E (tLst tA) (eLstO gA) := fun R ι O H σ s Q S L h =>
  hA R ι O H σ s _ S L (h.bind fun ps O1 xs ι1 H1 S1 X1 r1 h1 => by
    split at h1
    · rename_i c
      refine ⟨by rw [r1.len]; exact szOk_le c, fun p hp => ?_⟩
      obtain ⟨S2, X2⟩ := S1.newO (p := .lst ps) hp (o := .lst xs) ⟨xs, rfl, r1⟩
      exact h1.at S2 X2 ⟨p, rfl, new_at S1.len⟩
    · exact h1.elim)
theorem sim_test (ha : SimE K E ta fa) : SimT K E (tTest ta) (tTst fa) := fun R ι O H σ s Q S L h =>
  ha R ι O H σ s _ S L (h.bind fun p O1 x ι1 H1 S1 X1 r1 h1 => by
    cases p with
    | bl b => exact ⟨b, r1, h1.here S1 rfl⟩
    | _ => exact h1.elim)
theorem sim_B (ha : SimE K E ta fa) : SimT K E (tB ta) (tTst fa) := fun R ι O H σ s Q S L h => sim_test ha R ι O H σ s Q S L h
theorem sim_and (ha : SimT K E t f) (hb : SimT K E u g) : SimT K E (tAnd t u) (tAndP f g) := fun R ι O H σ s Q S L h =>
  ha R ι O H σ s _ S L (h.bind fun c O1 c' ι1 H1 S1 X1 e h1 => by
    subst e
    cases c with
    | true => exact hb R ι1 O1 H1 σ s _ S1 (L.ext X1) h1
    | false => exact h1.here S1 rfl)
theorem sim_or (ha : SimT K E t f) (hb : SimT K E u g) : SimT K E (tOr t u) (tOrP f g) := fun R ι O H σ s Q S L h =>
  ha R ι O H σ s _ S L (h.bind fun c O1 c' ι1 H1 S1 X1 e h1 => by
    subst e
    cases c with
    | false => exact hb R ι1 O1 H1 σ s _ S1 (L.ext X1) h1
    | true => exact h1.here S1 rfl)
theorem sim_not (ha : SimT K E t f) : SimT K E (tNot t) (tNotP f) := fun R ι O H σ s Q S L h =>
  ha R ι O H σ s _ S L (h.bind fun c O1 c' ι1 H1 S1 X1 e h1 => by
    subst e
    exact h1.here S1 rfl)
theorem sim_yes : SimT K E tYes (fun _ O => .ok true O) := fun R ι O H σ s Q S L h => h.here S rfl
theorem sim_andV (ha : SimE K E ta fa) (hb : SimE K E tb fb) : SimE K E (tAndV ta tb) (eAnd fa fb) := fun R ι O H σ s Q S L h =>
  ha R ι O H σ s _ S L (h.bind fun p O1 x ι1 H1 S1 X1 r1 h1 => by
    cases p with
    | bl c =>
      refine ⟨c, r1, ?_⟩
      cases c with
      | true => exact hb R ι1 O1 H1 σ s _ S1 (L.ext X1) h1
      | false => exact h1.here S1 rfl
    | _ => exact h1.elim)
theorem sim_orV (ha : SimE K E ta fa) (hb : SimE K E tb fb) : SimE K E (tOrV ta tb) (eOr fa fb) := fun R ι O H σ s Q S L h =>
  ha R ι O H σ s _ S L (h.bind fun p O1 x ι1 H1 S1 X1 r1 h1 => by
    cases p with
    | bl c =>
      refine ⟨c, r1, ?_⟩
      cases c with
      | false => exact hb R ι1 O1 H1 σ s _ S1 (L.ext X1) h1
      | true => exact h1.here S1 rfl
    | _ => exact h1.elim)
theorem sim_notV (ha : SimE K E ta fa) : SimE K E (tNotV ta) (eNot fa) := fun R ι O H σ s Q S L h =>
  ha R ι O H σ s _ S L (h.bind fun p O1 x ι1 H1 S1 X1 r1 h1 => by
    cases p with
    | bl c => exact ⟨c, r1, h1.here S1 rfl⟩
    | _ => exact h1.elim)
theorem sim_if (hc : SimT K E t f) (ha : SimE K E ta fa) (hb : SimE K E tb fb) : SimE K E (tIf t ta tb) (eIf f fa fb) := fun R ι O H σ s Q S L h =>
  hc R ι O H σ s _ S L (h.bind fun c O1 c' ι1 H1 S1 X1 e h1 => by
    subst e
    cases c with
    | true => exact ha R ι1 O1 H1 σ s _ S1 (L.ext X1) h1
    | false => exact hb R ι1 O1 H1 σ s _ S1 (L.ext X1) h1)
theorem sim_chain (h1 : OpS K r op) (h2 : OpS K r' op') (ha : SimE K E ta fa) (hb : SimE K E tb fb) (hc : SimE K E tc fc) : SimE K E (tChain r r' ta tb tc) (eChain op op' fa fb fc) := fun R ι O H σ s Q S L h => by
  unfold tChain
  refine ha R ι O H σ s _ S L (h.bind fun p O1 x ι1 H1 S1 X1 r1 k1 => hb R ι1 O1 H1 σ s _ S1 (L.ext X1) (k1.bind fun q O2 y ι2 H2 S2 X2 r2 k2 => h1 R ι2 O2 H2 p q x y _ _ S2 (X2.rep r1) r2 (k2.bind fun z O3 z' ι3 H3 S3 X3 r3 k3 => ?_)))
  cases z with
  | bl k =>
    refine ⟨k, r3, ?_⟩
    cases k with
    | true => exact hc R ι3 O3 H3 σ s _ S3 (L.ext (X1.trans (X2.trans X3))) (k3.bind fun w O4 w' ι4 H4 S4 X4 r4 k4 => h2 R ι4 O4 H4 q w y w' _ _ S4 ((X3.trans X4).rep r2) r4 k4)
    | false => exact k3.here S3 rfl
  | _ => exact k3.elim
end
/-! ### statements -/
inductive SR where
  | next (s : Slots) (O : Sto) | ret (p : PV) (O : Sto) | brk (s : Slots) (O : Sto) | cnt (s : Slots) (O : Sto) | exc (e : PExc) (s : Slots) (O : Sto) | bad
abbrev SF := Slots → Sto → SR
def PR.toS {α : Type} (r : PR α) (s : Slots) (k : α → Sto → SR) : SR := match r with
  | .ok a O => k a O
  | .exc e O => .exc e s O
  | .bad => .bad
def SR.bind (r : SR) (k : SF) : SR := match r with
  | .next s O => k s O
  | r => r
def PostS (K : PySem.W.Frag) (R : List (Addr × HO)) (E : XM) (ι : List Addr) (O : Sto) (H : Hp) (D : Ends) : SR → Prop
  | .next s O' => ∀ σ' ι' H', Sim K R ι' O' H' → Ext R ι O H ι' O' H' → SlR K ι' (fz R ι' O' H') σ' s → D.nx σ' H'
  | .ret p O' => ∀ v ι' H', Sim K R ι' O' H' → Ext R ι O H ι' O' H' → Rep K ι' (fz R ι' O' H') p v → D.rt v H'
  | .brk s O' => ∀ σ' ι' H', Sim K R ι' O' H' → Ext R ι O H ι' O' H' → SlR K ι' (fz R ι' O' H') σ' s → D.bk σ' H'
  | .cnt s O' => ∀ σ' ι' H', Sim K R ι' O' H' → Ext R ι O H ι' O' H' → SlR K ι' (fz R ι' O' H') σ' s → D.ct σ' H'
  | .exc e s O' => ∃ E', E = some E' ∧ ∀ σ' c d ι' H', Sim K R ι' O' H' → Ext R ι O H ι' O' H' → SlR K ι' (fz R ι' O' H') σ' s → RepX K ι' (fz R ι' O' H') e c d → E' σ' c d H'
  | .bad => False
def SimS (K : PySem.W.Frag) (E : XM) (t : TS) (g : SF) : Prop := ∀ R ι O H σ s D, Sim K R ι O H → SlR K ι (fz R ι O H) σ s → PostS K R E ι O H D (g s O) → t D σ H
abbrev GF := PV → Slots → Sto → PR Slots
def SimG (K : PySem.W.Frag) (E : XM) (g : TG) (f : GF) : Prop := ∀ R ι O H σ s p x Q, Sim K R ι O H → SlR K ι (fz R ι O H) σ s → Rep K ι (fz R ι O H) p x → Post K R (xat E σ) (fun ι G s σ => SlR K ι G σ s) ι O H Q (f p s O) → g x σ H Q
section
variable {α β : Type} {K : PySem.W.Frag} {R : List (Addr × HO)} {E : XM} {rp : List Addr → Hp → α → β → Prop} {ι ι1 : List Addr} {O O1 : Sto} {H H1 : Hp} {D : Ends} {σ : L2.St} {s : Slots}
theorem PostS.of (X : Ext R ι O H ι1 O1 H1) {r : SR} (h : PostS K R E ι O H D r) : PostS K R E ι1 O1 H1 D r := by
  cases r with
  | next s O' => exact fun σ' ι' H' S Y q => h σ' ι' H' S (X.trans Y) q
  | ret p O' => exact fun v ι' H' S Y q => h v ι' H' S (X.trans Y) q
  | brk s O' => exact fun σ' ι' H' S Y q => h σ' ι' H' S (X.trans Y) q
  | cnt s O' => exact fun σ' ι' H' S Y q => h σ' ι' H' S (X.trans Y) q
  | exc e s O' => obtain ⟨E', e1, h⟩ := h; exact ⟨E', e1, fun σ' c d ι' H' S Y l q => h σ' c d ι' H' S (X.trans Y) l q⟩
  | bad => exact h
theorem PostS.lift {r : PR α} {k : α → Sto → SR} {Q : β → Hp → Prop} (h : PostS K R E ι O H D (r.toS s k)) (L : SlR K ι (fz R ι O H) σ s) (kk : ∀ a O1 b ι1 H1, Sim K R ι1 O1 H1 → Ext R ι O H ι1 O1 H1 → rp ι1 (fz R ι1 O1 H1) a b → PostS K R E ι1 O1 H1 D (k a O1) → Q b H1) : Post K R (xat E σ) rp ι O H Q r := by
  cases r with
  | ok a O' => exact fun b ι' H' S Y q => kk a O' b ι' H' S Y q (PostS.of Y h)
  | exc e O' =>
    obtain ⟨E', e1, h⟩ := h
    exact ⟨E' σ, by rw [e1]; rfl, fun c d ι' H' S Y q => h σ c d ι' H' S Y (L.ext Y) q⟩
  | bad => exact h
theorem PostS.bind {r : SR} {k : SF} {nx : L2.St → Hp → Prop} (h : PostS K R E ι O H D (r.bind k)) (kk : ∀ s1 O1 σ1 ι1 H1, Sim K R ι1 O1 H1 → Ext R ι O H ι1 O1 H1 → SlR K ι1 (fz R ι1 O1 H1) σ1 s1 → PostS K R E ι1 O1 H1 D (k s1 O1) → nx σ1 H1) : PostS K R E ι O H { D with nx := nx } r := by
  cases r with
  | next s O' => exact fun σ' ι' H' S Y q => kk s O' σ' ι' H' S Y q (PostS.of Y h)
  | ret p O' => exact h
  | brk s O' => exact h
  | cnt s O' => exact h
  | exc e s O' => exact h
  | bad => exact h
end
def sSkip : SF := fun s O => .next s O
def sSeq (a b : SF) : SF := fun s O => (a s O).bind b
def sRet (f : EF) : SF := fun s O => (f s O).toS s fun p O1 => .ret p O1
def sRetN : SF := fun s O => .ret .non O
def sExp (f : EF) : SF := fun s O => (f s O).toS s fun _ O1 => .next s O1
def sIf (c : TF) (a b : SF) : SF := fun s O => (c s O).toS s fun k O1 => if k = true then a s O1 else b s O1
def sAsg (f : EF) (g : GF) : SF := fun s O => (f s O).toS s fun p O1 => (g p s O1).toS s fun s' O2 => .next s' O2
def gNm (i : Nat) : GF := fun p s O => .ok (s.set i (some p)) O
section
variable {K : PySem.W.Frag} {E : XM} {ta tb tc : TE} {fa fb fc : EF} {t : TT} {c : TF} {tS uS : TS} {f g : SF} {G : TG} {gf : GF}
theorem sim_next : SimS K E tNext sSkip := fun R ι O H σ s D S L h => h σ ι H S .refl L
theorem sim_seq (ha : SimS K E tS f) (hb : SimS K E uS g) : SimS K E (tSeq tS uS) (sSeq f g) := fun R ι O H σ s D S L h =>
  ha R ι O H σ s _ S L (h.bind fun s1 O1 σ1 ι1 H1 S1 X1 L1 h1 => hb R ι1 O1 H1 σ1 s1 D S1 L1 h1)
theorem sim_ret (ha : SimE K E ta fa) : SimS K E (tRet ta) (sRet fa) := fun R ι O H σ s D S L h =>
  ha R ι O H σ s _ S L (h.lift L fun p O1 v ι1 H1 S1 X1 r1 h1 => h1 v ι1 H1 S1 .refl r1)
theorem sim_exp (ha : SimE K E ta fa) : SimS K E (tDrop ta) (sExp fa) := fun R ι O H σ s D S L h =>
  ha R ι O H σ s _ S L (h.lift L fun p O1 v ι1 H1 S1 X1 r1 h1 => h1 σ ι1 H1 S1 .refl (L.ext X1))
theorem sim_ifS (hc : SimT K E t c) (ha : SimS K E tS f) (hb : SimS K E uS g) : SimS K E (tIfS t tS uS) (sIf c f g) := fun R ι O H σ s D S L h =>
  hc R ι O H σ s _ S L (h.lift L fun k O1 k' ι1 H1 S1 X1 e h1 => by
    subst e
    cases k with
    | true => exact ha R ι1 O1 H1 σ s D S1 (L.ext X1) h1
    | false => exact hb R ι1 O1 H1 σ s D S1 (L.ext X1) h1)
theorem sim_asg (ha : SimE K E ta fa) (hg : SimG K E G gf) : SimS K E (tAsg ta G) (sAsg fa gf) := fun R ι O H σ s D S L h =>
  ha R ι O H σ s _ S L (h.lift L fun p O1 v ι1 H1 S1 X1 r1 h1 => hg R ι1 O1 H1 σ s p v _ S1 (L.ext X1) r1 (h1.lift (L.ext X1) fun s2 O2 σ2 ι2 H2 S2 X2 L2 h2 => h2 σ2 ι2 H2 S2 .refl L2))
theorem sim_nm {i : Nat} : SimG K E (gName i) (gNm i) := fun R ι O H σ s p x Q S L r h => h.here S (L.set i r)
end
/-! ### defs -/
def mkDef (n N : Nat) (body : SF) (ps : List PV) (O : Sto) : PR PV :=
  if ps.length = n then match body (ps.map some ++ List.replicate (N - n) none) O with
    | .ret p O' => .ok p O'
    | .next _ O' => .ok .non O'
    | .exc e _ O' => .exc e O'
    | _ => .bad
  else .bad
abbrev MF := List PV → Sto → PR PV
def spM (K : PySem.W.Frag) (x : Bool) (m : MF) : Sp := fun vs H Q E => ∃ R ι O ps, Sim K R ι O H ∧ RepL K ι (fz R ι O H) ps vs ∧ Post K R (if x = true then some E else none) (Rep K) ι O H Q (m ps O)
theorem spM_len {K : PySem.W.Frag} {x : Bool} {n N : Nat} {body : SF} {vs : List V} {H : Hp} {Q : VK} {E : XK} (h : spM K x (mkDef n N body) vs H Q E) : vs.length = n := by
  obtain ⟨R, ι, O, ps, S, r, h⟩ := h
  unfold mkDef at h
  by_cases c : ps.length = n
  · rw [r.len]; exact c
  · rw [if_neg c] at h; exact h.elim
theorem spM_run {K : PySem.W.Frag} {n : Nat} {N : List Str} {body : SF} {vs : List V} {H : Hp} {Q : VK} {E : XK} {t : TS} (hs : SimS K none t body) (h : spM K false (mkDef n N.length body) vs H Q E) : t { nx := fun _ H => Q .non H, rt := Q } (L2.start N vs) H := by
  have hl := spM_len h
  obtain ⟨R, ι, O, ps, S, r, h⟩ := h
  unfold mkDef at h
  have hp : ps.length = n := by rw [← r.len]; exact hl
  rw [if_pos hp] at h
  have e : L2.start N vs = vs.map some ++ List.replicate (N.length - n) none := by unfold L2.start; rw [hl]
  rw [e]
  refine hs R ι O H _ (ps.map some ++ List.replicate (N.length - n) none) _ S (SlR.start r _) ?_
  cases q : body (ps.map some ++ List.replicate (N.length - n) none) O with
  | next s O' => rw [q] at h; exact fun σ' ι' H' S' X' L' => h .non ι' H' S' X' rfl
  | ret p O' => rw [q] at h; exact h
  | exc e s O' => rw [q] at h; obtain ⟨E', e1, _⟩ := h; cases e1
  | _ => rw [q] at h; exact h.elim
def eCall (m : MF) (dps : List PV) (a : AF) : EF := fun s O => (a s O).bind fun ps O1 => m (ps ++ dps) O1
def eCallK (m : MF) (n k : Nat) (gP : List PV → List PV → List PV) (a z : AF) : EF := fun s O => (a s O).bind fun ps O1 => (z s O1).bind fun zs O2 => if ps.length = n ∧ zs.length = k then m (gP ps zs) O2 else .bad
section
variable {K : PySem.W.Frag} {E : XM} {tA tZ : TA} {fA fZ : AF} {m : MF} {dps : List PV} {dvs : List V}
theorem sim_call (hA : SimA K none tA fA) (hd : ∀ ι G, RepL K ι G dps dvs) : SimE K none (tCall (spM K false m) dvs E0 tA) (eCall m dps fA) := fun R ι O H σ s Q S L h =>
  hA R ι O H σ s _ S L (h.bind fun ps O1 xs ι1 H1 S1 X1 r1 h1 => ⟨R, ι1, O1, ps ++ dps, S1, r1.app (hd _ _), h1⟩)
end
end Qx

/-! Own layer Q3: operators, lists, tuples, fields, methods, new instances. -/
namespace Qx
open PySem PySem.Spec PyProof.Rows L2 Gx
/-! ### what a PV is, with the store -/
def lstOf (O : Sto) : PV → Option (List PV)
  | .lst ps => some ps
  | .rol ps => some ps
  | .loc n => match O[n]? with
    | some (some (.lst ps)) => some ps
    | _ => none
  | _ => none
def lstT (O : Sto) : PV → Option (List PV)
  | .lst ps => some ps
  | .loc n => match O[n]? with
    | some (some (.lst ps)) => some ps
    | _ => none
  | _ => none
def tupOf : PV → Option (List PV)
  | .tup ps => some ps
  | .xtp ps => some ps
  | _ => none
def insOf (O : Sto) : PV → Option (Str × List Str × List PV)
  | .ins C ns ps => some (C, ns, ps)
  | .loc n => match O[n]? with
    | some (some (.ins C ns ps)) => some (C, ns, ps)
    | _ => none
  | _ => none
section
variable {K : PySem.W.Frag} {R : List (Addr × HO)} {ι : List Addr} {O : Sto} {H : Hp} {p : PV} {x : V} {ps : List PV}
theorem lstT_read (S : Sim K R ι O H) (r : Rep K ι (fz R ι O H) p x) (e : lstT O p = some ps) : ∃ a xs, x = .ref a ∧ H a = some (.lst xs) ∧ RepL K ι (fz R ι O H) ps xs := by
  cases p with
  | lst qs =>
    obtain ⟨a, xs, h1, h2, h3⟩ := r
    cases e
    exact ⟨a, xs, h1, S.frozen _ _ h2, h3⟩
  | loc n =>
    obtain ⟨a, h1, h2⟩ := r
    unfold lstT at e
    cases q : O[n]? with
    | none => simp [q] at e
    | some y =>
      cases y with
      | none => simp [q] at e
      | some z =>
        cases z with
        | lst qs =>
          simp only [q, Option.some.injEq] at e
          subst e
          obtain ⟨o, h3, xs, h4, h5⟩ := S.obj n a _ h2 q
          subst h4
          exact ⟨a, xs, h1, h3, h5⟩
        | _ => simp [q] at e
  | _ => cases e
theorem lst_read (S : Sim K R ι O H) (r : Rep K ι (fz R ι O H) p x) (e : lstOf O p = some ps) : ∃ a xs, x = .ref a ∧ SqL K H a xs ∧ RepL K ι (fz R ι O H) ps xs := by
  cases p with
  | rol qs =>
    obtain ⟨a, xs, h1, h2, h3⟩ := r
    cases e
    exact ⟨a, xs, h1, S.frozen.seq h2, h3⟩
  | lst qs =>
    obtain ⟨a, xs, h1, h2, h3⟩ := lstT_read S r (ps := ps) e
    exact ⟨a, xs, h1, SqL.of h2, h3⟩
  | loc n =>
    obtain ⟨a, xs, h1, h2, h3⟩ := lstT_read S r (ps := ps) e
    exact ⟨a, xs, h1, SqL.of h2, h3⟩
  | _ => cases e
theorem tup_read (S : Sim K R ι O H) (r : Rep K ι (fz R ι O H) p x) (e : tupOf p = some ps) : ∃ a xs, x = .ref a ∧ SqT K H a xs ∧ RepL K ι (fz R ι O H) ps xs := by
  cases p with
  | tup qs =>
    obtain ⟨a, xs, h1, h2, h3⟩ := r
    cases e
    exact ⟨a, xs, h1, sqt_same S.frozen h2, h3⟩
  | xtp qs =>
    obtain ⟨⟨a, xs, h1, h2, h3⟩, _⟩ := r
    cases e
    exact ⟨a, xs, h1, sqt_same S.frozen h2, h3⟩
  | _ => cases e
theorem ins_read {C : Str} {ns : List Str} (S : Sim K R ι O H) (r : Rep K ι (fz R ι O H) p x) (e : insOf O p = some (C, ns, ps)) : ∃ a dx xs, x = .ref a ∧ H a = some (.ins (He.ga K C) dx (ns.zip xs)) ∧ ns.length = ps.length ∧ RepL K ι (fz R ι O H) ps xs := by
  cases p with
  | ins C' ns' qs =>
    obtain ⟨a, dx, xs, h1, h2, h3, h4⟩ := r
    cases e
    exact ⟨a, dx, xs, h1, S.frozen _ _ h2, h3, h4⟩
  | loc n =>
    obtain ⟨a, h1, h2⟩ := r
    unfold insOf at e
    cases q : O[n]? with
    | none => simp [q] at e
    | some y =>
      cases y with
      | none => simp [q] at e
      | some z =>
        cases z with
        | ins C' ns' qs =>
          simp only [q, Option.some.injEq, Prod.mk.injEq] at e
          obtain ⟨rfl, rfl, rfl⟩ := e
          obtain ⟨o, h3, dx, xs, h4, h5, h6⟩ := S.obj n a _ h2 q
          subst h4
          exact ⟨a, dx, xs, h1, h3, h5, h6⟩
        | _ => simp [q] at e
  | _ => cases e
end
theorem zip_lookup {K : PySem.W.Frag} {ι : List Addr} {G : Hp} {f : Str} : ∀ {ns : List Str} {ps : List PV} {xs : List V}, RepL K ι G ps xs → (∀ p, (ns.zip ps).lookup f = some p → ∃ x, (ns.zip xs).lookup f = some x ∧ Rep K ι G p x) ∧ ((ns.zip ps).lookup f = none → (ns.zip xs).lookup f = none)
  | [], _, _, _ => ⟨fun p e => by simp at e, fun _ => rfl⟩
  | _ :: _, [], xs, h => by rw [show xs = [] from h]; exact ⟨fun p e => by simp at e, fun _ => by simp⟩
  | n :: ns, p :: ps, _, ⟨x, r, e, h2, h3⟩ => by
    subst e
    simp only [List.zip_cons_cons, List.lookup_cons]
    cases c : (f == n) with
    | true => exact ⟨fun q e => by cases e; exact ⟨x, rfl, h2⟩, fun e => by cases e⟩
    | false => exact zip_lookup h3
/-! ### whole numbers -/
def i2 (c : Int → Int → Bool) (g : Int → Int → PV) (p q : PV) (O : Sto) : PR PV := match p, q with
  | .int i, .int j => if c i j = true then .ok (g i j) O else .bad
  | _, _ => .bad
def i20 (g : Int → Int → PV) (p q : PV) (O : Sto) : PR PV := match p, q with
  | .int i, .int j => .ok (g i j) O
  | _, _ => .bad
theorem os_i0 {K : PySem.W.Frag} {g : Int → Int → PV} {g' : Int → Int → V} (h : ∀ i j ι G, Rep K ι G (g i j) (g' i j)) : OpS K (rI0 g') (i20 g) := by
  intro R ι O H p q x y E Q S r1 r2 h1
  cases p <;> cases q <;> first | exact h1.elim | skip
  rename_i i j
  exact ⟨i, j, r1, r2, h1.here S (h _ _ _ _)⟩
theorem os_i {K : PySem.W.Frag} {c : Int → Int → Bool} {C : Int → Int → Prop} {g : Int → Int → PV} {g' : Int → Int → V} (hc : ∀ i j, c i j = true → C i j) (h : ∀ i j ι G, Rep K ι G (g i j) (g' i j)) : OpS K (rI C g') (i2 c g) := by
  intro R ι O H p q x y E Q S r1 r2 h1
  cases p <;> cases q <;> first | exact h1.elim | skip
  rename_i i j
  unfold i2 at h1
  by_cases e : c i j = true
  · simp only [e, if_true] at h1
    exact ⟨i, j, r1, r2, hc _ _ e, h1.here S (h _ _ _ _)⟩
  · simp only [e] at h1
    exact h1.elim
def mulOk (i j : Int) : Bool := decide ((-(2 ^ 64) < i ∧ i < 2 ^ 64) ∨ (-(2 ^ 64) < j ∧ j < 2 ^ 64))
def divOk (i j : Int) : Bool := decide (0 < j ∧ j < 1073741824)
def powOk (i j : Int) : Bool := decide (0 ≤ j ∧ j ≤ 1000000 ∧ i.natAbs < 2 ^ 64)
def addI := i20 fun i j => .int (i + j)
def subI := i20 fun i j => .int (i - j)
def mulI := i2 mulOk fun i j => .int (i * j)
def fdivI := i2 divOk fun i j => .int (i / j)
def modI := i2 (fun _ j => decide (0 < j)) fun i j => .int (i % j)
def powI := i2 powOk fun i j => .int (i ^ j.toNat)
def ltI := i20 fun i j => .bl (decide (i < j))
def leI := i20 fun i j => .bl (decide (i ≤ j))
def gtI := i20 fun i j => .bl (decide (j < i))
def geI := i20 fun i j => .bl (decide (j ≤ i))
def negI (p : PV) (O : Sto) : PR PV := match p with
  | .int i => .ok (.int (-i)) O
  | _ => .bad
section
variable {K : PySem.W.Frag}
theorem os_add : OpS K (rI0 fun i j => .int (i + j)) addI := os_i0 fun _ _ _ _ => rfl
theorem os_sub : OpS K (rI0 fun i j => .int (i - j)) subI := os_i0 fun _ _ _ _ => rfl
theorem os_mul : OpS K (rI CMul fun i j => .int (i * j)) mulI := os_i (fun _ _ h => by unfold mulOk at h; have e := of_decide_eq_true h; exact e) fun _ _ _ _ => rfl
theorem os_fdiv : OpS K (rI CDiv fun i j => .int (i / j)) fdivI := os_i (fun _ _ h => by unfold divOk at h; have e := of_decide_eq_true h; exact e) fun _ _ _ _ => rfl
theorem os_mod : OpS K (rI (fun _ j => 0 < j) fun i j => .int (i % j)) modI := os_i (fun _ _ h => of_decide_eq_true h) fun _ _ _ _ => rfl
theorem os_pow : OpS K (rI CPow fun i j => .int (i ^ j.toNat)) powI := os_i (fun _ _ h => by unfold powOk at h; have e := of_decide_eq_true h; exact e) fun _ _ _ _ => rfl
theorem os_lt : OpS K (rI0 fun i j => .bl (decide (i < j))) ltI := os_i0 fun _ _ _ _ => rfl
theorem os_le : OpS K (rI0 fun i j => .bl (decide (i ≤ j))) leI := os_i0 fun _ _ _ _ => rfl
theorem os_gt : OpS K (rI0 fun i j => .bl (decide (j < i))) gtI := os_i0 fun _ _ _ _ => rfl
theorem os_ge : OpS K (rI0 fun i j => .bl (decide (j ≤ i))) geI := os_i0 fun _ _ _ _ => rfl
end
/-! ### equality of scalars, is None -/
def scV : PV → Option V
  | .non => some .non
  | .bl b => some (.bl b)
  | .int i => some (.int i)
  | .str z => some (.str z)
  | _ => none
theorem scV_rep {K : PySem.W.Frag} {ι : List Addr} {G : Hp} {p : PV} {v x : V} (e : scV p = some v) (r : Rep K ι G p x) : x = v := by
  cases p <;> first | (cases e; exact r) | cases e
def scB (p q : PV) : Bool := match scV p, scV q with
  | some v, some w => scal v w
  | _, _ => false
def scD (p q : PV) : Bool := match scV p, scV q with
  | some v, some w => decide (v = w)
  | _, _ => false
def eqS (p q : PV) (O : Sto) : PR PV := if scB p q = true then .ok (.bl (scD p q)) O else .bad
def neS (p q : PV) (O : Sto) : PR PV := if scB p q = true then .ok (.bl (!scD p q)) O else .bad
def isNon : PV → Bool
  | .non => true
  | _ => false
def isN (p q : PV) (O : Sto) : PR PV := match q with
  | .non => .ok (.bl (isNon p)) O
  | _ => .bad
def notN (p q : PV) (O : Sto) : PR PV := match q with
  | .non => .ok (.bl (!isNon p)) O
  | _ => .bad
section
variable {K : PySem.W.Frag}
theorem sc_two {ι : List Addr} {G : Hp} {p q : PV} {x y : V} (c : scB p q = true) (r1 : Rep K ι G p x) (r2 : Rep K ι G q y) : scal x y = true ∧ decide (x = y) = scD p q := by
  unfold scB at c
  unfold scD
  cases e1 : scV p with
  | none => simp [e1] at c
  | some v =>
    cases e2 : scV q with
    | none => simp [e1, e2] at c
    | some w =>
      simp only [e1, e2] at c ⊢
      rw [scV_rep e1 r1, scV_rep e2 r2]
      exact ⟨c, rfl⟩
theorem os_eqS : OpS K rEq eqS := by
  intro R ι O H p q x y E Q S r1 r2 h
  unfold eqS at h
  split at h
  · rename_i c
    obtain ⟨h1, h2⟩ := sc_two c r1 r2
    exact ⟨h1, by rw [h2]; exact h.here S rfl⟩
  · exact h.elim
theorem os_neS : OpS K rNe neS := by
  intro R ι O H p q x y E Q S r1 r2 h
  unfold neS at h
  split at h
  · rename_i c
    obtain ⟨h1, h2⟩ := sc_two c r1 r2
    exact ⟨h1, by rw [h2]; exact h.here S rfl⟩
  · exact h.elim
theorem isNon_rep {ι : List Addr} {G : Hp} {p : PV} {x : V} (r : Rep K ι G p x) : decide (x = .non) = isNon p := by
  cases p with
  | non => rw [show x = .non from r]; rfl
  | bl b => rw [show x = .bl b from r]; rfl
  | int b => rw [show x = .int b from r]; rfl
  | str b => rw [show x = .str b from r]; rfl
  | ty b => rw [show x = .ty b from r]; rfl
  | cls b => rw [show x = .ref _ from r]; rfl
  | tup b => obtain ⟨a, xs, e, _⟩ := r; rw [e]; rfl
  | xtp b => obtain ⟨⟨a, xs, e, _⟩, _⟩ := r; rw [e]; rfl
  | lst b => obtain ⟨a, xs, e, _⟩ := r; rw [e]; rfl
  | rol b => obtain ⟨a, xs, e, _⟩ := r; rw [e]; rfl
  | ins b c d => obtain ⟨a, dx, xs, e, _⟩ := r; rw [e]; rfl
  | rng b c => obtain ⟨a, e, _⟩ := r; rw [e]; rfl
  | loc b => obtain ⟨a, e, _⟩ := r; rw [e]; rfl
  | dic _ _ => obtain ⟨a, kvs, e, _⟩ := r; rw [e]; rfl
  | dtk _ _ => obtain ⟨a, kvs, e, _⟩ := r; rw [e]; rfl
  | fn _ => obtain ⟨a, _, _, _, e, _⟩ := r; rw [e]; rfl
  | tbl _ => obtain ⟨a, e, _⟩ := r; rw [e]; rfl
  | xc _ _ _ => obtain ⟨a, oe, xs, e, _⟩ := r; rw [e]; rfl
theorem os_isN : OpS K (fun x y H Q => y = .non ∧ Q (.bl (decide (x = .non))) H) isN := by
  intro R ι O H p q x y E Q S r1 r2 h
  cases q <;> first | exact h.elim | skip
  exact ⟨r2, by rw [isNon_rep r1]; exact h.here S rfl⟩
end
/-! ### deep equality -/
mutual
def toD0 : PV → Option PyData
  | .non => some .none
  | .bl b => some (.bool b)
  | .int i => some (.int i)
  | .str z => some (.str z)
  | .tup ps => (toDL ps).map .tuple
  | .xtp ps => (toDL ps).map .tuple
  | .lst ps => (toDL ps).map .list
  | .rol ps => (toDL ps).map .list
  | _ => none
def toDL : List PV → Option (List PyData)
  | [] => some []
  | p :: ps => match toD0 p, toDL ps with
    | some d, some ds => some (d :: ds)
    | _, _ => none
end
def toD (O : Sto) : PV → Option PyData
  | .loc n => match O[n]? with
    | some (some (.lst ps)) => (toDL ps).map .list
    | _ => none
  | p => toD0 p
section
variable {K : PySem.W.Frag} {ι : List Addr} {G H : Hp}
mutual
theorem toD0_dp (e : Same G H) : ∀ (p : PV) (x : V) (d : PyData), Rep K ι G p x → toD0 p = some d → Dp K H x d
  | .non, _, _, r, h => by cases r; cases h; exact .non
  | .bl _, _, _, r, h => by cases r; cases h; exact .bl _
  | .int _, _, _, r, h => by cases r; cases h; exact .int _
  | .str _, _, _, r, h => by cases r; cases h; exact .str _
  | .tup ps, _, _, ⟨a, xs, h1, h2, h3⟩, h => by
    subst h1
    obtain ⟨ds, h4, h5⟩ := Option.map_eq_some_iff.mp (show (toDL ps).map PyData.tuple = some _ by unfold toD0 at h; exact h)
    subst h5
    exact .tup (sqt_same e h2) (toDL_dp e ps xs ds h3 h4)
  | .xtp ps, _, _, ⟨⟨a, xs, h1, h2, h3⟩, _⟩, h => by
    subst h1
    obtain ⟨ds, h4, h5⟩ := Option.map_eq_some_iff.mp (show (toDL ps).map PyData.tuple = some _ by unfold toD0 at h; exact h)
    subst h5
    exact .tup (sqt_same e h2) (toDL_dp e ps xs ds h3 h4)
  | .lst ps, _, _, ⟨a, xs, h1, h2, h3⟩, h => by
    subst h1
    obtain ⟨ds, h4, h5⟩ := Option.map_eq_some_iff.mp (show (toDL ps).map PyData.list = some _ by unfold toD0 at h; exact h)
    subst h5
    exact .lst (SqL.of (e _ _ h2)) (toDL_dp e ps xs ds h3 h4)
  | .rol ps, _, _, ⟨a, xs, h1, h2, h3⟩, h => by
    subst h1
    obtain ⟨ds, h4, h5⟩ := Option.map_eq_some_iff.mp (show (toDL ps).map PyData.list = some _ by unfold toD0 at h; exact h)
    subst h5
    exact .lst (e.seq h2) (toDL_dp e ps xs ds h3 h4)
  | .ty _, _, _, _, h => by cases h
  | .cls _, _, _, _, h => by cases h
  | .ins _ _ _, _, _, _, h => by cases h
  | .rng _ _, _, _, _, h => by cases h
  | .loc _, _, _, _, h => by cases h
  | .dic _ _, _, _, _, h => by cases h
  | .dtk _ _, _, _, _, h => by cases h
  | .fn _, _, _, _, h => by cases h
  | .tbl _, _, _, _, h => by cases h
  | .xc _ _ _, _, _, _, h => by cases h
theorem toDL_dp (e : Same G H) : ∀ (ps : List PV) (xs : List V) (ds : List PyData), RepL K ι G ps xs → toDL ps = some ds → DpAll K H xs ds
  | [], _, _, r, h => by cases r; cases h; exact .nil
  | p :: ps, _, ds, ⟨x, r, h1, h2, h3⟩, h => by
    subst h1
    unfold toDL at h
    cases e1 : toD0 p with
    | none => simp [e1] at h
    | some d =>
      cases e2 : toDL ps with
      | none => simp [e1, e2] at h
      | some ds' =>
        simp only [e1, e2, Option.some.injEq] at h
        subst h
        exact .cons (toD0_dp e p x d h2 e1) (toDL_dp e ps r ds' h3 e2)
end
end
def eqD (p q : PV) (O : Sto) : PR PV := match toD O p, toD O q with
  | some d, some e => if (SeqAt.shaped d && SeqAt.shaped e) = true then .ok (.bl (PyData.eqv d e)) O else .bad
  | _, _ => .bad
def neD (p q : PV) (O : Sto) : PR PV := match toD O p, toD O q with
  | some d, some e => if (SeqAt.shaped d && SeqAt.shaped e) = true then .ok (.bl (!PyData.eqv d e)) O else .bad
  | _, _ => .bad
section
variable {K : PySem.W.Frag}
end
/-! ### items, slices, sums of sequences, in -/
def ixL (p q : PV) (O : Sto) : PR PV := match lstOf O p, q with
  | some ps, .int i => match atI ps i with
    | some r => .ok r O
    | none => .bad
  | _, _ => .bad
def ixT (p q : PV) (O : Sto) : PR PV := match tupOf p, q with
  | some ps, .int i => match atI ps i with
    | some r => .ok r O
    | none => .bad
  | _, _ => .bad
theorem atI_rep {K : PySem.W.Frag} {ι : List Addr} {G : Hp} {ps : List PV} {xs : List V} {i : Int} {r : PV} (h : RepL K ι G ps xs) (e : atI ps i = some r) : ∃ v, atI xs i = some v ∧ Rep K ι G r v := by
  unfold atI at e ⊢
  rw [h.len]
  obtain ⟨j, h1, h2⟩ := Option.bind_eq_some_iff.mp e
  obtain ⟨v, h3, h4⟩ := h.get h2
  exact ⟨v, by rw [h1]; exact h3, h4⟩
def cutP (ps : List PV) (lo hi : Option Int) : List PV := (ps.drop (HT.sIx ps.length 0 lo)).take (HT.sIx ps.length ps.length hi - HT.sIx ps.length 0 lo)
theorem cut_rep {K : PySem.W.Frag} {ι : List Addr} {G : Hp} {ps : List PV} {xs : List V} {lo hi : Option Int} (h : RepL K ι G ps xs) : RepL K ι G (cutP ps lo hi) (cutV xs lo hi) := by
  unfold cutP cutV
  rw [h.len]
  exact (h.drop _).take _
abbrev OF := Slots → Sto → PR (Option Int)
def SimO (K : PySem.W.Frag) (E : XM) (t : TO) (f : OF) : Prop := ∀ R ι O H σ s Q, Sim K R ι O H → SlR K ι (fz R ι O H) σ s → Post K R (xat E σ) (fun _ _ a b => a = b) ι O H Q (f s O) → t σ H Q
def oNo : OF := fun _ O => .ok none O
def oSo (f : EF) : OF := fun s O => (f s O).bind fun p O1 => match p with
  | .int i => .ok (some i) O1
  | _ => .bad
def eSl (g : PV → Option Int → Option Int → Sto → PR PV) (f : EF) (l h : OF) : EF := fun s O => (f s O).bind fun p O1 => (l s O1).bind fun i O2 => (h s O2).bind fun j O3 => g p i j O3
def SlS (K : PySem.W.Frag) (r : V → Option Int → Option Int → Hp → VK → Prop) (g : PV → Option Int → Option Int → Sto → PR PV) : Prop := ∀ R ι O H p x i j E Q, Sim K R ι O H → Rep K ι (fz R ι O H) p x → Post K R E (Rep K) ι O H Q (g p i j O) → r x i j H Q
def slL (p : PV) (i j : Option Int) (O : Sto) : PR PV := match lstOf O p with
  | some ps => .ok (.lst (cutP ps i j)) O
  | none => .bad
def slT (p : PV) (i j : Option Int) (O : Sto) : PR PV := match tupOf p with
  | some ps => if (HT.sIx ps.length 0 i == 0 && HT.sIx ps.length ps.length j == ps.length) = true then .bad else .ok (.tup (cutP ps i j)) O
  | none => .bad
def catT (p q : PV) (O : Sto) : PR PV := match tupOf p, tupOf q with
  | some ps, some qs => if (!ps.isEmpty && !qs.isEmpty && szOk (ps.length + qs.length)) = true then .ok (.tup (ps ++ qs)) O else .bad
  | _, _ => .bad
def catL (p q : PV) (O : Sto) : PR PV := match lstT O p, lstT O q with
  | some ps, some qs => if szOk (ps.length + qs.length) = true then .ok (.lst (ps ++ qs)) O else .bad
  | _, _ => .bad
section
variable {K : PySem.W.Frag} {E : XM} {te : TE} {fe : EF} {tl th : TO} {fl fh : OF}
theorem os_ixL : OpS K (rIxL K) ixL := by
  intro R ι O H p q x y E Q S r1 r2 h
  unfold ixL at h
  cases e1 : lstOf O p with
  | none => simp [e1] at h; exact h.elim
  | some ps =>
    cases q with
    | int i =>
      simp only [e1] at h
      cases e2 : atI ps i with
      | none => simp [e2] at h; exact h.elim
      | some r =>
        simp only [e2] at h
        obtain ⟨a, xs, h1, h2, h3⟩ := lst_read S r1 e1
        obtain ⟨v, h4, h5⟩ := atI_rep h3 e2
        exact ⟨a, xs, i, v, h1, r2, h2, h4, h.here S h5⟩
    | _ => simp [e1] at h; exact h.elim
theorem os_ixT : OpS K (rIxT K) ixT := by
  intro R ι O H p q x y E Q S r1 r2 h
  unfold ixT at h
  cases e1 : tupOf p with
  | none => simp [e1] at h; exact h.elim
  | some ps =>
    cases q with
    | int i =>
      simp only [e1] at h
      cases e2 : atI ps i with
      | none => simp [e2] at h; exact h.elim
      | some r =>
        simp only [e2] at h
        obtain ⟨a, xs, h1, h2, h3⟩ := tup_read S r1 e1
        obtain ⟨v, h4, h5⟩ := atI_rep h3 e2
        exact ⟨a, xs, i, v, h1, r2, h2, h4, h.here S h5⟩
    | _ => simp [e1] at h; exact h.elim
theorem sim_noP : SimO K E tNoPart oNo := fun R ι O H σ s Q S L h => h.here S rfl
theorem sim_part (he : SimE K E te fe) : SimO K E (tPart te) (oSo fe) := fun R ι O H σ s Q S L h =>
  he R ι O H σ s _ S L (h.bind fun p O1 x ι1 H1 S1 X1 r1 h1 => by
    cases p with
    | int i => exact ⟨i, r1, h1.here S1 rfl⟩
    | _ => exact h1.elim)
theorem sim_sl {r : V → Option Int → Option Int → Hp → VK → Prop} {g : PV → Option Int → Option Int → Sto → PR PV} (hg : SlS K r g) (he : SimE K E te fe) (hl : SimO K E tl fl) (hh : SimO K E th fh) : SimE K E (tSl r te tl th) (eSl g fe fl fh) := fun R ι O H σ s Q S L h =>
  he R ι O H σ s _ S L (h.bind fun p O1 x ι1 H1 S1 X1 r1 h1 => hl R ι1 O1 H1 σ s _ S1 (L.ext X1) (h1.bind fun i O2 i' ι2 H2 S2 X2 r2 h2 => by
    subst r2
    exact hh R ι2 O2 H2 σ s _ S2 (L.ext (X1.trans X2)) (h2.bind fun j O3 j' ι3 H3 S3 X3 r3 h3 => by
      subst r3
      exact hg R ι3 O3 H3 p x i j _ _ S3 ((X2.trans X3).rep r1) h3)))
theorem ss_L : SlS K (rSlL K) slL := by
  intro R ι O H p x i j E Q S r h
  unfold slL at h
  cases e : lstOf O p with
  | none => simp [e] at h; exact h.elim
  | some ps =>
    simp only [e] at h
    obtain ⟨a, xs, h1, h2, h3⟩ := lst_read S r e
    refine ⟨a, xs, h1, h2, fun q hq => ?_⟩
    obtain ⟨S2, X2, e2⟩ := S.newF hq (.lst (cutV xs i j))
    exact h.at S2 X2 ⟨q, _, rfl, e2, X2.repL (cut_rep h3)⟩
theorem os_catL : OpS K rCat catL := by
  intro R ι O H p q x y E Q S r1 r2 h
  unfold catL at h
  cases e1 : lstT O p with
  | none => simp [e1] at h; exact h.elim
  | some ps =>
    cases e2 : lstT O q with
    | none => simp [e1, e2] at h; exact h.elim
    | some qs =>
      simp only [e1, e2] at h
      split at h
      · rename_i c
        obtain ⟨a, xs, h1, h2, h3⟩ := lstT_read S r1 e1
        obtain ⟨b, ys, h4, h5, h6⟩ := lstT_read S r2 e2
        refine ⟨a, b, xs, ys, h1, h4, h2, h5, by rw [h3.len, h6.len]; exact szOk_le c, fun o ho => ?_⟩
        obtain ⟨S2, X2, e2⟩ := S.newF ho (.lst (xs ++ ys))
        exact h.at S2 X2 ⟨o, _, rfl, e2, X2.repL (h3.app h6)⟩
      · exact h.elim
end
/-! ### targets -/
def gTupP (n : Nat) (gs : List PV → Slots → Sto → PR Slots) : GF := fun p s O => match tupOf p with
  | some ps => if ps.length = n then gs ps s O else .bad
  | none => .bad
def gNilP (ps : List PV) (s : Slots) (O : Sto) : PR Slots := match ps with
  | [] => .ok s O
  | _ => .bad
def gConsP (g : GF) (gs : List PV → Slots → Sto → PR Slots) (ps : List PV) (s : Slots) (O : Sto) : PR Slots := match ps with
  | p :: r => (g p s O).bind fun s1 O1 => gs r s1 O1
  | [] => .bad
def SimGs (K : PySem.W.Frag) (E : XM) (g : TGs) (f : List PV → Slots → Sto → PR Slots) : Prop := ∀ R ι O H σ s ps xs E' Q, Sim K R ι O H → SlR K ι (fz R ι O H) σ s → RepL K ι (fz R ι O H) ps xs → Post K R E' (fun ι G s σ => SlR K ι G σ s) ι O H Q (f ps s O) → g xs σ H Q
def SimG0 (K : PySem.W.Frag) (g : TG) (f : GF) : Prop := ∀ R ι O H σ s p x E Q, Sim K R ι O H → SlR K ι (fz R ι O H) σ s → Rep K ι (fz R ι O H) p x → Post K R E (fun ι G s σ => SlR K ι G σ s) ι O H Q (f p s O) → g x σ H Q
section
variable {K : PySem.W.Frag} {E : XM} {g : TG} {f : GF} {gs : TGs} {fs : List PV → Slots → Sto → PR Slots}
theorem sim_g0 (h : SimG0 K g f) : SimG K E g f := fun R ι O H σ s p x Q S L r q => h R ι O H σ s p x _ Q S L r q
theorem g0_nm {i : Nat} : SimG0 K (gName i) (gNm i) := fun R ι O H σ s p x E Q S L r h => h.here S (L.set i r)
theorem g0_nil : SimGs K E gNil gNilP := by
  intro R ι O H σ s ps xs E' Q S L r h
  cases ps with
  | nil => exact ⟨r, h.here S L⟩
  | cons p ps => exact h.elim
theorem g0_cons (h1 : SimG0 K g f) (h2 : SimGs K E gs fs) : SimGs K E (gCons g gs) (gConsP f fs) := by
  intro R ι O H σ s ps xs E' Q S L r h
  cases ps with
  | nil => exact h.elim
  | cons p ps =>
    obtain ⟨x, r', e, r1, r2⟩ := r
    refine ⟨x, r', e, h1 R ι O H σ s p x E' _ S L r1 (Post.bind (rp' := fun ι G s σ => SlR K ι G σ s) h fun s1 O1 σ1 ι1 H1 S1 X1 L1 k => h2 R ι1 O1 H1 σ1 s1 ps r' E' Q S1 L1 (X1.repL r2) k)⟩
theorem g0_tup {n : Nat} (h : SimGs K E gs fs) : SimG0 K (gTup K n gs) (gTupP n fs) := by
  intro R ι O H σ s p x E' Q S L r k
  unfold gTupP at k
  cases e : tupOf p with
  | none => simp [e] at k; exact k.elim
  | some ps =>
    simp only [e] at k
    split at k
    · rename_i c
      obtain ⟨a, xs, h1, h2, h3⟩ := tup_read S r e
      exact ⟨a, xs, h1, h2, by rw [h3.len]; exact c, h R ι O H σ s ps xs E' Q S L h3 k⟩
    · exact k.elim
end
def gSubL (fo fi : EF) : GF := fun v s O => (fo s O).bind fun p O1 => (fi s O1).bind fun q O2 => match p, q with
  | .loc n, .int k => match O2[n]? with
    | some (some (.lst ps)) => match ixN ps.length k with
      | some j => .ok s (O2.set n (some (.lst (ps.set j v))))
      | none => .bad
    | _ => .bad
  | _, _ => .bad
section
variable {K : PySem.W.Frag} {E : XM} {to ti : TE} {fo fi : EF}
theorem sim_gSubL (ho : SimE K E to fo) (hi : SimE K E ti fi) : SimG K E (gSub to ti rSetL) (gSubL fo fi) := by
  intro R ι O H σ s v x Q S L rv h
  refine ho R ι O H σ s _ S L (Post.bind (rp' := fun ι G s σ => SlR K ι G σ s) h fun p O1 y ι1 H1 S1 X1 r1 h1 => hi R ι1 O1 H1 σ s _ S1 (L.ext X1) (Post.bind (rp' := fun ι G s σ => SlR K ι G σ s) h1 fun q O2 z ι2 H2 S2 X2 r2 h2 => ?_))
  cases p with
  | loc n =>
    cases q with
    | int k =>
      simp only at h2
      cases e : O2[n]? with
      | none => simp [e] at h2; exact h2.elim
      | some w =>
        cases w with
        | none => simp [e] at h2; exact h2.elim
        | some w =>
          cases w with
          | lst ps =>
            simp only [e] at h2
            cases e2 : ixN ps.length k with
            | none => simp [e2] at h2; exact h2.elim
            | some j =>
              simp only [e2] at h2
              obtain ⟨a, h3, h4⟩ := X2.rep r1
              obtain ⟨o, h5, xs, h6, h7⟩ := S2.obj n a _ h4 e
              subst h6
              obtain ⟨S3, X3⟩ := S2.change h4 e (p' := .lst (ps.set j v)) (o' := .lst (xs.set j x)) ⟨_, rfl, h7.set ((X1.trans X2).rep rv)⟩
              exact ⟨a, xs, k, j, h3, r2, h5, by rw [h7.len]; exact e2, h2.at S3 X3 (L.ext ((X1.trans X2).trans X3))⟩
          | _ => simp [e] at h2; exact h2.elim
    | _ => exact h2.elim
  | _ => exact h2.elim
end
end Qx

/-! Own layer Q4: fields, methods, new instances, isinstance, built-ins, loops, comprehensions. -/
namespace Qx
open PySem PySem.Spec PyProof.Rows L2 Gx
def noX {α : Type} (r : PR α) : PR α := match r with
  | .exc _ _ => .bad
  | r => r
theorem Post.noX {α β : Type} {K : PySem.W.Frag} {R : List (Addr × HO)} {E E' : Option XK} {rp : List Addr → Hp → α → β → Prop} {ι : List Addr} {O : Sto} {H : Hp} {Q : β → Hp → Prop} {r : PR α} (h : Post K R E rp ι O H Q (Qx.noX r)) : Post K R E' rp ι O H Q r := by
  cases r with
  | ok a O' => exact h
  | exc e O' => exact h.elim
  | bad => exact h
/-! ### fields and methods -/
def eFld (C f : Str) (a : EF) : EF := fun s O => (a s O).bind fun p O1 => match insOf O1 p with
  | some (C', ns, ps) => if C' = C then match (ns.zip ps).lookup f with
    | some q => .ok q O1
    | none => .bad else .bad
  | none => .bad
def eMeth (C m : Str) (mf : MF) (dps : List PV) (a : EF) (b : AF) : EF := fun s O => (a s O).bind fun p O1 => match insOf O1 p with
  | some (C', ns, qs) => if C' = C ∧ ((ns.zip qs).lookup m).isNone = true then (b s O1).bind fun ps O2 => mf (p :: (ps ++ dps)) O2 else .bad
  | none => .bad
def eMethK (C m : Str) (mf : MF) (n k : Nat) (gP : List PV → List PV → List PV) (a : EF) (b z : AF) : EF := fun s O => (a s O).bind fun p O1 => match insOf O1 p with
  | some (C', ns, qs) => if C' = C ∧ ((ns.zip qs).lookup m).isNone = true then (b s O1).bind fun ps O2 => (z s O2).bind fun zs O3 => if ps.length + 1 = n ∧ zs.length = k then mf (gP (p :: ps) zs) O3 else .bad else .bad
  | none => .bad
section
variable {K : PySem.W.Frag} {E : XM} {ta : TE} {fa : EF} {tA tZ : TA} {fA fZ : AF} {C f m : Str} {mf : MF} {dps : List PV} {dvs : List V}
theorem sim_fld (c : Cls K (He.ga K C)) (no : NoAttr K (He.ga K C) f) (ha : SimE K E ta fa) : SimE K E (tFld K ta f) (eFld C f fa) := fun R ι O H σ s Q S L h =>
  ha R ι O H σ s _ S L (h.bind fun p O1 x ι1 H1 S1 X1 r1 h1 => by
    cases e : insOf O1 p with
    | none => simp [e] at h1; exact h1.elim
    | some w =>
      obtain ⟨C', ns, ps⟩ := w
      simp only [e] at h1
      split at h1
      · rename_i ec
        subst ec
        obtain ⟨a, dx, xs, h2, h3, h4, h5⟩ := ins_read S1 r1 e
        cases e2 : (ns.zip ps).lookup f with
        | none => simp [e2] at h1; exact h1.elim
        | some q =>
          simp only [e2] at h1
          obtain ⟨v, h6, h7⟩ := (zip_lookup h5).1 q e2
          exact ⟨a, _, dx, _, v, h2, h3, c, no, h6, h1.here S1 h7⟩
      · exact h1.elim)
/-! ### own ==, !=, len -/
def insIs (O : Sto) (C : Str) (p : PV) : Bool := match insOf O p with
  | some (C', _, _) => decide (C' = C)
  | none => false
theorem insIs_read {R : List (Addr × HO)} {ι : List Addr} {O : Sto} {H : Hp} {p : PV} {x : V} (S : Sim K R ι O H) (r : Rep K ι (fz R ι O H) p x) (e : insIs O C p = true) : InsAt (He.ga K C) H x := by
  unfold insIs at e
  cases q : insOf O p with
  | none => simp [q] at e
  | some w =>
    obtain ⟨C', ns, ps⟩ := w
    simp only [q, decide_eq_true_eq] at e
    subst e
    obtain ⟨a, dx, xs, h2, h3, _⟩ := ins_read S r q
    exact ⟨a, dx, _, h2, h3⟩
def boolR (neg : Bool) (r : PR PV) : PR PV := (noX r).bind fun p O => match p with
  | .bl b => .ok (.bl (if neg then !b else b)) O
  | _ => .bad
def oeqP (C : Str) (m : MF) (p q : PV) (O : Sto) : PR PV := if (insIs O C p && insIs O C q) = true then boolR false (m [p, q] O) else .bad
def oneP (C : Str) (m : MF) (p q : PV) (O : Sto) : PR PV := if (insIs O C p && insIs O C q) = true then boolR true (m [p, q] O) else .bad
def olenP (C : Str) (m : MF) (ps : List PV) (O : Sto) : PR PV := match ps with
  | [p] => if insIs O C p = true then (noX (m [p] O)).bind fun r O1 => match r with
    | .int n => if (decide (0 ≤ n) && decide (n < 2 ^ 63)) = true then .ok (.int n) O1 else .bad
    | _ => .bad else .bad
  | _ => .bad
theorem cb_olen : CbS K (rOLen (He.ga K C) (spM K false mf)) (olenP C mf) := by
  intro R ι O H ps xs E Q S r h
  match ps, h with
  | [], h => exact h.elim
  | _ :: _ :: _, h => exact h.elim
  | [p], h =>
    obtain ⟨x, t, e, r1, e2⟩ := r
    cases e2
    subst e
    unfold olenP at h
    simp only at h
    split at h
    · rename_i c
      exact ⟨x, rfl, insIs_read S r1 c, R, ι, O, [p], S, .one r1, Post.noX (E := E) (Post.bind h fun r O1 v ι1 H1 S1 X1 r3 h1 => by
        cases r with
        | int n =>
          simp only at h1
          split at h1
          · rename_i cc
            obtain ⟨c1, c2⟩ := Bool.and_eq_true_iff.mp cc
            exact ⟨n, r3, ⟨of_decide_eq_true c1, of_decide_eq_true c2⟩, h1.here S1 rfl⟩
          · exact h1.elim
        | _ => exact h1.elim)⟩
    · exact h.elim
end
/-! ### new instances: frozen ones, by a builder -/
inductive BR where
  | next (ns : List Str) (ps : List PV) (s : Slots) (O : Sto) | exc (e : PExc) (O : Sto) | bad
abbrev BF := List Str → List PV → Slots → Sto → BR
def BR.bind (r : BR) (k : BF) : BR := match r with
  | .next ns ps s O => k ns ps s O
  | r => r
def hdI (K : PySem.W.Frag) (C : Str) (x dx : Addr) (ns : List Str) (xs : List V) : Addr × HO := (x, .ins (He.ga K C) dx (ns.zip xs))
structure SimI (K : PySem.W.Frag) (C : Str) (R : List (Addr × HO)) (ι : List Addr) (O : Sto) (H : Hp) (x dx : Addr) (ns : List Str) (ps : List PV) (xs : List V) (σ : L2.St) (s : Slots) : Prop where
  S : Sim K (hdI K C x dx ns xs :: R) ι O H
  ln : ns.length = ps.length
  r : RepL K ι (fz (hdI K C x dx ns xs :: R) ι O H) ps xs
  s0 : σ[0]? = some (some (.ref x))
  n0 : ∀ p, s[0]? ≠ some (some p)
  L : SlR K ι (fz (hdI K C x dx ns xs :: R) ι O H) σ s
structure ExtI (K : PySem.W.Frag) (C : Str) (R : List (Addr × HO)) (x dx : Addr) (ι : List Addr) (O : Sto) (H : Hp) (ns : List Str) (xs : List V) (ι' : List Addr) (O' : Sto) (H' : Hp) (ns' : List Str) (xs' : List V) : Prop where
  pre : Pre ι ι'
  same : Same (fz (hdI K C x dx ns xs :: R) ι O H) (fz (hdI K C x dx ns' xs' :: R) ι' O' H')
def bSeq (a b : BF) : BF := fun ns ps s O => (a ns ps s O).bind b
def bExp (f : EF) : BF := fun ns ps s O => match f s O with
  | .ok _ O1 => .next ns ps s O1
  | .exc e O1 => .exc e O1
  | .bad => .bad
def bFld (f : Str) (e : EF) : BF := fun ns ps s O => match e s O with
  | .ok p O1 => if f ∈ ns ∨ 900 < ns.length then .bad else .next (ns ++ [f]) (ps ++ [p]) s O1
  | .exc e O1 => .exc e O1
  | .bad => .bad
theorem putF_new {f : Str} {v : V} : ∀ {ns : List Str} {xs : List V}, ns.length = xs.length → f ∉ ns → putF f v (ns.zip xs) = (ns ++ [f]).zip (xs ++ [v])
  | [], [], _, _ => rfl
  | [], _ :: _, h, _ => by simp at h
  | _ :: _, [], h, _ => by simp at h
  | n :: ns, x :: xs, h, hn => by
    have e : n ≠ f := fun z => hn (by rw [z]; exact List.mem_cons_self)
    show (if n = f then (n, v) :: ns.zip xs else (n, x) :: putF f v (ns.zip xs)) = _
    rw [if_neg e, putF_new (by simpa using h) fun z => hn (List.mem_cons_of_mem _ z)]
    rfl
section
variable {K : PySem.W.Frag} {C : Str} {ta : TE} {fa : EF} {tS uS : TS} {f g : BF}
theorem ExtI.trans {R : List (Addr × HO)} {x dx : Addr} {ι ι' ι'' : List Addr} {O O' O'' : Sto} {H H' H'' : Hp} {ns ns' ns'' : List Str} {xs xs' xs'' : List V} (a : ExtI K C R x dx ι O H ns xs ι' O' H' ns' xs') (b : ExtI K C R x dx ι' O' H' ns' xs' ι'' O'' H'' ns'' xs'') : ExtI K C R x dx ι O H ns xs ι'' O'' H'' ns'' xs'' := ⟨a.pre.trans b.pre, same_trans a.same b.same⟩
def mkInit (n N : Nat) (body : BF) (ps : List PV) (O : Sto) : PR (List Str × List PV) :=
  if ps.length = n then match body [] [] (none :: ps.map some ++ List.replicate (N - (n + 1)) none) O with
    | .next ns qs _ O' => .ok (ns, qs) O'
    | .exc e O' => .exc e O'
    | .bad => .bad
  else .bad
end
def mkIns (C : Str) (r : PR (List Str × List PV)) : PR PV := match r with
  | .ok (ns, qs) O => .ok (.ins C ns qs) O
  | .exc e O => .exc e O
  | .bad => .bad
def eMake (C : Str) (m : List PV → Sto → PR (List Str × List PV)) (dps : List PV) (a : AF) : EF := fun s O => (a s O).bind fun ps O1 => mkIns C (m (ps ++ dps) O1)
def eMakeK (C : Str) (m : List PV → Sto → PR (List Str × List PV)) (n k : Nat) (gP : List PV → List PV → List PV) (a z : AF) : EF := fun s O => (a s O).bind fun ps O1 => (z s O1).bind fun zs O2 => if ps.length = n ∧ zs.length = k then mkIns C (m (gP ps zs) O2) else .bad
section
variable {K : PySem.W.Frag} {C : Str} {tA tZ : TA} {fA fZ : AF} {m : List PV → Sto → PR (List Str × List PV)} {dps : List PV} {dvs : List V}
end
end Qx

/-! Own layer Q5: loops, comprehensions, methods of lists, built-ins, isinstance. -/
namespace Qx
open PySem PySem.Spec PyProof.Rows L2 Gx
theorem PR.bind_ok {α β : Type} {x : PR α} {g : α → Sto → PR β} {a : β} {O : Sto} (h : x.bind g = .ok a O) : ∃ b O1, x = .ok b O1 ∧ g b O1 = .ok a O := by
  cases x with
  | ok b O1 => exact ⟨b, O1, rfl, h⟩
  | exc e O1 => cases h
  | bad => cases h
/-! ### what is walked -/
abbrev ItP := List PV × Option (Nat × List PV)
abbrev IF := Slots → Sto → PR ItP
def grd (g : Option (Nat × List PV)) (O : Sto) : Prop := match g with
  | none => True
  | some (n, ps) => O[n]? = some (some (.lst ps))
open Classical in
noncomputable def chk {α : Type} (g : Option (Nat × List PV)) (O : Sto) (bad r : α) : α := match g with
  | none => r
  | some (n, ps) => if O[n]? = some (some (.lst ps)) then r else bad
theorem chk_or {α : Type} (g : Option (Nat × List PV)) (O : Sto) (bad r : α) : (grd g O ∧ chk g O bad r = r) ∨ chk g O bad r = bad := by
  cases g with
  | none => exact .inl ⟨trivial, rfl⟩
  | some w =>
    obtain ⟨n, ps⟩ := w
    by_cases c : O[n]? = some (some (.lst ps))
    · exact .inl ⟨c, by unfold chk; simp only; rw [if_pos c]⟩
    · exact .inr (by unfold chk; simp only; rw [if_neg c])
def ItOk (K : PySem.W.Frag) (J : It) (items : List PV) (g : Option (Nat × List PV)) (ι0 : List Addr) (G0 : Hp) : Prop := ∀ R ι O H, Sim K R ι O H → Pre ι0 ι → Same G0 (fz R ι O H) → grd g O → ∀ i : Nat,
  (∀ p, items[i]? = some p → J.go i H ∧ ∀ x H', J.yld i H x H' → ∃ ι', Sim K R ι' O H' ∧ Ext R ι O H ι' O H' ∧ Rep K ι' (fz R ι' O H') p x) ∧ (items.length ≤ i → J.stop i H)
def rpI (K : PySem.W.Frag) (ι : List Addr) (G : Hp) (a : ItP) (J : It) : Prop := ItOk K J a.1 a.2 ι G
def SimIt (K : PySem.W.Frag) (E : XM) (wi : TI) (f : IF) : Prop := ∀ R ι O H σ s Q, Sim K R ι O H → SlR K ι (fz R ι O H) σ s → Post K R (xat E σ) (rpI K) ι O H Q (f s O) → wi σ H Q
/-! ### for -/
noncomputable def loopL (g : Option (Nat × List PV)) (tgt : GF) (body : SF) : List PV → SF
  | [], s, O => chk g O .bad (.next s O)
  | p :: r, s, O => chk g O .bad ((tgt p s O).toS s fun s1 O1 => match body s1 O1 with
    | .next s2 O2 => loopL g tgt body r s2 O2
    | .cnt s2 O2 => loopL g tgt body r s2 O2
    | .brk s2 O2 => .next s2 O2
    | x => x)
noncomputable def sFor (f : IF) (tgt : GF) (body : SF) : SF := fun s O => (f s O).toS s fun it O1 => loopL it.2 tgt body it.1 s O1
theorem sim_for {K : PySem.W.Frag} {E : XM} {wi : TI} {fI : IF} {g : TG} {tgt : GF} {tb : TS} {body : SF} (hi : SimIt K E wi fI) (hg : SimG K E g tgt) (hb : SimS K E tb body) : SimS K E (tFor wi g tb) (sFor fI tgt body) := by
  intro R ι O H σ s D S L h
  refine hi R ι O H σ s _ S L (h.lift L fun it O1 J ι1 H1 S1 X1 ok h1 => ?_)
  obtain ⟨items, gd⟩ := it
  have ok : ItOk K J items gd ι1 (fz R ι1 O1 H1) := ok
  refine ⟨fun i m σ' H' => m = items.length - i ∧ i ≤ items.length ∧ ∃ s' ι' O', Sim K R ι' O' H' ∧ Ext R ι1 O1 H1 ι' O' H' ∧ SlR K ι' (fz R ι' O' H') σ' s' ∧ PostS K R E ι' O' H' D (loopL gd tgt body (items.drop i) s' O'), ⟨_, rfl, Nat.zero_le _, s, ι1, O1, S1, .refl, L.ext X1, h1⟩, ?_⟩
  rintro i m σ' H' ⟨rfl, hi', s', ι', O', S', X', L', h'⟩
  by_cases hlt : i < items.length
  · have ep : items[i]? = some items[i] := List.getElem?_eq_getElem hlt
    rw [drop_get ep] at h'
    unfold loopL at h'
    rcases chk_or gd O' SR.bad ((tgt items[i] s' O').toS s' fun s1 O1 => match body s1 O1 with
      | .next s2 O2 => loopL gd tgt body (items.drop (i + 1)) s2 O2
      | .cnt s2 O2 => loopL gd tgt body (items.drop (i + 1)) s2 O2
      | .brk s2 O2 => .next s2 O2
      | x => x) with ⟨gok, e⟩ | e
    · rw [e] at h'
      obtain ⟨go, yl⟩ := (ok R ι' O' H' S' X'.pre X'.same gok i).1 _ ep
      refine .inr ⟨go, fun σ2 H2 => ∃ m', m' < items.length - i ∧ (m' = items.length - (i + 1) ∧ i + 1 ≤ items.length ∧ ∃ s2 ι2 O2, Sim K R ι2 O2 H2 ∧ Ext R ι1 O1 H1 ι2 O2 H2 ∧ SlR K ι2 (fz R ι2 O2 H2) σ2 s2 ∧ PostS K R E ι2 O2 H2 D (loopL gd tgt body (items.drop (i + 1)) s2 O2)), fun σ2 H2 z => z, fun x H2 y => ?_⟩
      obtain ⟨ι2, S2, X2, r2⟩ := yl x H2 y
      refine hg R ι2 O' H2 σ' s' _ x _ S2 (L'.ext X2) r2 ((PostS.of X2 h').lift (L'.ext X2) fun s3 O3 σ3 ι3 H3 S3 X3 L3 h3 => ?_)
      refine hb R ι3 O3 H3 σ3 s3 _ S3 L3 ?_
      have X13 := X'.trans (X2.trans X3)
      cases e3 : body s3 O3 with
      | next s4 O4 => rw [e3] at h3; exact fun σ4 ι4 H4 S4 X4 L4 => ⟨_, by omega, rfl, by omega, s4, ι4, O4, S4, X13.trans X4, L4, PostS.of X4 h3⟩
      | cnt s4 O4 => rw [e3] at h3; exact fun σ4 ι4 H4 S4 X4 L4 => ⟨_, by omega, rfl, by omega, s4, ι4, O4, S4, X13.trans X4, L4, PostS.of X4 h3⟩
      | brk s4 O4 => rw [e3] at h3; exact fun σ4 ι4 H4 S4 X4 L4 => h3 σ4 ι4 H4 S4 X4 L4
      | ret p O4 => rw [e3] at h3; exact h3
      | exc x s4 O4 => rw [e3] at h3; exact h3
      | bad => rw [e3] at h3; exact h3
    · rw [e] at h'; exact h'.elim
  · have e0 : items.drop i = [] := List.drop_eq_nil_of_le (Nat.le_of_not_lt hlt)
    rw [e0] at h'
    unfold loopL at h'
    rcases chk_or gd O' SR.bad (.next s' O') with ⟨gok, e⟩ | e
    · rw [e] at h'
      exact .inl ⟨(ok R ι' O' H' S' X'.pre X'.same gok i).2 (Nat.le_of_not_lt hlt), h' σ' ι' H' S' .refl L'⟩
    · rw [e] at h'; exact h'.elim
/-! ### what is walked: lists, tuples, ranges, zip, enumerate, texts -/
def iL (f : EF) : IF := fun s O => (f s O).bind fun p O1 => match p with
  | .lst ps => .ok (ps, none) O1
  | .rol ps => .ok (ps, none) O1
  | .loc n => match O1[n]? with
    | some (some (.lst ps)) => .ok (ps, some (n, ps)) O1
    | _ => .bad
  | _ => .bad
def iT (f : EF) : IF := fun s O => (f s O).bind fun p O1 => match tupOf p with
  | some ps => .ok (ps, none) O1
  | none => .bad
def rgOk (j : Int) : Bool := decide (-(2 ^ 62) ≤ j ∧ j < 2 ^ 62)
def rgL (lo : Int) (n : Nat) : List PV := (List.range n).map fun i => .int (lo + (i : Nat))
def iR1 (a : AF) : IF := fun s O => (a s O).bind fun ps O1 => match ps with
  | [.int j] => if rgOk j = true then .ok (rgL 0 j.toNat, none) O1 else .bad
  | _ => .bad
def iR2 (a : AF) : IF := fun s O => (a s O).bind fun ps O1 => match ps with
  | [.int i, .int j] => if (rgOk i && rgOk j) = true then .ok (rgL i (j - i).toNat, none) O1 else .bad
  | _ => .bad
def frL : PV → Option (List PV)
  | .lst ps => some ps
  | .rol ps => some ps
  | _ => none
def zipP (ps qs : List PV) : List PV := (ps.zip qs).map fun w => .tup [w.1, w.2]
def iZ (a : AF) : IF := fun s O => (a s O).bind fun ps O1 => match ps with
  | [p, q] => match frL p, frL q with
    | some xs, some ys => .ok (zipP xs ys, none) O1
    | _, _ => match tupOf p, tupOf q with
      | some xs, some ys => .ok (zipP xs ys, none) O1
      | _, _ => .bad
  | _ => .bad
theorem rgL_get {lo : Int} {n i : Nat} {p : PV} (h : (rgL lo n)[i]? = some p) : i < n ∧ p = .int (lo + (i : Nat)) := by
  unfold rgL at h
  rw [List.getElem?_map] at h
  obtain ⟨j, h1, h2⟩ := Option.map_eq_some_iff.mp h
  obtain ⟨h3, h4⟩ := List.getElem?_eq_some_iff.mp h1
  simp only [List.getElem_range] at h4
  simp only [List.length_range] at h3
  subst h4
  exact ⟨h3, h2.symm⟩
theorem rgL_len {lo : Int} {n : Nat} : (rgL lo n).length = n := by unfold rgL; simp
section
variable {K : PySem.W.Frag} {E : XM} {te : TE} {fe : EF} {tA : TA} {fA : AF}
theorem sim_iR1 (hA : SimA K E tA fA) : SimIt K E (iRng1 tA) (iR1 fA) := fun R ι O H σ s Q S L h =>
  hA R ι O H σ s _ S L (h.bind fun ps O1 xs ι1 H1 S1 X1 r1 h1 => by
    match ps, h1, r1 with
    | [.int j], h1, ⟨x, t, e, r2, e2⟩ =>
      cases e2
      subst e
      simp only at h1
      split at h1
      · rename_i c
        have c' := of_decide_eq_true c
        refine ⟨j, by rw [show x = .int j from r2], c'.1, c'.2, h1.here S1 fun R' ι' O' H' S' _ _ _ i => ⟨fun p ep => ?_, fun hl => ?_⟩⟩
        · obtain ⟨h3, h4⟩ := rgL_get ep
          exact ⟨h3, fun x H'' y => ⟨ι', by rw [y.1]; exact S', by rw [y.1]; exact .refl, by rw [h4, y.2]; rfl⟩⟩
        · rw [rgL_len] at hl; exact hl
      · exact h1.elim)
theorem itl_ok {ι0 : List Addr} {G0 : Hp} {a : Addr} {items : List PV} {g : Option (Nat × List PV)} (rd : ∀ R ι O H, Sim K R ι O H → Pre ι0 ι → Same G0 (fz R ι O H) → grd g O → ∃ xs, SqL K H a xs ∧ RepL K ι (fz R ι O H) items xs) : ItOk K (Itl K a) items g ι0 G0 := by
  intro R ι O H S p1 sm gd i
  obtain ⟨xs, h1, h2⟩ := rd R ι O H S p1 sm gd
  refine ⟨fun p ep => ?_, fun hl => ⟨xs, h1, by rw [h2.len]; exact hl⟩⟩
  obtain ⟨x, h3, h4⟩ := h2.get ep
  refine ⟨⟨xs, x, h1, h3⟩, fun y H' z => ⟨ι, by rw [z.1]; exact S, by rw [z.1]; exact .refl, ?_⟩⟩
  have e := z.2 xs h1
  rw [h3] at e
  cases e
  rw [z.1]
  exact h4
theorem itt_ok {ι0 : List Addr} {G0 : Hp} {a : Addr} {items : List PV} {xs : List V} (h1 : SqT K G0 a xs) (h2 : RepL K ι0 G0 items xs) : ItOk K (Itt K a) items none ι0 G0 := by
  intro R ι O H S p1 sm gd i
  have h1 : SqT K H a xs := sqt_same (same_trans sm S.frozen) h1
  have h2 := h2.mono p1 sm
  refine ⟨fun p ep => ?_, fun hl => ⟨xs, h1, by rw [h2.len]; exact hl⟩⟩
  obtain ⟨x, h3, h4⟩ := h2.get ep
  refine ⟨⟨xs, x, h1, h3⟩, fun y H' z => ⟨ι, by rw [z.1]; exact S, by rw [z.1]; exact .refl, ?_⟩⟩
  have e := z.2 xs h1
  rw [h3] at e
  cases e
  rw [z.1]
  exact h4
theorem frL_read {ι : List Addr} {G : Hp} {p : PV} {x : V} {ps : List PV} (r : Rep K ι G p x) (e : frL p = some ps) : ∃ a xs, x = .ref a ∧ SqL K G a xs ∧ RepL K ι G ps xs := by
  cases p with
  | lst qs => obtain ⟨a, xs, h1, h2, h3⟩ := r; cases e; exact ⟨a, xs, h1, SqL.of h2, h3⟩
  | rol qs => obtain ⟨a, xs, h1, h2, h3⟩ := r; cases e; exact ⟨a, xs, h1, h2, h3⟩
  | _ => cases e
theorem sim_iL (he : SimE K E te fe) : SimIt K E (iList K te) (iL fe) := fun R ι O H σ s Q S L h =>
  he R ι O H σ s _ S L (h.bind fun p O1 x ι1 H1 S1 X1 r1 h1 => by
    have fr : ∀ ps, frL p = some ps → Post K R (xat E σ) (rpI K) ι1 O1 H1 Q (.ok (ps, none) O1) → ∃ a, x = .ref a ∧ (∃ xs, SqL K H1 a xs) ∧ Q (Itl K a) H1 := fun ps e h1 => by
      obtain ⟨a, xs, e1, h3, h4⟩ := frL_read r1 e
      exact ⟨a, e1, ⟨xs, S1.frozen.seq h3⟩, h1.here S1 (itl_ok fun R' ι' O' H' S' p1 sm _ => ⟨xs, S'.frozen.seq (sm.seq h3), h4.mono p1 sm⟩)⟩
    cases p with
    | lst ps => exact fr ps rfl h1
    | rol ps => exact fr ps rfl h1
    | loc n =>
      obtain ⟨a, e1, e2⟩ := r1
      simp only at h1
      cases q : O1[n]? with
      | none => simp [q] at h1; exact h1.elim
      | some w =>
        cases w with
        | none => simp [q] at h1; exact h1.elim
        | some w =>
          cases w with
          | lst ps =>
            simp only [q] at h1
            obtain ⟨o, h3, xs, h4, h5⟩ := S1.obj n a _ e2 q
            subst h4
            refine ⟨a, e1, ⟨xs, SqL.of h3⟩, h1.here S1 (itl_ok fun R' ι' O' H' S' p1 sm gd => ?_)⟩
            obtain ⟨o, h3, xs, h4, h5⟩ := S'.obj n a _ (p1 _ _ e2) (show O'[n]? = some (some (.lst ps)) from gd)
            subst h4
            exact ⟨xs, SqL.of h3, h5⟩
          | _ => simp [q] at h1; exact h1.elim
    | _ => exact h1.elim)
theorem sim_iT (he : SimE K E te fe) : SimIt K E (iTup K te) (iT fe) := fun R ι O H σ s Q S L h =>
  he R ι O H σ s _ S L (h.bind fun p O1 x ι1 H1 S1 X1 r1 h1 => by
    cases p with
    | tup ps =>
      obtain ⟨a, xs, e1, h3, h4⟩ := r1
      exact ⟨a, e1, ⟨xs, sqt_same S1.frozen h3⟩, h1.here S1 (itt_ok h3 h4)⟩
    | xtp ps =>
      obtain ⟨⟨a, xs, e1, h3, h4⟩, _⟩ := r1
      exact ⟨a, e1, ⟨xs, sqt_same S1.frozen h3⟩, h1.here S1 (itt_ok h3 h4)⟩
    | _ => exact h1.elim)
end
end Qx

/-! Own layer Q6: comprehensions, methods of lists, built-ins, isinstance. -/
namespace Qx
open PySem PySem.Spec PyProof.Rows L2 Gx
/-! ### comprehensions -/
def wipeP (s : Slots) : List Nat → Slots
  | [] => s
  | v :: vs => (wipeP s vs).set v none
theorem wipe_get (σ : L2.St) : ∀ (vs : List Nat) (i : Nat), (wipe σ vs)[i]? = if i ∈ vs then σ[i]?.map (fun _ => none) else σ[i]?
  | [], i => by simp [wipe]
  | v :: vs, i => by
    show ((wipe σ vs).set v none)[i]? = _
    rw [List.getElem?_set, wipe_length]
    by_cases c : v = i
    · subst c
      rw [if_pos rfl, if_pos List.mem_cons_self]
      by_cases d : v < σ.length
      · rw [if_pos d, List.getElem?_eq_getElem d]; rfl
      · rw [if_neg d, List.getElem?_eq_none (Nat.le_of_not_lt d)]; rfl
    · rw [if_neg c, wipe_get σ vs i]
      have e : i ∈ v :: vs ↔ i ∈ vs := by
        simp only [List.mem_cons]
        constructor
        · rintro (h | h)
          · exact absurd h.symm c
          · exact h
        · exact .inr
      simp only [e]
theorem wipe_wipe {σ : L2.St} {vs : List Nat} : wipe (wipe σ vs) vs = wipe σ vs := by
  apply List.ext_getElem?
  intro i
  rw [wipe_get, wipe_get]
  by_cases c : i ∈ vs
  · simp only [c, if_true, Option.map_map]; rfl
  · simp only [c, if_false]
theorem wipe_set {σ : L2.St} {vs : List Nat} {n : Nat} {x : Option V} (h : n ∈ vs) : wipe (σ.set n x) vs = wipe σ vs := by
  apply List.ext_getElem?
  intro i
  rw [wipe_get, wipe_get, List.getElem?_set]
  by_cases c : i ∈ vs
  · simp only [c, if_true]
    by_cases d : n = i
    · subst d
      by_cases e : n < σ.length
      · simp [e, List.getElem?_eq_getElem e]
      · simp [e, List.getElem?_eq_none (Nat.le_of_not_lt e)]
    · simp [d]
  · simp only [c, if_false]
    rw [if_neg fun e => c (by rw [← e]; exact h)]
theorem SlR.wipe {K : PySem.W.Frag} {ι : List Addr} {G : Hp} {σ : L2.St} {s : Slots} (L : SlR K ι G σ s) : ∀ vs : List Nat, SlR K ι G (L2.wipe σ vs) (wipeP s vs)
  | [] => L
  | v :: vs => (SlR.wipe L vs).set0 v
def GW (g : TG) (vs : List Nat) : Prop := ∀ v σ H Q, g v σ H Q → g v σ H fun σ2 H2 => L2.wipe σ2 vs = L2.wipe σ vs ∧ Q σ2 H2
theorem gw_nm {n : Nat} {vs : List Nat} (h : n ∈ vs) : GW (gName n) vs := fun v σ H Q q => ⟨wipe_set h, q⟩
theorem mg_nm {n : Nat} : ∀ v σ H (Q Q' : L2.St → Hp → Prop), (∀ σ H, Q σ H → Q' σ H) → gName n v σ H Q → gName n v σ H Q' := fun _ _ _ _ _ h q => h _ _ q
noncomputable def compL (g : Option (Nat × List PV)) (tgt : GF) (t : TF) (e : EF) (s0 : Slots) : List PV → List PV → Sto → PR (List PV)
  | [], acc, O => chk g O .bad (.ok acc O)
  | p :: r, acc, O => chk g O .bad ((tgt p s0 O).bind fun s1 O1 => (t s1 O1).bind fun b O2 => if b = true then (e s1 O2).bind fun q O3 => if szLt acc.length = true then compL g tgt t e s0 r (acc ++ [q]) O3 else .bad else compL g tgt t e s0 r acc O2)
noncomputable def lcC (f : IF) (tgt : GF) (t : TF) (e : EF) (vs : List Nat) : AF := fun s O => (f s O).bind fun it O1 => noX (compL it.2 tgt t e (wipeP s vs) it.1 [] O1)
noncomputable def eLc (f : IF) (tgt : GF) (t : TF) (e : EF) (vs : List Nat) : EF := fun s O => (lcC f tgt t e vs s O).bind fun ps O1 => .ok (.lst ps) O1
noncomputable def eLcO (f : IF) (tgt : GF) (t : TF) (e : EF) (vs : List Nat) : EF := fun s O => (lcC f tgt t e vs s O).bind fun ps O1 => .ok (.loc O1.length) (O1 ++ [some (.lst ps)])
section
variable {K : PySem.W.Frag} {E : XM} {wi : TI} {fI : IF} {g : TG} {tgt : GF} {tt : TT} {ft : TF} {te : TE} {fe : EF} {vs : List Nat}
theorem lc_core {R : List (Addr × HO)} {ι : List Addr} {O : Sto} {H : Hp} {σ : L2.St} {s : Slots} {Q : VK} {k : List PV → Sto → PR PV} (hw : GW g vs) (mg : ∀ v σ H (Q Q' : L2.St → Hp → Prop), (∀ σ H, Q σ H → Q' σ H) → g v σ H Q → g v σ H Q') (hi : SimIt K E wi fI) (hg : SimG0 K g tgt) (ht : SimT K none tt ft) (he : SimE K none te fe)
    (S : Sim K R ι O H) (L : SlR K ι (fz R ι O H) σ s) (h : Post K R (xat E σ) (Rep K) ι O H Q ((lcC fI tgt ft fe vs s O).bind k))
    (fin : ∀ D ps xs ι' O' H', Sim K ((D, .lst xs) :: R) ι' O' H' → Pre ι ι' → Same (fz R ι O H) (fz ((D, .lst xs) :: R) ι' O' H') → RepL K ι' (fz ((D, .lst xs) :: R) ι' O' H') ps xs → Post K R (xat E σ) (Rep K) ι O H Q (k ps O') → Q (.ref D) H') : tLc wi g tt te vs σ H Q := by
  unfold lcC at h
  have h0 : Post K R (xat E σ) (Rep K) ι O H Q ((fI s O).bind fun it O1 => (noX (compL it.2 tgt ft fe (wipeP s vs) it.1 [] O1)).bind k) := by
    cases e : fI s O with
    | ok it O1 => rw [e] at h; exact h
    | exc x O1 => rw [e] at h; exact h
    | bad => rw [e] at h; exact h
  refine hi R ι O H σ s _ S L ?_
  cases e0 : fI s O with
  | exc x O1 => rw [e0] at h0; exact h0
  | bad => rw [e0] at h0; exact h0
  | ok it O1 =>
    rw [e0] at h0
    intro J ι1 H1 S1 X1 ok D hD
    obtain ⟨items, gd⟩ := it
    have ok : ItOk K J items gd ι1 (fz R ι1 O1 H1) := ok
    cases ec : compL gd tgt ft fe (wipeP s vs) items [] O1 with
    | exc x O2 => rw [show ((PR.ok (items, gd) O1).bind fun it O1 => (noX (compL it.2 tgt ft fe (wipeP s vs) it.1 [] O1)).bind k) = (noX (compL gd tgt ft fe (wipeP s vs) items [] O1)).bind k from rfl, ec] at h0; exact h0.elim
    | bad => rw [show ((PR.ok (items, gd) O1).bind fun it O1 => (noX (compL it.2 tgt ft fe (wipeP s vs) it.1 [] O1)).bind k) = (noX (compL gd tgt ft fe (wipeP s vs) items [] O1)).bind k from rfl, ec] at h0; exact h0.elim
    | ok ps Of =>
      rw [show ((PR.ok (items, gd) O1).bind fun it O1 => (noX (compL it.2 tgt ft fe (wipeP s vs) it.1 [] O1)).bind k) = (noX (compL gd tgt ft fe (wipeP s vs) items [] O1)).bind k from rfl, ec] at h0
      have h0 : Post K R (xat E σ) (Rep K) ι O H Q (k ps Of) := h0
      refine ⟨fun i m H' => m = items.length - i ∧ i ≤ items.length ∧ ∃ acc xs ι' O', Sim K ((D, .lst xs) :: R) ι' O' H' ∧ Pre ι1 ι' ∧ Same (fz R ι1 O1 H1) (fz ((D, .lst xs) :: R) ι' O' H') ∧ RepL K ι' (fz ((D, .lst xs) :: R) ι' O' H') acc xs ∧ compL gd tgt ft fe (wipeP s vs) (items.drop i) acc O' = .ok ps Of, ?_, ?_⟩
      · obtain ⟨S2, e2⟩ := S1.hide_new hD (.lst [])
        exact ⟨_, rfl, Nat.zero_le _, [], [], ι1, O1, S2, .refl, by rw [e2]; exact same_refl, rfl, ec⟩
      · rintro i m H' ⟨rfl, hi', acc, xs, ι', O', S', P', M', r', c'⟩
        by_cases hlt : i < items.length
        · have ep : items[i]? = some items[i] := List.getElem?_eq_getElem hlt
          rw [drop_get ep] at c'
          unfold compL at c'
          rcases chk_or gd O' (PR.bad) ((tgt items[i] (wipeP s vs) O').bind fun s1 O1 => (ft s1 O1).bind fun b O2 => if b = true then (fe s1 O2).bind fun q O3 => if szLt acc.length = true then compL gd tgt ft fe (wipeP s vs) (items.drop (i + 1)) (acc ++ [q]) O3 else .bad else compL gd tgt ft fe (wipeP s vs) (items.drop (i + 1)) acc O2) with ⟨gok, e⟩ | e
          · rw [e] at c'
            obtain ⟨go, yl⟩ := (ok _ ι' O' H' S' P' M' gok i).1 _ ep
            refine .inr ⟨go, fun H2 => ∃ m', m' < items.length - i ∧ (m' = items.length - (i + 1) ∧ i + 1 ≤ items.length ∧ ∃ acc xs ι' O', Sim K ((D, .lst xs) :: R) ι' O' H2 ∧ Pre ι1 ι' ∧ Same (fz R ι1 O1 H1) (fz ((D, .lst xs) :: R) ι' O' H2) ∧ RepL K ι' (fz ((D, .lst xs) :: R) ι' O' H2) acc xs ∧ compL gd tgt ft fe (wipeP s vs) (items.drop (i + 1)) acc O' = .ok ps Of), fun H2 z => z, fun x H2 y => ?_⟩
            obtain ⟨ι2, S2, X2, r2⟩ := yl x H2 y
            have M2 := same_trans M' X2.same
            have Lw : SlR K ι2 (fz ((D, .lst xs) :: R) ι2 O' H2) (L2.wipe σ vs) (wipeP s vs) := by
              have q := (L.ext X1).wipe vs
              exact ⟨q.1, fun i p e => let ⟨v, h1, h2⟩ := q.2 i p e; ⟨v, h1, h2.mono (P'.trans X2.pre) M2⟩⟩
            obtain ⟨s3, O3, e3, c3⟩ := PR.bind_ok c'
            obtain ⟨b, O4, e4, c4⟩ := PR.bind_ok c3
            have hgo : g x (L2.wipe σ vs) H2 fun σ2 H2 => tt σ2 H2 fun b H3 => if b = true then te σ2 H3 fun y H4 => ∃ acc, H4 D = some (.lst acc) ∧ acc.length < sizeLine ∧ (∃ m', m' < items.length - i ∧ (m' = items.length - (i + 1) ∧ i + 1 ≤ items.length ∧ ∃ acc' xs ι' O', Sim K ((D, .lst xs) :: R) ι' O' (upd H4 D (.lst (acc ++ [y]))) ∧ Pre ι1 ι' ∧ Same (fz R ι1 O1 H1) (fz ((D, .lst xs) :: R) ι' O' (upd H4 D (.lst (acc ++ [y])))) ∧ RepL K ι' (fz ((D, .lst xs) :: R) ι' O' (upd H4 D (.lst (acc ++ [y])))) acc' xs ∧ compL gd tgt ft fe (wipeP s vs) (items.drop (i + 1)) acc' O' = .ok ps Of)) else (∃ m', m' < items.length - i ∧ (m' = items.length - (i + 1) ∧ i + 1 ≤ items.length ∧ ∃ acc xs ι' O', Sim K ((D, .lst xs) :: R) ι' O' H3 ∧ Pre ι1 ι' ∧ Same (fz R ι1 O1 H1) (fz ((D, .lst xs) :: R) ι' O' H3) ∧ RepL K ι' (fz ((D, .lst xs) :: R) ι' O' H3) acc xs ∧ compL gd tgt ft fe (wipeP s vs) (items.drop (i + 1)) acc O' = .ok ps Of)) := by
              refine hg _ ι2 O' H2 _ (wipeP s vs) _ x none _ S2 Lw r2 ?_
              rw [e3]
              intro σ3 ι3 H3 S3 X3 L3
              refine ht _ ι3 O3 H3 σ3 s3 _ S3 L3 ?_
              rw [e4]
              intro b' ι4 H4 S4 X4 eb
              subst eb
              have M4 := same_trans M2 (same_trans X3.same X4.same)
              have P4 := P'.trans (X2.pre.trans (X3.pre.trans X4.pre))
              cases b with
              | false => exact ⟨_, by omega, rfl, by omega, acc, xs, ι4, O4, S4, P4, M4, r'.mono (X2.pre.trans (X3.pre.trans X4.pre)) (same_trans X2.same (same_trans X3.same X4.same)), c4⟩
              | true =>
                simp only [if_true] at c4
                obtain ⟨q, O5, e5, c5⟩ := PR.bind_ok c4
                refine he _ ι4 O4 H4 σ3 s3 _ S4 (L3.ext X4) ?_
                rw [e5]
                intro y ι5 H5 S5 X5 r5
                by_cases cz : szLt acc.length = true
                · rw [if_pos cz] at c5
                  have hD5 := S5.hid (D, .lst xs) List.mem_cons_self
                  obtain ⟨S6, e6⟩ := S5.hid_set (.lst (xs ++ [y]))
                  have M5 := same_trans M4 X5.same
                  have rr := r'.mono (X2.pre.trans (X3.pre.trans (X4.pre.trans X5.pre))) (same_trans X2.same (same_trans X3.same (same_trans X4.same X5.same)))
                  refine ⟨xs, hD5, by rw [r'.len]; exact szLt_lt cz, _, by omega, rfl, by omega, acc ++ [q], xs ++ [y], ι5, O5, S6, P4.trans X5.pre, by rw [e6]; exact M5, by rw [e6]; exact rr.app (.one r5), c5⟩
                · rw [if_neg cz] at c5; cases c5
            have q := hw x _ _ _ hgo
            refine mg _ _ _ _ _ ?_ q
            intro σ2 H2 z
            exact ⟨z.1.trans wipe_wipe, z.2⟩
          · rw [e] at c'; cases c'
        · have e0 : items.drop i = [] := List.drop_eq_nil_of_le (Nat.le_of_not_lt hlt)
          rw [e0] at c'
          unfold compL at c'
          rcases chk_or gd O' PR.bad (.ok acc O') with ⟨gok, e⟩ | e
          · rw [e] at c'
            cases c'
            exact .inl ⟨(ok _ ι' _ H' S' P' M' gok i).2 (Nat.le_of_not_lt hlt), fin D _ xs ι' _ H' S' (X1.pre.trans P') (same_trans X1.same M') r' h0⟩
          · rw [e] at c'; cases c'
theorem sim_lc (hw : GW g vs) (mg : ∀ v σ H (Q Q' : L2.St → Hp → Prop), (∀ σ H, Q σ H → Q' σ H) → g v σ H Q → g v σ H Q') (hi : SimIt K E wi fI) (hg : SimG0 K g tgt) (ht : SimT K none tt ft) (he : SimE K none te fe) : SimE K E (tLc wi g tt te vs) (eLc fI tgt ft fe vs) := fun R ι O H σ s Q S L h =>
  lc_core hw mg hi hg ht he S L h fun D ps xs ι' O' H' S' P M r h' => by
    obtain ⟨S2, M2, e2⟩ := S'.unhide
    exact h'.at S2 ⟨P, same_trans M M2⟩ ⟨D, xs, rfl, e2, r.mono .refl M2⟩
end
/-! ### methods of lists -/
def MtP (K : PySem.W.Frag) (r : V → List V → Hp → VK → Prop) (f : PV → List PV → Sto → PR PV) : Prop := ∀ R ι O H p ps x xs E Q, Sim K R ι O H → Rep K ι (fz R ι O H) p x → RepL K ι (fz R ι O H) ps xs → Post K R E (Rep K) ι O H Q (f p ps O) → r x xs H Q
def eBml (f : PV → List PV → Sto → PR PV) (o : EF) (a : AF) : EF := fun s O => (o s O).bind fun p O1 => if (lstOf O1 p).isSome = true then (a s O1).bind fun ps O2 => f p ps O2 else .bad
def locL (O : Sto) : PV → Option (Nat × List PV)
  | .loc n => match O[n]? with
    | some (some (.lst ps)) => some (n, ps)
    | _ => none
  | _ => none
def appendP (p : PV) (qs : List PV) (O : Sto) : PR PV := match locL O p, qs with
  | some (n, ps), [q] => if szLt ps.length = true then .ok .non (O.set n (some (.lst (ps ++ [q])))) else .bad
  | _, _ => .bad
section
variable {K : PySem.W.Frag} {E : XM} {to : TE} {fo : EF} {tA : TA} {fA : AF} {r : V → List V → Hp → VK → Prop} {f : PV → List PV → Sto → PR PV}
theorem sim_bml (hf : MtP K r f) (ho : SimE K E to fo) (hA : SimA K E tA fA) : SimE K E (tBM K "list" r to tA) (eBml f fo fA) := fun R ι O H σ s Q S L h =>
  ho R ι O H σ s _ S L (h.bind fun p O1 x ι1 H1 S1 X1 r1 h1 => by
    split at h1
    · rename_i c
      obtain ⟨ps, e⟩ := Option.isSome_iff_exists.mp c
      obtain ⟨a, xs, e1, h3, h4⟩ := lst_read S1 r1 e
      refine ⟨by rw [e1]; exact Or.inl ⟨rfl, xs, h3⟩, hA R ι1 O1 H1 σ s _ S1 (L.ext X1) (h1.bind fun qs O2 ys ι2 H2 S2 X2 r2 h2 => hf R ι2 O2 H2 p qs x ys _ _ S2 (X2.rep r1) r2 h2)⟩
    · exact h1.elim)
end
end Qx

/-! Own layer Q7: built-ins, isinstance, further statements. -/
namespace Qx
open PySem PySem.Spec PyProof.Rows L2 Gx
def intsOf : List PV → Option (List Int)
  | [] => some []
  | .int i :: r => (intsOf r).map (i :: ·)
  | _ => none
def blsOf : List PV → Option (List Bool)
  | [] => some []
  | .bl i :: r => (blsOf r).map (i :: ·)
  | _ => none
def strsOf : List PV → Option (List Str)
  | [] => some []
  | .str i :: r => (strsOf r).map (i :: ·)
  | _ => none
theorem intsOf_map : ∀ ns : List Int, intsOf (ns.map PV.int) = some ns
  | [] => rfl
  | n :: ns => by simp only [List.map_cons, intsOf, intsOf_map ns, Option.map_some]
theorem blsOf_map : ∀ ns : List Bool, blsOf (ns.map PV.bl) = some ns
  | [] => rfl
  | n :: ns => by simp only [List.map_cons, blsOf, blsOf_map ns, Option.map_some]
theorem of_intsOf : ∀ {ps : List PV} {ns : List Int}, intsOf ps = some ns → ps = ns.map PV.int
  | [], ns, h => by cases h; rfl
  | .int i :: r, ns, h => by
    simp only [intsOf] at h
    obtain ⟨ms, h1, h2⟩ := Option.map_eq_some_iff.mp h
    subst h2
    rw [of_intsOf h1]
    rfl
  | .non :: _, _, h => by cases h
  | .bl _ :: _, _, h => by cases h
  | .str _ :: _, _, h => by cases h
  | .ty _ :: _, _, h => by cases h
  | .cls _ :: _, _, h => by cases h
  | .tup _ :: _, _, h => by cases h
  | .xtp _ :: _, _, h => by cases h
  | .lst _ :: _, _, h => by cases h
  | .rol _ :: _, _, h => by cases h
  | .ins _ _ _ :: _, _, h => by cases h
  | .rng _ _ :: _, _, h => by cases h
  | .loc _ :: _, _, h => by cases h
  | .dic _ _ :: _, _, h => by cases h
  | .dtk _ _ :: _, _, h => by cases h
  | .fn _ :: _, _, h => by cases h
  | .tbl _ :: _, _, h => by cases h
  | .xc _ _ _ :: _, _, h => by cases h
theorem of_blsOf : ∀ {ps : List PV} {ns : List Bool}, blsOf ps = some ns → ps = ns.map PV.bl
  | [], ns, h => by cases h; rfl
  | .bl i :: r, ns, h => by
    simp only [blsOf] at h
    obtain ⟨ms, h1, h2⟩ := Option.map_eq_some_iff.mp h
    subst h2
    rw [of_blsOf h1]
    rfl
  | .non :: _, _, h => by cases h
  | .int _ :: _, _, h => by cases h
  | .str _ :: _, _, h => by cases h
  | .ty _ :: _, _, h => by cases h
  | .cls _ :: _, _, h => by cases h
  | .tup _ :: _, _, h => by cases h
  | .xtp _ :: _, _, h => by cases h
  | .lst _ :: _, _, h => by cases h
  | .rol _ :: _, _, h => by cases h
  | .ins _ _ _ :: _, _, h => by cases h
  | .rng _ _ :: _, _, h => by cases h
  | .loc _ :: _, _, h => by cases h
  | .dic _ _ :: _, _, h => by cases h
  | .dtk _ _ :: _, _, h => by cases h
  | .fn _ :: _, _, h => by cases h
  | .tbl _ :: _, _, h => by cases h
  | .xc _ _ _ :: _, _, h => by cases h
theorem rep_map {α : Type} {K : PySem.W.Frag} {ι : List Addr} {G : Hp} {f : α → PV} {g : α → V} (hf : ∀ a v, Rep K ι G (f a) v → v = g a) : ∀ {as : List α} {xs : List V}, RepL K ι G (as.map f) xs → xs = as.map g
  | [], xs, h => h
  | a :: as, _, ⟨x, r, e, h1, h2⟩ => by rw [e, hf a x h1, rep_map hf h2]; rfl
theorem rep_ints {K : PySem.W.Frag} {ι : List Addr} {G : Hp} {ps : List PV} {ns : List Int} {xs : List V} (e : intsOf ps = some ns) (r : RepL K ι G ps xs) : xs = ns.map V.int := by
  rw [of_intsOf e] at r
  exact rep_map (f := PV.int) (g := V.int) (fun _ _ h => h) r
theorem rep_bls {K : PySem.W.Frag} {ι : List Addr} {G : Hp} {ps : List PV} {ns : List Bool} {xs : List V} (e : blsOf ps = some ns) (r : RepL K ι G ps xs) : xs = ns.map V.bl := by
  rw [of_blsOf e] at r
  exact rep_map (f := PV.bl) (g := V.bl) (fun _ _ h => h) r
/-! ### built-ins -/
def b1 (f : PV → Sto → PR PV) (ps : List PV) (O : Sto) : PR PV := match ps with
  | [p] => f p O
  | _ => .bad
def b2 (f : PV → PV → Sto → PR PV) (ps : List PV) (O : Sto) : PR PV := match ps with
  | [p, q] => f p q O
  | _ => .bad
def bIs (f : List Int → Option PV) : List PV → Sto → PR PV := b1 fun p O => match (lstOf O p).bind intsOf with
  | some ns => match f ns with
    | some q => .ok q O
    | none => .bad
  | none => .bad
def bBs (f : List Bool → PV) : List PV → Sto → PR PV := b1 fun p O => match (lstOf O p).bind blsOf with
  | some ns => .ok (f ns) O
  | none => .bad
def bMax2 := b2 fun p q O => match p, q with
  | .int i, .int j => .ok (.int (max i j)) O
  | _, _ => .bad
def bMin2 := b2 fun p q O => match p, q with
  | .int i, .int j => .ok (.int (min i j)) O
  | _, _ => .bad
def bSum := bIs fun ns => some (.int ns.sum)
def bAll := bBs fun bs => .bl (bs.all id)
def bAny := bBs fun bs => .bl (bs.any id)
def bAbs := b1 fun p O => match p with
  | .int i => .ok (.int (if i < 0 then -i else i)) O
  | _ => .bad
def bInt := b1 fun p O => match p with
  | .int i => .ok (.int i) O
  | .bl k => .ok (.int (if k then 1 else 0)) O
  | _ => .bad
def seqOf (O : Sto) (p : PV) : Option (List PV) := match lstOf O p with
  | some ps => some ps
  | none => tupOf p
def bLen := b1 fun p O => match seqOf O p with
  | some ps => .ok (.int ps.length) O
  | none => .bad
def bLenR := b1 fun p O => match p with
  | .rng i j => if (decide (i ≤ j) && decide (j - i < 2 ^ 63)) = true then .ok (.int (j - i)) O else .bad
  | _ => .bad
def bRng := b2 fun p q O => match p, q with
  | .int i, .int j => .ok (.rng i j) O
  | _, _ => .bad
def bTup := b1 fun p O => match lstOf O p with
  | some ps => .ok (.tup ps) O
  | none => match p with
    | .tup ps => .ok (.tup ps) O
    | _ => .bad
def bLstO := b1 fun p O => match seqOf O p with
  | some ps => .ok (.loc O.length) (O ++ [some (.lst ps)])
  | none => .bad
def bDivmod := b2 fun p q O => match p, q with
  | .int i, .int j => if divOk i j = true then .ok (.tup [.int (i / j), .int (i % j)]) O else .bad
  | _, _ => .bad
section
variable {K : PySem.W.Frag}
theorem cb_1 {r : List V → Hp → VK → Prop} {f : PV → Sto → PR PV} (h : ∀ R ι O H p x E Q, Sim K R ι O H → Rep K ι (fz R ι O H) p x → Post K R E (Rep K) ι O H Q (f p O) → r [x] H Q) : CbS K r (b1 f) := by
  intro R ι O H ps xs E Q S r1 h1
  match ps, h1, r1 with
  | [], h1, _ => exact h1.elim
  | _ :: _ :: _, h1, _ => exact h1.elim
  | [p], h1, ⟨x, t, e, r2, e2⟩ =>
    cases e2
    subst e
    exact h R ι O H p x E Q S r2 h1
theorem cb_2 {r : List V → Hp → VK → Prop} {f : PV → PV → Sto → PR PV} (h : ∀ R ι O H p q x y E Q, Sim K R ι O H → Rep K ι (fz R ι O H) p x → Rep K ι (fz R ι O H) q y → Post K R E (Rep K) ι O H Q (f p q O) → r [x, y] H Q) : CbS K r (b2 f) := by
  intro R ι O H ps xs E Q S r1 h1
  match ps, h1, r1 with
  | [], h1, _ => exact h1.elim
  | [_], h1, _ => exact h1.elim
  | _ :: _ :: _ :: _, h1, _ => exact h1.elim
  | [p, q], h1, ⟨x, t, e, r2, y, t2, e2, r3, e3⟩ =>
    cases e3
    subst e2
    subst e
    exact h R ι O H p q x y E Q S r2 r3 h1
theorem cb_is {r : List V → Hp → VK → Prop} {f : List Int → Option PV} (h : ∀ a (ns : List Int) H Q q, SqL K H a (ns.map V.int) → f ns = some q → (∀ v, (∀ ι G, Rep K ι G q v) → Q v H) → r [.ref a] H Q) (hs : ∀ ns q, f ns = some q → ∃ v, ∀ ι G x, Rep K ι G q x ↔ x = v) : CbS K r (bIs f) := cb_1 fun R ι O H p x E Q S r1 h1 => by
  cases e : (lstOf O p).bind intsOf with
  | none => simp [e] at h1; exact h1.elim
  | some ns =>
    simp only [e] at h1
    cases e2 : f ns with
    | none => simp [e2] at h1; exact h1.elim
    | some q =>
      simp only [e2] at h1
      obtain ⟨ps, e3, e4⟩ := Option.bind_eq_some_iff.mp e
      obtain ⟨a, xs, h2, h3, h4⟩ := lst_read S r1 e3
      subst h2
      rw [rep_ints e4 h4] at h3
      exact h a ns H Q q h3 e2 fun v hv => h1.here S (hv _ _)
theorem cb_bs {r : List V → Hp → VK → Prop} {f : List Bool → Bool} (h : ∀ a (ns : List Bool) H Q, SqL K H a (ns.map V.bl) → Q (.bl (f ns)) H → r [.ref a] H Q) : CbS K r (bBs fun bs => .bl (f bs)) := cb_1 fun R ι O H p x E Q S r1 h1 => by
  cases e : (lstOf O p).bind blsOf with
  | none => simp [e] at h1; exact h1.elim
  | some ns =>
    simp only [e] at h1
    obtain ⟨ps, e3, e4⟩ := Option.bind_eq_some_iff.mp e
    obtain ⟨a, xs, h2, h3, h4⟩ := lst_read S r1 e3
    subst h2
    rw [rep_bls e4 h4] at h3
    exact h a ns H Q h3 (h1.here S rfl)
theorem cb_all : CbS K (rAll K) bAll := cb_bs fun a ns H Q h1 h2 => ⟨a, ns, rfl, h1, h2⟩
theorem one_int {n : Int} {q : PV} (e : some (PV.int n) = some q) : ∃ v, ∀ (ι : List Addr) G x, Rep K ι G q x ↔ x = v := by cases e; exact ⟨.int n, fun _ _ _ => Iff.rfl⟩
theorem cb_sum : CbS K (rSum K) bSum := cb_is (fun a ns H Q q h1 e h2 => by cases e; exact ⟨a, ns, rfl, h1, h2 _ fun _ _ => rfl⟩) fun ns q e => one_int e
theorem cb_max2 : CbS K (fun xs H Q => ∃ i j, xs = [.int i, .int j] ∧ Q (.int (max i j)) H) bMax2 := cb_2 fun R ι O H p q x y E Q S r1 r2 h => by
  cases p <;> cases q <;> first | exact h.elim | exact ⟨_, _, by rw [show x = _ from r1, show y = _ from r2], h.here S rfl⟩
theorem cb_min2 : CbS K (fun xs H Q => ∃ i j, xs = [.int i, .int j] ∧ Q (.int (min i j)) H) bMin2 := cb_2 fun R ι O H p q x y E Q S r1 r2 h => by
  cases p <;> cases q <;> first | exact h.elim | exact ⟨_, _, by rw [show x = _ from r1, show y = _ from r2], h.here S rfl⟩
theorem cb_abs : CbS K (fun xs H Q => ∃ i, xs = [.int i] ∧ Q (.int (if i < 0 then -i else i)) H) bAbs := cb_1 fun R ι O H p x E Q S r1 h => by
  cases p <;> first | exact h.elim | exact ⟨_, by rw [show x = _ from r1], h.here S rfl⟩
theorem seq_read {R : List (Addr × HO)} {ι : List Addr} {O : Sto} {H : Hp} {p : PV} {x : V} {ps : List PV} (S : Sim K R ι O H) (r : Rep K ι (fz R ι O H) p x) (e : seqOf O p = some ps) : ∃ a xs, x = .ref a ∧ (SqL K H a xs ∨ SqT K H a xs) ∧ RepL K ι (fz R ι O H) ps xs := by
  unfold seqOf at e
  cases e1 : lstOf O p with
  | some qs =>
    simp only [e1, Option.some.injEq] at e
    subst e
    obtain ⟨a, xs, h1, h2, h3⟩ := lst_read S r e1
    exact ⟨a, xs, h1, .inl h2, h3⟩
  | none =>
    simp only [e1] at e
    obtain ⟨a, xs, h1, h2, h3⟩ := tup_read S r e
    exact ⟨a, xs, h1, .inr h2, h3⟩
theorem cb_len : CbS K (fun xs H Q => ∃ p ys, xs = [.ref p] ∧ (SqL K H p ys ∨ SqT K H p ys) ∧ Q (.int ys.length) H) bLen := cb_1 fun R ι O H p x E Q S r1 h => by
  cases e : seqOf O p with
  | none => simp [e] at h; exact h.elim
  | some ps =>
    simp only [e] at h
    obtain ⟨a, xs, h1, h2, h3⟩ := seq_read S r1 e
    exact ⟨a, xs, by rw [h1], h2, by rw [h3.len]; exact h.here S rfl⟩
theorem cb_lenR : CbS K (fun vs H Q => ∃ a i j, vs = [V.ref a] ∧ H a = some (.rng i j) ∧ i ≤ j ∧ j - i < 2 ^ 63 ∧ Q (.int (j - i)) H) bLenR := cb_1 fun R ι O H p x E Q S r1 h => by
  cases p <;> first | exact h.elim | skip
  rename_i i j
  simp only at h
  split at h
  · rename_i c
    obtain ⟨c1, c2⟩ := Bool.and_eq_true_iff.mp c
    obtain ⟨a, e1, e2⟩ := r1
    exact ⟨a, i, j, by rw [e1], S.frozen _ _ e2, of_decide_eq_true c1, of_decide_eq_true c2, h.here S rfl⟩
  · exact h.elim
theorem cb_rng : CbS K (fun vs H Q => ∃ i j, vs = [V.int i, V.int j] ∧ ∀ p, H p = none → Q (.ref p) (upd H p (.rng i j))) bRng := cb_2 fun R ι O H p q x y E Q S r1 r2 h => by
  cases p <;> cases q <;> first | exact h.elim | skip
  rename_i i j
  refine ⟨i, j, by rw [show x = _ from r1, show y = _ from r2], fun o ho => ?_⟩
  obtain ⟨S2, X2, e2⟩ := S.newF ho (.rng i j)
  exact h.at S2 X2 ⟨o, rfl, e2⟩
theorem cb_tup : CbS K (rTupOf K) bTup := cb_1 fun R ι O H p x E Q S r1 h => by
  cases e : lstOf O p with
  | some ps =>
    simp only [e] at h
    obtain ⟨a, xs, h1, h2, h3⟩ := lst_read S r1 e
    refine ⟨a, xs, by rw [h1], .inl ⟨h2, fun o ho => ?_⟩⟩
    obtain ⟨S2, X2, e2⟩ := S.newF ho (.tup xs)
    exact h.at S2 X2 ⟨o, xs, rfl, SqT.of e2, X2.repL h3⟩
  | none =>
    simp only [e] at h
    cases p <;> first | exact h.elim | skip
    obtain ⟨a, xs, h1, h2, h3⟩ := tup_read S r1 rfl
    refine ⟨a, xs, by rw [h1], .inr ⟨h2, ?_⟩⟩
    rw [← h1]
    exact h.here S r1
theorem cb_lstO : CbS K (fun xs H Q => ∃ p ys, xs = [.ref p] ∧ (SqL K H p ys ∨ SqT K H p ys) ∧ ∀ l, H l = none → Q (.ref l) (upd H l (.lst ys))) bLstO := cb_1 fun R ι O H p x E Q S r1 h => by
  cases e : seqOf O p with
  | none => simp [e] at h; exact h.elim
  | some ps =>
    simp only [e] at h
    obtain ⟨a, xs, h1, h2, h3⟩ := seq_read S r1 e
    refine ⟨a, xs, by rw [h1], h2, fun o ho => ?_⟩
    obtain ⟨S2, X2⟩ := S.newO (p := .lst ps) ho (o := .lst xs) ⟨_, rfl, h3⟩
    exact h.at S2 X2 ⟨o, rfl, new_at S.len⟩
end
/-! ### in -/
def scVs : List PV → Option (List V)
  | [] => some []
  | p :: ps => match scV p, scVs ps with
    | some v, some vs => some (v :: vs)
    | _, _ => none
theorem scVs_rep {K : PySem.W.Frag} {ι : List Addr} {G : Hp} : ∀ {ps : List PV} {vs xs : List V}, scVs ps = some vs → RepL K ι G ps xs → xs = vs
  | [], vs, xs, e, r => by cases e; exact r
  | p :: ps, vs, xs, e, ⟨x, t, e1, r1, r2⟩ => by
    unfold scVs at e
    cases e2 : scV p with
    | none => simp [e2] at e
    | some v =>
      cases e3 : scVs ps with
      | none => simp [e2, e3] at e
      | some ws =>
        simp only [e2, e3, Option.some.injEq] at e
        subst e
        rw [e1, scV_rep e2 r1, scVs_rep e3 r2]
def inS (neg : Bool) (p q : PV) (O : Sto) : PR PV := match scV p, (seqOf O q).bind scVs with
  | some v, some vs => if (flatV v && vs.all flatV) = true then .ok (.bl (if neg then !inV v vs else inV v vs)) O else .bad
  | _, _ => .bad
theorem os_inS {K : PySem.W.Frag} {neg : Bool} : OpS K (rIn K neg) (inS neg) := by
  intro R ι O H p q x y E Q S r1 r2 h
  unfold inS at h
  cases e1 : scV p with
  | none => simp [e1] at h; exact h.elim
  | some v =>
    cases e2 : (seqOf O q).bind scVs with
    | none => simp [e1, e2] at h; exact h.elim
    | some vs =>
      simp only [e1, e2] at h
      split at h
      · rename_i c
        obtain ⟨c1, c2⟩ := Bool.and_eq_true_iff.mp c
        obtain ⟨ps, e3, e4⟩ := Option.bind_eq_some_iff.mp e2
        obtain ⟨a, xs, h1, h2, h3⟩ := seq_read S r2 e3
        have ex := scVs_rep e4 h3
        subst ex
        have ev := scV_rep e1 r1
        subst ev
        exact ⟨a, xs, h1, h2, c1, c2, h.here S rfl⟩
      · exact h.elim
/-! ### isinstance -/
structure ClsK (K : PySem.W.Frag) (cs : List Str) : Prop where
  ins : ∀ C ∈ cs, InsK K (He.ga K C)
  bt : ∀ C ∈ cs, ∀ t ∈ KT, PySem.W.kitOne K (.type t) (.ref (He.ga K C)) = some false
  tb : ∀ C ∈ cs, ∀ t ∈ KT, PySem.W.kitOne K (.ref (He.ga K C)) (.type t) = some false
  cc : ∀ C ∈ cs, ∀ D ∈ cs, C ≠ D → PySem.W.kitOne K (.ref (He.ga K C)) (.ref (He.ga K D)) = some false
  ne : ∀ C ∈ cs, PySem.W.findIn K (.ref (He.ga K C)) "__ne__" = some (some (.builtin "object.__ne__"))
theorem ClsK.of {K : PySem.W.Frag} {cs : List Str} (e : exAll K cs = true) (hc : ∀ C ∈ cs, Cls K (He.ga K C)) : ClsK K cs := by
  unfold exAll at e
  obtain ⟨e1, e2⟩ := Bool.and_eq_true_iff.mp e
  obtain ⟨e3, e4⟩ := Bool.and_eq_true_iff.mp e2
  have one : ∀ C ∈ cs, exOne K cs C = true := fun C h => List.all_eq_true.mp e4 C h
  have sp : ∀ C ∈ cs, InsK K (He.ga K C) ∧ (∀ t ∈ KT, PySem.W.kitOne K (.type t) (.ref (He.ga K C)) = some false) ∧ (∀ t ∈ KT, PySem.W.kitOne K (.ref (He.ga K C)) (.type t) = some false) ∧ (∀ D ∈ cs, C ≠ D → PySem.W.kitOne K (.ref (He.ga K C)) (.ref (He.ga K D)) = some false) ∧ PySem.W.findIn K (.ref (He.ga K C)) "__ne__" = some (some (.builtin "object.__ne__")) := fun C h => by
    have o := one C h
    unfold exOne at o
    obtain ⟨o1, o⟩ := Bool.and_eq_true_iff.mp o
    obtain ⟨o2, o⟩ := Bool.and_eq_true_iff.mp o
    obtain ⟨o3, o⟩ := Bool.and_eq_true_iff.mp o
    obtain ⟨o4, o⟩ := Bool.and_eq_true_iff.mp o
    obtain ⟨o5, o6⟩ := Bool.and_eq_true_iff.mp o
    refine ⟨⟨hc C h, He.eqO_ok o1, He.eqO_ok e1, of_decide_eq_true e3, of_decide_eq_true o2⟩, fun t ht => of_decide_eq_true (List.all_eq_true.mp o3 t ht), fun t ht => of_decide_eq_true (List.all_eq_true.mp o4 t ht), fun D hD ne => ?_, He.eqO_ok o6⟩
    have q := List.all_eq_true.mp o5 D hD
    rcases Bool.or_eq_true_iff.mp q with q | q
    · exact absurd (of_decide_eq_true q) ne
    · exact of_decide_eq_true q
  exact ⟨fun C h => (sp C h).1, fun C h => (sp C h).2.1, fun C h => (sp C h).2.2.1, fun C h => (sp C h).2.2.2.1, fun C h => (sp C h).2.2.2.2⟩
def tyOf (O : Sto) (p : PV) : Option (Sum String Str) := match p with
  | .non => some (.inl "NoneType")
  | .bl _ => some (.inl "bool")
  | .int _ => some (.inl "int")
  | .str _ => some (.inl "str")
  | .tup _ => some (.inl "tuple")
  | .xtp _ => some (.inl "tuple")
  | .lst _ => some (.inl "list")
  | .rol _ => some (.inl "list")
  | .dic _ _ => some (.inl "dict")
  | .ins C _ _ => some (.inr C)
  | .loc n => match O[n]? with
    | some (some (.lst _)) => some (.inl "list")
    | some (some (.ins C _ _)) => some (.inr C)
    | some (some (.dic _ _)) => some (.inl "dict")
    | _ => none
  | _ => none
def kitP (cs : List Str) (t : Sum String Str) (c : PV) : Option Bool := match t, c with
  | .inl a, .ty b => kitB a b
  | .inl a, .cls C => if (cs.contains C && KT.contains a) = true then some false else none
  | .inr D, .ty b => if (cs.contains D && KT.contains b) = true then some false else none
  | .inr D, .cls C => if (cs.contains C && cs.contains D) = true then some (decide (D = C)) else none
  | _, _ => none
def isiP (cs : List Str) : List PV → Sto → PR PV := b2 fun p c O => match tyOf O p with
  | some t => match kitP cs t c with
    | some b => .ok (.bl b) O
    | none => .bad
  | none => .bad
section
variable {K : PySem.W.Frag} {cs : List Str}
def tyV' (K : PySem.W.Frag) : Sum String Str → Value
  | .inl a => .type a
  | .inr C => .ref (He.ga K C)
theorem sqt_ty {H : Hp} {a : Addr} {xs : List V} (h : SqT K H a xs) : TyX K H (.ref a) (.type "tuple") := by
  rcases h with (h | ⟨o, h⟩) | ⟨o, its, n, h1, h2, _⟩
  · exact .base (.tup h)
  · exact .fTuple h
  · exact .kTuple h1 h2
theorem sql_ty {H : Hp} {a : Addr} {xs : List V} (h : SqL K H a xs) : TyX K H (.ref a) (.type "list") := by
  rcases h with (h | ⟨o, h⟩) | ⟨o, its, n, h1, h2, _⟩
  · exact .base (.lst h)
  · exact .base (.frz h)
  · exact .kList h1 h2
theorem ty_read {R : List (Addr × HO)} {ι : List Addr} {O : Sto} {H : Hp} {p : PV} {x : V} {t : Sum String Str} (ck : ClsK K cs) (S : Sim K R ι O H) (r : Rep K ι (fz R ι O H) p x) (e : tyOf O p = some t) (hc : ∀ C, t = .inr C → C ∈ cs) : TyX K H x (tyV' K t) := by
  have insT : ∀ C ns ps, insOf O p = some (C, ns, ps) → t = .inr C → TyX K H x (tyV' K t) := fun C ns ps h1 h2 => by
    obtain ⟨a, dx, xs, g1, g2, _⟩ := ins_read S r h1
    have I := ck.ins C (hc C h2)
    rw [h2, g1]
    exact .base (.ins g2 I.cl I.ha I.hn I.htk I.hm)
  cases p with
  | non => cases e; rw [show x = _ from r]; exact .base .non
  | bl b => cases e; rw [show x = _ from r]; exact .base (.bl b)
  | int b => cases e; rw [show x = _ from r]; exact .base (.int b)
  | str b => cases e; rw [show x = _ from r]; exact .base (.str b)
  | tup ps =>
    cases e
    obtain ⟨a, xs, h1, h2, _⟩ := tup_read S r rfl
    rw [h1]; exact sqt_ty h2
  | xtp ps =>
    cases e
    obtain ⟨a, xs, h1, h2, _⟩ := tup_read S r rfl
    rw [h1]; exact sqt_ty h2
  | lst ps =>
    cases e
    obtain ⟨a, xs, h1, h2, _⟩ := lst_read S r rfl
    rw [h1]; exact sql_ty h2
  | rol ps =>
    cases e
    obtain ⟨a, xs, h1, h2, _⟩ := lst_read S r rfl
    rw [h1]; exact sql_ty h2
  | ins C ns ps => cases e; exact insT C ns ps rfl rfl
  | dic ks vs =>
    cases e
    obtain ⟨a, kvs, h1, h2, _⟩ := r
    rw [h1]; exact .base (.dK (S.frozen _ _ h2))
  | loc n =>
    unfold tyOf at e
    cases q : O[n]? with
    | none => simp [q] at e
    | some w =>
      cases w with
      | none => simp [q] at e
      | some w =>
        cases w with
        | lst ps =>
          simp only [q, Option.some.injEq] at e
          subst e
          obtain ⟨a, xs, h1, h2, _⟩ := lst_read S r (ps := ps) (by simp [lstOf, q])
          rw [h1]; exact sql_ty h2
        | ins C ns ps =>
          simp only [q, Option.some.injEq] at e
          exact insT C ns ps (by simp [insOf, q]) e.symm
        | dic ks vs =>
          simp only [q, Option.some.injEq] at e
          subst e
          obtain ⟨a, e1, e2⟩ := r
          obtain ⟨o, h3, kvs, h4, _⟩ := S.obj n a _ e2 q
          subst h4
          rw [e1]; exact .base (.dK h3)
        | _ => simp [q] at e
  | _ => cases e
theorem kit_read {t : Sum String Str} {c : PV} {y : V} {ι : List Addr} {G : Hp} {b : Bool} (ck : ClsK K cs) (e : kitP cs t c = some b) (r : Rep K ι G c y) : (∀ C, t = .inr C → C ∈ cs) ∧ ∃ u, ClsV y u ∧ PySem.W.kitOne K (tyV' K t) u = some b := by
  cases t with
  | inl a =>
    refine ⟨fun C h => (nomatch h), ?_⟩
    cases c <;> first | cases e | skip
    · rename_i n
      rw [show y = .ty n from r]
      exact ⟨.type n, .ty n, kit_ty e⟩
    · rename_i C
      rw [show y = .ref _ from r]
      unfold kitP at e
      simp only at e
      split at e
      · rename_i z
        obtain ⟨z1, z2⟩ := Bool.and_eq_true_iff.mp z
        cases e
        exact ⟨_, .own _, ck.bt C (List.contains_iff_mem.mp z1) a (List.contains_iff_mem.mp z2)⟩
      · cases e
  | inr D =>
    cases c <;> first | cases e | skip
    · rename_i n
      unfold kitP at e
      simp only at e
      split at e
      · rename_i z
        obtain ⟨z1, z2⟩ := Bool.and_eq_true_iff.mp z
        cases e
        rw [show y = .ty n from r]
        exact ⟨fun C h => by cases h; exact List.contains_iff_mem.mp z1, .type n, .ty n, ck.tb D (List.contains_iff_mem.mp z1) n (List.contains_iff_mem.mp z2)⟩
      · cases e
    · rename_i C
      unfold kitP at e
      simp only at e
      split at e
      · rename_i z
        obtain ⟨z1, z2⟩ := Bool.and_eq_true_iff.mp z
        cases e
        rw [show y = .ref _ from r]
        refine ⟨fun C' h => by cases h; exact List.contains_iff_mem.mp z2, _, .own _, ?_⟩
        by_cases q : D = C
        · subst q
          simp only [decide_true]
          unfold PySem.W.kitOne tyV'
          simp
        · rw [decide_eq_false q]
          exact ck.cc D (List.contains_iff_mem.mp z2) C (List.contains_iff_mem.mp z1) q
      · cases e
theorem cb_isi (ck : ClsK K cs) : CbS K (rIsi K) (isiP cs) := cb_2 fun R ι O H p q x y E Q S r1 r2 h => by
  cases e : tyOf O p with
  | none => simp [e] at h; exact h.elim
  | some t =>
    simp only [e] at h
    cases e2 : kitP cs t q with
    | none => simp [e2] at h; exact h.elim
    | some b =>
      simp only [e2] at h
      obtain ⟨h1, u, h2, h3⟩ := kit_read ck e2 r2
      exact ⟨x, y, _, u, b, rfl, h2, ty_read ck S r1 e h1, h3, h.here S rfl⟩
end
/-! ### further statements -/
def sPar (n m : Nat) (f : AF) : SF := fun s O => (f s O).toS s fun ps O1 => match ps with
  | [p, q] => .next ((s.set n (some p)).set m (some q)) O1
  | _ => .bad
def sPar3 (n m l : Nat) (f : AF) : SF := fun s O => (f s O).toS s fun ps O1 => match ps with
  | [p, q, r] => .next (((s.set n (some p)).set m (some q)).set l (some r)) O1
  | _ => .bad
def sAug (i : Nat) (op : PV → PV → Sto → PR PV) (f : EF) : SF := fun s O => match s[i]? with
  | some (some p) => (f s O).toS s fun q O1 => (op p q O1).toS s fun r O2 => .next (s.set i (some r)) O2
  | _ => .bad
section
variable {K : PySem.W.Frag} {E : XM} {tA : TA} {fA : AF} {te : TE} {fe : EF}
theorem sim_par {n m : Nat} (hA : SimA K E tA fA) : SimS K E (tPar n m tA) (sPar n m fA) := fun R ι O H σ s D S L h =>
  hA R ι O H σ s _ S L (h.lift L fun ps O1 xs ι1 H1 S1 X1 r1 h1 => by
    match ps, h1, r1 with
    | [], h1, _ => exact h1.elim
    | [_], h1, _ => exact h1.elim
    | _ :: _ :: _ :: _, h1, _ => exact h1.elim
    | [p, q], h1, ⟨x, t, e, r2, y, t2, e2, r3, e3⟩ =>
      cases e3
      subst e2
      subst e
      exact ⟨x, y, rfl, h1 _ ι1 H1 S1 .refl (((L.ext X1).set n r2).set m r3)⟩)
end
end Qx

/-! Own layer Q8: sorted sets of ints, never. -/
namespace Qx
open PySem PySem.Spec PyProof.Rows L2 Gx
theorem rp_int {K : PySem.W.Frag} {ι : List Addr} {G : Hp} {i : Int} : Rep K ι G (.int i) (.int i) := rfl
theorem rp_non {K : PySem.W.Frag} {ι : List Addr} {G : Hp} : Rep K ι G .non .non := rfl
def tYesP : TF := fun _ O => .ok true O
theorem sim_yesP {K : PySem.W.Frag} {E : XM} : SimT K E tYes tYesP := sim_yes
def gLstP (n : Nat) (gs : List PV → Slots → Sto → PR Slots) : GF := fun p s O => match lstOf O p with
  | some ps => if ps.length = n then gs ps s O else .bad
  | none => .bad
/-! ### sorted(set(..)) of ints -/
end Qx

/-! Own: zip of two sequences of any two kinds (a tuple and a list). -/
namespace Zx
open PySem PySem.Spec PyProof.Rows L2
open PySem.Sem (wp)
structure Kd where
  It : Heap → Addr → Addr → Nat → Prop
  Ls : Heap → Addr → Array Value → Prop
  ob : ∀ {h i l n}, It h i l n → ∃ o fs, h.get? i = some o ∧ o.data = .fields fs
  itk : ∀ {h h' i l n}, It h i l n → (∀ o, h.get? i = some o → h'.get? i = some o) → It h' i l n
  lsk : ∀ {h h' l xs}, Ls h l xs → (∀ o, h.get? l = some o → h'.get? l = some o) → Ls h' l xs
  nx : ∀ {prog : Program} {w : World} {A : Around} {E : Value → Shared → Prop} {s : Shared} {i l : Addr} {n : Nat} {xs : Array Value} {x : Value} {Q : Value → Shared → Prop}, It s.heap i l n → Ls s.heap l xs → xs[n]? = some x → (∀ h', It h' i l (n + 1) → Heap.SameBut i s.heap h' → Q x { s with heap := h' }) → wpAny (model prog w) A (Builtin.SmallTypes.nextOf (.ref i)) Q E s
  en : ∀ {prog : Program} {w : World} {A : Around} {E : Value → Shared → Prop} {s : Shared} {i l : Addr} {n : Nat} {xs : Array Value} {Q : Value → Shared → Prop}, A.handled = none → It s.heap i l n → Ls s.heap l xs → xs[n]? = none → (∀ h' e, Heap.ExtBut i s.heap h' → (∃ o, h'.get? e = some o ∧ o.cls = .type "StopIteration") → E (.ref e) { s with heap := h' }) → wpAny (model prog w) A (Builtin.SmallTypes.nextOf (.ref i)) Q E s
def kL : Kd := ⟨Heap.IsListIter, Heap.IsList, fun h => by obtain ⟨o, h1, _, h2⟩ := h; exact ⟨o, _, h1, h2⟩, fun h k => h.at k, fun h k => h.at k, fun a b c d => wpAny_nextOf_list_item a b c d, fun a b c d e => wpAny_nextOf_list_end a b c d e⟩
section
variable {prog : Program} {w : World} {A : Around} {E : Value → Shared → Prop} {s : Shared} {a b : Kd}
def Kept (z TO i j : Addr) (h h' : Heap) : Prop := ∀ c o, c ≠ z → c ≠ TO → c ≠ i → c ≠ j → h.get? c = some o → h'.get? c = some o
theorem item {z TI TO i j l m : Addr} {n : Nat} {xs ys : Array Value} {x y p q : Value} {Q : Value → Shared → Prop} (D : ZipApart z TI TO i j l m)
    (hz : IsZip s.heap z TI TO .none) (hI : IsPair s.heap TI (.ref i) (.ref j)) (hO : IsPair s.heap TO p q) (h1 : a.It s.heap i l n) (h2 : b.It s.heap j m n) (g1 : a.Ls s.heap l xs) (g2 : b.Ls s.heap m ys) (hx : xs[n]? = some x) (hy : ys[n]? = some y)
    (k : ∀ h', IsZip h' z TI TO (rawInt s.heap.objs.size) → IsPair h' TO x y → a.It h' i l (n + 1) → b.It h' j m (n + 1) → IsPair h' s.heap.objs.size x y → h'.objs.size = s.heap.objs.size + 1 → Kept z TO i j s.heap h' → Q (.ref s.heap.objs.size) { s with heap := h' }) :
    wpAny (model prog w) A (Builtin.«zip.__next__» ⟨[.ref z], []⟩) (fun f s' => ∃ v, f = .done (.ret v) ∧ Q v s') E s := by
  show wpAny _ _ (field (.ref z) 2 >>= _) _ _ s
  refine wpAny_bind (wpAny_field hz rfl (x := .bool false) rfl (?_ : wpAny _ _ (field (.ref z) 3 >>= _) _ _ _))
  refine wpAny_bind (wpAny_field hz rfl (x := .ref TI) rfl (wpAny_bind (wpAny_seqItems hI rfl (?_ : wpAny _ _ (Builtin.SmallTypes.ownedTupleIsFree (.ref z) >>= _) _ _ _))))
  refine wpAny_bind (by
    unfold Builtin.SmallTypes.ownedTupleIsFree
    refine wpAny_bind (wpAny_field hz rfl (x := .none) rfl (wpAny_pure (?_ : _)))
    simp only [if_true]
    refine wpAny_bind (wpAny_rule (wpAny_bind (wpAny_field hz rfl (x := .ref TO) rfl (wpAny_bind (wpAny_setField_rec hz (by simp) fun u1 z1 s1 => ?_)))))
    have z1 : IsZip u1 z TI TO .ellipsis := z1
    refine wpAny_bind (?_ : _)
    simp only [List.zipIdx_cons, List.zipIdx_nil, List.forIn_cons, List.forIn_nil]
    have l1 := s1.extBut
    refine wpAny_bind (wpAny_bind (wpAny_onRaise (?_ : wpAny _ _ (Builtin.SmallTypes.nextOf (.ref i) >>= _) _ _ _)))
    refine wpAny_bind (a.nx (a.itk h1 fun o e => l1 i o D.i1z e) (a.lsk g1 fun o e => l1 l o D.l1z e) hx fun u2 t2 s2 => wpAny_pure ?_)
    have l2 := s2.extBut
    have O2 : IsPair u2 TO p q := l2 _ _ D.TOi1 (l1 _ _ D.TOz hO)
    refine wpAny_bind (wpAny_seqItems O2 rfl (wpAny_bind (wpAny_updateSeq_pair O2 fun u3 O3 s3 => ?_)))
    have O3 : IsPair u3 TO x q := O3
    have l3 := s3.extBut
    refine wpAny_bind (wpAny_letGo (wpAny_pure (wpAny_bind (wpAny_bind (wpAny_onRaise (?_ : wpAny _ _ (Builtin.SmallTypes.nextOf (.ref j) >>= _) _ _ _))))))
    refine wpAny_bind (b.nx (b.itk h2 fun o e => l3 _ _ D.TOi2.symm (l2 _ _ D.i12.symm (l1 _ _ D.i2z e))) (b.lsk g2 fun o e => l3 _ _ D.l2TO (l2 _ _ D.l2i1 (l1 _ _ D.l2z e))) hy fun u4 t4 s4 => wpAny_pure ?_)
    have l4 := s4.extBut
    have O4 : IsPair u4 TO x q := l4 _ _ D.TOi2 O3
    refine wpAny_bind (wpAny_seqItems O4 rfl (wpAny_bind (wpAny_updateSeq_pair O4 fun u5 O5 s5 => ?_)))
    have O5 : IsPair u5 TO x y := O5
    have l5 := s5.extBut
    refine wpAny_bind (wpAny_letGo (wpAny_pure (wpAny_pure (wpAny_bind (wpAny_seqItems O5 rfl (wpAny_bind (wpAny_newTuple ?_)))))))
    have e5 : u5.objs.size = s.heap.objs.size := by rw [s5.1, s4.1, s3.1, s2.1, s1.1]
    have z5 : IsZip u5 z TI TO .ellipsis := l5 _ _ D.TOz.symm (l4 _ _ D.i2z.symm (l3 _ _ D.TOz.symm (l2 _ _ D.i1z.symm z1)))
    have k5 : Kept z TO i j s.heap u5 := fun c o c1 c2 c3 c4 e => l5 _ _ c2 (l4 _ _ c4 (l3 _ _ c2 (l2 _ _ c3 (l1 _ _ c1 e))))
    have t5 : a.It u5 i l (n + 1) := a.itk t2 fun o e => l5 _ _ D.TOi1.symm (l4 _ _ D.i12 (l3 _ _ D.TOi1.symm e))
    have w5 : b.It u5 j m (n + 1) := b.itk t4 fun o e => l5 _ _ D.TOi2.symm e
    have zl := Heap.lt_size z5
    refine wpAny_bind (?_ : wpAny _ _ (Builtin.SmallTypes.ownedTupleHandOut (.ref z) (.ref u5.objs.size)) _ _ _)
    unfold Builtin.SmallTypes.ownedTupleHandOut
    have z6 : IsZip (u5.push { cls := .type "tuple", data := .seq #[x, y] }) z TI TO .ellipsis := Heap.get?_push_of_some _ z5
    refine wpAny_bind (wpAny_setField_rec z6 (by simp) fun u7 z7 s7 => ?_)
    have z7 : IsZip u7 z TI TO (rawInt u5.objs.size) := z7
    refine wpAny_setField_rec z7 (by simp) fun u8 z8 s8 => ?_
    have z8 : IsZip u8 z TI TO (rawInt u5.objs.size) := z8
    have up : ∀ c o, c ≠ z → u5.get? c = some o → u8.get? c = some o := fun c o ne e => s8.extBut _ _ ne (s7.extBut _ _ ne (Heap.get?_push_of_some _ e))
    have T8 : IsPair u8 u5.objs.size x y := s8.extBut _ _ (Nat.ne_of_gt zl) (s7.extBut _ _ (Nat.ne_of_gt zl) (Heap.get?_push_size _ rfl))
    have e8 : u8.objs.size = u5.objs.size + 1 := by rw [s8.1, s7.1, Heap.size_push]
    rw [e5] at z8 T8 e8
    refine wpAny_pure ⟨_, rfl, ?_⟩
    rw [e5]
    exact k u8 z8 (up _ _ D.TOz O5) (a.itk t5 fun o e => up _ o D.i1z e) (b.itk w5 fun o e => up _ o D.i2z e) T8 e8 fun c o ne c2 c3 c4 e => up c o ne (k5 c o ne c2 c3 c4 e))
end
/-! ### the call of zip -/
abbrev w1 (c : String) (h : Heap) (l : Addr) : Heap := h.push { cls := .type c, data := .fields #[.ref l, .int 0 0] }
abbrev w2 (c d : String) (h : Heap) (l m : Addr) : Heap := w1 d (w1 c h l) m
abbrev w3 (c d : String) (h : Heap) (l m : Addr) : Heap := (w2 c d h l m).push { cls := .type "tuple", data := .seq #[.ref h.objs.size, .ref (w1 c h l).objs.size] }
abbrev w4 (c d : String) (h : Heap) (l m : Addr) : Heap := (w3 c d h l m).push { cls := .type "tuple", data := .seq #[.none, .none] }
abbrev w5 (c d : String) (h : Heap) (l m : Addr) : Heap := (w4 c d h l m).push { cls := .type "zip", data := .fields #[.none, .bool false, .bool false, .ref (w2 c d h l m).objs.size, .ref (w3 c d h l m).objs.size] }
section
variable {prog : Program} {w : World} {A : Around} {E : Value → Shared → Prop} {s : Shared}
end
/-! ### the turn of a loop -/
end Zx

/-! Own layer Q9: instances that change, fields set, list.pop(i), zip of a tuple with a list, freezing. -/
namespace Qx
open PySem PySem.Spec PyProof.Rows L2 Gx
/-! ### C(..) as a thing that changes -/
def eMakeO (C : Str) (m : MF) (dps : List PV) (a : AF) : EF := fun s O => (a s O).bind fun ps O1 => (noX (m (.loc O1.length :: (ps ++ dps)) (O1 ++ [some (.ins C [] [])]))).bind fun r O2 => match r with
  | .non => .ok (.loc O1.length) O2
  | _ => .bad
section
variable {K : PySem.W.Frag} {E : XM} {C : Str} {tA : TA} {fA : AF} {m : MF} {dps : List PV} {dvs : List V}
end
/-! ### o.f = e -/
def putN (f : Str) : List Str → List Str
  | [] => [f]
  | n :: r => if n = f then n :: r else n :: putN f r
def putW {α : Type} (f : Str) (q : α) : List Str → List α → List α
  | [], _ => [q]
  | n :: r, p :: ps => if n = f then q :: ps else p :: putW f q r ps
  | _ :: _, [] => []
def fldP (C f : Str) (p q : PV) (s : Slots) (O : Sto) : SR := match p with
  | .loc n => match O[n]? with
    | some (some (.ins C' ns ps)) => if C' = C ∧ ns.length ≤ 900 then .next s (O.set n (some (.ins C (putN f ns) (putW f q ns ps)))) else .bad
    | _ => .bad
  | _ => .bad
def sFldP (C f : Str) (fo fv : EF) : SF := fun s O => (fv s O).toS s fun q O1 => (fo s O1).toS s fun p O2 => fldP C f p q s O2
/-! ### list.pop(i) -/
/-! ### zip of a tuple with a list -/
def itemsOf (O : Sto) : PV → Option (List PV × Option (Nat × List PV))
  | .lst ps => some (ps, none)
  | .rol ps => some (ps, none)
  | .loc n => match O[n]? with
    | some (some (.lst ps)) => some (ps, some (n, ps))
    | some (some _) => none
    | some none => none
    | none => none
  | _ => none
theorem tupOf_read {K : PySem.W.Frag} {ι : List Addr} {G : Hp} {p : PV} {x : V} {ps : List PV} (r : Rep K ι G p x) (e : tupOf p = some ps) : ∃ a xs, x = .ref a ∧ SqT K G a xs ∧ RepL K ι G ps xs := by
  cases p <;> first | (cases e; exact r) | (cases e; exact r.1) | cases e
/-! ### freezing -/
def frzP (p : PV) (O : Sto) : PR PV := match p with
  | .loc n => match O[n]? with
    | some (some q) => .ok q (O.set n none)
    | some none => .ok p O
    | none => .ok p O
  | _ => .ok p O
def eFrz (a : EF) : EF := fun s O => (a s O).bind frzP
end Qx

/-! Own layer Xa: a caught exception as a thing that is tracked from then on; calls where something is handled; calls that may raise. -/
namespace Gx
open PySem PySem.Spec PyProof.Rows L2
theorem xo_ok {P : Program} {w : World} {H : Hp} {h : Heap} {a : Addr} {oe : Obj} (e : h.get? a = some oe) : ObjOk P w H h a (XO a oe) := by
  unfold XO
  rw [ObjOk.eq_13]
  exact ⟨e, ⟨oe, e⟩, fun h1 h2 k j => j _ k⟩
theorem suite_track {X : Cx} {pins : List (Addr × Obj)} {σ : L2.St} {H : Hp} {s : Shared} {a : Addr} {oe : Obj} (ok : X.Ok) (I : Inv (X.suite a ((a, oe) :: (X.pn ++ pins))) [] σ H s) (hex : X.ex = []) (new : ∀ o, X.s_0.heap.get? a ≠ some o) (np : ∀ p ∈ X.pn ++ pins, p.1 ≠ a) :
    Inv (X.suite a (X.pn ++ pins)) [] σ (upd H a (XO a oe)) s := by
  obtain ⟨ha, hn, hl, hf, hc⟩ := I.pin (a, oe) (by simp)
  have hn : H a = none := hn
  refine ⟨Cx.Ok.suite ok a _, I.os, I.bare, ?_, I.loc, I.cell, ?_, fun x c e => ?_, fun p hp => ?_, ?_, I.len⟩
  · have B := I.base
    refine ⟨B.keep, B.slot, fun b o e1 e2 e3 => ?_, B.there, fun b xs e => ?_, fun b o u e => ?_, fun b ps e => ?_⟩
    · rw [upd_ne fun z => new o (by rw [← z]; exact e1)]
      exact B.free b o e1 e2 e3
    · have q := B.tups b xs e
      rw [upd_ne (ne_of_none q hn)]; exact q
    · have q := B.frzs b o u e
      rw [upd_ne (ne_of_none q hn)]; exact q
    · obtain ⟨m, q⟩ := B.tbls b ps e
      exact ⟨m, by rw [upd_ne (ne_of_none q hn)]; exact q⟩
  · rw [upd_ne (Ne.symm hl)]; exact I.free
  · obtain ⟨v, o, h1, h2⟩ := I.cell x c e
    rw [upd_ne fun z => ?_]
    · exact I.freeC x c e
    · rw [z, show s.heap.get? a = some oe from ha] at h1
      cases h1
      exact hc v h2
  · have hp' : p ∈ X.pn ++ pins := by simpa using hp
    obtain ⟨h1, h2, h3, h4, h5⟩ := I.pin p (List.mem_append_left _ (List.mem_cons_of_mem _ hp'))
    exact ⟨h1, by rw [upd_ne (np p hp')]; exact h2, h3, h4, h5⟩
  · intro b u e
    by_cases c : b = a
    · subst c
      rw [upd_same] at e
      cases e
      exact xo_ok ha
    · rw [upd_ne c] at e
      exact ObjOk.stay (I.hok b u e) (fun c v x q => q) (fun c q => by rw [upd_ne (ne_of_none q hn)]; exact q) fun c xs q => by rw [upd_ne (ne_of_none q hn)]; exact q
theorem suite_off {X : Cx} {pins : List (Addr × Obj)} {σ : L2.St} {H : Hp} {s : Shared} {a : Addr} (I : Inv (X.suite a (X.pn ++ pins)) [] σ H s) (ok : X.Ok) : Inv X pins σ H s :=
  ⟨ok, I.os, I.bare, I.base, I.loc, I.cell, I.free, I.freeC, fun p hp => I.pin p (List.mem_append_left _ hp), I.hok, I.len⟩
def wAsT (K : PySem.W.Frag) (c : Value) (i : Nat) (ts : TS) (Wout : WX) (D : Ends) : WX := fun cls d σ H =>
  ∃ b, PySem.W.exmOne K cls c = some b ∧ (b = true → ∀ a oe, H a = none → Zc cls d oe → (∃ vs, oe.data = .fields vs) → ts { nx := fun σ' H' => D.nx (List.set σ' i none) H', rt := D.rt, bk := fun σ' H' => D.bk (List.set σ' i none) H', ct := fun σ' H' => D.ct (List.set σ' i none) H' } (List.set σ i (some (.ref a))) (upd H a (XO a oe))) ∧ (b = false → Wout cls d σ H)
theorem ps_try_asT {X : Cx} {x n : Str} {c : Value} {i : Nat} {body suite : List Stmt} {b₀ : Stmt} {np pos pos' : Pos} {tb : WX → TS} {ts : TS} {Wout : WX} (hs : X.stack = X.env :: X.outer) (hf : X.env.frame = some X.env.locals) (hex : X.ex = []) (hN : X.N.Nodup) (hi : X.N[i]? = some n) (hln : X.env.kindOf n = some .local) (hc : Names X x c) (tk : Takes X Wout)
    (hb : ∀ (W : WX) (pn : List (Addr × Obj)) (xe : Value → Shared → Prop), Takes (X.tr pn xe) W → PassesOwn (model X.prog X.w) X.A X.env xe → PSs (X.tr pn xe) body (tb W))
    (hsu : ∀ (a : Addr) (pn : List (Addr × Obj)), PSs (X.suite a pn) (b₀ :: suite) ts) :
    PS X (.Try body [.ExceptHandler (some (.Name x np)) (some n) (b₀ :: suite) pos'] [] [] pos) (fun D σ H => tb (wAsT X.K c i ts Wout D) D σ H) := by
  refine ⟨fun pins s σ H D I h => ?_⟩
  have ok := I.ok
  have hfr : X.A.frames = some (X.env :: X.outer) := by rw [ok.frames, hs]
  refine wpAny_Try_except (wpAny_mono ((hb (wAsT X.K c i ts Wout D) (X.pn ++ pins) (fun e s₁ => wpAny (model X.prog X.w) X.A (noteFrame e X.env) (fun _ s₂ => wpAny (model X.prog X.w) X.A (setFlight e none) (fun _ s₃ => wpAny (model X.prog X.w) X.A (handleBy e X.env [.ExceptHandler (some (.Name x np)) (some n) (b₀ :: suite) pos']) (SP X pins D) X.xe s₃) X.xe s₂) X.xe s₁) (fun u s' xx => ?_) PassesOwn.looking).run [] s σ H D (Inv.toTry I _) h) (fun f s1 hsp => ?_) fun _ _ z => z)
  · obtain ⟨a, B, sI, pins', σ', H', cls, d, rfl, J', nb, up, sky, na, os, ag, b, hb1, hyes, hno⟩ := xx
    have J := Inv.ofTry J' ok
    have sky' : Sky B (X.env :: X.outer) a (Zc cls d) X.env.locals s'.heap := by rw [← hs]; exact sky
    refine Sky.land Zc.steady hfr hf sky' fun h3 fl3 up3 => ?_
    have J3 : Inv X pins σ' H' { heap := h3, gens := s'.gens, drawn := s'.drawn, toks := s'.toks, os := s'.os } := Inv.landed J nb fl3.1 (Heap.UpToSlots.trans up up3) os ag
    obtain ⟨oe3, vs3, he3, hz3, hd3⟩ := HandSPX.FlyingZ.there fl3
    have notFr : ∀ {h : Heap} {o : Obj} {vs : Array Value}, h.FunFrames B (X.env :: X.outer) → h.get? a = some o → o.data = .fields vs → a ∉ frs (X.env :: X.outer) := fun ff e dd hm => by
      obtain ⟨_, o', e', hnf⟩ := Heap.FunFrames.mem ff hm
      rw [e] at e'
      cases e'
      exact hnf _ dd
    have nfr := notFr fl3.2.2.1 he3 hd3
    have nL : a ≠ X.env.locals := fun z => nfr (List.mem_filterMap.mpr ⟨X.env, List.mem_cons_self, by rw [hf, z]⟩)
    have nF : a ∉ X.fs := fun hm => by
      obtain ⟨e, he, q⟩ := List.mem_filterMap.mp hm
      exact nfr (List.mem_filterMap.mpr ⟨e, List.mem_cons_of_mem X.env he, q⟩)
    have nI : ∀ o, sI.heap.get? a ≠ some o := fun o z => by
      have q := nb a o z (by rw [hs]; exact nfr)
      rw [fl3.2.1] at q
      cases q
    have new : ∀ o, X.s_0.heap.get? a ≠ some o := fun o z => by
      obtain ⟨o', q⟩ := J.base.there a o z (by rw [hex]; simp)
      exact nI o' q
    have npn : ∀ p ∈ X.pn ++ pins, p.1 ≠ a := fun p hp z => by
      have q := (J.pin p hp).1
      rw [z] at q
      exact nI _ q
    have S3 := Inv.suite J3 he3 hd3 na nL nF
    refine wpAny_handleBy_cons (codeAny_handlers_test ?_) fun q => nomatch q
    have LT : PySem.W.Looks (model X.prog X.w) h3 (typeOf (.ref a)) cls := fun A Q E s k q => wpAny_typeOf_ref (k a oe3 he3) (by rw [hz3.1]; exact q)
    have LM := PySem.W.exm_one (Inv.kIn J3) LT hb1
    have test : ∀ {Q : Value → Shared → Prop} {E : Value → Shared → Prop}, Q c { heap := h3, gens := s'.gens, drawn := s'.drawn, toks := s'.toks, os := s'.os } → wpAny (model X.prog X.w) (X.A.mark (some (.ref a))) (eval (.Name x np) X.env) Q E { heap := h3, gens := s'.gens, drawn := s'.drawn, toks := s'.toks, os := s'.os } := fun q => by
      obtain ⟨hg, hdbg, hm | ⟨hm, hv, hnn⟩⟩ := hc
      · exact ld_glob S3 hg hm q hdbg
      · exact ld_blt S3 hg hm hv q hnn hdbg
    refine test (PySem.W.Looks.here LM ?_)
    cases b with
    | false =>
      show wpAny (model X.prog X.w) X.A (handleBy (.ref a) X.env []) (SP X pins D) X.xe _
      refine wpAny_handleBy_nil ?_
      have fl3' := fl3
      obtain ⟨k1, k2, k3, oe, vs, T, oT, ts', he, hz, hd, h1, hr⟩ := fl3'
      refine wpAny_bind (wpAny_field he hd h1 ?_)
      rw [if_neg (by simp)]
      refine wpAny_bind ?_
      rw [hf]
      refine HandSPX.setFlight_upZ fl3 fun h4 hh4 up4 => wpAny_throw (tk (.ref a) _ ⟨a, B, sI, pins, σ', H', cls, d, rfl, J, nb, Heap.UpToSlots.trans (Heap.UpToSlots.trans up up3) up4, .inr (.inr (by rw [hs]; exact hh4)), na, os, ag, hno rfl⟩)
    | true =>
      show codeAny (model X.prog X.w) (X.A.mark (some (.ref a))) (Code.handlers (.ref a) [.ExceptHandler none (some n) (b₀ :: suite) pos'] X.env) _ _
      refine codeAny_handlers_suite_as (HandSPX.lands_againZ fl3 fun h4 fl4 up4 => ?_)
      have J4 : Inv X pins σ' H' { heap := h4, gens := s'.gens, drawn := s'.drawn, toks := s'.toks, os := s'.os } := Inv.landed J nb fl4.1 (Heap.UpToSlots.trans (Heap.UpToSlots.trans up up3) up4) os ag
      obtain ⟨oe4, vs4, he4, hz4, hd4⟩ := HandSPX.FlyingZ.there fl4
      have S4 := Inv.suite J4 he4 hd4 na nL nF
      refine store_ok (X := X.suite a ((a, oe4) :: (X.pn ++ pins))) (v := .ref a) S4 hN hi (Or.inl hln) rfl (fun s5 S5 => ?_) (Or.inr hln)
      have S5' := suite_track ok S5 hex new npn
      refine wpAny_mono ((hsu a (X.pn ++ pins)).run [] s5 (List.set σ' i (some (.ref a))) (upd H' a (XO a oe4)) { nx := fun σ' H' => D.nx (List.set σ' i none) H', rt := D.rt, bk := fun σ' H' => D.bk (List.set σ' i none) H', ct := fun σ' H' => D.ct (List.set σ' i none) H' } S5' (hyes rfl a oe4 na hz4 ⟨vs4, hd4⟩)) (fun f s6 hsp => ?_) fun _ _ z => z.elim
      cases f with
      | next => obtain ⟨σ6, H6, S6, q6⟩ := hsp; exact gone_ok (suite_off S6 ok) hN hi hln fun s7 J7 => ⟨_, H6, J7, q6⟩
      | brk => obtain ⟨σ6, H6, S6, q6⟩ := hsp; exact gone_ok (suite_off S6 ok) hN hi hln fun s7 J7 => ⟨_, H6, J7, q6⟩
      | cont => obtain ⟨σ6, H6, S6, q6⟩ := hsp; exact gone_ok (suite_off S6 ok) hN hi hln fun s7 J7 => ⟨_, H6, J7, q6⟩
      | ret u => obtain ⟨v6, σ6, H6, S6, r6, q6⟩ := hsp; exact gone_ok (suite_off S6 ok) hN hi hln fun s7 J7 => ⟨v6, _, H6, J7, r6, q6⟩
  · cases f with
    | next => obtain ⟨σ', H', J', q⟩ := hsp; exact wpAny_execs_nil ⟨σ', H', Inv.ofTry J' ok, q⟩
    | brk => obtain ⟨σ', H', J', q⟩ := hsp; exact ⟨σ', H', Inv.ofTry J' ok, q⟩
    | cont => obtain ⟨σ', H', J', q⟩ := hsp; exact ⟨σ', H', Inv.ofTry J' ok, q⟩
    | ret u => obtain ⟨v, σ', H', J', r, q⟩ := hsp; exact ⟨v, σ', H', Inv.ofTry J' ok, r, q⟩
end Gx

/-! Own layer Xb: defs called where something is handled (warm); calls that may raise. -/
namespace Gx
open PySem PySem.Spec PyProof.Rows L2 L2H
theorem _root_.L2H.RoomH.units {k : Nat} {A : Around} (h : RoomH k A) : A.units + 64 < cLine := by have := h.un; omega
theorem _root_.L2.Room.hot {k : Nat} {A : Around} (h : Room k A) (v : Option Value) : RoomH k (A.mark v) := ⟨h.dp, h.un⟩
def cxW (CX : CXT) (P : Program) (w : World) (K : PySem.W.Frag) (mg : Str → Option Value) (base : Heap) (N : List Str) (qual : Str) (scope : Scope) (f : Addr) (cd : Value) (A : Around) (outer : List Env) (s : Shared) (H : Hp) (E : XK) : Cx :=
  { cxOf CX P w K mg base N qual scope f cd A outer s H E with calm := false }
structure FnW (P : Program) (w : World) (K : PySem.W.Frag) (mg : Str → Option Value) (base : Heap) (CX : CXT) (k : Nat) (f : Addr) (fd : FuncData) (ps : List Str) (sp : Sp) : Prop where
  len : ∀ vs H Q E, sp vs H Q E → vs.length = ps.length
  run : ∀ (A : Around) (outer : List Env) (s : Shared) (H : Hp) (args : Args) (us : List Value) (vs : List V) (Q : VK) (E : XK), RoomH k A → Env0 P w K mg base A outer s H → BindsTo s fd args (ps.zip us) → Vals vs us → sp vs H Q E → codeAny (model P w) A (.call (.ref f) args) (CR CX outer P w H s Q E) s
theorem inv_startW {CX : CXT} {P : Program} {w : World} {K : PySem.W.Frag} {mg : Str → Option Value} {base : Heap} {N ps : List Str} {qual : Str} {scope : Scope} {f : Addr} {cd : Value} {A : Around} {outer : List Env} {s s1 : Shared} {H : Hp} {E : XK} {us : List Value} {vs : List V} (S : FnScope N ps scope) (e0 : Env0 P w K mg base A outer s H) (hl : vs.length = ps.length) (r : Vals vs us)
    (x : InCallC s s.heap.objs.size (bindL (envOfC qual scope s.heap.objs.size f cd).kindOf (ps.zip us) fun _ => none) (cellsFrom (s.heap.objs.size + 1) scope.names []) (bindC (envOfC qual scope s.heap.objs.size f cd).kindOf (ps.zip us) fun _ => none) s1) :
    Inv (cxW CX P w K mg base N qual scope f cd A outer s H E) [] (L2.start N vs) H s1 := by
  have e0' : Env0 P w K mg base { A with handled := none } outer s H := ⟨e0.frames, e0.mod, e0.bs, e0.bsz, e0.funs, e0.frf, e0.hok, e0.bare⟩
  have I := inv_start (CX := CX) (E := E) (qual := qual) (f := f) (cd := cd) S rfl e0' hl r x
  have o := I.ok
  refine ⟨⟨o.mod, o.kind, o.glob, o.blt, o.above, o.inj, o.has, o.cab, (fun z => Bool.noConfusion z), o.frames, o.stk, o.exf, o.bs, o.bsz, o.noex, o.exfs, o.funs, o.frf⟩, I.os, I.bare, I.base, I.loc, I.cell, I.free, I.freeC, I.pin, I.hok, I.len⟩
theorem fn_ofW {CX : CXT} {P : Program} {w : World} {K : PySem.W.Frag} {mg : Str → Option Value} {base : Heap} {k : Nat} {f : Addr} {name qual : Str} {params : Arguments} {body : List Stmt} {scope : Scope} {dV kV doc pm cdv ct oc : Value} {an od : Option Addr} {osl : Array (Option Value)} {N ps : List Str} {sp : Sp}
    (lk : List.lookup f K = some { cls := oc, dict := od, data := .func (PySem.W.fnOf name qual params body scope dV kV doc pm an cdv ct), slots := osl }) (hcd : PySem.W.codeIn K cdv qual = true) (S : FnScope N ps scope) (len : ∀ vs H Q E, sp vs H Q E → vs.length = ps.length)
    (hbody : ∀ (A : Around) (outer : List Env) (s : Shared) (H : Hp) (vs : List V) (Q : VK) (E : XK), RoomH k (A.deeper (envOfC qual scope s.heap.objs.size f cdv)) → sp vs H Q E → ∃ t, PSs (cxW CX P w K mg base N qual scope f cdv A outer s H E) body t ∧ t { nx := fun _ H' => Q .non H', rt := Q } (L2.start N vs) H) :
    FnW P w K mg base CX (k + 1) f (PySem.W.fnOf name qual params body scope dV kV doc pm an cdv ct) ps sp := by
  refine ⟨len, fun A outer s H args us vs Q E hr e0 hb r hsp => ?_⟩
  have hl := len vs H Q E hsp
  have KX := PySem.W.Frag.In.keeps e0.mod.kin fun b o e => (e0.bs b o e).1
  have lim := Heap.NoLimit.keeps e0.mod.nolimit fun b o e => (e0.bs b o e).1
  have hkind : ∀ x ∈ ps.zip us, scope.names.lookup x.1 = some .local ∨ (scope.names.lookup x.1 = some .cell ∧ ((cellsFrom (s.heap.objs.size + 1) scope.names []).lookup x.1).isSome = true) := fun (n, v) hy =>
    (S.par n (List.of_mem_zip hy).1).elim (fun q => .inl q) fun q => .inr ⟨q, PySem.W.cellsFrom_some scope.names (s.heap.objs.size + 1) [] (.inl q)⟩
  refine codeAny_call_function (RoomH.depth hr) (KX f _ lk) rfl S.co S.gen rfl (PySem.W.codeRec_of KX hcd) (hb _ _ _ _ (wpAny_newFunctionEnv_cells S.kind hkind fun env he s1 x => ?_))
  subst he
  refine ⟨Heap.NoLimit.keeps lim x.toInCall.keep, codeAny_func ?_⟩
  obtain ⟨t, ht, hq⟩ := hbody A outer s H vs Q E (RoomH.deeper hr (envOfC qual scope s.heap.objs.size f cdv)) hsp
  have I := inv_startW (CX := CX) (E := E) S e0 hl r x
  refine wpAny_mono (ht.run [] s1 (L2.start N vs) H { nx := fun _ H' => Q .non H', rt := Q } I hq) (fun fl s' hs => ?_) fun e s' hs => hs
  have fin : ∀ {σ' H' v u}, Inv (cxW CX P w K mg base N qual scope f cdv A outer s H E) [] σ' H' s' → RelV v u → Q v H' → CE outer P w H s Q u s' := fun J rv q => ⟨_, _, J.os, J.bare, J.base, J.hok, rv, q⟩
  cases fl with
  | next => obtain ⟨σ', H', J, q⟩ := hs; exact fin (v := .non) J rfl q
  | brk => obtain ⟨_, _, _, q⟩ := hs; exact q.elim
  | cont => obtain ⟨_, _, _, q⟩ := hs; exact q.elim
  | ret u => obtain ⟨v, σ', H', J, rv, q⟩ := hs; exact fin J rv q
theorem okW {P : Program} {w : World} {K : PySem.W.Frag} {mg : Str → Option Value} {base : Heap} {x qual : Str} {params : Arguments} {body : List Stmt} {scope : Scope} {dvs : List V} {kws : List (Str × V)} {f : Addr} {fd : FuncData} {CX : CXT} {N ps : List Str} {k : Nat} {sp : Sp} (F : FunD K x qual params body scope dvs kws f fd) (S : FnScope N ps scope) (len : ∀ vs H Q E, sp vs H Q E → vs.length = ps.length)
    (h : ∀ (cdv : Value) (A : Around) (outer : List Env) (s : Shared) (H : Hp) (vs : List V) (Q : VK) (E : XK), RoomH k (A.deeper (envOfC qual scope s.heap.objs.size f cdv)) → sp vs H Q E → ∃ t, PSs (cxW CX P w K mg base N qual scope f cdv A outer s H E) body t ∧ t { nx := fun _ H' => Q .non H', rt := Q } (L2.start N vs) H) : FnW P w K mg base CX (k + 1) f fd ps sp := by
  obtain ⟨oc, od, dV, kV, doc, pm, an, cdv, ct, osl, e, lk, hcd, _, _⟩ := F.ex
  subst e
  exact fn_ofW lk hcd S len fun A outer s H vs Q E hr hsp => h cdv A outer s H vs Q E hr hsp
structure DOkW (P : Program) (w : World) (K : PySem.W.Frag) (mg : Str → Option Value) (base : Heap) (d : He.DefD) (CX : CXT) (k : Nat) (ps : List Str) (sp : Sp) : Prop where
  ex : ∃ fd, FunD K d.name d.qual d.params d.body d.scope (d.dvs K) (d.kws K) (He.fAd K d.at_) fd ∧ FnW P w K mg base CX k (He.fAd K d.at_) fd ps sp
section
variable {X : Cx} {CX : CXT} {d : He.DefD} {k j : Nat} {ps : List Str} {sp : Sp} {x : Str} {p pos : Pos} {e : Expr} {es : List Expr} {t : TA}
theorem pcW (D : DOkW X.prog X.w X.K X.mg X.base d CX0 k ps sp) (hm : X.mg x = some (.ref (He.fAd X.K d.at_))) (hb : BdN d ps) (hr : RoomH j X.A) (hj : k ≤ j) (ha : PA X (e :: es) t) (hg : Gl X x := by rfl)
    (hdb : (x == ("__debug__" : Str)) = false := by decide) (he : starEach (e :: es) X.env = (false, eval e X.env) :: starEach es X.env := by rfl) (hpl : (backTo pos (starEach es X.env)).any (·.1) = false := by rfl) :
    PE X (.Call (.Name x p) (e :: es) [] pos) (tCall sp [] E0 t) := by
  obtain ⟨fd, F, G⟩ := D.ex
  refine ⟨fun pins s σ H Q I h => wpAny_Call_Name_kw (ld_glob I hg hm (PySem.W.callWith_K (h₀ := X.base) I.ok.mod.kin F.kp (thn (ha.run pos pins s σ H _ I h) fun us s1 ⟨vs, H1, I1, r, q⟩ => ⟨I1.kIn, ?_⟩) he hpl) hdb)⟩
  have q' : sp (vs ++ []) H1 Q E0 := q
  rw [List.append_nil] at q'
  have hl : us.length = ps.length := by rw [← r.length]; exact G.len _ _ _ _ q'
  have B := FunD.bdN F hb
  have bt := B s1 us I1.kIn (by rw [List.append_nil]; exact hl)
  rw [List.append_nil] at bt
  refine wpAny_call (codeAny_mono (G.run X.A X.stack s1 H1 ⟨us, []⟩ us vs Q E0 (hr.mono hj) I1.env0 bt r q') fun r s' hq => ?_)
  cases r with
  | error e => exact hq.elim
  | ok fl =>
    cases fl with
    | ret u => exact I1.after hq
    | next => exact False.elim hq
    | brk => exact False.elim hq
    | cont => exact False.elim hq
end
end Gx

/-! Own layer Xc: calls of defs that may raise; what is wished for then may speak of the caller's slots. -/
namespace Gx
open PySem PySem.Spec PyProof.Rows L2
theorem passE0 {X : Cx} (σ : L2.St) : PassesAt (CX X.prog X.w) X σ E0 := fun pins H s e s' I h => by
  obtain ⟨a, B, H', cls, d, _, _, _, _, _, _, _, z⟩ := h
  exact z.elim
section
variable {X : Cx} {CXx : CXT} {d : He.DefD} {k j n : Nat} {f C : Addr} {fd : FuncData} {ps : List Str} {sp : Sp} {x : Str} {p pos apos : Pos} {e o : Expr} {es : List Expr} {t tk : TA} {ta : TE} {dv : List V} {E : L2.St → XK} {m : Str} {pl : Sem Bool} {kws : List Keyword} {ks : List Str} {gV : List V → List V → List V}
theorem run_argS {pins : List (Addr × Obj)} {σ : L2.St} {H : Hp} {s : Shared} {Q : VK} {args : Args} {us : List Value} {vs : List V} (F : FnOk X.prog X.w X.K X.mg X.base CXx k f fd ps sp) (hr : Room k X.A) (hx : PassesAt CXx X σ (E σ)) (I : Inv X pins σ H s) (hb : BindsTo s fd args (ps.zip us)) (r : Vals vs us) (h : sp vs H Q (E σ)) : wpAny (model X.prog X.w) X.A (call (.ref f) args.pos args.kw) (EP X pins σ Q) X.xe s := by
  refine wpAny_call (codeAny_mono (F.run X.A X.stack s H ⟨args.pos, args.kw⟩ us vs Q (E σ) hr I.env0 hb r h) fun r s' hq => ?_)
  cases r with
  | error e => exact hx pins H s e s' I hq
  | ok fl =>
    cases fl with
    | ret u => exact I.after hq
    | next => exact False.elim hq
    | brk => exact False.elim hq
    | cont => exact False.elim hq
theorem run_fnS {pins : List (Addr × Obj)} {σ : L2.St} {H : Hp} {s : Shared} {Q : VK} {ds us : List Value} {vs : List V} (F : FnOk X.prog X.w X.K X.mg X.base CXx k f fd ps sp) (hr : Room k X.A) (hb : Binds X.K fd ps ds) (hd : Vals dv ds) (hx : PassesAt CXx X σ (E σ)) (I : Inv X pins σ H s) (r : Vals vs us) (h : sp (vs ++ dv) H Q (E σ)) : wpAny (model X.prog X.w) X.A (call (.ref f) us) (EP X pins σ Q) X.xe s := by
  have r2 : Vals (vs ++ dv) (us ++ ds) := r.append hd
  have hl : (us ++ ds).length = ps.length := by rw [← r2.length]; exact F.len _ _ _ _ h
  exact run_argS (args := ⟨us, []⟩) F hr hx I (hb s us I.kIn hl) r2 h
theorem run_kwS {pins : List (Addr × Obj)} {σ : L2.St} {H : Hp} {s : Shared} {Q : VK} {g : List Value → List Value → List Value} {us ws : List Value} {vs zs : List V} (F : FnOk X.prog X.w X.K X.mg X.base CXx k f fd ps sp) (hr : Room k X.A) (hb : KBn X.K fd ps n ks g gV) (hx : PassesAt CXx X σ (E σ)) (I : Inv X pins σ H s) (r : Vals vs us) (rz : Vals zs ws) (l1 : vs.length = n) (l2 : zs.length = ks.length) (h : sp (gV vs zs) H Q (E σ)) : wpAny (model X.prog X.w) X.A (call (.ref f) us (ks.zip ws)) (EP X pins σ Q) X.xe s :=
  run_argS (args := ⟨us, ks.zip ws⟩) F hr hx I (hb.to s us ws I.kIn (by rw [← r.length]; exact l1) (by rw [← rz.length]; exact l2)) (hb.rel r rz) h
theorem run_mkS {pins : List (Addr × Obj)} {σ : L2.St} {H : Hp} {s : Shared} {Q : VK} {us : List Value} {kw : List (Str × Value)} {full : Addr → List Value} {vs : Addr → List V} (M : Mk X.K C f) (F : FnOk X.prog X.w X.K X.mg X.base CXx k f fd ps sp) (hr : Room (k + 1) X.A) (hx : PassesAt CXx X σ (E σ)) (I : Inv X pins σ H s)
    (hb : ∀ (a : Addr) (s2 : Shared), X.K.In s2.heap → (vs a).length = ps.length → BindsTo s2 fd ⟨.ref a :: us, kw⟩ (ps.zip (full a))) (r : ∀ a, Vals (vs a) (full a))
    (h : ∀ x dx, H x = none → H dx = none → dx ≠ x → sp (vs x) (upd (upd H dx (.own x)) x (.ins C dx [])) (fun v H2 => v = .non ∧ Q (.ref x) H2) (E σ)) : wpAny (model X.prog X.w) X.A (call (.ref C) us kw) (EP X pins σ Q) X.xe s := by
  have hq := h (s.heap.objs.size + 1) s.heap.objs.size (HOk.fresh I.hok (Nat.le_succ _)) (HOk.fresh I.hok (Nat.le_refl _)) (Nat.ne_of_lt (Nat.lt_succ_self _))
  have I2 := Inv.made (C := C) I
  have hl := F.len _ _ _ _ hq
  refine wpAny_call (make_map (Inv.kIn I) M.makes M.init (beq_iff_eq.mp M.fn) (codeAny_mono (F.run (X.A.under (.builtin "type.__call__" ⟨.ref C :: us, kw⟩)) X.stack _ _ ⟨.ref (s.heap.objs.size + 1) :: us, kw⟩ (full (s.heap.objs.size + 1)) (vs (s.heap.objs.size + 1)) (fun v H2 => v = .non ∧ Q (.ref (s.heap.objs.size + 1)) H2) (E σ) (Room.make hr C us kw) (Env0.make (Inv.env0 I2) C us kw) (hb _ _ (Inv.kIn I2) hl) (r _) hq) fun r s' hq' => ?_))
  cases r with
  | error e => exact hx pins _ _ e s' I2 hq'
  | ok fl =>
    cases fl with
    | ret u =>
      obtain ⟨v, H', I3, rv, ev, q3⟩ := Inv.after I2 hq'
      subst ev
      exact ⟨rv, .ref (s.heap.objs.size + 1), H', I3, rfl, q3⟩
    | next => exact False.elim hq'
    | brk => exact False.elim hq'
    | cont => exact False.elim hq'
def tCallNS (n mk : Nat) (sp : Sp) (gV : List V → List V → List V) (E : L2.St → XK) (t tk : TA) : TE := fun σ H Q => t σ H fun vs H1 => tk σ H1 fun zs H2 => vs.length = n ∧ zs.length = mk ∧ sp (gV vs zs) H2 Q (E σ)
def tMethSD (C : Addr) (m : Str) (sp : Sp) (dv : List V) (E : L2.St → XK) (ta : TE) (t : TA) : TE := fun σ H Q => ta σ H fun x H1 => ∃ a dx fs, x = .ref a ∧ H1 a = some (.ins C dx fs) ∧ fs.lookup m = none ∧ t σ H1 fun vs H2 => sp (x :: (vs ++ dv)) H2 Q (E σ)
def tMethNS (C : Addr) (m : Str) (n mk : Nat) (sp : Sp) (gV : List V → List V → List V) (E : L2.St → XK) (ta : TE) (t tk : TA) : TE := fun σ H Q => ta σ H fun x H1 => ∃ a dx fs, x = .ref a ∧ H1 a = some (.ins C dx fs) ∧ fs.lookup m = none ∧ t σ H1 fun vs H2 => tk σ H2 fun zs H3 => vs.length + 1 = n ∧ zs.length = mk ∧ sp (gV (.ref a :: vs) zs) H3 Q (E σ)
def tMakeSD (C : Addr) (sp : Sp) (dv : List V) (E : L2.St → XK) (t : TA) : TE := fun σ H Q => t σ H fun vs H1 => ∀ x dx, H1 x = none → H1 dx = none → dx ≠ x → sp (.ref x :: (vs ++ dv)) (upd (upd H1 dx (.own x)) x (.ins C dx [])) (fun v H2 => v = .non ∧ Q (.ref x) H2) (E σ)
def tMakeNS (C : Addr) (n mk : Nat) (sp : Sp) (gV : List V → List V → List V) (E : L2.St → XK) (t tk : TA) : TE := fun σ H Q => t σ H fun vs H1 => tk σ H1 fun zs H2 => vs.length = n ∧ zs.length = mk ∧ ∀ x dx, H2 x = none → H2 dx = none → dx ≠ x → sp (gV (.ref x :: vs) zs) (upd (upd H2 dx (.own x)) x (.ins C dx [])) (fun v H3 => v = .non ∧ Q (.ref x) H3) (E σ)
/-! f(e, ..) -/
theorem pcS (D : DOk X.prog X.w X.K X.mg X.base d CXx k ps sp) (hx : ∀ σ, PassesAt CXx X σ (E σ)) (hm : X.mg x = some (.ref (He.fAd X.K d.at_))) (hb : BdN d ps) (hr : Room j X.A) (hj : k ≤ j) (ha : PA X (e :: es) t) (hg : Gl X x := by rfl)
    (hdb : (x == ("__debug__" : Str)) = false := by decide) (he : starEach (e :: es) X.env = (false, eval e X.env) :: starEach es X.env := by rfl) (hpl : (backTo pos (starEach es X.env)).any (·.1) = false := by rfl) :
    PE X (.Call (.Name x p) (e :: es) [] pos) (tCallSD sp [] E t) := by
  obtain ⟨fd, F, G⟩ := D.ex
  exact pe_callSD G (hr.mono hj) hg hm F.kp (FunD.bdN F hb) .nil hx ha hdb he hpl
theorem pcKS (D : DOk X.prog X.w X.K X.mg X.base d CXx k ps sp) (hx : ∀ σ, PassesAt CXx X σ (E σ)) (hm : X.mg x = some (.ref (He.fAd X.K d.at_))) (hb : BdK X.K d ps n ks gV) (hr : Room j X.A) (hj : k ≤ j) (ha : PA X (e :: es) t) (hkw : PK X kws tk) (hg : Gl X x := by rfl)
    (hall : (backToKw pos (keywordEach kws X.env)).all (·.1.isSome) = true := by rfl) (hks : (backToKw pos (keywordEach kws X.env)).filterMap (·.1) = ks := by rfl)
    (hdb : (x == ("__debug__" : Str)) = false := by decide) (he : starEach (e :: es) X.env = (false, eval e X.env) :: starEach es X.env := by rfl)
    (hpl : ((backTo pos (starEach (e :: es) X.env)).any (·.1) || (backToKw pos (keywordEach kws X.env)).any (·.1.isNone)) = false := by rfl) :
    PE X (.Call (.Name x p) (e :: es) kws pos) (tCallNS n ks.length sp gV E t tk) := by
  obtain ⟨fd, F, G⟩ := D.ex
  obtain ⟨g, hbd⟩ := hb fd F
  refine ⟨fun pins s σ H Q I h => wpAny_Call_Name_kw (ld_glob I hg hm (PySem.W.callWith_KW (h₀ := X.base) I.ok.mod.kin F.kp hall (thn (ha.run pos pins s σ H _ I h) fun us s1 ⟨vs, H1, I1, r, q⟩ => thn (hkw.run pos pins s1 σ H1 _ I1 q) fun ws s2 ⟨zs, H2, I2, rz, l1, l2, q2⟩ => ⟨I2.kIn, ?_⟩) hpl he) hdb)⟩
  rw [hks]
  exact run_kwS G (hr.mono hj) hbd (hx σ) I2 r rz l1 l2 q2
theorem pcK0S (D : DOk X.prog X.w X.K X.mg X.base d CXx k ps sp) (hx : ∀ σ, PassesAt CXx X σ (E σ)) (hm : X.mg x = some (.ref (He.fAd X.K d.at_))) (hb : BdK X.K d ps 0 ks gV) (hr : Room j X.A) (hj : k ≤ j) (hkw : PK X kws tk) (hg : Gl X x := by rfl)
    (hall : (backToKw pos (keywordEach kws X.env)).all (·.1.isSome) = true := by rfl) (hks : (backToKw pos (keywordEach kws X.env)).filterMap (·.1) = ks := by rfl)
    (hdb : (x == ("__debug__" : Str)) = false := by decide)
    (hpl : ((backTo pos (starEach [] X.env)).any (·.1) || (backToKw pos (keywordEach kws X.env)).any (·.1.isNone)) = false := by rfl) :
    PE X (.Call (.Name x p) [] kws pos) (tCallNS 0 ks.length sp gV E tNil tk) := by
  obtain ⟨fd, F, G⟩ := D.ex
  obtain ⟨g, hbd⟩ := hb fd F
  refine ⟨fun pins s σ H Q I h => wpAny_Call_Name_kw (ld_glob I hg hm (PySem.W.callWith_KW0 (h₀ := X.base) I.ok.mod.kin F.kp hall (thn (hkw.run pos pins s σ H _ I h) fun ws s2 ⟨zs, H2, I2, rz, l1, l2, q2⟩ => ⟨I2.kIn, ?_⟩) hpl) hdb)⟩
  rw [hks]
  exact run_kwS G (hr.mono hj) hbd (hx σ) I2 .nil rz l1 l2 q2
/-! o.m(e, ..) -/
theorem pmDS (D : DOk X.prog X.w X.K X.mg X.base d CXx k ps sp) (hx : ∀ σ, PassesAt CXx X σ (E σ)) (c : Cls X.K C) (hm : Meth X.K C m (He.fAd X.K d.at_)) (hb : BdD X.K d ps dv) (hr : Room j X.A) (hj : k ≤ j) (he : PE X o ta) (ha : PA X (e :: es) t)
    (hst : starEach (e :: es) X.env = (false, eval e X.env) :: starEach es X.env := by rfl) (hpl : (backTo pos (starEach es X.env)).any (·.1) = false := by rfl)
    (ht : eval (.Call (.Attribute o m apos) (e :: es) [] pos) X.env = (do
      let ov ← eval o X.env
      standAt apos.atName
      let (f, first) ← holding [ov] (getMethod ov m pl)
      callWith pos f first (backTo pos (starEach (e :: es) X.env)) (backToKw pos (keywordEach [] X.env))) := by rfl) :
    PE X (.Call (.Attribute o m apos) (e :: es) [] pos) (tMethSD C m sp dv E ta t) := by
  obtain ⟨fd, F, G⟩ := D.ex
  obtain ⟨ds, hv, hbd⟩ := hb fd F
  refine ⟨fun pins s σ H Q I h => ?_⟩
  refine PySem.W.methodCall_KW (pl := pl) (thn (he.run pins s σ H _ I h) fun u s1 ⟨x, H1, I1, rx, a, dx, fs, ex, ea, l, q⟩ => ?_) ht
  subst ex
  obtain rfl : u = Value.ref a := rx
  refine getmeth_ok I1 ea c hm l (PySem.W.callWith_K (first := [.ref a]) (h₀ := X.base) I.ok.mod.kin hm.kp (thn (ha.run pos pins s1 σ H1 _ I1 q) fun us s2 ⟨vs, H2, I2, r, q2⟩ => ⟨I2.kIn, ?_⟩) hst hpl)
  exact run_fnS (us := .ref a :: us) (vs := .ref a :: vs) G (hr.mono hj) hbd hv (hx σ) I2 (.cons rfl r) q2
theorem pmD0S (D : DOk X.prog X.w X.K X.mg X.base d CXx k ps sp) (hx : ∀ σ, PassesAt CXx X σ (E σ)) (c : Cls X.K C) (hm : Meth X.K C m (He.fAd X.K d.at_)) (hb : BdD X.K d ps dv) (hr : Room j X.A) (hj : k ≤ j) (he : PE X o ta)
    (ht : eval (.Call (.Attribute o m apos) [] [] pos) X.env = (do
      let ov ← eval o X.env
      standAt apos.atName
      let (f, first) ← holding [ov] (getMethod ov m pl)
      callWith pos f first (backTo pos (starEach [] X.env)) (backToKw pos (keywordEach [] X.env))) := by rfl) :
    PE X (.Call (.Attribute o m apos) [] [] pos) (tMethSD C m sp dv E ta tNil) := by
  obtain ⟨fd, F, G⟩ := D.ex
  obtain ⟨ds, hv, hbd⟩ := hb fd F
  refine ⟨fun pins s σ H Q I h => ?_⟩
  refine PySem.W.methodCall_KW (pl := pl) (thn (he.run pins s σ H _ I h) fun u s1 ⟨x, H1, I1, rx, a, dx, fs, ex, ea, l, q⟩ => ?_) ht
  subst ex
  obtain rfl : u = Value.ref a := rx
  refine getmeth_ok I1 ea c hm l (PySem.W.callWith_K0 (first := [.ref a]) I1.kIn hm.kp ?_)
  exact run_fnS (us := [.ref a]) (vs := [.ref a]) G (hr.mono hj) hbd hv (hx σ) I1 (.cons rfl .nil) q
theorem bdD_of (h : BdN d ps) : BdD X.K d ps [] := fun fd F => ⟨[], .nil, FunD.bdN F h⟩
theorem pmS (D : DOk X.prog X.w X.K X.mg X.base d CXx k ps sp) (hx : ∀ σ, PassesAt CXx X σ (E σ)) (c : Cls X.K C) (hm : Meth X.K C m (He.fAd X.K d.at_)) (hb : BdN d ps) (hr : Room j X.A) (hj : k ≤ j) (he : PE X o ta) (ha : PA X (e :: es) t)
    (hst : starEach (e :: es) X.env = (false, eval e X.env) :: starEach es X.env := by rfl) (hpl : (backTo pos (starEach es X.env)).any (·.1) = false := by rfl)
    (ht : eval (.Call (.Attribute o m apos) (e :: es) [] pos) X.env = (do
      let ov ← eval o X.env
      standAt apos.atName
      let (f, first) ← holding [ov] (getMethod ov m pl)
      callWith pos f first (backTo pos (starEach (e :: es) X.env)) (backToKw pos (keywordEach [] X.env))) := by rfl) :
    PE X (.Call (.Attribute o m apos) (e :: es) [] pos) (tMethSD C m sp [] E ta t) := pmDS D hx c hm (bdD_of hb) hr hj he ha hst hpl ht
theorem pm0S (D : DOk X.prog X.w X.K X.mg X.base d CXx k ps sp) (hx : ∀ σ, PassesAt CXx X σ (E σ)) (c : Cls X.K C) (hm : Meth X.K C m (He.fAd X.K d.at_)) (hb : BdN d ps) (hr : Room j X.A) (hj : k ≤ j) (he : PE X o ta)
    (ht : eval (.Call (.Attribute o m apos) [] [] pos) X.env = (do
      let ov ← eval o X.env
      standAt apos.atName
      let (f, first) ← holding [ov] (getMethod ov m pl)
      callWith pos f first (backTo pos (starEach [] X.env)) (backToKw pos (keywordEach [] X.env))) := by rfl) :
    PE X (.Call (.Attribute o m apos) [] [] pos) (tMethSD C m sp [] E ta tNil) := pmD0S D hx c hm (bdD_of hb) hr hj he ht
theorem pmK0S (D : DOk X.prog X.w X.K X.mg X.base d CXx k ps sp) (hx : ∀ σ, PassesAt CXx X σ (E σ)) (c : Cls X.K C) (hm : Meth X.K C m (He.fAd X.K d.at_)) (hb : BdK X.K d ps 1 ks gV) (hr : Room j X.A) (hj : k ≤ j) (he : PE X o ta) (hkw : PK X kws tk)
    (hall : (backToKw pos (keywordEach kws X.env)).all (·.1.isSome) = true := by rfl) (hks : (backToKw pos (keywordEach kws X.env)).filterMap (·.1) = ks := by rfl)
    (hpl : ((backTo pos (starEach [] X.env)).any (·.1) || (backToKw pos (keywordEach kws X.env)).any (·.1.isNone)) = false := by rfl)
    (ht : eval (.Call (.Attribute o m apos) [] kws pos) X.env = (do
      let ov ← eval o X.env
      standAt apos.atName
      let (f, first) ← holding [ov] (getMethod ov m pl)
      callWith pos f first (backTo pos (starEach [] X.env)) (backToKw pos (keywordEach kws X.env))) := by rfl) :
    PE X (.Call (.Attribute o m apos) [] kws pos) (tMethNS C m 1 ks.length sp gV E ta tNil tk) := by
  obtain ⟨fd, F, G⟩ := D.ex
  obtain ⟨g, hbd⟩ := hb fd F
  refine ⟨fun pins s σ H Q I h => ?_⟩
  refine PySem.W.methodCall_KW (pl := pl) (thn (he.run pins s σ H _ I h) fun u s1 ⟨x, H1, I1, rx, a, dx, fs, ex, ea, l, q⟩ => ?_) ht
  subst ex
  obtain rfl : u = Value.ref a := rx
  refine getmeth_ok I1 ea c hm l ?_
  refine PySem.W.callWith_KW0 (first := [.ref a]) (h₀ := X.base) I.ok.mod.kin hm.kp hall ?_ hpl
  refine thn (hkw.run pos pins s1 σ H1 _ I1 q) fun ws s2 ⟨zs, H2, I2, rz, l1, l2, q2⟩ => ⟨I2.kIn, ?_⟩
  rw [hks]
  exact run_kwS (us := [.ref a]) (vs := [.ref a]) G (hr.mono hj) hbd (hx σ) I2 (.cons rfl .nil) rz rfl l2 q2
/-! C(e, ..) -/
theorem pmkS (D : DOk X.prog X.w X.K X.mg X.base d CXx k ps sp) (hx : ∀ σ, PassesAt CXx X σ (E σ)) (M : Mk X.K C (He.fAd X.K d.at_)) (hm : X.mg x = some (.ref C)) (hb : BdD X.K d ps dv) (hr : Room j X.A) (hj : k + 1 ≤ j) (ha : PA X (e :: es) t) (hg : Gl X x := by rfl)
    (hdb : (x == ("__debug__" : Str)) = false := by decide) (he : starEach (e :: es) X.env = (false, eval e X.env) :: starEach es X.env := by rfl) (hpl : (backTo pos (starEach es X.env)).any (·.1) = false := by rfl) :
    PE X (.Call (.Name x p) (e :: es) [] pos) (tMakeSD C sp dv E t) := by
  obtain ⟨fd, F, G⟩ := D.ex
  obtain ⟨ds, hv, hbd⟩ := hb fd F
  refine ⟨fun pins s σ H Q I h => wpAny_Call_Name_kw (ld_glob I hg hm (PySem.W.callWith_K (h₀ := X.base) I.ok.mod.kin M.kp (thn (ha.run pos pins s σ H _ I h) fun us s1 ⟨vs, H1, I1, r, q⟩ => ⟨I1.kIn, ?_⟩) he hpl) hdb)⟩
  exact run_mkS (full := fun a => .ref a :: (us ++ ds)) (vs := fun a => .ref a :: (vs ++ dv)) M G (hr.mono hj) (hx σ) I1 (fun a s2 hk hl => hbd s2 (.ref a :: us) hk (by rw [← hl]; exact (Vals.length (.cons rfl (Vals.append r hv) : Vals (.ref a :: (vs ++ dv)) (.ref a :: (us ++ ds)))).symm)) (fun a => .cons rfl (Vals.append r hv)) q
theorem pmkKS (D : DOk X.prog X.w X.K X.mg X.base d CXx k ps sp) (hx : ∀ σ, PassesAt CXx X σ (E σ)) (M : Mk X.K C (He.fAd X.K d.at_)) (hm : X.mg x = some (.ref C)) (hb : BdK X.K d ps (n + 1) ks gV) (hr : Room j X.A) (hj : k + 1 ≤ j) (ha : PA X (e :: es) t) (hkw : PK X kws tk) (hg : Gl X x := by rfl)
    (hall : (backToKw pos (keywordEach kws X.env)).all (·.1.isSome) = true := by rfl) (hks : (backToKw pos (keywordEach kws X.env)).filterMap (·.1) = ks := by rfl)
    (hdb : (x == ("__debug__" : Str)) = false := by decide) (he : starEach (e :: es) X.env = (false, eval e X.env) :: starEach es X.env := by rfl)
    (hpl : ((backTo pos (starEach (e :: es) X.env)).any (·.1) || (backToKw pos (keywordEach kws X.env)).any (·.1.isNone)) = false := by rfl) :
    PE X (.Call (.Name x p) (e :: es) kws pos) (tMakeNS C n ks.length sp gV E t tk) := by
  obtain ⟨fd, F, G⟩ := D.ex
  obtain ⟨g, hbd⟩ := hb fd F
  refine ⟨fun pins s σ H Q I h => wpAny_Call_Name_kw (ld_glob I hg hm (PySem.W.callWith_KW (h₀ := X.base) I.ok.mod.kin M.kp hall (thn (ha.run pos pins s σ H _ I h) fun us s1 ⟨vs, H1, I1, r, q⟩ => thn (hkw.run pos pins s1 σ H1 _ I1 q) fun ws s2 ⟨zs, H2, I2, rz, l1, l2, q2⟩ => ⟨I2.kIn, ?_⟩) hpl he) hdb)⟩
  rw [hks]
  exact run_mkS (us := us) (full := fun a => g (.ref a :: us) ws) (vs := fun a => gV (.ref a :: vs) zs) M G (hr.mono hj) (hx σ) I2 (fun a s2 hk hl => hbd.to s2 (.ref a :: us) ws hk (by rw [List.length_cons, ← r.length, l1]) (by rw [← rz.length]; exact l2)) (fun a => hbd.rel (.cons rfl r) rz) q2
end
end Gx

/-! Own layer Xd: isinstance and fields of a tracked exception; list.count, by values. -/
namespace Gx
open PySem PySem.Spec PyProof.Rows L2
structure XcC (K : PySem.W.Frag) (C : Addr) : Prop where
  e : ExcC K C
  cl : (PySem.W.clsIn K C).isSome = true
theorem xo_get {P : Program} {w : World} {H : Hp} {h : Heap} {a : Addr} {oe : Obj} (hok : HOk P w H h) (e : H a = some (XO a oe)) : h.get? a = some oe := by
  have q := hok a _ e
  unfold XO at q
  rw [ObjOk.eq_13] at q
  exact q.1
def XDct (H : Hp) (oe : Obj) : Prop := oe.dict = none ∨ ∃ dd fs, oe.dict = some dd ∧ H dd = some (.xd fs)
theorem xo_inst {P : Program} {w : World} {H : Hp} {h : Heap} {a C : Addr} {oe : Obj} (hok : HOk P w H h) (e : H a = some (XO a oe)) (hc : oe.cls = .ref C) (hd : ∃ w, oe.data = .fields w) (hx : XDct H oe) : ∃ od, PySem.W.InstAt h a oe C od := by
  have q := xo_get hok e
  obtain ⟨vs, hv⟩ := hd
  have no : PySem.W.notCls oe = true := by unfold PySem.W.notCls; rw [hv]
  rcases hx with hx | ⟨dd, fs, hx, hf⟩
  · exact ⟨none, q, hc, no, by rw [hx]; trivial⟩
  · obtain ⟨mA, hns, _⟩ := hok dd _ hf
    obtain ⟨od, ho, _⟩ := lookIn_ns hns
    exact ⟨some od, q, hc, no, by rw [hx]; exact ho⟩
def rIsX (K : PySem.W.Frag) (xs : List V) (H : Hp) (Q : VK) : Prop := ∃ (a C : Addr) (oe : Obj) (c : V) (u : Value) (b : Bool), xs = [.ref a, c] ∧ ClsV c u ∧ H a = some (XO a oe) ∧ oe.cls = .ref C ∧ (∃ w, oe.data = .fields w) ∧ XDct H oe ∧ XcC K C ∧ PySem.W.kitOne K (.ref C) u = some b ∧ Q (.bl b) H
theorem XcC.kit {K : PySem.W.Frag} {C x : Addr} {oe : Obj} {od : Option Obj} (c : XcC K C) : PySem.W.KitX K (.ref x) (.ref C) fun h => PySem.W.InstAt h x oe C od := PySem.W.kitx_exc c.cl c.e.hg c.e.hk c.e.hs c.e.ha c.e.hn c.e.ht c.e.hm
theorem call_isX {X : Cx} : CallR X (.builtin "isinstance") (rIsX X.K) := by
  intro pins s σ H xs us Q I r h
  obtain ⟨a, C, oe, c, u, b, rfl, hc, ha, h1, h2, h3, h4, h5, q⟩ := h
  obtain ⟨u1, u2, rfl, r1, r2⟩ := vals2 r
  cases r1
  have e2 := ClsV.eq hc r2
  subst e2
  obtain ⟨od, J⟩ := xo_inst I.hok ha h1 h2 h3
  exact PySem.W.kia_one (XcC.kit h4) I.kIn J h5 (fun z => nomatch z) fun tk => ⟨.bl b, H, I.tok tk, rfl, q⟩
def rIsXT (K : PySem.W.Frag) (xs : List V) (H : Hp) (Q : VK) : Prop := ∃ (a C tp : Addr) (oe : Obj) (cs : List V) (us : List Value) (b : Bool), xs = [.ref a, .ref tp] ∧ H tp = some (.tup cs) ∧ Paired ClsV cs us ∧ H a = some (XO a oe) ∧ oe.cls = .ref C ∧ (∃ w, oe.data = .fields w) ∧ XDct H oe ∧ XcC K C ∧ PySem.W.kitAny K (.ref C) us = some b ∧ Q (.bl b) H
theorem clsV_all {cs : List V} {us ws : List Value} (h : Paired ClsV cs us) (r : Vals cs ws) : ws = us := by
  induction h generalizing ws with
  | nil => cases r; rfl
  | cons a _ ih =>
    cases r with
    | cons r1 r2 => rw [ClsV.eq a r1, ih r2]
theorem call_isXT {X : Cx} : CallR X (.builtin "isinstance") (rIsXT X.K) := by
  intro pins s σ H xs us Q I r h
  obtain ⟨a, C, tp, oe, cs, ws, b, rfl, ht, hp, ha, h1, h2, h3, h4, h5, q⟩ := h
  obtain ⟨u1, u2, rfl, r1, r2⟩ := vals2 r
  cases r1
  cases r2
  obtain ⟨od, J⟩ := xo_inst I.hok ha h1 h2 h3
  obtain ⟨_, its, hv, ot, ho, hoc, n, hod⟩ := I.hok tp _ ht
  obtain ⟨cls, dd, data, sl⟩ := ot
  cases hoc
  cases hod
  have e := clsV_all hp hv
  subst e
  exact PySem.W.kia_tup (XcC.kit h4) I.kIn J ho h5 (fun z => nomatch z) fun tk => ⟨.bl b, H, I.tok tk, rfl, q⟩
/-! ### list.count -/
def rCntV (K : PySem.W.Frag) (x : V) (xs : List V) (H : Hp) (Q : VK) : Prop := ∃ (a : Addr) (ys : List V) (y : V), x = .ref a ∧ xs = [y] ∧ SqL K H a ys ∧ flatV y = true ∧ ys.all flatV = true ∧ Q (.int ((ys.countP fun z => eqV z y : Nat) : Int)) H
theorem cntU {y : V} : ∀ {ys : List V} {us : List Value}, Vals ys us → ys.all flatV = true → us.countP (eqU y) = ys.countP fun z => eqV z y
  | [], us, r, _ => by cases r; rfl
  | z :: ys, us, r, h => by
    cases r with
    | cons r1 r2 =>
      obtain ⟨h1, h2⟩ := Bool.and_eq_true_iff.mp (show (flatV z && ys.all flatV) = true from h)
      rw [List.countP_cons, List.countP_cons, cntU r2 h2, eqU_of r1 h1]
theorem mt_cntV {X : Cx} : MtR X "list.count" (rCntV X.K) := by
  intro pins s σ H x xs v us Q I rx rxs h
  obtain ⟨p, ys, y, rfl, rfl, hs, fy, fys, q⟩ := h
  cases rx
  obtain ⟨u, rfl, ru⟩ := Vals.one rxs
  obtain ⟨its, rv, ⟨w, n, ho, hc, hdn, hd⟩, hlen⟩ := Inv.list I hs
  obtain ⟨cls, dd, data, sl⟩ := w
  cases hc
  cases hdn
  cases hd
  refine call_meets F.slot_list_count ⟨_, ho, rfl⟩ F.entry_list_count (F.args_list_count_2 (.ref p) u) (SeqAt.list_countAt p its.toArray n none sl u (eqU y)) ⟨ho, fun z hz => mem_eqAt ru fy rv fys z (by simpa using hz), ?_⟩
  refine ⟨.int ((ys.countP fun z => eqV z y : Nat) : Int), H, I.tok (s.toks + 1), ⟨s.toks, ?_⟩, q⟩
  rw [show its.toArray.toList = its from rfl, cntU rv fys]
end Gx

/-! Own layer Xe: the simulation of calls that may raise, raise, try, isinstance of exceptions. -/
namespace Qx
open PySem PySem.Spec PyProof.Rows L2 Gx
def noXM {α : Type} (m : List PV → Sto → PR α) : List PV → Sto → PR α := fun ps O => noX (m ps O)
theorem RepX.mono {K : PySem.W.Frag} {ι ι' : List Addr} {G G' : Hp} {e : PExc} {c : Value} {d : Option Addr} (hp : Pre ι ι') (s : Same G G') (h : RepX K ι G e c d) : RepX K ι' G' e c d :=
  ⟨h.1, let ⟨xs, h1, h2, h3⟩ := h.2; ⟨xs, h1.mono s, h2, h3.mono hp s⟩⟩
theorem Post.ofNone {α β : Type} {K : PySem.W.Frag} {R : List (Addr × HO)} {E : Option XK} {rp : List Addr → Hp → α → β → Prop} {ι : List Addr} {O : Sto} {H : Hp} {Q : β → Hp → Prop} {r : PR α} (h : Post K R none rp ι O H Q r) : Post K R E rp ι O H Q r := by
  cases r with
  | ok a O' => exact h
  | exc e O' => obtain ⟨_, z, _⟩ := h; cases z
  | bad => exact h
section
variable {K : PySem.W.Frag} {E : XM} {e : L2.St → XK} {ta : TE} {fa : EF} {tA tZ : TA} {fA fZ : AF} {C m : Str} {mf : MF} {dps : List PV} {dvs : List V} {n k : Nat} {gP : List PV → List PV → List PV} {gV : List V → List V → List V}
theorem spM_T {m : MF} {vs : List V} {H : Hp} {Q : VK} {E : XK} {R : List (Addr × HO)} {ι : List Addr} {O : Sto} {ps : List PV} (S : Sim K R ι O H) (r : RepL K ι (fz R ι O H) ps vs) (h : Post K R (some E) (Rep K) ι O H Q (m ps O)) : spM K true m vs H Q E := ⟨R, ι, O, ps, S, r, h⟩
theorem spM_F {m : MF} {vs : List V} {H : Hp} {Q : VK} {E : XK} {E' : Option XK} {R : List (Addr × HO)} {ι : List Addr} {O : Sto} {ps : List PV} (S : Sim K R ι O H) (r : RepL K ι (fz R ι O H) ps vs) (h : Post K R E' (Rep K) ι O H Q (noX (m ps O))) : spM K false m vs H Q E := ⟨R, ι, O, ps, S, r, Post.noX h⟩
/-! defs that do not raise, wherever they are called -/
theorem sim_callN (hA : SimA K E tA fA) (hd : ∀ ι G, RepL K ι G dps dvs) : SimE K E (tCall (spM K false mf) dvs E0 tA) (eCall (noXM mf) dps fA) := fun R ι O H σ s Q S L h =>
  hA R ι O H σ s _ S L (h.bind fun ps O1 xs ι1 H1 S1 X1 r1 h1 => spM_F S1 (r1.app (hd _ _)) h1)
/-! calls that may raise -/
theorem sim_callS (hA : SimA K (some e) tA fA) (hd : ∀ ι G, RepL K ι G dps dvs) : SimE K (some e) (tCallSD (spM K true mf) dvs e tA) (eCall mf dps fA) := fun R ι O H σ s Q S L h =>
  hA R ι O H σ s _ S L (h.bind fun ps O1 xs ι1 H1 S1 X1 r1 h1 => spM_T S1 (r1.app (hd _ _)) h1)
theorem sim_callKS (hA : SimA K (some e) tA fA) (hZ : SimA K (some e) tZ fZ) (hg : ∀ ι G ps vs zs ws, RepL K ι G ps vs → RepL K ι G zs ws → RepL K ι G (gP ps zs) (gV vs ws)) : SimE K (some e) (tCallNS n k (spM K true mf) gV e tA tZ) (eCallK mf n k gP fA fZ) := fun R ι O H σ s Q S L h =>
  hA R ι O H σ s _ S L (h.bind fun ps O1 xs ι1 H1 S1 X1 r1 h1 => hZ R ι1 O1 H1 σ s _ S1 (L.ext X1) (h1.bind fun zs O2 ws ι2 H2 S2 X2 r2 h2 => by
    split at h2
    · rename_i c
      exact ⟨by rw [r1.len]; exact c.1, by rw [r2.len]; exact c.2, spM_T S2 (hg _ _ _ _ _ _ (X2.repL r1) r2) h2⟩
    · exact h2.elim))
/-! methods -/
theorem meth_core {E : XM} {P : V → List V → Hp → VK → Prop} {sp : PV → List PV → Sto → PR PV} {m : Str} (ha : SimE K E ta fa) (hA : SimA K E tA fA)
    (hp : ∀ R ι O H σ p ps x xs Q, Sim K R ι O H → Rep K ι (fz R ι O H) p x → RepL K ι (fz R ι O H) ps xs → Post K R (xat E σ) (Rep K) ι O H Q (sp p ps O) → P x xs H Q) (R : List (Addr × HO)) (ι : List Addr) (O : Sto) (H : Hp) (σ : L2.St) (s : Slots) (Q : VK) (S : Sim K R ι O H) (L : SlR K ι (fz R ι O H) σ s)
    (h : Post K R (xat E σ) (Rep K) ι O H Q ((fa s O).bind fun p O1 => match insOf O1 p with
      | some (C', ns, qs) => if C' = C ∧ ((ns.zip qs).lookup m).isNone = true then (fA s O1).bind fun ps O2 => sp p ps O2 else .bad
      | none => .bad)) : ta σ H fun x H1 => ∃ a dx fs, x = .ref a ∧ H1 a = some (.ins (He.ga K C) dx fs) ∧ fs.lookup m = none ∧ tA σ H1 fun vs H2 => P x vs H2 Q :=
  ha R ι O H σ s _ S L (h.bind fun p O1 x ι1 H1 S1 X1 r1 h1 => by
    cases q : insOf O1 p with
    | none => simp [q] at h1; exact h1.elim
    | some w =>
      obtain ⟨C', ns, ps⟩ := w
      simp only [q] at h1
      split at h1
      · rename_i c
        obtain ⟨a, dx, xs, h2, h3, h4, h5⟩ := ins_read S1 r1 q
        have hn : (ns.zip ps).lookup m = none := Option.isNone_iff_eq_none.mp c.2
        exact ⟨a, dx, _, h2, by rw [h3, c.1], (zip_lookup h5).2 hn, hA R ι1 O1 H1 σ s _ S1 (L.ext X1) (h1.bind fun qs O2 vs ι2 H2 S2 X2 r2 h6 => hp R ι2 O2 H2 σ p qs x vs Q S2 (X2.rep r1) r2 h6)⟩
      · exact h1.elim)
theorem sim_methX (ha : SimE K none ta fa) (hA : SimA K none tA fA) (hd : ∀ ι G, RepL K ι G dps dvs) : SimE K none (tMethSD (He.ga K C) m (spM K true mf) dvs (fun _ => E0) ta tA) (eMeth C m mf dps fa fA) := fun R ι O H σ s Q S L h =>
  meth_core (P := fun x vs H2 Q => spM K true mf (x :: (vs ++ dvs)) H2 Q E0) (sp := fun p ps O => mf (p :: (ps ++ dps)) O) ha hA (fun R ι O H σ p ps x xs Q S r1 r2 h => spM_T S (.consR r1 (r2.app (hd _ _))) (Post.ofNone h)) R ι O H σ s Q S L h
theorem sim_methS (ha : SimE K (some e) ta fa) (hA : SimA K (some e) tA fA) (hd : ∀ ι G, RepL K ι G dps dvs) : SimE K (some e) (tMethSD (He.ga K C) m (spM K true mf) dvs e ta tA) (eMeth C m mf dps fa fA) := fun R ι O H σ s Q S L h =>
  ha R ι O H σ s _ S L (h.bind fun p O1 x ι1 H1 S1 X1 r1 h1 => by
    cases q : insOf O1 p with
    | none => simp [q] at h1; exact h1.elim
    | some w =>
      obtain ⟨C', ns, ps⟩ := w
      simp only [q] at h1
      split at h1
      · rename_i c
        obtain ⟨a, dx, xs, h2, h3, h4, h5⟩ := ins_read S1 r1 q
        have hn : (ns.zip ps).lookup m = none := Option.isNone_iff_eq_none.mp c.2
        exact ⟨a, dx, _, h2, by rw [h3, c.1], (zip_lookup h5).2 hn, hA R ι1 O1 H1 σ s _ S1 (L.ext X1) (h1.bind fun qs O2 vs ι2 H2 S2 X2 r2 h6 => spM_T S2 (.consR (X2.rep r1) (r2.app (hd _ _))) h6)⟩
      · exact h1.elim)
theorem methK_core {E : XM} {P : V → List V → List V → Hp → L2.St → VK → Prop} {sp : PV → List PV → List PV → Sto → PR PV} {m : Str} {n k : Nat} (ha : SimE K E ta fa) (hA : SimA K E tA fA) (hZ : SimA K E tZ fZ)
    (hp : ∀ R ι O H σ p ps zs x xs ws Q, Sim K R ι O H → Rep K ι (fz R ι O H) p x → RepL K ι (fz R ι O H) ps xs → RepL K ι (fz R ι O H) zs ws → Post K R (xat E σ) (Rep K) ι O H Q (sp p ps zs O) → P x xs ws H σ Q) (R : List (Addr × HO)) (ι : List Addr) (O : Sto) (H : Hp) (σ : L2.St) (s : Slots) (Q : VK) (S : Sim K R ι O H) (L : SlR K ι (fz R ι O H) σ s)
    (h : Post K R (xat E σ) (Rep K) ι O H Q ((fa s O).bind fun p O1 => match insOf O1 p with
      | some (C', ns, qs) => if C' = C ∧ ((ns.zip qs).lookup m).isNone = true then (fA s O1).bind fun ps O2 => (fZ s O2).bind fun zs O3 => if ps.length + 1 = n ∧ zs.length = k then sp p ps zs O3 else .bad else .bad
      | none => .bad)) : ta σ H fun x H1 => ∃ a dx fs, x = .ref a ∧ H1 a = some (.ins (He.ga K C) dx fs) ∧ fs.lookup m = none ∧ tA σ H1 fun vs H2 => tZ σ H2 fun zs H3 => vs.length + 1 = n ∧ zs.length = k ∧ P (.ref a) vs zs H3 σ Q :=
  ha R ι O H σ s _ S L (h.bind fun p O1 x ι1 H1 S1 X1 r1 h1 => by
    cases q : insOf O1 p with
    | none => simp [q] at h1; exact h1.elim
    | some w =>
      obtain ⟨C', ns, ps⟩ := w
      simp only [q] at h1
      split at h1
      · rename_i c
        obtain ⟨a, dx, xs, h2, h3, h4, h5⟩ := ins_read S1 r1 q
        have hn : (ns.zip ps).lookup m = none := Option.isNone_iff_eq_none.mp c.2
        subst h2
        refine ⟨a, dx, _, rfl, by rw [h3, c.1], (zip_lookup h5).2 hn, hA R ι1 O1 H1 σ s _ S1 (L.ext X1) (h1.bind fun qs O2 vs ι2 H2 S2 X2 r2 h6 => hZ R ι2 O2 H2 σ s _ S2 (L.ext (X1.trans X2)) (h6.bind fun zs O3 ws ι3 H3 S3 X3 r3 h7 => ?_))⟩
        split at h7
        · rename_i cc
          exact ⟨by rw [r2.len]; exact cc.1, by rw [r3.len]; exact cc.2, hp R ι3 O3 H3 σ p qs zs _ vs ws Q S3 ((X2.trans X3).rep r1) (X3.repL r2) r3 h7⟩
        · exact h7.elim
      · exact h1.elim)
theorem sim_methKS (ha : SimE K (some e) ta fa) (hA : SimA K (some e) tA fA) (hZ : SimA K (some e) tZ fZ) (hg : ∀ ι G ps vs zs ws, RepL K ι G ps vs → RepL K ι G zs ws → RepL K ι G (gP ps zs) (gV vs ws)) : SimE K (some e) (tMethNS (He.ga K C) m n k (spM K true mf) gV e ta tA tZ) (eMethK C m mf n k gP fa fA fZ) := fun R ι O H σ s Q S L h =>
  methK_core (P := fun x vs zs H2 σ Q => spM K true mf (gV (x :: vs) zs) H2 Q (e σ)) (sp := fun p ps zs O => mf (gP (p :: ps) zs) O) ha hA hZ (fun R ι O H σ p ps zs x xs ws Q S r1 r2 r3 h => spM_T S (hg _ _ _ _ _ _ (.consR r1 r2) r3) h) R ι O H σ s Q S L h
end
/-! ### a def that may raise -/
theorem spM_runX {K : PySem.W.Frag} {n : Nat} {N : List Str} {body : SF} {vs : List V} {H : Hp} {Q : VK} {E : XK} {t : TS} (hs : SimS K (some fun _ => E) t body) (h : spM K true (mkDef n N.length body) vs H Q E) : t { nx := fun _ H => Q .non H, rt := Q } (L2.start N vs) H := by
  have hl := spM_len h
  obtain ⟨R, ι, O, ps, S, r, h⟩ := h
  have h : Post K R (some E) (Rep K) ι O H Q (mkDef n N.length body ps O) := h
  unfold mkDef at h
  have hp : ps.length = n := by rw [← r.len]; exact hl
  rw [if_pos hp] at h
  have e : L2.start N vs = vs.map some ++ List.replicate (N.length - n) none := by unfold L2.start; rw [hl]
  rw [e]
  refine hs R ι O H _ (ps.map some ++ List.replicate (N.length - n) none) _ S (SlR.start r _) ?_
  cases q : body (ps.map some ++ List.replicate (N.length - n) none) O with
  | next s O' => rw [q] at h; exact fun σ' ι' H' S' X' L' => h .non ι' H' S' X' rfl
  | ret p O' => rw [q] at h; exact h
  | exc e s O' =>
    rw [q] at h
    obtain ⟨E', e1, h⟩ := h
    cases e1
    exact ⟨_, rfl, fun σ' c d ι' H' S' X' L' rx => h c d ι' H' S' X' rx⟩
  | _ => rw [q] at h; exact h.elim
/-! ### raise, try -/
abbrev we (W : WX) : L2.St → XK := fun σ c d H => W c d σ H
def sRaiseP (C : Str) : SF := fun s O => .exc ⟨.cls C, [], []⟩ s O
theorem sim_raiseP {K : PySem.W.Frag} {C : Str} {W : WX} : SimS K (some (we W)) (fun _ σ H => (fun (_ : L2.St) (H : Hp) (Q : XK) => Q (.ref (He.ga K C)) none H) σ H fun cls d H' => W cls d σ H') (sRaiseP C) := fun R ι O H σ s D S L h => by
  obtain ⟨E', e1, h⟩ := h
  cases e1
  exact h σ _ none ι H S .refl L ⟨rfl, [], .inl ⟨rfl, rfl⟩, rfl, rfl⟩
def SR.unset (i : Nat) : SR → SR
  | .next s O => .next (s.set i none) O
  | .brk s O => .brk (s.set i none) O
  | .cnt s O => .cnt (s.set i none) O
  | .ret p O => .ret p O
  | .exc _ _ _ => .bad
  | .bad => .bad
def sTryAs (i : Nat) (cm : Str → Option Bool) (fb fs : SF) : SF := fun s O => match fb s O with
  | .exc ⟨.cls C, ns, ps⟩ s1 O1 => match cm C with
    | some true => (fs (s1.set i (some (.xc C ns ps))) O1).unset i
    | some false => .exc ⟨.cls C, ns, ps⟩ s1 O1
    | none => .bad
  | .exc _ _ _ => .bad
  | r => r
def SR.noX : SR → SR
  | .exc _ _ _ => .bad
  | r => r
section
variable {K : PySem.W.Frag} {E : XM} {i : Nat} {cm : Str → Option Bool} {cV : Value} {fb fs : SF} {tb : WX → TS} {ts : TS} {Wout : WX}
theorem sim_tryAs (hE : ∀ e, E = some e → e = we Wout) (hcm : ∀ C b, cm C = some b → PySem.W.exmOne K (.ref (He.ga K C)) cV = some b) (hB : ∀ W, SimS K (some (we W)) (tb W) fb) (hS : SimS K none ts fs) : SimS K E (fun D σ H => tb (wAsT K cV i ts Wout D) D σ H) (sTryAs i cm fb fs) := by
  intro R ι O H σ s D S L h
  refine hB _ R ι O H σ s D S L ?_
  unfold sTryAs at h
  cases q : fb s O with
  | next s1 O1 => simp only [q] at h; exact h
  | ret p O1 => simp only [q] at h; exact h
  | brk s1 O1 => simp only [q] at h; exact h
  | cnt s1 O1 => simp only [q] at h; exact h
  | bad => simp only [q] at h; exact h
  | exc e s1 O1 =>
    obtain ⟨cls, ns, ps⟩ := e
    cases cls with
    | cls C =>
      simp only [q] at h
      cases hc : cm C with
      | none => simp only [hc] at h; exact h.elim
      | some b =>
        refine ⟨_, rfl, fun σ' c d ι' H' S' X' L' rx => ?_⟩
        obtain ⟨ec, xs, xd, ln, rl⟩ := rx
        have ec : c = .ref (He.ga K C) := ec
        refine ⟨b, by rw [ec]; exact hcm C b hc, fun eb a oe hn hz hd => ?_, fun eb => ?_⟩
        · subst eb
          simp only [hc] at h
          obtain ⟨S2, X2, e2⟩ := S'.newF hn (XO a oe)
          have rep : Rep K ι' (fz R ι' O1 (upd H' a (XO a oe))) (.xc C ns ps) (.ref a) := ⟨a, oe, xs, rfl, e2, hz.1.trans ec, hd, by rw [hz.2]; exact xd.mono X2.same, ln, X2.repL rl⟩
          refine hS R ι' O1 _ _ (s1.set i (some (.xc C ns ps))) _ S2 ((L'.ext X2).set i rep) ?_
          cases q2 : fs (s1.set i (some (.xc C ns ps))) O1 with
          | next s2 O2 => simp only [q2, SR.unset] at h; exact fun σ3 ι3 H3 S3 X3 L3 => h _ ι3 H3 S3 (X'.trans (X2.trans X3)) (L3.set0 i)
          | brk s2 O2 => simp only [q2, SR.unset] at h; exact fun σ3 ι3 H3 S3 X3 L3 => h _ ι3 H3 S3 (X'.trans (X2.trans X3)) (L3.set0 i)
          | cnt s2 O2 => simp only [q2, SR.unset] at h; exact fun σ3 ι3 H3 S3 X3 L3 => h _ ι3 H3 S3 (X'.trans (X2.trans X3)) (L3.set0 i)
          | ret p O2 => simp only [q2, SR.unset] at h; exact fun v ι3 H3 S3 X3 r3 => h v ι3 H3 S3 (X'.trans (X2.trans X3)) r3
          | exc e s2 O2 => simp only [q2, SR.unset] at h; exact h.elim
          | bad => simp only [q2, SR.unset] at h; exact h.elim
        · subst eb
          simp only [hc] at h
          obtain ⟨E', e1, h⟩ := h
          have e2 := hE E' e1
          subst e2
          exact h σ' c d ι' H' S' X' L' ⟨ec, xs, xd, ln, rl⟩
    | _ => simp only [q] at h; exact h.elim
theorem sim_callW {tA : TA} {fA : AF} {mf : MF} (hA : SimA K none tA fA) : SimE K none (tCall (spM K false mf) [] E0 tA) (eCall mf [] fA) := sim_call hA fun _ _ => RepL.nilR
end
end Qx

/-! Own layer Xf: new instances whose __init__ may raise; isinstance of exceptions; list.count, list.index; {}. -/
namespace Qx
open PySem PySem.Spec PyProof.Rows L2 Gx
def spIX (K : PySem.W.Frag) (C : Str) (m : List PV → Sto → PR (List Str × List PV)) : Sp := fun vs H Q E => ∃ (x dx : Addr) (us : List V) (R : List (Addr × HO)) (ι : List Addr) (O : Sto) (ps : List PV), vs = .ref x :: us ∧ Sim K (hdI K C x dx [] [] :: R) ι O H ∧ RepL K ι (fz (hdI K C x dx [] [] :: R) ι O H) ps us ∧
  match m ps O with
  | .ok (ns, qs) O' => ∀ ι' H' xs, Sim K (hdI K C x dx ns xs :: R) ι' O' H' → Pre ι ι' → Same (fz (hdI K C x dx [] [] :: R) ι O H) (fz (hdI K C x dx ns xs :: R) ι' O' H') → ns.length = qs.length → RepL K ι' (fz (hdI K C x dx ns xs :: R) ι' O' H') qs xs → Q .non H'
  | .exc e O' => ∀ c d ι' H' ns xs, Sim K (hdI K C x dx ns xs :: R) ι' O' H' → Pre ι ι' → Same (fz (hdI K C x dx [] [] :: R) ι O H) (fz (hdI K C x dx ns xs :: R) ι' O' H') → RepX K ι' (fz (hdI K C x dx ns xs :: R) ι' O' H') e c d → E c d H'
  | .bad => False
def PostBX (K : PySem.W.Frag) (C : Str) (E : XK) (R : List (Addr × HO)) (x dx : Addr) (ι : List Addr) (O : Sto) (H : Hp) (ns : List Str) (xs : List V) (nx : L2.St → Hp → Prop) : BR → Prop
  | .next ns' ps' s' O' => ∀ σ' ι' H' xs', SimI K C R ι' O' H' x dx ns' ps' xs' σ' s' → ExtI K C R x dx ι O H ns xs ι' O' H' ns' xs' → nx σ' H'
  | .exc e O' => ∀ c d ι' H' ns' xs', Sim K (hdI K C x dx ns' xs' :: R) ι' O' H' → ExtI K C R x dx ι O H ns xs ι' O' H' ns' xs' → RepX K ι' (fz (hdI K C x dx ns' xs' :: R) ι' O' H') e c d → E c d H'
  | .bad => False
def SimBX (K : PySem.W.Frag) (C : Str) (E : XK) (t : TS) (g : BF) : Prop := ∀ R ι O H x dx ns ps xs σ s (D : Ends), SimI K C R ι O H x dx ns ps xs σ s → PostBX K C E R x dx ι O H ns xs D.nx (g ns ps s O) → t D σ H
section
variable {K : PySem.W.Frag} {C : Str} {E : XK} {ta : TE} {fa : EF} {tS uS : TS} {f g : BF}
theorem sbx_seq (ha : SimBX K C E tS f) (hb : SimBX K C E uS g) : SimBX K C E (tSeq tS uS) (bSeq f g) := fun R ι O H x dx ns ps xs σ s D I h => ha R ι O H x dx ns ps xs σ s _ I (by
  unfold bSeq at h
  cases e : f ns ps s O with
  | next ns' ps' s' O' =>
    rw [e] at h
    intro σ' ι' H' xs' I' X'
    refine hb R ι' O' H' x dx ns' ps' xs' σ' s' D I' ?_
    have h' : PostBX K C E R x dx ι O H ns xs D.nx (g ns' ps' s' O') := h
    cases e2 : g ns' ps' s' O' with
    | next ns2 ps2 s2 O2 => rw [e2] at h'; exact fun σ2 ι2 H2 xs2 I2 X2 => h' σ2 ι2 H2 xs2 I2 (X'.trans X2)
    | exc e O2 => rw [e2] at h'; exact fun c d ι2 H2 ns2 xs2 S2 X2 r2 => h' c d ι2 H2 ns2 xs2 S2 (X'.trans X2) r2
    | bad => rw [e2] at h'; exact h'.elim
  | exc e O2 => rw [e] at h; exact h
  | bad => rw [e] at h; exact h.elim)
theorem sbx_exp (ha : SimE K (some fun _ => E) ta fa) : SimBX K C E (tDrop ta) (bExp fa) := fun R ι O H x dx ns ps xs σ s D I h => ha _ ι O H σ s _ I.S I.L (by
  unfold bExp at h
  cases e : fa s O with
  | ok p O1 =>
    rw [e] at h
    exact fun v ι' H' S' X' r' => h σ ι' H' xs ⟨S', I.ln, X'.repL I.r, I.s0, I.n0, I.L.ext X'⟩ ⟨X'.pre, X'.same⟩
  | exc x O1 =>
    rw [e] at h
    exact ⟨E, rfl, fun c d ι' H' S' X' rx => h c d ι' H' ns xs S' ⟨X'.pre, X'.same⟩ rx⟩
  | bad => rw [e] at h; exact h.elim)
theorem sbx_fld {f : Str} (c : Cls K (He.ga K C)) (no : NoAttr K (He.ga K C) f) (ha : SimE K (some fun _ => E) ta fa) : SimBX K C E (sFld K (tVar 0) ta f) (bFld f fa) := fun R ι O H x dx ns ps xs σ s D I h => ha _ ι O H σ s _ I.S I.L (by
  unfold bFld at h
  cases e : fa s O with
  | ok p O1 =>
    rw [e] at h
    simp only at h
    split at h
    · exact h.elim
    · rename_i cc
      have c1 : f ∉ ns := fun z => cc (.inl z)
      have c2 : ns.length ≤ 900 := Nat.le_of_not_lt fun z => cc (.inr z)
      intro v ι' H' S' X' r'
      have hx := S'.hid _ List.mem_cons_self
      have hlen : ns.length = xs.length := by rw [I.r.len]; exact I.ln
      refine ⟨.ref x, I.s0, x, _, dx, _, rfl, hx, c, no, ?_, ?_⟩
      · rw [List.length_zip]; omega
      · obtain ⟨S2, e2⟩ := S'.hid_set (.ins (He.ga K C) dx ((ns ++ [f]).zip (xs ++ [v])))
        have e2 : fz (hdI K C x dx (ns ++ [f]) (xs ++ [v]) :: R) ι' O1 (upd H' x (.ins (He.ga K C) dx ((ns ++ [f]).zip (xs ++ [v])))) = fz (hdI K C x dx ns xs :: R) ι' O1 H' := e2
        rw [putF_new hlen c1]
        have er : RepL K ι' (fz (hdI K C x dx (ns ++ [f]) (xs ++ [v]) :: R) ι' O1 (upd H' x (.ins (He.ga K C) dx ((ns ++ [f]).zip (xs ++ [v]))))) (ps ++ [p]) (xs ++ [v]) := by
          have q := (X'.repL I.r).app (.one r')
          rw [← e2] at q
          exact q
        refine h σ ι' _ (xs ++ [v]) ⟨S2, by rw [List.length_append, List.length_append, I.ln]; rfl, er, I.s0, I.n0, ?_⟩ ⟨X'.pre, ?_⟩
        · have q := I.L.ext X'
          rw [← e2] at q
          exact q
        · have q := X'.same
          rw [← e2] at q
          exact q
  | exc x O1 =>
    rw [e] at h
    exact ⟨E, rfl, fun c d ι' H' S' X' rx => h c d ι' H' ns xs S' ⟨X'.pre, X'.same⟩ rx⟩
  | bad => rw [e] at h; exact h.elim)
theorem spIX_len {n N : Nat} {body : BF} {vs : List V} {H : Hp} {Q : VK} {E : XK} (h : spIX K C (mkInit n N body) vs H Q E) : vs.length = n + 1 := by
  obtain ⟨x, dx, us, R, ι, O, ps, e, S, r, h⟩ := h
  unfold mkInit at h
  by_cases c : ps.length = n
  · rw [e, List.length_cons, r.len, c]
  · rw [if_neg c] at h; exact h.elim
theorem spIX_run {n : Nat} {N : List Str} {body : BF} {vs : List V} {H : Hp} {Q : VK} {t : TS} (hs : SimBX K C E t body) (h : spIX K C (mkInit n N.length body) vs H Q E) : t { nx := fun _ H => Q .non H, rt := Q } (L2.start N vs) H := by
  have hl := spIX_len h
  obtain ⟨x, dx, us, R, ι, O, ps, e, S, r, h⟩ := h
  have hp : ps.length = n := by rw [e, List.length_cons, r.len] at hl; omega
  unfold mkInit at h
  rw [if_pos hp] at h
  have e2 : L2.start N vs = some (.ref x) :: (us.map some ++ List.replicate (N.length - (n + 1)) none) := by
    unfold L2.start
    rw [hl, e]
    rfl
  rw [e2]
  refine hs R ι O H x dx [] [] [] _ (none :: ps.map some ++ List.replicate (N.length - (n + 1)) none) _ ⟨S, rfl, rfl, rfl, fun p z => ?_, ?_⟩ ?_
  · simp at z
  · have L := SlR.start (K := K) r (N.length - (n + 1))
    refine ⟨by simp [r.len], fun i p e => ?_⟩
    cases i with
    | zero => simp at e
    | succ i =>
      rw [List.cons_append, List.getElem?_cons_succ] at e
      rw [List.getElem?_cons_succ]
      exact L.2 i p e
  · cases q : body [] [] (none :: ps.map some ++ List.replicate (N.length - (n + 1)) none) O with
    | next ns qs s O' =>
      rw [q] at h
      exact fun σ' ι' H' xs' I' X' => h ι' H' xs' I'.S X'.pre X'.same I'.ln I'.r
    | exc e O' =>
      rw [q] at h
      exact fun c d ι' H' ns' xs' S' X' rx => h c d ι' H' ns' xs' S' X'.pre X'.same rx
    | bad => rw [q] at h; exact h.elim
end
section
variable {K : PySem.W.Frag} {E : XM} {e : L2.St → XK} {C : Str} {tA tZ : TA} {fA fZ : AF} {m : List PV → Sto → PR (List Str × List PV)} {dps : List PV} {dvs : List V} {n k : Nat} {gP : List PV → List PV → List PV} {gV : List V → List V → List V} {mf : MF}
theorem mkX_core {R : List (Addr × HO)} {ι : List Addr} {O : Sto} {H : Hp} {ps : List PV} {us : List V} {Q : VK} {E : XK} {x dx : Addr} (S : Sim K R ι O H) (r : RepL K ι (fz R ι O H) ps us) (h : Post K R (some E) (Rep K) ι O H Q (mkIns C (m ps O))) (hx : H x = none) (hdx : H dx = none) (ne : dx ≠ x) :
    spIX K C m (.ref x :: us) (upd (upd H dx (.own x)) x (.ins (He.ga K C) dx [])) (fun v H2 => v = .non ∧ Q (.ref x) H2) E := by
  obtain ⟨S1, X1, _⟩ := S.newF hdx (.own x)
  obtain ⟨S2, e2⟩ := S1.hide_new (D := x) (by rw [upd_ne fun e => ne e.symm]; exact hx) (.ins (He.ga K C) dx [])
  have sm : Same (fz R ι O H) (fz (hdI K C x dx [] [] :: R) ι O (upd (upd H dx (.own x)) x (.ins (He.ga K C) dx []))) := by
    have q := X1.same
    rw [← e2] at q
    exact q
  refine ⟨x, dx, us, R, ι, O, ps, rfl, S2, r.mono .refl sm, ?_⟩
  cases e : m ps O with
  | bad => rw [e] at h; exact h.elim
  | exc e O' =>
    rw [e] at h
    obtain ⟨_, z, h⟩ := h
    cases z
    intro c d ι' H' ns xs S' pre sm' rx
    obtain ⟨S3, sm3, e3⟩ := S'.unhide
    exact h c d ι' H' S3 ⟨pre, same_trans sm (same_trans sm' sm3)⟩ (rx.mono .refl sm3)
  | ok w O' =>
    obtain ⟨ns, qs⟩ := w
    rw [e] at h
    intro ι' H' xs S' pre sm' ln r'
    obtain ⟨S3, sm3, e3⟩ := S'.unhide
    refine ⟨rfl, h (.ref x) ι' H' S3 ⟨pre, same_trans sm (same_trans sm' sm3)⟩ ⟨x, dx, xs, rfl, e3, ln, r'.mono .refl sm3⟩⟩
theorem sim_makeX (hA : SimA K none tA fA) (hd : ∀ ι G, RepL K ι G dps dvs) : SimE K none (tMakeSD (He.ga K C) (spIX K C m) dvs (fun _ => E0) tA) (eMake C m dps fA) := fun R ι O H σ s Q S L h =>
  hA R ι O H σ s _ S L (h.bind fun ps O1 xs ι1 H1 S1 X1 r1 h1 => fun x dx hx hdx ne => mkX_core S1 (r1.app (hd _ _)) h1.ofNone hx hdx ne)
theorem sim_makeS (hA : SimA K (some e) tA fA) (hd : ∀ ι G, RepL K ι G dps dvs) : SimE K (some e) (tMakeSD (He.ga K C) (spIX K C m) dvs e tA) (eMake C m dps fA) := fun R ι O H σ s Q S L h =>
  hA R ι O H σ s _ S L (h.bind fun ps O1 xs ι1 H1 S1 X1 r1 h1 => fun x dx hx hdx ne => mkX_core S1 (r1.app (hd _ _)) h1 hx hdx ne)
theorem sim_makeKS (hA : SimA K (some e) tA fA) (hZ : SimA K (some e) tZ fZ) (hg : ∀ x ι G ps vs zs ws, RepL K ι G ps vs → RepL K ι G zs ws → ∃ us, gV (.ref x :: vs) ws = .ref x :: us ∧ RepL K ι G (gP ps zs) us) : SimE K (some e) (tMakeNS (He.ga K C) n k (spIX K C m) gV e tA tZ) (eMakeK C m n k gP fA fZ) := fun R ι O H σ s Q S L h =>
  hA R ι O H σ s _ S L (h.bind fun ps O1 xs ι1 H1 S1 X1 r1 h1 => hZ R ι1 O1 H1 σ s _ S1 (L.ext X1) (h1.bind fun zs O2 ws ι2 H2 S2 X2 r2 h2 => by
    split at h2
    · rename_i c
      refine ⟨by rw [r1.len]; exact c.1, by rw [r2.len]; exact c.2, fun x dx hx hdx ne => ?_⟩
      obtain ⟨us, e, r3⟩ := hg x _ _ ps xs zs ws (X2.repL r1) r2
      rw [e]
      exact mkX_core S2 r3 h2 hx hdx ne
    · exact h2.elim))
/-! things that change -/
end
end Qx

/-! Own layer Xg: what the head tells of exception classes; isinstance; count, index; {}. -/
namespace Qx
open PySem PySem.Spec PyProof.Rows L2 Gx
def xnOf : PV → Option XN
  | .cls C => some (.own C)
  | .ty n => some (.blt n)
  | _ => none
structure XcF (K : PySem.W.Frag) (C : Str) : Prop where
  c : XcC K (He.ga K C)
  kp : PySem.W.keepIn K (.ref (He.ga K C)) = true
  ty : PySem.W.typeIn K (.ref (He.ga K C)) = some (.type "type")
theorem XcF.of {K : PySem.W.Frag} {C : Str} (h : xcOne K C = true) : XcF K C := by
  unfold xcOne at h
  obtain ⟨h1, h⟩ := Bool.and_eq_true_iff.mp h
  obtain ⟨h2, h⟩ := Bool.and_eq_true_iff.mp h
  obtain ⟨h3, h⟩ := Bool.and_eq_true_iff.mp h
  obtain ⟨h4, h⟩ := Bool.and_eq_true_iff.mp h
  obtain ⟨h5, h⟩ := Bool.and_eq_true_iff.mp h
  obtain ⟨h6, h⟩ := Bool.and_eq_true_iff.mp h
  obtain ⟨h7, h⟩ := Bool.and_eq_true_iff.mp h
  obtain ⟨h8, h⟩ := Bool.and_eq_true_iff.mp h
  obtain ⟨h9, h10⟩ := Bool.and_eq_true_iff.mp h
  refine ⟨⟨⟨He.eqO_ok h1, He.eqO_ok h2, of_decide_eq_true h3, h4, He.eqO_ok h5, He.eqO_ok h6, of_decide_eq_true h7, of_decide_eq_true h8⟩, ?_⟩, h9, of_decide_eq_true h10⟩
  unfold PySem.W.hasDictIn at h4
  cases q : PySem.W.clsIn K (He.ga K C) with
  | none => rw [q] at h4; cases h4
  | some _ => rfl
theorem XcF.raises {X : Cx} {C : Str} (h : XcF X.K C) : Raises X (.ref (He.ga X.K C)) := raises_own h.c.e.hs h.ty
structure XkK (K : PySem.W.Frag) (xt : List (Str × List XN)) (xa xm : List XN) : Prop where
  c : ∀ w ∈ xt, XcF K w.1
  kit : ∀ w ∈ xt, ∀ q ∈ xa, PySem.W.kitOne K (.ref (He.ga K w.1)) (xv K q) = some (decide (q ∈ w.2))
  exm : ∀ w ∈ xt, ∀ q ∈ xm, PySem.W.exmOne K (.ref (He.ga K w.1)) (xv K q) = some (decide (q ∈ w.2))
  non : ∀ q ∈ xa, PySem.W.kitOne K (.type "NoneType") (xv K q) = some false
theorem XkK.of {K : PySem.W.Frag} {xt : List (Str × List XN)} {xa xm : List XN} (h : xkAll K xt xa xm = true) : XkK K xt xa xm := by
  unfold xkAll at h
  obtain ⟨h1, h2⟩ := Bool.and_eq_true_iff.mp h
  have one : ∀ w ∈ xt, xkOne K xa xm w = true := fun w hw => List.all_eq_true.mp h1 w hw
  refine ⟨fun w hw => ?_, fun w hw q hq => ?_, fun w hw q hq => ?_, fun q hq => of_decide_eq_true (List.all_eq_true.mp h2 q hq)⟩
  · have o := one w hw
    unfold xkOne at o
    exact XcF.of (Bool.and_eq_true_iff.mp o).1
  · have o := one w hw
    unfold xkOne at o
    exact of_decide_eq_true (List.all_eq_true.mp (Bool.and_eq_true_iff.mp (Bool.and_eq_true_iff.mp o).2).1 q hq)
  · have o := one w hw
    unfold xkOne at o
    exact of_decide_eq_true (List.all_eq_true.mp (Bool.and_eq_true_iff.mp (Bool.and_eq_true_iff.mp o).2).2 q hq)
def cmX (xt : List (Str × List XN)) (q : XN) (C : Str) : Option Bool := (xt.lookup C).map fun l => decide (q ∈ l)
theorem lookup_mem {α : Type} {C : Str} {l : α} : ∀ {xt : List (Str × α)}, xt.lookup C = some l → (C, l) ∈ xt
  | [], h => by cases h
  | (D, m) :: xt, h => by
    rw [List.lookup_cons] at h
    by_cases c : C = D
    · subst c
      simp only [beq_self_eq_true] at h
      cases h
      exact List.mem_cons_self
    · have q : (C == D) = false := by simpa using c
      simp only [q] at h
      exact List.mem_cons_of_mem _ (lookup_mem h)
theorem XkK.cm {K : PySem.W.Frag} {xt : List (Str × List XN)} {xa xm : List XN} {q : XN} (k : XkK K xt xa xm) (hq : q ∈ xm) : ∀ C b, cmX xt q C = some b → PySem.W.exmOne K (.ref (He.ga K C)) (xv K q) = some b := fun C b h => by
  unfold cmX at h
  obtain ⟨l, h1, h2⟩ := Option.map_eq_some_iff.mp h
  rw [← h2]
  exact k.exm _ (lookup_mem h1) q hq
/-! isinstance -/
def rIsA (K : PySem.W.Frag) (xs : List V) (H : Hp) (Q : VK) : Prop := rIsi K xs H Q ∨ rIsX K xs H Q
theorem x_isa {X : Cx} {K : PySem.W.Frag} (hk : X.K = K) : CallR X (.builtin "isinstance") (rIsA K) := by
  subst hk
  intro pins s σ H xs us Q I r h
  rcases h with h | h
  · exact call_isi pins s σ H xs us Q I r h
  · exact call_isX pins s σ H xs us Q I r h
theorem xc_read {K : PySem.W.Frag} {R : List (Addr × HO)} {ι : List Addr} {O : Sto} {H : Hp} {C : Str} {ns : List Str} {ps : List PV} {x : V} (S : Sim K R ι O H) (r : Rep K ι (fz R ι O H) (.xc C ns ps) x) : ∃ a oe, x = .ref a ∧ H a = some (XO a oe) ∧ oe.cls = .ref (He.ga K C) ∧ (∃ w, oe.data = .fields w) ∧ XDct H oe := by
  obtain ⟨a, oe, xs, h1, h2, h3, h4, h5, _⟩ := r
  refine ⟨a, oe, h1, S.frozen _ _ h2, h3, h4, ?_⟩
  rcases h5 with ⟨h5, _⟩ | ⟨dd, h5, h6⟩
  · exact .inl h5
  · exact .inr ⟨dd, _, h5, S.frozen _ _ h6⟩
def isxP (xt : List (Str × List XN)) (xa : List XN) : List PV → Sto → PR PV := b2 fun p c O => match xnOf c with
  | some q => if xa.contains q = true then match p with
    | .xc C _ _ => match xt.lookup C with
      | some l => .ok (.bl (decide (q ∈ l))) O
      | none => .bad
    | .non => .ok (.bl false) O
    | _ => .bad else .bad
  | none => .bad
theorem cb_isx {K : PySem.W.Frag} {xt : List (Str × List XN)} {xa xm : List XN} (k : XkK K xt xa xm) : CbS K (rIsA K) (isxP xt xa) := cb_2 fun R ι O H p q x y E Q S r1 r2 h => by
  cases e : xnOf q with
  | none => simp [e] at h; exact h.elim
  | some n =>
    simp only [e] at h
    split at h
    · rename_i hc
      have hq := List.contains_iff_mem.mp hc
      have cl : ClsV y (xv K n) := by
        cases q <;> first | cases e | skip
        · rw [show y = .ty _ from r2]; exact .ty _
        · rw [show y = .ref _ from r2]; exact .own _
      cases p with
      | xc C ns ps =>
        simp only at h
        cases e2 : xt.lookup C with
        | none => simp [e2] at h; exact h.elim
        | some l =>
          simp only [e2] at h
          obtain ⟨a, oe, h1, h2, h3, h4, h5⟩ := xc_read S r1
          have m := lookup_mem e2
          exact .inr ⟨a, He.ga K C, oe, y, _, _, by rw [h1], cl, h2, h3, h4, h5, (k.c _ m).c, k.kit _ m n hq, h.here S rfl⟩
      | non =>
        have e3 : x = .non := r1
        exact .inl ⟨x, y, .type "NoneType", _, false, rfl, cl, by rw [e3]; exact .base .non, k.non n hq, h.here S rfl⟩
      | _ => exact h.elim
    · exact h.elim
/-! isinstance(x, (A, B, ..)) -/
theorem kitAny_cons {K : PySem.W.Frag} {t c : Value} {cs : List Value} : PySem.W.kitAny K t (c :: cs) = (match PySem.W.kitOne K t c with
  | some true => some true
  | some false => PySem.W.kitAny K t cs
  | none => none) := by
  rfl
end Qx

/-! Own layer Xh: isinstance with a tuple of classes; fields of exceptions; count, index; {}. -/
namespace Qx
open PySem PySem.Spec PyProof.Rows L2 Gx
def rIsAT (K : PySem.W.Frag) (xs : List V) (H : Hp) (Q : VK) : Prop := rIsiT K xs H Q ∨ rIsXT K xs H Q
theorem x_isaT {X : Cx} {K : PySem.W.Frag} (hk : X.K = K) : CallR X (.builtin "isinstance") (rIsAT K) := by
  subst hk
  intro pins s σ H xs us Q I r h
  rcases h with h | h
  · exact call_isiT pins s σ H xs us Q I r h
  · exact call_isXT pins s σ H xs us Q I r h
def eIsT (f : PV → List PV → Sto → PR PV) (fe : EF) (fA : AF) : EF := fun s O => (fe s O).bind fun p O1 => (fA s O1).bind fun ps O2 => if szOk ps.length = true then f p ps O2 else .bad
def IsTS (K : PySem.W.Frag) (f : PV → List PV → Sto → PR PV) : Prop := ∀ R ι O H p x ps us tp E Q, Sim K R ι O H → Rep K ι (fz R ι O H) p x → RepL K ι (fz R ι O H) ps us → H tp = some (.tup us) → Post K R E (Rep K) ι O H Q (f p ps O) → rIsAT K [x, .ref tp] H Q
theorem sim_isT {K : PySem.W.Frag} {E : XM} {f : PV → List PV → Sto → PR PV} {te : TE} {fe : EF} {tA : TA} {fA : AF} (hf : IsTS K f) (he : SimE K E te fe) (hA : SimA K E tA fA) : SimE K E (tCB (rIsAT K) (tCons te (tCons (tTup tA) tNil))) (eIsT f fe fA) := fun R ι O H σ s Q S L h =>
  he R ι O H σ s _ S L (h.bind fun p O1 x ι1 H1 S1 X1 r1 h1 => hA R ι1 O1 H1 σ s _ S1 (L.ext X1) (h1.bind fun ps O2 us ι2 H2 S2 X2 r2 h2 => by
    split at h2
    · rename_i c
      refine ⟨by rw [r2.len]; exact szOk_le c, fun tp hp => ?_⟩
      obtain ⟨S3, X3, e3⟩ := S2.newF hp (.tup us)
      exact hf R ι2 O2 _ p x ps us tp _ Q S3 (X3.rep (X2.rep r1)) (X3.repL r2) upd_same (Post.of X3 h2)
    · exact h2.elim))
def xnsOf : List PV → Option (List XN)
  | [] => some []
  | p :: ps => match xnOf p, xnsOf ps with
    | some q, some qs => some (q :: qs)
    | _, _ => none
theorem xn_cls {K : PySem.W.Frag} {ι : List Addr} {G : Hp} {p : PV} {v : V} {q : XN} (e : xnOf p = some q) (r : Rep K ι G p v) : ClsV v (xv K q) := by
  cases p <;> first | cases e | skip
  · rw [show v = .ty _ from r]; exact .ty _
  · rw [show v = .ref _ from r]; exact .own _
theorem xns_cls {K : PySem.W.Frag} {ι : List Addr} {G : Hp} : ∀ {ps : List PV} {vs : List V} {qs : List XN}, xnsOf ps = some qs → RepL K ι G ps vs → Paired ClsV vs (qs.map (xv K))
  | [], vs, qs, e, r => by cases e; rw [show vs = [] from r]; exact .nil
  | p :: ps, vs, qs, e, r => by
    obtain ⟨v, t, e1, r1, r2⟩ := r
    unfold xnsOf at e
    cases e2 : xnOf p with
    | none => simp [e2] at e
    | some q =>
      cases e3 : xnsOf ps with
      | none => simp [e2, e3] at e
      | some qs' =>
        simp only [e2, e3, Option.some.injEq] at e
        subst e
        subst e1
        exact .cons (xn_cls e2 r1) (xns_cls e3 r2)
theorem kitAny_of {K : PySem.W.Frag} {t : Value} {f : XN → Bool} : ∀ {qs : List XN}, (∀ q ∈ qs, PySem.W.kitOne K t (xv K q) = some (f q)) → PySem.W.kitAny K t (qs.map (xv K)) = some (qs.any f)
  | [], _ => rfl
  | q :: qs, h => by
    rw [List.map_cons, kitAny_cons, h q List.mem_cons_self, List.any_cons]
    cases f q with
    | true => rfl
    | false => exact kitAny_of fun q' hq => h q' (List.mem_cons_of_mem _ hq)
def isxTP (xt : List (Str × List XN)) (xa : List XN) (p : PV) (ps : List PV) (O : Sto) : PR PV := match xnsOf ps with
  | some qs => if (qs.all fun q => xa.contains q) = true then match p with
    | .xc C _ _ => match xt.lookup C with
      | some l => .ok (.bl (qs.any fun q => decide (q ∈ l))) O
      | none => .bad
    | .non => .ok (.bl false) O
    | _ => .bad else .bad
  | none => .bad
theorem it_isx {K : PySem.W.Frag} {xt : List (Str × List XN)} {xa xm : List XN} (k : XkK K xt xa xm) : IsTS K (isxTP xt xa) := by
  intro R ι O H p x ps us tp E Q S r1 r2 ht h
  unfold isxTP at h
  cases e : xnsOf ps with
  | none => simp [e] at h; exact h.elim
  | some qs =>
    simp only [e] at h
    split at h
    · rename_i hc
      have hq : ∀ q ∈ qs, q ∈ xa := fun q hq => List.contains_iff_mem.mp (List.all_eq_true.mp hc q hq)
      cases p with
      | xc C ns ps' =>
        simp only at h
        cases e2 : xt.lookup C with
        | none => simp [e2] at h; exact h.elim
        | some l =>
          simp only [e2] at h
          obtain ⟨a, oe, h1, h2, h3, h4, h5⟩ := xc_read S r1
          have m := lookup_mem e2
          exact .inr ⟨a, He.ga K C, tp, oe, us, _, _, by rw [h1], ht, xns_cls e r2, h2, h3, h4, h5, (k.c _ m).c, kitAny_of fun q hh => k.kit _ m q (hq q hh), h.here S rfl⟩
      | non =>
        have e3 : x = .non := r1
        refine .inl ⟨x, tp, us, .type "NoneType", _, false, rfl, ht, xns_cls e r2, by rw [e3]; exact .base .non, ?_, h.here S rfl⟩
        rw [kitAny_of (f := fun _ => false) fun q hh => k.non q (hq q hh)]
        congr 1
        simp
      | _ => exact h.elim
    · exact h.elim
def kitPs (cs : List Str) (t : Sum String Str) : List PV → Option Bool
  | [] => some false
  | c :: r => match kitP cs t c with
    | some true => some true
    | some false => kitPs cs t r
    | none => none
def isiTP (cs : List Str) (p : PV) (ps : List PV) (O : Sto) : PR PV := match tyOf O p with
  | some t => if ps.length ≠ 0 ∧ (ps.all fun c => (kitP cs t c).isSome) = true then match kitPs cs t ps with
    | some b => .ok (.bl b) O
    | none => .bad else .bad
  | none => .bad
theorem kits_read {K : PySem.W.Frag} {cs : List Str} (ck : ClsK K cs) {ι : List Addr} {G : Hp} {t : Sum String Str} : ∀ {ps : List PV} {vs : List V} {b : Bool}, (ps.all fun c => (kitP cs t c).isSome) = true → kitPs cs t ps = some b → RepL K ι G ps vs → ∃ us, Paired ClsV vs us ∧ PySem.W.kitAny K (tyV' K t) us = some b
  | [], vs, b, _, e, r => by cases e; rw [show vs = [] from r]; exact ⟨[], .nil, rfl⟩
  | c :: ps, vs, b, ha, e, r => by
    obtain ⟨v, w, e1, r1, r2⟩ := r
    subst e1
    obtain ⟨ha1, ha2⟩ := Bool.and_eq_true_iff.mp (show ((kitP cs t c).isSome && ps.all fun c => (kitP cs t c).isSome) = true from ha)
    unfold kitPs at e
    obtain ⟨k, e2⟩ := Option.isSome_iff_exists.mp ha1
    obtain ⟨_, u, h1, h2⟩ := kit_read ck e2 r1
    have rest : ∃ b' us, Paired ClsV w us ∧ kitPs cs t ps = some b' ∧ PySem.W.kitAny K (tyV' K t) us = some b' := by
      have : ∃ b', kitPs cs t ps = some b' := by
        clear e r2
        induction ps with
        | nil => exact ⟨false, rfl⟩
        | cons c' ps ih =>
          obtain ⟨g1, g2⟩ := Bool.and_eq_true_iff.mp (show ((kitP cs t c').isSome && ps.all fun c => (kitP cs t c).isSome) = true from ha2)
          obtain ⟨k', e3⟩ := Option.isSome_iff_exists.mp g1
          unfold kitPs
          rw [e3]
          cases k' with
          | true => exact ⟨true, rfl⟩
          | false => exact ih (by rw [List.all_cons, ha1, Bool.true_and]; exact g2) g2
      obtain ⟨b', e4⟩ := this
      obtain ⟨us, h3, h4⟩ := kits_read ck ha2 e4 r2
      exact ⟨b', us, h3, e4, h4⟩
    obtain ⟨b', us, h3, h4, h5⟩ := rest
    refine ⟨u :: us, .cons h1 h3, ?_⟩
    rw [kitAny_cons, h2]
    rw [e2] at e
    cases k with
    | true => exact e
    | false => simp only at e ⊢; rw [h5, ← h4]; exact e
theorem it_isi {K : PySem.W.Frag} {cs : List Str} (ck : ClsK K cs) : IsTS K (isiTP cs) := by
  intro R ι O H p x ps us tp E Q S r1 r2 ht h
  unfold isiTP at h
  cases e : tyOf O p with
  | none => simp [e] at h; exact h.elim
  | some t =>
    simp only [e] at h
    split at h
    · rename_i hc
      cases e2 : kitPs cs t ps with
      | none => simp [e2] at h; exact h.elim
      | some b =>
        simp only [e2] at h
        obtain ⟨vs, h1, h2⟩ := kits_read ck hc.2 e2 r2
        have tc : ∀ C, t = .inr C → C ∈ cs := fun C ec => by
          match ps, hc with
          | c :: r, hc =>
            obtain ⟨k, e3⟩ := Option.isSome_iff_exists.mp (Bool.and_eq_true_iff.mp (show ((kitP cs t c).isSome && r.all fun c => (kitP cs t c).isSome) = true from hc.2)).1
            obtain ⟨v, w, _, r3, _⟩ := r2
            exact (kit_read ck e3 r3).1 C ec
        exact .inl ⟨x, tp, us, _, _, b, rfl, ht, h1, ty_read ck S r1 e tc, h2, h.here S rfl⟩
    · exact h.elim
/-! ### list.count, list.index -/
theorem scV_flat {p : PV} {v : V} (e : scV p = some v) : flatV v = true := by
  cases p <;> first | (cases e; rfl) | cases e
theorem scVs_flat : ∀ {ps : List PV} {vs : List V}, scVs ps = some vs → vs.all flatV = true
  | [], vs, e => by cases e; rfl
  | p :: ps, vs, e => by
    unfold scVs at e
    cases e1 : scV p with
    | none => simp [e1] at e
    | some v =>
      cases e2 : scVs ps with
      | none => simp [e1, e2] at e
      | some ws =>
        simp only [e1, e2, Option.some.injEq] at e
        subst e
        rw [List.all_cons, scV_flat e1, scVs_flat e2]; rfl
def countP (p : PV) (qs : List PV) (O : Sto) : PR PV := match (lstOf O p).bind scVs, qs with
  | some vs, [q] => match scV q with
    | some v => .ok (.int ((vs.countP fun z => eqV z v : Nat) : Int)) O
    | none => .bad
  | _, _ => .bad
def indexP (p : PV) (qs : List PV) (O : Sto) : PR PV := match (lstOf O p).bind scVs, qs with
  | some vs, [q] => match scV q with
    | some v => match vs.findIdx? fun z => eqV z v with
      | some j => .ok (.int (j : Nat)) O
      | none => .bad
    | none => .bad
  | _, _ => .bad
theorem ml_count {K : PySem.W.Frag} : MtP K (rCntV K) countP := by
  intro R ι O H p qs x ys E Q S r1 r2 h
  unfold countP at h
  cases e : (lstOf O p).bind scVs with
  | none => simp [e] at h; exact h.elim
  | some vs =>
    match qs, h, r2 with
    | [q], h, ⟨y, t, e2, r3, e3⟩ =>
      cases e3
      subst e2
      simp only [e] at h
      cases e4 : scV q with
      | none => simp [e4] at h; exact h.elim
      | some v =>
        simp only [e4] at h
        obtain ⟨ps, e5, e6⟩ := Option.bind_eq_some_iff.mp e
        obtain ⟨a, xs, h1, h2, h3⟩ := lst_read S r1 e5
        have ex := scVs_rep e6 h3
        subst ex
        have ev := scV_rep e4 r3
        subst ev
        exact ⟨a, _, _, h1, rfl, h2, scV_flat e4, scVs_flat e6, h.here S rfl⟩
    | [], h, _ => simp [e] at h; exact h.elim
    | _ :: _ :: _, h, _ => simp [e] at h; exact h.elim
theorem ml_index {K : PySem.W.Frag} : MtP K (rIndex K) indexP := by
  intro R ι O H p qs x ys E Q S r1 r2 h
  unfold indexP at h
  cases e : (lstOf O p).bind scVs with
  | none => simp [e] at h; exact h.elim
  | some vs =>
    match qs, h, r2 with
    | [q], h, ⟨y, t, e2, r3, e3⟩ =>
      cases e3
      subst e2
      simp only [e] at h
      cases e4 : scV q with
      | none => simp [e4] at h; exact h.elim
      | some v =>
        simp only [e4] at h
        cases e7 : vs.findIdx? fun z => eqV z v with
        | none => simp [e7] at h; exact h.elim
        | some j =>
          simp only [e7] at h
          obtain ⟨ps, e5, e6⟩ := Option.bind_eq_some_iff.mp e
          obtain ⟨a, xs, h1, h2, h3⟩ := lst_read S r1 e5
          have ex := scVs_rep e6 h3
          subst ex
          have ev := scV_rep e4 r3
          subst ev
          obtain ⟨hl, hj, hm⟩ := List.findIdx?_eq_some_iff_getElem.mp e7
          refine ⟨a, _, _, j, _, h1, rfl, h2, scV_flat e4, scVs_flat e6, List.getElem?_eq_getElem hl, hj, fun m z' hmj hz => ?_, h.here S rfl⟩
          obtain ⟨hl', ez⟩ := List.getElem?_eq_some_iff.mp hz
          have q := hm m hmj
          rw [ez] at q
          simpa using q
    | [], h, _ => simp [e] at h; exact h.elim
    | _ :: _ :: _, h, _ => simp [e] at h; exact h.elim
/-! ### {} -/
def eDic0 : EF := fun _ O => .ok (.dic [] []) O
theorem sim_dic0 {K : PySem.W.Frag} {E : XM} : SimE K E tDNewK eDic0 := fun R ι O H σ s Q S L h p hp => by
  obtain ⟨S2, X2, e2⟩ := S.newF hp (.dK [])
  exact h.at S2 X2 ⟨p, [], rfl, e2, rfl, rfl⟩
/-! ### xs[i] of a list or a tuple -/
/-! ### xs * k -/
def repL (p q : PV) (O : Sto) : PR PV := match lstT O p, q with
  | some ps, .int k => if (decide (-(2 ^ 63) ≤ k ∧ k < 2 ^ 63) && szOk (ps.length * k.toNat)) = true then .ok (.lst (List.replicate k.toNat ps).flatten) O else .bad
  | _, _ => .bad
theorem RepL.rep {K : PySem.W.Frag} {ι : List Addr} {G : Hp} {ps : List PV} {xs : List V} (h : RepL K ι G ps xs) : ∀ k : Nat, RepL K ι G (List.replicate k ps).flatten (List.replicate k xs).flatten
  | 0 => rfl
  | k + 1 => by
    rw [List.replicate_succ, List.replicate_succ, List.flatten_cons, List.flatten_cons]
    exact h.app (RepL.rep h k)
theorem os_rep {K : PySem.W.Frag} : OpS K rRep repL := by
  intro R ι O H p q x y E Q S r1 r2 h
  unfold repL at h
  cases e : lstT O p with
  | none => simp [e] at h; exact h.elim
  | some ps =>
    cases q with
    | int k =>
      simp only [e] at h
      split at h
      · rename_i c
        obtain ⟨c1, c2⟩ := Bool.and_eq_true_iff.mp c
        have c1 := of_decide_eq_true c1
        obtain ⟨a, xs, h1, h2, h3⟩ := lstT_read S r1 e
        refine ⟨a, k, xs, h1, r2, h2, c1.1, c1.2, by rw [h3.len]; exact szOk_le c2, fun l hl => ?_⟩
        obtain ⟨S2, X2, e2⟩ := S.newF hl (.lst (List.replicate k.toNat xs).flatten)
        exact h.at S2 X2 ⟨l, _, rfl, e2, X2.repL (h3.rep _)⟩
      · exact h.elim
    | _ => simp [e] at h; exact h.elim
/-! ### e.f of an exception -/
structure XfK (K : PySem.W.Frag) (xf : List (Str × Str)) : Prop where
  c : ∀ w ∈ xf, XcF K w.1
  no : ∀ w ∈ xf, PySem.W.findIn K (.ref (He.ga K w.1)) w.2 = some none
end Qx

/-! Own: t[::-1] of a tuple; t[i:j] that is all of t. -/
namespace Zy
open PySem PySem.Spec PyProof.Rows L2 HT
section
variable {prog : Program} {w : World} {A : Around} {E : Value → Shared → Prop} {s : Shared}
end
end Zy

/-! Own layer Xi: exceptions whose own __init__ calls the one of an own class over ValueError and keeps one field. -/
namespace Qx
open PySem PySem.Spec PyProof.Rows L2 Gx
section
variable {X : Cx} {e : Expr} {es : List Expr} {ta : TA} {x : Str} {p1 p2 pos : Pos} {B : Addr}
end
/-! what the head tells of them -/
structure ClI (K : PySem.W.Frag) (B : Addr) : Prop where
  rd : PySem.W.readsIn K B (.type "type") = true
  ga : PySem.W.specialIn K (.ref B) "__getattribute__" = some (some (.builtin "type.__getattribute__"))
  vV : PySem.W.findCls K (.ref B) (.type "type") "__init__" = some (.val (.builtin "ValueError.__init__"))
structure XiC (K : PySem.W.Frag) (C B : Str) (f : Str) : Prop where
  o : OexC K (He.ga K C)
  no : PySem.W.findIn K (.ref (He.ga K C)) f = some none
  b : ClI K (He.ga K B)
/-! ### raise C(e) -/
/-! ### t[::-1] -/
/-! ### t + u, t[a:b], empty ones too -/
def catA (p q : PV) (O : Sto) : PR PV := match p, q with
  | .tup ps, .tup qs => if szOk (ps.length + qs.length) = true then .ok (.tup (ps ++ qs)) O else .bad
  | _, _ => .bad
theorem os_catA {K : PySem.W.Frag} : OpS K (rCatA K) catA := by
  intro R ι O H p q x y E Q S r1 r2 h
  cases p with
  | tup ps =>
    cases q with
    | tup qs =>
      have h : Post K R E (Rep K) ι O H Q (if szOk (ps.length + qs.length) = true then .ok (.tup (ps ++ qs)) O else .bad) := h
      by_cases c : szOk (ps.length + qs.length) = true
      · rw [if_pos c] at h
        obtain ⟨a, xs, h1, h2, h3⟩ := r1
        obtain ⟨b, ys, h4, h5, h6⟩ := r2
        refine ⟨a, b, xs, ys, h1, h4, sqt_same S.frozen h2, sqt_same S.frozen h5, by rw [h3.len, h6.len]; exact szOk_le c, fun e => ?_, fun _ e => ?_, fun _ _ o ho => ?_⟩
        · subst e
          exact h.here S ⟨b, ys, rfl, h5, by rw [show ps = [] from List.length_eq_zero_iff.mp h3.len.symm]; exact h6⟩
        · subst e
          exact h.here S ⟨a, xs, rfl, h2, by rw [show qs = [] from List.length_eq_zero_iff.mp h6.len.symm, List.append_nil]; exact h3⟩
        · obtain ⟨S2, X2, e2⟩ := S.newF ho (.tup (xs ++ ys))
          exact h.at S2 X2 ⟨o, _, rfl, SqT.of e2, X2.repL (h3.app h6)⟩
      · rw [if_neg c] at h
        exact h.elim
    | _ => exact h.elim
  | _ => exact h.elim
/-! ### the Hook that tells of the interpreter's own statics too -/
end Qx

/-! Own layer Xj: str, repr and f-strings of own instances. -/
namespace Gx
open PySem PySem.Spec PyProof.Rows L2
section
variable {X : Cx} {k j : Nat} {ps : List Str} {sp : Sp} {d : He.DefD} {C : Addr}
end
end Gx
namespace Qx
open PySem PySem.Spec PyProof.Rows L2 Gx
section
variable {K : PySem.W.Frag} {C : Str} {mf : MF} {E : XM} {te : TE} {fa : EF}
def otxtP (C : Str) (m : MF) (ps : List PV) (O : Sto) : PR PV := match ps with
  | [p] => if insIs O C p = true then (noX (m [p] O)).bind fun r O1 => match r with
    | .str z => .ok (.str z) O1
    | _ => .bad else .bad
  | _ => .bad
def eFmtO (C : Str) (m : MF) (fa : EF) : EF := fun s O => (fa s O).bind fun p O1 => otxtP C m [p] O1
def eFmt (fa : EF) : EF := fun s O => (fa s O).bind fun p O1 => match p with
  | .str z => if z.length ≤ sizeLine then .ok (.str z) O1 else .bad
  | .int i => if i.natAbs.log2 < 1920 then .ok (.str (toString i)) O1 else .bad
  | _ => .bad
theorem sim_fmt (ha : SimE K E te fa) : SimE K E (tFmt te) (eFmt fa) := fun R ι O H σ s Q S L h =>
  ha R ι O H σ s _ S L (h.bind fun p O1 x ι1 H1 S1 X1 r1 h1 => by
    cases p with
    | str z =>
      simp only at h1
      split at h1
      · rename_i c
        exact .inl ⟨z, r1, c, h1.here S1 rfl⟩
      · exact h1.elim
    | int i =>
      simp only at h1
      split at h1
      · rename_i c
        exact .inr ⟨i, r1, c, h1.here S1 rfl⟩
      · exact h1.elim
    | _ => exact h1.elim)
noncomputable def jsP : List EF → Str → Slots → Sto → PR Str
  | [], acc, _, O => .ok acc O
  | f :: fs, acc, s, O => (f s O).bind fun p O1 => match p with
    | .str y => if (acc ++ y).length ≤ sizeLine then jsP fs (acc ++ y) s O1 else .bad
    | _ => .bad
noncomputable def eJs (fs : List EF) : EF := fun s O => (jsP fs Str.empty s O).bind fun z O1 => .ok (.str z) O1
inductive SimJs (K : PySem.W.Frag) (E : XM) : List TE → List EF → Prop
  | nil : SimJs K E [] []
  | cons {t : TE} {f : EF} {ts : List TE} {fs : List EF} (h : SimE K E t f) (r : SimJs K E ts fs) : SimJs K E (t :: ts) (f :: fs)
theorem js_run {ts : List TE} {fs : List EF} (h : SimJs K E ts fs) : ∀ (acc : Str) R ι O H σ s (Q : Str → Hp → Prop), Sim K R ι O H → SlR K ι (fz R ι O H) σ s → Post K R (xat E σ) (fun _ _ (a b : Str) => a = b) ι O H Q (jsP fs acc s O) → tJs ts acc σ H Q := by
  induction h with
  | nil => exact fun acc R ι O H σ s Q S L h => h acc ι H S .refl rfl
  | @cons t f ts fs ht _ ih =>
    intro acc R ι O H σ s Q S L h
    unfold jsP at h
    refine ht R ι O H σ s _ S L (h.bind fun p O1 x ι1 H1 S1 X1 r1 h1 => ?_)
    cases p with
    | str y =>
      simp only at h1
      split at h1
      · rename_i c
        exact ⟨y, r1, c, ih (acc ++ y) R ι1 O1 H1 σ s Q S1 (L.ext X1) h1⟩
      · exact h1.elim
    | _ => exact h1.elim
theorem sim_js {ts : List TE} {fs : List EF} (hj : SimJs K E ts fs) : SimE K E (fun σ H Q => tJs ts Str.empty σ H fun out H1 => Q (.str out) H1) (eJs fs) := fun R ι O H σ s Q S L h =>
  js_run hj Str.empty R ι O H σ s _ S L (h.bind fun z O1 z' ι1 H1 S1 X1 e h1 => by
    subst e
    exact h1.here S1 rfl)
end
end Qx

/-! Own layer Xk: bool of an own instance with a __len__; {x!r} of an own instance. -/
namespace PySem.W
open PySem PySem.Spec PySem.Calls PyProof.Rows
section
variable {prog : Program} {w : World} {A : Around} {E : Value → Shared → Prop} {s : Shared} {K : Frag} {x C f : Addr} {ox : Obj} {od : Option Obj}
end
end PySem.W
namespace Gx
open PySem PySem.Spec PyProof.Rows L2
section
variable {X : Cx} {k j : Nat} {ps : List Str} {sp : Sp} {d : He.DefD} {C : Addr}
end
end Gx
namespace Qx
open PySem PySem.Spec PyProof.Rows L2 Gx
section
variable {K : PySem.W.Frag} {C : Str} {mf : MF} {E : XM} {te : TE} {fa : EF}
def oboolP (C : Str) (m : MF) (ps : List PV) (O : Sto) : PR PV := match ps with
  | [p] => if insIs O C p = true then (noX (m [p] O)).bind fun r O1 => match r with
    | .int n => if (decide (0 ≤ n) && decide (n < 2 ^ 63)) = true then .ok (.bl (n != 0)) O1 else .bad
    | _ => .bad else .bad
  | _ => .bad
end
end Qx

/-! Own layer Xl: == of an own instance and any thing. -/
namespace Gx
open PySem PySem.Spec PyProof.Rows L2
section
variable {X : Cx} {k j : Nat} {ps : List Str} {sp : Sp} {d : He.DefD} {C : Addr}
end
end Gx
namespace Qx
open PySem PySem.Spec PyProof.Rows L2 Gx
section
variable {K : PySem.W.Frag} {cs : List Str} {C : Str} {mf : MF}
structure NfK (K : PySem.W.Frag) (cs : List Str) : Prop where
  t : ∀ C ∈ cs, ∀ T ∈ KT, PySem.W.notFirst K (He.ga K C) (.type T) = true
  c : ∀ C ∈ cs, ∀ D ∈ cs, PySem.W.notFirst K (He.ga K C) (.ref (He.ga K D)) = true
theorem NfK.of (h : nfAll K cs = true) : NfK K cs := by
  have one := fun C (hC : C ∈ cs) => Bool.and_eq_true_iff.mp (List.all_eq_true.mp h C hC)
  exact ⟨fun C hC T hT => List.all_eq_true.mp (one C hC).1 T hT, fun C hC D hD => List.all_eq_true.mp (one C hC).2 D hD⟩
def tyIn (cs : List Str) : Sum String Str → Bool
  | .inl a => KT.contains a
  | .inr D => cs.contains D
def oeqA (cs : List Str) (C : Str) (m : MF) (p q : PV) (O : Sto) : PR PV := match tyOf O q with
  | some t => if (insIs O C p && (tyIn cs t && cs.contains C)) = true then boolR false (m [p, q] O) else .bad
  | none => .bad
def oneA (cs : List Str) (C : Str) (m : MF) (p q : PV) (O : Sto) : PR PV := match tyOf O q with
  | some t => if (insIs O C p && (tyIn cs t && cs.contains C)) = true then boolR true (m [p, q] O) else .bad
  | none => .bad
end
end Qx

/-! Own layer Xm: str of texts and numbers; facts of own classes that show themselves. -/
namespace Qx
open PySem PySem.Spec PyProof.Rows L2 Gx
section
variable {K : PySem.W.Frag}
def bStrS := b1 fun p O => match p with
  | .str z => .ok (.str z) O
  | _ => .bad
def bStrI := b1 fun p O => match p with
  | .int i => if i.natAbs.log2 < 1920 then .ok (.str (toString i)) O else .bad
  | _ => .bad
structure ShK (K : PySem.W.Frag) (cs : List Str) : Prop where
  nb : ∀ C ∈ cs, PySem.W.findIn K (.ref (He.ga K C)) "__bool__" = some none
  fm : ∀ C ∈ cs, PySem.W.findIn K (.ref (He.ga K C)) "__format__" = some (some (.builtin "object.__format__"))
theorem ShK.of {cs : List Str} (h : shB K cs = true) : ShK K cs := by
  have one := fun C (hC : C ∈ cs) => Bool.and_eq_true_iff.mp (List.all_eq_true.mp h C hC)
  exact ⟨fun C hC => He.eqO_ok (one C hC).1, fun C hC => He.eqO_ok (one C hC).2⟩
end
end Qx

/-! Own layer Xn: x in a list whose items are compared by an own ==. -/
namespace GQ
open PySem PySem.SeqAt
open AutoSeq1 (wpAny_loadPart')
open MeetsSeq MeetsSeq2 MeetsSeq3 SeqRoads2
section
variable {prog : Program} {w : World} {A : Around} {R : Result → Shared → Prop}
end
section
variable {prog : Program} {w : World} {A : Around} {E : Value → Shared → Prop} {s : Shared}
end
end GQ
namespace HN
open PySem PySem.Spec PyProof.Rows PySem.SeqAt
section
variable {M : Model} {prog : Program} {w : World} {A : Around} {E : Value → Shared → Prop} {s : Shared} {K : PySem.W.Frag} {x C f : Addr} {ox : Obj} {od : Option Obj}
end
end HN

/-! Own layer Xo: x in a list of None and own instances, x an own instance, by its own ==. -/
namespace GQ
open PySem PySem.SeqAt
open AutoSeq1 (wpAny_loadPart')
open MeetsSeq MeetsSeq2 MeetsSeq3 SeqRoads2
section
variable {prog : Program} {w : World} {A : Around} {E : Value → Shared → Prop} {s : Shared}
end
end GQ
namespace Gx
open PySem PySem.Spec PyProof.Rows L2
section
variable {X : Cx} {k j : Nat} {ps : List Str} {sp : Sp} {d : He.DefD} {C : Addr}
end
end Gx
namespace Qx
open PySem PySem.Spec PyProof.Rows L2 Gx
section
variable {K : PySem.W.Frag} {cs : List Str} {C : Str} {mf : MF}
def fldsD : List PV → List PV → Prop
  | p :: ps, q :: qs => (∃ v w, scV p = some v ∧ scV q = some w ∧ v ≠ w) ∨ fldsD ps qs
  | _, _ => False
def sureD (O : Sto) : PV → PV → Prop
  | .ins _ ns ps, .ins _ ns' ps' => ns = ns' ∧ fldsD ps ps'
  | .loc n, .loc m => n ≠ m ∧ (∃ p, O[n]? = some (some p)) ∧ ∃ p, O[m]? = some (some p)
  | _, _ => False
theorem ClsK.inj (ck : ClsK K cs) (C : Str) (hC : C ∈ cs) : ∀ D ∈ cs, He.ga K D = He.ga K C → D = C := fun D hD e => by
  apply Classical.byContradiction
  intro hne
  have h := ck.cc D hD C hC hne
  rw [e] at h
  unfold PySem.W.kitOne at h
  rw [if_pos (by simp)] at h
  cases h
def okT (cs : List Str) (C : Str) (O : Sto) (p : PV) : Bool := match tyOf O p with
  | some t => tyIn cs t && cs.contains C
  | none => false
def sureN (C : Str) (O : Sto) (q p : PV) : Prop := tyOf O p ≠ some (.inr C) ∨ sureD O q p
open Classical in
/-- x in a list of None and own things; only where == changes nothing -/
noncomputable def inOP (cs : List Str) (C : Str) (m : MF) (neg : Bool) (p : PV) : List PV → Sto → PR PV
  | [], O => .ok (.bl neg) O
  | q :: qs, O =>
    if q = .non then (if insIs O C p = true ∧ m [p, q] O = .ok (.bl false) O then inOP cs C m neg p qs O else .bad)
    else if (okT cs C O p = true ∧ insIs O C q = true) ∧ m [q, p] O = .ok (.bl true) O then .ok (.bl (!neg)) O
    else if (okT cs C O p = true ∧ insIs O C q = true) ∧ m [q, p] O = .ok (.bl false) O ∧ sureN C O q p then inOP cs C m neg p qs O
    else .bad
noncomputable def inOL (cs : List Str) (C : Str) (m : MF) (neg : Bool) (p l : PV) (O : Sto) : PR PV := match l with
  | .lst qs => inOP cs C m neg p qs O
  | .rol qs => inOP cs C m neg p qs O
  | _ => .bad
end
end Qx

/-! Own layer Xp: texts: +, *, <, in, items, slices, len, for, methods. -/
namespace Gx
open PySem PySem.Spec PyProof.Rows L2
section
variable {X : Cx}
def mulOkS (z : Str) (i : Int) : Bool := decide (-(2 ^ 40) < i ∧ i < 2 ^ 40 ∧ z.length * i.toNat ≤ 1000000)
end
end Gx
namespace Qx
open PySem PySem.Spec PyProof.Rows L2 Gx
section
variable {K : PySem.W.Frag} {E : XM} {te : TE} {fa : EF} {to : TE} {fo : EF} {tA : TA} {fA : AF} {r : V → List V → Hp → VK → Prop} {f : PV → List PV → Sto → PR PV}
def zOk (n : Nat) : Bool := decide (n ≤ sizeLine)
theorem zOk_le {n : Nat} (h : zOk n = true) : n ≤ sizeLine := of_decide_eq_true h
def s2 (c : Str → Str → Bool) (g : Str → Str → PV) (p q : PV) (O : Sto) : PR PV := match p, q with
  | .str i, .str j => if c i j = true then .ok (g i j) O else .bad
  | _, _ => .bad
theorem os_s2 {c : Str → Str → Bool} {C : Str → Str → Prop} {g : Str → Str → PV} {g' : Str → Str → V} (hc : ∀ i j, c i j = true → C i j) (h : ∀ i j ι G, Rep K ι G (g i j) (g' i j)) : OpS K (fun x y H Q => ∃ i j, x = .str i ∧ y = .str j ∧ C i j ∧ Q (g' i j) H) (s2 c g) := by
  intro R ι O H p q x y E Q S r1 r2 k
  unfold s2 at k
  split at k
  · split at k
    · rename_i i j c1
      exact ⟨i, j, r1, r2, hc _ _ c1, k.here S (h _ _ _ _)⟩
    · exact k.elim
  · exact k.elim
def addS := s2 (fun i j => zOk (i.length + j.length)) fun i j => .str (i ++ j)
theorem os_addS : OpS K (fun x y H Q => ∃ i j, x = .str i ∧ y = .str j ∧ i.length + j.length ≤ sizeLine ∧ Q (.str (i ++ j)) H) addS := os_s2 (fun _ _ h => zOk_le h) fun _ _ _ _ => rfl
def repS (p q : PV) (O : Sto) : PR PV := match p, q with
  | .str z, .int i => if mulOkS z i = true then .ok (.str (Txt.mul z i)) O else .bad
  | _, _ => .bad
/-! for over a text -/
/-! methods of texts -/
def isStr : PV → Bool
  | .str _ => true
  | _ => false
def eBms (f : PV → List PV → Sto → PR PV) (o : EF) (a : AF) : EF := fun s O => (o s O).bind fun p O1 => if isStr p = true then (a s O1).bind fun ps O2 => f p ps O2 else .bad
def eBms0 (f : PV → List PV → Sto → PR PV) (o : EF) : EF := fun s O => (o s O).bind fun p O1 => if isStr p = true then f p [] O1 else .bad
def joinP (p : PV) (qs : List PV) (O : Sto) : PR PV := match p, qs with
  | .str a, [l] => match (seqOf O l).bind strsOf with
    | some ys => if decide ((ys.map (·.length)).sum + ys.length * a.length ≤ 16777216) = true then .ok (.str (Txt.join a ys)) O else .bad
    | none => .bad
  | _, _ => .bad
end
end Qx

/-! Own layer Xq: constants of the module (tuples, dicts of defs), calls of a name that holds one of several defs, while. -/
namespace Qx
open PySem PySem.Spec PyProof.Rows L2 Gx
mutual
def KV.pv : KV → PV
  | .non => .non
  | .bl b => .bl b
  | .int i => .int i
  | .str z => .str z
  | .tup l => .tup (KV.pvs l)
  | .fn C => .cls C
def KV.pvs : List KV → List PV
  | [] => []
  | k :: ks => k.pv :: KV.pvs ks
end
section
variable {K : PySem.W.Frag}
mutual
theorem kRep_ok : ∀ (k : KV) (u : Value), kRep K k u = true → ∃ v, RelV v u ∧ ∀ ι G, Rep K ι G k.pv v
  | .non, u, h => by
    cases u <;> first | exact ⟨.non, rfl, fun _ _ => rfl⟩ | simp [kRep] at h
  | .bl b, u, h => by
    cases u <;> first | (simp only [kRep, beq_iff_eq] at h; subst h; exact ⟨.bl _, rfl, fun _ _ => rfl⟩) | simp [kRep] at h
  | .int i, u, h => by
    cases u <;> first | (simp only [kRep, decide_eq_true_eq] at h; subst h; exact ⟨.int _, ⟨_, rfl⟩, fun _ _ => rfl⟩) | simp [kRep] at h
  | .str z, u, h => by
    cases u <;> first | (simp only [kRep, decide_eq_true_eq] at h; subst h; exact ⟨.str _, ⟨_, rfl⟩, fun _ _ => rfl⟩) | simp [kRep] at h
  | .fn C, u, h => by
    cases u <;> first | (simp only [kRep, decide_eq_true_eq] at h; subst h; exact ⟨.ref _, rfl, fun _ _ => rfl⟩) | simp [kRep] at h
  | .tup l, u, h => by
    cases u with
    | ref a =>
      unfold kRep at h
      cases e : K.lookup a with
      | none => rw [e] at h; cases h
      | some o =>
        rw [e] at h
        obtain ⟨oc, od, dt, sl⟩ := o
        cases oc <;> try cases h
        cases dt <;> try cases h
        rename_i c its n
        simp only at h
        obtain ⟨h1, h2⟩ := Bool.and_eq_true_iff.mp h
        obtain ⟨h2, h3⟩ := Bool.and_eq_true_iff.mp h2
        have h1 := of_decide_eq_true h1
        subst h1
        obtain ⟨xs, r, hx⟩ := kRepL_ok l its.toList h3
        exact ⟨.ref a, rfl, fun ι G => ⟨a, xs, rfl, .inr ⟨_, its, n, e, rfl, rfl, of_decide_eq_true h2, r⟩, hx ι G⟩⟩
    | _ => simp [kRep] at h
theorem kRepL_ok : ∀ (l : List KV) (us : List Value), kRepL K l us = true → ∃ xs, Vals xs us ∧ ∀ ι G, RepL K ι G (KV.pvs l) xs
  | [], us, h => by
    cases us with
    | nil => exact ⟨[], .nil, fun _ _ => rfl⟩
    | cons u us => simp [kRepL] at h
  | k :: ks, us, h => by
    cases us with
    | nil => simp [kRepL] at h
    | cons u us =>
      unfold kRepL at h
      obtain ⟨h1, h2⟩ := Bool.and_eq_true_iff.mp h
      obtain ⟨v, r1, q1⟩ := kRep_ok k u h1
      obtain ⟨xs, r2, q2⟩ := kRepL_ok ks us h2
      exact ⟨v :: xs, .cons r1 r2, fun ι G => .consR (q1 ι G) (q2 ι G)⟩
end
/-! a dict of the module, with text keys -/
structure KdF (K : PySem.W.Frag) (w : World) (T : Str) (kvs : List (Str × PV)) : Prop where
  d : ∃ es n, KDict K w (He.ga K T) es n
  yes : ∀ k p, kvs.lookup k = some p → ∃ u v, PySem.W.nsIn K (He.ga K T) k = some (some u) ∧ RelV v u ∧ ∀ ι G, Rep K ι G p v
  no : ∀ z, kvs.lookup z = none → PySem.W.nsIn K (He.ga K T) z = some none
theorem nsIn_no {w : World} {a : Addr} {ks : List Str} {z : Str} (h : He.dicW K a = some (He.keysIn w.params ks)) (hz : z ∉ ks) : PySem.W.nsIn K a z = some none := by
  unfold He.dicW at h
  unfold PySem.W.nsIn
  cases e : K.lookup a with
  | none => rw [e] at h; cases h
  | some o =>
    rw [e] at h
    obtain ⟨oc, od, dt, sl⟩ := o
    cases oc <;> try cases h
    cases od <;> try cases h
    cases dt <;> try cases h
    rename_i c es n
    simp only at h ⊢
    split at h
    · have h := Option.some.inj h
      have key : ∀ x ∈ es.toList, ∃ k t, x.key = .str k t ∧ k ∈ ks := fun x hx => by
        have hm : He.keyOf x ∈ He.keysIn w.params ks := by rw [← h]; exact List.mem_map_of_mem hx
        obtain ⟨k, hk, ek⟩ := List.mem_map.mp hm
        unfold He.keyOf at ek
        split at ek
        · rename_i y t q
          have e2 := (Prod.mk.inj (Option.some.inj ek)).1
          exact ⟨y, t, q, by rw [← e2]; exact hk⟩
        · cases ek
      have e1 : es.toList.find? (fun x => x.key.isStr z) = none := by
        rw [List.find?_eq_none]
        intro x hx
        obtain ⟨k, t, q, hk⟩ := key x hx
        rw [q]
        intro hh
        have : k = z := by
          have := hh
          simp only [Value.isStr, beq_iff_eq] at this
          exact this
        exact hz (this ▸ hk)
      have e2 : es.toList.any (fun x => x.refKey) = false := by
        rw [List.any_eq_false]
        intro x hx
        obtain ⟨k, t, q, hk⟩ := key x hx
        unfold DictEntry.refKey
        rw [q]
        exact Bool.false_ne_true
      rw [e1, e2]
      rfl
    · cases h
theorem lookup_no {α : Type} {k : Str} : ∀ {l : List (Str × α)}, l.lookup k = none → k ∉ l.map (·.1)
  | [], _ => by simp
  | (c, q) :: l, h => by
    rw [List.lookup_cons] at h
    split at h
    · cases h
    · rename_i e
      intro hm
      rcases List.mem_cons.mp hm with rfl | hm
      · simp at e
      · exact lookup_no h hm
theorem lookup_map {α β : Type} {f : α → β} {k : Str} : ∀ {l : List (Str × α)}, (l.map fun q => (q.1, f q.2)).lookup k = (l.lookup k).map f
  | [] => rfl
  | (c, q) :: l => by
    simp only [List.map_cons, List.lookup_cons]
    cases k == c with
    | true => rfl
    | false => exact lookup_map
theorem KdF.of {w : World} {T : Str} {ks : List Str} {kvs : List (Str × KV)} {pvs : List (Str × PV)} (h : He.dicW K (He.ga K T) = some (He.keysIn w.params ks)) (b : kdB K T kvs = true) (e : kvs.map (·.1) = ks) (e2 : (kvs.map fun q => (q.1, q.2.pv)) = pvs) : KdF K w T pvs := by
  subst e
  subst e2
  refine ⟨He.dicW_ok h, fun k p hk => ?_, fun z hz => ?_⟩
  · rw [lookup_map] at hk
    obtain ⟨kv, h1, h2⟩ := Option.map_eq_some_iff.mp hk
    subst h2
    have hb := List.all_eq_true.mp b _ (lookup_mem h1)
    simp only at hb
    split at hb
    · rename_i u eu
      obtain ⟨v, r, q⟩ := kRep_ok kv u hb
      exact ⟨u, v, eu, r, q⟩
    · cases hb
  · rw [lookup_map, Option.map_eq_none_iff] at hz
    exact nsIn_no h (lookup_no hz)
end
/-! membership, items -/
section
variable {K : PySem.W.Frag} {w : World} {T : Str} {kvs : List (Str × PV)}
end
/-! a call of a name that holds one of several defs -/
end Qx
namespace Gx
open PySem PySem.Spec PyProof.Rows L2
def tCallT (i : Nat) (S : Addr → Sp → Prop) (t : TA) : TE := fun σ H Q => ∃ f sp, σ[i]? = some (some (.ref f)) ∧ S f sp ∧ t σ H fun vs H1 => sp vs H1 Q E0
section
variable {X : Cx} {i k j : Nat} {x : Str} {p pos : Pos} {e : Expr} {es : List Expr} {t : TA} {S : Addr → Sp → Prop}
def HeldK (X : Cx) (j : Nat) (f : Addr) (sp : Sp) : Prop := ∃ k, k ≤ j ∧ ∃ (fd : FuncData) (ps : List Str), FnOk X.prog X.w X.K X.mg X.base CX0 k f fd ps sp ∧ PySem.W.keepIn X.K (.ref f) = true ∧ Binds X.K fd ps []
theorem pe_callT (A : ∀ f sp, S f sp → HeldK X j f sp) (hr : Room j X.A) (hN : X.N[i]? = some x) (hv : Vis X.env.scope x) (ha : PA X (e :: es) t)
    (hdb : (x == ("__debug__" : Str)) = false := by decide) (hcd : (x == ("__classdict__" : Str)) = false := by decide)
    (he : starEach (e :: es) X.env = (false, eval e X.env) :: starEach es X.env := by rfl) (hpl : (backTo pos (starEach es X.env)).any (·.1) = false := by rfl) : PE X (.Call (.Name x p) (e :: es) [] pos) (tCallT i S t) := by
  refine ⟨fun pins s σ H Q I h => ?_⟩
  obtain ⟨f, sp, hs, hS, ht⟩ := h
  obtain ⟨k, hj, fd, ps, F, hk, hb⟩ := A f sp hS
  refine (pe_callL (i := i) (f := f) (sp := sp) (dvs := []) (E := E0) F (hr.mono hj) hN hv hk hb .nil pass0 ha hdb hcd he hpl).run pins s σ H Q I ⟨hs, ?_⟩
  have e0 : (fun (vs : List V) (H1 : Hp) => sp (vs ++ []) H1 Q E0) = fun vs H1 => sp vs H1 Q E0 := by
    funext vs H1
    rw [List.append_nil]
  show t σ H (fun vs H1 => sp (vs ++ []) H1 Q E0)
  rw [e0]
  exact ht
end
end Gx
namespace Qx
open PySem PySem.Spec PyProof.Rows L2 Gx
section
variable {K : PySem.W.Frag} {E : XM} {tA : TA} {fA : AF} {i : Nat}
def tabS (K : PySem.W.Frag) (tab : List (Str × MF)) (f : Addr) (sp : Sp) : Prop := ∃ C m, tab.lookup C = some m ∧ f = He.ga K C ∧ sp = spM K false m
theorem tabs_nil {X : Cx} {j : Nat} : ∀ f sp, tabS X.K [] f sp → HeldK X j f sp := fun f sp ⟨C, m, h, _⟩ => by simp at h
end
/-! while -/
section
variable {K : PySem.W.Frag} {E : XM} {tc : TT} {c : TF} {tb : TS} {b : SF}
end
end Qx

/-! Own layer Xr: x in a tuple of own things; x in a list or tuple of data. -/
namespace GQ
open PySem PySem.SeqAt
open AutoSeq1 (wpAny_loadPart')
open MeetsSeq MeetsSeq2 MeetsSeq3 SeqRoads2
section
variable {prog : Program} {w : World} {A : Around} {R : Result → Shared → Prop}
end
section
variable {prog : Program} {w : World} {A : Around} {E : Value → Shared → Prop} {s : Shared}
end
end GQ
namespace Gx
open PySem PySem.Spec PyProof.Rows L2
section
variable {X : Cx} {k j : Nat} {ps : List Str} {sp : Sp} {d : He.DefD} {C : Addr}
/-! data in a list or tuple of data -/
theorem dpAll_get {K : PySem.W.Frag} {H : Hp} : ∀ {xs : List V} {ds : List PyData} {i : Nat} {x : V}, DpAll K H xs ds → xs[i]? = some x → ∃ d, ds[i]? = some d ∧ Dp K H x d
  | _, _, _, _, .nil, e => by simp at e
  | _, _, 0, _, .cons h t, e => by
    simp only [List.getElem?_cons_zero, Option.some.injEq] at e
    subst e
    exact ⟨_, rfl, h⟩
  | _, _, i + 1, _, .cons h t, e => by
    simp only [List.getElem?_cons_succ] at e ⊢
    exact dpAll_get t e
end
end Gx
namespace Qx
open PySem PySem.Spec PyProof.Rows L2 Gx
section
variable {K : PySem.W.Frag} {cs : List Str} {C : Str} {mf : MF}
/-! data -/
end
end Qx

/-! Own layer Xs: what is walked may be a list or a tuple; sorted(list of pairs of whole numbers). -/
namespace Gx
open PySem PySem.Spec PyProof.Rows L2
section
variable {X : Cx} {tg : Expr}
def iAnyT (K : PySem.W.Frag) (tl : TE) : TI := fun σ H R => tl σ H fun x H1 => ∃ a, x = .ref a ∧ ((∃ xs, SqL K H1 a xs) ∧ R (Itl K a) H1 ∨ (∃ xs, SqT K H1 a xs) ∧ R (Itt K a) H1)
theorem pi_any {l : Expr} {tl : TE} (hl : PE X l tl) : PI X tg l (iAnyT X.K tl) := by
  refine ⟨fun pins s σ H R I h => ?_⟩
  refine thn (hl.run pins s σ H _ I h) fun v s1 ⟨x, H1, I1, r1, q1⟩ => ?_
  obtain ⟨a, e, ⟨⟨xs, hq⟩, q⟩ | ⟨⟨xs, hq⟩, q⟩⟩ := q1
  · subst e
    cases r1
    obtain ⟨its, rv, p, hz⟩ := I1.list hq
    refine wpAny_pyIter_list p.isList ?_
    refine ⟨s1.heap.objs.size, [s1.heap.objs.size], _, _, H1, rfl, I1.kept (t' := s1.toks) fun b o e => Heap.get?_push_of_some _ e, turn_list a _, ⟨_, Heap.get?_push_size _ rfl, rfl, rfl⟩, fun b hb => ?_, q⟩
    have e : b = s1.heap.objs.size := by simpa using hb
    subst e
    exact I1.fpOk (Nat.le_refl _) (I1.hok.fresh (Nat.le_refl _))
  · subst e
    cases r1
    obtain ⟨its, rv, p, hz⟩ := I1.tuple hq
    refine wpAny_pyIter_tuple (show s1.heap.IsTuple a its.toArray from p) ?_
    refine ⟨s1.heap.objs.size, [s1.heap.objs.size], _, _, H1, rfl, I1.kept (t' := s1.toks) fun b o e => Heap.get?_push_of_some _ e, turn_tuple a _, ⟨_, Heap.get?_push_size _ rfl, rfl, rfl⟩, fun b hb => ?_, q⟩
    have e : b = s1.heap.objs.size := by simpa using hb
    subst e
    exact I1.fpOk (Nat.le_refl _) (I1.hok.fresh (Nat.le_refl _))
/-! sorted -/
def leP (p q : Int × Int) : Bool := decide (p.1 < q.1 ∨ (p.1 = q.1 ∧ p.2 ≤ q.2))
/-! xs[::-1] of a list -/
end
end Gx
namespace Qx
open PySem PySem.Spec PyProof.Rows L2 Gx
section
variable {K : PySem.W.Frag} {E : XM} {te : TE} {fe : EF}
/-! ### what is walked: a list or a tuple -/
def iA (f : EF) : IF := fun s O => (f s O).bind fun p O1 => match tupOf p with
  | some ps => .ok (ps, none) O1
  | none => match p with
    | .lst ps => .ok (ps, none) O1
    | .rol ps => .ok (ps, none) O1
    | .loc n => match O1[n]? with
      | some (some (.lst ps)) => .ok (ps, some (n, ps)) O1
      | _ => .bad
    | _ => .bad
theorem sim_iA (he : SimE K E te fe) : SimIt K E (iAnyT K te) (iA fe) := fun R ι O H σ s Q S L h =>
  he R ι O H σ s _ S L (h.bind fun p O1 x ι1 H1 S1 X1 r1 h1 => by
    have fr : ∀ ps, frL p = some ps → Post K R (xat E σ) (rpI K) ι1 O1 H1 Q (.ok (ps, none) O1) → ∃ a, x = .ref a ∧ ((∃ xs, SqL K H1 a xs) ∧ Q (Itl K a) H1 ∨ (∃ xs, SqT K H1 a xs) ∧ Q (Itt K a) H1) := fun ps e h1 => by
      obtain ⟨a, xs, e1, h3, h4⟩ := frL_read r1 e
      exact ⟨a, e1, .inl ⟨⟨xs, S1.frozen.seq h3⟩, h1.here S1 (itl_ok fun R' ι' O' H' S' p1 sm _ => ⟨xs, S'.frozen.seq (sm.seq h3), h4.mono p1 sm⟩)⟩⟩
    cases p with
    | lst ps => exact fr ps rfl h1
    | rol ps => exact fr ps rfl h1
    | loc n =>
      obtain ⟨a, e1, e2⟩ := r1
      simp only [tupOf] at h1
      cases q : O1[n]? with
      | none => simp [q] at h1; exact h1.elim
      | some w =>
        cases w with
        | none => simp [q] at h1; exact h1.elim
        | some w =>
          cases w with
          | lst ps =>
            simp only [q] at h1
            obtain ⟨o, h3, xs, h4, h5⟩ := S1.obj n a _ e2 q
            subst h4
            refine ⟨a, e1, .inl ⟨⟨xs, SqL.of h3⟩, h1.here S1 (itl_ok fun R' ι' O' H' S' p1 sm gd => ?_)⟩⟩
            obtain ⟨o, h3, xs, h4, h5⟩ := S'.obj n a _ (p1 _ _ e2) (show O'[n]? = some (some (.lst ps)) from gd)
            subst h4
            exact ⟨xs, SqL.of h3, h5⟩
          | _ => simp [q] at h1; exact h1.elim
    | tup ps =>
      obtain ⟨a, xs, e1, h3, h4⟩ := r1
      exact ⟨a, e1, .inr ⟨⟨xs, sqt_same S1.frozen h3⟩, h1.here S1 (itt_ok h3 h4)⟩⟩
    | xtp ps =>
      obtain ⟨⟨a, xs, e1, h3, h4⟩, _⟩ := r1
      exact ⟨a, e1, .inr ⟨⟨xs, sqt_same S1.frozen h3⟩, h1.here S1 (itt_ok h3 h4)⟩⟩
    | _ => exact h1.elim)
/-! ### sorted(pairs) -/
def prOf : PV → Option (Int × Int)
  | .tup [.int i, .int j] => some (i, j)
  | _ => none
def prsOf : List PV → Option (List (Int × Int))
  | [] => some []
  | p :: ps => match prOf p, prsOf ps with
    | some z, some zs => some (z :: zs)
    | _, _ => none
def prP (z : Int × Int) : PV := .tup [.int z.1, .int z.2]
def bSort2 := b1 fun p O => match lstOf O p with
  | some ps => match prsOf ps with
    | some zs => .ok (.lst ((zs.mergeSort leP).map prP)) O
    | none => .bad
  | none => .bad
/-! ### xs[::-1] of a list -/
/-! ### a is b, a is not b of truths -/
def isB (p q : PV) (O : Sto) : PR PV := match p, q with
  | .bl a, .bl b => .ok (.bl (decide (a = b))) O
  | _, _ => .bad
def notB (p q : PV) (O : Sto) : PR PV := match p, q with
  | .bl a, .bl b => .ok (.bl (!decide (a = b))) O
  | _, _ => .bad
/-! ### C(.., f=e) where C's instances may change -/
def eMakeKO (C : Str) (m : MF) (n k : Nat) (gP : List PV → List PV → List PV) (a z : AF) : EF := fun s O => (a s O).bind fun ps O1 => (z s O1).bind fun zs O2 => if ps.length = n ∧ zs.length = k then
  (noX (m (.loc O2.length :: gP ps zs) (O2 ++ [some (.ins C [] [])]))).bind fun r O3 => match r with
  | .non => .ok (.loc O2.length) O3
  | _ => .bad else .bad
/-! ### list(range(..)) -/
end
end Qx

/-! Own layer Xt: several except clauses, each of one class or a tuple of two, the exception tracked from then on. -/
namespace Gx
open PySem PySem.Spec PyProof.Rows L2
def TestOk (X : Cx) (t : Expr) (cs : List Value) : Prop := ∀ (a : Addr) (pn : List (Addr × Obj)) (σ : L2.St) (H : Hp) (s : Shared) (cls : Value) (b : Bool) (E : Value → Shared → Prop) (Q : Bool → Shared → Prop), Inv (X.suite a pn) [] σ H s →
  PySem.W.Looks (model X.prog X.w) s.heap (typeOf (.ref a)) cls → PySem.W.exmAny X.K cls cs = some b → (∀ h', (∀ q o, s.heap.get? q = some o → h'.get? q = some o) → Q b { s with heap := h' }) →
  wpAny (model X.prog X.w) (X.A.mark (some (.ref a))) (eval t X.env) (fun c s₁ => wpAny (model X.prog X.w) (X.A.mark (some (.ref a))) (excMatches (.ref a) c) Q E s₁) E s
section
variable {X : Cx}
inductive HdT (X : Cx) : List ExceptHandler → List (List Value × Nat × TS) → Prop
  | nil : HdT X [] []
  | cons {t : Expr} {n : Str} {i : Nat} {b₀ : Stmt} {suite : List Stmt} {pos' : Pos} {cs : List Value} {ts : TS} {hds : List ExceptHandler} {l : List (List Value × Nat × TS)} (ht : TestOk X t cs) (hi : X.N[i]? = some n) (hln : X.env.kindOf n = some .local)
      (hsu : ∀ (a : Addr) (pn : List (Addr × Obj)), PSs (X.suite a pn) (b₀ :: suite) ts) (r : HdT X hds l) : HdT X (.ExceptHandler (some t) (some n) (b₀ :: suite) pos' :: hds) ((cs, i, ts) :: l)
end
end Gx
namespace Qx
open PySem PySem.Spec PyProof.Rows L2 Gx
/-! ### try with several clauses -/
section
variable {K : PySem.W.Frag} {E : XM} {fb : SF} {tb : WX → TS} {Wout : WX}
inductive SimH (K : PySem.W.Frag) : List (List Value × Nat × TS) → List (Nat × (Str → Option Bool) × SF) → Prop
  | nil : SimH K [] []
  | cons {cs : List Value} {i : Nat} {ts : TS} {cm : Str → Option Bool} {fs : SF} {l : List (List Value × Nat × TS)} {hs : List (Nat × (Str → Option Bool) × SF)} (hcm : ∀ C b, cm C = some b → PySem.W.exmAny K (.ref (He.ga K C)) cs = some b) (hS : SimS K none ts fs) (r : SimH K l hs) : SimH K ((cs, i, ts) :: l) ((i, cm, fs) :: hs)
end
end Qx

/-! Own layer Xu: a call of a local name that holds one of several defs, some of which may raise. -/
namespace Gx
open PySem PySem.Spec PyProof.Rows L2
section
variable {X : Cx} {i k j : Nat} {x : Str} {p pos : Pos} {e : Expr} {es : List Expr} {t : TA} {S : Addr → Sp → Prop} {E : L2.St → XK}
end
end Gx
namespace Qx
open PySem PySem.Spec PyProof.Rows L2 Gx
section
variable {K : PySem.W.Frag} {E : XM} {tA : TA} {fA : AF} {i : Nat}
end
end Qx

/-! Own layer Xv: as Xi, for exceptions over LookupError or ArithmeticError. -/
namespace Qx
open PySem PySem.Spec PyProof.Rows L2 Gx
structure EbF (b : EB) : Prop where
  F : ExcBaseFacts b.B b.nw b.ini b.tail
  S : StoreFacts b.B b.tail "object.__setattr__" "object"
  h : PySem.W.handedIn (.builtin b.ini) = true
structure OexG (b : EB) (K : PySem.W.Frag) (C : Addr) : Prop where
  i : PySem.W.excInitIn K C b.tail b.nw = true
  v : PySem.W.excOver K C b.tail = true
  hd : PySem.W.hasDictIn K C = true
  sa : PySem.W.findIn K (.ref C) "__setattr__" = some (some (.builtin "object.__setattr__"))
  ex : PySem.W.subIn K (.ref C) (.type "BaseException") = some true
  ty : PySem.W.typeIn K (.ref C) = some (.type "type")
  kp : PySem.W.keepIn K (.ref C) = true
section
variable {b : EB} {X : Cx} {pins : List (Addr × Obj)} {σ : L2.St} {H : Hp} {s : Shared} {a C : Addr} {f : Str} {y : V} {u : Value} {Q : Unit → Shared → Prop} {E : Value → Shared → Prop} {A : Around}
end
section
variable {b : EB} {X : Cx} {e o : Expr} {es : List Expr} {to te : TE} {ta : TA} {x f : Str} {p p' p1 p2 pos : Pos} {B : Addr}
end
structure ClG (b : EB) (K : PySem.W.Frag) (B : Addr) : Prop where
  rd : PySem.W.readsIn K B (.type "type") = true
  ga : PySem.W.specialIn K (.ref B) "__getattribute__" = some (some (.builtin "type.__getattribute__"))
  vV : PySem.W.findCls K (.ref B) (.type "type") "__init__" = some (.val (.builtin b.ini))
structure XiG (b : EB) (K : PySem.W.Frag) (C B : Str) (f : Str) : Prop where
  o : OexG b K (He.ga K C)
  no : PySem.W.findIn K (.ref (He.ga K C)) f = some none
  b : ClG b K (He.ga K B)
/-! ### raise C(e) -/
end Qx

/-! Own layer Xw: int(text, 2); the place in a constant tuple of texts; defs that call themselves. -/
namespace PySem.W
open PySem PySem.Calls PySem.NumText PyProof.Rows
/-! ### int(text, 2) -/
end PySem.W

namespace Qx
open PySem PySem.Spec PyProof.Rows L2 Gx
/-! the hand layer's rule -/
section
variable {prog : Program} {w : World} {A : Around} {E : Value → Shared → Prop} {s : Shared}
end
section
variable {K : PySem.W.Frag}
end
/-! the place of a text in a constant tuple -/
/-! defs that call themselves -/
theorem bad_sp {K : PySem.W.Frag} {x : Bool} {vs : List V} {H : Hp} {Q : VK} {E : XK} (h : spM K x (fun _ _ => .bad) vs H Q E) : False := by
  obtain ⟨_, _, _, _, _, _, h⟩ := h
  exact h
end Qx

namespace Qx
open PySem PySem.Spec PyProof.Rows L2
/-! min of four whole numbers -/
/-! the pure side -/
end Qx

/-! Own layer Ya: sorted of a list or a tuple of pairs of whole numbers. -/
namespace Gx
open PySem PySem.Spec PyProof.Rows L2
section
variable {prog : Program} {w : World} {A : Around} {E : Value → Shared → Prop} {s : Shared} {κ : PyProof.Rows.KeyKind}
theorem collect_own {r : Value} {Q : List Value → Shared → Prop} (G : Heap → Nat → Array Value → Prop)
    (hx : ∀ R : Result → Shared → Prop, (∀ (h' : Heap) (tk c : Nat) (acc : Array Value), h'.get? s.heap.objs.size = some ⟨.type "list", none, .seq acc c, #[]⟩ → G h' tk acc → R (.ok (.ret (.ref s.heap.objs.size))) { s with heap := h', toks := tk }) →
      wpAny (model prog w) A.in1 (Builtin.List.listExtendWith (.ref s.heap.objs.size) r (.ref s.heap.objs.size)) (fun f s' => match f with
        | .done v => R (.ok v) s'
        | .again k => k.quiet = true ∧ codeAny (model prog w) A k R s') (fun e s' => R (.error e) s') { s with heap := s.heap.push ⟨.type "list", none, .seq ([] : List Value).toArray 0, #[]⟩ })
    (hQ : ∀ h' tk acc, G h' tk acc → Q acc.toList { s with heap := h', toks := tk }) : wpAny (model prog w) A (collect r) Q E s := by
  let good : Result → Shared → Prop := fun x s' => x = .ok (.ret (.ref s.heap.objs.size)) ∧ ∃ (h' : Heap) (tk c : Nat) (acc : Array Value), s' = { s with heap := h', toks := tk } ∧ h'.get? s.heap.objs.size = some ⟨.type "list", none, .seq acc c, #[]⟩ ∧ G h' tk acc
  have fin : ∀ s', good (.ok (.ret (.ref s.heap.objs.size))) s' → wpAny (model prog w) A (load s.heap.objs.size >>= fun o => match o.data with
      | .seq xs _ => pure xs.toList
      | _ => unsupported "internal:collect") Q E s' := by
    rintro s' ⟨_, h', tk, c, acc, rfl, e, g⟩
    exact wpAny_bind (wpAny_load e (wpAny_pure (hQ h' tk acc g)))
  have ext := hx good fun h' tk c acc e g => ⟨rfl, h', tk, c, acc, rfl, e, g⟩
  unfold collect
  refine wpAny_bind (wpAny_runValue (codeAny_builtin F.entry_proto_collect ?_))
  rw [Around.under_plainId F.plain_proto_collect _]
  refine wpAny_bind (wpAny_newObj_type ?_)
  refine wpAny_pure ⟨plainId_quiet F.plain_list_iadd _, codeAny_builtin F.entry_list_iadd ?_⟩
  rw [Around.under_plainId F.plain_list_iadd _]
  refine wpAny_mono ext (fun f s' h => ?_) (fun e s' h => absurd h.1 (by simp))
  cases f with
  | done v =>
    have e := h.1
    cases e
    exact fin s' h
  | again k =>
    refine ⟨h.1, codeAny_mono h.2 fun x s2 hh => ?_⟩
    have e := hh.1
    subst e
    exact fin s2 hh
theorem collect_tup {l : Addr} {vs : List Value} {Q : List Value → Shared → Prop} (hl : s.heap.IsTuple l vs.toArray)
    (h : Q vs { s with heap := (s.heap.push (seqObj "list" #[] 0)).update s.heap.objs.size (Obj.mapSeq (· ++ vs.toArray)) }) (hsz : vs.length ≤ sizeLine) :
    wpAny (model prog w) A (collect (.ref l)) Q E s := by
  obtain ⟨o, ho, hc, n, hd⟩ := hl
  refine collect_own (fun h' tk acc => h' = (s.heap.push (seqObj "list" #[] 0)).update s.heap.objs.size (Obj.mapSeq (· ++ vs.toArray)) ∧ tk = s.toks ∧ acc = vs.toArray) (fun R hR => ?_) fun h' tk acc g => ?_
  · have hS : (s.heap.push ⟨.type "list", none, .seq ([] : List Value).toArray 0, #[]⟩).get? s.heap.objs.size = some ⟨.type "list", none, .seq #[] 0, #[]⟩ := Heap.get?_push_size _ rfl
    refine wpAny_extend_seq _ l _ 0 (.inr rfl) hS (Heap.get?_push_of_some _ ho) hc hd (hR _ _ (if vs = [] then 0 else 1) vs.toArray ?_ ⟨rfl, rfl, rfl⟩) (by simpa using hsz)
    have e := Heap.get?_update_self (Obj.mapSeq (· ++ vs.toArray)) hS rfl
    simpa [Obj.mapSeq] using e
  · obtain ⟨rfl, rfl, rfl⟩ := g
    simpa using h
variable {α : Type} {R : Value → α → Prop} {enc : α → PyData} {vs : List Value} {bs : List α}
end
section
variable {X : Cx}
end
end Gx
namespace Qx
open PySem PySem.Spec PyProof.Rows L2 Gx
section
variable {K : PySem.W.Frag}
end
end Qx

/-! Own layer Yb: the head's hook over addresses that are gathered with a mask of bits. -/
namespace Qx
open PySem PySem.Spec PyProof.Rows L2
/-! .. and tables of code objects: empty, not among what is held -/
end Qx

/-! Own layer Yc: dicts with whole numbers and texts as keys, frozen or changing. -/
namespace Qx
open PySem PySem.Spec PyProof.Rows L2 Gx
/-! ### the plain part -/
def kP : Key → PV
  | .inl i => .int i
  | .inr z => .str z
theorem keyP_kP (k : Key) : keyP (kP k) = some k := by cases k <;> rfl
theorem keyP_eq {p : PV} {k : Key} (h : keyP p = some k) : p = kP k := by
  cases p <;> first | (cases h; rfl) | cases h
abbrev Kvs := List (Key × PV)
def valP (kvs : Kvs) (k : Key) : Option PV := (kvs.find? fun kv => decide (kv.1 = k)).map (·.2)
def putP (kvs : Kvs) (k : Key) (v : PV) : Kvs := if (kvs.any fun kv => decide (kv.1 = k)) = true then kvs.map (fun kv => if kv.1 = k then (kv.1, v) else kv) else kvs ++ [(k, v)]
def dropP (kvs : Kvs) (k : Key) : Kvs := kvs.filter fun kv => decide (kv.1 ≠ k)
def mergeP (kvs more : Kvs) : Kvs := more.foldl (fun acc kv => putP acc kv.1 kv.2) kvs
def dicP (kvs : Kvs) : PV := .dic (kvs.map fun w => kP w.1) (kvs.map (·.2))
/-! ### entries in a heap -/
section
variable {K : PySem.W.Frag} {ι ι' : List Addr} {G G' : Hp}
def KvR (K : PySem.W.Frag) (ι : List Addr) (G : Hp) : Kvs → List (Key × V) → Prop
  | [], ws => ws = []
  | (k, p) :: r, ws => ∃ v t, ws = (k, v) :: t ∧ Rep K ι G p v ∧ KvR K ι G r t
theorem KvR.mono (hp : Pre ι ι') (e : Same G G') : ∀ {kvs : Kvs} {ws : List (Key × V)}, KvR K ι G kvs ws → KvR K ι' G' kvs ws
  | [], _, h => h
  | (k, p) :: r, ws, ⟨v, t, h1, h2, h3⟩ => ⟨v, t, h1, h2.mono hp e, KvR.mono hp e h3⟩
theorem KvR.len : ∀ {kvs : Kvs} {ws : List (Key × V)}, KvR K ι G kvs ws → ws.length = kvs.length
  | [], _, h => by rw [show _ = [] from h]; rfl
  | (k, p) :: r, ws, ⟨v, t, h1, _, h3⟩ => by rw [h1, List.length_cons, List.length_cons, KvR.len h3]
theorem KvR.val {k : Key} : ∀ {kvs : Kvs} {ws : List (Key × V)}, KvR K ι G kvs ws → (valP kvs k = none ∧ valV ws k = none) ∨ ∃ p v, valP kvs k = some p ∧ valV ws k = some v ∧ Rep K ι G p v
  | [], ws, h => by rw [show ws = [] from h]; exact .inl ⟨rfl, rfl⟩
  | (j, p) :: r, ws, ⟨v, t, h1, h2, h3⟩ => by
    subst h1
    by_cases e : j = k
    · exact .inr ⟨p, v, by simp [valP, e], valV_pos e, h2⟩
    · rcases KvR.val (k := k) h3 with ⟨a, b⟩ | ⟨p', v', a, b, c⟩
      · exact .inl ⟨by simpa [valP, e] using a, by rw [valV_neg e]; exact b⟩
      · exact .inr ⟨p', v', by simpa [valP, e] using a, by rw [valV_neg e]; exact b, c⟩
theorem KvR.any {k : Key} : ∀ {kvs : Kvs} {ws : List (Key × V)}, KvR K ι G kvs ws → (kvs.any fun kv => decide (kv.1 = k)) = ws.any fun kv => decide (kv.1 = k)
  | [], ws, h => by rw [show ws = [] from h]; rfl
  | (j, p) :: r, ws, ⟨v, t, h1, _, h3⟩ => by
    subst h1
    rw [List.any_cons, List.any_cons, KvR.any h3]
theorem KvR.app : ∀ {kvs more : Kvs} {ws ms : List (Key × V)}, KvR K ι G kvs ws → KvR K ι G more ms → KvR K ι G (kvs ++ more) (ws ++ ms)
  | [], _, ws, _, h, h' => by rw [show ws = [] from h]; exact h'
  | (k, p) :: r, _, ws, _, ⟨v, t, h1, h2, h3⟩, h' => by subst h1; exact ⟨v, _, rfl, h2, KvR.app h3 h'⟩
theorem KvR.upd {k : Key} {p : PV} {v : V} (hv : Rep K ι G p v) : ∀ {kvs : Kvs} {ws : List (Key × V)}, KvR K ι G kvs ws → KvR K ι G (kvs.map fun kv => if kv.1 = k then (kv.1, p) else kv) (ws.map fun kv => if kv.1 = k then (kv.1, v) else kv)
  | [], ws, h => by rw [show ws = [] from h]; rfl
  | (j, q) :: r, ws, ⟨v', t, h1, h2, h3⟩ => by
    subst h1
    rw [List.map_cons, List.map_cons]
    by_cases e : j = k
    · rw [if_pos e, if_pos e]
      exact ⟨v, _, rfl, hv, KvR.upd hv h3⟩
    · rw [if_neg e, if_neg e]
      exact ⟨v', _, rfl, h2, KvR.upd hv h3⟩
theorem KvR.put {k : Key} {p : PV} {v : V} {kvs : Kvs} {ws : List (Key × V)} (h : KvR K ι G kvs ws) (hv : Rep K ι G p v) : KvR K ι G (putP kvs k p) (putK ws k v) := by
  unfold putP putK
  rw [h.any]
  split
  · exact KvR.upd hv h
  · exact h.app ⟨v, [], rfl, hv, rfl⟩
theorem KvR.drop {k : Key} : ∀ {kvs : Kvs} {ws : List (Key × V)}, KvR K ι G kvs ws → KvR K ι G (dropP kvs k) (dropK ws k)
  | [], ws, h => by rw [show ws = [] from h]; rfl
  | (j, q) :: r, ws, ⟨v, t, h1, h2, h3⟩ => by
    subst h1
    unfold dropP dropK
    by_cases e : j = k
    · rw [List.filter_cons_of_neg (by simp [e]), List.filter_cons_of_neg (by simp [e])]
      exact KvR.drop h3
    · rw [List.filter_cons_of_pos (by simp [e]), List.filter_cons_of_pos (by simp [e])]
      exact ⟨v, _, rfl, h2, KvR.drop h3⟩
theorem KvR.merge : ∀ {more : Kvs} {ms : List (Key × V)} {kvs : Kvs} {ws : List (Key × V)}, KvR K ι G more ms → KvR K ι G kvs ws → KvR K ι G (mergeP kvs more) (mergeK ws ms)
  | [], ms, kvs, ws, h, h' => by rw [show ms = [] from h]; exact h'
  | (k, p) :: r, ms, kvs, ws, ⟨v, t, h1, h2, h3⟩, h' => by
    subst h1
    exact KvR.merge (more := r) (ms := t) h3 (h'.put h2)
theorem KvR.vals : ∀ {kvs : Kvs} {ws : List (Key × V)}, KvR K ι G kvs ws → RepL K ι G (kvs.map (·.2)) (ws.map (·.2))
  | [], ws, h => by rw [show ws = [] from h]; rfl
  | (k, p) :: r, ws, ⟨v, t, h1, h2, h3⟩ => by subst h1; exact ⟨v, _, rfl, h2, KvR.vals h3⟩
theorem rep_kP (k : Key) : Rep K ι G (kP k) (kV k) := by cases k <;> rfl
theorem KvR.keys : ∀ {kvs : Kvs} {ws : List (Key × V)}, KvR K ι G kvs ws → RepL K ι G (kvs.map fun w => kP w.1) (ws.map fun kv => kV kv.1)
  | [], ws, h => by rw [show ws = [] from h]; rfl
  | (k, p) :: r, ws, ⟨v, t, h1, _, h3⟩ => by subst h1; exact ⟨_, _, rfl, rep_kP k, KvR.keys h3⟩
theorem KvR.fst : ∀ {kvs : Kvs} {ws : List (Key × V)}, KvR K ι G kvs ws → ws.map (·.1) = kvs.map (·.1)
  | [], ws, h => by rw [show ws = [] from h]; rfl
  | (k, p) :: r, ws, ⟨v, t, h1, _, h3⟩ => by subst h1; rw [List.map_cons, List.map_cons, KvR.fst h3]
theorem KvR.get : ∀ {kvs : Kvs} {ws : List (Key × V)} {i : Nat} {k : Key} {p : PV}, KvR K ι G kvs ws → kvs[i]? = some (k, p) → ∃ v, ws[i]? = some (k, v) ∧ Rep K ι G p v
  | [], _, _, _, _, _, e => by simp at e
  | (j, q) :: r, ws, 0, k, p, ⟨v, t, h1, h2, _⟩, e => by
    subst h1
    simp only [List.getElem?_cons_zero, Option.some.injEq, Prod.mk.injEq] at e
    obtain ⟨rfl, rfl⟩ := e
    exact ⟨v, rfl, h2⟩
  | (j, q) :: r, ws, i + 1, k, p, ⟨v, t, h1, _, h3⟩, e => by
    subst h1
    simp only [List.getElem?_cons_succ] at e ⊢
    exact KvR.get h3 e
theorem KvR.of : ∀ {kvs : Kvs} {ws : List (Key × V)}, (kvs.map fun w => kP w.1).map keyP = ws.map (fun w => some w.1) → RepL K ι G (kvs.map (·.2)) (ws.map (·.2)) → KvR K ι G kvs ws
  | [], [], _, _ => rfl
  | [], _ :: _, h, _ => by simp at h
  | (k, p) :: r, [], h, _ => by simp at h
  | (k, p) :: r, (j, v) :: t, h, ⟨x, xs, h1, h2, h3⟩ => by
    simp only [List.map_cons, keyP_kP, List.cons.injEq, Option.some.injEq] at h
    obtain ⟨rfl, h⟩ := h
    simp only [List.map_cons, List.cons.injEq] at h1
    obtain ⟨rfl, rfl⟩ := h1
    exact ⟨v, t, rfl, h2, KvR.of h h3⟩
theorem KvR.repO {a : Addr} {kvs : Kvs} {ws : List (Key × V)} (h : KvR K ι G kvs ws) : RepO K ι G a (dicP kvs) (.dK ws) := ⟨ws, rfl, by
  rw [List.map_map]
  have := h.fst
  have e : kvs.map (keyP ∘ fun w => kP w.1) = kvs.map fun w => some w.1 := List.map_congr_left fun w _ => keyP_kP w.1
  rw [e]
  have e2 : ∀ l : List (Key × V), l.map (fun w => some w.1) = (l.map (·.1)).map some := fun l => by rw [List.map_map]; rfl
  have e3 : ∀ l : Kvs, l.map (fun w => some w.1) = (l.map (·.1)).map some := fun l => by rw [List.map_map]; rfl
  rw [e2, e3, this], h.vals⟩
end
section
variable {K : PySem.W.Frag} {R : List (Addr × HO)} {ι : List Addr} {O : Sto} {H : Hp} {p q : PV} {x : V} {kvs : Kvs} {n : Nat} {E : Option XK} {Q : VK}
theorem key_read {G : Hp} {k : Key} (r : Rep K ι G p x) (e : keyP p = some k) : x = kV k := by
  rw [keyP_eq e] at r
  cases k <;> exact r
end
/-! ### k in d, d[k], d.get -/
section
variable {K : PySem.W.Frag} {E : XM} {ta tb tc : TE} {fa fb fc : EF}
end
/-! ### new dicts, stores -/
section
variable {K : PySem.W.Frag} {E : XM} {ta tb tc : TE} {fa fb fc : EF}
end
end Qx

/-! Own layer Qp: walking a mirror, in plain Lean. -/
namespace Qx
open PySem PySem.Spec PyProof.Rows L2 Gx
def Go {α : Type} (r : PR α) (Q : α → Sto → Prop) : Prop := match r with
  | .ok a O => Q a O
  | _ => False
structure Ks where
  nx : Slots → Sto → Prop
  rt : PV → Sto → Prop
  bk : Slots → Sto → Prop
  ct : Slots → Sto → Prop
  ex : PExc → Slots → Sto → Prop := fun _ _ _ => False
def GoS (K : Ks) (r : SR) : Prop := match r with
  | .next s O => K.nx s O
  | .ret p O => K.rt p O
  | .brk s O => K.bk s O
  | .cnt s O => K.ct s O
  | .exc e s O => K.ex e s O
  | .bad => False
section
variable {α β : Type} {Q : α → Sto → Prop} {Q' : β → Sto → Prop} {QP : PV → Sto → Prop} {QB : Bool → Sto → Prop} {QA : List PV → Sto → Prop} {s : Slots} {O O1 : Sto} {p q r : PV} {ps qs : List PV} {a b c : EF} {t u : TF} {f g : AF} {x y : SF} {K : Ks} {i j : Int} {n m : Nat}
theorem Go.eq {r : PR α} {v : α} (h : Go r fun w O' => w = v ∧ O' = O) : r = .ok v O := by
  cases r with
  | ok w O' => obtain ⟨rfl, rfl⟩ := h; rfl
  | _ => exact h.elim
theorem Go.mono {r : PR α} {Q1 : α → Sto → Prop} (h : Go r Q1) (k : ∀ v O', Q1 v O' → Q v O') : Go r Q := by
  cases r with
  | ok w O' => exact k _ _ h
  | _ => exact h.elim
theorem Go.ex {r : PR α} (h : Go r Q) : ∃ v O', r = .ok v O' ∧ Q v O' := by
  cases r with
  | ok w O' => exact ⟨w, O', rfl, h⟩
  | _ => exact h.elim
theorem go_at {r : PR α} {v : α} (e : r = .ok v O1) (k : Q v O1) : Go r Q := by rw [e]; exact k
theorem go_bind {r : PR α} {h : α → Sto → PR β} (k : Go r fun v O1 => Go (h v O1) Q') : Go (r.bind h) Q' := by
  cases r <;> exact k
theorem go_toS {r : PR α} {h : α → Sto → SR} (k : Go r fun v O1 => GoS K (h v O1)) : GoS K (r.toS s h) := by
  cases r <;> first | exact k | exact k.elim
/-! expressions -/
theorem go_var (e : s[n]? = some (some p)) (k : QP p O) : Go (eVar n s O) QP := by unfold eVar; rw [e]; exact k
theorem go_c (k : QP p O) : Go (eC p s O) QP := k
theorem go_op {op : PV → PV → Sto → PR PV} (k : Go (a s O) fun p O1 => Go (b s O1) fun q O2 => Go (op p q O2) QP) : Go (eOp op a b s O) QP := go_bind (k.mono fun _ _ h => go_bind h)
theorem go_un {op : PV → Sto → PR PV} (k : Go (a s O) fun p O1 => Go (op p O1) QP) : Go (eUn op a s O) QP := go_bind k
theorem go_nil (k : QA [] O) : Go (aNil s O) QA := k
theorem go_cons (k : Go (a s O) fun p O1 => Go (f s O1) fun ps O2 => QA (p :: ps) O2) : Go (aCons a f s O) QA := go_bind (k.mono fun _ _ h => go_bind h)
theorem go_cb {h : List PV → Sto → PR PV} (k : Go (f s O) fun ps O1 => Go (h ps O1) QP) : Go (eCB h f s O) QP := go_bind k
def GTup (ps : List PV) (O : Sto) (QP : PV → Sto → Prop) : Prop := szOk ps.length = true ∧ QP (.tup ps) O
def GLst (ps : List PV) (O : Sto) (QP : PV → Sto → Prop) : Prop := szOk ps.length = true ∧ QP (.lst ps) O
def GLstO (ps : List PV) (O : Sto) (QP : PV → Sto → Prop) : Prop := szOk ps.length = true ∧ QP (.loc O.length) (O ++ [some (.lst ps)])
theorem go_tup (k : Go (f s O) fun ps O1 => GTup ps O1 QP) : Go (eTup f s O) QP := go_bind (k.mono fun _ _ h => by rw [if_pos h.1]; exact h.2)
theorem go_lst (k : Go (f s O) fun ps O1 => GLst ps O1 QP) : Go (eLst f s O) QP := go_bind (k.mono fun _ _ h => by rw [if_pos h.1]; exact h.2)
theorem go_lstO (k : Go (f s O) fun ps O1 => GLstO ps O1 QP) : Go (eLstO f s O) QP := go_bind (k.mono fun _ _ h => by rw [if_pos h.1]; exact h.2)
theorem sz_small {n : Nat} (h : n.ble 100000 = true) : szOk n = true := by
  have := Nat.le_of_ble_eq_true h
  exact decide_eq_true (Nat.le_trans this (by decide))
theorem sz_le {n : Nat} (h : n ≤ 100000) : szOk n = true := decide_eq_true (Nat.le_trans h (by decide))
theorem szl_le {n : Nat} (h : n ≤ 100000) : szLt n = true := decide_eq_true (Nat.lt_of_le_of_lt h (by decide))
theorem g_tup0 (e : ps.length.ble 100000 = true) (k : QP (.tup ps) O) : GTup ps O QP := ⟨sz_small e, k⟩
theorem g_lst0 (e : ps.length.ble 100000 = true) (k : QP (.lst ps) O) : GLst ps O QP := ⟨sz_small e, k⟩
theorem g_lstO0 (e : ps.length.ble 100000 = true) (k : QP (.loc O.length) (O ++ [some (.lst ps)])) : GLstO ps O QP := ⟨sz_small e, k⟩
def GB (p : PV) (Q : Bool → Prop) : Prop := ∃ b, p = .bl b ∧ Q b
theorem g_b {b : Bool} {Q : Bool → Prop} (k : Q b) : GB (.bl b) Q := ⟨b, rfl, k⟩
theorem go_tst (k : Go (a s O) fun p O1 => GB p fun b => QB b O1) : Go (tTst a s O) QB := go_bind (k.mono fun _ _ ⟨b, e, h⟩ => by rw [e]; exact h)
theorem go_tand (k : Go (t s O) fun c O1 => if c = true then Go (u s O1) QB else QB false O1) : Go (tAndP t u s O) QB := go_bind (k.mono fun c _ h => by cases c <;> exact h)
theorem go_tor (k : Go (t s O) fun c O1 => if c = true then QB true O1 else Go (u s O1) QB) : Go (tOrP t u s O) QB := go_bind (k.mono fun c _ h => by cases c <;> exact h)
theorem go_tnot (k : Go (t s O) fun c O1 => QB (!c) O1) : Go (tNotP t s O) QB := go_bind k
theorem go_and (k : Go (a s O) fun p O1 => GB p fun c => if c = true then Go (b s O1) QP else QP (.bl false) O1) : Go (eAnd a b s O) QP := go_bind (k.mono fun _ _ ⟨c, e, h⟩ => by rw [e]; cases c <;> exact h)
theorem go_or (k : Go (a s O) fun p O1 => GB p fun c => if c = true then QP (.bl true) O1 else Go (b s O1) QP) : Go (eOr a b s O) QP := go_bind (k.mono fun _ _ ⟨c, e, h⟩ => by rw [e]; cases c <;> exact h)
theorem go_not (k : Go (a s O) fun p O1 => GB p fun c => QP (.bl (!c)) O1) : Go (eNot a s O) QP := go_bind (k.mono fun _ _ ⟨c, e, h⟩ => by rw [e]; exact h)
theorem go_if (k : Go (t s O) fun c O1 => if c = true then Go (a s O1) QP else Go (b s O1) QP) : Go (eIf t a b s O) QP := go_bind (k.mono fun c _ h => by cases c <;> exact h)
theorem go_chain {o1 o2 : PV → PV → Sto → PR PV} (k : Go (a s O) fun p O1 => Go (b s O1) fun q O2 => Go (o1 p q O2) fun z O3 => GB z fun k => if k = true then Go (c s O3) fun r O4 => Go (o2 q r O4) QP else QP (.bl false) O3) : Go (eChain o1 o2 a b c s O) QP :=
  go_bind (k.mono fun _ _ h => go_bind (h.mono fun _ _ h => go_bind (h.mono fun _ _ ⟨k, e, h⟩ => by rw [e]; cases k <;> first | exact h | exact go_bind h)))
def GM (m : MF) (ps : List PV) (O : Sto) (QP : PV → Sto → Prop) : Prop := Go (m ps O) QP
theorem g_m {m : MF} {ps' : List PV} (e : ps = ps') (k : Go (m ps' O) QP) : GM m ps O QP := by subst e; exact k
theorem go_call0 {m : MF} (k : Go (f s O) fun ps O1 => Go (m ps O1) QP) : Go (eCall m [] f s O) QP := go_bind (k.mono fun ps O1 h => by rw [List.append_nil]; exact h)
theorem go_call {m : MF} {dps : List PV} (k : Go (f s O) fun ps O1 => GM m (ps ++ dps) O1 QP) : Go (eCall m dps f s O) QP := go_bind k
def GMk (C : Str) (m : List PV → Sto → PR (List Str × List PV)) (ps : List PV) (O : Sto) (QP : PV → Sto → Prop) : Prop := Go (mkIns C (m ps O)) QP
theorem g_mk {C : Str} {m : List PV → Sto → PR (List Str × List PV)} {ps' : List PV} (e : ps = ps') (k : Go (mkIns C (m ps' O)) QP) : GMk C m ps O QP := by subst e; exact k
theorem g_and {A B : Prop} (h : A) (k : B) : A ∧ B := ⟨h, k⟩
theorem go_callK {m : MF} {gP : List PV → List PV → List PV} {n k : Nat} (h : Go (f s O) fun ps O1 => Go (g s O1) fun zs O2 => (ps.length = n ∧ zs.length = k) ∧ GM m (gP ps zs) O2 QP) : Go (eCallK m n k gP f g s O) QP := go_bind (h.mono fun _ _ h => go_bind (h.mono fun _ _ h => by rw [if_pos h.1]; exact h.2))
theorem go_make {C : Str} {m : List PV → Sto → PR (List Str × List PV)} {dps : List PV} (k : Go (f s O) fun ps O1 => GMk C m (ps ++ dps) O1 QP) : Go (eMake C m dps f s O) QP := go_bind k
theorem go_makeK {C : Str} {m : List PV → Sto → PR (List Str × List PV)} {gP : List PV → List PV → List PV} {n k : Nat} (h : Go (f s O) fun ps O1 => Go (g s O1) fun zs O2 => (ps.length = n ∧ zs.length = k) ∧ GMk C m (gP ps zs) O2 QP) : Go (eMakeK C m n k gP f g s O) QP := go_bind (h.mono fun _ _ h => go_bind (h.mono fun _ _ h => by rw [if_pos h.1]; exact h.2))
def GFld (C fl : Str) (p : PV) (O : Sto) (QP : PV → Sto → Prop) : Prop := ∃ ns ps q, insOf O p = some (C, ns, ps) ∧ (ns.zip ps).lookup fl = some q ∧ QP q O
theorem g_fld {C fl : Str} {ns : List Str} (e : insOf O p = some (C, ns, ps)) (e2 : (ns.zip ps).lookup fl = some q) (k : QP q O) : GFld C fl p O QP := ⟨ns, ps, q, e, e2, k⟩
theorem go_fld {C fl : Str} (k : Go (a s O) fun p O1 => GFld C fl p O1 QP) : Go (eFld C fl a s O) QP := go_bind (k.mono fun _ _ ⟨ns, ps, q, e, e2, h⟩ => by simp only [e, e2, if_true]; exact h)
def GMeth (C me : Str) (p : PV) (O : Sto) (A : Prop) : Prop := ∃ ns ps, insOf O p = some (C, ns, ps) ∧ (ns.zip ps).lookup me = none ∧ A
theorem g_meth {C me : Str} {ns : List Str} {A : Prop} (e : insOf O p = some (C, ns, ps)) (e2 : (ns.zip ps).lookup me = none) (k : A) : GMeth C me p O A := ⟨ns, ps, e, e2, k⟩
theorem go_meth {C me : Str} {mf : MF} {dps : List PV} (k : Go (a s O) fun p O1 => GMeth C me p O1 (Go (f s O1) fun ps O2 => GM mf (p :: (ps ++ dps)) O2 QP)) : Go (eMeth C me mf dps a f s O) QP := go_bind (k.mono fun _ _ ⟨ns, ps, e, e2, h⟩ => by simp only [e, e2, Option.isNone_none, and_self, if_true]; exact go_bind h)
theorem go_methK {C me : Str} {mf : MF} {gP : List PV → List PV → List PV} {n k : Nat} (h : Go (a s O) fun p O1 => GMeth C me p O1 (Go (f s O1) fun ps O2 => Go (g s O2) fun zs O3 => (ps.length + 1 = n ∧ zs.length = k) ∧ GM mf (gP (p :: ps) zs) O3 QP)) : Go (eMethK C me mf n k gP a f g s O) QP := go_bind (h.mono fun _ _ ⟨ns, ps, e, e2, h⟩ => by
  simp only [e, e2, Option.isNone_none, and_self, if_true]
  exact go_bind (h.mono fun _ _ h => go_bind (h.mono fun _ _ h => by rw [if_pos h.1]; exact h.2)))
theorem go_ifp {c : Prop} [Decidable c] {r r' : PR PV} (h : c) (k : Go r QP) : Go (if c then r else r') QP := by rw [if_pos h]; exact k
/-! slices -/
theorem go_ono {QO : Option Int → Sto → Prop} (k : QO none O) : Go (oNo s O) QO := k
def GI (p : PV) (Q : Int → Prop) : Prop := ∃ i, p = .int i ∧ Q i
theorem g_i {Q : Int → Prop} (k : Q i) : GI (.int i) Q := ⟨i, rfl, k⟩
theorem go_oso {QO : Option Int → Sto → Prop} (k : Go (a s O) fun p O1 => GI p fun i => QO (some i) O1) : Go (oSo a s O) QO := go_bind (k.mono fun _ _ ⟨i, e, h⟩ => by rw [e]; exact h)
theorem go_sl {h : PV → Option Int → Option Int → Sto → PR PV} {l v : OF} (k : Go (a s O) fun p O1 => Go (l s O1) fun i O2 => Go (v s O2) fun j O3 => Go (h p i j O3) QP) : Go (eSl h a l v s O) QP := go_bind (k.mono fun _ _ h => go_bind (h.mono fun _ _ h => go_bind h))
/-! statements -/
theorem go_seq (k : GoS { K with nx := fun s1 O1 => GoS K (y s1 O1) } (x s O)) : GoS K (sSeq x y s O) := by
  unfold sSeq
  cases e : x s O <;> rw [e] at k <;> exact k
theorem go_skip (k : K.nx s O) : GoS K (sSkip s O) := k
theorem go_ret (k : Go (a s O) K.rt) : GoS K (sRet a s O) := go_toS k
theorem go_retN (k : K.rt .non O) : GoS K (sRetN s O) := k
theorem go_exp (k : Go (a s O) fun _ O1 => K.nx s O1) : GoS K (sExp a s O) := go_toS k
theorem go_ifS (k : Go (t s O) fun c O1 => if c = true then GoS K (x s O1) else GoS K (y s O1)) : GoS K (sIf t x y s O) := go_toS (k.mono fun c _ h => by cases c <;> exact h)
theorem go_asg {G : GF} (k : Go (a s O) fun p O1 => Go (G p s O1) fun s1 O2 => K.nx s1 O2) : GoS K (sAsg a G s O) := go_toS (k.mono fun _ _ h => go_toS h)
theorem go_nm {QS : Slots → Sto → Prop} {s' : Slots} (e : s.set n (some p) = s') (k : QS s' O) : Go (gNm n p s O) QS := by subst e; exact k
def GPar (n m : Nat) (s : Slots) (ps : List PV) (Q : Slots → Prop) : Prop := ∃ p q, ps = [p, q] ∧ Q ((s.set n (some p)).set m (some q))
theorem g_par {Q : Slots → Prop} {s' : Slots} (e : (s.set n (some p)).set m (some q) = s') (k : Q s') : GPar n m s [p, q] Q := ⟨p, q, rfl, by rw [e]; exact k⟩
theorem go_par (k : Go (f s O) fun ps O1 => GPar n m s ps fun s1 => K.nx s1 O1) : GoS K (sPar n m f s O) := go_toS (k.mono fun _ _ ⟨p, q, e, h⟩ => by rw [e]; exact h)
def GPar3 (n m l : Nat) (s : Slots) (ps : List PV) (Q : Slots → Prop) : Prop := ∃ p q r, ps = [p, q, r] ∧ Q (((s.set n (some p)).set m (some q)).set l (some r))
theorem g_par3 {l : Nat} {Q : Slots → Prop} {s' : Slots} (e : ((s.set n (some p)).set m (some q)).set l (some r) = s') (k : Q s') : GPar3 n m l s [p, q, r] Q := ⟨p, q, r, rfl, by rw [e]; exact k⟩
theorem go_par3 {l : Nat} (k : Go (f s O) fun ps O1 => GPar3 n m l s ps fun s1 => K.nx s1 O1) : GoS K (sPar3 n m l f s O) := go_toS (k.mono fun _ _ ⟨p, q, r, e, h⟩ => by rw [e]; exact h)
def GSet (s : Slots) (n : Nat) (r : PV) (Q : Slots → Prop) : Prop := Q (s.set n (some r))
theorem g_set {Q : Slots → Prop} {s' : Slots} (e : s.set n (some p) = s') (k : Q s') : GSet s n p Q := by subst e; exact k
theorem go_aug {op : PV → PV → Sto → PR PV} (e : s[n]? = some (some p)) (k : Go (a s O) fun q O1 => Go (op p q O1) fun r O2 => GSet s n r fun s1 => K.nx s1 O2) : GoS K (sAug n op a s O) := by
  unfold sAug
  rw [e]
  exact go_toS (k.mono fun _ _ h => go_toS h)
/-! targets -/
theorem go_gtup {gs : List PV → Slots → Sto → PR Slots} {QS : Slots → Sto → Prop} (e : tupOf p = some ps) (e2 : ps.length = n) (k : Go (gs ps s O) QS) : Go (gTupP n gs p s O) QS := by
  unfold gTupP
  simp only [e, e2, if_true]
  exact k
theorem go_glst {gs : List PV → Slots → Sto → PR Slots} {QS : Slots → Sto → Prop} (e : lstOf O p = some ps) (e2 : ps.length = n) (k : Go (gs ps s O) QS) : Go (gLstP n gs p s O) QS := by
  unfold gLstP
  simp only [e, e2, if_true]
  exact k
theorem go_gnil {QS : Slots → Sto → Prop} (k : QS s O) : Go (gNilP [] s O) QS := k
theorem go_gcons {G : GF} {gs : List PV → Slots → Sto → PR Slots} {QS : Slots → Sto → Prop} (k : Go (G p s O) fun s1 O1 => Go (gs ps s1 O1) QS) : Go (gConsP G gs (p :: ps) s O) QS := go_bind k
def GSub (v : PV) (s : Slots) (p q : PV) (O : Sto) (QS : Slots → Sto → Prop) : Prop := ∃ n k ps j, p = .loc n ∧ q = .int k ∧ O[n]? = some (some (.lst ps)) ∧ ixN ps.length k = some j ∧ QS s (O.set n (some (.lst (ps.set j v))))
theorem g_sub {v : PV} {QS : Slots → Sto → Prop} {j' : Nat} (e : O[n]? = some (some (.lst ps))) (e2 : ixN ps.length i = some j') (k : QS s (O.set n (some (.lst (ps.set j' v))))) : GSub v s (.loc n) (.int i) O QS := ⟨n, i, ps, j', rfl, rfl, e, e2, k⟩
theorem go_gsub {v : PV} {QS : Slots → Sto → Prop} (k : Go (a s O) fun p O1 => Go (b s O1) fun q O2 => GSub v s p q O2 QS) : Go (gSubL a b v s O) QS :=
  go_bind (k.mono fun _ _ h => go_bind (h.mono fun _ _ ⟨n, k, ps, j, e1, e2, e3, e4, hh⟩ => by subst e1; subst e2; simp only [e3, e4]; exact hh))
/-! defs -/
theorem go_def {N : Nat} {body : SF} {s' : Slots} (e : ps.length = n) (e2 : ps.map some ++ List.replicate (N - n) none = s') (k : GoS { nx := fun _ O1 => QP .non O1, rt := QP, bk := fun _ _ => False, ct := fun _ _ => False } (body s' O)) : Go (mkDef n N body ps O) QP := by
  unfold mkDef
  rw [if_pos e, e2]
  cases q : body s' O <;> rw [q] at k <;> first | exact k | exact k.elim
/-! values -/
theorem go_addI (k : QP (.int (i + j)) O) : Go (addI (.int i) (.int j) O) QP := k
theorem go_subI (k : QP (.int (i - j)) O) : Go (subI (.int i) (.int j) O) QP := k
theorem go_i2 {c : Int → Int → Bool} {g : Int → Int → PV} (e : c i j = true) (k : QP (g i j) O) : Go (i2 c g (.int i) (.int j) O) QP := by
  unfold i2
  simp only [e, if_true]
  exact k
theorem go_mulI (e : mulOk i j = true) (k : QP (.int (i * j)) O) : Go (mulI (.int i) (.int j) O) QP := go_i2 e k
theorem go_fdivI (e : divOk i j = true) (k : QP (.int (i / j)) O) : Go (fdivI (.int i) (.int j) O) QP := go_i2 e k
theorem go_modI (e : 0 < j) (k : QP (.int (i % j)) O) : Go (modI (.int i) (.int j) O) QP := go_i2 (decide_eq_true e) k
theorem go_powI (e : powOk i j = true) (k : QP (.int (i ^ j.toNat)) O) : Go (powI (.int i) (.int j) O) QP := go_i2 e k
theorem go_ltI (k : QP (.bl (decide (i < j))) O) : Go (ltI (.int i) (.int j) O) QP := k
theorem go_leI (k : QP (.bl (decide (i ≤ j))) O) : Go (leI (.int i) (.int j) O) QP := k
theorem go_gtI (k : QP (.bl (decide (j < i))) O) : Go (gtI (.int i) (.int j) O) QP := k
theorem go_geI (k : QP (.bl (decide (j ≤ i))) O) : Go (geI (.int i) (.int j) O) QP := k
theorem go_negI (k : QP (.int (-i)) O) : Go (negI (.int i) O) QP := k
theorem go_eqI (k : QP (.bl (decide (i = j))) O) : Go (eqS (.int i) (.int j) O) QP := by
  have e : decide (V.int i = V.int j) = decide (i = j) := Gx.dec_int
  show QP (.bl (decide (V.int i = V.int j))) O
  rw [e]; exact k
theorem go_neI (k : QP (.bl (!decide (i = j))) O) : Go (neS (.int i) (.int j) O) QP := by
  have e : decide (V.int i = V.int j) = decide (i = j) := Gx.dec_int
  show QP (.bl (!decide (V.int i = V.int j))) O
  rw [e]; exact k
theorem go_eqB {b c : Bool} (k : QP (.bl (decide (b = c))) O) : Go (eqS (.bl b) (.bl c) O) QP := by
  show QP (.bl (decide (V.bl b = V.bl c))) O
  rw [Gx.dec_bl]; exact k
theorem go_neB {b c : Bool} (k : QP (.bl (!decide (b = c))) O) : Go (neS (.bl b) (.bl c) O) QP := by
  show QP (.bl (!decide (V.bl b = V.bl c))) O
  rw [Gx.dec_bl]; exact k
theorem go_eqZ {b c : Str} (k : QP (.bl (decide (b = c))) O) : Go (eqS (.str b) (.str c) O) QP := by
  show QP (.bl (decide (V.str b = V.str c))) O
  rw [Gx.dec_str]; exact k
theorem go_neZ {b c : Str} (k : QP (.bl (!decide (b = c))) O) : Go (neS (.str b) (.str c) O) QP := by
  show QP (.bl (!decide (V.str b = V.str c))) O
  rw [Gx.dec_str]; exact k
theorem go_isN (k : QP (.bl (isNon p)) O) : Go (isN p .non O) QP := k
theorem go_notN (k : QP (.bl (!isNon p)) O) : Go (notN p .non O) QP := k
theorem go_ixL (e : lstOf O p = some ps) (e2 : atI ps i = some r) (k : QP r O) : Go (ixL p (.int i) O) QP := by
  unfold ixL
  simp only [e, e2]
  exact k
theorem go_ixT (e2 : atI ps i = some r) (k : QP r O) : Go (ixT (.tup ps) (.int i) O) QP := by
  unfold ixT tupOf
  simp only [e2]
  exact k
theorem atI_inP {xs : List PV} {r : Int} (h0 : 0 ≤ r) (h1 : r < (xs.length : Int)) : ∃ v, atI xs r = some v ∧ v ∈ xs := by
  have hl : r.toNat < xs.length := by omega
  refine ⟨xs[r.toNat], ?_, List.getElem_mem hl⟩
  have e : atI xs ((r.toNat : Nat) : Int) = some xs[r.toNat] := atI_nat (List.getElem?_eq_getElem hl)
  have er : ((r.toNat : Nat) : Int) = r := by omega
  rw [er] at e
  exact e
theorem go_ixR (e : lstOf O p = some ps) (h0 : 0 ≤ i) (h1 : i < ps.length) (k : ∀ r, r ∈ ps → QP r O) : Go (ixL p (.int i) O) QP := by
  obtain ⟨v, h2, h3⟩ := atI_inP h0 h1
  exact go_ixL e h2 (k v h3)
theorem go_slL {l v : Option Int} (e : lstOf O p = some ps) (k : QP (.lst (cutP ps l v)) O) : Go (slL p l v O) QP := by
  unfold slL
  simp only [e]
  exact k
theorem go_slT {l v : Option Int} (e : (HT.sIx ps.length 0 l == 0 && HT.sIx ps.length ps.length v == ps.length) = false) (e2 : cutP ps l v = qs) (k : QP (.tup qs) O) : Go (slT (.tup ps) l v O) QP := by
  unfold slT tupOf
  simp only [e, e2]
  exact k
theorem go_catT {rs : List PV} (e : (!ps.isEmpty && !qs.isEmpty && szOk (ps.length + qs.length)) = true) (e2 : ps ++ qs = rs) (k : QP (.tup rs) O) : Go (catT (.tup ps) (.tup qs) O) QP := by
  subst e2
  unfold catT tupOf
  simp only [e, if_true]
  exact k
theorem go_catL (e1 : lstT O p = some ps) (e2 : lstT O q = some qs) (e : szOk (ps.length + qs.length) = true) (k : QP (.lst (ps ++ qs)) O) : Go (catL p q O) QP := by
  unfold catL
  simp only [e1, e2, e, if_true]
  exact k
theorem go_oeq {C : Str} {mf : MF} (e1 : insIs O C p = true) (e2 : insIs O C q = true) (k : Go (mf [p, q] O) fun r O1 => GB r fun b => QP (.bl b) O1) : Go (oeqP C mf p q O) QP := by
  unfold oeqP
  rw [if_pos (by rw [e1, e2]; rfl)]
  unfold boolR
  cases h : mf [p, q] O with
  | ok v O' => rw [h] at k; obtain ⟨b, e, h'⟩ := k; subst e; exact h'
  | _ => rw [h] at k; exact k.elim
theorem go_one {C : Str} {mf : MF} (e1 : insIs O C p = true) (e2 : insIs O C q = true) (k : Go (mf [p, q] O) fun r O1 => GB r fun b => QP (.bl (!b)) O1) : Go (oneP C mf p q O) QP := by
  unfold oneP
  rw [if_pos (by rw [e1, e2]; rfl)]
  unfold boolR
  cases h : mf [p, q] O with
  | ok v O' => rw [h] at k; obtain ⟨b, e, h'⟩ := k; subst e; exact h'
  | _ => rw [h] at k; exact k.elim
theorem go_olen {C : Str} {mf : MF} (e1 : insIs O C p = true) (k : Go (mf [p] O) fun r O1 => ∃ n, r = .int n ∧ (0 ≤ n ∧ n < 2 ^ 63) ∧ QP (.int n) O1) : Go (olenP C mf [p] O) QP := by
  unfold olenP
  simp only [e1, if_true]
  cases h : mf [p] O with
  | ok v O' =>
    rw [h] at k
    obtain ⟨n, e, ⟨h1, h2⟩, h'⟩ := k
    subst e
    show Go (if (decide (0 ≤ n) && decide (n < 2 ^ 63)) = true then PR.ok (PV.int n) O' else .bad) QP
    rw [if_pos (by rw [decide_eq_true h1, decide_eq_true h2]; rfl)]
    exact h'
  | _ => rw [h] at k; exact k.elim
theorem go_isi {cs : List Str} {c : PV} {t : Sum String Str} {b : Bool} (e : tyOf O p = some t) (e2 : kitP cs t c = some b) (k : QP (.bl b) O) : Go (isiP cs [p, c] O) QP := by
  unfold isiP b2
  simp only [e, e2]
  exact k
theorem kit_same {cs : List Str} {C : Str} (h : cs.contains C = true) : kitP cs (.inr C) (.cls C) = some true := by
  unfold kitP
  simp only [h, Bool.and_self, if_true, decide_true]
theorem kit_ii {cs : List Str} : kitP cs (.inl "int") (.ty "int") = some true := kB1
theorem kit_ib {cs : List Str} : kitP cs (.inl "int") (.ty "bool") = some false := kB2
theorem kit_bb {cs : List Str} : kitP cs (.inl "bool") (.ty "bool") = some true := kB3
theorem kit_bi {cs : List Str} : kitP cs (.inl "bool") (.ty "int") = some true := kB4
theorem kit_ss {cs : List Str} : kitP cs (.inl "str") (.ty "str") = some true := kB5
theorem kit_tt {cs : List Str} : kitP cs (.inl "tuple") (.ty "tuple") = some true := kB6
theorem kit_nb {cs : List Str} : kitP cs (.inl "NoneType") (.ty "bool") = some false := kB7
theorem kit_ni {cs : List Str} : kitP cs (.inl "NoneType") (.ty "int") = some false := kB8
theorem kit_nt {cs : List Str} : kitP cs (.inl "NoneType") (.ty "tuple") = some false := kB9
theorem kit_si {cs : List Str} : kitP cs (.inl "str") (.ty "int") = some false := kB10
theorem go_len (e : seqOf O p = some ps) (k : QP (.int ps.length) O) : Go (bLen [p] O) QP := by
  unfold bLen b1
  simp only [e]
  exact k
theorem go_lenR (h0 : i ≤ j) (h1 : j - i < 2 ^ 63) (k : QP (.int (j - i)) O) : Go (bLenR [.rng i j] O) QP := by
  unfold bLenR b1
  simp only
  rw [if_pos (by rw [decide_eq_true h0, decide_eq_true h1]; rfl)]
  exact k
theorem go_rng (k : QP (.rng i j) O) : Go (bRng [.int i, .int j] O) QP := k
theorem go_max2 (k : QP (.int (max i j)) O) : Go (bMax2 [.int i, .int j] O) QP := k
theorem go_min2 (k : QP (.int (min i j)) O) : Go (bMin2 [.int i, .int j] O) QP := k
theorem go_abs (k : QP (.int (if i < 0 then -i else i)) O) : Go (bAbs [.int i] O) QP := k
theorem go_intI (k : QP (.int i) O) : Go (bInt [.int i] O) QP := k
theorem go_intB {b : Bool} (k : QP (.int (if b then 1 else 0)) O) : Go (bInt [.bl b] O) QP := k
theorem go_divmod (e : divOk i j = true) (k : QP (.tup [.int (i / j), .int (i % j)]) O) : Go (bDivmod [.int i, .int j] O) QP := by
  unfold bDivmod b2
  simp only [e, if_true]
  exact k
theorem go_is {f : List Int → Option PV} {ns : List Int} (e : (lstOf O p).bind intsOf = some ns) (e2 : f ns = some q) (k : QP q O) : Go (bIs f [p] O) QP := by
  unfold bIs b1
  simp only [e, e2]
  exact k
theorem go_sum {ns : List Int} (e : lstOf O p = some (ns.map .int)) (k : QP (.int ns.sum) O) : Go (bSum [p] O) QP := go_is (by rw [e]; exact intsOf_map ns) rfl k
theorem go_bs {f : List Bool → PV} {ns : List Bool} (e : lstOf O p = some (ns.map .bl)) (k : QP (f ns) O) : Go (bBs f [p] O) QP := by
  unfold bBs b1
  have e : (lstOf O p).bind blsOf = some ns := by rw [e]; exact blsOf_map ns
  simp only [e]
  exact k
theorem go_all {ns : List Bool} (e : lstOf O p = some (ns.map .bl)) (k : QP (.bl (ns.all id)) O) : Go (bAll [p] O) QP := go_bs e k
theorem go_bTupL (e : lstOf O p = some ps) (k : QP (.tup ps) O) : Go (bTup [p] O) QP := by
  unfold bTup b1
  simp only [e]
  exact k
theorem go_bTupT (k : QP (.tup ps) O) : Go (bTup [.tup ps] O) QP := k
theorem go_append (e : O[n]? = some (some (.lst ps))) (h : szLt ps.length = true) (k : QP .non (O.set n (some (.lst (ps ++ [q]))))) : Go (appendP (.loc n) [q] O) QP := by
  unfold appendP locL
  simp only [e, h, if_true]
  exact k
theorem go_bml {h : PV → List PV → Sto → PR PV} (k : Go (a s O) fun p O1 => (lstOf O1 p).isSome = true ∧ Go (f s O1) fun ps O2 => Go (h p ps O2) QP) : Go (eBml h a f s O) QP := go_bind (k.mono fun _ _ ⟨e, h⟩ => by rw [if_pos e]; exact go_bind h)
/-! what is walked -/
theorem go_iT {QI : ItP → Sto → Prop} (k : Go (a s O) fun p O1 => ∃ ps, tupOf p = some ps ∧ QI (ps, none) O1) : Go (iT a s O) QI := go_bind (k.mono fun p O1 ⟨ps, e, h⟩ => by simp only [e]; exact h)
theorem go_iR1 {QI : ItP → Sto → Prop} (k : Go (f s O) fun ps O1 => ∃ j, ps = [.int j] ∧ (-(2 ^ 62) ≤ j ∧ j < 2 ^ 62) ∧ QI (rgL 0 j.toNat, none) O1) : Go (iR1 f s O) QI := go_bind (k.mono fun ps O1 ⟨j, e, c, h⟩ => by
  subst e
  simp only
  rw [if_pos (show rgOk j = true from decide_eq_true c)]
  exact h)
theorem go_iR2 {QI : ItP → Sto → Prop} (k : Go (f s O) fun ps O1 => ∃ i j, ps = [.int i, .int j] ∧ (-(2 ^ 62) ≤ i ∧ i < 2 ^ 62 ∧ -(2 ^ 62) ≤ j ∧ j < 2 ^ 62) ∧ QI (rgL i (j - i).toNat, none) O1) : Go (iR2 f s O) QI := go_bind (k.mono fun ps O1 ⟨i, j, e, c, h⟩ => by
  subst e
  simp only
  rw [if_pos (by rw [show rgOk i = true from decide_eq_true ⟨c.1, c.2.1⟩, show rgOk j = true from decide_eq_true ⟨c.2.2.1, c.2.2.2⟩]; rfl)]
  exact h)
theorem g_r1 {F : Int → Prop} (h : -(2 ^ 62) ≤ j ∧ j < 2 ^ 62) (k : F j) : ∃ j', [PV.int j] = [.int j'] ∧ (-(2 ^ 62) ≤ j' ∧ j' < 2 ^ 62) ∧ F j' := ⟨j, rfl, h, k⟩
theorem g_r2 {F : Int → Int → Prop} (h : -(2 ^ 62) ≤ i ∧ i < 2 ^ 62 ∧ -(2 ^ 62) ≤ j ∧ j < 2 ^ 62) (k : F i j) : ∃ i' j', [PV.int i, PV.int j] = [.int i', .int j'] ∧ (-(2 ^ 62) ≤ i' ∧ i' < 2 ^ 62 ∧ -(2 ^ 62) ≤ j' ∧ j' < 2 ^ 62) ∧ F i' j' := ⟨i, j, rfl, h, k⟩
theorem g_ips {F : List PV → Prop} (e : frL p = some ps) (k : F ps) : ∃ ps', frL p = some ps' ∧ F ps' := ⟨ps, e, k⟩
theorem g_ipt {F : List PV → Prop} (e : tupOf p = some ps) (k : F ps) : ∃ ps', tupOf p = some ps' ∧ F ps' := ⟨ps, e, k⟩
/-! loops -/
theorem go_loop {tgt : GF} {body : SF} (J : Nat → Slots → Sto → Prop) : ∀ (items : List PV) (k : Nat) (s : Slots) (O : Sto), J k s O → (∀ i p s O, items[i]? = some p → J (k + i) s O → Go (tgt p s O) fun s1 O1 => GoS { K with nx := J (k + i + 1), bk := K.nx, ct := J (k + i + 1) } (body s1 O1)) →
    (∀ s O, J (k + items.length) s O → K.nx s O) → GoS K (loopL none tgt body items s O)
  | [], k, s, O, h0, _, hd => hd s O h0
  | p :: items, k, s, O, h0, hs, hd => by
    refine go_toS ((hs 0 p s O rfl h0).mono fun s1 O1 h1 => ?_)
    have again : ∀ s2 O2, J (k + 1) s2 O2 → GoS K (loopL none tgt body items s2 O2) := fun s2 O2 h2 => go_loop J items (k + 1) s2 O2 h2 (fun i p s O e h => by
      have q := hs (i + 1) p s O (by simpa using e) (by rw [show k + (i + 1) = k + 1 + i by omega]; exact h)
      rw [show k + (i + 1) + 1 = k + 1 + i + 1 by omega] at q
      exact q) fun s O h => hd s O (by rw [List.length_cons, show k + (items.length + 1) = k + 1 + items.length by omega]; exact h)
    show GoS K (match body s1 O1 with | .next s2 O2 => loopL none tgt body items s2 O2 | .cnt s2 O2 => loopL none tgt body items s2 O2 | .brk s2 O2 => .next s2 O2 | x => x)
    cases e : body s1 O1 <;> rw [e] at h1 <;> first | exact again _ _ h1 | exact h1
theorem go_for {fI : IF} {tgt : GF} {body : SF} (k : Go (fI s O) fun it O1 => GoS K (loopL it.2 tgt body it.1 s O1)) : GoS K (sFor fI tgt body s O) := go_toS k
/-! comprehensions -/
def GoC (tgt : GF) (t : TF) (e : EF) (s0 : Slots) (p : PV) (O : Sto) (Q : Option PV → Sto → Prop) : Prop :=
  Go (tgt p s0 O) fun s1 O1 => Go (t s1 O1) fun b O2 => if b = true then Go (e s1 O2) fun q O3 => Q (some q) O3 else Q none O2
theorem comp_ok {tgt : GF} {t : TF} {e : EF} {s0 : Slots} (J : List PV → List PV → Sto → Prop) : ∀ (items done acc : List PV) (O : Sto), acc.length + items.length ≤ 100000 → J done acc O → (∀ d p r acc O, done ++ items = d ++ p :: r → J d acc O → GoC tgt t e s0 p O fun q O' => J (d ++ [p]) (acc ++ q.toList) O') →
    ∃ acc' O', compL none tgt t e s0 items acc O = .ok acc' O' ∧ J (done ++ items) acc' O'
  | [], done, acc, O, _, h0, _ => ⟨acc, O, rfl, by rw [List.append_nil]; exact h0⟩
  | p :: items, done, acc, O, hl, h0, hs => by
    have h1 := hs done p items acc O rfl h0
    unfold GoC at h1
    obtain ⟨s1, O1, e1, h2⟩ := h1.ex
    obtain ⟨b, O2, e2, h3⟩ := h2.ex
    rw [List.length_cons] at hl
    have next : ∀ acc2 O3, acc2.length + items.length ≤ 100000 → J (done ++ [p]) acc2 O3 → ∃ acc' O', compL none tgt t e s0 items acc2 O3 = .ok acc' O' ∧ J (done ++ p :: items) acc' O' := fun acc2 O3 hl2 h4 => by
      have q := comp_ok J items (done ++ [p]) acc2 O3 hl2 h4 fun d p' r acc O ed hj => hs d p' r acc O (by rw [← ed]; simp) hj
      rwa [List.append_assoc] at q
    show ∃ acc' O', ((tgt p s0 O).bind fun s1 O1 => (t s1 O1).bind fun b O2 => if b = true then (e s1 O2).bind fun q O3 => if szLt acc.length = true then compL none tgt t e s0 items (acc ++ [q]) O3 else .bad else compL none tgt t e s0 items acc O2) = _ ∧ _
    rw [e1]
    simp only [PR.bind]
    rw [e2]
    cases b with
    | true =>
      simp only [if_true] at h3 ⊢
      obtain ⟨q, O3, e3, h4⟩ := h3.ex
      rw [e3]
      simp only
      rw [if_pos (szl_le (show acc.length ≤ 100000 by omega))]
      exact next _ _ (by rw [List.length_append, List.length_singleton]; omega) h4
    | false =>
      have h3 : J (done ++ [p]) (acc ++ []) O2 := h3
      rw [List.append_nil] at h3
      exact next acc O2 (by omega) h3
theorem go_lc {fI : IF} {tgt : GF} {vs : List Nat} {s0 : Slots} (e0 : wipeP s vs = s0) (k : Go (fI s O) fun it O1 => ∃ ps O2, compL it.2 tgt t b s0 it.1 [] O1 = .ok ps O2 ∧ QP (.lst ps) O2) : Go (eLc fI tgt t b vs s O) QP := by
  subst e0
  unfold eLc lcC
  refine go_bind (go_bind (k.mono fun it O1 ⟨ps, O2, e, h⟩ => ?_))
  rw [e]
  exact h
theorem go_lcO {fI : IF} {tgt : GF} {vs : List Nat} {s0 : Slots} (e0 : wipeP s vs = s0) (k : Go (fI s O) fun it O1 => ∃ ps O2, compL it.2 tgt t b s0 it.1 [] O1 = .ok ps O2 ∧ QP (.loc O2.length) (O2 ++ [some (.lst ps)])) : Go (eLcO fI tgt t b vs s O) QP := by
  subst e0
  unfold eLcO lcC
  refine go_bind (go_bind (k.mono fun it O1 ⟨ps, O2, e, h⟩ => ?_))
  rw [e]
  exact h
theorem goc1 {tgt : GF} {e : EF} {s0 : Slots} {Q : Option PV → Sto → Prop} (k : Go (tgt p s0 O) fun s1 O1 => Go (e s1 O1) fun q O3 => Q (some q) O3) : GoC tgt tYesP e s0 p O Q := k.mono fun s1 O1 h => h
theorem comp_all {tgt : GF} {e : EF} {s0 : Slots} {items : List PV} (I : Sto → Prop) (P : PV → Prop) (hl : items.length ≤ 100000) (hI : I O) (h : ∀ p, p ∈ items → ∀ O', I O' → Go (tgt p s0 O') fun s1 O1 => Go (e s1 O1) fun q O2 => P q ∧ I O2) : ∃ acc O', compL none tgt tYesP e s0 items [] O = .ok acc O' ∧ acc.length = items.length ∧ (∀ q, q ∈ acc → P q) ∧ I O' := by
  obtain ⟨acc, O', e1, ⟨e2, e3⟩, e4⟩ := comp_ok (tgt := tgt) (t := tYesP) (e := e) (s0 := s0) (fun d acc O' => (acc.length = d.length ∧ ∀ q, q ∈ acc → P q) ∧ I O') items [] [] O (by simpa using hl) ⟨⟨rfl, fun _ h => (nomatch h)⟩, hI⟩ fun d p r acc O1 ed ⟨⟨h1, h2⟩, h3⟩ => by
    have hm : p ∈ items := by rw [show items = d ++ p :: r from ed]; simp
    refine goc1 ((h p hm O1 h3).mono fun s1 O2 k => ?_)
    refine k.mono fun q O3 z => ⟨⟨by simp [h1], fun q' hq => ?_⟩, z.2⟩
    rcases List.mem_append.mp hq with hq | hq
    · exact h2 q' hq
    · rw [show q' = q by simpa using hq]; exact z.1
  exact ⟨acc, O', e1, by simpa using e2, e3, e4⟩
theorem comp_nil {tgt : GF} {t : TF} {e : EF} {s0 : Slots} {acc : List PV} {F : List PV → Sto → Prop} (k : F acc O) : ∃ ps O2, compL none tgt t e s0 [] acc O = .ok ps O2 ∧ F ps O2 := ⟨acc, O, rfl, k⟩
theorem comp_one {tgt : GF} {t : TF} {e : EF} {s0 : Slots} {items acc : List PV} {F : List PV → Sto → Prop} (hl : acc.length.ble 100000 = true) (k : GoC tgt t e s0 p O fun q O' => ∃ ps O2, compL none tgt t e s0 items (acc ++ q.toList) O' = .ok ps O2 ∧ F ps O2) : ∃ ps O2, compL none tgt t e s0 (p :: items) acc O = .ok ps O2 ∧ F ps O2 := by
  unfold GoC at k
  obtain ⟨s1, O1, e1, h2⟩ := k.ex
  obtain ⟨b, O2, e2, h3⟩ := h2.ex
  show ∃ ps O2, ((tgt p s0 O).bind fun s1 O1 => (t s1 O1).bind fun b O2 => if b = true then (e s1 O2).bind fun q O3 => if szLt acc.length = true then compL none tgt t e s0 items (acc ++ [q]) O3 else .bad else compL none tgt t e s0 items acc O2) = _ ∧ _
  rw [e1]
  simp only [PR.bind]
  rw [e2]
  cases b with
  | true =>
    simp only [if_true] at h3 ⊢
    obtain ⟨q, O3, e3, h4⟩ := h3.ex
    rw [e3]
    simp only
    rw [if_pos (szl_le (Nat.le_of_ble_eq_true hl))]
    exact h4
  | false =>
    have h3 : ∃ ps O2', compL none tgt t e s0 items (acc ++ []) O2 = .ok ps O2' ∧ F ps O2' := h3
    rw [List.append_nil] at h3
    exact h3
def GAcc (acc : List PV) (F : List PV → Prop) : Prop := F acc
theorem g_acc {acc acc' : List PV} {F : List PV → Prop} (e : acc = acc') (k : F acc') : GAcc acc F := by subst e; exact k
theorem comp_one1 {tgt : GF} {e : EF} {s0 : Slots} {items acc : List PV} {F : List PV → Sto → Prop} (hl : acc.length.ble 100000 = true) (k : Go (tgt p s0 O) fun s1 O1 => Go (e s1 O1) fun q O' => GAcc (acc ++ [q]) fun acc' => ∃ ps O2, compL none tgt tYesP e s0 items acc' O' = .ok ps O2 ∧ F ps O2) : ∃ ps O2, compL none tgt tYesP e s0 (p :: items) acc O = .ok ps O2 ∧ F ps O2 := comp_one hl (goc1 k)
theorem go_yes (k : QB true O) : Go (tYesP s O) QB := k

end
/-! branches -/
section
variable {A B : Prop} {c : Prop} {inst : Decidable c}
theorem qbr (h1 : c → A) (h2 : ¬ c → B) : if decide c = true then A else B := Gx.br h1 h2
theorem bt (h : c) (k : A) : if decide c = true then A else B := by rw [if_pos (decide_eq_true h)]; exact k
theorem bf (h : ¬ c) (k : B) : if decide c = true then A else B := by rw [if_neg (by rw [decide_eq_false h]; exact Bool.false_ne_true)]; exact k
theorem bnt (h : ¬ c) (k : A) : if (!decide c) = true then A else B := by rw [if_pos (by rw [decide_eq_false h]; rfl)]; exact k
theorem bnf (h : c) (k : B) : if (!decide c) = true then A else B := by rw [if_neg (by rw [decide_eq_true h]; exact Bool.false_ne_true)]; exact k
end
/-! instances, purses -/
def Pu (O : Sto) (n : Nat) : Prop := ∃ a b c : Int, O[n]? = some (some (.lst [.int a, .int b, .int c])) ∧ 0 ≤ a ∧ a < 2147483399 ∧ 0 ≤ b
theorem get_set {O : Sto} {n : Nat} {x y : Option PV} (h : O[n]? = some x) : (O.set n y)[n]? = some y := by
  have := (List.getElem?_eq_some_iff.mp h).1
  rw [List.getElem?_set_self this]
theorem get_app {O : Sto} {x : Option PV} : (O ++ [x])[O.length]? = some x := by
  rw [List.getElem?_append_right (Nat.le_refl _)]
  simp
theorem lst_loc {O : Sto} {n : Nat} {ps : List PV} (h : O[n]? = some (some (.lst ps))) : lstOf O (.loc n) = some ps := by simp [lstOf, h]
theorem toDL_ints : ∀ ns : List Int, toDL (ns.map .int) = some (ns.map .int)
  | [] => by simp [toDL]
  | n :: ns => by simp only [List.map_cons, toDL, toD0, toDL_ints ns]
theorem canLay_ints : ∀ ns : List Int, PyData.canLayAll0 (ns.map PyData.int) = true
  | [] => rfl
  | n :: ns => by
    show (PyData.canLay0 (.int n) && PyData.canLayAll0 (ns.map PyData.int)) = true
    rw [canLay_ints ns]
    rfl
theorem depthAll_ints : ∀ ns : List Int, PyData.depthAll (ns.map PyData.int) ≤ 1
  | [] => by simp [PyData.depthAll]
  | n :: ns => by
    have h := depthAll_ints ns
    simp only [List.map_cons, PyData.depthAll, PyData.depth]
    omega
theorem depth_ints (ns : List Int) : (PyData.tuple (ns.map PyData.int)).depth ≤ 64 ∧ (PyData.list (ns.map PyData.int)).depth ≤ 64 := by
  have h := depthAll_ints ns
  simp only [PyData.depth]
  omega
theorem shaped_ints {ns : List Int} : SeqAt.shaped (.tuple (ns.map PyData.int)) = true := by
  unfold SeqAt.shaped
  rw [decide_eq_true (depth_ints ns).1, Bool.and_true]
  show PyData.canLayAll0 _ = true
  exact canLay_ints ns
theorem scVs_ints : ∀ ns : List Int, scVs (ns.map PV.int) = some (ns.map V.int)
  | [] => rfl
  | n :: ns => by simp only [List.map_cons, scVs, scV, scVs_ints ns]
def unP : PV → Int
  | .int i => i
  | _ => 0
theorem go_ixI {O : Sto} {p : PV} {ps : List PV} {i : Int} {QP : PV → Sto → Prop} (e : lstOf O p = some ps) (ei : ps = (ps.map unP).map .int) (h0 : 0 ≤ i) (h1 : i < ps.length) (k : ∀ z : Int, z ∈ ps.map unP → QP (.int z) O) : Go (ixL p (.int i) O) QP := go_ixR e h0 h1 fun r hr => by
  rw [ei] at hr
  obtain ⟨z, hz, rfl⟩ := List.mem_map.mp hr
  exact k z hz
theorem go_anyC {O : Sto} {p : PV} {ns : List Bool} {b : Bool} {QP : PV → Sto → Prop} (e : (lstOf O p).bind blsOf = some ns) (e2 : ns.any id = b) (k : QP (.bl b) O) : Go (bAny [p] O) QP := by
  unfold bAny bBs b1
  simp only [e]
  subst e2
  exact k
theorem go_allC {O : Sto} {p : PV} {ns : List Bool} {b : Bool} {QP : PV → Sto → Prop} (e : (lstOf O p).bind blsOf = some ns) (e2 : ns.all id = b) (k : QP (.bl b) O) : Go (bAll [p] O) QP := by
  unfold bAll bBs b1
  simp only [e]
  subst e2
  exact k
theorem eqv_ints (ns ms : List Int) (O : Sto) : eqD (.tup (ns.map .int)) (.tup (ms.map .int)) O = .ok (.bl (decide (ns = ms))) O := by
  unfold eqD toD
  simp only [toD0, toDL_ints, Option.map_some]
  rw [if_pos (by rw [shaped_ints, shaped_ints]; rfl)]
  congr 2
  exact eqvAll_ints ns ms
theorem go_eqTI {O : Sto} {ps qs : List PV} {QP : PV → Sto → Prop} {ns ms : List Int} (e1 : ps = (ps.map unP).map .int) (e2 : qs = (qs.map unP).map .int) (e3 : ps.map unP = ns) (e4 : qs.map unP = ms) (k : QP (.bl (decide (ns = ms))) O) : Go (eqD (.tup ps) (.tup qs) O) QP := by
  subst e3
  subst e4
  have e := eqv_ints (ps.map unP) (qs.map unP) O
  rw [← e1, ← e2] at e
  exact go_at e k
theorem go_inI {O : Sto} {neg : Bool} {i : Int} {q : PV} {ns : List Int} {QP : PV → Sto → Prop} (e : seqOf O q = some (ns.map .int)) (k : QP (.bl (if neg then !decide (i ∈ ns) else decide (i ∈ ns))) O) : Go (inS neg (.int i) q O) QP := by
  have e1 : (seqOf O q).bind scVs = some (ns.map V.int) := by
    rw [e]
    exact scVs_ints ns
  unfold inS
  simp only [scV, e1]
  have e2 : (flatV (V.int i) && (ns.map V.int).all flatV) = true := by simp [flatV]
  rw [if_pos e2]
  have e3 : inV (V.int i) (ns.map V.int) = decide (i ∈ ns) := by
    unfold inV
    rw [Bool.eq_iff_iff]
    simp only [List.any_map, List.any_eq_true, decide_eq_true_eq, Function.comp]
    constructor
    · rintro ⟨n, h1, h2⟩
      have : n = i := by simpa [eqV] using h2
      rw [← this]; exact h1
    · intro h
      exact ⟨i, h, by simp [eqV]⟩
  rw [e3]
  exact k
theorem g_n {i : Int} {F : Int → Prop} (h : 0 ≤ i ∧ i < 2 ^ 63) (k : F i) : ∃ n, PV.int i = .int n ∧ (0 ≤ n ∧ n < 2 ^ 63) ∧ F n := ⟨i, rfl, h, k⟩
theorem some_loc {O : Sto} {n : Nat} {ps : List PV} (h : O[n]? = some (some (.lst ps))) : (lstOf O (.loc n)).isSome = true := by rw [lst_loc h]; rfl
def memD (i : Int) : List Int → Prop
  | [] => False
  | [n] => i = n
  | n :: m :: r => i = n ∨ memD i (m :: r)
theorem memD_iff {i : Int} : ∀ {ns : List Int}, memD i ns ↔ i ∈ ns
  | [] => by simp [memD]
  | [n] => by simp [memD]
  | n :: m :: r => by
    have h := memD_iff (i := i) (ns := m :: r)
    unfold memD
    rw [h]
    simp
instance {i : Int} {ns : List Int} : Decidable (memD i ns) := decidable_of_iff (i ∈ ns) memD_iff.symm
theorem go_in0 {O : Sto} {i : Int} {q : PV} {ps : List PV} {ns : List Int} {P : Prop} {QP : PV → Sto → Prop} (e : seqOf O q = some ps) (ei : ps = (ps.map unP).map .int) (e3 : ps.map unP = ns) (hP : memD i ns = P) (k : QP (.bl (@decide P (Classical.propDecidable P))) O) : Go (inS false (.int i) q O) QP := by
  subst hP
  subst e3
  refine go_inI (ns := ps.map unP) (by rw [← ei]; exact e) ?_
  have : @decide (memD i (ps.map unP)) (Classical.propDecidable _) = decide (i ∈ ps.map unP) := decide_eq_decide.mpr memD_iff
  rw [this] at k
  exact k
theorem go_in1 {O : Sto} {i : Int} {q : PV} {ps : List PV} {ns : List Int} {P : Prop} {QP : PV → Sto → Prop} (e : seqOf O q = some ps) (ei : ps = (ps.map unP).map .int) (e3 : ps.map unP = ns) (hP : memD i ns = P) (k : QP (.bl (!@decide P (Classical.propDecidable P))) O) : Go (inS true (.int i) q O) QP := by
  subst hP
  subst e3
  refine go_inI (ns := ps.map unP) (by rw [← ei]; exact e) ?_
  have : @decide (memD i (ps.map unP)) (Classical.propDecidable _) = decide (i ∈ ps.map unP) := decide_eq_decide.mpr memD_iff
  rw [this] at k
  exact k
/-! builders -/
def GoB (N : List Str → List PV → Slots → Sto → Prop) (r : BR) : Prop := match r with
  | .next ns ps s O => N ns ps s O
  | _ => False
section
variable {N : List Str → List PV → Slots → Sto → Prop} {x y : BF} {ns : List Str} {ps : List PV} {s : Slots} {O : Sto} {a : EF} {Q : PV → Sto → Prop}
theorem go_init {C : Str} {n M : Nat} {body : BF} {s' : Slots} (e : ps.length = n) (e2 : none :: ps.map some ++ List.replicate (M - (n + 1)) none = s') (k : GoB (fun ns qs _ O1 => Q (.ins C ns qs) O1) (body [] [] s' O)) : Go (mkIns C (mkInit n M body ps O)) Q := by
  unfold mkInit
  rw [if_pos e, e2]
  cases q : body [] [] s' O <;> rw [q] at k <;> first | exact k | exact k.elim
theorem go_bseq (k : GoB (fun ns ps s O => GoB N (y ns ps s O)) (x ns ps s O)) : GoB N (bSeq x y ns ps s O) := by
  unfold bSeq
  cases e : x ns ps s O <;> rw [e] at k <;> exact k
theorem go_bexp (k : Go (a s O) fun _ O1 => N ns ps s O1) : GoB N (bExp a ns ps s O) := by
  unfold bExp
  cases e : a s O <;> rw [e] at k <;> exact k
theorem go_bfld {f : Str} (k : Go (a s O) fun p O1 => ¬ (f ∈ ns ∨ 900 < ns.length) ∧ N (ns ++ [f]) (ps ++ [p]) s O1) : GoB N (bFld f a ns ps s O) := by
  unfold bFld
  cases e : a s O with
  | ok p O1 =>
    rw [e] at k
    obtain ⟨k1, k2⟩ := k
    simp only
    rw [if_neg k1]
    exact k2
  | _ => rw [e] at k; exact k.elim
theorem g_bf {A : Prop} {f : Str} (h : ¬ (f ∈ ns ∨ 900 < ns.length)) (k : A) : ¬ (f ∈ ns ∨ 900 < ns.length) ∧ A := ⟨h, k⟩
end
structure Ph (O0 : Sto) (p : Nat) (O : Sto) : Prop where
  pu : Pu O p
  len : O.length = O0.length
  oth : ∀ m : Nat, m ≠ p → O[m]? = O0[m]?
theorem Ph.start {O : Sto} {p : Nat} (h : Pu O p) : Ph O p O := ⟨h, rfl, fun _ _ => rfl⟩
structure Phx (O0 : Sto) (p : Nat) (ps : List PV) (O : Sto) : Prop where
  at_ : O[p]? = some (some (.lst ps))
  len : O.length = O0.length
  oth : ∀ m : Nat, m ≠ p → O[m]? = O0[m]?
theorem Ph.open {O0 O : Sto} {p : Nat} (h : Ph O0 p O) : ∃ a b c : Int, Phx O0 p [.int a, .int b, .int c] O ∧ 0 ≤ a ∧ a < 2147483399 ∧ 0 ≤ b := by
  obtain ⟨⟨a, b, c, e, h1⟩, h2, h3⟩ := h
  exact ⟨a, b, c, ⟨e, h2, h3⟩, h1⟩
theorem Phx.close {O0 O : Sto} {p : Nat} {a b c : Int} (h : Phx O0 p [.int a, .int b, .int c] O) (h1 : 0 ≤ a) (h2 : a < 2147483399) (h3 : 0 ≤ b) : Ph O0 p O := ⟨⟨a, b, c, h.at_, h1, h2, h3⟩, h.len, h.oth⟩
theorem g_subX {O0 O : Sto} {n j' : Nat} {i : Int} {ps : List PV} {v : PV} {s : Slots} {QS : Slots → Sto → Prop} (h : Phx O0 n ps O) (e2 : ixN ps.length i = some j') (k : ∀ O', Phx O0 n (ps.set j' v) O' → QS s O') : GSub v s (.loc n) (.int i) O QS :=
  g_sub h.at_ e2 (k _ ⟨get_set h.at_, by rw [List.length_set]; exact h.len, fun m hm => by rw [List.getElem?_set_ne (Ne.symm hm)]; exact h.oth m hm⟩)
theorem go_ixX {O0 O : Sto} {n : Nat} {i : Int} {ps : List PV} {r : PV} {QP : PV → Sto → Prop} (h : Phx O0 n ps O) (e2 : atI ps i = some r) (k : QP r O) : Go (ixL (.loc n) (.int i) O) QP := go_ixL (lst_loc h.at_) e2 k
theorem Phx.new {O : Sto} {ps : List PV} : Phx (O ++ [some (.lst ps)]) O.length ps (O ++ [some (.lst ps)]) := ⟨get_app, rfl, fun _ _ => rfl⟩
theorem trues {ps : List PV} (h : ∀ q, q ∈ ps → q = .bl true) : ps = (List.replicate ps.length true).map .bl := by
  induction ps with
  | nil => rfl
  | cons p ps ih =>
    rw [List.length_cons, List.replicate_succ, List.map_cons, ← ih fun q hq => h q (List.mem_cons_of_mem _ hq), h p List.mem_cons_self]
end Qx

/-! Own layer Yd: lambdas that capture nothing; the table of code objects is a thing that changes. -/
namespace Qx
open PySem PySem.Spec PyProof.Rows L2 Gx
/-! ### the making -/
abbrev tA (K : PySem.W.Frag) (t : TabI) : Addr := (He.cT K (t.d, t.x)).2
theorem clo_nil {cells : List (Str × Addr)} {names : List (Str × NameKind)} (h : ∀ y ∈ names, y.2 ≠ .free) : cloFrom cells names [] = [] := by
  refine List.eq_nil_iff_forall_not_mem.mpr fun y hy => ?_
  rcases cloFrom_mem hy with z | ⟨z, _⟩
  · cases z
  · exact h _ z rfl
section
variable {X : Cx} {pins : List (Addr × Obj)} {σ : L2.St} {H : Hp} {s : Shared}
end
/-! ### lambda a: a[i], of a tuple -/
/-! ### min(x, key=lambda a: a[1], default=None) -/
section
variable {X : Cx}
end
/-! ### its mirror -/
def isTab (n : Nat) (t : TabI) (O : Sto) : Bool := match O[n]? with
  | some (some (.tbl u)) => decide (u = t)
  | _ => false
theorem isTab_eq {n : Nat} {t : TabI} {O : Sto} (h : isTab n t O = true) : O[n]? = some (some (.tbl t)) := by
  unfold isTab at h
  split at h
  · rename_i u e
    rw [e, of_decide_eq_true h]
  · cases h
theorem isTab_of {n : Nat} {t : TabI} {O : Sto} (h : O[n]? = some (some (.tbl t))) : isTab n t O = true := by
  unfold isTab
  rw [h]
  exact decide_eq_true rfl
theorem upd_comm {H : Hp} {a b : Addr} {o u : HO} (h : a ≠ b) : upd (upd H a o) b u = upd (upd H b u) a o := by
  funext c
  by_cases c1 : c = b
  · rw [c1, upd_same, upd_ne (Ne.symm h), upd_same]
  · by_cases c2 : c = a
    · rw [c2, upd_ne h, upd_same, upd_same]
    · rw [upd_ne c1, upd_ne c2, upd_ne c2, upd_ne c1]
section
variable {K : PySem.W.Frag}
theorem tab_read {R : List (Addr × HO)} {ι : List Addr} {O : Sto} {H : Hp} {n : Nat} {t : TabI} (S : Sim K R ι O H) (e : O[n]? = some (some (.tbl t))) : ∃ ps : Array Value, ι[n]? = some (tA K t) ∧ H (tA K t) = some (.tbl ps) ∧ TriplesOk ps.toList ∧ ∀ (pos : Pos) (cv : Value), codeAmong pos ps.toList = some cv → ∃ c, cv = .ref c ∧ fz R ι O H c = some (LamX.CodeO c t.q) := by
  have hl := (List.getElem?_eq_some_iff.mp e).1
  have hn : ι[n]? = some (ι[n]'(by rw [S.len]; exact hl)) := List.getElem?_eq_getElem _
  obtain ⟨o, h1, h2, ps, h3, h4, h5⟩ := S.obj n _ _ hn e
  rw [h2] at hn h1
  exact ⟨ps, hn, by rw [h1, h3], h4, h5⟩
end
/-! ### a def's code object -/
theorem okC {P : Program} {w : World} {K : PySem.W.Frag} {mg : Str → Option Value} {base : Heap} {x qual : Str} {params : Arguments} {body : List Stmt} {scope : Scope} {dvs : List V} {kws : List (Str × V)} {fd : FuncData} {CX : CXT} {N ps : List Str} {k : Nat} {sp : Sp} {d : He.Defn} (F : FunD K x qual params body scope dvs kws (He.fAd K d) fd) (S : FnScope N ps scope) (len : ∀ vs H Q E, sp vs H Q E → vs.length = ps.length)
    (hbody : ∀ (cdv : Value), cdv = .ref (He.cT K d).1 → ∀ (A : Around) (outer : List Env) (s : Shared) (H : Hp) (vs : List V) (Q : VK) (E : XK), Room k (A.deeper (envOfC qual scope s.heap.objs.size (He.fAd K d) cdv)) → sp vs H Q E →
      ∃ t, PSs (cxOf CX P w K mg base N qual scope (He.fAd K d) cdv A outer s H E) body t ∧ t { nx := fun _ H' => Q .non H', rt := Q } (L2.start N vs) H) : FnOk P w K mg base CX (k + 1) (He.fAd K d) fd ps sp := by
  obtain ⟨oc, od, dV, kV, doc, pm, an, cdv, ct, osl, rfl, lk, hcd, _, _⟩ := F.ex
  obtain ⟨c, rfl⟩ := He.codeIn_ref hcd
  have e : He.codeOf K d = c := He.codeOf_eq lk rfl
  exact fn_of lk hcd S len fun A outer s H vs Q E hr hsp => hbody (.ref c) (by rw [← e] <;> rfl) A outer s H vs Q E hr hsp
class TbC (K : PySem.W.Frag) (mg : Str → Option Value) (base : Heap) (ds : List TabI) : Prop where
  tb : ∀ t ∈ ds, LamX.TabB base mg (He.cT K (t.d, t.x)).1 (He.cT K (t.d, t.x)).2
/-! ### t[i:j], the whole tuple too -/
def slTA (p : PV) (i j : Option Int) (O : Sto) : PR PV := match tupOf p with
  | some ps => .ok (.tup (cutP ps i j)) O
  | none => .bad
/-! ### the law's own promise where a table stands -/
theorem law_spC {K : PySem.W.Frag} {m : MF} {ns : List Int} {H : Hp} {a : Addr} {t : TabI} {Q : VK} {E : XK} (hm : Go (m [.rol (ns.map .int)] [some (.tbl t)]) fun q _ => q = .bl true) (hP : H (tA K t) = some (.tbl #[])) (hS : SqL K H a (ns.map V.int)) (hQ : ∀ H', Q (.bl true) H') : spM K false m [.ref a] H Q E := by
  have el : lv [tA K t] [some (.tbl t)] = [tA K t] := rfl
  have e : ∀ b, b ≠ tA K t → fz [] [tA K t] [some (.tbl t)] H b = H b := fun b hb => by
    show ers ([] ++ lv [tA K t] [some (.tbl t)]) H b = H b
    rw [el]
    exact ers_out fun z => hb (List.mem_singleton.mp z)
  have hS' : SqL K (fz [] [tA K t] [some (.tbl t)] H) a (ns.map V.int) := by
    rcases hS with h | h
    · refine .inl ?_
      have ne : a ≠ tA K t := fun z => by
        rcases h with h | ⟨o, h⟩ <;> rw [z, hP] at h <;> cases h
      rcases h with h | ⟨o, h⟩
      · exact .inl (by rw [e a ne]; exact h)
      · exact .inr ⟨o, by rw [e a ne]; exact h⟩
    · exact .inr h
  obtain ⟨q, O', e1, rfl⟩ := hm.ex
  refine ⟨[], [tA K t], [some (.tbl t)], [.rol (ns.map .int)], ⟨rfl, by rw [el]; simp, fun _ h => (nomatch h), fun b hb => by rw [List.mem_singleton.mp hb, hP]; simp, fun n b p h1 h2 => ?_⟩, ⟨_, [], rfl, ⟨a, ns.map V.int, rfl, hS', RepL.mapV (f := PV.int) (g := V.int) (fun _ => rfl) ns⟩, rfl⟩, ?_⟩
  · cases n with
    | zero =>
      cases h1
      cases h2
      exact ⟨_, hP, rfl, #[], rfl, True.intro, fun pos cv z => by
        have z : codeAmong pos [] = some cv := z
        simp [codeAmong] at z⟩
    | succ n => simp at h1
  · rw [e1]
    intro v ι' H' S X r
    rw [show v = .bl true from r]
    exact hQ H'
end Qx

/-! Own layer Ye: == of two tuples of own instances, where each is alike to its fellow. -/
namespace Gx
open PySem PySem.Spec PyProof.Rows L2
section
variable {X : Cx} {k j : Nat} {ps : List Str} {sp : Sp} {d : He.DefD} {C : Addr}
end
end Gx
namespace Qx
open PySem PySem.Spec PyProof.Rows L2 Gx
section
variable {K : PySem.W.Frag} {C : Str} {mf : MF}
end
section
variable {C : Str} {m : MF} {O : Sto} {QP : PV → Sto → Prop} {ps qs : List PV}
end
end Qx

/-! Own layer Yf: sorted of whole numbers and of texts, and of a dict's keys; a dict's keys in a list; len of a dict; dict displays. -/
namespace Qx
open PySem PySem.Spec PyProof.Rows L2 Gx
section
variable {K : PySem.W.Frag}
end
section
variable {O : Sto} {p : PV} {QP : PV → Sto → Prop} {ns : List Int} {kvs : Kvs}
end
end Qx

/-! Own layer Yg: {k: v, ..}. -/
namespace Qx
open PySem PySem.Spec PyProof.Rows L2 Gx
def prF : List (EF × EF) → Slots → Sto → PR (List (PV × PV))
  | [], _, O => .ok [] O
  | (a, b) :: r, s, O => (a s O).bind fun p O1 => (b s O1).bind fun q O2 => (prF r s O2).bind fun l O3 => .ok ((p, q) :: l) O3
def kvsOf : List (PV × PV) → Option Kvs
  | [] => some []
  | (p, v) :: r => match keyP p, kvsOf r with
    | some k, some l => some ((k, v) :: l)
    | _, _ => none
def dispP (l : List (PV × PV)) : Option PV := match kvsOf l with
  | some kvs => if kvs.length ≤ 15 then some (dicP (mergeP [] kvs)) else none
  | none => none
def eDisp (fs : List (EF × EF)) : EF := fun s O => (noX (prF fs s O)).bind fun l O1 => match dispP l with
  | some p => .ok p O1
  | none => .bad
def RepPs (K : PySem.W.Frag) (ι : List Addr) (G : Hp) : List (PV × PV) → List (V × V) → Prop
  | [], ws => ws = []
  | (p, q) :: r, ws => ∃ x y t, ws = (x, y) :: t ∧ Rep K ι G p x ∧ Rep K ι G q y ∧ RepPs K ι G r t
theorem RepPs.kvs {K : PySem.W.Frag} {ι : List Addr} {G : Hp} : ∀ {l : List (PV × PV)} {ws : List (V × V)} {kvs : Kvs}, RepPs K ι G l ws → kvsOf l = some kvs → ∃ us : List (Key × V), ws = us.map (fun kv => (kV kv.1, kv.2)) ∧ KvR K ι G kvs us
  | [], ws, kvs, h, e => by cases e; rw [show ws = [] from h]; exact ⟨[], rfl, rfl⟩
  | (p, v) :: r, ws, kvs, ⟨x, y, t, h1, h2, h3, h4⟩, e => by
    subst h1
    unfold kvsOf at e
    cases e1 : keyP p with
    | none => simp [e1] at e
    | some k =>
      cases e2 : kvsOf r with
      | none => simp [e1, e2] at e
      | some l =>
        simp only [e1, e2, Option.some.injEq] at e
        subst e
        obtain ⟨us, g1, g2⟩ := h4.kvs e2
        exact ⟨(k, y) :: us, by rw [g1, key_read h2 e1]; rfl, y, us, rfl, h3, g2⟩
inductive SimPs (K : PySem.W.Frag) : List (TE × TE) → List (EF × EF) → Prop
  | nil : SimPs K [] []
  | cons {ta tb : TE} {fa fb : EF} {ts : List (TE × TE)} {fs : List (EF × EF)} (ha : SimE K none ta fa) (hb : SimE K none tb fb) (r : SimPs K ts fs) : SimPs K ((ta, tb) :: ts) ((fa, fb) :: fs)
section
variable {K : PySem.W.Frag} {E : XM} {ts : List (TE × TE)} {fs : List (EF × EF)}
theorem SimPs.run (h : SimPs K ts fs) : ∀ {R : List (Addr × HO)} {ι : List Addr} {O O1 : Sto} {H : Hp} {σ : L2.St} {s : Slots} {l : List (PV × PV)} {Q : List (V × V) → Hp → Prop}, Sim K R ι O H → SlR K ι (fz R ι O H) σ s → prF fs s O = .ok l O1 →
    (∀ ws ι1 H1, Sim K R ι1 O1 H1 → Ext R ι O H ι1 O1 H1 → RepPs K ι1 (fz R ι1 O1 H1) l ws → Q ws H1) → tPairs ts σ H Q := by
  induction h with
  | nil =>
    intro R ι O O1 H σ s l Q S L e k
    cases e
    exact k [] ι H S .refl rfl
  | @cons ta tb fa fb ts fs ha hb _ ih =>
    intro R ι O O1 H σ s l Q S L e k
    unfold prF at e
    obtain ⟨p, Oa, e1, e⟩ := PR.bind_ok e
    obtain ⟨q, Ob, e2, e⟩ := PR.bind_ok e
    obtain ⟨l', Oc, e3, e⟩ := PR.bind_ok e
    cases e
    refine ha R ι O H σ s _ S L ?_
    rw [e1]
    intro x ι1 H1 S1 X1 r1
    refine hb R ι1 Oa H1 σ s _ S1 (L.ext X1) ?_
    rw [e2]
    intro y ι2 H2 S2 X2 r2
    exact ih S2 (L.ext (X1.trans X2)) e3 fun ws ι3 H3 S3 X3 r3 => k _ ι3 H3 S3 (X1.trans (X2.trans X3)) ⟨x, y, ws, rfl, (X2.trans X3).rep r1, X3.rep r2, r3⟩
theorem disp_core (h : SimPs K ts fs) {R : List (Addr × HO)} {ι : List Addr} {O : Sto} {H : Hp} {σ : L2.St} {s : Slots} {Q : VK} {g : PV → Sto → PR PV} (S : Sim K R ι O H) (L : SlR K ι (fz R ι O H) σ s)
    (hq : Post K R (xat E σ) (Rep K) ι O H Q ((noX (prF fs s O)).bind fun l O1 => match dispP l with | some p => g p O1 | none => .bad))
    (k : ∀ p O1 ι1 D kvs us H2, p = dicP kvs → Sim K ((D, .dK us) :: R) ι1 O1 H2 → Pre ι ι1 → Same (fz R ι O H) (fz ((D, .dK us) :: R) ι1 O1 H2) → KvR K ι1 (fz ((D, .dK us) :: R) ι1 O1 H2) kvs us → Post K R (xat E σ) (Rep K) ι O H Q (g p O1) → Q (.ref D) H2) : tDisp ts σ H Q := by
  intro D hD
  obtain ⟨S1, e1⟩ := S.hide_new hD (.dK [])
  cases e : prF fs s O with
  | exc x O1 => rw [e] at hq; exact hq.elim
  | bad => rw [e] at hq; exact hq.elim
  | ok l O1 =>
    rw [e] at hq
    refine h.run S1 (by rw [e1]; exact L) e fun ws ι1 H1 S2 X2 r2 => ?_
    have hq : Post K R (xat E σ) (Rep K) ι O H Q (match dispP l with | some p => g p O1 | none => .bad) := hq
    cases ep : dispP l with
    | none => rw [ep] at hq; exact hq.elim
    | some p =>
      rw [ep] at hq
      unfold dispP at ep
      cases ek : kvsOf l with
      | none => rw [ek] at ep; cases ep
      | some kvs =>
        rw [ek] at ep
        simp only at ep
        split at ep
        · rename_i c
          obtain ⟨us, g1, g2⟩ := r2.kvs ek
          refine ⟨S2.hid (D, .dK []) List.mem_cons_self, us, g1, by rw [g2.len]; exact c, ?_⟩
          obtain ⟨S3, e3⟩ := S2.hid_set (.dK (mergeK [] us))
          refine k p O1 ι1 D (mergeP [] kvs) _ _ (Option.some.inj ep).symm S3 X2.pre ?_ ?_ hq
          · rw [e3, ← e1]
            exact X2.same
          · rw [e3]
            exact KvR.merge g2 (kvs := []) (ws := []) rfl
        · cases ep
theorem sim_disp (h : SimPs K ts fs) : SimE K E (tDisp ts) (eDisp fs) := fun R ι O H σ s Q S L hq => disp_core h (g := fun p O1 => .ok p O1) S L hq fun p O1 ι1 D kvs us H2 ep S3 P M r h' => by
  subst ep
  obtain ⟨S4, M4, e4⟩ := S3.unhide
  exact h'.at S4 ⟨P, same_trans M M4⟩ ((KvR.repO (a := D) (r.mono .refl M4)).rep e4)
end
/-! walk -/
section
variable {s : Slots} {O : Sto} {QP : PV → Sto → Prop}
def GoP (fs : List (EF × EF)) (s : Slots) (O : Sto) (l : List (PV × PV)) (Q : List (PV × PV) → Sto → Prop) : Prop := Go (prF fs s O) fun m O' => Q (l ++ m) O'
theorem goP_nil {l : List (PV × PV)} {Q : List (PV × PV) → Sto → Prop} (k : Q l O) : GoP [] s O l Q := by
  show Q (l ++ []) O
  rw [List.append_nil]
  exact k
theorem goP_cons {a b : EF} {fs : List (EF × EF)} {l : List (PV × PV)} {Q : List (PV × PV) → Sto → Prop} (k : Go (a s O) fun p O1 => Go (b s O1) fun q O2 => GoP fs s O2 (l ++ [(p, q)]) Q) : GoP ((a, b) :: fs) s O l Q := by
  unfold GoP prF
  refine go_bind (k.mono fun p O1 k => go_bind (k.mono fun q O2 k => go_bind (Go.mono k fun m O3 z => ?_)))
  show Q (l ++ (p, q) :: m) O3
  rw [List.append_assoc] at z
  exact z
theorem noX_go {α : Type} {r : PR α} {Q : α → Sto → Prop} (k : Go r Q) : Go (noX r) Q := by cases r <;> exact k
theorem go_disp {fs : List (EF × EF)} (k : GoP fs s O [] fun l O1 => ∃ kvs, dispP l = some (dicP kvs) ∧ QP (dicP kvs) O1) : Go (eDisp fs s O) QP := go_bind ((noX_go k).mono fun l O1 ⟨kvs, e, z⟩ => by
  simp only [List.nil_append] at e
  rw [e]
  exact z)
end
end Qx

/-! Own layer Yh: for k, v in d.items(), d a dict that changes; it is out of the store while the loop runs. -/
namespace Qx
open PySem PySem.Spec PyProof.Rows L2 Gx
/-! ### pure readings -/
/-! ### the loop -/
section
variable {K : PySem.W.Frag} {E : XM} {R : List (Addr × HO)} {ι ι' : List Addr} {O O' : Sto} {H H' : Hp} {n : Nat} {a : Addr} {d : PV} {od : Obj} {ws : List (Key × V)} {D : Ends}
end
end Qx

/-! Own layer Yi: sorted of a list of data of one kind. -/
namespace Gx
open PySem PySem.Spec PyProof.Rows L2
end Gx
namespace Qx
open PySem PySem.Spec PyProof.Rows L2 Gx
def alikeB (ds : List PyData) : Bool := ds.all fun d => ds.all fun d' => PySem.W.alike d d'
def sortB (ds : List PyData) : Bool := (ds.all fun d => match d with | .tuple (_ :: _) => true | _ => false) || ds.all fun d => match d with | .none => false | .tuple _ => false | _ => true
theorem alikeB_ok {ds : List PyData} (h : alikeB ds = true) : PySem.W.AllAlike ds := fun d hd d' hd' => List.all_eq_true.mp (List.all_eq_true.mp h d hd) d' hd'
theorem sortB_ok {ds : List PyData} (h : sortB ds = true) : PySem.W.Sortable ds := by
  rcases Bool.or_eq_true_iff.mp h with h | h
  · refine .inl fun d hd => ?_
    have := List.all_eq_true.mp h d hd
    split at this
    · exact ⟨_, _, rfl⟩
    · cases this
  · refine .inr fun d hd => ?_
    have := List.all_eq_true.mp h d hd
    split at this
    · cases this
    · cases this
    · rename_i h1 h2
      exact ⟨h1, fun xs => h2 xs⟩
section
variable {K : PySem.W.Frag}
end
section
variable {O : Sto} {p : PV} {QP : PV → Sto → Prop} {ps : List PV} {ds : List PyData}
end
end Qx

/-! Own layer Yj: dict(list of pairs), tuple(dict). -/
namespace Qx
open PySem PySem.Spec PyProof.Rows L2 Gx
section
variable {X : Cx} {K : PySem.W.Frag}
end
section
variable {K : PySem.W.Frag} {R : List (Addr × HO)} {ι : List Addr} {O : Sto} {H : Hp}
end
/-! the call of tuple on a dict -/
section
variable {prog : Program} {w : World} {A : Around} {E : Value → Shared → Prop} {s : Shared} {d : Addr} {kvs : List (Key × Value)} {ep : Nat}
end
section
variable {O : Sto} {p : PV} {QP : PV → Sto → Prop} {ps : List PV} {kvs : Kvs}
end
end Qx

/-! Own layer Yk: exact tuples: tuple(d.items()), dict(such a tuple). -/
namespace Gx
open PySem PySem.Spec PyProof.Rows L2
section
variable {prog : Program} {w : World} {A : Around} {E : Value → Shared → Prop} {s : Shared} {r d : Addr} {kvs : List (Key × Value)} {ep : Nat}
end
section
variable {X : Cx} {e : Expr} {te : TE} {p apos cpos pos : Pos}
end
end Gx
namespace Qx
open PySem PySem.Spec PyProof.Rows L2 Gx
section
variable {K : PySem.W.Frag} {R : List (Addr × HO)} {ι : List Addr} {O : Sto} {H H1 : Hp}
theorem Sim.grow (S : Sim K R ι O H) (k : ∀ b o, H b = some o → H1 b = some o) : Sim K R ι O H1 ∧ Ext R ι O H ι O H1 := by
  have sm : Same (fz R ι O H) (fz R ι O H1) := fun x o e => by
    unfold fz ers at *
    split at e
    · cases e
    · rename_i c
      rw [if_neg c]
      exact k x o e
  refine ⟨⟨S.len, S.nd, fun x hx => k _ _ (S.hid x hx), fun a ha z => ?_, fun n a p h1 h2 => ?_⟩, ⟨.refl, sm⟩⟩
  · cases e : H a with
    | none => exact S.thr a ha e
    | some o => rw [k a o e] at z; cases z
  · obtain ⟨o, e1, e2⟩ := S.obj n a p h1 h2
    exact ⟨o, k _ _ e1, e2.mono .refl sm⟩
end
section
variable {s : Slots} {O : Sto} {p : PV} {QP : PV → Sto → Prop} {ps : List PV} {kvs : Kvs} {a : EF}
end
end Qx

/-! Own layer Yl: enumerate of a list or a tuple. -/
namespace Gx
open PySem PySem.Spec PyProof.Rows L2
open PySem.Sem (wp)
end Gx
namespace Qx
open PySem PySem.Spec PyProof.Rows L2 Gx
end Qx

/-! Own layer Ym: dict(dict), list.insert(0, x). -/
namespace Qx
open PySem PySem.Spec PyProof.Rows L2 Gx
section
variable {K : PySem.W.Frag}
end
section
variable {O : Sto} {p : PV} {QP : PV → Sto → Prop} {kvs : Kvs}
end
end Qx

/-! Own layer Yn: tuple(list) as an exact tuple, sorted(dict) with texts as keys. -/
namespace Gx
open PySem PySem.Spec PyProof.Rows L2
end Gx
namespace Qx
open PySem PySem.Spec PyProof.Rows L2 Gx
/-! texts in order -/
section
variable {O : Sto} {p : PV} {QP : PV → Sto → Prop} {kvs : Kvs} {ns : List Str} {ps : List PV}
end
end Qx

/-! Own layer Yo: the sum of a tuple of whole numbers. -/
namespace Gx
open PySem PySem.Spec PyProof.Rows L2
end Gx
namespace Qx
open PySem PySem.Spec PyProof.Rows L2 Gx
end Qx

/-! Own layer Yp: len(set(whole numbers that are none twice)). -/
namespace Qx
open PySem PySem.Spec PyProof.Rows L2 Gx
end Qx

/-! Own layer Yq: enumerate of a list that may change. -/
namespace Qx
open PySem PySem.Spec PyProof.Rows L2 Gx
end Qx

/-! Own layer Yr: an except clause of three classes. -/
namespace Gx
open PySem PySem.Spec PyProof.Rows L2
end Gx
namespace Qx
open PySem PySem.Spec PyProof.Rows L2 Gx
end Qx

/-! Own layer Ys: == of two dicts whose values are (text, own instance), each alike to its fellow; the dicts are locked meanwhile. -/
namespace GQ
open PySem PySem.W
section
variable {prog : Program} {w : World} {K : Type} [DecidableEq K] {knd : KeyKind prog w K}
end
end GQ
namespace Gx
open PySem PySem.Spec PyProof.Rows L2
section
variable {X : Cx} {k j : Nat} {ps : List Str} {sp : Sp} {d : He.DefD} {C : Addr}
end
end Gx

/-! Own layer Yt: the mirror of == of two dicts that change, each value a (text, own instance) alike to its fellow's. -/
namespace Qx
open PySem PySem.Spec PyProof.Rows L2 Gx
section
variable {K : PySem.W.Frag} {C : Str} {mf : MF} {R : List (Addr × HO)} {O : Sto}
def Reps (K : PySem.W.Frag) (ι : List Addr) (G : Hp) : List (PV × PV) → List (V × V) → Prop
  | [], wl => wl = []
  | (p, q) :: r, wl => ∃ v y t, wl = (v, y) :: t ∧ Rep K ι G p v ∧ Rep K ι G q y ∧ Reps K ι G r t
theorem Reps.mono {ι ι' : List Addr} {G G' : Hp} (hp : Pre ι ι') (e : Same G G') : ∀ {prs : List (PV × PV)} {wl : List (V × V)}, Reps K ι G prs wl → Reps K ι' G' prs wl
  | [], _, h => h
  | (_, _) :: _, _, ⟨v, y, t, h1, h2, h3, h4⟩ => ⟨v, y, t, h1, h2.mono hp e, h3.mono hp e, h4.mono hp e⟩
end
end Qx

/-! Own layer Yu: defs that reach repr of data: they are called where nothing is being shown. -/
namespace Gx
open PySem PySem.Spec PyProof.Rows L2
structure FnG (P : Program) (w : World) (K : PySem.W.Frag) (mg : Str → Option Value) (base : Heap) (CX : CXT) (k : Nat) (f : Addr) (fd : FuncData) (ps : List Str) (sp : Sp) : Prop where
  len : ∀ vs H Q E, sp vs H Q E → vs.length = ps.length
  run : ∀ (A : Around) (outer : List Env) (s : Shared) (H : Hp) (args : Args) (us : List Value) (vs : List V) (Q : VK) (E : XK), Room k A → A.guards = some [] → Env0 P w K mg base A outer s H → BindsTo s fd args (ps.zip us) → Vals vs us → sp vs H Q E → codeAny (model P w) A (.call (.ref f) args) (CR CX outer P w H s Q E) s
theorem fn_ofG {CX : CXT} {P : Program} {w : World} {K : PySem.W.Frag} {mg : Str → Option Value} {base : Heap} {k : Nat} {f : Addr} {name qual : Str} {params : Arguments} {body : List Stmt} {scope : Scope} {dV kV doc pm cdv ct oc : Value} {an od : Option Addr} {osl : Array (Option Value)} {N ps : List Str} {sp : Sp}
    (lk : List.lookup f K = some { cls := oc, dict := od, data := .func (PySem.W.fnOf name qual params body scope dV kV doc pm an cdv ct), slots := osl }) (hcd : PySem.W.codeIn K cdv qual = true) (S : FnScope N ps scope) (len : ∀ vs H Q E, sp vs H Q E → vs.length = ps.length)
    (hbody : ∀ (A : Around) (outer : List Env) (s : Shared) (H : Hp) (vs : List V) (Q : VK) (E : XK), Room k (A.deeper (envOfC qual scope s.heap.objs.size f cdv)) → (A.deeper (envOfC qual scope s.heap.objs.size f cdv)).guards = some [] → sp vs H Q E → ∃ t, PSs (cxOf CX P w K mg base N qual scope f cdv A outer s H E) body t ∧ t { nx := fun _ H' => Q .non H', rt := Q } (L2.start N vs) H) :
    FnG P w K mg base CX (k + 1) f (PySem.W.fnOf name qual params body scope dV kV doc pm an cdv ct) ps sp := by
  refine ⟨len, fun A outer s H args us vs Q E hr hg e0 hb r hsp => ?_⟩
  have hl := len vs H Q E hsp
  have KX := PySem.W.Frag.In.keeps e0.mod.kin fun b o e => (e0.bs b o e).1
  have lim := Heap.NoLimit.keeps e0.mod.nolimit fun b o e => (e0.bs b o e).1
  have hkind : ∀ x ∈ ps.zip us, scope.names.lookup x.1 = some .local ∨ (scope.names.lookup x.1 = some .cell ∧ ((cellsFrom (s.heap.objs.size + 1) scope.names []).lookup x.1).isSome = true) := fun (n, v) hy =>
    (S.par n (List.of_mem_zip hy).1).elim (fun q => .inl q) fun q => .inr ⟨q, PySem.W.cellsFrom_some scope.names (s.heap.objs.size + 1) [] (.inl q)⟩
  refine codeAny_call_function (Room.depth hr) (KX f _ lk) rfl S.co S.gen rfl (PySem.W.codeRec_of KX hcd) (hb _ _ _ _ (wpAny_newFunctionEnv_cells S.kind hkind fun env he s1 x => ?_))
  subst he
  refine ⟨Heap.NoLimit.keeps lim x.toInCall.keep, codeAny_func ?_⟩
  obtain ⟨t, ht, hq⟩ := hbody A outer s H vs Q E (Room.deeper hr (envOfC qual scope s.heap.objs.size f cdv)) hg hsp
  have I := inv_start (CX := CX) (E := E) S hr.hd e0 hl r x
  refine wpAny_mono (ht.run [] s1 (L2.start N vs) H { nx := fun _ H' => Q .non H', rt := Q } I hq) (fun fl s' hs => ?_) fun e s' hs => hs
  have fin : ∀ {σ' H' v u}, Inv (cxOf CX P w K mg base N qual scope f cdv A outer s H E) [] σ' H' s' → RelV v u → Q v H' → CE outer P w H s Q u s' := fun J rv q => ⟨_, _, J.os, J.bare, J.base, J.hok, rv, q⟩
  cases fl with
  | next => obtain ⟨σ', H', J, q⟩ := hs; exact fin (v := .non) J rfl q
  | brk => obtain ⟨_, _, _, q⟩ := hs; exact q.elim
  | cont => obtain ⟨_, _, _, q⟩ := hs; exact q.elim
  | ret u => obtain ⟨v, σ', H', J, rv, q⟩ := hs; exact fin J rv q
theorem okG {P : Program} {w : World} {K : PySem.W.Frag} {mg : Str → Option Value} {base : Heap} {x qual : Str} {params : Arguments} {body : List Stmt} {scope : Scope} {dvs : List V} {kws : List (Str × V)} {f : Addr} {fd : FuncData} {CX : CXT} {N ps : List Str} {k : Nat} {sp : Sp} (F : FunD K x qual params body scope dvs kws f fd) (S : FnScope N ps scope) (len : ∀ vs H Q E, sp vs H Q E → vs.length = ps.length)
    (h : ∀ (cdv : Value) (A : Around) (outer : List Env) (s : Shared) (H : Hp) (vs : List V) (Q : VK) (E : XK), Room k (A.deeper (envOfC qual scope s.heap.objs.size f cdv)) → (A.deeper (envOfC qual scope s.heap.objs.size f cdv)).guards = some [] → sp vs H Q E → ∃ t, PSs (cxOf CX P w K mg base N qual scope f cdv A outer s H E) body t ∧ t { nx := fun _ H' => Q .non H', rt := Q } (L2.start N vs) H) : FnG P w K mg base CX (k + 1) f fd ps sp := by
  obtain ⟨oc, od, dV, kV, doc, pm, an, cdv, ct, osl, e, lk, hcd, _, _⟩ := F.ex
  subst e
  exact fn_ofG lk hcd S len fun A outer s H vs Q E hr hg hsp => h cdv A outer s H vs Q E hr hg hsp
structure DOkG (P : Program) (w : World) (K : PySem.W.Frag) (mg : Str → Option Value) (base : Heap) (d : He.DefD) (CX : CXT) (k : Nat) (ps : List Str) (sp : Sp) : Prop where
  ex : ∃ fd, FunD K d.name d.qual d.params d.body d.scope (d.dvs K) (d.kws K) (He.fAd K d.at_) fd ∧ FnG P w K mg base CX k (He.fAd K d.at_) fd ps sp
section
variable {X : Cx} {CX : CXT} {d : He.DefD} {k j : Nat} {ps : List Str} {sp : Sp} {x : Str} {p pos : Pos} {e : Expr} {es : List Expr} {t : TA}
theorem pcG (D : DOkG X.prog X.w X.K X.mg X.base d CX0 k ps sp) (hm : X.mg x = some (.ref (He.fAd X.K d.at_))) (hb : BdN d ps) (hr : Room j X.A) (hgu : X.A.guards = some []) (hj : k ≤ j) (ha : PA X (e :: es) t) (hg : Gl X x := by rfl)
    (hdb : (x == ("__debug__" : Str)) = false := by decide) (he : starEach (e :: es) X.env = (false, eval e X.env) :: starEach es X.env := by rfl) (hpl : (backTo pos (starEach es X.env)).any (·.1) = false := by rfl) :
    PE X (.Call (.Name x p) (e :: es) [] pos) (tCall sp [] E0 t) := by
  obtain ⟨fd, F, G⟩ := D.ex
  refine ⟨fun pins s σ H Q I h => wpAny_Call_Name_kw (ld_glob I hg hm (PySem.W.callWith_K (h₀ := X.base) I.ok.mod.kin F.kp (thn (ha.run pos pins s σ H _ I h) fun us s1 ⟨vs, H1, I1, r, q⟩ => ⟨I1.kIn, ?_⟩) he hpl) hdb)⟩
  have q' : sp (vs ++ []) H1 Q E0 := q
  rw [List.append_nil] at q'
  have hl : us.length = ps.length := by rw [← r.length]; exact G.len _ _ _ _ q'
  have B := FunD.bdN F hb
  have bt := B s1 us I1.kIn (by rw [List.append_nil]; exact hl)
  rw [List.append_nil] at bt
  refine wpAny_call (codeAny_mono (G.run X.A X.stack s1 H1 ⟨us, []⟩ us vs Q E0 (hr.mono hj) hgu I1.env0 bt r q') fun r s' hq => ?_)
  cases r with
  | error e => exact hq.elim
  | ok fl =>
    cases fl with
    | ret u => exact I1.after hq
    | next => exact False.elim hq
    | brk => exact False.elim hq
    | cont => exact False.elim hq
end
end Gx
namespace Qx
open PySem PySem.Spec PyProof.Rows L2 Gx
end Qx

/-! Own layer Yv: the law's end where it reaches repr: it is called where nothing is being shown. -/
namespace Gx
open PySem PySem.Spec PyProof.Rows L2
section
variable {P : Program} {w : World} {K : PySem.W.Frag} {mg mb : Str → Option Value} {CX : CXT} {k : Nat} {fa a : Addr} {fd : FuncData} {x : Str} {sp : Sp} {s₁ : Shared} {vs : List Value} {ns : List Int}
end
end Gx

/-! Own layer Yw: a try whose body never raises: its clauses are of no account. -/
namespace Gx
open PySem PySem.Spec PyProof.Rows L2
end Gx

/-! Own layer Yx: == and != of two lists of (text, text, own instance), each alike to its fellow. -/
namespace GQ
open PySem PySem.SeqAt PySem.W
open AutoSeq1 (wpAny_loadPart')
open MeetsSeq MeetsSeq2 MeetsSeq3 SeqRoads2
section
variable {prog : Program} {w : World} {A : Around} {R : Result → Shared → Prop}
end
section
variable {prog : Program} {w : World} {A : Around} {E : Value → Shared → Prop} {s : Shared}
end
end GQ
namespace Gx
open PySem PySem.Spec PyProof.Rows L2
section
variable {X : Cx} {k j : Nat} {ps : List Str} {sp : Sp} {d : He.DefD} {C : Addr}
end
end Gx
namespace Qx
open PySem PySem.Spec PyProof.Rows L2 Gx
def AlikeW (C : Str) (m : MF) (O : Sto) (p q : PV) : Prop := ∃ (z1 z2 : Str) (p2 q2 : PV), p = .tup [.str z1, .str z2, p2] ∧ q = .tup [.str z1, .str z2, q2] ∧ insIs O C p2 = true ∧ insIs O C q2 = true ∧ m [p2, q2] O = .ok (.bl true) O
def AlikeL (C : Str) (m : MF) (O : Sto) : List PV → List PV → Prop
  | [], [] => True
  | p :: ps, q :: qs => AlikeW C m O p q ∧ AlikeL C m O ps qs
  | _, _ => False
theorem AlikeL.len {C : Str} {m : MF} {O : Sto} : ∀ {ps qs : List PV}, AlikeL C m O ps qs → ps.length = qs.length
  | [], [], _ => rfl
  | _ :: _, _ :: _, h => by rw [List.length_cons, List.length_cons, h.2.len]
  | [], _ :: _, h => h.elim
  | _ :: _, [], h => h.elim
section
variable {K : PySem.W.Frag} {C : Str} {mf : MF} {R : List (Addr × HO)} {O : Sto}
end
section
variable {C : Str} {m : MF} {O : Sto} {QP : PV → Sto → Prop}
end
end Qx

/-! Own layer Yy: repr of lists and tuples that hold own instances with a __repr__ of their own. -/
namespace PySem.W
open PySem PySem.Spec PySem.Calls PyProof.Rows
section
variable {prog : Program} {w : World} {A : Around} {E : Value → Shared → Prop} {s : Shared} {K : Frag} {x C f : Addr} {ox : Obj} {od : Option Obj} {name : Str}
theorem ifBoundBy_K {M : Model} {last : Value → List Value → Sem Value} {Q : Option Value → Shared → Prop} (X : K.In s.heap) (I : InstAt s.heap x ox C od) (hs : findIn K (.ref C) name = some (some (.ref f))) (hf : isFn K (.ref f) = true)
    (h : wpAny M A (last (.ref f) [.ref x]) (fun v => Q (some v)) E s) : wpAny M A (callSpecialIfBoundBy? last (.ref x) name) Q E s := by
  simp only [callSpecialIfBoundBy?, bindSpecialIfBound?]
  refine wpAny_holding (wpAny_bind (wpAny_bind (wpAny_bind (I.type.here ((looks_findIn X hs).here ?_)))))
  refine wpAny_bind (wpAny_askSetting (wpAny_ite ?_))
  have fin : wpAny M A (last (.ref f) [.ref x] >>= fun v => pure (some v)) Q E s := wpAny_bind (wpAny_mono h (fun v s' h' => wpAny_pure h') fun _ _ h' => h')
  split
  · exact wpAny_bind ((bind_fn X _ (beq_iff_eq.mp hf)).here (wpAny_pure (by exact fin)))
  · exact wpAny_tryCatch (wpAny_bind ((bind_fn X _ (beq_iff_eq.mp hf)).here (wpAny_pure (by exact fin))))
def TxtBack (Q : Str → Shared → Prop) (v : Value) (s' : Shared) : Prop := ∃ z u, v = .str z u ∧ Q z s'
theorem pyReprUnder_own {b : Nat} {Q : Str → Shared → Prop} (hb : b ≤ sizeLine) (hu : A.units < cLine) (X : K.In s.heap) (I : InstAt s.heap x ox C od) (hs : findIn K (.ref C) "__repr__" = some (some (.ref f))) (hf : isFn K (.ref f) = true)
    (h : wpAny (model prog w) A (call (.ref f) [.ref x]) (TxtBack Q) E s) : wpAny (model prog w) A (pyReprUnder b (.ref x)) Q E s := by
  refine wpAny_pyReprUnder_ref hb ?_
  unfold pyReprObjUnder pyReprObjBy
  refine wpAny_bind (m := cRoomFor _ _) (wpAny_cRoomFor hu ?_)
  refine wpAny_bind (wpAny_bind (I.type.here ((looks_findIn X hs).here ?_)))
  show wpAny _ _ (if (some (Value.ref f)).isNone = true then _ else _) _ _ _
  rw [if_neg (by simp)]
  refine wpAny_bind (ifBoundBy_K X I hs hf (wpAny_mono h (fun r s' hr => ?_) fun _ _ y => y))
  obtain ⟨z, u, rfl, hq⟩ := hr
  refine wpAny_bind (wpAny_isInstance (typeIs_str _ _ _) isSubtype_str_str ?_)
  first
    | exact wpAny_pure ⟨_, _, rfl, hq⟩
    | (rw [if_pos rfl]; exact wpAny_pure ⟨_, _, rfl, hq⟩)
    | (simp only [if_true]; exact wpAny_pure ⟨_, _, rfl, hq⟩)
end
end PySem.W
namespace Qx
open PySem PySem.Spec PyProof.Rows L2 Gx
open Builtin Builtin.List
def kids (O : Sto) (p : PV) : Option (Bool × List PV) := match tupOf p with
  | some ps => some (true, ps)
  | none => (lstOf O p).map fun ps => (false, ps)
noncomputable def rprI (m : MF) (p : PV) (O : Sto) : Option Str := by
  classical exact if h : ∃ z, m [p] O = .ok (.str z) O then some h.choose else none
theorem rprI_some {m : MF} {p : PV} {O : Sto} {z : Str} (h : rprI m p O = some z) : m [p] O = .ok (.str z) O := by
  unfold rprI at h
  split at h
  · rename_i c
    cases h
    exact c.choose_spec
  · cases h
theorem rprI_of {m : MF} {p : PV} {O : Sto} {z : Str} (h : m [p] O = .ok (.str z) O) : rprI m p O = some z := by
  have c : ∃ z, m [p] O = .ok (.str z) O := ⟨z, h⟩
  unfold rprI
  rw [dif_pos c]
  have e := h.symm.trans c.choose_spec
  injection e with e _
  injection e with e
  rw [← e]
def shL (f : PV → Option Str) : List PV → Option (List Str)
  | [] => some []
  | p :: ps => match f p, shL f ps with
    | some t, some ts => some (t :: ts)
    | _, _ => none
theorem shL_cons {f : PV → Option Str} {p : PV} {ps : List PV} {ts : List Str} (h : shL f (p :: ps) = some ts) : ∃ t r, ts = t :: r ∧ f p = some t ∧ shL f ps = some r := by
  unfold shL at h
  cases e1 : f p with
  | none => rw [e1] at h; cases h
  | some t =>
    cases e2 : shL f ps with
    | none => rw [e1, e2] at h; cases h
    | some r => rw [e1, e2] at h; cases h; exact ⟨t, r, rfl, rfl, rfl⟩
theorem shL_get {f : PV → Option Str} : ∀ {ps : List PV} {ts : List Str} {i : Nat} {p : PV}, shL f ps = some ts → ps[i]? = some p → ∃ t, ts[i]? = some t ∧ f p = some t
  | [], _, _, _, _, e => by simp at e
  | q :: ps, _, 0, p, h, e => by
    obtain ⟨t, r, rfl, h1, _⟩ := shL_cons h
    simp only [List.getElem?_cons_zero, Option.some.injEq] at e
    subst e
    exact ⟨t, rfl, h1⟩
  | q :: ps, _, i + 1, p, h, e => by
    obtain ⟨t, r, rfl, _, h2⟩ := shL_cons h
    exact shL_get (ps := ps) (i := i) h2 (by simpa using e)
theorem shL_len {f : PV → Option Str} : ∀ {ps : List PV} {ts : List Str}, shL f ps = some ts → ts.length = ps.length
  | [], _, h => by cases h; rfl
  | p :: ps, _, h => by
    obtain ⟨t, r, rfl, _, h2⟩ := shL_cons h
    simp [shL_len h2]
noncomputable def shG (tab : List (Str × MF)) (O : Sto) (f : PV → Option Str) (p : PV) : Option Str := match kids O p with
  | some (true, ps) => (shL f ps).map tupleText
  | some (false, ps) => (shL f ps).map listText
  | none => match insOf O p with
    | some (C, _, _) => match tab.lookup C with
      | some m => rprI m p O
      | none => none
    | none => none
def scT : PV → Option Str
  | .non => some "None"
  | .bl b => some (if b then ("True" : Str) else "False")
  | .int i => if i.natAbs.log2 < 1920 then some (toString i) else none
  | .str z => if (reprText z).length ≤ sizeLine then some (reprText z) else none
  | _ => none
noncomputable def viT (tab : List (Str × MF)) : PV → Option Str
  | .ins C ns ps => if ps.all (fun p => (scT p).isSome) then (match tab.lookup C with
    | some m => rprI m (.ins C ns ps) []
    | none => none) else none
  | v => scT v
noncomputable def shD (tab : List (Str × MF)) : List PV → List PV → Option (List Str)
  | [], [] => some []
  | k :: ks, v :: vs => match keyP k, scT k, viT tab v, shD tab ks vs with
    | some _, some a, some b, some r => some ((a ++ ": " ++ b) :: r)
    | _, _, _, _ => none
  | _, _ => none
noncomputable def shO (tab : List (Str × MF)) (O : Sto) : Nat → PV → Option Str
  | 0, _ => none
  | n + 1, p => match p with
    | .non => some "None"
    | .bl b => some (if b then ("True" : Str) else "False")
    | .int i => if i.natAbs.log2 < 1920 then some (toString i) else none
    | .str z => if (reprText z).length ≤ sizeLine then some (reprText z) else none
    | .dic ks vs => (shD tab ks vs).map dictText
    | p => shG tab O (shO tab O n) p
def pdp (O : Sto) : Nat → PV → Nat
  | 0, _ => 0
  | n + 1, p => match kids O p with
    | some (_, ps) => 1 + (ps.map (pdp O n)).foldr max 0
    | none => 0
theorem foldr_max_le {xs : List Nat} {x : Nat} (h : x ∈ xs) : x ≤ xs.foldr max 0 := by
  induction xs with
  | nil => cases h
  | cons y ys ih =>
    rw [List.foldr_cons]
    rcases List.mem_cons.mp h with rfl | h
    · omega
    · have := ih h
      omega
section
variable {tab : List (Str × MF)} {O : Sto}
inductive ShC (tab : List (Str × MF)) (O : Sto) (n : Nat) : PV → Str → Prop
  | non : ShC tab O n .non "None"
  | bl (b : Bool) : ShC tab O n (.bl b) (if b then ("True" : Str) else "False")
  | int (i : Int) (h : i.natAbs.log2 < 1920) : ShC tab O n (.int i) (toString i)
  | str (z : Str) (h : (reprText z).length ≤ sizeLine) : ShC tab O n (.str z) (reprText z)
  | tup {p : PV} {ps : List PV} {ts : List Str} (h : tupOf p = some ps) (k : shL (shO tab O n) ps = some ts) : ShC tab O n p (tupleText ts)
  | lst {p : PV} {ps : List PV} {ts : List Str} (h0 : tupOf p = none) (h : lstOf O p = some ps) (k : shL (shO tab O n) ps = some ts) : ShC tab O n p (listText ts)
  | dic {ks vs : List PV} {ts : List Str} (k : shD tab ks vs = some ts) : ShC tab O n (.dic ks vs) (dictText ts)
  | ins {p : PV} {C : Str} {ns : List Str} {ps : List PV} {m : MF} {t : Str} (h0 : kids O p = none) (h : insOf O p = some (C, ns, ps)) (e : tab.lookup C = some m) (k : m [p] O = .ok (.str t) O) : ShC tab O n p t
theorem shC_of {n : Nat} {p : PV} {t : Str} (h : shO tab O (n + 1) p = some t) : ShC tab O n p t := by
  have gen : shG tab O (shO tab O n) p = some t → ShC tab O n p t := fun h => by
    unfold shG at h
    cases e : kids O p with
    | some q =>
      obtain ⟨b, ps⟩ := q
      rw [e] at h
      cases e1 : tupOf p with
      | some qs =>
        have e2 : kids O p = some (true, qs) := by unfold kids; rw [e1]
        rw [e] at e2
        cases e2
        obtain ⟨ts, e3, rfl⟩ := Option.map_eq_some_iff.mp h
        exact .tup e1 e3
      | none =>
        have e2 : kids O p = (lstOf O p).map fun ps => (false, ps) := by unfold kids; rw [e1]
        rw [e] at e2
        obtain ⟨qs, e3, e4⟩ := Option.map_eq_some_iff.mp e2.symm
        cases e4
        obtain ⟨ts, e5, rfl⟩ := Option.map_eq_some_iff.mp h
        exact .lst e1 e3 e5
    | none =>
      rw [e] at h
      simp only at h
      cases e1 : insOf O p with
      | none => rw [e1] at h; cases h
      | some q =>
        obtain ⟨C, ns, ps⟩ := q
        rw [e1] at h
        simp only at h
        cases e2 : tab.lookup C with
        | none => rw [e2] at h; cases h
        | some m =>
          rw [e2] at h
          exact .ins e e1 e2 (rprI_some h)
  cases p with
  | non => cases h; exact .non
  | bl b => cases h; exact .bl b
  | int i =>
    have h : (if i.natAbs.log2 < 1920 then some (toString i : Str) else none) = some t := h
    split at h
    · rename_i c; cases h; exact .int i c
    · cases h
  | str z =>
    have h : (if (reprText z).length ≤ sizeLine then some (reprText z) else none) = some t := h
    split at h
    · rename_i c; cases h; exact .str z c
    · cases h
  | dic ks vs =>
    obtain ⟨ts, e, rfl⟩ := Option.map_eq_some_iff.mp (show (shD tab ks vs).map dictText = some t from h)
    exact .dic e
  | _ => exact gen h
theorem kids_tup {p : PV} {ps : List PV} (h : tupOf p = some ps) : kids O p = some (true, ps) := by unfold kids; rw [h]
theorem kids_lst {p : PV} {ps : List PV} (h0 : tupOf p = none) (h : lstOf O p = some ps) : kids O p = some (false, ps) := by unfold kids; rw [h0]; simp only [h]; rfl
theorem pdp_kid {n : Nat} {p : PV} {b : Bool} {ps : List PV} (h : kids O p = some (b, ps)) : pdp O (n + 1) p = 1 + (ps.map (pdp O n)).foldr max 0 := by
  conv => lhs; unfold pdp
  rw [h]
theorem pdp_stay : ∀ (n m : Nat) (p : PV) (t : Str), shO tab O n p = some t → n ≤ m → pdp O m p = pdp O n p
  | 0, _, _, _, h, _ => by cases h
  | n + 1, 0, _, _, _, hm => absurd hm (by omega)
  | n + 1, m + 1, p, t, h, hm => by
    have go : ∀ {b : Bool} {ps : List PV} {ts : List Str}, kids O p = some (b, ps) → shL (shO tab O n) ps = some ts → pdp O (m + 1) p = pdp O (n + 1) p := fun {b ps ts} e k => by
      rw [pdp_kid e, pdp_kid e]
      congr 2
      refine List.map_congr_left fun q hq => ?_
      obtain ⟨i, hi⟩ := List.getElem?_of_mem hq
      obtain ⟨t, _, ht⟩ := shL_get k hi
      exact pdp_stay n m q t ht (by omega)
    cases shC_of h with
    | tup e k => exact go (kids_tup e) k
    | lst e0 e k => exact go (kids_lst e0 e) k
    | ins e0 _ _ _ => unfold pdp; rw [e0]
    | _ => rfl
theorem pdp_lt {n M : Nat} {p q : PV} {b : Bool} {ps : List PV} {ts : List Str} (e : kids O p = some (b, ps)) (k : shL (shO tab O n) ps = some ts) (hq : q ∈ ps) (hM : n + 1 ≤ M) : pdp O M q < pdp O M p := by
  obtain ⟨i, hi⟩ := List.getElem?_of_mem hq
  obtain ⟨t, _, ht⟩ := shL_get k hi
  obtain ⟨M', rfl⟩ : ∃ M', M = M' + 1 := ⟨M - 1, by omega⟩
  rw [pdp_kid e]
  have e1 := pdp_stay n (M' + 1) q t ht (by omega)
  have e2 := pdp_stay n M' q t ht (by omega)
  have := foldr_max_le (List.mem_map.mpr ⟨q, hq, rfl⟩ : pdp O M' q ∈ ps.map (pdp O M'))
  omega
theorem shO_of {n : Nat} {p : PV} {t : Str} (h : ShC tab O n p t) : shO tab O (n + 1) p = some t := by
  have g : ∀ {p : PV}, shG tab O (shO tab O n) p = some t → (p ≠ .non ∧ (∀ b, p ≠ .bl b) ∧ (∀ i, p ≠ .int i) ∧ (∀ z, p ≠ .str z) ∧ ∀ ks vs, p ≠ .dic ks vs) → shO tab O (n + 1) p = some t := fun {p} h ⟨h1, h2, h3, h4, h5⟩ => by
    cases p with
    | non => exact absurd rfl h1
    | bl b => exact absurd rfl (h2 b)
    | int i => exact absurd rfl (h3 i)
    | str z => exact absurd rfl (h4 z)
    | dic ks vs => exact absurd rfl (h5 ks vs)
    | _ => exact h
  cases h with
  | non => rfl
  | bl b => rfl
  | int i h => show (if _ then _ else _) = _; rw [if_pos h]
  | str z h => show (if _ then _ else _) = _; rw [if_pos h]
  | dic k => show (shD tab _ _).map dictText = _; rw [k]; rfl
  | tup e k =>
    refine g ?_ ⟨fun c => ?_, fun _ c => ?_, fun _ c => ?_, fun _ c => ?_, fun _ _ c => ?_⟩
    · unfold shG
      rw [kids_tup e]
      simp only [k]
      rfl
    all_goals
      subst c
      cases e
  | lst e0 e k =>
    refine g ?_ ⟨fun c => ?_, fun _ c => ?_, fun _ c => ?_, fun _ c => ?_, fun _ _ c => ?_⟩
    · unfold shG
      rw [kids_lst e0 e]
      simp only [k]
      rfl
    all_goals
      subst c
      cases e
  | ins e0 e1 e2 k =>
    refine g ?_ ⟨fun c => ?_, fun _ c => ?_, fun _ c => ?_, fun _ c => ?_, fun _ _ c => ?_⟩
    · unfold shG
      rw [e0]
      simp only [e1, e2]
      exact rprI_of k
    all_goals
      subst c
      cases e1
theorem shO_mono : ∀ (n m : Nat) (p : PV) (t : Str), shO tab O n p = some t → n ≤ m → shO tab O m p = some t
  | 0, _, _, _, h, _ => by cases h
  | n + 1, 0, _, _, _, hm => absurd hm (by omega)
  | n + 1, m + 1, p, t, h, hm => by
    have go : ∀ {ps : List PV} {ts : List Str}, shL (shO tab O n) ps = some ts → shL (shO tab O m) ps = some ts := by
      intro ps
      induction ps with
      | nil => exact fun k => k
      | cons q ps ih =>
        intro ts k
        obtain ⟨t, r, rfl, h1, h2⟩ := shL_cons k
        unfold shL
        rw [shO_mono n m q t h1 (by omega), ih h2]
    refine shO_of ?_
    cases shC_of h with
    | non => exact .non
    | bl b => exact .bl b
    | int i c => exact .int i c
    | str z c => exact .str z c
    | dic k => exact .dic k
    | tup e k => exact .tup e (go k)
    | lst e0 e k => exact .lst e0 e (go k)
    | ins e0 e1 e2 k => exact .ins e0 e1 e2 k
end
end Qx

/-! Own layer Yz: the run of repr over lists and tuples that hold own instances. -/
namespace Gx
open PySem PySem.Spec PyProof.Rows L2
structure RmT (tab : List (Str × MF)) (k : Nat) (A : Around) : Prop where
  hd : tab = [] ∨ A.handled = none
  dp : A.depth + 3 * k + 5 < recursionLimit
  un : A.units + 16 * k + 200 < cLine
theorem RmT.mono {tab : List (Str × MF)} {j k : Nat} {A : Around} (r : RmT tab k A) (h : j ≤ k) : RmT tab j A := ⟨r.hd, by have := r.dp; omega, by have := r.un; omega⟩
theorem RmT.in1 {tab : List (Str × MF)} {k : Nat} {A : Around} (r : RmT tab (k + 1) A) : RmT tab k A.in1 :=
  ⟨r.hd, by have := r.dp; show A.depth + 3 * k + 5 < _; omega, by have := r.un; show A.units + 1 + 16 * k + 200 < _; omega⟩
theorem RmT.room {tab : List (Str × MF)} {k : Nat} {A : Around} (r : RmT tab k A) {C : Str} {m : MF} (e : tab.lookup C = some m) : Room k A := ⟨r.hd.elim (fun q => by subst q; cases e) id, r.dp, r.un⟩
theorem RmT.loopG {tab : List (Str × MF)} {k : Nat} {A : Around} (r : RmT tab (k + 1) A) (args : Args) : RmT tab k (A.under (.builtin "list.__repr__.loop" args)) := by
  have hd : (A.under (.builtin "list.__repr__.loop" args)).depth = A.depth + 1 := by
    first | rfl | simp [Around.under, Code.weight, Code.isCreation, Code.isGuard, Code.isCaller, Code.frames, Code.isFrame, guardIds]
  have hu := units_under_list_loop A args
  exact ⟨r.hd, by have := r.dp; rw [hd]; omega, by have := r.un; rw [hu]; omega⟩
theorem RmT.tupG {tab : List (Str × MF)} {k : Nat} {A : Around} {id : String} {args : Args} (r : RmT tab (k + 1) A) (hd : (A.under (.builtin id args)).depth ≤ A.depth + 1) (hu : (A.under (.builtin id args)).units = A.units + 1) : RmT tab k (A.under (.builtin id args)) :=
  ⟨r.hd, by have := r.dp; omega, by have := r.un; rw [hu]; omega⟩
theorem frames_list_loop (A : Around) (args : Args) : (A.under (.builtin "list.__repr__.loop" args)).frames = A.frames := by
  first | rfl | simp [Around.under, pushEnvs, Code.envs]
theorem frames_tup (A : Around) (args : Args) : (A.under (.builtin "tuple.__repr__" args)).frames = A.frames := by
  first | rfl | simp [Around.under, pushEnvs, Code.envs]
theorem frames_tupU (A : Around) (args : Args) : (A.under (.builtin "tuple.__repr__.under" args)).frames = A.frames := by
  first | rfl | simp [Around.under, pushEnvs, Code.envs]
theorem depth_tup (A : Around) (args : Args) : (A.under (.builtin "tuple.__repr__" args)).depth ≤ A.depth + 1 := by
  first | exact Nat.le_refl _ | simp [Around.under, Code.weight, Code.isCreation, Code.isGuard, Code.isCaller, Code.frames, Code.isFrame, guardIds]
theorem depth_tupU (A : Around) (args : Args) : (A.under (.builtin "tuple.__repr__.under" args)).depth ≤ A.depth + 1 := by
  first | exact Nat.le_refl _ | simp [Around.under, Code.weight, Code.isCreation, Code.isGuard, Code.isCaller, Code.frames, Code.isFrame, guardIds]
end Gx
namespace Qx
open PySem PySem.Spec PyProof.Rows L2 Gx
open Builtin Builtin.List
inductive TabR (X : Cx) (k : Nat) : List (Str × MF) → Prop
  | nil : TabR X k []
  | cons {C : Str} {m : MF} {r : List (Str × MF)} {d : He.DefD} (D : DOk X.prog X.w X.K X.mg X.base d CX0 k ["self"] (spM X.K false m)) (hm : Meth X.K (He.ga X.K C) "__repr__" (He.fAd X.K d.at_)) (hb : BdN d ["self"]) (t : TabR X k r) : TabR X k ((C, m) :: r)
theorem TabR.at_ {X : Cx} {k : Nat} {tab : List (Str × MF)} (T : TabR X k tab) {C : Str} {m : MF} (e : tab.lookup C = some m) : ∃ d, DOk X.prog X.w X.K X.mg X.base d CX0 k ["self"] (spM X.K false m) ∧ Meth X.K (He.ga X.K C) "__repr__" (He.fAd X.K d.at_) ∧ BdN d ["self"] := by
  induction T with
  | nil => cases e
  | @cons C' m' r d D hm hb t ih =>
    rw [List.lookup_cons] at e
    split at e
    · rename_i c
      cases e
      have c : C = C' := by simpa using c
      subst c
      exact ⟨d, D, hm, hb⟩
    · exact ih e
section
variable {X : Cx} {tab : List (Str × MF)} {R : List (Addr × HO)} {O : Sto}
theorem dep_same {pins : List (Addr × Obj)} {σ : L2.St} {ι : List Addr} {H : Hp} {s : Shared} (S : Sim X.K R ι O H) (I : Inv X pins σ H s) : ∀ (n : Nat) (p q : PV) (a : Addr) (t t' : Str), Rep X.K ι (fz R ι O H) p (.ref a) → Rep X.K ι (fz R ι O H) q (.ref a) → shO tab O n p = some t → shO tab O n q = some t' → pdp O n p = pdp O n q
  | 0, _, _, _, _, _, _, _, h, _ => by cases h
  | n + 1, p, q, a, t, t', r1, r2, h1, h2 => by
    have two : ∀ {b : Bool} {ps qs : List PV} {ts ts' : List Str} {xs : List V}, kids O p = some (b, ps) → kids O q = some (b, qs) → shL (shO tab O n) ps = some ts → shL (shO tab O n) qs = some ts' → RepL X.K ι (fz R ι O H) ps xs → RepL X.K ι (fz R ι O H) qs xs → pdp O (n + 1) p = pdp O (n + 1) q := fun {b ps qs ts ts' xs} e1 e2 k1 k2 l1 l2 => by
      rw [pdp_kid e1, pdp_kid e2]
      congr 2
      refine List.ext_getElem? fun i => ?_
      rw [List.getElem?_map, List.getElem?_map]
      have hl : ps.length = qs.length := by rw [← l1.len, ← l2.len]
      cases c : ps[i]? with
      | none =>
        have := List.getElem?_eq_none_iff.mp c
        rw [List.getElem?_eq_none_iff.mpr (by omega)]
      | some p1 =>
        obtain ⟨hi, _⟩ := List.getElem?_eq_some_iff.mp c
        obtain ⟨q1, c2⟩ : ∃ q1, qs[i]? = some q1 := ⟨_, List.getElem?_eq_getElem (by omega)⟩
        rw [c2]
        obtain ⟨x, ex, rx⟩ := l1.get c
        obtain ⟨y, ey, ry⟩ := l2.get c2
        rw [ex] at ey
        cases ey
        obtain ⟨t1, _, ht1⟩ := shL_get k1 c
        obtain ⟨t2, _, ht2⟩ := shL_get k2 c2
        show some _ = some _
        congr 1
        cases x with
        | ref b => exact dep_same S I n p1 q1 b t1 t2 rx ry ht1 ht2
        | _ =>
          have lf : ∀ {p : PV} {t : Str}, (∃ v, Rep X.K ι (fz R ι O H) p v ∧ ∀ a, v ≠ .ref a) → shO tab O n p = some t → pdp O n p = 0 := fun {p t} ⟨v, r, hv⟩ h => by
            cases n with
            | zero => rfl
            | succ n =>
              have : kids O p = none := by
                cases e : kids O p with
                | none => rfl
                | some w =>
                  refine absurd ?_ (fun z : False => z)
                  obtain ⟨b, ps⟩ := w
                  unfold kids at e
                  cases e1 : tupOf p with
                  | some qs =>
                    obtain ⟨a, xs, e2, _⟩ := tupOf_read r e1
                    exact hv a e2
                  | none =>
                    rw [e1] at e
                    obtain ⟨qs, e2, _⟩ := Option.map_eq_some_iff.mp e
                    obtain ⟨a, xs, e3, _⟩ := lst_read S r e2
                    exact hv a e3
              unfold pdp
              rw [this]
          rw [lf ⟨_, rx, fun _ => nofun⟩ ht1, lf ⟨_, ry, fun _ => nofun⟩ ht2]
    have tup_lst : ∀ {xs ys : List V}, SqT X.K H a xs → SqL X.K H a ys → False := fun h h' => by
      obtain ⟨its, r, ⟨o, e, c, n, d⟩, _⟩ := I.tuple h
      obtain ⟨its', r', ⟨o', n', e', c', _, d'⟩, _⟩ := I.list h'
      rw [e] at e'
      cases e'
      rw [c] at c'
      injection c' with c'
      exact absurd c' (by decide)
    have noI : ∀ {C : Addr} {dx : Addr} {fl : List (Str × V)}, H a = some (.ins C dx fl) → ∀ {o : Obj} {items : Array Value} {n : Nat}, s.heap.get? a = some o → o.data = .seq items n → False := fun {C dx fl} h {o items n} e d => by
      obtain ⟨mA, J, _⟩ := ins_get I.hok h
      obtain ⟨_, _, _, ob, _⟩ := (show ObjOk _ _ H s.heap a (.ins _ _ _) from I.hok a _ h)
      rw [e] at ob
      cases ob
      cases d
    have insT : ∀ {C : Addr} {dx : Addr} {fl : List (Str × V)} {xs : List V}, H a = some (.ins C dx fl) → SqT X.K H a xs → False := fun h h' => by
      obtain ⟨its, r, ⟨o, e, c, n, d⟩, _⟩ := I.tuple h'
      exact noI h e d
    have insL : ∀ {C : Addr} {dx : Addr} {fl : List (Str × V)} {xs : List V}, H a = some (.ins C dx fl) → SqL X.K H a xs → False := fun h h' => by
      obtain ⟨its, r, ⟨o, n, e, c, _, d⟩, _⟩ := I.list h'
      exact noI h e d
    have noD : ∀ {kvs : List (Key × V)}, H a = some (.dK kvs) → ∀ {o : Obj} {items : Array Value} {n : Nat}, s.heap.get? a = some o → o.data = .seq items n → False := fun {kvs} h {o items n} e d => by
      obtain ⟨_, _, vs, _, ⟨o', es, ep, e', _, d', _⟩⟩ := (show ObjOk _ _ H s.heap a (.dK _) from I.hok a _ h)
      rw [e] at e'
      cases e'
      rw [d] at d'
      cases d'
    have dicT : ∀ {kvs : List (Key × V)} {xs : List V}, H a = some (.dK kvs) → SqT X.K H a xs → False := fun h h' => by
      obtain ⟨its, r, ⟨o, e, c, n, d⟩, _⟩ := I.tuple h'
      exact noD h e d
    have dicL : ∀ {kvs : List (Key × V)} {xs : List V}, H a = some (.dK kvs) → SqL X.K H a xs → False := fun h h' => by
      obtain ⟨its, r, ⟨o, n, e, c, _, d⟩, _⟩ := I.list h'
      exact noD h e d
    have z0 : ∀ {p : PV}, kids O p = none → pdp O (n + 1) p = 0 := fun {p} e => by unfold pdp; rw [e]
    cases shC_of h1 with
    | non => cases r1
    | bl _ => cases r1
    | int _ _ => cases r1
    | str _ _ => cases r1
    | tup e1 k1 =>
      obtain ⟨a1, xs, ea, sq1, l1⟩ := tupOf_read r1 e1
      cases ea
      cases shC_of h2 with
      | non => cases r2
      | bl _ => cases r2
      | int _ _ => cases r2
      | str _ _ => cases r2
      | tup e2 k2 =>
        obtain ⟨a2, ys, ea, sq2, l2⟩ := tupOf_read r2 e2
        cases ea
        have ex := I.tuple_inj (sqt_same S.frozen sq1) (sqt_same S.frozen sq2)
        subst ex
        exact two (kids_tup e1) (kids_tup e2) k1 k2 l1 l2
      | lst e0 e2 k2 =>
        obtain ⟨a2, ys, ea, sq2, l2⟩ := lst_read S r2 e2
        cases ea
        exact (tup_lst (sqt_same S.frozen sq1) sq2).elim
      | dic k2 =>
        obtain ⟨a2, kvs, ea, hi, _⟩ := r2
        cases ea
        exact (dicT (S.frozen _ _ hi) (sqt_same S.frozen sq1)).elim
      | ins e0 e2 _ _ =>
        obtain ⟨a2, dx, ys, ea, hi, _⟩ := ins_read S r2 e2
        cases ea
        exact (insT hi (sqt_same S.frozen sq1)).elim
    | lst e0 e1 k1 =>
      obtain ⟨a1, xs, ea, sq1, l1⟩ := lst_read S r1 e1
      cases ea
      cases shC_of h2 with
      | non => cases r2
      | bl _ => cases r2
      | int _ _ => cases r2
      | str _ _ => cases r2
      | tup e2 k2 =>
        obtain ⟨a2, ys, ea, sq2, l2⟩ := tupOf_read r2 e2
        cases ea
        exact (tup_lst (sqt_same S.frozen sq2) sq1).elim
      | lst e3 e2 k2 =>
        obtain ⟨a2, ys, ea, sq2, l2⟩ := lst_read S r2 e2
        cases ea
        have ex := I.list_inj sq1 sq2
        subst ex
        exact two (kids_lst e0 e1) (kids_lst e3 e2) k1 k2 l1 l2
      | dic k2 =>
        obtain ⟨a2, kvs, ea, hi, _⟩ := r2
        cases ea
        exact (dicL (S.frozen _ _ hi) sq1).elim
      | ins e3 e2 _ _ =>
        obtain ⟨a2, dx, ys, ea, hi, _⟩ := ins_read S r2 e2
        cases ea
        exact (insL hi sq1).elim
    | dic k1 =>
      obtain ⟨a1, kvs, ea, hi, _⟩ := r1
      cases ea
      cases shC_of h2 with
      | non => cases r2
      | bl _ => cases r2
      | int _ _ => cases r2
      | str _ _ => cases r2
      | tup e2 k2 =>
        obtain ⟨a2, ys, ea, sq2, l2⟩ := tupOf_read r2 e2
        cases ea
        exact (dicT (S.frozen _ _ hi) (sqt_same S.frozen sq2)).elim
      | lst e3 e2 k2 =>
        obtain ⟨a2, ys, ea, sq2, l2⟩ := lst_read S r2 e2
        cases ea
        exact (dicL (S.frozen _ _ hi) sq2).elim
      | dic k2 => rfl
      | ins e3 e2 _ _ => rw [z0 e3]; rfl
    | ins e0 e1 _ _ =>
      obtain ⟨a1, dx, xs, ea, hi, _⟩ := ins_read S r1 e1
      cases ea
      cases shC_of h2 with
      | non => cases r2
      | bl _ => cases r2
      | int _ _ => cases r2
      | str _ _ => cases r2
      | tup e2 k2 =>
        obtain ⟨a2, ys, ea, sq2, l2⟩ := tupOf_read r2 e2
        cases ea
        exact (insT hi (sqt_same S.frozen sq2)).elim
      | lst e3 e2 k2 =>
        obtain ⟨a2, ys, ea, sq2, l2⟩ := lst_read S r2 e2
        cases ea
        exact (insL hi sq2).elim
      | dic k2 => rw [z0 e0]; rfl
      | ins e3 e2 _ _ => rw [z0 e0, z0 e3]

def ClrG (K : PySem.W.Frag) (R : List (Addr × HO)) (ι : List Addr) (O : Sto) (H : Hp) (tab : List (Str × MF)) (M : Nat) (g : List Code) (p : PV) : Prop :=
  ∀ id v rest kw, Code.builtin id ⟨v :: rest, kw⟩ ∈ g → ∀ b, v = .ref b → (∃ q t, Rep K ι (fz R ι O H) q (.ref b) ∧ shO tab O M q = some t ∧ pdp O M p < pdp O M q) ∨ ∃ od kvs, (b, HO.frz od (.dK kvs)) ∈ R
theorem ClrG.nil {K : PySem.W.Frag} {ι : List Addr} {H : Hp} {M : Nat} {p : PV} : ClrG K R ι O H tab M [] p := fun _ _ _ _ h => nomatch h
theorem ClrG.ext {K : PySem.W.Frag} {ι ι' : List Addr} {H H' : Hp} {M : Nat} {g : List Code} {p : PV} (h : ClrG K R ι O H tab M g p) (x : Ext R ι O H ι' O H') : ClrG K R ι' O H' tab M g p := fun id v rest kw hm b e => by
  rcases h id v rest kw hm b e with ⟨q, t, h1, h2, h3⟩ | h4
  · exact .inl ⟨q, t, x.rep h1, h2, h3⟩
  · exact .inr h4
theorem ClrG.kid {K : PySem.W.Frag} {ι : List Addr} {H : Hp} {M : Nat} {g : List Code} {p q : PV} {a : Addr} {t : Str} {id : String} {rest : List Value} {kw : List (Str × Value)} (h : ClrG K R ι O H tab M g p) (hl : pdp O M q < pdp O M p) (r : Rep K ι (fz R ι O H) p (.ref a)) (hp : shO tab O M p = some t) : ClrG K R ι O H tab M (.builtin id ⟨.ref a :: rest, kw⟩ :: g) q := fun id' v rest' kw' hm b e => by
  rcases List.mem_cons.mp hm with c | hm
  · cases c
    cases e
    exact .inl ⟨p, t, r, hp, hl⟩
  · rcases h id' v rest' kw' hm b e with ⟨q', t', h1, h2, h3⟩ | h4
    · exact .inl ⟨q', t', h1, h2, by omega⟩
    · exact .inr h4
theorem no_dk {pins : List (Addr × Obj)} {σ : L2.St} {ι : List Addr} {H : Hp} {s : Shared} {n : Nat} {p : PV} {a : Addr} {t : Str} {od : Obj} {kvs : List (Key × V)} (S : Sim X.K R ι O H) (I : Inv X pins σ H s) (r : Rep X.K ι (fz R ι O H) p (.ref a)) (hp : shO tab O n p = some t) (hm : (a, HO.frz od (.dK kvs)) ∈ R) : False := by
  have h : H a = some (.frz od (.dK kvs)) := S.hid _ hm
  have noD : ∀ {o : Obj} {items : Array Value} {n : Nat}, s.heap.get? a = some o → o.data = .seq items n → False := fun {o items n} e d => by
    obtain ⟨_, _, _, vs, _, ⟨o', es, ep, e', _, d', _⟩⟩ := (show ObjOk _ _ H s.heap a (.frz _ (.dK _)) from I.hok a _ h)
    rw [e] at e'
    cases e'
    rw [d] at d'
    cases d'
  cases n with
  | zero => cases hp
  | succ n =>
    cases shC_of hp with
    | non => cases r
    | bl _ => cases r
    | int _ _ => cases r
    | str _ _ => cases r
    | tup e1 k1 =>
      obtain ⟨a1, xs, ea, sq, l⟩ := tupOf_read r e1
      cases ea
      obtain ⟨its, r, ⟨o, e, c, n, d⟩, _⟩ := I.tuple (sqt_same S.frozen sq)
      exact noD e d
    | lst e0 e1 k1 =>
      obtain ⟨a1, xs, ea, sq, l⟩ := lst_read S r e1
      cases ea
      obtain ⟨its, r, ⟨o, n, e, c, _, d⟩, _⟩ := I.list sq
      exact noD e d
    | dic k1 =>
      obtain ⟨a1, kvs', ea, hi, _⟩ := r
      cases ea
      have := S.frozen _ _ hi
      rw [h] at this
      cases this
    | ins e0 e1 _ _ =>
      obtain ⟨a1, dx, xs, ea, hi, _⟩ := ins_read S r e1
      cases ea
      rw [h] at hi
      cases hi
theorem ClrG.clear {pins : List (Addr × Obj)} {σ : L2.St} {ι : List Addr} {H : Hp} {s : Shared} {M : Nat} {g : List Code} {p : PV} {a : Addr} {t : Str} (h : ClrG X.K R ι O H tab M g p) (S : Sim X.K R ι O H) (I : Inv X pins σ H s) (r : Rep X.K ι (fz R ι O H) p (.ref a)) (hp : shO tab O M p = some t) : Clear g a := fun id v rest kw hm e => by
  rcases h id v rest kw hm a e with ⟨q, t', h1, h2, h3⟩ | ⟨od, kvs, h4⟩
  · have := dep_same S I M p q a t t' r h1 hp h2
    omega
  · exact no_dk S I r hp h4
def ItR (X : Cx) (tab : List (Str × MF)) (R : List (Addr × HO)) (O : Sto) (k M n : Nat) : Prop := ∀ (p : PV) (t : Str), shO tab O n p = some t → ∀ (ι : List Addr) (H : Hp) (x : V) (u : Value) (pins : List (Addr × Obj)) (σ : L2.St) (s : Shared) (A : Around) (g : List Code) (Q : Str → Shared → Prop) (base : Nat), Sim X.K R ι O H → Rep X.K ι (fz R ι O H) p x → RelV x u → Inv X pins σ H s → A.guards = some g → ClrG X.K R ι O H tab M g p → RmT tab (k + n) A → A.frames = X.A.frames → base + t.length ≤ sizeLine →
  (∀ ι' H' s', Sim X.K R ι' O H' → Ext R ι O H ι' O H' → Inv X pins σ H' s' → Q t s') → wpAny (model X.prog X.w) A (pyReprUnder base u) Q X.xe s
abbrev gatO (acc : Array Value) (c : Nat) : Obj := { cls := .type "list", dict := none, data := .seq acc c, slots := #[] }
theorem Inv.unpin {q : Addr × Obj} {pins : List (Addr × Obj)} {σ : L2.St} {H : Hp} {s : Shared} (I : Inv X (q :: pins) σ H s) : Inv X pins σ H s := I.pins_of fun p hp => I.pin p (List.mem_append_right _ (List.mem_cons_of_mem _ hp))
theorem Inv.gat {P : Addr} {acc acc' : Array Value} {c c' : Nat} {pins : List (Addr × Obj)} {σ : L2.St} {H : Hp} {s : Shared} {h' : Heap} {t' : Nat} (I : Inv X ((P, gatO acc c) :: pins) σ H s) (hP0 : X.s_0.heap.objs.size ≤ P) (hP3 : ∀ q ∈ X.pn ++ pins, q.1 ≠ P) (k : ∀ b o, b ≠ P → s.heap.get? b = some o → h'.get? b = some o) (e : h'.get? P = some (gatO acc' c')) : Inv X ((P, gatO acc' c') :: pins) σ H { s with heap := h', toks := t' } := by
  obtain ⟨e1, n, nl, nf, _⟩ := I.pin (P, gatO acc c) (List.mem_append_right _ List.mem_cons_self)
  have J := (Inv.unpin I).turned (t' := t') (it := P) k n nl (.inr hP0) (fun x c e2 z => by
    obtain ⟨v, o, ho, hd⟩ := I.cell x c e2
    rw [z] at ho
    rw [show s.heap.get? P = some (gatO acc _) from e1] at ho
    cases ho
    cases hd) hP3
  refine J.pins_of fun p hp => ?_
  rcases List.mem_cons.mp hp with rfl | hp
  · exact ⟨e, n, nl, nf, fun v => nofun⟩
  · exact J.pin p (List.mem_append_right _ hp)
theorem rp_loop {k M n : Nat} (IH : ItR X tab R O k M n) (hM : n + 1 ≤ M) {p : PV} {ps : List PV} {ts : List Str} {a P : Addr} (h0 : tupOf p = none) (hl : lstOf O p = some ps) (sh : shL (shO tab O n) ps = some ts) {tp : Str} (hp : shO tab O M p = some tp)
    {A : Around} {g : List Code} {base : Nat} (hg : A.guards = some g) (hr : RmT tab (k + n + 1) A) (hf : A.frames = X.A.frames) (hsz : base + (listText ts).length ≤ sizeLine) {Rr : Result → Shared → Prop} {pins : List (Addr × Obj)} {σ : L2.St} (hP0 : X.s_0.heap.objs.size ≤ P) (hP3 : ∀ q ∈ X.pn ++ pins, q.1 ≠ P) (hE : ∀ e s', X.xe e s' → Rr (.error e) s') :
    ∀ (j i : Nat) (ι : List Addr) (H : Hp) (s : Shared) (acc : Array Value) (c : Nat) (done : List (Str × Tok)), ps.length - i = j → i ≤ ps.length → Sim X.K R ι O H → Rep X.K ι (fz R ι O H) p (.ref a) → ClrG X.K R ι O H tab M g p → Inv X ((P, gatO acc c) :: pins) σ H s → acc.toList = strValues done → done.map (·.1) = ts.take i →
    (∀ ι' H' s' u, Sim X.K R ι' O H' → Ext R ι O H ι' O H' → Inv X pins σ H' s' → Rr (.ok (.ret (.str (listText ts) u))) s') →
    codeAny (model X.prog X.w) A (.builtin "list.__repr__.loop" ⟨[.ref a, rawInt i, .ref P, rawInt ((base + piled (ts.take i) : Nat) : Int)], []⟩) Rr s := by
  have hX : (listText ts).length = (textFrom 0 "[" ts).length + 1 := by
    show (textFrom 0 "[" ts ++ "]").length = _
    rw [strLen_append]; rfl
  have hL := textFrom_len ts 0 "["
  have hsz2 : ∀ t ∈ ts, t.length ≤ sizeLine := fun t ht => by
    have h2 := hL.2.1 t ht
    omega
  have hsz3 : (listText ts).length ≤ sizeLine := by omega
  have hp3 := piled_le_listText ts
  have hlen := shL_len sh
  have hsz1 : ps.length ≤ sizeLine := by
    have h1 := hL.1
    rw [if_neg (Nat.lt_irrefl 0)] at h1
    omega
  intro j
  induction j with
  | zero =>
    intro i ι H s acc c done hk hi S r _ I hacc hdone hR
    have hin : i = ps.length := by omega
    obtain ⟨a', xs, ea, sq, l⟩ := lst_read S r hl
    cases ea
    obtain ⟨its, rv, ⟨o, m, ha, _, _, hda⟩, _⟩ := (Inv.unpin I).list sq
    have hil : its.length = ps.length := by rw [← rv.length, l.len]
    have hP := (I.pin (P, gatO acc c) (List.mem_append_right _ List.mem_cons_self)).1
    refine codeAny_builtin F.entry_list_repr_loop ?_
    show wpAny _ _ («list.__repr__.loop» ⟨[.ref a, .int i 0, .ref P, .int ((base + piled (ts.take i) : Nat) : Int) 0], []⟩) _ _ s
    rw [repr_loop_tree]
    refine wpAny_bind (wpAny_listItems ha hda ?_)
    have hnone : its.toArray[(i : Int).toNat]? = none := by simp [hin, hil]
    simp only [hnone]
    unfold reprEnd
    refine wpAny_bind (wpAny_listItems hP rfl ?_)
    rw [hacc, repr_fold]
    refine wpAny_bind (wpAny_pure ?_)
    have hall : done.map (·.1) = ts := by rw [hdone, hin, ← hlen, List.take_length]
    rw [hall]
    refine wpAny_bind (wpAny_mkStr (wpAny_pure ?_) hsz3)
    exact hR ι H _ _ S .refl ((Inv.unpin I).tok _)
  | succ j ih =>
    intro i ι H s acc c done hk hi S r hc I hacc hdone hR
    have hlt : i < ps.length := by omega
    obtain ⟨q, eq⟩ : ∃ q, ps[i]? = some q := ⟨_, List.getElem?_eq_getElem hlt⟩
    obtain ⟨t, ht, htq⟩ := shL_get sh eq
    obtain ⟨a', xs, ea, sq, l⟩ := lst_read S r hl
    cases ea
    obtain ⟨its, rv, ⟨o, m, ha, _, _, hda⟩, _⟩ := (Inv.unpin I).list sq
    obtain ⟨x, ex, rx⟩ := l.get eq
    obtain ⟨u, eu, ru⟩ := rv.get ex
    have hP := (I.pin (P, gatO acc c) (List.mem_append_right _ List.mem_cons_self)).1
    have hp1 := piled_take_succ ht
    have hp2 := piled_take_le ts (i + 1)
    refine codeAny_builtin F.entry_list_repr_loop ?_
    show wpAny _ _ («list.__repr__.loop» ⟨[.ref a, .int i 0, .ref P, .int ((base + piled (ts.take i) : Nat) : Int) 0], []⟩) _ _ s
    rw [repr_loop_tree]
    refine wpAny_bind (wpAny_listItems ha hda ?_)
    have hsome : its.toArray[(i : Int).toNat]? = some u := by simpa using eu
    simp only [hsome]
    rw [Int.toNat_natCast]
    have hq : q ∈ ps := List.mem_of_getElem? eq
    refine wpAny_bind (wpAny_holding (wpAny_mono (IH q t htq ι H x u ((P, gatO acc c) :: pins) σ s _ _ (fun t' s' => t = t' ∧ ∃ ι' H', Sim X.K R ι' O H' ∧ Ext R ι O H ι' O H' ∧ Inv X ((P, gatO acc c) :: pins) σ H' s') (base + piled (ts.take i) + 1) S rx ru I (guards_under_guard (isGuard_list_loop _) hg) (hc.kid (pdp_lt (kids_lst h0 hl) sh hq hM) r hp) (RmT.loopG hr _) (by rw [frames_list_loop]; exact hf) (by omega) fun ι' H' s' S' x' I' => ⟨rfl, ι', H', S', x', I'⟩) (fun t' s' hz => ?_) hE))
    obtain ⟨rfl, ι', H', S', x', I'⟩ := hz
    have hP' := (I'.pin (P, gatO acc c) (List.mem_append_right _ List.mem_cons_self)).1
    refine wpAny_bind (wpAny_mkStr ?_ (hsz2 t (List.mem_of_getElem? ht)))
    refine wpAny_bind ?_
    show wpAny _ _ (updateSeq P _) _ _ _
    have hasz : acc.size ≤ sizeLine := by
      have e1 : acc.toList.length = acc.size := by simp
      have e2 : (strValues done).length = done.length := by simp [strValues]
      have e3 : done.length = (ts.take i).length := by rw [← hdone, List.length_map]
      have e4 : (ts.take i).length ≤ i := by rw [List.length_take]; omega
      rw [hacc] at e1; omega
    refine wpAny_updateSeq hP' rfl (wpAny_pure ⟨F.quiet_list_repr_loop _, ?_⟩) hasz
    have e1 : ((i : Int) + 1) = ((i + 1 : Nat) : Int) := by omega
    have e2 : base + piled (ts.take i) + (t.length + 2) = base + piled (ts.take (i + 1)) := by omega
    rw [e1, e2]
    obtain ⟨c', upd⟩ : ∃ c', (s'.heap.update P (Obj.mapSeq fun x => x.push (.str t s'.toks))).get? P = some (gatO (acc.push (.str t s'.toks)) c') := ⟨_, Heap.get?_update_self _ hP' rfl⟩
    refine ih (i + 1) ι' H' _ (acc.push (.str t s'.toks)) _ (done ++ [(t, s'.toks)]) (by omega) hlt S' (x'.rep r) (hc.ext x') (Inv.gat (s := { s' with toks := s'.toks + 1 }) (t' := s'.toks + 1) (I'.tok _) hP0 hP3 (fun b o hb e => (Heap.get?_update_other _ _ (fun h : P = b => hb h.symm)).trans e) upd) (by simp [hacc, strValues]) (by simp [List.take_add_one, ht, hdone]) fun ι2 H2 s2 u2 S2 x2 I2 => ?_
    exact hR ι2 H2 s2 u2 S2 (x'.trans x2) I2
theorem rp_list_at {k M n : Nat} (IH : ItR X tab R O k M n) (hM : n + 1 ≤ M) {p q : PV} {ps : List PV} {ts : List Str} {a : Addr} (h0 : tupOf p = none) (hl : lstOf O p = some (q :: ps)) (sh : shL (shO tab O n) (q :: ps) = some ts) {tp : Str} (hp : shO tab O M p = some tp)
    {A : Around} {g : List Code} {base : Nat} (hg : A.guards = some g) (hr : RmT tab (k + n + 1) A) (hf : A.frames = X.A.frames) (hsz : base + (listText ts).length ≤ sizeLine) {Rr : Result → Shared → Prop} {pins : List (Addr × Obj)} {σ : L2.St} {ι : List Addr} {H : Hp} {s : Shared} (hE : ∀ e s', X.xe e s' → Rr (.error e) s')
    (S : Sim X.K R ι O H) (r : Rep X.K ι (fz R ι O H) p (.ref a)) (hc : ClrG X.K R ι O H tab M g p) (I : Inv X pins σ H s)
    (hR : ∀ ι' H' s' u, Sim X.K R ι' O H' → Ext R ι O H ι' O H' → Inv X pins σ H' s' → Rr (.ok (.ret (.str (listText ts) u))) s') :
    wpAny (model X.prog X.w) A.in1 (Builtin.listReprAt base ⟨[.ref a], []⟩) (fun fin s' => match fin with | .done f => Rr (.ok f) s' | .again c' => c'.quiet = true ∧ codeAny (model X.prog X.w) A c' Rr s') (fun e s' => Rr (.error e) s') s := by
  obtain ⟨a', xs, ea, sq, l⟩ := lst_read S r hl
  cases ea
  obtain ⟨its, rv, ⟨o, m, ha, _, _, hda⟩, _⟩ := I.list sq
  have hca := hc.clear S I r hp
  obtain ⟨x, xr, rfl, _, _⟩ := l
  obtain ⟨u, ur, rfl⟩ : ∃ u ur, its = u :: ur := by
    cases rv with
    | cons _ _ => exact ⟨_, _, rfl⟩
  refine wpAny_list_repr_head (A := A.in1) hg (fun v rest kw hm => listSameRef_of_ne (hca _ _ _ _ hm)) ha hda ?_
  refine wpAny_bind (m := newList []) (wpAny_newObj_type ?_)
  refine wpAny_pure ⟨F.quiet_list_repr_loop _, ?_⟩
  have J : Inv X pins σ H { s with heap := s.heap.push (gatO #[] 0), toks := s.toks } := I.kept fun b o e => Heap.get?_push_of_some _ e
  have hPn : H s.heap.objs.size = none := I.hok.fresh (Nat.le_refl _)
  have J2 : Inv X ((s.heap.objs.size, gatO #[] 0) :: pins) σ H { s with heap := s.heap.push (gatO #[] 0), toks := s.toks } := J.pins_of fun p hp => by
    rcases List.mem_cons.mp hp with rfl | hp
    · exact ⟨Heap.get?_push_size _ rfl, hPn, fun e => absurd I.lt (by rw [← e]; exact Nat.lt_irrefl _), I.nofs (Nat.le_refl _), fun v => nofun⟩
    · exact J.pin p (List.mem_append_right _ hp)
  exact rp_loop IH hM (P := s.heap.objs.size) h0 hl sh hp hg hr hf hsz I.sz (fun p hp e => absurd (Heap.lt_size (I.pin p hp).1) (by rw [e]; exact Nat.lt_irrefl _)) hE _ 0 ι H _ #[] _ [] rfl (Nat.zero_le _) S r hc J2 rfl (by simp) hR
theorem rp_fold {k M n : Nat} (IH : ItR X tab R O k M n) {A : Around} {g : List Code} (hg : A.guards = some g) (hr : RmT tab (k + n) A) (hf : A.frames = X.A.frames) {pins : List (Addr × Obj)} {σ : L2.St} :
    ∀ (l : List Value) (xs : List V) (ps : List PV) (ts : List Str) (acc : Array Str) (m : Nat) (ι : List Addr) (H : Hp) (s : Shared) (Q : (Array Str × Nat) → Shared → Prop), Vals xs l → RepL X.K ι (fz R ι O H) ps xs → shL (shO tab O n) ps = some ts → m + piled ts ≤ sizeLine → Sim X.K R ι O H → Inv X pins σ H s → (∀ q ∈ ps, ClrG X.K R ι O H tab M g q) →
    (∀ ι' H' s', Sim X.K R ι' O H' → Ext R ι O H ι' O H' → Inv X pins σ H' s' → Q ⟨acc ++ ts.toArray, m + piled ts⟩ s') → wpAny (model X.prog X.w) A (forIn l (⟨acc, m⟩ : (Array Str × Nat)) tupBody) Q X.xe s := by
  intro l
  induction l with
  | nil =>
    intro xs ps ts acc m ι H s Q rv rl sh _ S I _ h
    cases rv
    have e : ps = [] := List.length_eq_zero_iff.mp (by rw [← rl.len]; rfl)
    subst e
    cases sh
    simp only [List.forIn_nil]
    have := h ι H s S .refl I
    exact wpAny_pure (by simpa [piled] using this)
  | cons u l ih =>
    intro xs ps ts acc m ι H s Q rv rl sh hn S I hc h
    cases rv with
    | @cons x _ xr _ ru rv =>
      cases ps with
      | nil => cases rl
      | cons p ps =>
        obtain ⟨_, _, e, rx, rl⟩ := rl
        cases e
        obtain ⟨t, tr, rfl, ht, sh⟩ := shL_cons sh
        rw [piled_cons] at hn
        rw [List.forIn_cons]
        refine wpAny_bind (wpAny_bind (IH p t ht ι H x u pins σ s A g _ (m + 1) S rx ru I hg (hc p List.mem_cons_self) hr hf (by omega) fun ι' H' s' S' x' I' => wpAny_pure ?_))
        refine ih xr ps tr (acc.push t) (m + (t.length + 2)) ι' H' s' Q rv (x'.repL rl) sh (by omega) S' I' (fun q hq => (hc q (List.mem_cons_of_mem _ hq)).ext x') fun ι2 H2 s2 S2 x2 I2 => ?_
        have h1 := h ι2 H2 s2 S2 (x'.trans x2) I2
        have e : m + piled (t :: tr) = m + (t.length + 2) + piled tr := by rw [piled_cons]; omega
        rw [e] at h1
        simpa using h1
theorem rp_tup_at {k M n : Nat} (IH : ItR X tab R O k M n) (hM : n + 1 ≤ M) {p : PV} {ps : List PV} {ts : List Str} {a : Addr} (h0 : tupOf p = some ps) (sh : shL (shO tab O n) ps = some ts) {tp : Str} (hp : shO tab O M p = some tp)
    {A : Around} {g : List Code} {base : Nat} {id : String} {rest : List Value} (hcg : (Code.builtin id ⟨.ref a :: rest, []⟩).isGuard = true) (hcd : (A.under (.builtin id ⟨.ref a :: rest, []⟩)).depth ≤ A.depth + 1) (hcu : (A.under (.builtin id ⟨.ref a :: rest, []⟩)).units = A.units + 1) (hcf : (A.under (.builtin id ⟨.ref a :: rest, []⟩)).frames = A.frames)
    (hg : A.guards = some g) (hr : RmT tab (k + n + 1) A) (hf : A.frames = X.A.frames) (hsz : base + (tupleText ts).length ≤ sizeLine) {Rr : Result → Shared → Prop} {pins : List (Addr × Obj)} {σ : L2.St} {ι : List Addr} {H : Hp} {s : Shared} (hE : ∀ e s', X.xe e s' → Rr (.error e) s')
    (S : Sim X.K R ι O H) (r : Rep X.K ι (fz R ι O H) p (.ref a)) (hc : ClrG X.K R ι O H tab M g p) (I : Inv X pins σ H s)
    (hR : ∀ ι' H' s' u, Sim X.K R ι' O H' → Ext R ι O H ι' O H' → Inv X pins σ H' s' → Rr (.ok (.ret (.str (tupleText ts) u))) s') :
    wpOwn (model X.prog X.w) A (.builtin id ⟨.ref a :: rest, []⟩) (Builtin.tupleReprAt base ⟨[.ref a], []⟩) (fun fin s' => match fin with | .done f => Rr (.ok f) s' | .again c' => c'.quiet = true ∧ codeAny (model X.prog X.w) A c' Rr s') (fun e s' => Rr (.error e) s') s := by
  obtain ⟨a', xs, ea, sq, l⟩ := tupOf_read r h0
  cases ea
  obtain ⟨its, rv, ⟨o, ha, _, m, hda⟩, _⟩ := I.tuple (sqt_same S.frozen sq)
  have hca := hc.clear S I r hp
  have hlen : ts.length = its.toArray.size := by
    rw [shL_len sh, List.size_toArray, ← rv.length, l.len]
  have hpl := piled_le_tupleText ts
  have hsz0 : (tupleText ts).length ≤ sizeLine := by omega
  rw [tuple_repr_tree, tupleReprUnderWay_eq]
  refine wpOwn_bind (wpOwn_stackTailAny hg (tupGuardF_off _) (tupGuardF_pos _) ?_)
  have hn : (g.any fun c => tupGuardF (.ref a) (c, default)) = false := by
    rw [List.any_eq_false]
    intro c hcm
    rw [tupGuardF_of_clear hca c hcm]
    exact Bool.false_ne_true
  rw [hn]
  refine wpOwn_of_wpAny ?_
  show wpAny _ _ (tupleReprRest base (.ref a)) _ _ s
  unfold tupleReprRest Builtin.Tuple.tupleItemsOf
  refine wpAny_bind (wpAny_bind (wpAny_seqItems ha hda (wpAny_pure ?_)))
  rw [← Array.forIn_toList]
  refine wpAny_bind (wpAny_mono (rp_fold IH (guards_under_guard hcg hg) (RmT.tupG hr hcd hcu) (by rw [hcf]; exact hf) its xs ps ts _ _ ι H s (fun v s' => v = ⟨#[] ++ ts.toArray, base + piled ts⟩ ∧ ∃ ι' H', Sim X.K R ι' O H' ∧ Ext R ι O H ι' O H' ∧ Inv X pins σ H' s') rv l sh (by omega) S I (fun q hq => hc.kid (pdp_lt (kids_tup h0) sh hq hM) r hp) fun ι' H' s' S' x' I' => ⟨rfl, ι', H', S', x', I'⟩) (fun v s' hz => ?_) hE)
  obtain ⟨rfl, ι', H', S', x', I'⟩ := hz
  refine wpAny_bind (wpAny_mkStr (wpAny_pure ?_) (by simpa [tupleText, hlen] using hsz0))
  have h1 := hR ι' H' _ s'.toks S' x' (I'.tok (s'.toks + 1))
  simpa [tupleText, hlen] using h1
theorem sc_is {ι : List Addr} {G : Hp} {p : PV} {x : V} {u : Value} {t : Str} (h : scT p = some t) (r : Rep X.K ι G p x) (ru : RelV x u) : ReprIs X.prog X.w u t := by
  cases p with
  | non => cases h; cases r; cases ru; exact ReprIs.none
  | bl b => cases h; cases r; cases ru; exact ReprIs.bool b
  | int i =>
    cases r
    obtain ⟨tk, rfl⟩ := ru
    have h : (if i.natAbs.log2 < 1920 then some (toString i : Str) else none) = some t := h
    split at h
    · rename_i c; cases h; exact ReprIs.int tk c
    · cases h
  | str z =>
    cases r
    obtain ⟨tk, rfl⟩ := ru
    have h : (if (reprText z).length ≤ sizeLine then some (reprText z) else none) = some t := h
    split at h
    · rename_i c; cases h; exact ReprIs.str z tk c
    · cases h
  | _ => cases h
theorem scT_rep {ι ι' : List Addr} {G G' : Hp} {p : PV} {x : V} {t : Str} (h : scT p = some t) (r : Rep X.K ι G p x) : Rep X.K ι' G' p x := by
  cases p with
  | non => exact r
  | bl b => exact r
  | int i => exact r
  | str z => exact r
  | _ => cases h
theorem scT_repL {ι ι' : List Addr} {G G' : Hp} : ∀ {ps : List PV} {xs : List V}, ps.all (fun p => (scT p).isSome) = true → RepL X.K ι G ps xs → RepL X.K ι' G' ps xs
  | [], _, _, l => l
  | p :: ps, xs, h, l => by
    obtain ⟨x, r, ex, rx, rl⟩ := l
    rw [List.all_cons, Bool.and_eq_true] at h
    obtain ⟨t, ht⟩ := Option.isSome_iff_exists.mp h.1
    exact ⟨x, r, ex, scT_rep ht rx, scT_repL h.2 rl⟩
def VI (X : Cx) (tab : List (Str × MF)) (H1 : Hp) (u : Value) (b : Str) : Prop := ReprIs X.prog X.w u b ∨ ∃ y C ns ps m, RelV (.ref y) u ∧ Rep X.K [] H1 (.ins C ns ps) (.ref y) ∧ tab.lookup C = some m ∧ m [.ins C ns ps] [] = .ok (.str b) []
theorem vi_of {ι : List Addr} {G H1 : Hp} {p : PV} {x : V} {u : Value} {t : Str} (h : viT tab p = some t) (r : Rep X.K ι G p x) (ru : RelV x u) (hG : ∀ y C dx fl, G y = some (.ins C dx fl) → H1 y = some (.ins C dx fl)) : VI X tab H1 u t := by
  cases p with
  | ins C ns ps =>
    have h : (if ps.all (fun p => (scT p).isSome) then (match tab.lookup C with
      | some m => rprI m (.ins C ns ps) []
      | none => none) else none) = some t := h
    split at h
    · rename_i c
      cases e : tab.lookup C with
      | none => rw [e] at h; cases h
      | some m =>
        rw [e] at h
        obtain ⟨y, dx, xs, ex, g, hl, l⟩ := r
        subst ex
        exact .inr ⟨y, C, ns, ps, m, ru, ⟨y, dx, xs, rfl, hG _ _ _ _ g, hl, scT_repL c l⟩, e, rprI_some h⟩
    · cases h
  | non => exact .inl (sc_is (X := X) (ι := ι) (G := G) (p := .non) h r ru)
  | bl b => exact .inl (sc_is (X := X) (ι := ι) (G := G) (p := .bl b) h r ru)
  | int i => exact .inl (sc_is (X := X) (ι := ι) (G := G) (p := .int i) h r ru)
  | str z => exact .inl (sc_is (X := X) (ι := ι) (G := G) (p := .str z) h r ru)
  | _ => cases h
inductive EntV (X : Cx) (tab : List (Str × MF)) (H1 : Hp) : List DictEntry → List Str → Prop
  | nil : EntV X tab H1 [] []
  | cons {e : DictEntry} {a b : Str} {es : List DictEntry} {ts : List Str} (hk : ReprIs X.prog X.w e.key a) (hv : VI X tab H1 e.val b) (t : EntV X tab H1 es ts) : EntV X tab H1 (e :: es) ((a ++ ": " ++ b) :: ts)
theorem EntV.len {H1 : Hp} {es : List DictEntry} {ts : List Str} (h : EntV X tab H1 es ts) : ts.length = es.length := by
  induction h with
  | nil => rfl
  | cons _ _ _ ih => simp [ih]
theorem EntV.item {H1 : Hp} {es : List DictEntry} {ts : List Str} (h : EntV X tab H1 es ts) : ∀ (i : Nat) (e : DictEntry), es[i]? = some e → ∃ a b : Str, ts[i]? = some (a ++ ": " ++ b) ∧ ReprIs X.prog X.w e.key a ∧ VI X tab H1 e.val b := by
  induction h with
  | nil => intro i e q; simp at q
  | cons hk hv t ih =>
    intro i e q
    cases i with
    | zero =>
      simp only [List.getElem?_cons_zero, Option.some.injEq] at q
      subst q
      exact ⟨_, _, rfl, hk, hv⟩
    | succ i =>
      simp only [List.getElem?_cons_succ] at q ⊢
      exact ih i e q
theorem dic_ents {ι : List Addr} {G H1 : Hp} (hG : ∀ y C dx fl, G y = some (.ins C dx fl) → H1 y = some (.ins C dx fl)) : ∀ {ks vs : List PV} {ts : List Str} {kvs : List (Key × V)} {ws : List (Key × Value)} {es : List DictEntry}, shD tab ks vs = some ts → ks.map keyP = kvs.map (fun w => some w.1) → RepL X.K ι G vs (kvs.map (·.2)) → L2.KV kvs ws → Pairs (mixKind X.prog X.w) es ws → EntV X tab H1 es ts
  | [], [], ts, kvs, ws, es, h, e, _, r, p => by
    cases h
    cases kvs with
    | nil => cases r; cases p; exact .nil
    | cons _ _ => cases e
  | [], _ :: _, _, _, _, _, h, _, _, _, _ => by cases h
  | _ :: _, [], _, _, _, _, h, _, _, _, _ => by cases h
  | k :: ks, v :: vs, ts, kvs, ws, es, h, e, l, r, p => by
    unfold shD at h
    cases c1 : keyP k with
    | none => simp only [c1] at h; cases h
    | some kk =>
      cases c2 : scT k with
      | none => simp only [c1, c2] at h; cases h
      | some a =>
        cases c3 : viT tab v with
        | none => simp only [c1, c2, c3] at h; cases h
        | some b =>
          cases c4 : shD tab ks vs with
          | none => simp only [c1, c2, c3, c4] at h; cases h
          | some tr =>
            simp only [c1, c2, c3, c4] at h
            cases h
            cases kvs with
            | nil => cases e
            | cons kv kvs =>
              rw [List.map_cons, List.map_cons, c1] at e
              injection e with e1 e2
              injection e1 with e1
              obtain ⟨x, xr, ex, rx, rl⟩ := l
              rw [List.map_cons] at ex
              injection ex with ex1 ex2
              subst ex1 ex2
              cases r with
              | cons rh rt =>
                cases p with
                | cons hk hv pt =>
                  refine .cons ?_ ?_ (dic_ents hG c4 e2 rl rt pt)
                  · have hk : keyIs _ _ = true := hk
                    rw [← rh.1, ← e1] at hk
                    cases k with
                    | int i =>
                      cases c1
                      rcases keyIs_shape hk with ⟨j, t, e3, e4⟩ | ⟨z, t, e3, e4⟩
                      · cases e3
                        rw [e4]
                        exact sc_is (X := X) (ι := ι) (G := G) (x := .int i) c2 rfl ⟨t, rfl⟩
                      · cases e3
                    | str z =>
                      cases c1
                      rcases keyIs_shape hk with ⟨j, t, e3, e4⟩ | ⟨y, t, e3, e4⟩
                      · cases e3
                      · cases e3
                        rw [e4]
                        exact sc_is (X := X) (ι := ι) (G := G) (x := .str z) c2 rfl ⟨t, rfl⟩
                    | _ => cases c1
                  · rw [hv]
                    exact vi_of c3 rx rh.2 hG
theorem ers_nil (H : Hp) : ers [] H = H := by
  funext b
  exact ers_out (by simp)
theorem sim_nil0 {K : PySem.W.Frag} {H : Hp} : Sim K [] [] [] H := by
  refine ⟨rfl, List.nodup_nil, ?_, ?_, ?_⟩
  · intro x h
    cases h
  · intro a h
    cases h
  · intro n a p h
    cases h
theorem Sim.growR {K : PySem.W.Frag} {ι : List Addr} {H H2 : Hp} (S : Sim K R ι O H) (hg : ∀ b o, H b = some o → H2 b = some o) : Sim K R ι O H2 ∧ Ext R ι O H ι O H2 := by
  have sm : Same (fz R ι O H) (fz R ι O H2) := fun b o e => by
    by_cases c : b ∈ R.map (·.1) ++ lv ι O
    · have : ers (R.map (·.1) ++ lv ι O) H b = none := by
        unfold ers
        rw [if_pos c]
      rw [show fz R ι O H b = none from this] at e
      cases e
    · have e1 : fz R ι O H b = H b := ers_out c
      have e2 : fz R ι O H2 b = H2 b := ers_out c
      rw [e2]
      rw [e1] at e
      exact hg b o e
  refine ⟨⟨S.len, S.nd, fun x hx => hg _ _ (S.hid x hx), fun a ha z => ?_, fun n a p h1 h2 => ?_⟩, ⟨.refl, sm⟩⟩
  · cases e : H a with
    | none => exact S.thr a ha e
    | some o => rw [hg _ _ e] at z; cases z
  · obtain ⟨o, h3, h4⟩ := S.obj n a p h1 h2
    exact ⟨o, hg _ _ h3, h4.mono .refl sm⟩
theorem rp_vi {k : Nat} (T : TabR X k tab) {b : Str} {u : Value} {H1 H' : Hp} {pins : List (Addr × Obj)} {σ : L2.St} {s : Shared} {A : Around} {Q : Str → Shared → Prop} {base : Nat} (hv : VI X tab H1 u b) (grow : ∀ c o, H1 c = some o → H' c = some o) (I : Inv X pins σ H' s) (hr : RmT tab k A) (hf : A.frames = X.A.frames) (hsz : base + b.length ≤ sizeLine) (hQ : ∀ H'' s'', (∀ c o, H' c = some o → H'' c = some o) → Inv X pins σ H'' s'' → Q b s'') : wpAny (model X.prog X.w) A (pyReprUnder base u) Q X.xe s := by
  rcases hv with h | ⟨y, C, ns, ps, m, ru, r, e, km⟩
  · exact h base hsz A _ s Q fun tk => hQ H' _ (fun _ _ z => z) (I.tok tk)
  have room : A.units < cLine := by have := hr.un; omega
  have r : Rep X.K [] (fz [] [] [] H') (.ins C ns ps) (.ref y) := r.mono .refl fun b o z => by
    show ers [] H' b = _
    rw [ers_nil]
    exact grow b o z
  obtain ⟨d, D, hm, hb⟩ := T.at_ e
  obtain ⟨a, dx, xs, ea, hi2, _⟩ := ins_read (sim_nil0 (K := X.K) (H := H')) r rfl
  cases ea
  cases ru
  obtain ⟨fd, F, G⟩ := D.ex
  obtain ⟨mA, J, _⟩ := ins_get I.hok hi2
  obtain ⟨od, J, _⟩ := J.look
  refine PySem.W.pyReprUnder_own (by omega) room I.kIn J hm.at_ hm.fn ?_
  refine wpAny_mono (run_fnA (us := [.ref y]) (vs := [.ref y]) (dvs := []) (ds := []) (E := E0) (Q := fun v H'' => v = .str b ∧ ∃ ι', Sim X.K [] ι' [] H'' ∧ Ext [] [] [] H' ι' [] H'') G ((hr.room e).mono (Nat.le_refl _)) hf (FunD.bdN F hb) .nil pass0 I (.cons rfl .nil) ⟨[], [], [], [.ins C ns ps], sim_nil0, .one r, ?_⟩) (fun v s' z => ?_) fun _ _ z => z
  · rw [km]
    intro v ι' H'' S' x' rv
    cases rv
    exact ⟨rfl, ι', S', x'⟩
  · obtain ⟨v, H'', I', rw_, rfl, ι', S', x'⟩ := z
    obtain ⟨tk, rfl⟩ := rw_
    refine ⟨_, _, rfl, hQ H'' s' (fun c o z => ?_) I'⟩
    have e2 : ι' = [] := List.length_eq_zero_iff.mp S'.len
    subst e2
    have := x'.same c o (show ers [] H' c = some o by rw [ers_nil]; exact z)
    rw [show fz [] [] [] H'' c = ers [] H'' c from rfl, ers_nil] at this
    exact this
theorem depth_dic (A : Around) (args : Args) : (A.under (.builtin "dict.__repr__" args)).depth ≤ A.depth + 1 := by
  first | exact Nat.le_refl _ | simp [Around.under, Code.weight, Code.isCreation, Code.isGuard, Code.isCaller, Code.frames, Code.isFrame, guardIds]
theorem depth_dicU (A : Around) (args : Args) : (A.under (.builtin "dict.__repr__.under" args)).depth ≤ A.depth + 1 := by
  first | exact Nat.le_refl _ | simp [Around.under, Code.weight, Code.isCreation, Code.isGuard, Code.isCaller, Code.frames, Code.isFrame, guardIds]
theorem frames_dic (A : Around) (args : Args) : (A.under (.builtin "dict.__repr__" args)).frames = A.frames := by
  first | rfl | simp [Around.under, pushEnvs, Code.envs]
theorem frames_dicU (A : Around) (args : Args) : (A.under (.builtin "dict.__repr__.under" args)).frames = A.frames := by
  first | rfl | simp [Around.under, pushEnvs, Code.envs]
theorem rp_dicV_at {k : Nat} (T : TabR X k tab) {a : Addr} {ks vs : List PV} {ts : List Str} {kvs : List (Key × V)} {ι : List Addr} {H : Hp} {od : Obj} {es : Array DictEntry} {ep : Nat} (hd0 : shD tab ks vs = some ts) (S : Sim X.K R ι O H) (hi : fz R ι O H a = some (.dK kvs)) (e1 : ks.map keyP = kvs.map (fun w => some w.1)) (l : RepL X.K ι (fz R ι O H) vs (kvs.map (·.2)))
    {A : Around} {g : List Code} {id : String} {rest : List Value} (hcu : (A.under (.builtin id ⟨.ref a :: rest, []⟩)).units = A.units + 1) (hcd : (A.under (.builtin id ⟨.ref a :: rest, []⟩)).depth ≤ A.depth + 1) (hcf : (A.under (.builtin id ⟨.ref a :: rest, []⟩)).frames = A.frames)
    (hg : A.guards = some g) (hca : Clear g a) (hr : RmT tab (k + 1) A) (hf : A.frames = X.A.frames) {base : Nat} (hsz : base + (dictText ts).length ≤ sizeLine) {Rr : Result → Shared → Prop} {pins : List (Addr × Obj)} {σ : L2.St} {s : Shared} (hE : ∀ e s', X.xe e s' → Rr (.error e) s') (I : Inv X pins σ H s)
    (hR : ∀ H' s' u, (∀ b o, H b = some o → H' b = some o) → Inv X pins σ H' s' → Rr (.ok (.ret (.str (dictText ts) u))) s') :
    wpOwn (model X.prog X.w) A (.builtin id ⟨.ref a :: rest, []⟩) (Builtin.dictReprAt base ⟨[.ref a], []⟩) (fun fin s' => match fin with | .done f => Rr (.ok f) s' | .again c' => c'.quiet = true ∧ codeAny (model X.prog X.w) A c' Rr s') (fun e s' => Rr (.error e) s') s := by
  have hiH : H a = some (.dK kvs) := S.frozen _ _ hi
  obtain ⟨od, I1⟩ := I.lock hiH True.intro
  obtain ⟨g0, _, hsys, ws, kv, ⟨o, es, ep, g1, ex, hd, _, pr, _⟩⟩ := (show ObjOk _ _ _ s.heap a (.frz od (.dK kvs)) from I1.hok a _ upd_same)
  have g1 : s.heap.get? a = some o := g1
  rw [g0] at g1
  cases g1
  have at_ : ∀ {H' s'}, H' a = some (.frz od (.dK kvs)) → Inv X pins σ H' s' → s'.heap.get? a = some od := fun {H' s'} e I' => (show ObjOk _ _ _ _ a (.frz od (.dK kvs)) from I'.hok a _ e).1
  have hG : ∀ y C dx fl, fz R ι O H y = some (.ins C dx fl) → (upd H a (.frz od (.dK kvs))) y = some (.ins C dx fl) := fun y C dx fl e => by
    have e2 := S.frozen _ _ e
    have : y ≠ a := fun z => by rw [z, hiH] at e2; cases e2
    rw [upd_ne this]
    exact e2
  have ent := dic_ents (tab := tab) hG hd0 e1 l kv pr
  have hTy : s.TypeIs (.ref a) "dict" := ⟨od, at_ upd_same I1, ex.1⟩
  have hlen : ts.length = es.size := by simpa using ent.len
  have hp3 := piled_le_dictText ts
  have hsz0 : (dictText ts).length ≤ sizeLine := by omega
  unfold Builtin.dictReprAt
  refine wpOwn_bind (wpOwn_of_wpAny ?_)
  unfold Builtin.Dict.dictSlotNone
  refine wpAny_bind (wpAny_notOrdered_dict hTy ?_)
  show wpAny _ _ (pure (Value.ref a)) _ _ s
  refine wpAny_pure ?_
  rw [dictReprRunning_eq]
  refine wpOwn_bind (wpOwn_stackTailAny hg (dictGuardF_off _) (dictGuardF_pos _) ?_)
  have hn : (g.any fun c => dictGuardF (.ref a) (c, default)) = false := by
    rw [List.any_eq_false]
    intro c hcm
    rw [dictGuardF_of_clear hca c hcm]
    exact Bool.false_ne_true
  rw [hn]
  refine wpOwn_of_wpAny ?_
  have hr' : RmT tab k (A.under (.builtin id ⟨.ref a :: rest, []⟩)) := RmT.tupG hr hcd hcu
  have hf' : (A.under (.builtin id ⟨.ref a :: rest, []⟩)).frames = X.A.frames := by rw [hcf]; exact hf
  show wpAny _ _ (Builtin.Dict.addrOf (.ref a) >>= _) _ _ s
  refine wpAny_bind (wpAny_pure ?_)
  show wpAny _ _ (Builtin.Dict.showsAll a >>= _) _ _ s
  unfold Builtin.Dict.showsAll
  rw [if_neg (by rw [hsys]; exact Bool.false_ne_true)]
  refine wpAny_bind (wpAny_pure ?_)
  refine wpAny_bind (wpAny_dictEpoch (at_ upd_same I1) hd ?_)
  refine wpAny_bind (wpAny_dictEntries (at_ upd_same I1) hd ?_)
  refine wpAny_bind ?_
  rw [Std.Legacy.Range.forIn_eq_forIn_range']
  simp only [Std.Legacy.Range.size, Nat.sub_zero, Nat.add_sub_cancel, Nat.div_one]
  refine wpAny_mono (E := X.xe) ?_ (fun _ _ z => z) (fun e s' z => hE e s' z)
  refine wpAny_forIn_list _
    (fun rest' r s' => ∃ i H', rest' = List.range' i (es.size - i) ∧ i ≤ es.size ∧ r = (⟨(ts.take i).toArray, base + piled (ts.take i)⟩ : (Array Str × Nat)) ∧ (∀ b o, upd H a (.frz od (.dK kvs)) b = some o → H' b = some o) ∧ Inv X pins σ H' s')
    _ ?_ ?_ _ _ ⟨0, _, by simp, Nat.zero_le _, by simp [piled], fun _ _ z => z, I1⟩
  · rintro x rest' _ s' ⟨i, H', hr2, hi2, rfl, gr, I'⟩
    have hlt : i < es.size := by
      rcases Nat.lt_or_ge i es.size with h | h
      · exact h
      · rw [Nat.sub_eq_zero_of_le h] at hr2; simp at hr2
    obtain ⟨rfl, hrest⟩ : x = i ∧ rest' = List.range' (i + 1) (es.size - (i + 1)) := by
      have e : es.size - i = (es.size - (i + 1)) + 1 := by omega
      rw [e, List.range'_succ] at hr2
      injection hr2 with h1 h2
      exact ⟨h1, h2⟩
    obtain ⟨kt, vt, hp, hk, hv⟩ := ent.item x es[x] (by simp [hlt])
    have hpl : (kt ++ ": " ++ vt).length = kt.length + 2 + vt.length := by
      rw [strLen_append, strLen_append]; rfl
    have hp1 := piled_take_succ hp
    have hp2 := piled_take_le ts (x + 1)
    rw [hpl] at hp1
    have ga := gr a _ upd_same
    refine wpAny_bind (wpAny_dictEntries (at_ ga I') hd ?_)
    rw [Array.getElem?_eq_getElem hlt]
    refine wpAny_bind (wpAny_holding (wpAny_bind (hk (base + piled (ts.take x) + 1) (by omega) _ _ _ _ fun tk =>
      wpAny_bind (rp_vi T (base := base + piled (ts.take x) + (kt.length + 3)) hv gr (I'.tok tk) hr' hf' (by omega) fun H2 s2 gr2 I2 => wpAny_pure ?_))))
    refine wpAny_bind (wpAny_dictEpoch (at_ (gr2 _ _ ga) I2) hd ?_)
    rw [if_neg (by simp)]
    have e1 : (ts.take x).toArray.push (kt ++ ": " ++ vt) = (ts.take (x + 1)).toArray := by
      rw [List.take_add_one, hp]
      simp
    have e2 : base + piled (ts.take x) + (kt.length + vt.length + 4) = base + piled (ts.take (x + 1)) := by omega
    refine wpAny_pure ⟨x + 1, H2, hrest, hlt, ?_, fun b o z => gr2 b o (gr b o z), I2⟩
    rw [e1, e2]
  · rintro _ s' ⟨i, H', hr2, hi2, rfl, gr, I'⟩
    have hin : i = es.size := by
      rcases Nat.lt_or_ge i es.size with h | h
      · have e : es.size - i = (es.size - (i + 1)) + 1 := by omega
        rw [e, List.range'_succ] at hr2; exact nomatch hr2
      · exact Nat.le_antisymm hi2 h
    rw [hin, ← hlen, List.take_length]
    refine wpAny_bind (wpAny_mkStr (wpAny_pure ?_) (by simpa [dictText] using hsz0))
    have ga := gr a _ upd_same
    have I2 := (I'.tok (s'.toks + 1)).unlock ga (I.nofrz hiH True.intro)
    have h1 := hR _ _ s'.toks (fun b o z => ?_) I2
    · simpa [dictText] using h1
    · by_cases c : b = a
      · subst c
        rw [hiH] at z
        rw [upd_same]
        exact z
      · rw [upd_ne c]
        exact gr b o (by rw [upd_ne c]; exact z)
theorem rp_run {k M : Nat} (T : TabR X k tab) (hx : ∀ e s', ¬ X.xe e s' → True) : ∀ n, n ≤ M → ItR X tab R O k M n
  | 0, _ => fun _ _ h => nomatch h
  | n + 1, hM => fun p t h ι H x u pins σ s A g Q base S r ru I hg hc hr hf hsz hQ => by
    have IH := rp_run (M := M) T hx n (by omega)
    have hp := shO_mono (n + 1) M p t h hM
    have room : A.units < cLine := by have := hr.un; omega
    cases shC_of h with
    | non =>
      cases r
      cases ru
      exact ReprIs.none base hsz A _ s Q fun tk => hQ ι H _ S .refl (I.tok tk)
    | bl b =>
      cases r
      cases ru
      exact ReprIs.bool b base hsz A _ s Q fun tk => hQ ι H _ S .refl (I.tok tk)
    | int i hi =>
      cases r
      obtain ⟨tk, rfl⟩ := ru
      exact ReprIs.int tk hi base hsz A _ s Q fun tk => hQ ι H _ S .refl (I.tok tk)
    | str z hz =>
      cases r
      obtain ⟨tk, rfl⟩ := ru
      exact ReprIs.str z tk hz base hsz A _ s Q fun tk => hQ ι H _ S .refl (I.tok tk)
    | tup h0 sh =>
      obtain ⟨a, xs, ea, sq, l⟩ := tupOf_read r h0
      subst ea
      cases ru
      obtain ⟨its, rv, ⟨o, ha, hcl, m, hda⟩, _⟩ := I.tuple (sqt_same S.frozen sq)
      refine wpAny_pyReprUnder_ref (by omega) (wpAny_pyReprObjUnder_twin (twin := "tuple.__repr__.under") ⟨o, ha, hcl⟩ F.slot_tuple_repr rfl room ?_)
      exact call_twin_own (F.quiet_tuple_repr_under _) F.entry_tuple_repr_under F.check_tuple_repr_under ⟨o, ha, hcl⟩ F.slot_tuple_repr (F.args_tuple_repr_1 _) (rp_tup_at IH hM h0 sh hp (isGuard_tuple_repr_under _) (depth_tupU _ _) (units_under_tuple_repr_under _ _) (frames_tupU _ _) hg hr hf hsz (Rr := callEnd _ _) (fun e s' z => z) S r hc I fun ι' H' s' u S' x' I' => ⟨⟨_, _, rfl⟩, _, _, rfl, hQ ι' H' s' S' x' I'⟩)
    | @lst _ ps _ h0 hl sh =>
      obtain ⟨a, xs, ea, sq, l⟩ := lst_read S r hl
      subst ea
      cases ru
      obtain ⟨its, rv, ⟨o, m, ha, hcl, _, hda⟩, _⟩ := I.list sq
      cases ps with
      | nil =>
        cases sh
        have e1 := l.len
        have e2 := rv.length
        have e3 : its = [] := List.length_eq_zero_iff.mp (by rw [← e2, e1]; rfl)
        subst e3
        refine wpAny_pyReprUnder_ref (by omega) (wpAny_pyReprObjUnder_list_empty ⟨o, ha, hcl⟩ room ha hda ⟨_, _, by rw [listText_nil], hQ ι H _ S .refl (I.tok _)⟩)
      | cons q ps =>
        refine wpAny_pyReprUnder_ref (by omega) (wpAny_pyReprObjUnder_twin (twin := "list.__repr__.under") ⟨o, ha, hcl⟩ F.slot_list_repr.toG rfl room ?_)
        exact call_twin_plain F.plain_list_repr_under F.entry_list_repr_under F.check_list_repr_under ⟨o, ha, hcl⟩ F.slot_list_repr.toG (F.args_list_repr_1 _) (rp_list_at IH hM h0 hl sh hp hg hr hf hsz (Rr := callEnd _ _) (fun e s' z => z) S r hc I fun ι' H' s' u S' x' I' => ⟨⟨_, _, rfl⟩, _, _, rfl, hQ ι' H' s' S' x' I'⟩)
    | dic kd =>
      have hca := fun (a : Addr) (r : Rep X.K ι (fz R ι O H) _ (.ref a)) => hc.clear S I r hp
      obtain ⟨a, kvs, ea, hi, e1, l⟩ := r
      subst ea
      cases ru
      obtain ⟨_, hsys, vs, kv, ⟨o, es, ep, ha, ex, hd, _, pr, _⟩⟩ := (show ObjOk _ _ H s.heap a (.dK _) from I.hok a _ (S.frozen _ _ hi))
      refine wpAny_pyReprUnder_ref (by omega) (wpAny_pyReprObjUnder_twin (twin := "dict.__repr__.under") ⟨o, ha, ex.1⟩ F.slot_dict_repr rfl room ?_)
      exact call_twin_own (F.quiet_dict_repr_under _) F.entry_dict_repr_under F.check_dict_repr_under ⟨o, ha, ex.1⟩ F.slot_dict_repr (F.args_dict_repr_1 _) (rp_dicV_at (od := o) (es := es) (ep := ep) T kd S hi e1 l (units_under_dict_repr_under _ _) (depth_dicU _ _) (frames_dicU _ _) hg (hca a ⟨a, kvs, rfl, hi, e1, l⟩) (hr.mono (by omega)) hf hsz (Rr := callEnd _ _) (fun e s' z => z) I fun H' s' u gr I' => ⟨⟨_, _, rfl⟩, _, _, rfl, hQ ι H' s' (S.growR gr).1 (S.growR gr).2 I'⟩)
    | ins h0 hi e km =>
      obtain ⟨d, D, hm, hb⟩ := T.at_ e
      obtain ⟨a, dx, xs, ea, hi2, _⟩ := ins_read S r hi
      subst ea
      cases ru
      obtain ⟨fd, F, G⟩ := D.ex
      obtain ⟨mA, J, _⟩ := ins_get I.hok hi2
      obtain ⟨od, J, _⟩ := J.look
      refine PySem.W.pyReprUnder_own (by omega) room I.kIn J hm.at_ hm.fn ?_
      refine wpAny_mono (run_fnA (us := [.ref a]) (vs := [.ref a]) (dvs := []) (ds := []) (E := E0) (Q := fun v H' => v = .str t ∧ ∃ ι', Sim X.K R ι' O H' ∧ Ext R ι O H ι' O H') G ((hr.room e).mono (show k ≤ k + (n + 1) by omega)) hf (FunD.bdN F hb) .nil pass0 I (.cons rfl .nil) ⟨R, ι, O, [p], S, .one r, ?_⟩) (fun v s' z => ?_) fun _ _ z => z
      · rw [km]
        intro v ι' H' S' x' rv
        cases rv
        exact ⟨rfl, ι', S', x'⟩
      · obtain ⟨v, H', I', rw_, rfl, ι', S', x'⟩ := z
        obtain ⟨tk, rfl⟩ := rw_
        exact ⟨_, _, rfl, hQ ι' H' s' S' x' I'⟩
def rReprO (K : PySem.W.Frag) (tab : List (Str × MF)) (xs : List V) (H : Hp) (Q : VK) : Prop := ∃ R ι O p x t, xs = [x] ∧ Sim K R ι O H ∧ Rep K ι (fz R ι O H) p x ∧ shO tab O 9 p = some t ∧ t.length ≤ sizeLine ∧ ∀ ι' H', Sim K R ι' O H' → Ext R ι O H ι' O H' → Q (.str t) H'
end
theorem call_reprR {X : Cx} {tab : List (Str × MF)} {k j : Nat} (T : TabR X k tab) (hg : X.A.guards = some []) (hr : RmT tab j X.A) (hj : k + 10 ≤ j) : CallR X (.builtin "repr") (rReprO X.K tab) := by
  intro pins s σ H xs us Q I rv h
  obtain ⟨R, ι, O, p, x, t, rfl, S, r, hs, hz, q⟩ := h
  obtain ⟨u, rfl, rx⟩ := vals1 rv
  have hr : RmT tab (k + 8 + 1) X.A.in1 := (hr.mono (show k + 8 + 1 + 1 ≤ j by omega)).in1
  have hu : X.A.units + 1 < cLine := by have := hr.un; show X.A.in1.units < _; omega
  have IH := rp_run (R := R) (O := O) (M := 9) T (fun _ _ _ => trivial) 8 (by omega)
  cases shC_of hs with
  | non =>
    cases r
    cases rx
    exact PySem.P.repr_of_none ⟨.str _, H, I.tok _, ⟨_, rfl⟩, q ι H S .refl⟩
  | bl b =>
    cases r
    cases rx
    exact PySem.P.repr_of_bool ⟨.str _, H, I.tok _, ⟨_, rfl⟩, q ι H S .refl⟩
  | int i hi =>
    cases r
    obtain ⟨tk, rfl⟩ := rx
    exact PySem.P.repr_of_int hi ⟨.str _, H, I.tok _, ⟨_, rfl⟩, q ι H S .refl⟩
  | str z hz =>
    cases r
    obtain ⟨tk, rfl⟩ := rx
    exact PySem.P.repr_of_str ⟨.str _, H, I.tok _, ⟨_, rfl⟩, q ι H S .refl⟩ hz
  | dic kd =>
    obtain ⟨a, kvs, ea, hi, e1, l⟩ := r
    subst ea
    cases rx
    obtain ⟨_, hsys, vs, kv, ⟨o, es, ep, ha, ex, hd, _, pr, _⟩⟩ := (show ObjOk _ _ H s.heap a (.dK _) from I.hok a _ (S.frozen _ _ hi))
    refine call_repr_slot hu ⟨o, ha, ex.1⟩ F.slot_dict_repr ?_
    exact wpAny_call (codeAny_call_builtin_own (Code.quiet_builtin _ (by decide +kernel)) F.entry_dict_repr (F.slot_dict_repr.check _ _ _ _ _ _ _ _ ⟨o, ha, ex.1⟩ (F.args_dict_repr_1 _)
      (rp_dicV_at (A := X.A.in1) (od := o) (es := es) (ep := ep) (base := 0) T kd S hi e1 l (units_under_dict_repr _ _) (depth_dic _ _) (frames_dic _ _) hg (Clear.nil a) (hr.mono (by omega)) rfl (by omega) (Rr := callEnd _ _) (fun e s' z => z) I fun H' s' u gr I' => ⟨_, _, rfl, .str _, H', I', ⟨u, rfl⟩, q ι H' (S.growR gr).1 (S.growR gr).2⟩)))
  | ins h0 hi e km =>
    obtain ⟨d, D, hm, hb⟩ := T.at_ e
    obtain ⟨a, dx, xs, ea, hi2, _⟩ := ins_read S r hi
    subst ea
    cases rx
    obtain ⟨fd, F, G⟩ := D.ex
    obtain ⟨mA, J, _⟩ := ins_get I.hok hi2
    obtain ⟨od, J, _⟩ := J.look
    obtain ⟨m', hF⟩ := I.fr
    refine PySem.W.repr_K (by have := hr.un; omega) hF I.ok.mod.kin J hm.at_ hm.fn ?_
    refine wpAny_mono (run_fnA (us := [.ref a]) (vs := [.ref a]) (dvs := []) (ds := []) (E := E0) (Q := fun v H' => v = .str t ∧ ∃ ι', Sim X.K R ι' O H' ∧ Ext R ι O H ι' O H') G ((hr.room e).mono (show k ≤ k + 8 + 1 by omega)) rfl (FunD.bdN F hb) .nil pass0 I (.cons rfl .nil) ⟨R, ι, O, [p], S, .one r, ?_⟩) (fun v s' z => ?_) fun _ _ z => z
    · rw [km]
      intro v ι' H' S' x' rv
      cases rv
      exact ⟨rfl, ι', S', x'⟩
    · obtain ⟨v, H', I', rw_, rfl, ι', S', x'⟩ := z
      obtain ⟨tk, rfl⟩ := rw_
      exact ⟨.str _, H', I', ⟨tk, rfl⟩, q ι' H' S' x'⟩
  | tup h0 sh =>
    obtain ⟨a, xs, ea, sq, l⟩ := tupOf_read r h0
    subst ea
    cases rx
    obtain ⟨its, rv, ⟨o, ha, hcl, m, hda⟩, _⟩ := I.tuple (sqt_same S.frozen sq)
    refine call_repr_slot hu ⟨o, ha, hcl⟩ F.slot_tuple_repr ?_
    exact wpAny_call (codeAny_call_builtin_own (Code.quiet_builtin _ (by decide +kernel)) F.entry_tuple_repr (F.slot_tuple_repr.check _ _ _ _ _ _ _ _ ⟨o, ha, hcl⟩ (F.args_tuple_repr_1 _) (rp_tup_at (A := X.A.in1) (base := 0) IH (by omega) h0 sh hs (isGuard_tuple_repr _) (depth_tup _ _) (units_under_tuple_repr _ _) (frames_tup _ _) hg hr rfl (by omega) (Rr := callEnd _ _) (fun e s' z => z) S r .nil I fun ι' H' s' u S' x' I' => ⟨_, _, rfl, .str _, H', I', ⟨u, rfl⟩, q ι' H' S' x'⟩)))
  | @lst _ ps _ h0 hl sh =>
    obtain ⟨a, xs, ea, sq, l⟩ := lst_read S r hl
    subst ea
    cases rx
    obtain ⟨its, rv, ⟨o, m, ha, hcl, _, hda⟩, _⟩ := I.list sq
    refine call_repr_slot hu ⟨o, ha, hcl⟩ F.slot_list_repr.toG ?_
    cases ps with
    | nil =>
      cases sh
      have e1 := l.len
      have e2 := rv.length
      have e3 : its = [] := List.length_eq_zero_iff.mp (by rw [← e2, e1]; rfl)
      subst e3
      exact call_list_repr_empty ⟨o, ha, hcl⟩ ha hda ⟨_, _, rfl, .str _, H, I.tok _, ⟨_, by rw [listText_nil]⟩, q ι H S .refl⟩
    | cons q' ps =>
      exact wpAny_call (codeAny_call_builtin F.slot_list_repr.plain F.entry_list_repr (F.slot_list_repr.check _ _ _ _ _ _ _ _ ⟨o, ha, hcl⟩ (F.args_list_repr_1 _) (rp_list_at (A := X.A.in1) (base := 0) IH (by omega) h0 hl sh hs hg hr rfl (by omega) (Rr := callEnd _ _) (fun e s' z => z) S r .nil I fun ι' H' s' u S' x' I' => ⟨_, _, rfl, .str _, H', I', ⟨u, rfl⟩, q ι' H' S' x'⟩)))
theorem call_reprO {X : Cx} {tab : List (Str × MF)} {k j : Nat} (T : TabR X k tab) (hg : X.A.guards = some []) (hr : Room j X.A) (hj : k + 10 ≤ j) : CallR X (.builtin "repr") (rReprO X.K tab) := call_reprR T hg ⟨.inr hr.hd, hr.dp, hr.un⟩ hj
noncomputable def bReprO (tab : List (Str × MF)) (ps : List PV) (O : Sto) : PR PV := match ps with
  | [p] => match shO tab O 9 p with
    | some t => if t.length ≤ sizeLine then .ok (.str t) O else .bad
    | none => .bad
  | _ => .bad
theorem cb_reprO {K : PySem.W.Frag} {tab : List (Str × MF)} : CbS K (rReprO K tab) (bReprO tab) := by
  intro R ι O H ps xs E Q S r h
  match ps, h with
  | [], h => exact h.elim
  | _ :: _ :: _, h => exact h.elim
  | [p], h =>
    obtain ⟨x, t, e, r1, e2⟩ := r
    cases e2
    subst e
    unfold bReprO at h
    simp only at h
    cases e2 : shO tab O 9 p with
    | none => simp only [e2] at h; exact h.elim
    | some t =>
      simp only [e2] at h
      split at h
      · rename_i c
        exact ⟨R, ι, O, p, x, t, rfl, S, r1, e2, c, fun ι' H' S' x' => h (.str t) ι' H' S' x' rfl⟩
      · exact h.elim
theorem go_reprO {tab : List (Str × MF)} {p : PV} {t : Str} {O : Sto} {Q : PV → Sto → Prop} (e2 : shO tab O 9 p = some t) (c : t.length ≤ sizeLine) (k : Q (.str t) O) : Go (bReprO tab [p] O) Q := by
  unfold bReprO
  simp only [e2]
  rw [if_pos c]
  exact k
end Qx

/-! Own layer Za: == and != of data, item by item: what is never looked at may be anything; empty dicts are alike. -/
namespace Qx
open PySem PySem.Spec PyProof.Rows L2 Gx
section
variable {X : Cx} {R : List (Addr × HO)} {O : Sto} {ι : List Addr} {H : Hp} {pins : List (Addr × Obj)} {σ : L2.St} {s : Shared}
def EqD (s : Shared) (n : Nat) (u v : Value) (b : Bool) : Prop := ∀ A : Around, A.units + n < cLine → SeqAt.EqAt A s u v b
theorem EqD.same {n : Nat} {v : Value} : EqD s n v v true := fun A _ => SeqAt.EqAt.same v
theorem d0_any {P P' : Program} {w w' : World} {h : Heap} {a : Addr} (d : h.DictOf (mixKind P w) a []) : h.DictOf (mixKind P' w') a [] := by
  obtain ⟨o, es, ep, h1, h2, h3, h4, h5, h6⟩ := d
  have e : es.toList = [] := by
    cases c : es.toList with
    | nil => rfl
    | cons _ _ => rw [c] at h5; cases h5
  refine ⟨o, es, ep, h1, h2, h3, fun x hx => ?_, by rw [e]; exact .nil, List.nodup_nil⟩
  have : x ∈ es.toList := by simpa using hx
  rw [e] at this
  cases this
theorem EqD.d0 {n : Nat} {P : Program} {w : World} {a a' : Addr} (hne : a ≠ a') (sa : (a == sysModules) = false) (sb : (a' == sysModules) = false) (da : s.heap.DictOf (mixKind P w) a []) (db : s.heap.DictOf (mixKind P w) a' []) : EqD s (n + 1) (.ref a) (.ref a') true :=
  fun A hu prog w E Q hq => SeqAt.EqIn.of_refs hne (fun E Q hq => PySem.W.keq_eqIn (knd := mixKind prog w) (r := true) sa sb (d0_any da) (d0_any db) (by omega) (fun _ => .nil) hq) E Q hq
end
end Qx

/-! Own layer Zb: the great letters of a text. -/
namespace Qx
open PySem PySem.Spec PyProof.Rows L2 Gx
variable {K : PySem.W.Frag}
end Qx

/-! Own layer Zc: a tuple of targets whose first one is a place of a list. -/
namespace Qx
open PySem PySem.Spec PyProof.Rows L2 Gx
theorem sim_gtupS {K : PySem.W.Frag} {E : XM} {g : TG} {f : GF} {gs : TGs} {fs : List PV → Slots → Sto → PR Slots} {n : Nat} (h1 : SimG K E g f) (h2 : SimGs K E gs fs) : SimG K E (gTup K n (gCons g gs)) (gTupP n (gConsP f fs)) := by
  intro R ι O H σ s p x Q S L r k
  unfold gTupP at k
  cases e : tupOf p with
  | none => simp [e] at k; exact k.elim
  | some ps =>
    simp only [e] at k
    split at k
    · rename_i c
      obtain ⟨a, xs, q1, q2, q3⟩ := tup_read S r e
      refine ⟨a, xs, q1, q2, by rw [q3.len]; exact c, ?_⟩
      cases ps with
      | nil => exact k.elim
      | cons p ps =>
        obtain ⟨x, r', e, r1, r2⟩ := q3
        refine ⟨x, r', e, h1 R ι O H σ s p x _ S L r1 (Post.bind (rp' := fun ι G s σ => SlR K ι G σ s) k fun s1 O1 σ1 ι1 H1 S1 X1 L1 k => h2 R ι1 O1 H1 σ1 s1 ps r' _ Q S1 L1 (X1.repL r2) k)⟩
    · exact k.elim
end Qx

/-! Own layer Zd: the end of a law that reaches repr and holds lambdas. -/
namespace Gx
open PySem PySem.Spec PyProof.Rows L2
section
variable {P : Program} {w : World} {K : PySem.W.Frag} {mg mb : Str → Option Value} {CX : CXT} {k : Nat} {fa a : Addr} {cs : List (Addr × Addr)} {fd : FuncData} {x : Str} {sp : Sp} {s₁ : Shared} {vs : List Value} {ns : List Int}
theorem tab_free {H : Hp} (tA : ∀ p ∈ cs, s₁.heap.get? p.2 = some { cls := .none, data := .fields #[] }) (ha : s₁.heap.get? a = some { cls := .type "list", data := .seq vs.toArray })
    (only : ∀ b, H b ≠ none → b = a ∨ b ∈ cs.map (·.2)) {b : Addr} {o : Obj} (e : s₁.heap.get? b = some o) (n1 : o.data ≠ .seq vs.toArray) (n2 : o.data ≠ .fields #[]) : (hidT s₁.heap H).get? b = some o := hidT_get e (by
  refine Classical.byContradiction fun c => ?_
  rcases only b c with rfl | q
  · rw [ha] at e
    cases e
    exact n1 rfl
  · obtain ⟨p, hp, rfl⟩ := List.mem_map.mp q
    rw [tA p hp] at e
    cases e
    exact n2 rfl)
theorem endT_core {H : Hp} (KX : K.In s₁.heap) (hns : s₁.heap.Ns mainGlobals mg) (hb : s₁.heap.Ns builtinsNs mb) (hbb : ∀ x : Str, x ≠ "__name__" → mb x = bootBuiltins x) (hlim : s₁.heap.NoLimit) (hg : s₁.gens = #[]) (tA : ∀ p ∈ cs, s₁.heap.get? p.2 = some { cls := .none, data := .fields #[] }) (tK : ∀ p ∈ cs, K.lookup p.2 = none) (tC : ∀ p ∈ cs, PySem.W.CodeHd s₁.heap p.1 p.2)
    (bi : ∃ (bm : Addr) (ob : Obj), mg "__builtins__" = some (.ref bm) ∧ bm ≠ builtinsNs ∧ s₁.heap.get? bm = some ob ∧ ob.cls = .type "module" ∧ ob.dict = some builtinsNs ∧ ob.data = .plain) (ha : s₁.heap.get? a = some { cls := .type "list", data := .seq vs.toArray }) (hr : Room k callerA)
    (F : ∀ base : Heap, K.In base → base.Ns mainGlobals mg → (∀ p ∈ cs, LamX.TabB base mg p.1 p.2) → FnG P w K mg base CX k fa fd [x] sp) (hbind : ∀ (s : Shared) (u : Value), BindsTo s fd ⟨[u], []⟩ [(x, u)]) (hsp : sp [.ref a] H (fun v _ => v = .bl true) fun _ _ _ => False) (hCX : ∀ e s', CX [] H s₁ (fun _ _ _ => False) e s' → False)
    (tH : ∀ p ∈ cs, H p.2 = some (.tbl #[])) (hO : ∀ b, H b = none ∨ b ∈ cs.map (·.2) ∨ ∃ o xs, H b = some (.frz o (.lst xs))) (hok : HOk P w H s₁.heap) (only : ∀ b, H b ≠ none → b = a ∨ b ∈ cs.map (·.2)) (out : H a ≠ none → K.lookup a = none) :
    codeAny (model P w) callerA (.call (.ref fa) ⟨[.ref a], []⟩) (fun r s' => r = .ok (.ret (.bool true)) ∧ OldK s₁.heap s'.heap ∧ s'.os = s₁.os ∧ AllBare s'.gens) s₁ := by
  have tf := fun {b : Addr} {o : Obj} => tab_free (b := b) (o := o) tA ha only
  have nsK : ∀ {b : Addr} {m : Str → Option Value}, s₁.heap.Ns b m → (hidT s₁.heap H).Ns b m := fun ⟨o, es, ep, e, d, r⟩ => ⟨o, es, ep, tf e (by rw [d]; exact nofun) (by rw [d]; exact nofun), d, r⟩
  have hK : K.In (hidT s₁.heap H) := fun b o e => hidT_get (KX b o e) (by
    refine Classical.byContradiction fun c => ?_
    rcases only b c with rfl | q
    · rw [out c] at e; cases e
    · obtain ⟨p, hp, rfl⟩ := List.mem_map.mp q
      rw [tK p hp] at e; cases e)
  obtain ⟨mc, l1, l2⟩ := hlim
  have glob := hns
  obtain ⟨og, eg, pg, hg1, hg2, _⟩ := glob
  have tb : ∀ p ∈ cs, LamX.TabB (hidT s₁.heap H) mg p.1 p.2 := fun p hp => by
    have t := tA p hp
    refine ⟨?_, ?_, fun z => ?_⟩
    · obtain ⟨o, us, file, tf2, flags, tg, inF, text, tt, e1, r1, r2, r3, r⟩ := tC p hp
      exact ⟨o, us, file, tf2, flags, tg, inF, text, tt, tf e1 (by rw [r2]; exact nofun) (fun z => by rw [r2] at z; cases z; simp at r3), r1, r2, r3, r⟩
    · obtain ⟨bm, ob, b1, b2, b3, b4, b5, b6⟩ := bi
      refine ⟨bm, ob, b1, b2, fun q => ?_, fun q => ?_, tf b3 (by rw [b6]; exact nofun) (by rw [b6]; exact nofun), b4, b5, b6⟩
      · rw [q, hg1] at b3
        cases b3
        rw [hg2] at b6
        cases b6
      · rw [q, t] at b3
        cases b3
        cases b6
    · rw [z, t] at hg1
      cases hg1
      cases hg2
  have e0 : Env0 P w K mg (hidT s₁.heap H) callerA [] s₁ H := ⟨rfl, ⟨hK, nsK hns, ⟨mb, nsK hb, hbb⟩, ⟨mc, nsK l1, l2⟩⟩, fun b o e => of_hidT e, Nat.le_of_eq (hidT_size _ _), trivial, (fun b hb => (nomatch hb)), hok, .of_eq hg⟩
  refine codeAny_mono ((F _ hK (nsK hns) tb).run callerA [] s₁ H ⟨[.ref a], []⟩ [.ref a] [.ref a] _ _ hr rfl e0 (hbind s₁ (.ref a)) (.cons rfl .nil) hsp) fun r s' h => ?_
  match r, h with
  | .error e, h => exact (hCX e s' h).elim
  | .ok .next, h => exact False.elim h
  | .ok .brk, h => exact False.elim h
  | .ok .cont, h => exact False.elim h
  | .ok (.ret u), h =>
    obtain ⟨v, H', os, bare, un, hok', r', q⟩ := h
    have q : v = .bl true := q
    subst q
    obtain rfl : u = Value.bool true := r'
    have stay : ∀ b o, b ∉ cs.map (·.2) → s₁.heap.get? b = some o → s'.heap.get? b = some o := fun b o nb e => by
      cases c : H b with
      | none => exact un.keep b o e c (by intro z; exact (nomatch z)) (by simp)
      | some y =>
        rcases hO b with z | z | ⟨ob, xs, z⟩
        · rw [c] at z; cases z
        · exact absurd z nb
        · obtain ⟨e1, _⟩ := hok b _ z
          obtain ⟨e2, _⟩ := hok' b _ (un.frzs b ob _ z)
          rw [e] at e1
          cases e1
          exact e2
    have more : ∀ p ∈ cs, ∃ m : Array Value, s'.heap.get? p.2 = some { cls := .none, data := .fields m } := fun p hp => by
      obtain ⟨m, z⟩ := un.tbls p.2 #[] (tH p hp)
      exact ⟨_, hok' p.2 _ z⟩
    refine ⟨rfl, ⟨fun b o e => ?_, fun b o e => ?_⟩, os, bare⟩
    · by_cases c : b ∈ cs.map (·.2)
      · obtain ⟨p, hp, rfl⟩ := List.mem_map.mp c
        obtain ⟨m, em⟩ := more p hp
        rw [tA p hp] at e
        cases e
        refine .inr (.inl ⟨((tC p hp).tab (tA p hp)).isCodeTable, rfl, #[], m, rfl, ?_⟩)
        rw [Array.empty_append]
        exact em
      · exact .inl (stay b o c e)
    · by_cases c : b ∈ cs.map (·.2)
      · obtain ⟨p, hp, rfl⟩ := List.mem_map.mp c
        obtain ⟨m, em⟩ := more p hp
        exact ⟨_, em⟩
      · exact ⟨o, stay b o c e⟩
theorem law_callTG (KX : K.In s₁.heap) (hns : s₁.heap.Ns mainGlobals mg) (hb : s₁.heap.Ns builtinsNs mb) (hbb : ∀ x : Str, x ≠ "__name__" → mb x = bootBuiltins x) (hlim : s₁.heap.NoLimit) (hg : s₁.gens = #[]) (tA : ∀ p ∈ cs, s₁.heap.get? p.2 = some { cls := .none, data := .fields #[] }) (tK : ∀ p ∈ cs, K.lookup p.2 = none) (tC : ∀ p ∈ cs, PySem.W.CodeHd s₁.heap p.1 p.2)
    (bi : ∃ (bm : Addr) (ob : Obj), mg "__builtins__" = some (.ref bm) ∧ bm ≠ builtinsNs ∧ s₁.heap.get? bm = some ob ∧ ob.cls = .type "module" ∧ ob.dict = some builtinsNs ∧ ob.data = .plain) (ha : s₁.heap.get? a = some { cls := .type "list", data := .seq vs.toArray }) (hi : IntsAre vs ns) (hl : ns.length ≤ sizeLine) (hr : Room k callerA)
    (F : ∀ base : Heap, K.In base → base.Ns mainGlobals mg → (∀ p ∈ cs, LamX.TabB base mg p.1 p.2) → FnG P w K mg base CX k fa fd [x] sp) (hbind : ∀ (s : Shared) (u : Value), BindsTo s fd ⟨[u], []⟩ [(x, u)]) (hsp : ∀ H : Hp, (∀ p ∈ cs, H p.2 = some (.tbl #[])) → SqL K H a (ns.map V.int) → sp [.ref a] H (fun v _ => v = .bl true) fun _ _ _ => False) (hCX : ∀ H e s', CX [] H s₁ (fun _ _ _ => False) e s' → False) :
    codeAny (model P w) callerA (.call (.ref fa) ⟨[.ref a], []⟩) (fun r s' => r = .ok (.ret (.bool true)) ∧ OldK s₁.heap s'.heap ∧ s'.os = s₁.os ∧ AllBare s'.gens) s₁ := by
  have rv := vals_ints hi
  have lenV := hi.length
  have isT : ∀ b : Addr, b ∈ cs.map (·.2) → s₁.heap.get? b = some { cls := .none, data := .fields #[] } := fun b q => by
    obtain ⟨p, hp, rfl⟩ := List.mem_map.mp q
    exact tA p hp
  have na : a ∉ cs.map (·.2) := fun z => by
    have q := isT a z
    rw [ha] at q
    have q2 : Data.seq vs.toArray _ = Data.fields #[] := congrArg Obj.data (Option.some.inj q)
    cases q2
  have mem : ∀ p ∈ cs, p.2 ∈ cs.map (·.2) := fun p hp => List.mem_map.mpr ⟨p, hp, rfl⟩
  have go : ∀ H : Hp, (∀ p ∈ cs, H p.2 = some (.tbl #[])) → (∀ b, H b = none ∨ b ∈ cs.map (·.2) ∨ ∃ o xs, H b = some (.frz o (.lst xs))) → SqL K H a (ns.map V.int) → HOk P w H s₁.heap → (∀ b, H b ≠ none → b = a ∨ b ∈ cs.map (·.2)) → (H a ≠ none → K.lookup a = none) → _ := fun H h0 h1 h2 h3 h4 h5 => endT_core KX hns hb hbb hlim hg tA tK tC bi ha hr F hbind (hsp H h0 h2) (hCX H) h0 h1 h3 h4 h5
  cases hk : K.lookup a with
  | some o =>
    have e := KX a o hk
    rw [ha] at e
    cases e
    let H : Hp := fun b => if b ∈ cs.map (·.2) then some (.tbl #[]) else none
    have on : ∀ {b}, b ∈ cs.map (·.2) → H b = some (.tbl #[]) := fun c => if_pos c
    have off : ∀ {b}, b ∉ cs.map (·.2) → H b = none := fun c => if_neg c
    refine go H (fun p hp => on (mem p hp)) (fun b => ?_) (.inr ⟨_, vs.toArray, _, hk, rfl, rfl, rfl, by rw [List.size_toArray, lenV]; exact hl, by simpa using rv⟩) (fun b u z => ?_) (fun b z => .inr (Classical.byContradiction fun c => z (off c))) fun z => absurd (off na) z
    · by_cases c : b ∈ cs.map (·.2)
      · exact .inr (.inl c)
      · exact .inl (off c)
    · by_cases c : b ∈ cs.map (·.2)
      · rw [on c] at z
        cases z
        exact isT b c
      · rw [off c] at z
        cases z
  | none =>
    let o : Obj := { cls := .type "list", data := .seq vs.toArray }
    let H : Hp := fun b => if b = a then some (.frz o (.lst (ns.map V.int))) else if b ∈ cs.map (·.2) then some (.tbl #[]) else none
    have at_a : H a = some (.frz o (.lst (ns.map V.int))) := if_pos rfl
    have on : ∀ {b}, b ∈ cs.map (·.2) → H b = some (.tbl #[]) := fun {b} c => (if_neg (fun z : b = a => na (z ▸ c))).trans (if_pos c)
    have off : ∀ {b}, b ≠ a → b ∉ cs.map (·.2) → H b = none := fun c d => (if_neg c).trans (if_neg d)
    refine go H (fun p hp => on (mem p hp)) (fun b => ?_) (.inl (.inr ⟨o, at_a⟩)) (fun b u z => ?_) (fun b z => ?_) fun _ => hk
    · by_cases c : b = a
      · exact .inr (.inr ⟨o, _, by rw [c]; exact at_a⟩)
      · by_cases d : b ∈ cs.map (·.2)
        · exact .inr (.inl d)
        · exact .inl (off c d)
    · by_cases c : b = a
      · subst c
        rw [at_a] at z
        cases z
        exact ⟨ha, by rw [List.length_map]; exact hl, vs, _, rv, ha⟩
      · by_cases d : b ∈ cs.map (·.2)
        · rw [on d] at z
          cases z
          exact isT b d
        · rw [off c d] at z
          cases z
    · by_cases c : b = a
      · exact .inl c
      · exact .inr (Classical.byContradiction fun d => z (off c d))
end
def LawAtG (l : PySem.W.OpenLaw) (w : World) (K : PySem.W.Frag) (CX : CXT) (k n : Nat) (x : Str) (mg : Str → Option Value) (fa : Addr) (h : Heap) : Prop := ∃ (fd : FuncData) (cs : List (Addr × Addr)) (sp : Sp), (∀ p ∈ cs, h.get? p.2 = some { cls := .none, data := .fields #[] }) ∧ (∀ p ∈ cs, K.lookup p.2 = none) ∧ (∀ p ∈ cs, PySem.W.CodeHd h p.1 p.2) ∧ (∀ (s : Shared) (u : Value), BindsTo s fd ⟨[u], []⟩ [(x, u)]) ∧ (∀ (H : Hp) (a : Addr) (ns : List Int), ns.length ≤ n → (∀ z ∈ ns, Builtin.Int.intBits z ≤ 1048576) → (∀ p ∈ cs, H p.2 = some (.tbl #[])) → SqL K H a (ns.map V.int) → sp [.ref a] H (fun v _ => v = .bl true) fun _ _ _ => False) ∧ ∀ base : Heap, K.In base → base.Ns mainGlobals mg → (∀ p ∈ cs, LamX.TabB base mg p.1 p.2) → FnG l.prog w K mg base CX k fa fd [x] sp
theorem walk_ofTG {l : PySem.W.OpenLaw} {n k : Nat} {q : Program} {loose : List Str} {XP : (Str → Option Value) → Heap → Prop} {YP : World → Heap → Prop} {d : DefRec} {CX : World → CXT} {x : Str} (hn : l.most = some n) (hn2 : n ≤ sizeLine) (hdf : d.params.defaults = []) (hr : Room k callerA)
    (F : ∀ (w : World) (mg : Str → Option Value) (fa : Addr) (h : Heap), YP w h → h.Ns mainGlobals mg → mg d.name = some (.ref fa) → ∃ K : PySem.W.Frag, K.In h ∧ LawAtG l w K (CX w) k n x mg fa h) (hCX : ∀ (w : World) (H : Hp) (s : Shared) (e : Value) (s' : Shared), CX w [] H s (fun _ _ _ => False) e s' → False) :
    PySem.W.WalkO q loose XP YP l.row.toRowW d [] (fun f vs => PySem.call f vs) := by
  refine Att.attach_callB hn hdf fun w s₀ s₁ mg mb fa o pm cd doc a vs ns G Y ho hd hcd hmg hobj hints hlen hbits hg => ?_
  obtain ⟨K, KX, fd, cs, sp, tA, tK, tC, hb, hsp, hF⟩ := F w mg fa _ Y G.T.g hmg
  exact law_callTG KX G.T.g G.T.b G.T.builtins G.T.nolimit hg tA tK tC G.T.bmain hobj hints (Nat.le_trans hlen hn2) hr hF hb (fun H hH hS => hsp H a ns hlen hbits hH hS) fun H e s' => hCX w H s₁ e s'
end Gx

/-! Own layer Ze: y == x, where x is an own instance and y is of a built-in kind: the reflected own ==. -/
namespace HN
open PySem PySem.Spec PyProof.Rows PySem.SeqAt
open AutoSeq1 (wpAny_loadPart')
open MeetsSeq MeetsSeq2 MeetsSeq3 SeqRoads2
section
variable {M : Model} {prog : Program} {w : World} {A : Around} {E : Value → Shared → Prop} {s : Shared} {K : PySem.W.Frag} {x C f dx : Addr} {ox : Obj} {od : Option Obj}
end
end HN
namespace Gx
open PySem PySem.Spec PyProof.Rows L2
inductive OthV (K : PySem.W.Frag) (H : Hp) : V → String → Prop
  | non : OthV K H .non "NoneType"
  | int (i : Int) : OthV K H (.int i) "int"
  | str (z : Str) : OthV K H (.str z) "str"
  | tup (a : Addr) (ty : TyX K H (.ref a) (.type "tuple")) : OthV K H (.ref a) "tuple"
section
variable {X : Cx} {k j : Nat} {ps : List Str} {sp : Sp} {d : He.DefD} {C : Addr}
end
section
variable {X : Cx} {k j : Nat} {ps : List Str} {sp : Sp} {d : He.DefD} {C : Addr}
end
end Gx
namespace Qx
open PySem PySem.Spec PyProof.Rows L2 Gx
section
variable {K : PySem.W.Frag} {cs : List Str} {C : Str} {mf : MF}
end
end Qx

/-! Own layer Zf: repr of a dict that may change, whose values are lists, tuples, own instances. -/
namespace Qx
open PySem PySem.Spec PyProof.Rows L2 Gx
open Builtin Builtin.List
section
variable {X : Cx} {tab : List (Str × MF)} {R : List (Addr × HO)} {O : Sto}
inductive EntG (X : Cx) (tab : List (Str × MF)) (O : Sto) (n : Nat) (ι : List Addr) (G : Hp) : List DictEntry → List Str → Prop
  | nil : EntG X tab O n ι G [] []
  | cons {e : DictEntry} {k v : PV} {x y : V} {a b : Str} {es : List DictEntry} {ts : List Str} (rk : Rep X.K ι G k x) (uk : RelV x e.key) (hk : shO tab O n k = some a) (rv : Rep X.K ι G v y) (uv : RelV y e.val) (hv : shO tab O n v = some b) (t : EntG X tab O n ι G es ts) : EntG X tab O n ι G (e :: es) ((a ++ ": " ++ b) :: ts)
theorem EntG.len {n : Nat} {ι : List Addr} {G : Hp} {es : List DictEntry} {ts : List Str} (h : EntG X tab O n ι G es ts) : ts.length = es.length := by
  induction h with
  | nil => rfl
  | cons _ _ _ _ _ _ _ ih => simp [ih]
theorem EntG.item {n : Nat} {ι : List Addr} {G : Hp} {es : List DictEntry} {ts : List Str} (h : EntG X tab O n ι G es ts) : ∀ (i : Nat) (e : DictEntry), es[i]? = some e → ∃ (k v : PV) (x y : V) (a b : Str), ts[i]? = some (a ++ ": " ++ b) ∧ Rep X.K ι G k x ∧ RelV x e.key ∧ shO tab O n k = some a ∧ Rep X.K ι G v y ∧ RelV y e.val ∧ shO tab O n v = some b := by
  induction h with
  | nil => intro i e q; simp at q
  | cons rk uk hk rv uv hv t ih =>
    intro i e q
    cases i with
    | zero =>
      simp only [List.getElem?_cons_zero, Option.some.injEq] at q
      subst q
      exact ⟨_, _, _, _, _, _, rfl, rk, uk, hk, rv, uv, hv⟩
    | succ i =>
      simp only [List.getElem?_cons_succ] at q ⊢
      exact ih i e q
end
end Qx

/-! Own layer Zg: enumerate of a tuple or a list, also of one that may change. -/
namespace Qx
open PySem PySem.Spec PyProof.Rows L2 Gx
end Qx

/-! Own layer Zh: == of two dicts whose values are (text, own instance), whatever the answer. -/
namespace GQ
open PySem PySem.SeqAt
open AutoSeq1 (wpAny_loadPart')
open MeetsSeq MeetsSeq2 MeetsSeq3 SeqRoads2
section
variable {prog : Program} {w : World} {A : Around} {R : Result → Shared → Prop}
end
section
variable {prog : Program} {w : World} {A : Around} {E : Value → Shared → Prop} {s : Shared}
end
end GQ
namespace GQ
open PySem PySem.W
section
variable {prog : Program} {w : World} {K : Type} [DecidableEq K] {knd : KeyKind prog w K}
end
end GQ
namespace Gx
open PySem PySem.Spec PyProof.Rows L2
section
variable {X : Cx} {k j : Nat} {ps : List Str} {sp : Sp} {d : He.DefD} {C : Addr}
end
end Gx
namespace Qx
open PySem PySem.Spec PyProof.Rows L2 Gx
section
variable {K : PySem.W.Frag} {C : Str} {mf : MF} {R : List (Addr × HO)} {O : Sto}
def RepO1 (K : PySem.W.Frag) (ι : List Addr) (G : Hp) : Option PV → Option V → Prop
  | none, y => y = none
  | some q, y => ∃ v, y = some v ∧ Rep K ι G q v
def RepsO (K : PySem.W.Frag) (ι : List Addr) (G : Hp) : List (PV × Option PV) → List (V × Option V) → Prop
  | [], wl => wl = []
  | (p, q) :: r, wl => ∃ v y t, wl = (v, y) :: t ∧ Rep K ι G p v ∧ RepO1 K ι G q y ∧ RepsO K ι G r t
theorem RepO1.mono {ι ι' : List Addr} {G G' : Hp} (hp : Pre ι ι') (e : Same G G') {q : Option PV} {y : Option V} (h : RepO1 K ι G q y) : RepO1 K ι' G' q y := by
  cases q with
  | none => exact h
  | some q =>
    obtain ⟨v, h1, h2⟩ := h
    exact ⟨v, h1, h2.mono hp e⟩
theorem RepsO.mono {ι ι' : List Addr} {G G' : Hp} (hp : Pre ι ι') (e : Same G G') : ∀ {prs : List (PV × Option PV)} {wl : List (V × Option V)}, RepsO K ι G prs wl → RepsO K ι' G' prs wl
  | [], _, h => h
  | (_, _) :: _, _, ⟨v, y, t, h1, h2, h3, h4⟩ => ⟨v, y, t, h1, h2.mono hp e, h3.mono hp e, h4.mono hp e⟩
end
end Qx

/-! Own layer Zi: tuples of a display, t + u, t[a:b], t[::-1] as exact tuples (dict(t) wants them). -/
namespace L2
open PySem PySem.Spec PyProof.Rows HT
section
variable {X : Cx} {es : List Expr} {t : TA} {pos : Pos}
end
end L2
namespace Qx
open PySem PySem.Spec PyProof.Rows L2 Gx
section
variable {O : Sto} {s : Slots} {QP : PV → Sto → Prop} {ps qs : List PV}
end
end Qx

/-! Own layer Zj: str of a truth. -/
namespace L2
open PySem PySem.Spec PyProof.Rows HT
section
variable {X : Cx}
end
end L2
namespace Qx
open PySem PySem.Spec PyProof.Rows L2 Gx
section
variable {K : PySem.W.Frag}
end
end Qx

/-! Own layer Zk: + and - of a whole number or a truth. -/
namespace L2
open PySem PySem.Spec PyProof.Rows HT
section
variable {X : Cx}
end
end L2
namespace Qx
open PySem PySem.Spec PyProof.Rows L2 Gx
section
variable {K : PySem.W.Frag}
end
section
variable {O : Sto} {Q : PV → Sto → Prop} {i j : Int} {b : Bool}
end
end Qx

/-! Own layer Zl: list of a text. -/
namespace L2
open PySem PySem.Spec PyProof.Rows
end L2
namespace Qx
open PySem PySem.Spec PyProof.Rows L2 Gx
section
variable {K : PySem.W.Frag}
end
end Qx

/-! Own layer Zm: min and max of a dict with whole numbers as keys. -/
namespace L2
open PySem PySem.Spec PyProof.Rows
end L2
namespace Qx
open PySem PySem.Spec PyProof.Rows L2 Gx
section
variable {K : PySem.W.Frag}
end
end Qx

/-! Own layer Zn: dicts whose keys are tuples of whole numbers and texts, shown in their place: d[(a, b)] = v, d.get((a, b), c), d[(a, b)], (a, b) in d. -/
namespace Qx
open PySem PySem.Spec PyProof.Rows L2 Gx
abbrev KvsT := List (List Key × PV)
def valT (kvs : KvsT) (k : List Key) : Option PV := (kvs.find? fun kv => decide (kv.1 = k)).map (·.2)
def putT (kvs : KvsT) (k : List Key) (v : PV) : KvsT := if (kvs.any fun kv => decide (kv.1 = k)) = true then kvs.map (fun kv => if kv.1 = k then (kv.1, v) else kv) else kvs ++ [(k, v)]
def dtP (kvs : KvsT) : PV := .dtk (kvs.map (·.1)) (kvs.map (·.2))
section
variable {K : PySem.W.Frag} {ι ι' : List Addr} {G G' : Hp}
def KtR (K : PySem.W.Frag) (ι : List Addr) (G : Hp) : KvsT → List (List Key × V) → Prop
  | [], ws => ws = []
  | (k, p) :: r, ws => ∃ v t, ws = (k, v) :: t ∧ Rep K ι G p v ∧ KtR K ι G r t
theorem KtR.len : ∀ {kvs : KvsT} {ws : List (List Key × V)}, KtR K ι G kvs ws → ws.length = kvs.length
  | [], _, h => by rw [show _ = [] from h]; rfl
  | (k, p) :: r, _, ⟨v, t, h1, _, h3⟩ => by rw [h1, List.length_cons, List.length_cons, KtR.len h3]
theorem KtR.val {k : List Key} : ∀ {kvs : KvsT} {ws : List (List Key × V)}, KtR K ι G kvs ws → (valT kvs k = none ∧ valV ws k = none) ∨ ∃ p v, valT kvs k = some p ∧ valV ws k = some v ∧ Rep K ι G p v
  | [], ws, h => by rw [show ws = [] from h]; exact .inl ⟨rfl, rfl⟩
  | (j, p) :: r, ws, ⟨v, t, h1, h2, h3⟩ => by
    subst h1
    by_cases e : j = k
    · exact .inr ⟨p, v, by simp [valT, e], valV_pos e, h2⟩
    · rcases KtR.val (k := k) h3 with ⟨a, b⟩ | ⟨p', v', a, b, c⟩
      · exact .inl ⟨by simpa [valT, e] using a, by rw [valV_neg e]; exact b⟩
      · exact .inr ⟨p', v', by simpa [valT, e] using a, by rw [valV_neg e]; exact b, c⟩
theorem KtR.any {k : List Key} : ∀ {kvs : KvsT} {ws : List (List Key × V)}, KtR K ι G kvs ws → (kvs.any fun kv => decide (kv.1 = k)) = ws.any fun kv => decide (kv.1 = k)
  | [], ws, h => by rw [show ws = [] from h]; rfl
  | (j, p) :: r, ws, ⟨v, t, h1, _, h3⟩ => by
    subst h1
    rw [List.any_cons, List.any_cons, KtR.any h3]
theorem KtR.app : ∀ {kvs more : KvsT} {ws ms : List (List Key × V)}, KtR K ι G kvs ws → KtR K ι G more ms → KtR K ι G (kvs ++ more) (ws ++ ms)
  | [], _, ws, _, h, h' => by rw [show ws = [] from h]; exact h'
  | (k, p) :: r, _, ws, _, ⟨v, t, h1, h2, h3⟩, h' => by subst h1; exact ⟨v, _, rfl, h2, KtR.app h3 h'⟩
theorem KtR.upd {k : List Key} {p : PV} {v : V} (hv : Rep K ι G p v) : ∀ {kvs : KvsT} {ws : List (List Key × V)}, KtR K ι G kvs ws → KtR K ι G (kvs.map fun kv => if kv.1 = k then (kv.1, p) else kv) (ws.map fun kv => if kv.1 = k then (kv.1, v) else kv)
  | [], ws, h => by rw [show ws = [] from h]; rfl
  | (j, q) :: r, ws, ⟨v', t, h1, h2, h3⟩ => by
    subst h1
    rw [List.map_cons, List.map_cons]
    by_cases e : j = k
    · rw [if_pos e, if_pos e]
      exact ⟨v, _, rfl, hv, KtR.upd hv h3⟩
    · rw [if_neg e, if_neg e]
      exact ⟨v', _, rfl, h2, KtR.upd hv h3⟩
theorem KtR.put {k : List Key} {p : PV} {v : V} {kvs : KvsT} {ws : List (List Key × V)} (h : KtR K ι G kvs ws) (hv : Rep K ι G p v) : KtR K ι G (putT kvs k p) (putK ws k v) := by
  unfold putT putK
  rw [h.any]
  split
  · exact KtR.upd hv h
  · exact h.app ⟨v, [], rfl, hv, rfl⟩
theorem KtR.vals : ∀ {kvs : KvsT} {ws : List (List Key × V)}, KtR K ι G kvs ws → RepL K ι G (kvs.map (·.2)) (ws.map (·.2))
  | [], ws, h => by rw [show ws = [] from h]; rfl
  | (k, p) :: r, ws, ⟨v, t, h1, h2, h3⟩ => by subst h1; exact ⟨v, _, rfl, h2, KtR.vals h3⟩
theorem KtR.fst : ∀ {kvs : KvsT} {ws : List (List Key × V)}, KtR K ι G kvs ws → ws.map (·.1) = kvs.map (·.1)
  | [], ws, h => by rw [show ws = [] from h]; rfl
  | (k, p) :: r, ws, ⟨v, t, h1, _, h3⟩ => by subst h1; rw [List.map_cons, List.map_cons, KtR.fst h3]
theorem KtR.repO {a : Addr} {kvs : KvsT} {ws : List (List Key × V)} (h : KtR K ι G kvs ws) : RepO K ι G a (dtP kvs) (.dT ws) := ⟨ws, rfl, h.fst, h.vals⟩
theorem KtR.of : ∀ {ks : List (List Key)} {vs : List PV} {ws : List (List Key × V)}, ks.length = vs.length → ws.map (·.1) = ks → RepL K ι G vs (ws.map (·.2)) → KtR K ι G (ks.zip vs) ws
  | [], [], [], _, _, _ => rfl
  | [], [], _ :: _, _, h, _ => by simp at h
  | k :: ks, p :: vs, [], _, h, _ => by simp at h
  | k :: ks, p :: vs, (j, v) :: ws, hl, h, ⟨x, xs, h1, h2, h3⟩ => by
    simp only [List.map_cons, List.cons.injEq] at h h1
    obtain ⟨rfl, h⟩ := h
    obtain ⟨rfl, rfl⟩ := h1
    exact ⟨v, ws, rfl, h2, KtR.of (by simpa using hl) h h3⟩
  | [], _ :: _, _, hl, _, _ => by simp at hl
  | _ :: _, [], _, hl, _, _ => by simp at hl
end
section
variable {K : PySem.W.Frag} {R : List (Addr × HO)} {ι : List Addr} {O : Sto} {H : Hp} {p q : PV} {x : V} {kvs : KvsT} {n : Nat}
end
section
variable {K : PySem.W.Frag} {E : XM} {ta tc : TE} {tA : TA} {fa fc : EF} {gA : AF}
end
/-! ### the walk -/
end Qx

/-! Own layer Zo: sorted(x, key=f[, reverse=b]) where f is any function whose calls are told over the invariant. -/
namespace Gx
open PySem PySem.Spec PyProof.Rows L2
section
variable {prog : Program} {w : World} {A : Around} {E : Value → Shared → Prop} {s : Shared}
theorem sorted_of_coll {x : Value} {C : List Value → Prop} {kw : List (Str × Value)} {Q : Value → Shared → Prop} (hL : ∀ vs, C vs → vs.length ≤ sizeLine) (ha1 : argsOk "sorted" ⟨[x], kw⟩) (ha2 : ∀ x, argsOk "list.sort" ⟨[.ref x], kw⟩)
    (coll : ∀ (Q' : List Value → Shared → Prop) (E' : Value → Shared → Prop), (∀ vs h1 tk, C vs → (∀ b o, s.heap.get? b = some o → h1.get? b = some o) → Q' vs { s with heap := h1, toks := tk }) → wpAny (model prog w) A.in1 (collect x) Q' E' s)
    (body : ∀ (vs : List Value) (h1 : Heap) (tk : Nat) (E' : Value → Shared → Prop), C vs → (∀ b o, s.heap.get? b = some o → h1.get? b = some o) →
      wpAny (model prog w) A.in1.in1 (Builtin.«list.sort» ⟨[.ref h1.objs.size], kw⟩) (fun f s' => f = .done (.ret .none) ∧ Q (.ref h1.objs.size) s') E' { s with heap := h1.push (seqObj "list" vs.toArray 0), toks := tk }) :
    wpAny (model prog w) A (call (.builtin "sorted") [x] kw) Q E s := by
  refine call_function_entry_kw kind_sorted plain_sorted entry_sorted ha1 ?_
  unfold Builtin.«sorted»
  refine wpAny_bind (m := checkCount "sorted" 1 1 _) (wpAny_pure ?_)
  refine wpAny_bind (coll _ _ fun vs h1 tk hc k1 => ?_)
  refine wpAny_bind (wpAny_newList ?_ (hL vs hc))
  refine wpAny_bind (wpAny_holding (wpAny_call_entry_kw slot_list_sort ⟨_, Heap.get?_push_size _ rfl, rfl⟩ entry_list_sort ?body (ha2 _)))
  case body =>
    refine wpAny_mono (body vs h1 tk _ hc k1) (fun f s' hf => ?_) fun _ _ e => e
    obtain ⟨rfl, hq⟩ := hf
    exact ⟨_, rfl, wpAny_pure ⟨_, rfl, hq⟩⟩
end
def sortK (b : Bool) (xs : List V) (ds : List PyData) : List V := ((xs.zip ds).mergeSort (PySem.W.dataLe b fun p : V × PyData => p.2)).map Prod.fst
theorem each_zip : ∀ {xs : List V} {its : List Value} {ds : List PyData}, Vals xs its → ds.length = xs.length → PySem.W.EachIs (fun (v : Value) (p : V × PyData) => RelV p.1 v) its (xs.zip ds)
  | _, _, [], .nil, _ => .nil
  | _, _, d :: ds, .nil, h => by simp at h
  | _, _, [], .cons r t, h => by simp at h
  | _, _, d :: ds, .cons r t, h => .cons r (each_zip t (by simpa using h))
theorem vals_zip : ∀ {ps : List (V × PyData)} {its : List Value}, PySem.W.EachIs (fun (v : Value) (p : V × PyData) => RelV p.1 v) its ps → Vals (ps.map Prod.fst) its
  | _, _, .nil => .nil
  | _, _, .cons r t => .cons r (vals_zip t)
theorem zip_snd : ∀ {xs : List V} {ds : List PyData}, ds.length = xs.length → (xs.zip ds).map Prod.snd = ds
  | [], [], _ => rfl
  | _ :: xs, d :: ds, h => by
    show d :: (xs.zip ds).map Prod.snd = _
    rw [zip_snd (by simpa using h)]
  | [], _ :: _, h => by simp at h
  | _ :: _, [], h => by simp at h
section
variable {X : Cx} {pins : List (Addr × Obj)} {σ : L2.St} {H : Hp} {s : Shared}
theorem each_reads : ∀ {ys : List V} {us : List Value} {ds : List PyData}, Inv X pins σ H s → Vals ys us → ds.length = ys.length → (∀ (i : Nat) y d, ys[i]? = some y → ds[i]? = some d → Dp X.K H y d) → PySem.W.EachIs (fun (v : Value) (d : PyData) => ∃ as, Reads s.heap v d as) us ds
  | _, _, [], I, .nil, _, _ => .nil
  | _, _, d :: ds, I, .nil, h, _ => by simp at h
  | _, _, [], I, .cons r t, h, _ => by simp at h
  | _, _, d :: ds, I, .cons r t, h, g => .cons (Dp.reads I d _ _ (g 0 _ _ rfl rfl) r) (each_reads I t (by simpa using h) fun i y d e1 e2 => g (i + 1) y d (by simpa using e1) (by simpa using e2))
theorem Inv.nocell (I : Inv X pins σ H s) {b : Addr} {o : Obj} (e : s.heap.get? b = some o) (h : ∀ v, o.data ≠ .cell v) : ∀ x c, X.env.cells.lookup x = some c → c ≠ b := fun x c e2 z => by
  obtain ⟨v, u, hu, hd⟩ := I.cell x c e2
  rw [z, e] at hu
  cases hu
  exact h _ hd
theorem seq_nocell {xs : Array Value} {n : Nat} : ∀ v, (seqObj "list" xs n).data ≠ .cell v := fun v => nofun
theorem keyI_tree {A : Around} {f : Value} {b : Bool} {a : Addr} {n : Nat} {vs : List Value} {xs : List V} {W : List V → Hp → Prop} {R : List PyData → Hp → Prop} {P : PySem.Fin → Shared → Prop} {E : Value → Shared → Prop}
    (I : Inv X pins σ H s) (ho : s.heap.get? a = some (seqObj "list" vs.toArray n)) (haH : H a = none) (h0 : X.s_0.heap.objs.size ≤ a) (haL : a ≠ X.env.locals) (haF : a ∉ X.fs) (haP : ∀ q ∈ X.pn ++ pins, q.1 ≠ a) (rv : Vals xs vs) (hZ : vs.length ≤ sizeLine) (w0 : W [] H)
    (turn : ∀ (i : Nat) (x : V) (v : Value) (ys : List V) (H' : Hp) (s' : Shared) (pins' : List (Addr × Obj)), (∀ q ∈ pins, q ∈ pins') → xs[i]? = some x → RelV x v → ys.length = i → W ys H' → Inv X pins' σ H' s' → wpAny (model X.prog X.w) A (call f [v]) (EP X pins' σ fun y H2 => W (ys ++ [y]) H2) (fun _ _ => False) s')
    (fin : ∀ ys H', ys.length = xs.length → W ys H' → ∃ ds : List PyData, ds.length = ys.length ∧ (∀ (i : Nat) y d, ys[i]? = some y → ds[i]? = some d → Dp X.K H' y d) ∧ PySem.W.AllAlike ds ∧ PySem.W.Sortable ds ∧ (∀ d ∈ ds, A.units + d.depth < cLine) ∧ R ds H')
    (h : ∀ ds H' s', R ds H' → H' a = none → Inv X pins σ (upd H' a (.lst (sortK b xs ds))) s' → P (.done (.ret .none)) s') :
    wpAny (model X.prog X.w) A (PyProof.Rows.ksk_tree a f b) P E s := by
  have hl : xs.length = vs.length := rv.length
  have haS : a < s.heap.objs.size := Heap.lt_size ho
  obtain ⟨e1, ho1⟩ : ∃ e1, (s.heap.update a (Obj.mapSeq fun _ => (#[] : Array Value))).get? a = some (seqObj "list" #[] e1) := ⟨_, get?_update_seq ho fun _ => #[]⟩
  unfold PyProof.Rows.ksk_tree
  refine wpAny_bind (listItems_at ho rfl ?_)
  refine wpAny_bind (listUpdate_at ho rfl ?_ (by rw [List.size_toArray]; exact hZ) (Nat.zero_le _))
  refine wpAny_bind (seqEpoch_at ho1 rfl ?_)
  refine wpAny_bind (wpAny_newTuple ?_ (by show vs.length ≤ _; exact hZ))
  refine wpAny_bind (wpAny_newList ?_ (Nat.zero_le _))
  refine wpAny_holding ?_
  have J0 : Inv X pins σ H { s with heap := s.heap.update a (Obj.mapSeq fun _ => (#[] : Array Value)), toks := s.toks } :=
    I.turned (it := a) (fun b o hb e => (Heap.get?_update_ne _ _ _ _ hb).trans e) haH haL (.inr h0) (Gx.Inv.nocell I ho seq_nocell) haP
  obtain ⟨h3, eh3⟩ : ∃ h3, h3 = ((s.heap.update a (Obj.mapSeq fun _ => (#[] : Array Value))).push (seqObj "tuple" vs.toArray 0)).push (seqObj "list" #[] 0) := ⟨_, rfl⟩
  have ek : ((s.heap.update a (Obj.mapSeq fun _ => (#[] : Array Value))).push (seqObj "tuple" vs.toArray 0)).objs.size = s.heap.objs.size + 1 := by rw [size_push', Heap.size_update]
  have gp : ∀ {b : Addr} {o : Obj}, (s.heap.update a (Obj.mapSeq fun _ => (#[] : Array Value))).get? b = some o → h3.get? b = some o := fun e => by rw [eh3]; exact Heap.get?_push_of_some _ (Heap.get?_push_of_some _ e)
  have J1 : Inv X pins σ H { s with heap := h3, toks := s.toks } := J0.kept (t' := s.toks) fun b o e => gp e
  have hk3 : h3.get? (s.heap.objs.size + 1) = some (seqObj "list" #[] 0) := by rw [eh3, ← ek]; exact Heap.get?_push_size _ rfl
  have ha3 : h3.get? a = some (seqObj "list" #[] e1) := gp ho1
  have kH : H (s.heap.objs.size + 1) = none := I.hok.fresh (Nat.le_succ _)
  have kL : s.heap.objs.size + 1 ≠ X.env.locals := fun e => absurd I.lt (by rw [← e]; exact Nat.not_lt.mpr (Nat.le_succ _))
  have kF : s.heap.objs.size + 1 ∉ X.fs := I.nofs (Nat.le_succ _)
  have k0 : X.s_0.heap.objs.size ≤ s.heap.objs.size + 1 := Nat.le_succ_of_le I.sz
  have kP : ∀ q ∈ X.pn ++ pins, q.1 ≠ s.heap.objs.size + 1 := fun p hp e => absurd (Heap.lt_size (I.pin p hp).1) (by rw [e]; exact Nat.not_lt.mpr (Nat.le_succ _))
  have hka : s.heap.objs.size + 1 ≠ a := Nat.ne_of_gt (Nat.lt_succ_of_lt haS)
  generalize s.heap.objs.size + 1 = kS at *
  have kP2 : ∀ q ∈ X.pn ++ ((a, seqObj "list" #[] e1) :: pins), q.1 ≠ kS := fun q hq => by
    rcases List.mem_append.mp hq with hq | hq
    · exact kP q (List.mem_append_left _ hq)
    · rcases List.mem_cons.mp hq with rfl | hq
      · exact hka.symm
      · exact kP q (List.mem_append_right _ hq)
  have J2 : L2.Inv X ((kS, Qx.gatO #[] 0) :: (a, seqObj "list" #[] e1) :: pins) σ H { s with heap := h3, toks := s.toks } := J1.pins_of fun p hp => by
    rcases List.mem_cons.mp hp with rfl | hp
    · exact ⟨hk3, kH, kL, kF, fun v => nofun⟩
    · rcases List.mem_cons.mp hp with rfl | hp
      · exact ⟨ha3, haH, haL, haF, seq_nocell⟩
      · exact J1.pin p (List.mem_append_right _ hp)
  rw [ek]
  rw [← eh3]
  unfold PyProof.Rows.ksk_rest
  refine wpAny_bind (wpAny_rule ?_)
  first
    | rw [List.forIn_toArray]
    | (rw [← Array.forIn_toList]; simp only [List.toList_toArray])
    | rw [← Array.forIn_toList]
  refine wpAny_bind (PyProof.Rows.ksk_fold (fun i s' => ∃ (ys : List V) (H' : Hp) (keys : Array Value) (e : Nat), ys.length = i ∧ W ys H' ∧ Vals ys keys.toList ∧ L2.Inv X ((kS, Qx.gatO keys e) :: (a, seqObj "list" #[] e1) :: pins) σ H' s') vs 0 _ ⟨[], H, #[], 0, rfl, w0, .nil, J2⟩ ?step ?done)
  case step =>
    rintro j v s' hv ⟨ys, H', keys, e, hy, hW, hk, J⟩
    simp only [Nat.zero_add] at hy
    have hj : j < vs.length := (List.getElem?_eq_some_iff.mp hv).1
    obtain ⟨x, hx⟩ : ∃ x, xs[j]? = some x := ⟨_, List.getElem?_eq_getElem (by omega)⟩
    obtain ⟨v', hv', rx⟩ := rv.get hx
    rw [hv] at hv'
    cases hv'
    refine wpAny_bind (wpAny_attempt (wpAny_mono (turn j x v ys H' s' _ (fun q hq => List.mem_cons_of_mem _ (List.mem_cons_of_mem _ hq)) hx rx hy hW J) (fun u s2 he => ?_) fun _ _ hF => hF.elim))
    obtain ⟨y, H2, K2, ry, hW2⟩ := he
    try dsimp only
    have nk : s2.heap.get? kS = some (Qx.gatO keys e) := (K2.pin (kS, Qx.gatO keys e) (List.mem_append_right _ List.mem_cons_self)).1
    obtain ⟨c2, hc2⟩ : ∃ c2, (s2.heap.update kS (Obj.mapSeq (·.push u))).get? kS = some (Qx.gatO (keys.push u) c2) := ⟨_, get?_update_seq nk (·.push u)⟩
    have hz : keys.size ≤ vs.length := by
      have h1 : ys.length = keys.size := (L2.Vals.length hk).trans (by simp)
      omega
    refine wpAny_bind (listUpdate_at nk rfl ?_ (Nat.le_trans hz hZ) (Nat.le_trans (Nat.le_of_eq (Array.size_push ..)) (Nat.succ_le_succ (Nat.le_trans hz hZ))))
    refine wpAny_pure ⟨rfl, ys ++ [y], H2, keys.push u, c2, by simp [hy], hW2, ?_, Qx.Inv.gat (t' := s2.toks) K2 k0 kP2 (fun b o hb e => (Heap.get?_update_ne _ _ _ _ hb).trans e) hc2⟩
    rw [show (keys.push u).toList = keys.toList ++ [u] by simp]
    exact hk.append (.cons ry .nil)
  case done =>
    rintro s' ⟨ys, H', keys, e, hy, hW, hk, J⟩
    simp only [Nat.zero_add] at hy
    obtain ⟨ds, d1, d2, d3, d4, d5, d6⟩ := fin ys H' (by omega) hW
    have nk : s'.heap.get? kS = some (seqObj "list" keys e) := (J.pin (kS, Qx.gatO keys e) (List.mem_append_right _ List.mem_cons_self)).1
    obtain ⟨na, naH, _⟩ := J.pin (a, seqObj "list" #[] e1) (List.mem_append_right _ (List.mem_cons_of_mem _ List.mem_cons_self))
    have nkH : H' kS = none := (J.pin (kS, Qx.gatO keys e) (List.mem_append_right _ List.mem_cons_self)).2.1
    have hsz : keys.size = vs.length := by
      have h1 : ys.length = keys.size := (L2.Vals.length hk).trans (by simp)
      omega
    have hr : PySem.W.EachIs (fun (v : Value) (d : PyData) => ∃ as, Reads s'.heap v d as) keys.toList ds := each_reads J hk d1 d2
    try dsimp only
    refine wpAny_bind (listItems_at nk rfl ?_)
    have of := fun {b : Addr} {o : Obj} (z : (PySem.W.hideAll s'.heap [kS]).get? b = some o) => PySem.W.of_hideAll [kS] z
    refine PySem.W.keyH_end (κ := PySem.W.dataKind s'.heap ds) (h₁ := PySem.W.hideAll s'.heap [kS]) (fun b o hb z => of z) (PySem.W.hideAll_none [kS] List.mem_cons_self) nk na hka (PySem.W.SortsAt.data hr d3 d4 d5) hsz hZ fun h' tk c k3 n3 => ?_
    have ho2 : PySem.W.KeyedOut b ((xs.zip ds).map Prod.snd) vs (PySem.W.sortVals (PySem.W.dataKind s'.heap ds) b keys.toList vs) := by
      rw [zip_snd (by omega)]
      exact ⟨s'.heap, keys.toList, d3, rfl, hr⟩
    have hE := PySem.W.keyedOut_each Prod.snd ho2 (each_zip rv (by omega))
    have hV : Vals (sortK b xs ds) (PySem.W.sortVals (PySem.W.dataKind s'.heap ds) b keys.toList vs) := vals_zip hE
    have hlen : (sortK b xs ds).length ≤ sizeLine := by
      unfold sortK
      rw [List.length_map, List.length_mergeSort, List.length_zip]
      have := hZ
      omega
    have kk : ∀ b o, b ≠ a → b ≠ kS → s'.heap.get? b = some o → h'.get? b = some o := fun b o h1 h2 z => k3 b o h1 (PySem.W.hideAll_get [kS] z fun m => h2 (List.mem_singleton.mp m))
    have nA : ∀ {d : Addr} {u : HO}, H' d = some u → d ≠ a := fun e => ne_of_none e naH
    have nK : ∀ {d : Addr} {u : HO}, H' d = some u → d ≠ kS := fun e => ne_of_none e nkH
    have K : Inv X pins σ H' s' := J.pins_of fun p hp => J.pin p (List.mem_append_right _ (List.mem_cons_of_mem _ (List.mem_cons_of_mem _ hp)))
    have hok : HOk X.prog X.w (upd H' a (.lst (sortK b xs ds))) h' := fun d u e => by
      by_cases hc : d = a
      · subst hc
        rw [upd_same] at e
        cases e
        exact ⟨hlen, _, _, hV, n3⟩
      · rw [upd_ne hc] at e
        refine (J.hok d u e).stay (fun g v hg q => kk g v ?_ ?_ q) (fun g q => by rw [upd_ne (nA q)]; exact q) fun g xs q => by rw [upd_ne (nA q)]; exact q
        · rcases hg with z | z
          · rw [z]; exact hc
          · exact nA z
        · rcases hg with z | z
          · rw [z]; exact nK e
          · exact nK z
    refine h ds H' _ d6 naH (K.call (t' := tk) (g' := s'.gens) (d' := s'.drawn) (ch := [kS, a]) ⟨fun d o q n _ hx => kk d o (fun z => hx (by simp [z])) (fun z => hx (by simp [z])) q, fun d o q n _ hx => ⟨o.slots, kk d o (fun z => hx (by simp [z])) (fun z => hx (by simp [z])) q⟩, fun d o q n hx => by rw [upd_ne fun z => hx (by simp [z])]; exact n, fun d o q hx => ⟨o, kk d o (fun z => hx (by simp [z])) (fun z => hx (by simp [z])) q⟩, fun d zs q => by rw [upd_ne (nA q)]; exact q, fun d o u q => by rw [upd_ne (nA q)]; exact q, fun d ps q => ⟨#[], by rw [upd_ne (nA q), q]; simp⟩⟩ hok J.bare fun d hd => ?_)
    rcases List.mem_cons.mp hd with rfl | hd
    · exact ⟨.inr k0, kL, Gx.Inv.nocell K nk seq_nocell, kP⟩
    · rw [List.mem_singleton.mp hd]
      exact ⟨.inr h0, haL, Gx.Inv.nocell K na seq_nocell, haP⟩
end
end Gx

/-! Own layer Zp: lambdas as things; calls of what a name holds, a def or a lambda. -/
namespace Qx
open PySem PySem.Spec PyProof.Rows L2 Gx
section
variable {X : Cx} {pins : List (Addr × Obj)} {σ : L2.St} {H : Hp} {s : Shared}
theorem Inv.adopt {a : Addr} {o : HO} {ob : Obj} (I : Inv X pins σ H s) (e : s.heap.get? a = some ob) (hn : H a = none) (hc : ∀ v, ob.data ≠ .cell v) (h0 : X.s_0.heap.objs.size ≤ a) (hL : a ≠ X.env.locals) (hP : ∀ q ∈ X.pn ++ pins, q.1 ≠ a) (new : ObjOk X.prog X.w (upd H a o) s.heap a o) : Inv X pins σ (upd H a o) s := by
  have nA : ∀ {d : Addr} {u : HO}, H d = some u → d ≠ a := fun e => ne_of_none e hn
  have hok : HOk X.prog X.w (upd H a o) s.heap := fun d u e => by
    by_cases hc : d = a
    · subst hc
      rw [upd_same] at e
      cases e
      exact new
    · rw [upd_ne hc] at e
      exact (I.hok d u e).stay (fun g v hg q => q) (fun g q => by rw [upd_ne (nA q)]; exact q) fun g xs q => by rw [upd_ne (nA q)]; exact q
  refine I.call (t' := s.toks) (g' := s.gens) (d' := s.drawn) (h' := s.heap) (ch := [a]) ⟨fun d o q n _ hx => q, fun d o q n _ hx => ⟨o.slots, q⟩, fun d o q n hx => by rw [upd_ne fun z => hx (by simp [z])]; exact n, fun d o q hx => ⟨o, q⟩, fun d zs q => by rw [upd_ne (nA q)]; exact q, fun d o u q => by rw [upd_ne (nA q)]; exact q, fun d ps q => ⟨#[], by rw [upd_ne (nA q), q]; simp⟩⟩ hok I.bare fun d hd => ?_
  rw [List.mem_singleton.mp hd]
  exact ⟨.inr h0, hL, Gx.Inv.nocell I e hc, hP⟩
def TabF (P : Addr) (q : Str) (ps : Array Value) (c : Addr) (H H1 : Hp) : Prop := (H1 = H ∧ ∃ pos : Pos, codeAmong pos ps.toList = some (.ref c)) ∨ ∃ ps' : Array Value, H c = none ∧ TriplesOk ps'.toList ∧ (∀ (pos : Pos) (cv : Value), codeAmong pos ps'.toList = some cv → codeAmong pos ps.toList = some cv ∨ cv = .ref c) ∧ H1 = upd (upd H P (.tbl ps')) c (LamX.CodeO c q)
theorem lam_mk {c P : Addr} {ps : Array Value} {q : Str} {params : Arguments} {body : Expr} {scope : Scope} {pos : Pos} {E : Value → Shared → Prop} {Q : Value → Shared → Prop}
    (I : Inv X pins σ H s) (TB : LamX.TabB X.base X.mg c P) (hcode : X.env.code = .ref c) (hq : X.env.qual ++ "<lambda>" = q) (hP : H P = some (.tbl ps)) (ht : TriplesOk ps.toList)
    (ha : ∀ (pos : Pos) (cv : Value), codeAmong pos ps.toList = some cv → ∃ c, cv = .ref c ∧ H c = some (LamX.CodeO c q)) (hdef : defaultsOf params X.env = ([], [])) (hfree : ∀ y ∈ scope.names, y.2 = .free → ∃ c, X.env.cells.lookup y.1 = some c)
    (h : ∀ (f c' : Addr) (pm ctv : Value) (H1 : Hp) (s' : Shared), Inv X pins σ H1 s' → TabF P q ps c' H H1 → H1 f = none → f ≠ X.env.locals → f ∉ X.fs → X.s_0.heap.objs.size ≤ f → (∀ q ∈ X.pn ++ pins, q.1 ≠ f) →
      s'.heap.get? f = some (PySem.W.kla_obj "<lambda>" q params body scope (cloFrom X.env.cells scope.names []) pm c' ctv) → H1 c' = some (LamX.CodeO c' q) → Q (.ref f) s') :
    wpAny (model X.prog X.w) X.A (eval (.Lambda params body scope pos) X.env) Q E s := by
  subst hq
  have oP : s.heap.get? P = some { cls := .none, data := .fields ps } := I.hok P _ hP
  have bP := TB.bm.keeps I.bk
  have cd := TB.code.keeps I.bk
  have gl := I.mod.glob.keeps I.bk
  have side : ∀ f, s.heap.objs.size ≤ f → f ≠ X.env.locals ∧ f ∉ X.fs ∧ X.s_0.heap.objs.size ≤ f ∧ ∀ q ∈ X.pn ++ pins, q.1 ≠ f := fun f hf =>
    ⟨fun e => absurd I.lt (by rw [← e]; exact Nat.not_lt.mpr hf), I.nofs hf, Nat.le_trans I.sz hf, fun p hp e => absurd (Heap.lt_size (I.pin p hp).1) (by rw [e]; exact Nat.not_lt.mpr hf)⟩
  refine PySem.W.kla_eval hdef ?_
  cases em : codeAmong pos ps.toList with
  | some cv =>
    obtain ⟨c', rfl, hc⟩ := ha pos cv em
    refine PySem.W.kla_makeFunctionHit (closure_ok hfree) I.ok.glob gl hcode cd oP ht em bP fun ctv h' tk kp hsz => ?_
    have J := I.kept (t' := tk) fun b o e => Heap.get?_push_of_some (PySem.W.kla_obj "<lambda>" (X.env.qual ++ "<lambda>") params body scope (cloFrom X.env.cells scope.names []) ((X.mg "__name__").getD .none) c' ctv) (kp b o e)
    obtain ⟨s1, s2, s3, s4⟩ := side _ hsz
    exact h _ c' _ ctv H _ J (.inl ⟨rfl, pos, em⟩) (I.hok.fresh hsz) s1 s2 s3 s4 (Heap.get?_push_size _ rfl) hc
  | none =>
    refine PySem.W.kla_makeFunction (closure_ok hfree) I.ok.glob gl hcode cd oP ht em TB.gP bP fun c' ctv h' tk hx ge lt rc htb => ?_
    obtain ⟨c2, oc, vs, t, e2, hoc, hd, hv⟩ := rc
    cases e2
    have hn : H c' = none := I.hok.fresh ge
    have gp : ∀ {b : Addr} {o : Obj}, h'.get? b = some o → (h'.push (PySem.W.kla_obj "<lambda>" (X.env.qual ++ "<lambda>") params body scope (cloFrom X.env.cells scope.names []) ((X.mg "__name__").getD .none) c' ctv)).get? b = some o := fun e => Heap.get?_push_of_some _ e
    have J := LamX.inv_table (t' := tk) (more := #[rawInt pos.line, rawInt pos.col, .ref c']) I hP (fun b o hb e => gp (hx b o hb e)) (gp htb) ge ⟨oc, vs, t, gp hoc, hd, hv⟩
    have el : (ps ++ #[rawInt pos.line, rawInt pos.col, .ref c']).toList = ps.toList ++ [rawInt pos.line, rawInt pos.col, .ref c'] := by simp
    have hsz : s.heap.objs.size ≤ h'.objs.size := Nat.le_trans ge (Nat.le_of_lt lt)
    obtain ⟨s1, s2, s3, s4⟩ := side _ hsz
    refine h h'.objs.size c' _ ctv _ _ J (.inr ⟨_, hn, by rw [el]; exact PySem.TriplesOk_snoc _ _ _ _ ht, fun p' cv z => by rw [el] at z; exact LamX.among_app _ ht z, rfl⟩) ?_ s1 s2 s3 s4 (Heap.get?_push_size _ rfl) upd_same
    rw [upd_ne (Nat.ne_of_gt lt), upd_ne (Nat.ne_of_gt (Nat.lt_of_lt_of_le (Heap.lt_size oP) hsz))]
    exact I.hok.fresh hsz
def TabR1 (K : PySem.W.Frag) (t : TabI) (H : Hp) (ps : Array Value) : Prop := H (tA K t) = some (.tbl ps) ∧ TriplesOk ps.toList ∧ ∀ (pos : Pos) (cv : Value), codeAmong pos ps.toList = some cv → ∃ c, cv = .ref c ∧ H c = some (LamX.CodeO c t.q)
def tMkLam (K : PySem.W.Frag) (L : LamI) : TE := fun _ H Q => ∃ ps, TabR1 K L.t H ps ∧ ∀ H1 f c pm ctv, TabF (tA K L.t) L.t.q ps c H H1 → H1 f = none → Q (.ref f) (upd H1 f (FunO f L c pm ctv))
theorem pe_lam {L : LamI} {params : Arguments} {body : Expr} {scope : Scope} {pos : Pos} (TB : LamX.TabB X.base X.mg (He.cT X.K (L.t.d, L.t.x)).1 (He.cT X.K (L.t.d, L.t.x)).2) (hcode : X.env.code = .ref (He.cT X.K (L.t.d, L.t.x)).1) (hq : X.env.qual ++ "<lambda>" = L.t.q) (hp : L.params = params := by rfl) (hb : L.body = body := by rfl) (hs : L.scope = scope := by rfl)
    (hdef : defaultsOf params X.env = ([], []) := by rfl) (hfree : (scope.names.all fun y => !decide (y.2 = .free)) = true := by decide +kernel) : PE X (.Lambda params body scope pos) (tMkLam X.K L) := by
  subst hp
  subst hb
  subst hs
  refine ⟨fun pins s σ H Q I h => ?_⟩
  obtain ⟨ps, ⟨hP, hT, hC⟩, k⟩ := h
  have nf : ∀ y ∈ L.scope.names, y.2 ≠ .free := fun y hy z => by
    have := List.all_eq_true.mp hfree y hy
    simp [z] at this
  refine lam_mk I TB hcode hq hP hT hC hdef (fun y hy z => absurd z (nf y hy)) fun f c' pm ctv H1 s' J hE hn hL hF h0 hp hf hc => ?_
  rw [clo_nil nf] at hf
  exact ⟨.ref f, _, Inv.adopt (o := FunO f L c' pm ctv) J hf hn (fun v => nofun) h0 hL hp ⟨hf, ⟨_, hf⟩, fun h1 h2 e k => k _ e⟩, rfl, k H1 f c' pm ctv hE hn⟩
end
/-! ### what a lambda promises -/
structure LmOk (P : Program) (w : World) (K : PySem.W.Frag) (mg : Str → Option Value) (base : Heap) (k : Nat) (L : LamI) (sp : Sp) : Prop where
  run : ∀ (A : Around) (outer : List Env) (s : Shared) (H : Hp) (f c : Addr) (pm ctv : Value) (us : List Value) (vs : List V) (Q : VK), Room k A → Env0 P w K mg base A outer s H → H f = some (FunO f L c pm ctv) → H c = some (LamX.CodeO c L.t.q) → Vals vs us → sp vs H Q E0 →
    codeAny (model P w) A (.call (.ref f) ⟨us, []⟩) (CR CX0 outer P w H s Q E0) s
theorem codeO_rec {P : Program} {w : World} {H : Hp} {s : Shared} {c : Addr} {q : Str} (hok : HOk P w H s.heap) (h : H c = some (LamX.CodeO c q)) : s.heap.CodeRec (.ref c) q := by
  obtain ⟨⟨oc, vs, t, e1, e2, e3⟩, _, _⟩ := hok c _ h
  exact ⟨c, oc, vs, t, rfl, e1, e2, e3⟩
theorem lam_of {P : Program} {w : World} {K : PySem.W.Frag} {mg : Str → Option Value} {base : Heap} {k : Nat} {L : LamI} {N ps : List Str} {sp : Sp} (S : FnScope N ps L.scope) (len : ∀ vs H Q E, sp vs H Q E → vs.length = ps.length)
    (hbind : ∀ (pm cv ctv : Value) (us : List Value), us.length = ps.length → bindArgs (PySem.W.kla_fn "<lambda>" L.t.q L.params L.body L.scope [] pm cv ctv) ⟨us, []⟩ = pure (ps.zip us))
    (hbody : ∀ (f : Addr) (cdv : Value) (A : Around) (outer : List Env) (s : Shared) (H : Hp) (vs : List V) (Q : VK), Room k (A.deeper (envOfC L.t.q L.scope s.heap.objs.size f cdv)) → sp vs H Q E0 →
      ∃ t, PE (cxOf CX0 P w K mg base N L.t.q L.scope f cdv A outer s H E0) L.body t ∧ t (L2.start N vs) H Q) : LmOk P w K mg base (k + 1) L sp := by
  refine ⟨fun A outer s H f c pm ctv us vs Q hr e0 hf hc r hsp => ?_⟩
  have hl := len _ _ _ _ hsp
  have lim : s.heap.NoLimit := e0.mod.nolimit.keeps fun b o e => (e0.bs b o e).1
  obtain ⟨of, _, _⟩ := e0.hok f _ hf
  have hkind : ∀ y ∈ ps.zip us, L.scope.names.lookup y.1 = some .local ∨ (L.scope.names.lookup y.1 = some .cell ∧ ((cellsFrom (s.heap.objs.size + 1) L.scope.names []).lookup y.1).isSome = true) := fun ⟨n, v⟩ hy => by
    rcases S.par n (List.of_mem_zip hy).1 with q | q
    · exact .inl q
    · exact .inr ⟨q, PySem.W.cellsFrom_some _ _ _ (.inl q)⟩
  refine PySem.W.kla_callFunE hr.depth of rfl S.co S.gen rfl (codeO_rec e0.hok hc) ?_
  rw [hbind _ _ _ _ (by rw [← r.length]; exact hl)]
  refine wpAny_pure (wpAny_newFunctionEnv_cells S.kind hkind fun env he s1 x => ?_)
  subst he
  refine ⟨lim.keeps x.toInCall.keep, ?_⟩
  obtain ⟨t, ht, hq⟩ := hbody f (.ref c) A outer s H vs Q (hr.deeper _) hsp
  have I : Inv (cxOf CX0 P w K mg base N L.t.q L.scope f (.ref c) A outer s H E0) [] (L2.start N vs) H s1 := inv_start S hr.hd e0 hl r x
  refine PySem.W.kla_codeExpr (wpAny_mono (ht.run [] s1 (L2.start N vs) H Q I hq) (fun u s' hs => ?_) fun e s' hs => hs)
  obtain ⟨v, H', J, rv, q⟩ := hs
  exact ⟨v, H', J.os, J.bare, J.base, J.hok, rv, q⟩
/-! ### a call of what a name holds -/
def LamH (X : Cx) (j : Nat) (L : LamI) (sp : Sp) : Prop := ∃ k, k ≤ j ∧ LmOk X.prog X.w X.K X.mg X.base k L sp
def tCallM (i : Nat) (S : Addr → Sp → Prop) (SL : LamI → Sp → Prop) (t : TA) : TE := fun σ H Q => ∃ f, σ[i]? = some (some (.ref f)) ∧ ((∃ sp, S f sp ∧ t σ H fun vs H1 => sp vs H1 Q E0) ∨
  ∃ L c pm ctv sp, SL L sp ∧ H f = some (FunO f L c pm ctv) ∧ t σ H fun vs H1 => H1 f = some (FunO f L c pm ctv) ∧ H1 c = some (LamX.CodeO c L.t.q) ∧ sp vs H1 Q E0)
section
variable {X : Cx} {i k j : Nat} {x : Str} {p pos : Pos} {e : Expr} {es : List Expr} {t : TA} {S : Addr → Sp → Prop} {SL : LamI → Sp → Prop}
theorem run_lam {L : LamI} {sp : Sp} {f c : Addr} {pm ctv : Value} {us : List Value} {vs : List V} {pins : List (Addr × Obj)} {σ : L2.St} {H : Hp} {s : Shared} {Q : VK} (F : LmOk X.prog X.w X.K X.mg X.base k L sp) (hr : Room k X.A) (I : Inv X pins σ H s) (hf : H f = some (FunO f L c pm ctv)) (hc : H c = some (LamX.CodeO c L.t.q)) (r : Vals vs us) (h : sp vs H Q E0) : wpAny (model X.prog X.w) X.A (call (.ref f) us) (EP X pins σ Q) X.xe s := by
  refine wpAny_call (codeAny_mono (F.run X.A X.stack s H f c pm ctv us vs Q hr I.env0 hf hc r h) fun r s' hq => ?_)
  cases r with
  | error e => exact (show False from hq).elim
  | ok fl =>
    cases fl with
    | ret u => exact I.after hq
    | next => exact False.elim hq
    | brk => exact False.elim hq
    | cont => exact False.elim hq
theorem pe_callM (A : ∀ f sp, S f sp → HeldK X j f sp) (B : ∀ L sp, SL L sp → LamH X j L sp) (hr : Room j X.A) (hN : X.N[i]? = some x) (hv : Vis X.env.scope x) (ha : PA X (e :: es) t)
    (hdb : (x == ("__debug__" : Str)) = false := by decide) (hcd : (x == ("__classdict__" : Str)) = false := by decide)
    (he : starEach (e :: es) X.env = (false, eval e X.env) :: starEach es X.env := by rfl) (hpl : (backTo pos (starEach es X.env)).any (·.1) = false := by rfl) : PE X (.Call (.Name x p) (e :: es) [] pos) (tCallM i S SL t) := by
  refine ⟨fun pins s σ H Q I h => ?_⟩
  obtain ⟨f, hs, h⟩ := h
  rcases h with ⟨sp, hS, ht⟩ | ⟨L, c, pm, ctv, sp, hS, h0, ht⟩
  · exact (pe_callT A hr hN hv ha hdb hcd he hpl).run pins s σ H Q I ⟨f, sp, hs, hS, ht⟩
  · obtain ⟨k, hk, F⟩ := B L sp hS
    refine wpAny_Call_Name_kw (thn ((pe_var (pos := p) hN hv hdb hcd).run pins s σ H (fun v H1 => v = .ref f ∧ H1 = H) I ⟨.ref f, hs, rfl, rfl⟩) fun u s1 ⟨v, H1, I1, r1, q1⟩ => ?_)
    obtain ⟨rfl, rfl⟩ := q1
    cases r1
    obtain ⟨of, _, _⟩ := I1.hok f _ h0
    refine PySem.W.callWith_F ⟨_, _, _, _, of⟩ (thn (ha.run pos pins s1 σ _ _ I1 ht) fun us s2 ⟨vs, H2, I2, r, q⟩ => ?_) he hpl
    obtain ⟨q1, q2, q3⟩ := q
    obtain ⟨of2, _, _⟩ := I2.hok f _ q1
    exact ⟨⟨_, _, _, _, of2⟩, run_lam F (hr.mono hk) I2 q1 q2 r q3⟩
end
end Qx

/-! Own layer Zq: mirrors of Zp; sorted(x, key=lambda a: .., reverse=True) where the lambda reads names of its def. -/
namespace Qx
open PySem PySem.Spec PyProof.Rows L2 Gx
/-! ### mirrors of lambdas -/
def eLam (n : Nat) (L : LamI) : EF := fun _ O => if isTab n L.t O = true then .ok (.fn L) O else .bad
open Classical in
noncomputable def lamTab : List (LamI × MF) → LamI → Option MF
  | [], _ => none
  | (L', m) :: r, L => if L.k = L'.k then (if L = L' then some m else none) else lamTab r L
def lamS (K : PySem.W.Frag) (tab : List (LamI × MF)) (L : LamI) (sp : Sp) : Prop := ∃ m, lamTab tab L = some m ∧ sp = spM K false m
noncomputable def eCallM (tab : List (Str × MF)) (lams : List (LamI × MF)) (i : Nat) (a : AF) : EF := fun s O => match s[i]? with
  | some (some (.cls C)) => (match tab.lookup C with
    | some m => (a s O).bind m
    | none => .bad)
  | some (some (.fn L)) => (match lamTab lams L with
    | some m => (a s O).bind m
    | none => .bad)
  | _ => .bad
theorem lams_nil {X : Cx} {j : Nat} : ∀ L sp, lamS X.K [] L sp → LamH X j L sp := fun L sp ⟨m, h, _⟩ => by cases h
theorem lams_cons {X : Cx} {j k : Nat} {L' : LamI} {m : MF} {tab : List (LamI × MF)} (h : LmOk X.prog X.w X.K X.mg X.base k L' (spM X.K false m)) (hk : k ≤ j) (t : ∀ L sp, lamS X.K tab L sp → LamH X j L sp) : ∀ L sp, lamS X.K ((L', m) :: tab) L sp → LamH X j L sp := fun L sp ⟨m', h1, h2⟩ => by
  unfold lamTab at h1
  split at h1
  · split at h1
    · rename_i e
      cases h1
      subst e
      rw [h2]
      exact ⟨k, hk, h⟩
    · cases h1
  · exact t L sp ⟨m', h1, h2⟩
section
variable {K : PySem.W.Frag} {E : XM} {tA : TA} {fA : AF} {i n : Nat}
theorem tab_stepF {R : List (Addr × HO)} {ι : List Addr} {O : Sto} {H H2 : Hp} {n : Nat} {t : TabI} {ps : Array Value} {c : Addr} (S : Sim K R ι O H) (e : O[n]? = some (some (.tbl t))) (hn : ι[n]? = some (Qx.tA K t)) (hP : H (Qx.tA K t) = some (.tbl ps))
    (hC : ∀ (pos : Pos) (cv : Value), codeAmong pos ps.toList = some cv → ∃ c, cv = .ref c ∧ fz R ι O H c = some (LamX.CodeO c t.q)) (h : TabF (Qx.tA K t) t.q ps c H H2) : Sim K R ι O H2 ∧ Ext R ι O H ι O H2 ∧ fz R ι O H2 c = some (LamX.CodeO c t.q) := by
  rcases h with ⟨rfl, pos, hp⟩ | ⟨ps', h1, h2, h3, rfl⟩
  · obtain ⟨c1, z1, z2⟩ := hC pos _ hp
    cases z1
    exact ⟨S, .refl, z2⟩
  · obtain ⟨S1, X1, e1⟩ := S.newF h1 (LamX.CodeO c t.q)
    have ne : tA K t ≠ c := fun z => by rw [z, h1] at hP; cases hP
    obtain ⟨S2, X2⟩ := S1.change (p' := .tbl t) (o' := .tbl ps') hn e ⟨rfl, ps', rfl, h2, fun pos cv hc => by
      rcases h3 pos cv hc with z | z
      · obtain ⟨c0, z1, z2⟩ := hC pos cv z
        exact ⟨c0, z1, X1.same _ _ z2⟩
      · exact ⟨c, z, e1⟩⟩
    rw [set_back e] at S2 X2
    rw [upd_comm ne]
    exact ⟨S2, X1.trans X2, X2.same _ _ e1⟩
theorem sim_lam {L : LamI} : SimE K E (tMkLam K L) (eLam n L) := by
  intro R ι O H σ s Q S L' h
  unfold eLam at h
  split at h
  · rename_i c
    obtain ⟨tb, g1, g2, g3, g4⟩ := tab_read S (isTab_eq c)
    refine ⟨tb, ⟨g2, g3, fun pos cv z => (g4 pos cv z).imp fun c z => ⟨z.1, S.frozen _ _ z.2⟩⟩, fun H1 f c' pm ctv hE hn => ?_⟩
    obtain ⟨S1, X1, k1⟩ := tab_stepF S (isTab_eq c) g1 g2 g4 hE
    obtain ⟨S2, X2, e2⟩ := S1.newF hn (FunO f L c' pm ctv)
    refine h.at S2 (X1.trans X2) ⟨f, c', pm, ctv, rfl, e2, X2.same _ _ k1⟩
  · exact h.elim
theorem sim_callM {tab : List (Str × MF)} {lams : List (LamI × MF)} (hA : SimA K none tA fA) : SimE K none (tCallM i (tabS K tab) (lamS K lams) tA) (eCallM tab lams i fA) := by
  intro R ι O H σ s Q S L h
  unfold eCallM at h
  split at h
  · rename_i C e
    cases e2 : tab.lookup C with
    | none => rw [e2] at h; exact h.elim
    | some m =>
      rw [e2] at h
      obtain ⟨v, h1, h2⟩ := L.2 i _ e
      refine ⟨_, by rw [h1, show v = .ref (He.ga K C) from h2], .inl ⟨_, ⟨C, m, e2, rfl, rfl⟩, ?_⟩⟩
      exact hA R ι O H σ s _ S L (h.bind fun ps O1 xs ι1 H1 S1 X1 r1 h1 => ⟨R, ι1, O1, ps, S1, r1, h1⟩)
  · rename_i F e
    cases e2 : lamTab lams F with
    | none => rw [e2] at h; exact h.elim
    | some m =>
      rw [e2] at h
      obtain ⟨v, h1, f, c, pm, ctv, e3, h3, h4⟩ := L.2 i _ e
      refine ⟨f, by rw [h1, e3], .inr ⟨F, c, pm, ctv, _, ⟨m, e2, rfl⟩, S.frozen _ _ h3, ?_⟩⟩
      exact hA R ι O H σ s _ S L (h.bind fun ps O1 xs ι1 H1 S1 X1 r1 h1 => ⟨S1.frozen _ _ (X1.same _ _ h3), S1.frozen _ _ (X1.same _ _ h4), R, ι1, O1, ps, S1, r1, h1⟩)
  · exact h.elim
end
/-! ### a lambda that reads names of its def, within the def's own statement -/
structure LamP (sc scope : Scope) (p : Str) : Prop where
  kind : scope.kind = .function
  co : scope.isCoroutine = false
  gen : scope.isGenerator = false
  par : scope.names.lookup p = some .local
  own : ∀ y ∈ scope.names, y.2 ≠ .cell ∧ (y.2 = .local → y.1 = p)
  free : ∀ y ∈ scope.names, y.2 = .free → sc.names.lookup y.1 = some .cell ∨ sc.names.lookup y.1 = some .free
def lamPB (sc scope : Scope) (p : Str) : Bool :=
  decide (scope.kind = .function) && !scope.isCoroutine && !scope.isGenerator && decide (scope.names.lookup p = some .local) && scope.names.all fun y => !decide (y.2 = .cell) && (!decide (y.2 = .local) || decide (y.1 = p)) && (!decide (y.2 = .free) || decide (sc.names.lookup y.1 = some .cell) || decide (sc.names.lookup y.1 = some .free))
theorem lamP_by {sc scope : Scope} {p : Str} (h : lamPB sc scope p = true) : LamP sc scope p := by
  unfold lamPB at h
  simp only [Bool.and_eq_true, Bool.or_eq_true, Bool.not_eq_true', decide_eq_true_eq, decide_eq_false_iff_not, List.all_eq_true] at h
  obtain ⟨⟨⟨⟨h1, h2⟩, h3⟩, h4⟩, h5⟩ := h
  refine ⟨h1, h2, h3, h4, fun y hy => ⟨(h5 y hy).1.1, fun e => ?_⟩, fun y hy e => ?_⟩
  · rcases (h5 y hy).1.2 with z | z
    · exact absurd e z
    · exact z
  · rcases (h5 y hy).2 with (z | z) | z
    · exact absurd e z
    · exact .inl z
    · exact .inr z
theorem LamP.has {X : Cx} {scope : Scope} {p : Str} (L : LamP X.env.scope scope p) (ok : X.Ok) : ∀ y ∈ scope.names, y.2 = .free → ∃ c, X.env.cells.lookup y.1 = some c := fun y hy e => by
  rcases L.free y hy e with k | k
  · exact ok.has _ (.inl k)
  · exact ok.has _ (.inr k)
abbrev lamEnvP (X : Cx) (q : Str) (scope : Scope) (L f c' : Addr) : Env := PySem.W.envX q scope L f (.ref c') (cloFrom X.env.cells scope.names [])
def lamCxP (X : Cx) (A : Around) (s : Shared) (H : Hp) (q : Str) (scope : Scope) (p : Str) (f c' : Addr) : Cx where
  prog := X.prog
  w := X.w
  K := X.K
  mg := X.mg
  base := X.base
  A := A.deeper (lamEnvP X q scope s.heap.objs.size f c')
  N := X.N ++ [p]
  s_0 := s
  H_0 := H
  env := lamEnvP X q scope s.heap.objs.size f c'
  outer := X.stack
  stack := lamEnvP X q scope s.heap.objs.size f c' :: X.stack
  ex := []
  fn := fun _ => false
  calm := true
  pn := []
  xe := fun _ _ => False
section
variable {X : Cx} {pins : List (Addr × Obj)} {σ : L2.St} {H : Hp} {s : Shared}
theorem lam_startP {A : Around} {q : Str} {scope : Scope} {p : Str} {f c' : Addr} {h₁ : Heap} {tk : Nat} {v : V} {u : Value} (I : Inv X pins σ H s) (L : LamP X.env.scope scope p) (hp : p ∉ X.N) (e0 : Env0 X.prog X.w X.K X.mg X.base A X.stack s H) (hd : A.handled = none)
    (hns : h₁.Ns s.heap.objs.size fun y => [(p, u)].reverse.lookup y) (kp : ∀ b o, s.heap.get? b = some o → h₁.get? b = some o) (r : RelV v u) : Inv (lamCxP X A s H q scope p f c') [] (σ ++ [some v]) H { s with heap := h₁, toks := tk } := by
  have hfree := L.has I.ok
  have cm : ∀ {y c}, (cloFrom X.env.cells scope.names []).lookup y = some c → X.env.cells.lookup y = some c := fun {y c} e => by
    rcases cloFrom_mem (PySem.mem_of_lookup e) with hm | ⟨h1, h2⟩
    · cases hm
    · obtain ⟨c1, hc⟩ := hfree _ h1 rfl
      have hc : X.env.cells.lookup y = some c1 := hc
      have e2 : c = c1 := by
        rw [h2, hc] <;> rfl
      rw [e2]
      exact hc
  have look : ∀ {y}, scope.names.lookup y = some .free → ∃ c, (cloFrom X.env.cells scope.names []).lookup y = some c := fun {y} hl => by
    have hy : (y, NameKind.free) ∈ scope.names := PySem.mem_of_lookup hl
    exact mem_lookup (cloFrom_has (cells := X.env.cells) (acc := []) hy)
  have cellK : ∀ {c : Addr} {v : Option Value}, s.heap.IsCell c v → h₁.IsCell c v := fun {c v} ⟨o, ho, hd⟩ => ⟨o, kp _ _ ho, hd⟩
  have noA : ∀ b : Addr, b ∉ (lamCxP X A s H q scope p f c').ex := fun b z => absurd (show b ∈ ([] : List Addr) from z) (by simp)
  refine ⟨⟨e0.mod, L.kind, rfl, rfl, Nat.le_refl _, fun y z c e1 e2 => I.ok.inj y z c (cm e1) (cm e2), fun y hy => ?_, fun y c z _ => ?_, fun _ => hd, Around.frames_deeper e0.frames, .inr ⟨rfl, rfl⟩, fun b z => absurd z (noA b), e0.bs, e0.bsz, fun b _ _ => noA b,
      fun b z => absurd z (noA b), e0.funs, e0.frf⟩,
    rfl, e0.bare, Un.kept kp, ⟨_, hns, fun i y v' e1 e2 e3 => ?_⟩, fun y c e => ?_, e0.hok.fresh (Nat.le_refl _), fun y c e => I.freeC y c (cm e), fun q hq => absurd (show q ∈ ([] : List (Addr × Obj)) ++ [] from hq) (by simp), e0.hok.kept kp, by show (σ ++ [some v]).length = (X.N ++ [p]).length; simp [I.len]⟩
  · have hy : scope.names.lookup y = some .cell ∨ scope.names.lookup y = some .free := hy
    rcases hy with hy | hy
    · exact absurd rfl (L.own _ (PySem.mem_of_lookup hy)).1
    · exact look hy
  · have z : false = true := z
    cases z
  · have e3 : Vis scope y := e3
    have e1 : (X.N ++ [p])[i]? = some y := e1
    by_cases hi : i < X.N.length
    · rw [List.getElem?_append_left hi] at e1
      rw [List.getElem?_append_left (by rw [I.len]; exact hi)] at e2
      rcases e3 with k | k | k
      · have := (L.own _ (PySem.mem_of_lookup k)).2 rfl
        exact absurd (List.mem_of_getElem? e1) (by rw [show y = p from this]; exact hp)
      · exact absurd rfl (L.own _ (PySem.mem_of_lookup k)).1
      · obtain ⟨m, hn, hl⟩ := I.loc
        have hvis : Vis X.env.scope y := (L.free _ (PySem.mem_of_lookup k) rfl).elim (fun k => .inr (.inl k)) (fun k => .inr (.inr k))
        obtain ⟨w', r, q⟩ := hl i y v' e1 e2 hvis
        obtain ⟨c2, h2⟩ := look k
        refine ⟨w', r, .inr ⟨.inr k, c2, h2, ?_⟩⟩
        have c1 := cm h2
        rcases q with ⟨k', _⟩ | ⟨_, c3, e', z⟩
        · have k' : X.env.scope.names.lookup y = some .local := k'
          rcases L.free _ (PySem.mem_of_lookup k) rfl with k2 | k2 <;> rw [show X.env.scope.names.lookup y = _ from k2] at k' <;> cases k'
        · rw [c1] at e'
          cases e'
          exact cellK z
    · have hi2 : i = X.N.length := by
        have := (List.getElem?_eq_some_iff.mp e1).1
        simp at this
        omega
      subst hi2
      rw [List.getElem?_append_right (Nat.le_refl _)] at e1
      rw [List.getElem?_append_right (by rw [I.len]; exact Nat.le_refl _)] at e2
      simp [I.len] at e1 e2
      subst e1
      subst e2
      exact ⟨u, r, .inl ⟨L.par, by simp⟩⟩
  · obtain ⟨w', z⟩ := I.cell y c (cm e)
    exact ⟨w', cellK z⟩
theorem lam_turn {A : Around} {k : Nat} {q : Str} {f c' : Addr} {pm ctv : Value} {params : Arguments} {body : Expr} {scope : Scope} {p : Str} {u : Value} {v : V} {tb : TE} {Q : VK} (I : Inv X pins σ H s) (L : LamP X.env.scope scope p) (hp : p ∉ X.N)
    (hf : s.heap.get? f = some (PySem.W.kla_obj "<lambda>" q params body scope (cloFrom X.env.cells scope.names []) pm c' ctv)) (hc : H c' = some (LamX.CodeO c' q))
    (hbind : ∀ (cl : List (Str × Addr)) (pm cv ctv u : Value), bindArgs (PySem.W.kla_fn "<lambda>" q params body scope cl pm cv ctv) ⟨[u], []⟩ = pure [(p, u)]) (e0 : Env0 X.prog X.w X.K X.mg X.base A X.stack s H) (hr : Room (k + 1) A) (ru : RelV v u)
    (hbody : ∀ (A : Around) (s : Shared) (H : Hp) (f c' : Addr), Room k (A.deeper (lamEnvP X q scope s.heap.objs.size f c')) → PE (lamCxP X A s H q scope p f c') body tb) (h : tb (σ ++ [some v]) H Q) :
    wpAny (model X.prog X.w) A (call (.ref f) [u]) (EP X pins σ Q) (fun _ _ => False) s := by
  have rc : codeAny (model X.prog X.w) A (.call (.ref f) ⟨[u], []⟩) (CR CX0 X.stack X.prog X.w H s Q E0) s := by
    refine PySem.W.kla_callFunE hr.depth hf rfl L.co L.gen rfl (codeO_rec e0.hok hc) ?_
    rw [hbind]
    refine wpAny_pure (wpAny_newFunctionEnv (fun y hy => (L.own y hy).1) (fun y hy => by rw [List.mem_singleton.mp hy]; exact L.par) (fun h₁ hns hsb => ⟨I.nolimit.fresh _ hsb, ?_⟩) L.kind)
    show codeAny _ _ (.expr body (lamEnvP X q scope s.heap.objs.size f c')) _ _
    have kp : ∀ b o, s.heap.get? b = some o → h₁.get? b = some o := fun b o e => hsb.extBut b o (Nat.ne_of_lt (Heap.lt_size e)) (Heap.get?_push_of_some _ e)
    have J : Inv (lamCxP X A s H q scope p f c') [] (σ ++ [some v]) H { s with heap := h₁, toks := s.toks + [(p, u)].length } := lam_startP I L hp e0 hr.hd hns kp ru
    refine PySem.W.kla_codeExpr (wpAny_mono ((hbody _ s H f c' (hr.deeper _)).run [] _ _ H Q J h) (fun v s' hq => ?_) fun e s' hq => (show False from hq).elim)
    obtain ⟨w', H', J', rv, q⟩ := hq
    exact ⟨w', H', J'.os, J'.bare, J'.base, J'.hok, rv, q⟩
  refine wpAny_call (codeAny_mono rc fun r s' hq => ?_)
  cases r with
  | error e => exact (show False from hq).elim
  | ok fl =>
    cases fl with
    | ret u => exact I.after hq
    | next => exact False.elim hq
    | brk => exact False.elim hq
    | cont => exact False.elim hq
end
end Qx

/-! Own layer Zr: sorted(x, key=lambda a: ..[, reverse=True]) in a def, the lambda reading the def's names. -/
namespace Qx
open PySem PySem.Spec PyProof.Rows L2 Gx
def SeqR (K : PySem.W.Frag) (H : Hp) (l : Addr) (xs : List V) : Prop := SqL K H l xs ∨ SqT K H l xs ∨ ∃ n : Nat, H l = some (.rng 0 n) ∧ n ≤ 1048576 ∧ xs = (List.range n).map fun (i : Nat) => V.int (i : Int)
def tSortK (K : PySem.W.Frag) (t : TabI) (b : Bool) (tb : TE) (tE : TA) : TE := fun σ H Q => tE σ H fun vs H1 => ∃ l ps, vs = [.ref l] ∧ TabR1 K t H1 ps ∧ ∀ H2 c, TabF (tA K t) t.q ps c H1 H2 → ∃ (xs : List V) (W : List V → Hp → Prop), SeqR K H2 l xs ∧ W [] H2 ∧ (∀ ys H', W ys H' → H' c = some (LamX.CodeO c t.q)) ∧
  (∀ (i : Nat) x ys H', xs[i]? = some x → ys.length = i → W ys H' → tb (σ ++ [some x]) H' fun y H3 => W (ys ++ [y]) H3) ∧
  ∀ ys H', ys.length = xs.length → W ys H' → ∃ ds : List PyData, ds.length = ys.length ∧ (∀ (i : Nat) y d, ys[i]? = some y → ds[i]? = some d → Dp K H' y d) ∧ PySem.W.AllAlike ds ∧ PySem.W.Sortable ds ∧ (∀ d ∈ ds, d.depth ≤ 60) ∧ ∀ p, H' p = none → Q (.ref p) (upd H' p (.lst (sortK b xs ds)))
theorem items_of {n : Nat} {acc : Array Value} (h : ItemsOf (fun i v => ∃ t, v = .int (0 + i * 1) t) acc n) : Vals ((List.range n).map fun (i : Nat) => V.int (i : Int)) acc.toList := by
  obtain ⟨h1, h2⟩ := h
  have key : ∀ (l : List Value) (m : Nat), (∀ j v, l[j]? = some v → ∃ t, v = Value.int ((m + j : Nat) : Int) t) → Vals ((List.range' m l.length).map fun (i : Nat) => V.int (i : Int)) l := by
    intro l
    induction l with
    | nil => intro m _; exact .nil
    | cons v l ih =>
      intro m h
      rw [List.length_cons, List.range'_succ]
      refine .cons (by obtain ⟨t, e⟩ := h 0 v rfl; exact ⟨t, by rw [e]; simp⟩) (ih (m + 1) fun j w e => ?_)
      obtain ⟨t, e2⟩ := h (j + 1) w (by simpa using e)
      exact ⟨t, by rw [e2]; congr 2; omega⟩
  have e := key acc.toList 0 fun j v hv => by
    obtain ⟨t, e⟩ := h2 j v (by simpa using hv)
    exact ⟨t, by rw [e]; congr 1; omega⟩
  rw [Array.length_toList, h1, ← List.range_eq_range'] at e
  exact e
section
variable {X : Cx} {pins : List (Addr × Obj)} {σ : L2.St} {H : Hp} {s : Shared}
theorem coll_seq {l : Addr} {xs : List V} (I : Inv X pins σ H s) (h : SeqR X.K H l xs) : xs.length ≤ sizeLine ∧ ∀ (A : Around) (Q' : List Value → Shared → Prop) (E' : Value → Shared → Prop), A.handled = none → (∀ vs h1 tk, Vals xs vs → (∀ b o, s.heap.get? b = some o → h1.get? b = some o) → Q' vs { s with heap := h1, toks := tk }) → wpAny (model X.prog X.w) A (collect (.ref l)) Q' E' s := by
  rcases h with h | h | ⟨n, h1, h2, rfl⟩
  · obtain ⟨its, rv, hl, hz⟩ := I.list h
    refine ⟨hz, fun A Q' E' hh k => collect_list hl.isList (k its _ s.toks rv (fun b o e => ?_)) (by rw [← rv.length]; exact hz)⟩
    exact (Heap.get?_update_ne _ _ _ _ (Nat.ne_of_lt (Heap.lt_size e))).trans (Heap.get?_push_of_some _ e)
  · obtain ⟨its, rv, hl, hz⟩ := I.tuple h
    refine ⟨hz, fun A Q' E' hh k => collect_tup (show s.heap.IsTuple l its.toArray from hl) (k its _ s.toks rv (fun b o e => ?_)) (by rw [← rv.length]; exact hz)⟩
    exact (Heap.get?_update_ne _ _ _ _ (Nat.ne_of_lt (Heap.lt_size e))).trans (Heap.get?_push_of_some _ e)
  · obtain ⟨t, u, v, ho⟩ := I.hok l _ h1
    refine ⟨by rw [List.length_map, List.length_range]; exact Nat.le_trans h2 (by decide), fun A Q' E' hh k => collect_range (a := 0) (b := n) (c := 1) (n := n) hh ho ?_ ?_ (Nat.le_trans h2 (by decide)) fun h' tk acc kp it => k _ h' tk (items_of it) kp⟩
    · show Builtin.Range.small 0 n 1 = true
      have e : Builtin.Range.rangeSize 0 n 1 = (n : Int) := by
        unfold Builtin.Range.rangeSize
        rw [if_pos (by decide)]
        split <;> omega
      unfold Builtin.Range.small
      rw [e]
      simp [Builtin.Range.rangeFitsLong]
      omega
    · show Builtin.Range.rangeSize 0 n 1 = (n : Int)
      unfold Builtin.Range.rangeSize
      rw [if_pos (by decide)]
      split <;> omega
theorem sortK_run {k : Nat} {t : TabI} {b : Bool} {tb : TE} {l f c : Addr} {pm ctv : Value} {params : Arguments} {body : Expr} {scope : Scope} {p : Str} {kw : List (Str × Value)} {xs : List V} {W : List V → Hp → Prop} {Q : VK} (hr : Room (k + 3) X.A) (I : Inv X ((f, PySem.W.kla_obj "<lambda>" t.q params body scope (cloFrom X.env.cells scope.names []) pm c ctv) :: pins) σ H s) (L : LamP X.env.scope scope p) (hp : p ∉ X.N)
    (hbind : ∀ (cl : List (Str × Addr)) (pm cv ctv u : Value), bindArgs (PySem.W.kla_fn "<lambda>" t.q params body scope cl pm cv ctv) ⟨[u], []⟩ = pure [(p, u)])
    (hbody : ∀ (A : Around) (s : Shared) (H : Hp) (f c' : Addr), Room k (A.deeper (lamEnvP X t.q scope s.heap.objs.size f c')) → PE (lamCxP X A s H t.q scope p f c') body tb)
    (ha1 : argsOk "sorted" ⟨[.ref l], kw⟩) (ha2 : ∀ x, argsOk "list.sort" ⟨[.ref x], kw⟩) (ht : ∀ x, Builtin.«list.sort» ⟨[.ref x], kw⟩ = PyProof.Rows.ksk_tree x (.ref f) b)
    (hS : SeqR X.K H l xs) (w0 : W [] H) (wc : ∀ ys H', W ys H' → H' c = some (LamX.CodeO c t.q)) (wt : ∀ (i : Nat) x ys H', xs[i]? = some x → ys.length = i → W ys H' → tb (σ ++ [some x]) H' fun y H3 => W (ys ++ [y]) H3)
    (wf : ∀ ys H', ys.length = xs.length → W ys H' → ∃ ds : List PyData, ds.length = ys.length ∧ (∀ (i : Nat) y d, ys[i]? = some y → ds[i]? = some d → Dp X.K H' y d) ∧ PySem.W.AllAlike ds ∧ PySem.W.Sortable ds ∧ (∀ d ∈ ds, d.depth ≤ 60) ∧ ∀ p, H' p = none → Q (.ref p) (upd H' p (.lst (sortK b xs ds)))) :
    wpAny (model X.prog X.w) X.A (call (.builtin "sorted") [.ref l] kw) (EP X pins σ Q) X.xe s := by
  obtain ⟨hz, hcol⟩ := coll_seq I hS
  refine sorted_of_coll (C := fun vs => Vals xs vs) (fun vs h => by rw [← L2.Vals.length h]; exact hz) ha1 ha2 (fun Q' E' k => hcol X.A.in1 Q' E' hr.hd k) fun vs h1 tk E' rv kp => ?_
  rw [ht]
  have I1 : Inv X ((f, PySem.W.kla_obj "<lambda>" t.q params body scope (cloFrom X.env.cells scope.names []) pm c ctv) :: pins) σ H { s with heap := h1, toks := tk } := I.kept kp
  have I2 : Inv X ((f, PySem.W.kla_obj "<lambda>" t.q params body scope (cloFrom X.env.cells scope.names []) pm c ctv) :: pins) σ H { s with heap := h1.push (seqObj "list" vs.toArray 0), toks := tk } := I1.kept (t' := tk) fun b o e => Heap.get?_push_of_some _ e
  have hr2 : Room (k + 1) X.A.in1.in1 := (Room.in1 (k := k + 2) hr).in1
  refine keyI_tree (R := fun ds H' => ∀ p, H' p = none → Q (.ref p) (upd H' p (.lst (sortK b xs ds)))) I2 (Heap.get?_push_size _ rfl) (I1.hok.fresh (Nat.le_refl _)) I1.sz (fun e => absurd I1.lt (by rw [← e]; exact Nat.lt_irrefl _)) (I1.nofs (Nat.le_refl _)) (fun q hq e => absurd (Heap.lt_size (I1.pin q hq).1) (by rw [e]; exact Nat.lt_irrefl _)) rv (by rw [← rv.length]; exact hz) w0 (fun i x v ys H' s' pins' hsub hx rx hy hW J => ?_) (fun ys H' hy hW => ?_) fun ds H' s' hR hn J => ?_
  · have hfp := (J.pin _ (List.mem_append_right _ (hsub _ List.mem_cons_self))).1
    exact lam_turn J L hp hfp (wc _ _ hW) hbind J.env0.in1.in1 hr2 rx hbody (wt i x ys H' hx hy hW)
  · obtain ⟨ds, d1, d2, d3, d4, d5, d6⟩ := wf ys H' hy hW
    refine ⟨ds, d1, d2, d3, d4, fun d hd => ?_, d6⟩
    have := d5 d hd
    have := hr2.un
    omega
  · exact ⟨rfl, .ref _, _, J.pins_of fun q hq => J.pin q (by
      rcases List.mem_append.mp (show q ∈ [] ++ pins from hq) with z | z
      · cases z
      · exact List.mem_append_right _ (List.mem_cons_of_mem _ z)), rfl, hR _ hn⟩
theorem pe_sortK {k j : Nat} {t : TabI} {e1 : Expr} {tE : TA} {tb : TE} {params : Arguments} {body : Expr} {scope : Scope} {p : Str} {p1 lp kp pos : Pos} (TB : LamX.TabB X.base X.mg (He.cT X.K (t.d, t.x)).1 (He.cT X.K (t.d, t.x)).2) (hcode : X.env.code = .ref (He.cT X.K (t.d, t.x)).1) (hq : X.env.qual ++ "<lambda>" = t.q) (hr : Room j X.A) (hj : k + 3 ≤ j) (he : PA X [e1] tE) (hg : Gl X "sorted") (hm : X.mg "sorted" = none)
    (L : LamP X.env.scope scope p) (hp : p ∉ X.N) (hbody : ∀ (A : Around) (s : Shared) (H : Hp) (f c' : Addr), Room k (A.deeper (lamEnvP X t.q scope s.heap.objs.size f c')) → PE (lamCxP X A s H t.q scope p f c') body tb)
    (hbind : ∀ (cl : List (Str × Addr)) (pm cv ctv u : Value), bindArgs (PySem.W.kla_fn "<lambda>" t.q params body scope cl pm cv ctv) ⟨[u], []⟩ = pure [(p, u)] := by intros; rfl) (hdef : defaultsOf params X.env = ([], []) := by rfl) (hs1 : backTo pos (starEach [e1] X.env) = (false, eval e1 X.env) :: backTo pos (starEach [] X.env) := by rfl) (hs2 : (backTo pos (starEach [e1] X.env)).any (·.1) = false := by rfl) :
    PE X (.Call (.Name "sorted" p1) [e1] [⟨some "key", .Lambda params body scope lp, kp⟩] pos) (tSortK X.K t false tb tE) := by
  refine ⟨fun pins s σ H Q I h => ?_⟩
  refine wpAny_Call_Name_kw (ld_blt I hg hm (by rfl) ?_ (by decide) (by decide))
  refine callWith_kw (he := hs1) (hplain := hs2) (thn (he.run pos pins s σ H _ I h) fun us s1 ⟨vs, H1, I1, r1, q1⟩ => ?_)
  obtain ⟨l, ps, rfl, ⟨hP, hT, hC⟩, q2⟩ := q1
  obtain ⟨u, rfl, ru⟩ := vals1 r1
  cases ru
  refine PySem.wpAny_evalAll_cons (wpAny_bind (lam_mk I1 TB hcode hq hP hT hC hdef (L.has I1.ok) fun f c' pm ctv H2 s2 I2 hE hn hL hF h0 hpn hf hc => wpAny_bind (wpAny_standAt (wpAny_pure ?_))))
  refine PySem.wpAny_evalAll_nil ?_
  obtain ⟨xs, W, hS, w0, wc, wt, wf⟩ := q2 H2 c' hE
  have I3 : Inv X ((f, PySem.W.kla_obj "<lambda>" t.q params body scope (cloFrom X.env.cells scope.names []) pm c' ctv) :: pins) σ H2 s2 := I2.pins_of fun q hq => by
    rcases List.mem_cons.mp hq with rfl | hq
    · exact ⟨hf, hn, hL, hF, fun v => nofun⟩
    · exact I2.pin q (List.mem_append_right _ hq)
  show wpAny (model X.prog X.w) X.A (call (.builtin "sorted") [.ref l] [(Str.ofString "key", .ref f)]) (EP X pins σ Q) X.xe s2
  exact sortK_run (k := k) (hr.mono hj) I3 L hp hbind hbody (PyProof.Rows.ksk_s1 _ _) (fun x => PyProof.Rows.ksk_l1 _ _) (fun x => PyProof.Rows.ksk_t1 _ _) hS w0 wc wt wf
theorem pe_sortKR {k j n : Nat} {b : Bool} {t : TabI} {e1 : Expr} {tE : TA} {tb : TE} {params : Arguments} {body : Expr} {scope : Scope} {p : Str} {p1 lp kp cp dp pos : Pos} (TB : LamX.TabB X.base X.mg (He.cT X.K (t.d, t.x)).1 (He.cT X.K (t.d, t.x)).2) (hcode : X.env.code = .ref (He.cT X.K (t.d, t.x)).1) (hq : X.env.qual ++ "<lambda>" = t.q) (hr : Room j X.A) (hj : k + 3 ≤ j) (he : PA X [e1] tE) (hg : Gl X "sorted") (hm : X.mg "sorted" = none)
    (L : LamP X.env.scope scope p) (hp : p ∉ X.N) (hbody : ∀ (A : Around) (s : Shared) (H : Hp) (f c' : Addr), Room k (A.deeper (lamEnvP X t.q scope s.heap.objs.size f c')) → PE (lamCxP X A s H t.q scope p f c') body tb)
    (hbind : ∀ (cl : List (Str × Addr)) (pm cv ctv u : Value), bindArgs (PySem.W.kla_fn "<lambda>" t.q params body scope cl pm cv ctv) ⟨[u], []⟩ = pure [(p, u)] := by intros; rfl) (hdef : defaultsOf params X.env = ([], []) := by rfl) (hs1 : backTo pos (starEach [e1] X.env) = (false, eval e1 X.env) :: backTo pos (starEach [] X.env) := by rfl) (hs2 : (backTo pos (starEach [e1] X.env)).any (·.1) = false := by rfl) :
    PE X (.Call (.Name "sorted" p1) [e1] [⟨some "key", .Lambda params body scope lp, kp⟩, ⟨some "reverse", .Constant (.bool b) n cp, dp⟩] pos) (tSortK X.K t b tb tE) := by
  refine ⟨fun pins s σ H Q I h => ?_⟩
  refine wpAny_Call_Name_kw (ld_blt I hg hm (by rfl) ?_ (by decide) (by decide))
  refine callWith_kw (he := hs1) (hplain := hs2) (thn (he.run pos pins s σ H _ I h) fun us s1 ⟨vs, H1, I1, r1, q1⟩ => ?_)
  obtain ⟨l, ps, rfl, ⟨hP, hT, hC⟩, q2⟩ := q1
  obtain ⟨u, rfl, ru⟩ := vals1 r1
  cases ru
  refine PySem.wpAny_evalAll_cons (wpAny_bind (lam_mk I1 TB hcode hq hP hT hC hdef (L.has I1.ok) fun f c' pm ctv H2 s2 I2 hE hn hL hF h0 hpn hf hc => wpAny_bind (wpAny_standAt (wpAny_pure ?_))))
  refine PySem.wpAny_evalAll_cons (wpAny_bind (Constant_bool (wpAny_bind (wpAny_standAt (wpAny_pure ?_)))))
  refine PySem.wpAny_evalAll_nil ?_
  obtain ⟨xs, W, hS, w0, wc, wt, wf⟩ := q2 H2 c' hE
  have I3 : Inv X ((f, PySem.W.kla_obj "<lambda>" t.q params body scope (cloFrom X.env.cells scope.names []) pm c' ctv) :: pins) σ H2 s2 := I2.pins_of fun q hq => by
    rcases List.mem_cons.mp hq with rfl | hq
    · exact ⟨hf, hn, hL, hF, fun v => nofun⟩
    · exact I2.pin q (List.mem_append_right _ hq)
  show wpAny (model X.prog X.w) X.A (call (.builtin "sorted") [.ref l] [(Str.ofString "key", .ref f), (Str.ofString "reverse", .bool b)]) (EP X pins σ Q) X.xe s2
  exact sortK_run (k := k) (hr.mono hj) I3 L hp hbind hbody (PyProof.Rows.ksk_s2 _ _ _) (fun x => PyProof.Rows.ksk_l2 _ _ _) (fun x => PyProof.Rows.ksk_t2 _ _ _) hS w0 wc wt wf
end
/-! ### the mirror -/
noncomputable def keysK (fb : EF) (s : Slots) : List PV → Sto → PR (List PV)
  | [], O => .ok [] O
  | p :: ps, O => match fb (s ++ [some p]) O with
    | .ok y O1 => (match keysK fb s ps O1 with
      | .ok ys O2 => .ok (y :: ys) O2
      | _ => .bad)
    | _ => .bad
def seqK (O : Sto) (p : PV) : Option (List PV) := match seqOf O p with
  | some ps => some ps
  | none => match p with
    | .rng a b => if a = 0 ∧ 0 ≤ b ∧ b ≤ 1048576 then some ((List.range b.toNat).map fun (i : Nat) => .int (i : Int)) else none
    | _ => none
def sortQB (b : Bool) (ps : List PV) (ds : List PyData) : List PV := ((ps.zip ds).mergeSort (PySem.W.dataLe b fun p : PV × PyData => p.2)).map Prod.fst
noncomputable def eSortK (n : Nat) (t : TabI) (b : Bool) (fa : AF) (fb : EF) : EF := fun s O => (fa s O).bind fun vs O1 => match vs with
  | [p] => if isTab n t O1 = true then (match seqK O1 p with
    | some ps => (match keysK fb s ps O1 with
      | .ok ks O2 => (match toDL ks with
        | some ds => if (alikeB ds && (sortB ds && ds.all fun d => decide (d.depth ≤ 60))) = true then .ok (.lst (sortQB b ps ds)) O2 else .bad
        | none => .bad)
      | _ => .bad)
    | none => .bad) else .bad
  | _ => .bad
section
variable {K : PySem.W.Frag} {E : XM} {R : List (Addr × HO)}
theorem seqK_read {ι : List Addr} {O : Sto} {H : Hp} {p : PV} {x : V} {ps : List PV} (S : Sim K R ι O H) (r : Rep K ι (fz R ι O H) p x) (e : seqK O p = some ps) : ∃ a xs, x = .ref a ∧ SeqR K H a xs ∧ RepL K ι (fz R ι O H) ps xs := by
  unfold seqK at e
  split at e
  · rename_i qs e1
    cases e
    obtain ⟨a, xs, h1, h2, h3⟩ := seq_read S r e1
    exact ⟨a, xs, h1, h2.elim .inl fun z => .inr (.inl z), h3⟩
  · split at e
    · rename_i i j hno
      split at e
      · rename_i c
        cases e
        obtain ⟨rfl, c1, c2⟩ := c
        obtain ⟨a, h1, h2⟩ := r
        refine ⟨a, (List.range j.toNat).map fun (i : Nat) => V.int (i : Int), h1, .inr (.inr ⟨j.toNat, ?_, by omega, rfl⟩), RepL.mapV (f := fun (i : Nat) => PV.int (i : Int)) (g := fun (i : Nat) => V.int (i : Int)) (fun _ => rfl) _⟩
        rw [Int.toNat_of_nonneg c1]
        exact S.frozen _ _ h2
      · cases e
    · cases e
theorem sort_rep {ι : List Addr} {G : Hp} {b : Bool} {ps : List PV} {xs : List V} {ds : List PyData} (r : RepL K ι G ps xs) (hl : ds.length = ps.length) : RepL K ι G (sortQB b ps ds) (sortK b xs ds) := by
  obtain ⟨bs, g1, g2, g3⟩ : ∃ bs : List (PV × V × PyData), bs.map (fun b => (b.1, b.2.2)) = ps.zip ds ∧ bs.map (fun b => (b.2.1, b.2.2)) = xs.zip ds ∧ ∀ b ∈ bs, Rep K ι G b.1 b.2.1 := by
    induction ps generalizing xs ds with
    | nil => cases (show xs = [] from r); exact ⟨[], rfl, rfl, fun b hb => by cases hb⟩
    | cons p ps ih =>
      obtain ⟨x, xr, rfl, r1, r2⟩ := r
      cases ds with
      | nil => simp at hl
      | cons d ds =>
        obtain ⟨bs, g1, g2, g3⟩ := ih r2 (by simpa using hl)
        exact ⟨(p, x, d) :: bs, by simp [g1], by simp [g2], fun b hb => (List.mem_cons.mp hb).elim (fun e => by rw [e]; exact r1) (g3 b)⟩
  have m1 : (bs.map fun b => (b.1, b.2.2)).mergeSort (PySem.W.dataLe b fun p : PV × PyData => p.2) = (bs.mergeSort (PySem.W.dataLe b fun p : PV × V × PyData => p.2.2)).map fun b => (b.1, b.2.2) := (List.map_mergeSort (r := PySem.W.dataLe b fun p : PV × V × PyData => p.2.2) (s := PySem.W.dataLe b fun p : PV × PyData => p.2) (f := fun b : PV × V × PyData => (b.1, b.2.2)) (l := bs) fun _ _ _ _ => rfl).symm
  have m2 : (bs.map fun b => (b.2.1, b.2.2)).mergeSort (PySem.W.dataLe b fun p : V × PyData => p.2) = (bs.mergeSort (PySem.W.dataLe b fun p : PV × V × PyData => p.2.2)).map fun b => (b.2.1, b.2.2) := (List.map_mergeSort (r := PySem.W.dataLe b fun p : PV × V × PyData => p.2.2) (s := PySem.W.dataLe b fun p : V × PyData => p.2) (f := fun b : PV × V × PyData => (b.2.1, b.2.2)) (l := bs) fun _ _ _ _ => rfl).symm
  have all : ∀ l : List (PV × V × PyData), (∀ b ∈ l, b ∈ bs) → RepL K ι G ((l.map fun b => (b.1, b.2.2)).map Prod.fst) ((l.map fun b => (b.2.1, b.2.2)).map Prod.fst) := fun l hl => by
    induction l with
    | nil => exact rfl
    | cons b l ih => exact ⟨_, _, rfl, g3 b (hl b List.mem_cons_self), ih fun c hc => hl c (List.mem_cons_of_mem _ hc)⟩
  unfold sortQB sortK
  rw [← g1, ← g2, m1, m2]
  exact all _ fun b hb => List.mem_mergeSort.mp hb
theorem dpAll_get {H : Hp} : ∀ {ys : List V} {ds : List PyData}, DpAll K H ys ds → ds.length = ys.length ∧ ∀ (i : Nat) y d, ys[i]? = some y → ds[i]? = some d → Dp K H y d
  | _, _, .nil => ⟨rfl, fun i y d h => by simp at h⟩
  | _, _, .cons h t => by
    obtain ⟨h1, h2⟩ := dpAll_get t
    refine ⟨by simp [h1], fun i y d e1 e2 => ?_⟩
    cases i with
    | zero => cases e1; cases e2; exact h
    | succ i => exact h2 i y d (by simpa using e1) (by simpa using e2)
theorem SlR.snoc {ι : List Addr} {G : Hp} {σ : L2.St} {s : Slots} {p : PV} {v : V} (L : SlR K ι G σ s) (r : Rep K ι G p v) : SlR K ι G (σ ++ [some v]) (s ++ [some p]) := by
  refine ⟨by simp [L.1], fun i q e => ?_⟩
  by_cases c : i < s.length
  · rw [List.getElem?_append_left c] at e
    rw [List.getElem?_append_left (by rw [← L.1]; exact c)]
    exact L.2 i q e
  · have hi := (List.getElem?_eq_some_iff.mp e).1
    simp at hi
    have hi : i = s.length := by omega
    subst hi
    rw [List.getElem?_append_right (Nat.le_refl _)] at e
    rw [List.getElem?_append_right (by rw [← L.1]; exact Nat.le_refl _), ← L.1]
    simp at e ⊢
    subst e
    exact r
theorem sim_sortK {n : Nat} {t : TabI} {b : Bool} {tE : TA} {fa : AF} {tb : TE} {fb : EF} (hA : SimA K E tE fa) (hB : SimE K none tb fb) : SimE K E (tSortK K t b tb tE) (eSortK n t b fa fb) := by
  intro R ι O H σ s Q S L h
  refine hA R ι O H σ s _ S L (h.bind fun vs O1 us ι1 H1 S1 X1 r1 h1 => ?_)
  split at h1
  case h_2 => exact h1.elim
  rename_i p
  split at h1
  case isFalse => exact h1.elim
  rename_i c
  cases e1 : seqK O1 p with
  | none => simp [e1] at h1; exact h1.elim
  | some ps =>
    simp only [e1] at h1
    cases e2 : keysK fb s ps O1 with
    | exc e O' => simp only [e2] at h1; exact h1.elim
    | bad => simp only [e2] at h1; exact h1.elim
    | ok ks Of =>
      simp only [e2] at h1
      cases e3 : toDL ks with
      | none => simp only [e3] at h1; exact h1.elim
      | some ds =>
        simp only [e3] at h1
        split at h1
        case isFalse => exact h1.elim
        rename_i c2
        have c3 := Bool.and_eq_true_iff.mp c2
        have c4 := Bool.and_eq_true_iff.mp c3.2
        obtain ⟨x, xr, rfl, rx, rnil⟩ := r1
        cases (show xr = [] from rnil)
        obtain ⟨l, xs0, rfl, hq0, _⟩ := seqK_read S1 rx e1
        obtain ⟨tb', g1, g2, g3, g4⟩ := tab_read S1 (isTab_eq c)
        refine ⟨l, tb', rfl, ⟨g2, g3, fun pos cv z => (g4 pos cv z).imp fun c z => ⟨z.1, S1.frozen _ _ z.2⟩⟩, fun H2 cc hE => ?_⟩
        obtain ⟨S2, X2, k2⟩ := tab_stepF S1 (isTab_eq c) g1 g2 g4 hE
        obtain ⟨a, xs, ea, hq, hrep⟩ := seqK_read S2 (X2.rep rx) e1
        cases ea
        have hlx := hrep.len
        refine ⟨xs, fun ys H' => ∃ (ι' : List Addr) (O' : Sto) (done rest : List PV), Sim K R ι' O' H' ∧ Ext R ι1 O1 H2 ι' O' H' ∧ RepL K ι' (fz R ι' O' H') done ys ∧ done ++ rest = ks ∧ keysK fb s (ps.drop done.length) O' = .ok rest Of, hq, ⟨ι1, O1, [], ks, S2, .refl, rfl, rfl, e2⟩, ?_, ?_, ?_⟩
        · rintro ys H' ⟨ι', O', done, rest, S', X', _⟩
          exact S'.frozen _ _ (X'.same _ _ k2)
        · rintro i x ys H' hx hy ⟨ι', O', done, rest, S', X', rd, ed, ek⟩
          have hld := rd.len
          have hi : i < ps.length := by rw [← hlx]; exact (List.getElem?_eq_some_iff.mp hx).1
          have hdi : done.length = i := by omega
          rw [hdi, List.drop_eq_getElem_cons hi] at ek
          unfold keysK at ek
          have rp : Rep K ι' (fz R ι' O' H') ps[i] x := by
            obtain ⟨x', ex, rx'⟩ := (X'.repL hrep).get (List.getElem?_eq_getElem hi)
            rw [hx] at ex
            cases ex
            exact rx'
          have LL : SlR K ι' (fz R ι' O' H') (σ ++ [some x]) (s ++ [some ps[i]]) := SlR.snoc (L.ext (X1.trans (X2.trans X'))) rp
          refine hB R ι' O' H' _ _ _ S' LL ?_
          cases e5 : fb (s ++ [some ps[i]]) O' with
          | exc e O2 => rw [e5] at ek; cases ek
          | bad => rw [e5] at ek; cases ek
          | ok y O2 =>
            rw [e5] at ek
            simp only at ek
            cases e6 : keysK fb s (ps.drop (i + 1)) O2 with
            | exc e O3 => rw [e6] at ek; cases ek
            | bad => rw [e6] at ek; cases ek
            | ok r2 O3 =>
              rw [e6] at ek
              cases ek
              intro v ι3 H3 S3 X3 ry
              exact ⟨ι3, O2, done ++ [y], r2, S3, X'.trans X3, (X3.repL rd).app (.one ry), by rw [← ed]; simp, by rw [List.length_append, hdi]; exact e6⟩
        · rintro ys H' hy ⟨ι', O', done, rest, S', X', rd, ed, ek⟩
          have hld := rd.len
          rw [List.drop_eq_nil_of_le (by omega)] at ek
          cases ek
          rw [List.append_nil] at ed
          subst ed
          obtain ⟨d1, d2⟩ := dpAll_get (toDL_dp S'.frozen done ys ds rd e3)
          refine ⟨ds, d1, d2, alikeB_ok c3.1, sortB_ok c4.1, fun d hd => of_decide_eq_true (List.all_eq_true.mp c4.2 d hd), fun q hq => ?_⟩
          obtain ⟨S4, X4, e4⟩ := S'.newF hq (.lst (sortK b xs ds))
          exact h1.at S4 (X2.trans (X'.trans X4)) ⟨q, _, rfl, e4, sort_rep ((X'.trans X4).repL hrep) (by omega)⟩
end
end Qx

/-! Own layer Zs: where a lambda stands in the text; range(n) as a thing; several tables at the law's start. -/
namespace Qx
open PySem PySem.Spec PyProof.Rows L2 Gx
def zP : Pos := ⟨0, 0, 0, 0⟩
def zE : Expr := .Name "" zP
def zAt (l : List Stmt) (i : Nat) : Stmt := l.getD i (.Pass zP)
def zRet : Stmt → Expr
  | .Return (some e) _ => e
  | _ => zE
def zIfB : Stmt → List Stmt
  | .If _ b _ _ => b
  | _ => []
def zKwV : Keyword → Expr
  | ⟨_, v, _⟩ => v
def zKw (e : Expr) (i : Nat) : Expr := match e with
  | .Call _ _ k _ => zKwV (k.getD i ⟨none, zE, zP⟩)
  | _ => zE
def zLamA : Expr → Arguments
  | .Lambda a _ _ _ => a
  | _ => { posonlyargs := [], args := [], vararg := none, kwonlyargs := [], kw_defaults := [], kwarg := none, defaults := [] }
def zLamB : Expr → Expr
  | .Lambda _ b _ _ => b
  | _ => zE
def zLamS : Expr → Scope
  | .Lambda _ _ s _ => s
  | _ => { kind := .function, names := [], isGenerator := false, isCoroutine := false }
def lamOf (t : TabI) (k : Nat) (e : Expr) : LamI := { t := t, k := k, params := zLamA e, body := zLamB e, scope := zLamS e }
/-! ### the body of a lambda does as its mirror -/
theorem spM_runE {K : PySem.W.Frag} {n : Nat} {N : List Str} {f : EF} {vs : List V} {H : Hp} {Q : VK} {E : XK} {t : TE} (hs : SimE K none t f) (h : spM K false (mkDef n N.length (sRet f)) vs H Q E) : t (L2.start N vs) H Q := spM_run (t := tRet t) (sim_ret hs) h
/-! ### range(n) as a thing -/
/-! ### the law's own promise where several tables stand -/
end Qx

/-! Own layer Zt: <, >, <=, >= of data that are alike. -/
namespace Gx
open PySem PySem.Spec PyProof.Rows L2
section
variable {X : Cx}
end
end Gx
namespace Qx
open PySem PySem.Spec PyProof.Rows L2 Gx
/-! ### xs.reverse() -/
/-! ### from here on a list is not changed any more -/
end Qx

/-! Own layer Zu: == of two lists of own instances, each alike to its fellow. -/
namespace Gx
open PySem PySem.Spec PyProof.Rows L2
section
variable {X : Cx} {k j : Nat} {ps : List Str} {sp : Sp} {d : He.DefD} {C : Addr}
end
end Gx
namespace Qx
open PySem PySem.Spec PyProof.Rows L2 Gx
def AlikeO (C : Str) (m : MF) (O : Sto) : List PV → List PV → Prop
  | [], [] => True
  | p :: ps, q :: qs => (insIs O C p = true ∧ insIs O C q = true ∧ m [p, q] O = .ok (.bl true) O) ∧ AlikeO C m O ps qs
  | _, _ => False
theorem AlikeO.len {C : Str} {m : MF} {O : Sto} : ∀ {ps qs : List PV}, AlikeO C m O ps qs → ps.length = qs.length
  | [], [], _ => rfl
  | _ :: _, _ :: _, h => by rw [List.length_cons, List.length_cons, h.2.len]
  | [], _ :: _, h => h.elim
  | _ :: _, [], h => h.elim
section
variable {K : PySem.W.Frag} {C : Str} {mf : MF} {R : List (Addr × HO)} {O : Sto}
end
section
variable {C : Str} {m : MF} {O : Sto} {QP : PV → Sto → Prop}
end
end Qx

/-! Own layer Qr: walking a mirror, second part: things that change. -/
namespace Qx
open PySem PySem.Spec PyProof.Rows L2 Gx
theorem ins_loc {O : Sto} {n : Nat} {C : Str} {ns : List Str} {ps : List PV} (h : O[n]? = some (some (.ins C ns ps))) : insOf O (.loc n) = some (C, ns, ps) := by simp [insOf, h]
theorem seq_loc {O : Sto} {n : Nat} {ps : List PV} (h : O[n]? = some (some (.lst ps))) : seqOf O (.loc n) = some ps := by
  unfold seqOf
  simp [lstOf, h]
theorem lstT_loc {O : Sto} {n : Nat} {ps : List PV} (h : O[n]? = some (some (.lst ps))) : lstT O (.loc n) = some ps := by simp [lstT, h]
section
variable {α : Type} {K : Ks} {QP : PV → Sto → Prop} {s : Slots} {O O1 : Sto} {p q r : PV} {ps qs : List PV} {a b c : EF} {f g : AF} {i j : Int} {n : Nat}
/-! what is walked -/
theorem go_iLx {QI : ItP → Sto → Prop} (k : Go (a s O) fun p O1 => ∃ ps g, itemsOf O1 p = some (ps, g) ∧ QI (ps, g) O1) : Go (iL a s O) QI := go_bind (k.mono fun p O1 ⟨ps, g, e, h⟩ => by
  unfold itemsOf at e
  cases p with
  | lst qs => cases e; exact h
  | rol qs => cases e; exact h
  | loc n =>
    simp only at e ⊢
    cases q : O1[n]? with
    | none => simp [q] at e
    | some w =>
      cases w with
      | none => simp [q] at e
      | some w =>
        cases w with
        | lst qs =>
          simp only [q, Option.some.injEq, Prod.mk.injEq] at e ⊢
          obtain ⟨e1, e2⟩ := e
          subst e1
          subst e2
          exact h
        | _ => simp [q] at e
  | _ => cases e)
theorem g_itF {F : List PV → Option (Nat × List PV) → Prop} (e : itemsOf O p = some (ps, none)) (k : F ps none) : ∃ ps g, itemsOf O p = some (ps, g) ∧ F ps g := ⟨ps, none, e, k⟩
theorem g_itL {F : List PV → Option (Nat × List PV) → Prop} (e : O[n]? = some (some (.lst ps))) (k : F ps (some (n, ps))) : ∃ ps g, itemsOf O (.loc n) = some (ps, g) ∧ F ps g := ⟨ps, some (n, ps), by simp [itemsOf, e], k⟩
/-! loops and comprehensions over things that are told by a list -/
theorem chk_grd {gd : Option (Nat × List PV)} {bad r : α} (h : grd gd O) : chk gd O bad r = r := by
  cases gd with
  | none => rfl
  | some w => obtain ⟨n, ps⟩ := w; unfold chk; simp only; rw [if_pos (show O[n]? = some (some (.lst ps)) from h)]
theorem go_loopP {tgt : GF} {body : SF} {gd : Option (Nat × List PV)} (f : α → PV) (J : List α → Slots → Sto → Prop) (rs : List α) (hg : ∀ d s O, J d s O → grd gd O) (h0 : J [] s O)
    (hs : ∀ d r t s O, rs = d ++ r :: t → J d s O → Go (tgt (f r) s O) fun s1 O1 => GoS { K with nx := J (d ++ [r]), bk := K.nx, ct := J (d ++ [r]) } (body s1 O1)) (hd : ∀ s O, J rs s O → K.nx s O) : GoS K (loopL gd tgt body (rs.map f) s O) := by
  have main : ∀ (t d : List α) (s : Slots) (O : Sto), rs = d ++ t → J d s O → GoS K (loopL gd tgt body (t.map f) s O) := fun t => by
    induction t with
    | nil =>
      intro d s O e h
      rw [List.append_nil] at e
      subst e
      unfold List.map loopL
      rw [chk_grd (hg _ _ _ h)]
      exact hd s O h
    | cons r t ih =>
      intro d s O e h
      unfold List.map loopL
      rw [chk_grd (hg _ _ _ h)]
      refine go_toS ((hs d r t s O e h).mono fun s1 O1 h1 => ?_)
      have again : ∀ s2 O2, J (d ++ [r]) s2 O2 → GoS K (loopL gd tgt body (t.map f) s2 O2) := fun s2 O2 h2 => ih (d ++ [r]) s2 O2 (by rw [e]; simp) h2
      show GoS K (match body s1 O1 with | .next s2 O2 => loopL gd tgt body (t.map f) s2 O2 | .cnt s2 O2 => loopL gd tgt body (t.map f) s2 O2 | .brk s2 O2 => .next s2 O2 | x => x)
      cases e : body s1 O1 <;> rw [e] at h1 <;> first | exact again _ _ h1 | exact h1
  exact main rs [] s O rfl h0
/-! things that change -/
def GMo (m : MF) (C : Str) (ps : List PV) (O : Sto) (QP : PV → Sto → Prop) : Prop := Go (m (.loc O.length :: ps) (O ++ [some (.ins C [] [])])) fun r O2 => r = .non ∧ QP (.loc O.length) O2
theorem g_mo {m : MF} {C : Str} {ps' : List PV} (e : ps = ps') (k : Go (m (.loc O.length :: ps') (O ++ [some (.ins C [] [])])) fun r O2 => r = .non ∧ QP (.loc O.length) O2) : GMo m C ps O QP := by subst e; exact k
theorem go_makeO {C : Str} {m : MF} {dps : List PV} (k : Go (f s O) fun ps O1 => GMo m C (ps ++ dps) O1 QP) : Go (eMakeO C m dps f s O) QP := go_bind (k.mono fun ps O1 h => go_bind (by
  unfold GMo at h
  obtain ⟨r, O2, e, rfl, h⟩ := h.ex
  rw [e]
  exact h))
def GFs (K : Ks) (C fl : Str) (p q : PV) (s : Slots) (O : Sto) : Prop := GoS K (fldP C fl p q s O)
theorem go_fldS {C fl : Str} (k : Go (b s O) fun q O1 => Go (a s O1) fun p O2 => GFs K C fl p q s O2) : GoS K (sFldP C fl a b s O) := go_toS (k.mono fun q O1 h => go_toS h)
theorem go_frz (k : Go (a s O) fun p O1 => Go (frzP p O1) QP) : Go (eFrz a s O) QP := go_bind k
end
theorem go_isNb {O : Sto} {p : PV} {b : Bool} {QP : PV → Sto → Prop} (e : isNon p = b) (k : QP (.bl b) O) : Go (isN p .non O) QP := by subst e; exact k
theorem go_notNb {O : Sto} {p : PV} {b : Bool} {QP : PV → Sto → Prop} (e : isNon p = b) (k : QP (.bl (!b)) O) : Go (notN p .non O) QP := by subst e; exact k
/-! what a store keeps -/
structure Fr (O O' : Sto) : Prop where
  len : O.length ≤ O'.length
  at_ : ∀ m : Nat, m < O.length → O'[m]? = O[m]?
theorem Fr.refl {O : Sto} : Fr O O := ⟨Nat.le_refl _, fun _ _ => rfl⟩
theorem Fr.trans {O O' O'' : Sto} (a : Fr O O') (b : Fr O' O'') : Fr O O'' := ⟨Nat.le_trans a.len b.len, fun m h => (b.at_ m (Nat.lt_of_lt_of_le h a.len)).trans (a.at_ m h)⟩
theorem Fr.get {O O' : Sto} (a : Fr O O') {n : Nat} {x : Option PV} (h : O[n]? = some x) : O'[n]? = some x := (a.at_ n (List.getElem?_eq_some_iff.mp h).1).trans h
theorem Fr.app {O O' : Sto} (a : Fr O O') {x : Sto} : Fr O (O' ++ x) := ⟨Nat.le_trans a.len (by simp), fun m h => by rw [List.getElem?_append_left (Nat.lt_of_lt_of_le h a.len)]; exact a.at_ m h⟩
theorem Fr.pu {O O' : Sto} (a : Fr O O') {n : Nat} (h : Pu O n) : Pu O' n := by
  obtain ⟨x, y, z, e, h⟩ := h
  exact ⟨x, y, z, a.get e, h⟩
theorem Fr.put {O O' O'' : Sto} (a : Fr O O') {n : Nat} (hn : O.length ≤ n) (hl : O''.length = O'.length) (h : ∀ m : Nat, m ≠ n → O''[m]? = O'[m]?) : Fr O O'' := ⟨by rw [hl]; exact a.len, fun m hm => (h m (by omega)).trans (a.at_ m hm)⟩
theorem lt_of_get {O : Sto} {n : Nat} {x : Option PV} (h : O[n]? = some x) : n < O.length := (List.getElem?_eq_some_iff.mp h).1
end Qx

/-! Own layer Qs: the pure walk where something may be raised. -/
namespace Qx
open PySem PySem.Spec PyProof.Rows L2 Gx
def GoE {α : Type} (X : PExc → Sto → Prop) (r : PR α) (Q : α → Sto → Prop) : Prop := match r with
  | .ok a O => Q a O
  | .exc e O => X e O
  | .bad => False
section
variable {α β : Type} {X : PExc → Sto → Prop} {Q : α → Sto → Prop} {QP : PV → Sto → Prop} {s : Slots} {O O1 : Sto} {p q r : PV} {ps qs : List PV} {a b c : EF} {t u : TF} {f g : AF} {x y : SF} {K : Ks} {i j : Int} {n m : Nat} {mf : MF}
theorem goe_go {r : PR α} (h : Go r Q) : GoE X r Q := by
  cases r <;> first | exact h | exact h.elim
theorem goe_at {r : PR α} {e : PExc} (h : r = .exc e O1) (k : X e O1) : GoE X r Q := by rw [h]; exact k
theorem GoE.exc {r : PR α} {e : PExc} (h : GoE (fun e' O' => e' = e ∧ O' = O) r fun _ _ => False) : r = .exc e O := by
  cases r with
  | exc e' O' => obtain ⟨rfl, rfl⟩ := h; rfl
  | ok a O' => exact h.elim
  | bad => exact h.elim
theorem goe_bind {r : PR α} {h : α → Sto → PR β} {Q' : β → Sto → Prop} (k : Go r fun v O1 => GoE X (h v O1) Q') : GoE X (r.bind h) Q' := by
  cases r <;> first | exact k | exact k.elim
def GME (X : PExc → Sto → Prop) (m : MF) (ps : List PV) (O : Sto) (QP : PV → Sto → Prop) : Prop := GoE X (m ps O) QP
theorem g_me {m : MF} {ps' : List PV} (e : ps = ps') (k : GoE X (m ps' O) QP) : GME X m ps O QP := by subst e; exact k
theorem goe_call {m : MF} {dps : List PV} (k : Go (f s O) fun ps O1 => GME X m (ps ++ dps) O1 QP) : GoE X (eCall m dps f s O) QP := goe_bind k
theorem goe_callK {m : MF} {gP : List PV → List PV → List PV} {n k : Nat} (h : Go (f s O) fun ps O1 => Go (g s O1) fun zs O2 => (ps.length = n ∧ zs.length = k) ∧ GME X m (gP ps zs) O2 QP) : GoE X (eCallK m n k gP f g s O) QP := goe_bind (h.mono fun _ _ h => goe_bind (h.mono fun _ _ h => by rw [if_pos h.1]; exact h.2))
theorem goe_meth {C me : Str} {mf : MF} {dps : List PV} (k : Go (a s O) fun p O1 => GMeth C me p O1 (Go (f s O1) fun ps O2 => GME X mf (p :: (ps ++ dps)) O2 QP)) : GoE X (eMeth C me mf dps a f s O) QP := goe_bind (k.mono fun _ _ ⟨ns, ps, e, e2, h⟩ => by simp only [e, e2, Option.isNone_none, and_self, if_true]; exact goe_bind h)
theorem goe_methK {C me : Str} {mf : MF} {gP : List PV → List PV → List PV} {n k : Nat} (h : Go (a s O) fun p O1 => GMeth C me p O1 (Go (f s O1) fun ps O2 => Go (g s O2) fun zs O3 => (ps.length + 1 = n ∧ zs.length = k) ∧ GME X mf (gP (p :: ps) zs) O3 QP)) : GoE X (eMethK C me mf n k gP a f g s O) QP := goe_bind (h.mono fun _ _ ⟨ns, ps, e, e2, h⟩ => by
  simp only [e, e2, Option.isNone_none, and_self, if_true]
  exact goe_bind (h.mono fun _ _ h => goe_bind (h.mono fun _ _ h => by rw [if_pos h.1]; exact h.2)))
theorem goe_def {N : Nat} {body : SF} {s' : Slots} (e : ps.length = n) (e2 : ps.map some ++ List.replicate (N - n) none = s') (k : GoS { nx := fun _ O1 => QP .non O1, rt := QP, bk := fun _ _ => False, ct := fun _ _ => False, ex := fun e _ O1 => X e O1 } (body s' O)) : GoE X (mkDef n N body ps O) QP := by
  unfold mkDef
  rw [if_pos e, e2]
  cases q : body s' O <;> rw [q] at k <;> first | exact k | exact k.elim
theorem goe_toS {r : PR α} {h : α → Sto → SR} (k : GoE (fun e O1 => K.ex e s O1) r fun v O1 => GoS K (h v O1)) : GoS K (r.toS s h) := by
  cases r <;> first | exact k | exact k.elim
theorem gos_expE (k : GoE (fun e O1 => K.ex e s O1) (a s O) fun _ O1 => K.nx s O1) : GoS K (sExp a s O) := goe_toS k
theorem gos_retE (k : GoE (fun e O1 => K.ex e s O1) (a s O) K.rt) : GoS K (sRet a s O) := goe_toS k
theorem gos_raise {C : Str} (k : K.ex ⟨.cls C, [], []⟩ s O) : GoS K (sRaiseP C s O) := k
def TryK (K : Ks) (i : Nat) (cm : Str → Option Bool) (fs : SF) (e : PExc) (s1 : Slots) (O1 : Sto) : Prop := ∃ C b, e.cls = .cls C ∧ cm C = some b ∧ if b = true then GoS { nx := fun s O => K.nx (s.set i none) O, rt := K.rt, bk := fun s O => K.bk (s.set i none) O, ct := fun s O => K.ct (s.set i none) O } (fs (s1.set i (some (.xc C e.ns e.ps))) O1) else K.ex e s1 O1
theorem gos_try {i : Nat} {cm : Str → Option Bool} {fb fs : SF} (k : GoS { K with ex := TryK K i cm fs } (fb s O)) : GoS K (sTryAs i cm fb fs s O) := by
  unfold sTryAs
  cases e : fb s O with
  | next s1 O1 => rw [e] at k; exact k
  | ret p O1 => rw [e] at k; exact k
  | brk s1 O1 => rw [e] at k; exact k
  | cnt s1 O1 => rw [e] at k; exact k
  | bad => rw [e] at k; exact k
  | exc x s1 O1 =>
    rw [e] at k
    obtain ⟨cls, ns, ps⟩ := x
    obtain ⟨C, b, ec, hc, k⟩ := k
    have ec : cls = .cls C := ec
    subst ec
    simp only [hc]
    cases b with
    | true =>
      simp only [if_true] at k
      show GoS K ((fs (s1.set i (some (.xc C ns ps))) O1).unset i)
      cases e2 : fs (s1.set i (some (.xc C ns ps))) O1 <;> rw [e2] at k <;> first | exact k | exact k.elim
    | false => exact k
/-! defs that don't raise -/
theorem go_noXM {m : List PV → Sto → PR α} (k : Go (m ps O) Q) : Go (noXM m ps O) Q := by
  unfold noXM
  cases e : m ps O <;> rw [e] at k <;> first | exact k | exact k.elim
theorem go_mkN {C : Str} {m : List PV → Sto → PR (List Str × List PV)} (k : Go (mkIns C (m ps O)) QP) : Go (mkIns C (noXM m ps O)) QP := by
  unfold noXM
  cases e : m ps O <;> rw [e] at k <;> first | exact k | exact k.elim
/-! isinstance and such -/
theorem go_isT {h : PV → List PV → Sto → PR PV} (k : Go (a s O) fun p O1 => Go (f s O1) fun ps O2 => szOk ps.length = true ∧ Go (h p ps O2) QP) : Go (eIsT h a f s O) QP := go_bind (k.mono fun _ _ h => go_bind (h.mono fun _ _ h => by rw [if_pos h.1]; exact h.2))
theorem go_repL (e : lstT O p = some ps) (e2 : (decide (-(2 ^ 63) ≤ i ∧ i < 2 ^ 63) && szOk (ps.length * i.toNat)) = true) (e3 : (List.replicate i.toNat ps).flatten = qs) (k : QP (.lst qs) O) : Go (repL p (.int i) O) QP := by
  unfold repL
  simp only [e, e2, if_true, e3]
  exact k
theorem go_dic0 (k : QP (.dic [] []) O) : Go (eDic0 s O) QP := k
/-! == of data -/
end
end Qx

/-! Own layer Qt: the pure walk of what Xi brings. -/
namespace Qx
open PySem PySem.Spec PyProof.Rows L2 Gx
section
variable {X : PExc → Sto → Prop} {QP : PV → Sto → Prop} {s : Slots} {O O1 : Sto} {p q r : PV} {ps qs : List PV} {a : EF} {f : AF} {K : Ks}
theorem go_bLstO (e : seqOf O p = some ps) (k : QP (.loc O.length) (O ++ [some (.lst ps)])) : Go (bLstO [p] O) QP := by
  unfold bLstO b1
  simp only [e]
  exact k
end
end Qx

/-! Own layer Qu: walking texts, own str, repr, bool, == any, in of own things. -/
namespace Qx
open PySem PySem.Spec PyProof.Rows L2 Gx
section
variable {α : Type} {QP : PV → Sto → Prop} {s : Slots} {O O1 : Sto} {p q r : PV} {ps qs : List PV} {a b c : EF} {f g : AF} {C : Str} {m : MF} {z y i' j' : Str} {i j : Int}
theorem go_noX {r : PR α} {Q : α → Sto → Prop} (k : Go r Q) : Go (noX r) Q := by
  cases r <;> exact k
theorem go_otxt (e : insIs O C p = true) (k : Go (m [p] O) fun r O1 => ∃ z, r = .str z ∧ QP (.str z) O1) : Go (otxtP C m [p] O) QP := by
  unfold otxtP
  simp only
  rw [if_pos e]
  exact go_bind (go_noX (k.mono fun r O1 ⟨z, e, h⟩ => by subst e; exact h))
theorem go_fmtO (k : Go (a s O) fun p O1 => Go (otxtP C m [p] O1) QP) : Go (eFmtO C m a s O) QP := go_bind k
def GFmt (p : PV) (Q : Str → Prop) : Prop := match p with
  | .str z => z.length ≤ sizeLine ∧ Q z
  | .int i => i.natAbs.log2 < 1920 ∧ Q (toString i)
  | _ => False
theorem g_fmtS {Q : Str → Prop} (h : z.length ≤ sizeLine) (k : Q z) : GFmt (.str z) Q := ⟨h, k⟩
theorem g_fmtI {Q : Str → Prop} (h : i.natAbs.log2 < 1920) (k : Q (toString i)) : GFmt (.int i) Q := ⟨h, k⟩
theorem go_fmt (k : Go (a s O) fun p O1 => GFmt p fun z => QP (.str z) O1) : Go (eFmt a s O) QP := go_bind (k.mono fun p O1 h => by
  cases p <;> first | exact h.elim | (obtain ⟨h1, h2⟩ := h; simp only; rw [if_pos h1]; exact h2))
def GJ (fs : List EF) (acc : Str) (s : Slots) (O : Sto) (Q : Str → Sto → Prop) : Prop := Go (jsP fs acc s O) Q
theorem gj_nil {Q : Str → Sto → Prop} (k : Q z O) : GJ [] z s O Q := k
theorem gj_cons {Q : Str → Sto → Prop} {fs : List EF} (k : Go (a s O) fun p O1 => ∃ y, p = .str y ∧ (z ++ y).length ≤ sizeLine ∧ GJ fs (z ++ y) s O1 Q) : GJ (a :: fs) z s O Q := go_bind (k.mono fun p O1 ⟨y, e, h1, h2⟩ => by
  subst e
  simp only
  rw [if_pos h1]
  exact h2)
theorem go_js {fs : List EF} (k : GJ fs Str.empty s O fun z O1 => QP (.str z) O1) : Go (eJs fs s O) QP := go_bind k
theorem go_obool (e : insIs O C p = true) (k : Go (m [p] O) fun r O1 => ∃ n, r = .int n ∧ (0 ≤ n ∧ n < 2 ^ 63) ∧ QP (.bl (n != 0)) O1) : Go (oboolP C m [p] O) QP := by
  unfold oboolP
  simp only
  rw [if_pos e]
  exact go_bind (go_noX (k.mono fun r O1 ⟨n, e, h1, h2⟩ => by
    subst e
    simp only
    rw [if_pos (by rw [decide_eq_true h1.1, decide_eq_true h1.2]; rfl)]
    exact h2))
theorem go_boolR {n : Bool} {r : PR PV} (k : Go r fun p O1 => GB p fun b => QP (.bl (if n = true then !b else b)) O1) : Go (boolR n r) QP := go_bind (go_noX (k.mono fun p O1 ⟨b, e, h⟩ => by
  subst e
  cases n <;> exact h))
theorem go_oeqA {cs : List Str} {t : Sum String Str} (e : tyOf O q = some t) (e2 : (insIs O C p && (tyIn cs t && cs.contains C)) = true) (k : Go (m [p, q] O) fun r O1 => GB r fun b => QP (.bl b) O1) : Go (oeqA cs C m p q O) QP := by
  unfold oeqA
  simp only [e]
  rw [if_pos e2]
  exact go_boolR k
theorem go_oneA {cs : List Str} {t : Sum String Str} (e : tyOf O q = some t) (e2 : (insIs O C p && (tyIn cs t && cs.contains C)) = true) (k : Go (m [p, q] O) fun r O1 => GB r fun b => QP (.bl (!b)) O1) : Go (oneA cs C m p q O) QP := by
  unfold oneA
  simp only [e]
  rw [if_pos e2]
  exact go_boolR k
theorem go_strS (k : QP (.str z) O) : Go (bStrS [.str z] O) QP := k
theorem go_strI (h : i.natAbs.log2 < 1920) (k : QP (.str (toString i)) O) : Go (bStrI [.int i] O) QP := by
  unfold bStrI b1
  simp only
  rw [if_pos h]
  exact k
theorem go_addS (h : i'.length + j'.length ≤ 16777216) (k : QP (.str (i' ++ j')) O) : Go (addS (.str i') (.str j') O) QP := by
  unfold addS s2
  simp only
  rw [if_pos (show zOk _ = true from decide_eq_true h)]
  exact k
theorem nev_ints (ns ms : List Int) (O : Sto) : neD (.tup (ns.map .int)) (.tup (ms.map .int)) O = .ok (.bl (!decide (ns = ms))) O := by
  unfold neD toD
  simp only [toD0, toDL_ints, Option.map_some]
  rw [if_pos (by rw [shaped_ints, shaped_ints]; rfl)]
  congr 3
  exact eqvAll_ints ns ms
theorem go_neTI {ns ms : List Int} (e1 : ps = (ps.map unP).map .int) (e2 : qs = (qs.map unP).map .int) (e3 : ps.map unP = ns) (e4 : qs.map unP = ms) (k : QP (.bl (!decide (ns = ms))) O) : Go (neD (.tup ps) (.tup qs) O) QP := by
  subst e3
  subst e4
  have e := nev_ints (ps.map unP) (qs.map unP) O
  rw [← e1, ← e2] at e
  exact go_at e k
/-! the newest list of the store -/
theorem go_appN {ps' : List PV} (h : ps.length.ble 100000 = true) (e : ps ++ [q] = ps') (k : QP .non (O ++ [some (.lst ps')])) : Go (appendP (.loc O.length) [q] (O ++ [some (.lst ps)])) QP := by
  subst e
  refine go_append get_app (szl_le (Nat.le_of_ble_eq_true h)) ?_
  have e : (O ++ [some (PV.lst ps)]).set O.length (some (.lst (ps ++ [q]))) = O ++ [some (.lst (ps ++ [q]))] := by
    rw [List.set_append_right _ _ (Nat.le_refl _)]
    simp
  rw [e]
  exact k
theorem g_itN {F : List PV → Option (Nat × List PV) → Prop} (k : F ps (some (O.length, ps))) : ∃ ps' g, itemsOf (O ++ [some (.lst ps)]) (.loc O.length) = some (ps', g) ∧ F ps' g := ⟨ps, some (O.length, ps), by
  unfold itemsOf
  simp only [get_app], k⟩
theorem comp_nilg {gd : Option (Nat × List PV)} {tgt : GF} {t : TF} {e : EF} {s0 : Slots} {acc : List PV} {F : List PV → Sto → Prop} (hg : grd gd O) (k : F acc O) : ∃ ps O2, compL gd tgt t e s0 [] acc O = .ok ps O2 ∧ F ps O2 := ⟨acc, O, by unfold compL; rw [chk_grd hg], k⟩
theorem comp_one1g {gd : Option (Nat × List PV)} {tgt : GF} {e : EF} {s0 : Slots} {items acc : List PV} {F : List PV → Sto → Prop} (hg : grd gd O) (hl : acc.length.ble 100000 = true) (k : Go (tgt p s0 O) fun s1 O1 => Go (e s1 O1) fun q O' => GAcc (acc ++ [q]) fun acc' => ∃ ps O2, compL gd tgt tYesP e s0 items acc' O' = .ok ps O2 ∧ F ps O2) : ∃ ps O2, compL gd tgt tYesP e s0 (p :: items) acc O = .ok ps O2 ∧ F ps O2 := by
  obtain ⟨s1, O1, e1, h2⟩ := k.ex
  obtain ⟨q, O3, e3, h4⟩ := h2.ex
  obtain ⟨ps, O2, e5, h6⟩ := h4
  refine ⟨ps, O2, ?_, h6⟩
  unfold compL
  rw [chk_grd hg, e1]
  simp only [PR.bind, tYesP, if_true]
  rw [e3]
  simp only
  rw [if_pos (szl_le (Nat.le_of_ble_eq_true hl))]
  exact e5
theorem go_bms {h : PV → List PV → Sto → PR PV} (k : Go (a s O) fun p O1 => isStr p = true ∧ Go (f s O1) fun ps O2 => Go (h p ps O2) QP) : Go (eBms h a f s O) QP := go_bind (k.mono fun _ _ ⟨e, h⟩ => by rw [if_pos e]; exact go_bind h)
theorem go_bms0 {h : PV → List PV → Sto → PR PV} (k : Go (a s O) fun p O1 => isStr p = true ∧ Go (h p [] O1) QP) : Go (eBms0 h a s O) QP := go_bind (k.mono fun _ _ ⟨e, h⟩ => by rw [if_pos e]; exact h)
theorem g_str {F : Str → Prop} (k : F z) : ∃ y, PV.str z = .str y ∧ F y := ⟨z, rfl, k⟩
theorem go_join {ys : List Str} (e : (seqOf O p).bind strsOf = some ys) (h : (ys.map (·.length)).sum + ys.length * z.length ≤ 16777216) (k : QP (.str (Txt.join z ys)) O) : Go (joinP (.str z) [p] O) QP := by
  unfold joinP
  simp only [e]
  rw [if_pos (decide_eq_true h)]
  exact k
theorem seq_new {ps : List PV} : seqOf (O ++ [some (.lst ps)]) (.loc O.length) = some ps := by
  have e : lstOf (O ++ [some (PV.lst ps)]) (.loc O.length) = some ps := lst_loc get_app
  unfold seqOf
  rw [e]
theorem go_joinN {ps : List PV} {ys : List Str} (e : strsOf ps = some ys) (h : (ys.map (·.length)).sum + ys.length * z.length ≤ 16777216) (k : QP (.str (Txt.join z ys)) (O ++ [some (.lst ps)])) : Go (joinP (.str z) [.loc O.length] (O ++ [some (.lst ps)])) QP := go_join (by rw [seq_new]; exact e) h k
theorem Fr.tr {O O' O'' : Sto} (b : Fr O' O'') (a : Fr O O') : Fr O O'' := a.trans b
theorem zl_emp : Str.empty.length = 0 := rfl
theorem join_1 (z x : Str) : Txt.join z [x] = x := rfl
theorem join_2 (z x y : Str) : Txt.join z [x, y] = x ++ z ++ y := rfl
theorem zl_app (a b : Str) : (a ++ b).length = a.length + b.length := Array.size_append
theorem go_iZ {QI : ItP → Sto → Prop} (k : Go (f s O) fun ps O1 => ∃ p q xs ys, ps = [p, q] ∧ frL p = some xs ∧ frL q = some ys ∧ QI (zipP xs ys, none) O1) : Go (iZ f s O) QI := go_bind (k.mono fun ps O1 ⟨p, q, xs, ys, e, e1, e2, h⟩ => by
  subst e
  simp only [e1, e2]
  exact h)
theorem g_iz {F : List PV → List PV → Prop} {xs ys : List PV} (e1 : frL p = some xs) (e2 : frL q = some ys) (k : F xs ys) : ∃ p' q' xs ys, [p, q] = [p', q'] ∧ frL p' = some xs ∧ frL q' = some ys ∧ F xs ys := ⟨p, q, xs, ys, rfl, e1, e2, k⟩
/-! while -/
/-! x in a list of own things -/
theorem go_inOL {cs : List Str} {n : Bool} (k : Go (inOP cs C m n p qs O) QP) : Go (inOL cs C m n p (.lst qs) O) QP := k
end
end Qx

/-! Own layer Qv: walk rules of Xs; lists of pairs of whole numbers. -/
namespace Qx
open PySem PySem.Spec PyProof.Rows L2 Gx
section
variable {s : Slots} {O O1 : Sto} {p q r : PV} {ps qs : List PV} {a b : EF} {f g : AF} {QP : PV → Sto → Prop} {QA : List PV → Sto → Prop}
/-! what is walked: a list or a tuple -/
theorem go_iAt {QI : ItP → Sto → Prop} (k : Go (a s O) fun p O1 => ∃ ps g, (match tupOf p with | some ps => some (ps, none) | none => itemsOf O1 p) = some (ps, g) ∧ QI (ps, g) O1) : Go (iA a s O) QI := by
  refine go_bind (k.mono fun p O1 ⟨ps, g, e, h⟩ => ?_)
  cases e1 : tupOf p with
  | some qs =>
    simp only [e1, Option.some.injEq, Prod.mk.injEq] at e
    obtain ⟨rfl, rfl⟩ := e
    exact h
  | none =>
    simp only [e1] at e
    have k2 := go_iLx (a := fun _ O => .ok p O) (s := s) (O := O1) (QI := QI) ⟨ps, g, e, h⟩
    exact k2
theorem g_at {F : List PV → Option (Nat × List PV) → Prop} (k : F ps none) : ∃ qs g, (match tupOf (.tup ps) with | some qs => some (qs, none) | none => itemsOf O (.tup ps)) = some (qs, g) ∧ F qs g := ⟨ps, none, rfl, k⟩
theorem g_al {F : List PV → Option (Nat × List PV) → Prop} (k : F ps none) : ∃ qs g, (match tupOf (.lst ps) with | some qs => some (qs, none) | none => itemsOf O (.lst ps)) = some (qs, g) ∧ F qs g := ⟨ps, none, rfl, k⟩
/-! pairs -/
theorem prsOf_map : ∀ zs : List (Int × Int), prsOf (zs.map prP) = some zs
  | [] => rfl
  | z :: zs => by
    rw [List.map_cons]
    unfold prsOf
    rw [prsOf_map zs]
    rfl
theorem go_sort2 {zs : List (Int × Int)} (e : lstOf O p = some (zs.map prP)) (k : QP (.lst ((zs.mergeSort leP).map prP)) O) : Go (bSort2 [p] O) QP := by
  unfold bSort2 b1
  simp only [e, prsOf_map]
  exact k
theorem go_isBB {b c : Bool} (k : QP (.bl (decide (b = c))) O) : Go (isB (.bl b) (.bl c) O) QP := k
theorem go_notBB {b c : Bool} (k : QP (.bl (!decide (b = c))) O) : Go (notB (.bl b) (.bl c) O) QP := k
theorem go_makeKO {C : Str} {m : MF} {gP : List PV → List PV → List PV} {n k : Nat} (h : Go (f s O) fun ps O1 => Go (g s O1) fun zs O2 => (ps.length = n ∧ zs.length = k) ∧ GMo m C (gP ps zs) O2 QP) : Go (eMakeKO C m n k gP f g s O) QP := go_bind (h.mono fun ps O1 h => go_bind (h.mono fun zs O2 h => by
  rw [if_pos h.1]
  exact go_bind (go_noX (Go.mono h.2 fun r O3 ⟨e, h3⟩ => by subst e; exact h3))))
/-! a list of pairs as data -/
/-! the last item -/
/-! try with several clauses -/
end
end Qx

namespace Qx
open PySem PySem.Spec PyProof.Rows L2 Gx
/-! walk -/
end Qx

namespace Qx
open PySem PySem.Spec PyProof.Rows L2 Gx
theorem go_slTA {l v : Option Int} {O : Sto} {ps : List PV} {QP : PV → Sto → Prop} (k : QP (.tup (cutP ps l v)) O) : Go (slTA (.tup ps) l v O) QP := k
/-! min by a key -/
end Qx

/-! Own layer Qz: the walk of lambdas and of sorted with a key. -/
namespace Qx
open PySem PySem.Spec PyProof.Rows L2 Gx
section
variable {s : Slots} {O : Sto} {QP : PV → Sto → Prop} {f : AF} {m : MF} {L : LamI}
theorem lamTab_hit {r : List (LamI × MF)} : lamTab ((L, m) :: r) L = some m := by
  unfold lamTab
  rw [if_pos rfl, if_pos rfl]
theorem go_lam {n : Nat} (h : O[n]? = some (some (.tbl L.t))) (k : QP (.fn L) O) : Go (eLam n L s O) QP := by
  unfold eLam
  rw [if_pos (isTab_of h)]
  exact k
theorem go_callMf {tab : List (Str × MF)} {lams : List (LamI × MF)} {i : Nat} (e : s[i]? = some (some (.fn L))) (e2 : lamTab lams L = some m) (k : Go (f s O) fun ps O1 => Go (m ps O1) QP) : Go (eCallM tab lams i f s O) QP := by
  unfold eCallM
  rw [e]
  simp only
  rw [e2]
  exact go_bind k
theorem keysK_map {α : Type} {fb : EF} {g : α → PV} {h : α → PV} : ∀ (xs : List α), (∀ x ∈ xs, fb (s ++ [some (g x)]) O = .ok (h x) O) → keysK fb s (xs.map g) O = .ok (xs.map h) O
  | [], _ => rfl
  | x :: xs, hx => by
    show (match fb (s ++ [some (g x)]) O with
      | .ok y O1 => (match keysK fb s (xs.map g) O1 with
        | .ok ys O2 => PR.ok (y :: ys) O2
        | _ => .bad)
      | _ => .bad) = _
    rw [hx x List.mem_cons_self]
    simp only
    rw [keysK_map xs fun y hy => hx y (List.mem_cons_of_mem _ hy)]
    rfl
theorem go_sortK {n : Nat} {t : TabI} {b : Bool} {fa : AF} {fb : EF} (k : Go (fa s O) fun vs O1 => ∃ p ps ks ds, vs = [p] ∧ O1[n]? = some (some (.tbl t)) ∧ seqK O1 p = some ps ∧ keysK fb s ps O1 = .ok ks O1 ∧ toDL ks = some ds ∧ (alikeB ds && (sortB ds && ds.all fun d => decide (d.depth ≤ 60))) = true ∧ QP (.lst (sortQB b ps ds)) O1) : Go (eSortK n t b fa fb s O) QP := by
  refine go_bind (k.mono fun vs O1 h => ?_)
  obtain ⟨p, ps, ks, ds, rfl, h1, h2, h3, h4, h5, h6⟩ := h
  simp only [isTab_of h1, if_true, h2, h3, h4, h5]
  exact h6
end
end Qx

namespace Hd
open PySem PySem.Spec PyProof.Rows L2

structure Tx (w : World) (K : PySem.W.Frag) (mg : Str → Option Value) : Prop where
  h : ∃ (h : Heap), K.In h ∧ h.Ns mainGlobals mg ∧ He.SaysX fa fn tabs tf ex w h K
section
variable {w : World} {K : PySem.W.Frag} {mg : Str → Option Value}
theorem Tx.g__law_cell (T : Tx w K mg) : mg "_law_cell" = some (.ref (He.fAd K d__law_cell.at_)) := by obtain ⟨h, X, G, c⟩ := T.h; exact He.glo_ok X G (c.t.d.fact 0 (f := .glo "_law_cell") rfl)
theorem Tx.g__law_cells (T : Tx w K mg) : mg "_law_cells" = some (.ref (He.fAd K d__law_cells.at_)) := by obtain ⟨h, X, G, c⟩ := T.h; exact He.glo_ok X G (c.t.d.fact 1 (f := .glo "_law_cells") rfl)
theorem Tx.g__law_purse (T : Tx w K mg) : mg "_law_purse" = some (.ref (He.fAd K d__law_purse.at_)) := by obtain ⟨h, X, G, c⟩ := T.h; exact He.glo_ok X G (c.t.d.fact 2 (f := .glo "_law_purse") rfl)
theorem Tx.g__law_take (T : Tx w K mg) : mg "_law_take" = some (.ref (He.fAd K d__law_take.at_)) := by obtain ⟨h, X, G, c⟩ := T.h; exact He.glo_ok X G (c.t.d.fact 3 (f := .glo "_law_take") rfl)
theorem Tx.g__law_measure (T : Tx w K mg) : mg "_law_measure" = some (.ref (He.fAd K d__law_measure.at_)) := by obtain ⟨h, X, G, c⟩ := T.h; exact He.glo_ok X G (c.t.d.fact 4 (f := .glo "_law_measure") rfl)
theorem Tx.g__law_allowed (T : Tx w K mg) : mg "_law_allowed" = some (.ref (He.fAd K d__law_allowed.at_)) := by obtain ⟨h, X, G, c⟩ := T.h; exact He.glo_ok X G (c.t.d.fact 5 (f := .glo "_law_allowed") rfl)
theorem Tx.g__law_parts (T : Tx w K mg) : mg "_law_parts" = some (.ref (He.fAd K d__law_parts.at_)) := by obtain ⟨h, X, G, c⟩ := T.h; exact He.glo_ok X G (c.t.d.fact 6 (f := .glo "_law_parts") rfl)
theorem Tx.g_is_measure (T : Tx w K mg) : mg "is_measure" = some (.ref (He.fAd K d_is_measure.at_)) := by obtain ⟨h, X, G, c⟩ := T.h; exact He.glo_ok X G (c.t.d.fact 7 (f := .glo "is_measure") rfl)
theorem Tx.g_check_measure (T : Tx w K mg) : mg "check_measure" = some (.ref (He.fAd K d_check_measure.at_)) := by obtain ⟨h, X, G, c⟩ := T.h; exact He.glo_ok X G (c.t.d.fact 8 (f := .glo "check_measure") rfl)
theorem Tx.g_check_allowance (T : Tx w K mg) : mg "check_allowance" = some (.ref (He.fAd K d_check_allowance.at_)) := by obtain ⟨h, X, G, c⟩ := T.h; exact He.glo_ok X G (c.t.d.fact 9 (f := .glo "check_allowance") rfl)
theorem Tx.g__law_no_number (T : Tx w K mg) : mg "_law_no_number" = some (.ref (He.fAd K d__law_no_number.at_)) := by obtain ⟨h, X, G, c⟩ := T.h; exact He.glo_ok X G (c.t.d.fact 10 (f := .glo "_law_no_number") rfl)
theorem Tx.g__law_made (T : Tx w K mg) : mg "_law_made" = some (.ref (He.fAd K d__law_made.at_)) := by obtain ⟨h, X, G, c⟩ := T.h; exact He.glo_ok X G (c.t.d.fact 11 (f := .glo "_law_made") rfl)
theorem Tx.g__law_no_span (T : Tx w K mg) : mg "_law_no_span" = some (.ref (He.fAd K d__law_no_span.at_)) := by obtain ⟨h, X, G, c⟩ := T.h; exact He.glo_ok X G (c.t.d.fact 12 (f := .glo "_law_no_span") rfl)
theorem Tx.g__law_two (T : Tx w K mg) : mg "_law_two" = some (.ref (He.fAd K d__law_two.at_)) := by obtain ⟨h, X, G, c⟩ := T.h; exact He.glo_ok X G (c.t.d.fact 13 (f := .glo "_law_two") rfl)
theorem Tx.g__law_row (T : Tx w K mg) : mg "_law_row" = some (.ref (He.fAd K d__law_row.at_)) := by obtain ⟨h, X, G, c⟩ := T.h; exact He.glo_ok X G (c.t.d.fact 14 (f := .glo "_law_row") rfl)
theorem Tx.g_check_span (T : Tx w K mg) : mg "check_span" = some (.ref (He.fAd K d_check_span.at_)) := by obtain ⟨h, X, G, c⟩ := T.h; exact He.glo_ok X G (c.t.d.fact 15 (f := .glo "check_span") rfl)
theorem Tx.g_span_of (T : Tx w K mg) : mg "span_of" = some (.ref (He.fAd K d_span_of.at_)) := by obtain ⟨h, X, G, c⟩ := T.h; exact He.glo_ok X G (c.t.d.fact 16 (f := .glo "span_of") rfl)
theorem Tx.g_both (T : Tx w K mg) : mg "both" = some (.ref (He.fAd K d_both.at_)) := by obtain ⟨h, X, G, c⟩ := T.h; exact He.glo_ok X G (c.t.d.fact 17 (f := .glo "both") rfl)
theorem Tx.g_within (T : Tx w K mg) : mg "within" = some (.ref (He.fAd K d_within.at_)) := by obtain ⟨h, X, G, c⟩ := T.h; exact He.glo_ok X G (c.t.d.fact 18 (f := .glo "within") rfl)
theorem Tx.g_unlike (T : Tx w K mg) : mg "unlike" = some (.ref (He.fAd K d_unlike.at_)) := by obtain ⟨h, X, G, c⟩ := T.h; exact He.glo_ok X G (c.t.d.fact 19 (f := .glo "unlike") rfl)
theorem Tx.g_check_row (T : Tx w K mg) : mg "check_row" = some (.ref (He.fAd K d_check_row.at_)) := by obtain ⟨h, X, G, c⟩ := T.h; exact He.glo_ok X G (c.t.d.fact 20 (f := .glo "check_row") rfl)
theorem Tx.g_in_order (T : Tx w K mg) : mg "in_order" = some (.ref (He.fAd K d_in_order.at_)) := by obtain ⟨h, X, G, c⟩ := T.h; exact He.glo_ok X G (c.t.d.fact 21 (f := .glo "in_order") rfl)
theorem Tx.g__law_door (T : Tx w K mg) : mg "_law_door" = some (.ref (He.fAd K d__law_door.at_)) := by obtain ⟨h, X, G, c⟩ := T.h; exact He.glo_ok X G (c.t.d.fact 22 (f := .glo "_law_door") rfl)
theorem Tx.g__law_sort (T : Tx w K mg) : mg "_law_sort" = some (.ref (He.fAd K d__law_sort.at_)) := by obtain ⟨h, X, G, c⟩ := T.h; exact He.glo_ok X G (c.t.d.fact 23 (f := .glo "_law_sort") rfl)
theorem Tx.g__law_seen (T : Tx w K mg) : mg "_law_seen" = some (.ref (He.fAd K d__law_seen.at_)) := by obtain ⟨h, X, G, c⟩ := T.h; exact He.glo_ok X G (c.t.d.fact 24 (f := .glo "_law_seen") rfl)
theorem Tx.g__law_right (T : Tx w K mg) : mg "_law_right" = some (.ref (He.fAd K d__law_right.at_)) := by obtain ⟨h, X, G, c⟩ := T.h; exact He.glo_ok X G (c.t.d.fact 25 (f := .glo "_law_right") rfl)
theorem Tx.g_law (T : Tx w K mg) : mg "law" = some (.ref (He.fAd K d_law.at_)) := by obtain ⟨h, X, G, c⟩ := T.h; exact He.glo_ok X G (c.t.d.fact 26 (f := .glo "law") rfl)
theorem Tx.g_FitError (T : Tx w K mg) : mg "FitError" = some (.ref (He.ga K "FitError")) := by obtain ⟨h, X, G, c⟩ := T.h; exact He.glo_ok X G (c.t.d.fact 27 (f := .glo "FitError") rfl)
theorem Tx.g_NoMeasure (T : Tx w K mg) : mg "NoMeasure" = some (.ref (He.ga K "NoMeasure")) := by obtain ⟨h, X, G, c⟩ := T.h; exact He.glo_ok X G (c.t.d.fact 28 (f := .glo "NoMeasure") rfl)
theorem Tx.g_NoAllowance (T : Tx w K mg) : mg "NoAllowance" = some (.ref (He.ga K "NoAllowance")) := by obtain ⟨h, X, G, c⟩ := T.h; exact He.glo_ok X G (c.t.d.fact 29 (f := .glo "NoAllowance") rfl)
theorem Tx.g_NoSpan (T : Tx w K mg) : mg "NoSpan" = some (.ref (He.ga K "NoSpan")) := by obtain ⟨h, X, G, c⟩ := T.h; exact He.glo_ok X G (c.t.d.fact 30 (f := .glo "NoSpan") rfl)
theorem Tx.g_NoLimits (T : Tx w K mg) : mg "NoLimits" = some (.ref (He.ga K "NoLimits")) := by obtain ⟨h, X, G, c⟩ := T.h; exact He.glo_ok X G (c.t.d.fact 31 (f := .glo "NoLimits") rfl)
theorem Tx.g_NoOption (T : Tx w K mg) : mg "NoOption" = some (.ref (He.ga K "NoOption")) := by obtain ⟨h, X, G, c⟩ := T.h; exact He.glo_ok X G (c.t.d.fact 32 (f := .glo "NoOption") rfl)
theorem Tx.g_NoNew (T : Tx w K mg) : mg "NoNew" = some (.ref (He.ga K "NoNew")) := by obtain ⟨h, X, G, c⟩ := T.h; exact He.glo_ok X G (c.t.d.fact 33 (f := .glo "NoNew") rfl)
theorem Tx.g_NoDrawing (T : Tx w K mg) : mg "NoDrawing" = some (.ref (He.ga K "NoDrawing")) := by obtain ⟨h, X, G, c⟩ := T.h; exact He.glo_ok X G (c.t.d.fact 34 (f := .glo "NoDrawing") rfl)
theorem Tx.g_NoWants (T : Tx w K mg) : mg "NoWants" = some (.ref (He.ga K "NoWants")) := by obtain ⟨h, X, G, c⟩ := T.h; exact He.glo_ok X G (c.t.d.fact 35 (f := .glo "NoWants") rfl)
theorem Tx.g_NoZeros (T : Tx w K mg) : mg "NoZeros" = some (.ref (He.ga K "NoZeros")) := by obtain ⟨h, X, G, c⟩ := T.h; exact He.glo_ok X G (c.t.d.fact 36 (f := .glo "NoZeros") rfl)
theorem Tx.g_NoSieve (T : Tx w K mg) : mg "NoSieve" = some (.ref (He.ga K "NoSieve")) := by obtain ⟨h, X, G, c⟩ := T.h; exact He.glo_ok X G (c.t.d.fact 37 (f := .glo "NoSieve") rfl)
theorem Tx.g_NoTray (T : Tx w K mg) : mg "NoTray" = some (.ref (He.ga K "NoTray")) := by obtain ⟨h, X, G, c⟩ := T.h; exact He.glo_ok X G (c.t.d.fact 38 (f := .glo "NoTray") rfl)
theorem Tx.g_NoRow (T : Tx w K mg) : mg "NoRow" = some (.ref (He.ga K "NoRow")) := by obtain ⟨h, X, G, c⟩ := T.h; exact He.glo_ok X G (c.t.d.fact 39 (f := .glo "NoRow") rfl)
theorem Tx.g_ReadError (T : Tx w K mg) : mg "ReadError" = some (.ref (He.ga K "ReadError")) := by obtain ⟨h, X, G, c⟩ := T.h; exact He.glo_ok X G (c.t.d.fact 40 (f := .glo "ReadError") rfl)
theorem Tx.g_NoWord (T : Tx w K mg) : mg "NoWord" = some (.ref (He.ga K "NoWord")) := by obtain ⟨h, X, G, c⟩ := T.h; exact He.glo_ok X G (c.t.d.fact 41 (f := .glo "NoWord") rfl)
theorem Tx.g_NoLine (T : Tx w K mg) : mg "NoLine" = some (.ref (He.ga K "NoLine")) := by obtain ⟨h, X, G, c⟩ := T.h; exact He.glo_ok X G (c.t.d.fact 42 (f := .glo "NoLine") rfl)
theorem Tx.g_MissError (T : Tx w K mg) : mg "MissError" = some (.ref (He.ga K "MissError")) := by obtain ⟨h, X, G, c⟩ := T.h; exact He.glo_ok X G (c.t.d.fact 43 (f := .glo "MissError") rfl)
theorem Tx.g_NoName (T : Tx w K mg) : mg "NoName" = some (.ref (He.ga K "NoName")) := by obtain ⟨h, X, G, c⟩ := T.h; exact He.glo_ok X G (c.t.d.fact 44 (f := .glo "NoName") rfl)
theorem Tx.g_NoPlace (T : Tx w K mg) : mg "NoPlace" = some (.ref (He.ga K "NoPlace")) := by obtain ⟨h, X, G, c⟩ := T.h; exact He.glo_ok X G (c.t.d.fact 45 (f := .glo "NoPlace") rfl)
theorem Tx.g_RoomError (T : Tx w K mg) : mg "RoomError" = some (.ref (He.ga K "RoomError")) := by obtain ⟨h, X, G, c⟩ := T.h; exact He.glo_ok X G (c.t.d.fact 46 (f := .glo "RoomError") rfl)
theorem Tx.g_TooLong (T : Tx w K mg) : mg "TooLong" = some (.ref (He.ga K "TooLong")) := by obtain ⟨h, X, G, c⟩ := T.h; exact He.glo_ok X G (c.t.d.fact 47 (f := .glo "TooLong") rfl)
theorem Tx.g_Span (T : Tx w K mg) : mg "Span" = some (.ref (He.ga K "Span")) := by obtain ⟨h, X, G, c⟩ := T.h; exact He.glo_ok X G (c.t.d.fact 48 (f := .glo "Span") rfl)
theorem Tx.f_len (T : Tx w K mg) : mg "len" = none := by obtain ⟨h, X, G, c⟩ := T.h; exact He.free_ok X G (c.t.d.fact 49 (f := .free "len") rfl)
theorem Tx.f_sum (T : Tx w K mg) : mg "sum" = none := by obtain ⟨h, X, G, c⟩ := T.h; exact He.free_ok X G (c.t.d.fact 50 (f := .free "sum") rfl)
theorem Tx.f_range (T : Tx w K mg) : mg "range" = none := by obtain ⟨h, X, G, c⟩ := T.h; exact He.free_ok X G (c.t.d.fact 51 (f := .free "range") rfl)
theorem Tx.f_max (T : Tx w K mg) : mg "max" = none := by obtain ⟨h, X, G, c⟩ := T.h; exact He.free_ok X G (c.t.d.fact 52 (f := .free "max") rfl)
theorem Tx.f_min (T : Tx w K mg) : mg "min" = none := by obtain ⟨h, X, G, c⟩ := T.h; exact He.free_ok X G (c.t.d.fact 53 (f := .free "min") rfl)
theorem Tx.f_abs (T : Tx w K mg) : mg "abs" = none := by obtain ⟨h, X, G, c⟩ := T.h; exact He.free_ok X G (c.t.d.fact 54 (f := .free "abs") rfl)
theorem Tx.f_isinstance (T : Tx w K mg) : mg "isinstance" = none := by obtain ⟨h, X, G, c⟩ := T.h; exact He.free_ok X G (c.t.d.fact 55 (f := .free "isinstance") rfl)
theorem Tx.f_int (T : Tx w K mg) : mg "int" = none := by obtain ⟨h, X, G, c⟩ := T.h; exact He.free_ok X G (c.t.d.fact 56 (f := .free "int") rfl)
theorem Tx.f_bool (T : Tx w K mg) : mg "bool" = none := by obtain ⟨h, X, G, c⟩ := T.h; exact He.free_ok X G (c.t.d.fact 57 (f := .free "bool") rfl)
theorem Tx.f_list (T : Tx w K mg) : mg "list" = none := by obtain ⟨h, X, G, c⟩ := T.h; exact He.free_ok X G (c.t.d.fact 58 (f := .free "list") rfl)
theorem Tx.f_tuple (T : Tx w K mg) : mg "tuple" = none := by obtain ⟨h, X, G, c⟩ := T.h; exact He.free_ok X G (c.t.d.fact 59 (f := .free "tuple") rfl)
theorem Tx.f_sorted (T : Tx w K mg) : mg "sorted" = none := by obtain ⟨h, X, G, c⟩ := T.h; exact He.free_ok X G (c.t.d.fact 60 (f := .free "sorted") rfl)
theorem Tx.f_LookupError (T : Tx w K mg) : mg "LookupError" = none := by obtain ⟨h, X, G, c⟩ := T.h; exact He.free_ok X G (c.t.d.fact 61 (f := .free "LookupError") rfl)
theorem Tx.f_ArithmeticError (T : Tx w K mg) : mg "ArithmeticError" = none := by obtain ⟨h, X, G, c⟩ := T.h; exact He.free_ok X G (c.t.d.fact 62 (f := .free "ArithmeticError") rfl)
theorem Tx.f_ValueError (T : Tx w K mg) : mg "ValueError" = none := by obtain ⟨h, X, G, c⟩ := T.h; exact He.free_ok X G (c.t.d.fact 63 (f := .free "ValueError") rfl)
theorem Tx.f_repr (T : Tx w K mg) : mg "repr" = none := by obtain ⟨h, X, G, c⟩ := T.h; exact He.free_ok X G (c.t.d.fact 64 (f := .free "repr") rfl)
theorem Tx.f_all (T : Tx w K mg) : mg "all" = none := by obtain ⟨h, X, G, c⟩ := T.h; exact He.free_ok X G (c.t.d.fact 65 (f := .free "all") rfl)
theorem Tx.mt_Span___repr__ (T : Tx w K mg) : Meth K (He.ga K "Span") "__repr__" (He.fAd K d_Span___repr__.at_) := by obtain ⟨h, X, G, c⟩ := T.h; exact He.meth_ok (c.t.d.fact 66 (f := .meth "Span" "__repr__") rfl)
theorem Tx.mt_Span_lets (T : Tx w K mg) : Meth K (He.ga K "Span") "lets" (He.fAd K d_Span_lets.at_) := by obtain ⟨h, X, G, c⟩ := T.h; exact He.meth_ok (c.t.d.fact 67 (f := .meth "Span" "lets") rfl)
theorem Tx.mt_Span_plus (T : Tx w K mg) : Meth K (He.ga K "Span") "plus" (He.fAd K d_Span_plus.at_) := by obtain ⟨h, X, G, c⟩ := T.h; exact He.meth_ok (c.t.d.fact 68 (f := .meth "Span" "plus") rfl)
theorem Tx.mt_Span_turned (T : Tx w K mg) : Meth K (He.ga K "Span") "turned" (He.fAd K d_Span_turned.at_) := by obtain ⟨h, X, G, c⟩ := T.h; exact He.meth_ok (c.t.d.fact 69 (f := .meth "Span" "turned") rfl)
theorem Tx.mt_Span_minus (T : Tx w K mg) : Meth K (He.ga K "Span") "minus" (He.fAd K d_Span_minus.at_) := by obtain ⟨h, X, G, c⟩ := T.h; exact He.meth_ok (c.t.d.fact 70 (f := .meth "Span" "minus") rfl)
theorem Tx.mt_Span___len__ (T : Tx w K mg) : Meth K (He.ga K "Span") "__len__" (He.fAd K d_Span___len__.at_) := by obtain ⟨h, X, G, c⟩ := T.h; exact He.meth_ok (c.t.d.fact 71 (f := .meth "Span" "__len__") rfl)
theorem Tx.cls_Span (T : Tx w K mg) : Cls K (He.ga K "Span") := by obtain ⟨h, X, G, c⟩ := T.h; exact He.cls_ok (c.t.d.fact 72 (f := .cls "Span") rfl)
theorem Tx.mkr_Span (T : Tx w K mg) : Mk K (He.ga K "Span") (He.fAd K d_Span___init__.at_) := by obtain ⟨h, X, G, c⟩ := T.h; exact He.mkr_ok (c.t.d.fact 73 (f := .mkr "Span") rfl)
theorem Tx.no_Span_size (T : Tx w K mg) : NoAttr K (He.ga K "Span") "size" := by obtain ⟨h, X, G, c⟩ := T.h; exact He.noat_ok (c.t.d.fact 74 (f := .noat "Span" "size") rfl)
theorem Tx.no_Span_above (T : Tx w K mg) : NoAttr K (He.ga K "Span") "above" := by obtain ⟨h, X, G, c⟩ := T.h; exact He.noat_ok (c.t.d.fact 75 (f := .noat "Span" "above") rfl)
theorem Tx.no_Span_below (T : Tx w K mg) : NoAttr K (He.ga K "Span") "below" := by obtain ⟨h, X, G, c⟩ := T.h; exact He.noat_ok (c.t.d.fact 76 (f := .noat "Span" "below") rfl)
theorem Tx.no_Span_low (T : Tx w K mg) : NoAttr K (He.ga K "Span") "low" := by obtain ⟨h, X, G, c⟩ := T.h; exact He.noat_ok (c.t.d.fact 77 (f := .noat "Span" "low") rfl)
theorem Tx.no_Span_high (T : Tx w K mg) : NoAttr K (He.ga K "Span") "high" := by obtain ⟨h, X, G, c⟩ := T.h; exact He.noat_ok (c.t.d.fact 78 (f := .noat "Span" "high") rfl)
theorem Tx.df__law_cell (T : Tx w K mg) : ∃ fd, FunD K d__law_cell.name d__law_cell.qual d__law_cell.params d__law_cell.body d__law_cell.scope (d__law_cell.dvs K) (d__law_cell.kws K) (He.fAd K d__law_cell.at_) fd := by obtain ⟨h, X, G, c⟩ := T.h; exact c.t.d.def_ 0 (d := d__law_cell) rfl
theorem Tx.df__law_cells (T : Tx w K mg) : ∃ fd, FunD K d__law_cells.name d__law_cells.qual d__law_cells.params d__law_cells.body d__law_cells.scope (d__law_cells.dvs K) (d__law_cells.kws K) (He.fAd K d__law_cells.at_) fd := by obtain ⟨h, X, G, c⟩ := T.h; exact c.t.d.def_ 1 (d := d__law_cells) rfl
theorem Tx.df__law_purse (T : Tx w K mg) : ∃ fd, FunD K d__law_purse.name d__law_purse.qual d__law_purse.params d__law_purse.body d__law_purse.scope (d__law_purse.dvs K) (d__law_purse.kws K) (He.fAd K d__law_purse.at_) fd := by obtain ⟨h, X, G, c⟩ := T.h; exact c.t.d.def_ 2 (d := d__law_purse) rfl
theorem Tx.df__law_take (T : Tx w K mg) : ∃ fd, FunD K d__law_take.name d__law_take.qual d__law_take.params d__law_take.body d__law_take.scope (d__law_take.dvs K) (d__law_take.kws K) (He.fAd K d__law_take.at_) fd := by obtain ⟨h, X, G, c⟩ := T.h; exact c.t.d.def_ 3 (d := d__law_take) rfl
theorem Tx.df__law_measure (T : Tx w K mg) : ∃ fd, FunD K d__law_measure.name d__law_measure.qual d__law_measure.params d__law_measure.body d__law_measure.scope (d__law_measure.dvs K) (d__law_measure.kws K) (He.fAd K d__law_measure.at_) fd := by obtain ⟨h, X, G, c⟩ := T.h; exact c.t.d.def_ 4 (d := d__law_measure) rfl
theorem Tx.df__law_allowed (T : Tx w K mg) : ∃ fd, FunD K d__law_allowed.name d__law_allowed.qual d__law_allowed.params d__law_allowed.body d__law_allowed.scope (d__law_allowed.dvs K) (d__law_allowed.kws K) (He.fAd K d__law_allowed.at_) fd := by obtain ⟨h, X, G, c⟩ := T.h; exact c.t.d.def_ 5 (d := d__law_allowed) rfl
theorem Tx.df__law_parts (T : Tx w K mg) : ∃ fd, FunD K d__law_parts.name d__law_parts.qual d__law_parts.params d__law_parts.body d__law_parts.scope (d__law_parts.dvs K) (d__law_parts.kws K) (He.fAd K d__law_parts.at_) fd := by obtain ⟨h, X, G, c⟩ := T.h; exact c.t.d.def_ 6 (d := d__law_parts) rfl
theorem Tx.df_is_measure (T : Tx w K mg) : ∃ fd, FunD K d_is_measure.name d_is_measure.qual d_is_measure.params d_is_measure.body d_is_measure.scope (d_is_measure.dvs K) (d_is_measure.kws K) (He.fAd K d_is_measure.at_) fd := by obtain ⟨h, X, G, c⟩ := T.h; exact c.t.d.def_ 7 (d := d_is_measure) rfl
theorem Tx.df_check_measure (T : Tx w K mg) : ∃ fd, FunD K d_check_measure.name d_check_measure.qual d_check_measure.params d_check_measure.body d_check_measure.scope (d_check_measure.dvs K) (d_check_measure.kws K) (He.fAd K d_check_measure.at_) fd := by obtain ⟨h, X, G, c⟩ := T.h; exact c.t.d.def_ 8 (d := d_check_measure) rfl
theorem Tx.df_check_allowance (T : Tx w K mg) : ∃ fd, FunD K d_check_allowance.name d_check_allowance.qual d_check_allowance.params d_check_allowance.body d_check_allowance.scope (d_check_allowance.dvs K) (d_check_allowance.kws K) (He.fAd K d_check_allowance.at_) fd := by obtain ⟨h, X, G, c⟩ := T.h; exact c.t.d.def_ 9 (d := d_check_allowance) rfl
theorem Tx.df_Span___init__ (T : Tx w K mg) : ∃ fd, FunD K d_Span___init__.name d_Span___init__.qual d_Span___init__.params d_Span___init__.body d_Span___init__.scope (d_Span___init__.dvs K) (d_Span___init__.kws K) (He.fAd K d_Span___init__.at_) fd := by obtain ⟨h, X, G, c⟩ := T.h; exact c.t.d.def_ 10 (d := d_Span___init__) rfl
theorem Tx.df__law_no_number (T : Tx w K mg) : ∃ fd, FunD K d__law_no_number.name d__law_no_number.qual d__law_no_number.params d__law_no_number.body d__law_no_number.scope (d__law_no_number.dvs K) (d__law_no_number.kws K) (He.fAd K d__law_no_number.at_) fd := by obtain ⟨h, X, G, c⟩ := T.h; exact c.t.d.def_ 11 (d := d__law_no_number) rfl
theorem Tx.df__law_made (T : Tx w K mg) : ∃ fd, FunD K d__law_made.name d__law_made.qual d__law_made.params d__law_made.body d__law_made.scope (d__law_made.dvs K) (d__law_made.kws K) (He.fAd K d__law_made.at_) fd := by obtain ⟨h, X, G, c⟩ := T.h; exact c.t.d.def_ 12 (d := d__law_made) rfl
theorem Tx.df__law_no_span (T : Tx w K mg) : ∃ fd, FunD K d__law_no_span.name d__law_no_span.qual d__law_no_span.params d__law_no_span.body d__law_no_span.scope (d__law_no_span.dvs K) (d__law_no_span.kws K) (He.fAd K d__law_no_span.at_) fd := by obtain ⟨h, X, G, c⟩ := T.h; exact c.t.d.def_ 13 (d := d__law_no_span) rfl
theorem Tx.df__law_two (T : Tx w K mg) : ∃ fd, FunD K d__law_two.name d__law_two.qual d__law_two.params d__law_two.body d__law_two.scope (d__law_two.dvs K) (d__law_two.kws K) (He.fAd K d__law_two.at_) fd := by obtain ⟨h, X, G, c⟩ := T.h; exact c.t.d.def_ 14 (d := d__law_two) rfl
theorem Tx.df__law_row (T : Tx w K mg) : ∃ fd, FunD K d__law_row.name d__law_row.qual d__law_row.params d__law_row.body d__law_row.scope (d__law_row.dvs K) (d__law_row.kws K) (He.fAd K d__law_row.at_) fd := by obtain ⟨h, X, G, c⟩ := T.h; exact c.t.d.def_ 15 (d := d__law_row) rfl
theorem Tx.df_Span___repr__ (T : Tx w K mg) : ∃ fd, FunD K d_Span___repr__.name d_Span___repr__.qual d_Span___repr__.params d_Span___repr__.body d_Span___repr__.scope (d_Span___repr__.dvs K) (d_Span___repr__.kws K) (He.fAd K d_Span___repr__.at_) fd := by obtain ⟨h, X, G, c⟩ := T.h; exact c.t.d.def_ 16 (d := d_Span___repr__) rfl
theorem Tx.df_Span_lets (T : Tx w K mg) : ∃ fd, FunD K d_Span_lets.name d_Span_lets.qual d_Span_lets.params d_Span_lets.body d_Span_lets.scope (d_Span_lets.dvs K) (d_Span_lets.kws K) (He.fAd K d_Span_lets.at_) fd := by obtain ⟨h, X, G, c⟩ := T.h; exact c.t.d.def_ 17 (d := d_Span_lets) rfl
theorem Tx.df_check_span (T : Tx w K mg) : ∃ fd, FunD K d_check_span.name d_check_span.qual d_check_span.params d_check_span.body d_check_span.scope (d_check_span.dvs K) (d_check_span.kws K) (He.fAd K d_check_span.at_) fd := by obtain ⟨h, X, G, c⟩ := T.h; exact c.t.d.def_ 18 (d := d_check_span) rfl
theorem Tx.df_Span_plus (T : Tx w K mg) : ∃ fd, FunD K d_Span_plus.name d_Span_plus.qual d_Span_plus.params d_Span_plus.body d_Span_plus.scope (d_Span_plus.dvs K) (d_Span_plus.kws K) (He.fAd K d_Span_plus.at_) fd := by obtain ⟨h, X, G, c⟩ := T.h; exact c.t.d.def_ 19 (d := d_Span_plus) rfl
theorem Tx.df_Span_turned (T : Tx w K mg) : ∃ fd, FunD K d_Span_turned.name d_Span_turned.qual d_Span_turned.params d_Span_turned.body d_Span_turned.scope (d_Span_turned.dvs K) (d_Span_turned.kws K) (He.fAd K d_Span_turned.at_) fd := by obtain ⟨h, X, G, c⟩ := T.h; exact c.t.d.def_ 20 (d := d_Span_turned) rfl
theorem Tx.df_Span_minus (T : Tx w K mg) : ∃ fd, FunD K d_Span_minus.name d_Span_minus.qual d_Span_minus.params d_Span_minus.body d_Span_minus.scope (d_Span_minus.dvs K) (d_Span_minus.kws K) (He.fAd K d_Span_minus.at_) fd := by obtain ⟨h, X, G, c⟩ := T.h; exact c.t.d.def_ 21 (d := d_Span_minus) rfl
theorem Tx.df_span_of (T : Tx w K mg) : ∃ fd, FunD K d_span_of.name d_span_of.qual d_span_of.params d_span_of.body d_span_of.scope (d_span_of.dvs K) (d_span_of.kws K) (He.fAd K d_span_of.at_) fd := by obtain ⟨h, X, G, c⟩ := T.h; exact c.t.d.def_ 22 (d := d_span_of) rfl
theorem Tx.df_both (T : Tx w K mg) : ∃ fd, FunD K d_both.name d_both.qual d_both.params d_both.body d_both.scope (d_both.dvs K) (d_both.kws K) (He.fAd K d_both.at_) fd := by obtain ⟨h, X, G, c⟩ := T.h; exact c.t.d.def_ 23 (d := d_both) rfl
theorem Tx.df_within (T : Tx w K mg) : ∃ fd, FunD K d_within.name d_within.qual d_within.params d_within.body d_within.scope (d_within.dvs K) (d_within.kws K) (He.fAd K d_within.at_) fd := by obtain ⟨h, X, G, c⟩ := T.h; exact c.t.d.def_ 24 (d := d_within) rfl
theorem Tx.df_unlike (T : Tx w K mg) : ∃ fd, FunD K d_unlike.name d_unlike.qual d_unlike.params d_unlike.body d_unlike.scope (d_unlike.dvs K) (d_unlike.kws K) (He.fAd K d_unlike.at_) fd := by obtain ⟨h, X, G, c⟩ := T.h; exact c.t.d.def_ 25 (d := d_unlike) rfl
theorem Tx.df_check_row (T : Tx w K mg) : ∃ fd, FunD K d_check_row.name d_check_row.qual d_check_row.params d_check_row.body d_check_row.scope (d_check_row.dvs K) (d_check_row.kws K) (He.fAd K d_check_row.at_) fd := by obtain ⟨h, X, G, c⟩ := T.h; exact c.t.d.def_ 26 (d := d_check_row) rfl
theorem Tx.df_in_order (T : Tx w K mg) : ∃ fd, FunD K d_in_order.name d_in_order.qual d_in_order.params d_in_order.body d_in_order.scope (d_in_order.dvs K) (d_in_order.kws K) (He.fAd K d_in_order.at_) fd := by obtain ⟨h, X, G, c⟩ := T.h; exact c.t.d.def_ 27 (d := d_in_order) rfl
theorem Tx.df__law_door (T : Tx w K mg) : ∃ fd, FunD K d__law_door.name d__law_door.qual d__law_door.params d__law_door.body d__law_door.scope (d__law_door.dvs K) (d__law_door.kws K) (He.fAd K d__law_door.at_) fd := by obtain ⟨h, X, G, c⟩ := T.h; exact c.t.d.def_ 28 (d := d__law_door) rfl
theorem Tx.df__law_sort (T : Tx w K mg) : ∃ fd, FunD K d__law_sort.name d__law_sort.qual d__law_sort.params d__law_sort.body d__law_sort.scope (d__law_sort.dvs K) (d__law_sort.kws K) (He.fAd K d__law_sort.at_) fd := by obtain ⟨h, X, G, c⟩ := T.h; exact c.t.d.def_ 29 (d := d__law_sort) rfl
theorem Tx.df__law_seen (T : Tx w K mg) : ∃ fd, FunD K d__law_seen.name d__law_seen.qual d__law_seen.params d__law_seen.body d__law_seen.scope (d__law_seen.dvs K) (d__law_seen.kws K) (He.fAd K d__law_seen.at_) fd := by obtain ⟨h, X, G, c⟩ := T.h; exact c.t.d.def_ 30 (d := d__law_seen) rfl
theorem Tx.df_Span___len__ (T : Tx w K mg) : ∃ fd, FunD K d_Span___len__.name d_Span___len__.qual d_Span___len__.params d_Span___len__.body d_Span___len__.scope (d_Span___len__.dvs K) (d_Span___len__.kws K) (He.fAd K d_Span___len__.at_) fd := by obtain ⟨h, X, G, c⟩ := T.h; exact c.t.d.def_ 31 (d := d_Span___len__) rfl
theorem Tx.df__law_right (T : Tx w K mg) : ∃ fd, FunD K d__law_right.name d__law_right.qual d__law_right.params d__law_right.body d__law_right.scope (d__law_right.dvs K) (d__law_right.kws K) (He.fAd K d__law_right.at_) fd := by obtain ⟨h, X, G, c⟩ := T.h; exact c.t.d.def_ 32 (d := d__law_right) rfl
theorem Tx.df_law (T : Tx w K mg) : ∃ fd, FunD K d_law.name d_law.qual d_law.params d_law.body d_law.scope (d_law.dvs K) (d_law.kws K) (He.fAd K d_law.at_) fd := by obtain ⟨h, X, G, c⟩ := T.h; exact c.t.d.def_ 33 (d := d_law) rfl
theorem Tx.ex (T : Tx w K mg) : ex K = true := by obtain ⟨h, X, G, c⟩ := T.h; exact c.more
theorem Tx.clsK (T : Tx w K mg) : Qx.ClsK K ["Span"] := Qx.ClsK.of (He.ba T.ex).1 fun C h => by
  simp only [List.mem_cons, List.not_mem_nil, or_false] at h
  subst h
  exact T.cls_Span
theorem Tx.xk (T : Tx w K mg) : Qx.XkK K [("NoAllowance", [.own "NoAllowance", .own "FitError", .blt "ValueError", .blt "Exception", .blt "BaseException"]), ("NoMeasure", [.own "NoMeasure", .own "FitError", .blt "ValueError", .blt "Exception", .blt "BaseException"]), ("NoSpan", [.own "NoSpan", .own "FitError", .blt "ValueError", .blt "Exception", .blt "BaseException"])] [.blt "ArithmeticError", .blt "LookupError", .blt "ValueError", .own "MissError", .own "NoAllowance", .own "NoDrawing", .own "NoLimits", .own "NoLine", .own "NoMeasure", .own "NoName", .own "NoNew", .own "NoOption", .own "NoPlace", .own "NoRow", .own "NoSieve", .own "NoSpan", .own "NoTray", .own "NoWants", .own "NoWord", .own "NoZeros", .own "ReadError", .own "RoomError", .own "TooLong"] [.own "FitError"] := Qx.XkK.of (He.ba (He.ba T.ex).2).1
theorem Tx.xc_NoAllowance (T : Tx w K mg) : Qx.XcF K "NoAllowance" := T.xk.c _ (List.mem_cons_self)
theorem Tx.xc_NoMeasure (T : Tx w K mg) : Qx.XcF K "NoMeasure" := T.xk.c _ (List.mem_cons_of_mem _ (List.mem_cons_self))
theorem Tx.xc_NoSpan (T : Tx w K mg) : Qx.XcF K "NoSpan" := T.xk.c _ (List.mem_cons_of_mem _ (List.mem_cons_of_mem _ (List.mem_cons_self)))
theorem Tx.xq_NoAllowance (T : Tx w K mg) : PySem.W.excIn K (He.ga K "NoAllowance") [.type "ValueError", .type "Exception", .type "BaseException", .type "object"] "ValueError.__new__" = true := (He.ba (He.ba (He.ba T.ex).2).2).1
theorem Tx.xq_NoMeasure (T : Tx w K mg) : PySem.W.excIn K (He.ga K "NoMeasure") [.type "ValueError", .type "Exception", .type "BaseException", .type "object"] "ValueError.__new__" = true := (He.ba (He.ba (He.ba (He.ba T.ex).2).2).2).1
theorem Tx.xq_NoSpan (T : Tx w K mg) : PySem.W.excIn K (He.ga K "NoSpan") [.type "ValueError", .type "Exception", .type "BaseException", .type "object"] "ValueError.__new__" = true := (He.ba (He.ba (He.ba (He.ba (He.ba T.ex).2).2).2).2).1

end
theorem b__law_cell : Gx.BdN d__law_cell ["_law_script", "_law_k"] := ⟨rfl, fun _ _ _ _ _ _ us hl => match us, hl with | [_, _], _ => rfl⟩
theorem b__law_cells : Gx.BdN d__law_cells ["_law_script", "_law_few", "_law_upto"] := ⟨rfl, fun _ _ _ _ _ _ us hl => match us, hl with | [_, _, _], _ => rfl⟩
theorem b__law_purse : Gx.BdN d__law_purse ["_law_cell_here"] := ⟨rfl, fun _ _ _ _ _ _ us hl => match us, hl with | [_], _ => rfl⟩
theorem b__law_take : Gx.BdN d__law_take ["_law_purse_here", "_law_many"] := ⟨rfl, fun _ _ _ _ _ _ us hl => match us, hl with | [_, _], _ => rfl⟩
theorem b__law_measure : Gx.BdN d__law_measure ["_law_purse_here"] := ⟨rfl, fun _ _ _ _ _ _ us hl => match us, hl with | [_], _ => rfl⟩
theorem b__law_allowed : Gx.BdN d__law_allowed ["_law_purse_here", "_law_wide"] := ⟨rfl, fun _ _ _ _ _ _ us hl => match us, hl with | [_, _], _ => rfl⟩
theorem b__law_parts : Gx.BdN d__law_parts ["_law_purse_here", "_law_wide"] := ⟨rfl, fun _ _ _ _ _ _ us hl => match us, hl with | [_, _], _ => rfl⟩
theorem b_is_measure : Gx.BdN d_is_measure ["thing"] := ⟨rfl, fun _ _ _ _ _ _ us hl => match us, hl with | [_], _ => rfl⟩
theorem b_check_measure : Gx.BdN d_check_measure ["thing"] := ⟨rfl, fun _ _ _ _ _ _ us hl => match us, hl with | [_], _ => rfl⟩
theorem b_check_allowance : Gx.BdN d_check_allowance ["above", "below"] := ⟨rfl, fun _ _ _ _ _ _ us hl => match us, hl with | [_, _], _ => rfl⟩
theorem b__law_no_number : Gx.BdN d__law_no_number ["_law_purse_here"] := ⟨rfl, fun _ _ _ _ _ _ us hl => match us, hl with | [_], _ => rfl⟩
theorem b__law_made : Gx.BdN d__law_made ["_law_purse_here", "_law_parts_here", "_law_bits"] := ⟨rfl, fun _ _ _ _ _ _ us hl => match us, hl with | [_, _, _], _ => rfl⟩
theorem b__law_no_span : Gx.BdN d__law_no_span ["_law_purse_here", "_law_span"] := ⟨rfl, fun _ _ _ _ _ _ us hl => match us, hl with | [_, _], _ => rfl⟩
theorem b__law_two : Gx.BdN d__law_two ["_law_purse_here", "_law_spans", "_law_bits"] := ⟨rfl, fun _ _ _ _ _ _ us hl => match us, hl with | [_, _, _], _ => rfl⟩
theorem b__law_row : Gx.BdN d__law_row ["_law_purse_here", "_law_spans", "_law_bits"] := ⟨rfl, fun _ _ _ _ _ _ us hl => match us, hl with | [_, _, _], _ => rfl⟩
theorem b_Span___repr__ : Gx.BdN d_Span___repr__ ["self"] := ⟨rfl, fun _ _ _ _ _ _ us hl => match us, hl with | [_], _ => rfl⟩
theorem b_Span_lets : Gx.BdN d_Span_lets ["self", "measure"] := ⟨rfl, fun _ _ _ _ _ _ us hl => match us, hl with | [_, _], _ => rfl⟩
theorem b_check_span : Gx.BdN d_check_span ["thing"] := ⟨rfl, fun _ _ _ _ _ _ us hl => match us, hl with | [_], _ => rfl⟩
theorem b_Span_plus : Gx.BdN d_Span_plus ["self", "other"] := ⟨rfl, fun _ _ _ _ _ _ us hl => match us, hl with | [_, _], _ => rfl⟩
theorem b_Span_turned : Gx.BdN d_Span_turned ["self"] := ⟨rfl, fun _ _ _ _ _ _ us hl => match us, hl with | [_], _ => rfl⟩
theorem b_span_of : Gx.BdN d_span_of ["low", "high"] := ⟨rfl, fun _ _ _ _ _ _ us hl => match us, hl with | [_, _], _ => rfl⟩
theorem b_both : Gx.BdN d_both ["one", "other"] := ⟨rfl, fun _ _ _ _ _ _ us hl => match us, hl with | [_, _], _ => rfl⟩
theorem b_unlike : Gx.BdN d_unlike ["one", "other"] := ⟨rfl, fun _ _ _ _ _ _ us hl => match us, hl with | [_, _], _ => rfl⟩
theorem b_check_row : Gx.BdN d_check_row ["things"] := ⟨rfl, fun _ _ _ _ _ _ us hl => match us, hl with | [_], _ => rfl⟩
theorem b__law_door : Gx.BdN d__law_door ["_law_door_here", "_law_span", "_law_things"] := ⟨rfl, fun _ _ _ _ _ _ us hl => match us, hl with | [_, _, _], _ => rfl⟩
theorem b__law_sort : Gx.BdN d__law_sort ["_law_e"] := ⟨rfl, fun _ _ _ _ _ _ us hl => match us, hl with | [_], _ => rfl⟩
theorem b__law_seen : Gx.BdN d__law_seen ["_law_door_here", "_law_span", "_law_things"] := ⟨rfl, fun _ _ _ _ _ _ us hl => match us, hl with | [_, _, _], _ => rfl⟩
theorem b_Span___len__ : Gx.BdN d_Span___len__ ["self"] := ⟨rfl, fun _ _ _ _ _ _ us hl => match us, hl with | [_], _ => rfl⟩
theorem b__law_right : Gx.BdN d__law_right ["_law_purse_here"] := ⟨rfl, fun _ _ _ _ _ _ us hl => match us, hl with | [_], _ => rfl⟩
end Hd
namespace Qe
open PySem PySem.Spec PyProof.Rows L2
theorem funD_uniq {K : PySem.W.Frag} {x qual : Str} {params : Arguments} {body : List Stmt} {scope : Scope} {dvs : List V} {kws : List (Str × V)} {f : Addr} {fd fd' : FuncData} (F : FunD K x qual params body scope dvs kws f fd) (F' : FunD K x qual params body scope dvs kws f fd') : fd = fd' := by
  obtain ⟨oc, od, dV, kV, doc, pm, an, cdv, ct, osl, _, lk, _⟩ := F.ex
  obtain ⟨oc', od', dV', kV', doc', pm', an', cdv', ct', osl', _, lk', _⟩ := F'.ex
  rw [lk] at lk'
  have e := Option.some.inj lk'
  injection e with e1 e2 e3 e4
  injection e3
end Qe
section
open PySem PySem.W PySem.Calls PyProof.Rows
set_option maxRecDepth 100000 in
set_option maxHeartbeats 0 in
theorem Qe.end_gen (t : Qx.TabI) (et : (t.d, t.x) = Hd.d_in_order.at_) (m : Qx.MF) (ht : ∀ {ns : List Int}, ns.length ≤ 63 → Qx.Go (m [.rol (ns.map .int)] [some (.tbl t)]) fun q _ => q = .bl true)
    (hok : ∀ {P : Program} {w : World} {K : PySem.W.Frag} {mg : PySem.Str → Option Value} {base : Heap} [Qx.TbC K mg base [t]], Hd.Tx w K mg → Gx.DOkG P w K mg base Hd.d_law L2.CX0 17 ["_law_script"] (Qx.spM K false m)) : PySem.Challenge.rw_fitwords_k06_spans_refused.Holds := by
  w_on; o_law
  refine HandSHeadRun.head_any (r := OpenLaw.row PySem.Challenge.rw_fitwords_k06_spans_refused) (q := view (OpenLaw.row PySem.Challenge.rw_fitwords_k06_spans_refused).prog [71]) (H := Hd.hk) (ob := Hd.ob) (M := 20000) (loose := Hd.loose) (d := HandSHeadRun.topDef (OpenLaw.row PySem.Challenge.rw_fitwords_k06_spans_refused).prog 71) (kwd := []) Hd.ob_eq
    (by kernel_rfl) (fun s => by kernel_rfl) Hd.run (by kernel_rfl) (by kernel_rfl) (by kernel_rfl) (by rfl) (by first | assumption | decide +kernel) (by decide +kernel) ⟨rfl, rfl, rfl, rfl, rfl, by decide +kernel⟩ ?hw ?hc
  case hw => w_witness2
  case hc =>
    refine Gx.walk_ofTG (l := PySem.Challenge.rw_fitwords_k06_spans_refused) (n := 63) (k := 17) (x := "_law_script") (CX := fun _ => L2.CX0) rfl (by decide) (by kernel_rfl) ⟨rfl, by decide, by decide⟩ ?F (fun _ _ _ _ _ z => z)
    intro w mg fa h Y G hmg0
    obtain ⟨K, KX, c⟩ := Y
    have hmg : mg ("law" : PySem.Str) = some (.ref fa) := by
      have e : (HandSHeadRun.topDef (OpenLaw.row PySem.Challenge.rw_fitwords_k06_spans_refused).prog 71).name = ("law" : PySem.Str) := by kernel_rfl
      rw [← e]
      exact hmg0
    have T : Hd.Tx w K mg := ⟨h, KX, G, c⟩
    have e := hmg.symm.trans T.g_law
    cases e
    obtain ⟨fd, F⟩ := T.df_law
    refine ⟨K, KX, fd, [He.cT K (t.d, t.x)], Qx.spM K false m, fun p hp => ?_, fun p hp => ?_, fun p hp => ?_, fun s u => ?_, fun H a ns hl _ hH hS => Qx.law_spC (t := t) (ht hl) (hH _ List.mem_cons_self) hS fun _ => rfl, fun base _ _ hT => ?_⟩
    · rw [List.mem_singleton.mp hp, et]; exact c.empty _ List.mem_cons_self
    · rw [List.mem_singleton.mp hp, et]; exact c.out _ List.mem_cons_self
    · rw [List.mem_singleton.mp hp, et]; exact PySem.W.codeHd_of_K KX (c.hd _ List.mem_cons_self)
    · have b := L2.FunD.bindsA (ps := ["_law_script"]) F fun _ _ _ _ _ _ us hl => match us, hl with | [_], _ => rfl
      exact b s [u] rfl
    · haveI : Qx.TbC K mg base [t] := ⟨fun u hu => by rw [List.mem_singleton.mp hu]; exact hT _ List.mem_cons_self⟩
      obtain ⟨fd', F', G'⟩ := hok (P := (PySem.Challenge.rw_fitwords_k06_spans_refused).prog) (w := w) (base := base) T
      rw [Qe.funD_uniq F F']
      exact G'
end
namespace Qg
open PySem PySem.Spec PyProof.Rows L2 Gx Qx
def tl_in_order : TabI := ⟨"in_order", none, ("in_order" : Str) ++ ".<locals>." ++ "<lambda>"⟩
def qtop (i : Nat) : Stmt := PySem.Challenge.pw_fitwords_k06_spans_refused.main.body.getD i (.Pass ⟨0, 0, 0, 0⟩)
def ll_in_order_l0 : LamI := lamOf tl_in_order 0 (zKw (zRet (zAt (zIfB (zAt (defBody (qtop 53)) 1)) 0)) 0)
def cs : List Str := ["Span"]
def xt : List (Str × List XN) := [("NoAllowance", [.own "NoAllowance", .own "FitError", .blt "ValueError", .blt "Exception", .blt "BaseException"]), ("NoMeasure", [.own "NoMeasure", .own "FitError", .blt "ValueError", .blt "Exception", .blt "BaseException"]), ("NoSpan", [.own "NoSpan", .own "FitError", .blt "ValueError", .blt "Exception", .blt "BaseException"])]
def xa : List XN := [.blt "ArithmeticError", .blt "LookupError", .blt "ValueError", .own "MissError", .own "NoAllowance", .own "NoDrawing", .own "NoLimits", .own "NoLine", .own "NoMeasure", .own "NoName", .own "NoNew", .own "NoOption", .own "NoPlace", .own "NoRow", .own "NoSieve", .own "NoSpan", .own "NoTray", .own "NoWants", .own "NoWord", .own "NoZeros", .own "ReadError", .own "RoomError", .own "TooLong"]
def xm : List XN := [.own "FitError"]
def xf : List (Str × Str) := []
noncomputable def m__law_cell : MF := mkDef 2 2
    (sSeq (sIf (tTst (eOp ltI (eVar 1) (eCB bLen (aCons (eVar 0) aNil)))) (sRet (eOp ixL (eVar 0) (eVar 1))) sSkip)
    (sRet (eOp addI (eOp addI (eOp mulI (eCB bSum (aCons (eSl slL (eVar 0) oNo (oSo (eC (.int 3)))) aNil)) (eC (.int 6007))) (eOp mulI (eC (.int 130003)) (eOp addI (eVar 1) (eC (.int 1))))) (eC (.int 29)))))
noncomputable def m__law_cells : MF := mkDef 3 4
    (sRet (eLc (iR1 (aCons (eCB bMax2 (aCons (eVar 1) (aCons (eCB bMin2 (aCons (eVar 2) (aCons (eCB bLen (aCons (eVar 0) aNil)) aNil))) aNil))) aNil)) (gNm 3) tYesP (eCall m__law_cell [] (aCons (eVar 0) (aCons (eVar 3) aNil))) [3]))
noncomputable def m__law_purse : MF := mkDef 1 2
    (sSeq (sAsg (eC (.int 0)) (gNm 1))
    (sSeq (sIf (tOrP (tTst (eOp ltI (eVar 0) (eC (.int 0)))) (tTst (eOp geI (eVar 0) (eOp powI (eC (.int 10)) (eC (.int 18)))))) (sAsg (eCB bAbs (aCons (eVar 0) aNil)) (gNm 1)) sSkip)
    (sRet (eLstO (aCons (eOp modI (eVar 0) (eC (.int 2147483399))) (aCons (eVar 1) (aCons (eC (.int 0)) aNil)))))))
noncomputable def m__law_take : MF := mkDef 2 4
    (sSeq (sAsg (eOp addI (eOp ixL (eVar 0) (eC (.int 2))) (eC (.int 1))) (gSubL (eVar 0) (eC (.int 2))))
    (sSeq (sAsg (eOp ixL (eVar 0) (eC (.int 0))) (gNm 2))
    (sSeq (sAsg (eOp modI (eOp addI (eOp addI (eOp mulI (eVar 2) (eOp addI (eOp modI (eVar 2) (eC (.int 43591))) (eC (.int 17011)))) (eOp mulI (eC (.int 88811)) (eOp ixL (eVar 0) (eC (.int 2))))) (eC (.int 7))) (eC (.int 2147483399))) (gSubL (eVar 0) (eC (.int 0))))
    (sSeq (sIf (tTst (eOp gtI (eOp ixL (eVar 0) (eC (.int 1))) (eC (.int 0)))) (sSeq (sAsg (eOp modI (eOp ixL (eVar 0) (eC (.int 1))) (eVar 1)) (gNm 3))
    (sSeq (sAsg (eOp fdivI (eOp ixL (eVar 0) (eC (.int 1))) (eVar 1)) (gSubL (eVar 0) (eC (.int 1))))
    (sRet (eVar 3)))) sSkip)
    (sRet (eOp modI (eOp fdivI (eOp ixL (eVar 0) (eC (.int 0))) (eC (.int 32))) (eVar 1)))))))
noncomputable def m__law_measure : MF := mkDef 1 2
    (sSeq (sAsg (eOp ixL (eLst (aCons (eC (.int 9)) (aCons (eC (.int 130)) (aCons (eC (.int 6399)) (aCons (eC (.int 990000)) aNil))))) (eCall m__law_take [] (aCons (eVar 0) (aCons (eC (.int 4)) aNil)))) (gNm 1))
    (sRet (eOp subI (eCall m__law_take [] (aCons (eVar 0) (aCons (eOp addI (eOp mulI (eC (.int 2)) (eVar 1)) (eC (.int 1))) aNil))) (eVar 1))))
noncomputable def m__law_allowed : MF := mkDef 2 5
    (sSeq (sAsg (eCall m__law_take [] (aCons (eVar 0) (aCons (eOp ixL (eLst (aCons (eC (.int 1)) (aCons (eC (.int 4)) (aCons (eOp addI (eVar 1) (eC (.int 1))) aNil)))) (eCall m__law_take [] (aCons (eVar 0) (aCons (eC (.int 3)) aNil)))) aNil))) (gNm 2))
    (sSeq (sAsg (eCall m__law_take [] (aCons (eVar 0) (aCons (eC (.int 5)) aNil))) (gNm 3))
    (sSeq (sAsg (eOp ixL (eLst (aCons (eVar 2) (aCons (eC (.int 0)) (aCons (eCall m__law_take [] (aCons (eVar 0) (aCons (eOp addI (eVar 2) (eC (.int 1))) aNil))) (aCons (eOp subI (eC (.int 0)) (eCall m__law_take [] (aCons (eVar 0) (aCons (eC (.int 40)) aNil)))) (aCons (eOp addI (eVar 2) (eCall m__law_take [] (aCons (eVar 0) (aCons (eC (.int 40)) aNil)))) aNil)))))) (eVar 3)) (gNm 4))
    (sRet (eTup (aCons (eVar 4) (aCons (eOp subI (eVar 2) (eVar 4)) aNil)))))))
noncomputable def m__law_parts : MF := mkDef 2 2
    (sRet (eOp catA (eTup (aCons (eCall m__law_measure [] (aCons (eVar 0) aNil)) aNil)) (eCall m__law_allowed [] (aCons (eVar 0) (aCons (eVar 1) aNil)))))
noncomputable def m_is_measure : MF := mkDef 1 1
    (sRet (eAnd (eCB (isiP cs) (aCons (eVar 0) (aCons (eC (.ty "int")) aNil))) (eNot (eCB (isiP cs) (aCons (eVar 0) (aCons (eC (.ty "bool")) aNil))))))
noncomputable def m_check_measure : MF := mkDef 1 1
    (sIf (tNotP (tTst (eCall (noXM m_is_measure) [] (aCons (eVar 0) aNil)))) (sRaiseP "NoMeasure") sSkip)
noncomputable def m_check_allowance : MF := mkDef 2 2
    (sIf (tOrP (tNotP (tTst (eCall (noXM m_is_measure) [] (aCons (eVar 0) aNil)))) (tOrP (tNotP (tTst (eCall (noXM m_is_measure) [] (aCons (eVar 1) aNil)))) (tTst (eOp ltI (eOp addI (eVar 0) (eVar 1)) (eC (.int 0)))))) (sRaiseP "NoAllowance") sSkip)
noncomputable def m_Span___init__ := mkInit 3 4
    (bSeq (bExp (eCall m_check_measure [] (aCons (eVar 1) aNil)))
    (bSeq (bExp (eCall m_check_allowance [] (aCons (eVar 2) (aCons (eVar 3) aNil))))
    (bSeq (bFld "size" (eVar 1))
    (bSeq (bFld "above" (eVar 2))
    (bSeq (bFld "below" (eVar 3))
    (bSeq (bFld "low" (eOp subI (eVar 1) (eVar 3)))
    (bFld "high" (eOp addI (eVar 1) (eVar 2)))))))))
noncomputable def m__law_no_number : MF := mkDef 1 2
    (sSeq (sAsg (eLst (aCons (eC .non) (aCons (eC (.bl true)) (aCons (eC (.bl false)) (aCons (eC (.str "5")) (aCons (eC (.str "")) (aCons (eLst aNil) (aCons (eLst (aCons (eC (.int 5)) aNil)) (aCons (eTup (aCons (eC (.int 5)) aNil)) (aCons eDic0 (aCons (eTup (aCons (eLst (aCons (eC (.int 5)) aNil)) aNil)) (aCons (eDisp [((eC (.str "a")), (eC (.int 5)))]) aNil)))))))))))) (gNm 1))
    (sRet (eOp ixL (eVar 1) (eCall m__law_take [] (aCons (eVar 0) (aCons (eC (.int 11)) aNil))))))
noncomputable def m__law_made : MF := mkDef 3 7
    (sSeq (sAsg (eVar 1) (gTupP 3 (gConsP (gNm 4) (gConsP (gNm 5) (gConsP (gNm 6) gNilP)))))
    (sSeq (sAsg (eC (.str "told")) (gNm 3))
    (sSeq (sIf (tTst (eOp eqS (eOp modI (eOp fdivI (eVar 2) (eC (.int 2))) (eC (.int 3))) (eC (.int 1)))) (sPar 6 3 (aCons (eCall m__law_no_number [] (aCons (eVar 0) aNil)) (aCons (eC (.str "allowance")) aNil))) sSkip)
    (sSeq (sIf (tTst (eOp eqS (eOp modI (eOp fdivI (eVar 2) (eC (.int 6))) (eC (.int 3))) (eC (.int 1)))) (sPar 5 3 (aCons (eCall m__law_no_number [] (aCons (eVar 0) aNil)) (aCons (eC (.str "allowance")) aNil))) sSkip)
    (sSeq (sIf (tAndP (tTst (eOp eqS (eOp modI (eVar 2) (eC (.int 4))) (eC (.int 2)))) (tTst (eOp eqS (eVar 3) (eC (.str "told"))))) (sPar 5 3 (aCons (eOp subI (eOp subI (eOp subI (eC (.int 0)) (eVar 6)) (eC (.int 1))) (eCall m__law_take [] (aCons (eVar 0) (aCons (eC (.int 9)) aNil)))) (aCons (eC (.str "allowance")) aNil))) sSkip)
    (sSeq (sIf (tTst (eOp eqS (eOp modI (eVar 2) (eC (.int 2))) (eC (.int 1)))) (sPar 4 3 (aCons (eCall m__law_no_number [] (aCons (eVar 0) aNil)) (aCons (eC (.str "measure")) aNil))) sSkip)
    (sRet (eTup (aCons (eLst (aCons (eVar 4) (aCons (eVar 5) (aCons (eVar 6) aNil)))) (aCons (eVar 3) aNil))))))))))
noncomputable def m__law_no_span : MF := mkDef 2 3
    (sSeq (sAsg (eLst (aCons (eC .non) (aCons (eC (.int 5)) (aCons (eC (.bl true)) (aCons (eC (.str "Span(5)")) (aCons (eTup (aCons (eC (.int 5)) (aCons (eC (.int 0)) (aCons (eC (.int 0)) aNil)))) (aCons (eLst (aCons (eVar 1) aNil)) (aCons (eTup (aCons (eVar 1) aNil)) (aCons eDic0 (aCons (eTup (aCons (eLst (aCons (eVar 1) aNil)) aNil)) (aCons (eDisp [((eC (.str "a")), (eVar 1))]) aNil))))))))))) (gNm 2))
    (sRet (eOp ixL (eVar 2) (eCall m__law_take [] (aCons (eVar 0) (aCons (eC (.int 10)) aNil))))))
noncomputable def m__law_two : MF := mkDef 3 6
    (sSeq (sPar 4 5 (aCons (eCB bLstO (aCons (eVar 1) aNil)) (aCons (eC (.str "told")) aNil)))
    (sSeq (sFor (iT (eTup (aCons (eC (.int 1)) (aCons (eC (.int 0)) aNil)))) (gNm 3) (sIf (tTst (eOp eqS (eOp modI (eOp fdivI (eVar 2) (eOp addI (eC (.int 1)) (eVar 3))) (eC (.int 2))) (eC (.int 1)))) (sAsg (eTup (aCons (eCall m__law_no_span [] (aCons (eVar 0) (aCons (eOp ixL (eVar 1) (eVar 3)) aNil))) (aCons (eC (.str "span")) aNil))) (gTupP 2 (gConsP (gSubL (eVar 4) (eVar 3)) (gConsP (gNm 5) gNilP)))) sSkip))
    (sRet (eTup (aCons (eVar 4) (aCons (eVar 5) aNil))))))
noncomputable def m__law_row : MF := mkDef 3 6
    (sSeq (sAsg (eOp repL (eVar 1) (eCall m__law_take [] (aCons (eVar 0) (aCons (eC (.int 3)) aNil)))) (gNm 3))
    (sSeq (sAsg (eCall m__law_take [] (aCons (eVar 0) (aCons (eOp addI (eCB bLen (aCons (eVar 3) aNil)) (eC (.int 1))) aNil))) (gNm 4))
    (sSeq (sIf (tTst (eOp eqS (eOp modI (eVar 2) (eC (.int 3))) (eC (.int 0)))) (sRet (eTup (aCons (eOp ixL (eLst (aCons (eVar 3) (aCons (eCB bTup (aCons (eVar 3) aNil)) aNil))) (eOp modI (eVar 2) (eC (.int 2)))) (aCons (eC (.str "told")) aNil)))) sSkip)
    (sSeq (sIf (tTst (eOp eqS (eOp modI (eVar 2) (eC (.int 3))) (eC (.int 1)))) (sSeq (sAsg (eLst (aCons (eC .non) (aCons (eC (.int 5)) (aCons (eC (.str "")) (aCons (eC (.str "ab")) (aCons (eOp ixL (eVar 1) (eC (.int 0))) (aCons eDic0 (aCons (eDisp [((eC (.str "a")), (eOp ixL (eVar 1) (eC (.int 0))))]) (aCons (eC (.bl true)) aNil))))))))) (gNm 5))
    (sRet (eTup (aCons (eOp ixL (eVar 5) (eCall m__law_take [] (aCons (eVar 0) (aCons (eC (.int 8)) aNil)))) (aCons (eC (.str "span")) aNil))))) sSkip)
    (sSeq (sAsg (eOp catL (eOp catL (eSl slL (eVar 3) oNo (oSo (eVar 4))) (eLst (aCons (eCall m__law_no_span [] (aCons (eVar 0) (aCons (eOp ixL (eVar 1) (eC (.int 0))) aNil))) aNil))) (eSl slL (eVar 3) (oSo (eVar 4)) oNo)) (gNm 3))
    (sRet (eTup (aCons (eOp ixL (eLst (aCons (eVar 3) (aCons (eCB bTup (aCons (eVar 3) aNil)) aNil))) (eOp modI (eOp fdivI (eVar 2) (eC (.int 3))) (eC (.int 2)))) (aCons (eC (.str "span")) aNil)))))))))
noncomputable def m_Span___repr__ : MF := mkDef 1 1
    (sRet (eJs [(eC (.str "Span(")), (eFmt (eFld "Span" "size" (eVar 0))), (eC (.str ", above=")), (eFmt (eFld "Span" "above" (eVar 0))), (eC (.str ", below=")), (eFmt (eFld "Span" "below" (eVar 0))), (eC (.str ")"))]))
noncomputable def m_Span_lets : MF := mkDef 2 2
    (sSeq (sExp (eCall m_check_measure [] (aCons (eVar 1) aNil)))
    (sRet (eChain leI leI (eFld "Span" "low" (eVar 0)) (eVar 1) (eFld "Span" "high" (eVar 0)))))
noncomputable def m_check_span : MF := mkDef 1 1
    (sIf (tNotP (tTst (eCB (isiP cs) (aCons (eVar 0) (aCons (eC (.cls "Span")) aNil))))) (sRaiseP "NoSpan") sSkip)
noncomputable def m_Span_plus : MF := mkDef 2 2
    (sSeq (sExp (eCall m_check_span [] (aCons (eVar 1) aNil)))
    (sRet (eMakeK "Span" m_Span___init__ 1 2 (fun us ws => us ++ (ws.drop 0).take 1 ++ (ws.drop 1).take 1) (aCons (eOp addI (eFld "Span" "size" (eVar 0)) (eFld "Span" "size" (eVar 1))) aNil) (aCons (eOp addI (eFld "Span" "above" (eVar 0)) (eFld "Span" "above" (eVar 1))) (aCons (eOp addI (eFld "Span" "below" (eVar 0)) (eFld "Span" "below" (eVar 1))) aNil)))))
noncomputable def m_Span_turned : MF := mkDef 1 1
    (sRet (eMakeK "Span" m_Span___init__ 1 2 (fun us ws => us ++ (ws.drop 0).take 1 ++ (ws.drop 1).take 1) (aCons (eOp subI (eC (.int 0)) (eFld "Span" "size" (eVar 0))) aNil) (aCons (eFld "Span" "below" (eVar 0)) (aCons (eFld "Span" "above" (eVar 0)) aNil))))
noncomputable def m_Span_minus : MF := mkDef 2 2
    (sSeq (sExp (eCall m_check_span [] (aCons (eVar 1) aNil)))
    (sRet (eMeth "Span" "plus" m_Span_plus [] (eVar 0) (aCons (eMeth "Span" "turned" m_Span_turned [] (eVar 1) aNil) aNil))))
noncomputable def m_span_of : MF := mkDef 2 2
    (sRet (eMakeK "Span" m_Span___init__ 1 1 (fun us ws => us ++ (ws.drop 0).take 1 ++ ([.int (0)] : List PV)) (aCons (eVar 0) aNil) (aCons (eOp subI (eVar 1) (eVar 0)) aNil)))
noncomputable def m_both : MF := mkDef 2 4
    (sSeq (sExp (eCall m_check_span [] (aCons (eVar 0) aNil)))
    (sSeq (sExp (eCall m_check_span [] (aCons (eVar 1) aNil)))
    (sSeq (sPar 2 3 (aCons (eCB bMax2 (aCons (eFld "Span" "low" (eVar 0)) (aCons (eFld "Span" "low" (eVar 1)) aNil))) (aCons (eCB bMin2 (aCons (eFld "Span" "high" (eVar 0)) (aCons (eFld "Span" "high" (eVar 1)) aNil))) aNil)))
    (sRet (eIf (tTst (eOp leI (eVar 2) (eVar 3))) (eCall m_span_of [] (aCons (eVar 2) (aCons (eVar 3) aNil))) (eC .non))))))
noncomputable def m_within : MF := mkDef 2 2
    (sSeq (sExp (eCall m_check_span [] (aCons (eVar 0) aNil)))
    (sSeq (sExp (eCall m_check_span [] (aCons (eVar 1) aNil)))
    (sRet (eAnd (eOp leI (eFld "Span" "low" (eVar 1)) (eFld "Span" "low" (eVar 0))) (eOp leI (eFld "Span" "high" (eVar 0)) (eFld "Span" "high" (eVar 1)))))))
noncomputable def m_unlike : MF := mkDef 2 5
    (sSeq (sExp (eCall m_check_span [] (aCons (eVar 0) aNil)))
    (sSeq (sExp (eCall m_check_span [] (aCons (eVar 1) aNil)))
    (sSeq (sFor (iT (eTup (aCons (eTup (aCons (eC (.str "one")) (aCons (eVar 0) (aCons (eVar 1) aNil)))) (aCons (eTup (aCons (eC (.str "other")) (aCons (eVar 1) (aCons (eVar 0) aNil)))) aNil)))) (gTupP 3 (gConsP (gNm 2) (gConsP (gNm 3) (gConsP (gNm 4) gNilP)))) (sSeq (sIf (tTst (eOp ltI (eFld "Span" "low" (eVar 3)) (eFld "Span" "low" (eVar 4)))) (sRet (eTup (aCons (eVar 2) (aCons (eFld "Span" "low" (eVar 3)) aNil)))) sSkip)
    (sIf (tTst (eOp gtI (eFld "Span" "high" (eVar 3)) (eFld "Span" "high" (eVar 4)))) (sRet (eTup (aCons (eVar 2) (aCons (eFld "Span" "high" (eVar 3)) aNil)))) sSkip)))
    (sRet (eC .non)))))
noncomputable def m_check_row : MF := mkDef 1 2
    (sSeq (sIf (tNotP (tTst (eIsT (isiTP cs) (eVar 0) (aCons (eC (.ty "list")) (aCons (eC (.ty "tuple")) aNil))))) (sRaiseP "NoSpan") sSkip)
    (sFor (iA (eVar 0)) (gNm 1) (sExp (eCall m_check_span [] (aCons (eVar 1) aNil)))))
noncomputable def m_in_order_l0 : MF := mkDef 1 1
    (sRet (eTup (aCons (eFld "Span" "low" (eVar 0)) (aCons (eFld "Span" "high" (eVar 0)) aNil))))
noncomputable def mr_in_order : Nat → MF
  | 0 => fun _ _ => .bad
  | n_ + 1 => mkDef 3 3
    (sSeq (sExp (eCall m_check_row [] (aCons (eVar 0) aNil)))
    (sSeq (sIf (tTst (eOp isN (eVar 1) (eC .non))) (sRet (eCallK (mr_in_order n_) 1 2 (fun us ws => us ++ (ws.drop 0).take 1 ++ (ws.drop 1).take 1) (aCons (eVar 0) aNil) (aCons (eLam 0 ll_in_order_l0) (aCons (eVar 2) aNil)))) sSkip)
    (sSeq (sIf (tTst (eVar 2)) (sRet (eCB bTup (aCons (eSortK 0 tl_in_order true (aCons (eVar 0) aNil) (eCallM [] [(ll_in_order_l0, m_in_order_l0)] 1 (aCons (eVar 3) aNil))) aNil))) sSkip)
    (sRet (eCB bTup (aCons (eSortK 0 tl_in_order false (aCons (eVar 0) aNil) (eCallM [] [(ll_in_order_l0, m_in_order_l0)] 1 (aCons (eVar 3) aNil))) aNil))))))
noncomputable def m_in_order : MF := mr_in_order 8
noncomputable def m__law_door : MF := mkDef 3 3
    (sSeq (sIf (tTst (eOp eqS (eVar 0) (eC (.int 0)))) (sRet (eMake "Span" m_Span___init__ [] (aCons (eOp ixL (eVar 2) (eC (.int 0))) (aCons (eOp ixL (eVar 2) (eC (.int 1))) (aCons (eOp ixL (eVar 2) (eC (.int 2))) aNil))))) sSkip)
    (sSeq (sIf (tTst (eOp eqS (eVar 0) (eC (.int 1)))) (sRet (eMakeK "Span" m_Span___init__ 1 2 (fun us ws => us ++ (ws.drop 1).take 1 ++ (ws.drop 0).take 1) (aCons (eOp ixL (eVar 2) (eC (.int 0))) aNil) (aCons (eOp ixL (eVar 2) (eC (.int 2))) (aCons (eOp ixL (eVar 2) (eC (.int 1))) aNil)))) sSkip)
    (sSeq (sIf (tTst (eOp eqS (eVar 0) (eC (.int 2)))) (sRet (eMeth "Span" "lets" m_Span_lets [] (eVar 1) (aCons (eOp ixL (eVar 2) (eC (.int 0))) aNil))) sSkip)
    (sSeq (sIf (tTst (eOp eqS (eVar 0) (eC (.int 3)))) (sRet (eMeth "Span" "plus" m_Span_plus [] (eVar 1) (aCons (eOp ixL (eVar 2) (eC (.int 0))) aNil))) sSkip)
    (sSeq (sIf (tTst (eOp eqS (eVar 0) (eC (.int 4)))) (sRet (eMethK "Span" "minus" m_Span_minus 1 1 (fun us ws => us ++ (ws.drop 0).take 1) (eVar 1) aNil (aCons (eOp ixL (eVar 2) (eC (.int 0))) aNil))) sSkip)
    (sSeq (sIf (tTst (eOp eqS (eVar 0) (eC (.int 5)))) (sRet (eCall m_both [] (aCons (eOp ixL (eVar 2) (eC (.int 0))) (aCons (eOp ixL (eVar 2) (eC (.int 1))) aNil)))) sSkip)
    (sSeq (sIf (tTst (eOp eqS (eVar 0) (eC (.int 6)))) (sRet (eCallK m_within 0 2 (fun us ws => us ++ (ws.drop 1).take 1 ++ (ws.drop 0).take 1) aNil (aCons (eOp ixL (eVar 2) (eC (.int 1))) (aCons (eOp ixL (eVar 2) (eC (.int 0))) aNil)))) sSkip)
    (sSeq (sIf (tTst (eOp eqS (eVar 0) (eC (.int 7)))) (sRet (eCall m_unlike [] (aCons (eOp ixL (eVar 2) (eC (.int 0))) (aCons (eOp ixL (eVar 2) (eC (.int 1))) aNil)))) sSkip)
    (sRet (eCallK m_in_order 1 1 (fun us ws => us ++ ([.non] : List PV) ++ (ws.drop 0).take 1) (aCons (eOp ixL (eVar 2) (eC (.int 0))) aNil) (aCons (eOp gtI (eCB bLen (aCons (eVar 2) aNil)) (eC (.int 1))) aNil)))))))))))
noncomputable def m__law_sort : MF := mkDef 1 3
    (sSeq (sAsg (eIsT (isxTP xt xa) (eVar 0) (aCons (eC (.cls "NoDrawing")) (aCons (eC (.cls "NoLimits")) (aCons (eC (.cls "NoLine")) (aCons (eC (.cls "NoName")) (aCons (eC (.cls "NoNew")) (aCons (eC (.cls "NoOption")) (aCons (eC (.cls "NoPlace")) (aCons (eC (.cls "NoRow")) (aCons (eC (.cls "NoSieve")) (aCons (eC (.cls "NoTray")) aNil))))))))))) (gNm 1))
    (sSeq (sAsg (eOr (eVar 1) (eIsT (isxTP xt xa) (eVar 0) (aCons (eC (.cls "NoWants")) (aCons (eC (.cls "NoWord")) (aCons (eC (.cls "NoZeros")) (aCons (eC (.cls "ReadError")) (aCons (eC (.cls "RoomError")) (aCons (eC (.cls "TooLong")) (aCons (eC (.cls "MissError")) aNil))))))))) (gNm 1))
    (sSeq (sAsg (eOr (eVar 1) (eIsT (isxTP xt xa) (eVar 0) (aCons (eC (.ty "LookupError")) (aCons (eC (.ty "ArithmeticError")) aNil)))) (gNm 1))
    (sSeq (sAsg (eLst (aCons (eCB (isxP xt xa) (aCons (eVar 0) (aCons (eC (.cls "NoMeasure")) aNil))) (aCons (eCB (isxP xt xa) (aCons (eVar 0) (aCons (eC (.cls "NoAllowance")) aNil))) (aCons (eCB (isxP xt xa) (aCons (eVar 0) (aCons (eC (.cls "NoSpan")) aNil))) aNil)))) (gNm 2))
    (sSeq (sIf (tOrP (tTst (eVar 1)) (tOrP (tTst (eOp neS (eBml countP (eVar 2) (aCons (eC (.bl true)) aNil)) (eC (.int 1)))) (tNotP (tTst (eCB (isxP xt xa) (aCons (eVar 0) (aCons (eC (.ty "ValueError")) aNil))))))) (sRet (eC (.str "other"))) sSkip)
    (sRet (eOp ixL (eLst (aCons (eC (.str "measure")) (aCons (eC (.str "allowance")) (aCons (eC (.str "span")) aNil)))) (eBml indexP (eVar 2) (aCons (eC (.bl true)) aNil)))))))))
noncomputable def m__law_seen : MF := mkDef 3 5
    (sSeq (sAsg (eC (.str "told")) (gNm 3))
    (sSeq (sTryAs 4 (cmX xt (.own "FitError")) (sExp (eCall m__law_door [] (aCons (eVar 0) (aCons (eVar 1) (aCons (eVar 2) aNil)))))
      (sAsg (eCall m__law_sort [] (aCons (eVar 4) aNil)) (gNm 3)))
    (sRet (eVar 3))))
noncomputable def m_Span___len__ : MF := mkDef 1 1
    (sRet (eCB bLenR (aCons (eCB bRng (aCons (eFld "Span" "low" (eVar 0)) (aCons (eOp addI (eFld "Span" "high" (eVar 0)) (eC (.int 1))) aNil))) aNil)))
noncomputable def m__law_right : MF := mkDef 1 11
    (sSeq (sPar 4 5 (aCons (eCall m__law_take [] (aCons (eVar 0) (aCons (eC (.int 9)) aNil))) (aCons (eCall m__law_take [] (aCons (eVar 0) (aCons (eC (.int 18)) aNil))) aNil)))
    (sSeq (sAsg (eLst (aCons (eCall m__law_parts [] (aCons (eVar 0) (aCons (eC (.int 90)) aNil))) (aCons (eCall m__law_parts [] (aCons (eVar 0) (aCons (eC (.int 90)) aNil))) aNil))) (gNm 1))
    (sSeq (sAsg (eLc (iL (eVar 1)) (gNm 9) tYesP (eMake "Span" m_Span___init__ [] (aCons (eOp ixT (eVar 9) (eC (.int 0))) (aCons (eOp ixT (eVar 9) (eC (.int 1))) (aCons (eOp ixT (eVar 9) (eC (.int 2))) aNil)))) [9]) (gNm 2))
    (sSeq (sIf (tTst (eOp ltI (eVar 4) (eC (.int 2)))) (sAsg (eCall m__law_made [] (aCons (eVar 0) (aCons (eOp ixL (eVar 1) (eC (.int 0))) (aCons (eVar 5) aNil)))) (gTupP 2 (gConsP (gNm 10) (gConsP (gNm 6) gNilP)))) (sIf (tTst (eOp eqS (eVar 4) (eC (.int 2)))) (sSeq (sPar 10 6 (aCons (eLst (aCons (eOp ixT (eOp ixL (eVar 1) (eC (.int 1))) (eC (.int 0))) aNil)) (aCons (eC (.str "told")) aNil)))
    (sIf (tTst (eOp eqS (eOp modI (eVar 5) (eC (.int 2))) (eC (.int 1)))) (sPar 10 6 (aCons (eLst (aCons (eCall m__law_no_number [] (aCons (eVar 0) aNil)) aNil)) (aCons (eC (.str "measure")) aNil))) sSkip)) (sIf (tTst (eOp ltI (eVar 4) (eC (.int 8)))) (sAsg (eCall m__law_two [] (aCons (eVar 0) (aCons (eVar 2) (aCons (eVar 5) aNil)))) (gTupP 2 (gConsP (gNm 10) (gConsP (gNm 6) gNilP)))) (sSeq (sAsg (eCall m__law_row [] (aCons (eVar 0) (aCons (eVar 2) (aCons (eVar 5) aNil)))) (gTupP 2 (gConsP (gNm 9) (gConsP (gNm 6) gNilP))))
    (sAsg (eOp catL (eLst (aCons (eVar 9) aNil)) (eOp repL (eLst (aCons (eC (.bl true)) aNil)) (eOp fdivI (eVar 5) (eC (.int 9))))) (gNm 10))))))
    (sSeq (sIf (tTst (eOp (inS false) (eVar 4) (eTup (aCons (eC (.int 3)) (aCons (eC (.int 4)) aNil))))) (sAsg (eOp ixL (eLst (aCons (eC (.str "told")) (aCons (eC (.str "span")) aNil))) (eOp modI (eVar 5) (eC (.int 2)))) (gNm 6)) sSkip)
    (sSeq (sAsg (eOp addS (eCB (bReprO [("Span", m_Span___repr__)]) (aCons (eVar 10) aNil)) (eCB (bReprO [("Span", m_Span___repr__)]) (aCons (eVar 2) aNil))) (gNm 3))
    (sSeq (sIf (tOrP (tTst (eOp neS (eCall m__law_seen [] (aCons (eVar 4) (aCons (eOp ixL (eVar 2) (eC (.int 0))) (aCons (eVar 10) aNil)))) (eVar 6))) (tTst (eOp neS (eOp addS (eCB (bReprO [("Span", m_Span___repr__)]) (aCons (eVar 10) aNil)) (eCB (bReprO [("Span", m_Span___repr__)]) (aCons (eVar 2) aNil))) (eVar 3)))) (sRet (eC (.bl false))) sSkip)
    (sSeq (sFor (iL (eLst (aCons (eTup (aCons (eC (.int 1)) (aCons (eC (.bl true)) aNil))) (aCons (eTup (aCons (eC (.int 0)) (aCons (eC (.bl false)) aNil))) aNil)))) (gTupP 2 (gConsP (gNm 7) (gConsP (gNm 8) gNilP))) (sSeq (sIf (tTst (eOp neS (eMeth "Span" "lets" m_Span_lets [] (eOp ixL (eVar 2) (eC (.int 1))) (aCons (eVar 7) aNil)) (eChain leI leI (eFld "Span" "low" (eOp ixL (eVar 2) (eC (.int 1)))) (eVar 7) (eFld "Span" "high" (eOp ixL (eVar 2) (eC (.int 1))))))) (sRet (eC (.bl false))) sSkip)
    (sIf (tTst (eOp neS (eCall m__law_seen [] (aCons (eC (.int 2)) (aCons (eOp ixL (eVar 2) (eC (.int 1))) (aCons (eLst (aCons (eVar 8) aNil)) aNil)))) (eC (.str "measure")))) (sRet (eC (.bl false))) sSkip)))
    (sRet (eOp eqS (eCB (olenP "Span" m_Span___len__) (aCons (eOp ixL (eVar 2) (eC (.int 0))) aNil)) (eOp addI (eOp addI (eOp ixT (eOp ixL (eVar 1) (eC (.int 0))) (eC (.int 1))) (eOp ixT (eOp ixL (eVar 1) (eC (.int 0))) (eC (.int 2)))) (eC (.int 1)))))))))))))
noncomputable def m_law : MF := mkDef 1 2
    (sRet (eCB bAll (aCons (eLc (iL (eCall m__law_cells [] (aCons (eVar 0) (aCons (eC (.int 4)) (aCons (eC (.int 10)) aNil))))) (gNm 1) tYesP (eCall m__law_right [] (aCons (eCall m__law_purse [] (aCons (eVar 1) aNil)) aNil)) [1]) aNil)))
/-! ### the walk of a mirror -/
local macro_rules | `(tactic| wtm_at "q.z0_0") => `(tactic| fail)
set_option hygiene false in
local macro_rules | `(tactic| wtm_at "q.z0_0") => `(tactic| first
  | ((with_reducible refine' go_var ?e ?_); (case e => exact rfl))
  | with_reducible refine go_c ?_
  | with_reducible refine go_op ?_
  | with_reducible refine go_cons ?_
  | with_reducible refine go_nil ?_
  | with_reducible refine go_call0 ?_
  | with_reducible refine go_call ?_
  | ((with_reducible refine' g_m ?e ?_); (case e => (simp only [List.drop_zero, List.drop_succ_cons, List.take_succ_cons, List.take_zero, List.take_nil, List.drop_nil, List.nil_append, List.cons_append, List.append_nil, List.singleton_append]; exact rfl)))
  | ((with_reducible refine' g_mk ?e ?_); (case e => (simp only [List.drop_zero, List.drop_succ_cons, List.take_succ_cons, List.take_zero, List.take_nil, List.drop_nil, List.nil_append, List.cons_append, List.append_nil, List.singleton_append]; exact rfl)))
  | with_reducible refine go_addI ?_
  | with_reducible refine go_subI ?_
  | with_reducible refine go_seq ?_
  | with_reducible refine go_asg ?_
  | ((with_reducible refine' go_nm ?e ?_); (case e => (simp only [List.set_cons_succ, List.set_cons_zero]; exact rfl)))
  | with_reducible refine go_ret ?_
  | with_reducible refine go_ifS ?_
  | with_reducible refine go_skip ?_
  | with_reducible refine go_tst ?_
  | with_reducible refine g_b ?_
  | with_reducible refine go_tnot ?_
  | with_reducible refine go_tor ?_
  | with_reducible refine go_tand ?_
  | with_reducible refine go_tup ?_
  | ((with_reducible refine' g_tup0 ?e ?_); (case e => exact rfl))
  | ((with_reducible refine' go_ixT ?e ?_); (case e => exact rfl))
  | ((with_reducible refine' go_ixL ?e ?e2 ?_); (case e => first | exact rfl | (apply lst_loc; assumption) | exact lst_loc get_app); (case e2 => exact rfl))
  | with_reducible refine go_fld ?_
  | ((with_reducible refine' g_fld ?e ?e2 ?_); (case e => first | exact rfl | (apply ins_loc; assumption)); (case e2 => exact rfl))
  | with_reducible refine go_meth ?_
  | with_reducible refine go_methK ?_
  | ((with_reducible refine' g_meth ?e ?e2 ?_); (case e => first | exact rfl | (apply ins_loc; assumption)); (case e2 => exact rfl))
  | with_reducible refine go_bind ?_
  | with_reducible refine go_make ?_
  | with_reducible refine go_makeO ?_
  | ((with_reducible refine' g_mo ?e ?_); (case e => (simp only [List.drop_zero, List.drop_succ_cons, List.take_succ_cons, List.take_zero, List.take_nil, List.drop_nil, List.nil_append, List.cons_append, List.append_nil, List.singleton_append]; exact rfl)))
  | with_reducible refine go_fldS ?_
  | with_reducible refine go_frz ?_
  | with_reducible refine go_bml ?_
  | ((with_reducible refine' g_and ?h ?_); (case h => (apply some_loc; assumption)))
  | with_reducible refine go_makeK ?_)
local macro_rules | `(tactic| wtm_at "q.z0_1") => `(tactic| fail)
set_option hygiene false in
local macro_rules | `(tactic| wtm_at "q.z0_1") => `(tactic| first
  | with_reducible refine go_callK ?_
  | ((with_reducible refine' g_and ?h ?_); (case h => exact ⟨rfl, rfl⟩))
  | ((with_reducible refine' g_and ?h ?_); (case h => exact (rfl : _ = true)))
  | ((with_reducible refine' go_ifp ?h ?_); (case h => exact ⟨rfl, rfl⟩))
  | with_reducible refine go_exp ?_
  | with_reducible refine go_cb ?_
  | with_reducible refine go_leI ?_
  | with_reducible refine go_ltI ?_
  | with_reducible refine go_gtI ?_
  | with_reducible refine go_geI ?_
  | with_reducible refine go_eqI ?_
  | with_reducible refine go_neI ?_
  | with_reducible refine go_eqB ?_
  | with_reducible refine go_neB ?_
  | with_reducible refine go_eqZ ?_
  | with_reducible refine go_neZ ?_
  | ((with_reducible refine' go_isNb (b := true) ?e ?_); (case e => exact rfl))
  | ((with_reducible refine' go_isNb (b := false) ?e ?_); (case e => exact rfl))
  | ((with_reducible refine' go_notNb (b := true) ?e ?_); (case e => exact rfl))
  | ((with_reducible refine' go_notNb (b := false) ?e ?_); (case e => exact rfl))
  | with_reducible refine go_isN ?_
  | with_reducible refine go_notN ?_
  | ((with_reducible refine' go_modI ?e ?_); (case e => first | decide | omega))
  | ((with_reducible refine' go_fdivI ?e ?_); (case e => first | rfl | (unfold divOk; exact decide_eq_true (by omega))))
  | ((with_reducible refine' go_mulI ?e ?_); (case e => first | rfl | (unfold mulOk; exact decide_eq_true (by omega))))
  | ((with_reducible refine' go_powI ?e ?_); (case e => first | rfl | decide))
  | with_reducible refine go_and ?_
  | with_reducible refine go_or ?_
  | with_reducible refine go_not ?_
  | with_reducible refine go_if ?_
  | with_reducible refine go_chain ?_
  | with_reducible refine go_lst ?_
  | with_reducible refine go_lstO ?_
  | ((with_reducible refine' g_lst0 ?e ?_); (case e => exact rfl))
  | ((with_reducible refine' g_lstO0 ?e ?_); (case e => exact rfl))
  | with_reducible refine go_sl ?_
  | with_reducible refine go_ono ?_
  | with_reducible refine go_oso ?_
  | with_reducible refine g_i ?_
  | with_reducible refine go_slTA ?_)
local macro_rules | `(tactic| wtm_at "q.z0_2") => `(tactic| fail)
set_option hygiene false in
local macro_rules | `(tactic| wtm_at "q.z0_2") => `(tactic| first
  | ((with_reducible refine' go_slT ?e ?e2 ?_); (case e => exact rfl); (case e2 => exact rfl))
  | ((with_reducible refine' go_slL ?e ?_); (case e => first | exact rfl | (apply lst_loc; assumption) | exact lst_loc get_app))
  | ((with_reducible refine' go_catT ?e ?e2 ?_); (case e => exact rfl); (case e2 => (simp only [List.cons_append, List.nil_append]; exact rfl)))
  | with_reducible refine go_par ?_
  | ((with_reducible refine' g_par ?e ?_); (case e => (simp only [List.set_cons_succ, List.set_cons_zero]; exact rfl)))
  | with_reducible refine go_par3 ?_
  | ((with_reducible refine' g_par3 ?e ?_); (case e => (simp only [List.set_cons_succ, List.set_cons_zero]; exact rfl)))
  | ((with_reducible refine' go_aug ?e ?_); (case e => exact rfl))
  | ((with_reducible refine' g_set ?e ?_); (case e => (simp only [List.set_cons_succ, List.set_cons_zero]; exact rfl)))
  | ((with_reducible refine' go_gtup ?e ?e2 ?_); (case e => exact rfl); (case e2 => exact rfl))
  | ((with_reducible refine' go_glst ?e ?e2 ?_); (case e => first | exact rfl | (apply lst_loc; assumption) | exact lst_loc get_app); (case e2 => exact rfl))
  | with_reducible refine go_gcons ?_
  | with_reducible refine go_gnil ?_
  | with_reducible refine go_gsub ?_
  | with_reducible refine go_retN ?_
  | with_reducible refine go_un ?_
  | with_reducible refine go_negI ?_
  | ((with_reducible refine' go_oeq ?e ?e2 ?_); (case e => exact rfl); (case e2 => exact rfl))
  | ((with_reducible refine' go_one ?e ?e2 ?_); (case e => exact rfl); (case e2 => exact rfl))
  | ((with_reducible refine' go_olen ?e ?_); (case e => exact rfl))
  | ((with_reducible refine' go_isi ?e ?e2 ?_); (case e => exact rfl); (case e2 => first | exact kit_same (by decide) | exact kit_ii | exact kit_ib | exact kit_bb | exact kit_bi | exact kit_ss | exact kit_tt | exact kit_nb | exact kit_ni | exact kit_nt | exact kit_si | exact rfl))
  | ((with_reducible refine' go_len ?e ?_); (case e => first | exact rfl | (apply seq_loc; assumption)))
  | with_reducible refine go_rng ?_
  | with_reducible refine go_max2 ?_
  | with_reducible refine go_min2 ?_
  | with_reducible refine go_abs ?_
  | with_reducible refine go_intI ?_
  | with_reducible refine go_intB ?_
  | ((with_reducible refine' go_divmod ?e ?_); (case e => first | rfl | (unfold divOk; exact decide_eq_true (by omega))))
  | ((with_reducible refine' go_bTupL ?e ?_); (case e => first | exact rfl | (apply lst_loc; assumption) | exact lst_loc get_app))
  | with_reducible refine go_bTupT ?_
  | with_reducible refine go_for ?_
  | ((with_reducible refine' go_lc ?e ?_); (case e => (simp only [wipeP, List.set_cons_succ, List.set_cons_zero]; exact rfl)))
  | ((with_reducible refine' go_lcO ?e ?_); (case e => (simp only [wipeP, List.set_cons_succ, List.set_cons_zero]; exact rfl)))
  | with_reducible refine go_yes ?_
  | with_reducible refine goc1 ?_
  | with_reducible refine go_iLx ?_
  | ((with_reducible refine' g_itF ?e ?_); (case e => exact rfl))
  | ((with_reducible refine' g_itL ?e ?_); (case e => assumption))
  | with_reducible refine g_itN ?_)
local macro_rules | `(tactic| wtm_at "q.z0_3") => `(tactic| fail)
set_option hygiene false in
local macro_rules | `(tactic| wtm_at "q.z0_3") => `(tactic| first
  | ((with_reducible refine' go_appN ?h ?e ?_); (case h => exact rfl); (case e => (simp only [List.nil_append, List.cons_append]; exact rfl)))
  | ((with_reducible refine' g_and ?h ?_); (case h => exact some_loc get_app))
  | with_reducible refine go_iT ?_
  | with_reducible refine go_iR1 ?_
  | with_reducible refine go_iR2 ?_
  | ((with_reducible refine' g_r1 ?h ?_); (case h => omega))
  | ((with_reducible refine' g_r2 ?h ?_); (case h => omega))
  | with_reducible refine Gx.s_iteT ?_
  | with_reducible refine Gx.s_iteF ?_
  | with_reducible refine Gx.s_iteNT ?_
  | with_reducible refine Gx.s_iteNF ?_
  | ((with_reducible refine' comp_one1 ?e ?_); (case e => exact rfl))
  | ((with_reducible refine' g_acc ?e ?_); (case e => (simp only [List.nil_append, List.cons_append]; exact rfl)))
  | with_reducible refine comp_nil ?_
  | ((with_reducible refine' comp_one1g ?hg ?e ?_); (case hg => first | exact get_app | assumption); (case e => exact rfl))
  | ((with_reducible refine' comp_nilg ?hg ?_); (case hg => first | exact get_app | assumption))
  | ((with_reducible refine' go_anyC (b := true) ?e ?e2 ?_); (case e => exact rfl); (case e2 => exact rfl))
  | ((with_reducible refine' go_anyC (b := false) ?e ?e2 ?_); (case e => exact rfl); (case e2 => exact rfl))
  | ((with_reducible refine' go_allC (b := true) ?e ?e2 ?_); (case e => exact rfl); (case e2 => exact rfl))
  | ((with_reducible refine' go_allC (b := false) ?e ?e2 ?_); (case e => exact rfl); (case e2 => exact rfl))
  | ((with_reducible refine' go_eqTI ?e ?e2 ?e3 ?e4 ?_); (case e => exact rfl); (case e2 => exact rfl); (case e3 => (simp only [List.map_append, List.map_cons, List.map_nil, unP, List.cons_append, List.nil_append]; exact rfl)); (case e4 => (simp only [List.map_append, List.map_cons, List.map_nil, unP, List.cons_append, List.nil_append]; exact rfl)))
  | ((with_reducible refine' go_neTI ?e ?e2 ?e3 ?e4 ?_); (case e => exact rfl); (case e2 => exact rfl); (case e3 => (simp only [List.map_append, List.map_cons, List.map_nil, unP, List.cons_append, List.nil_append]; exact rfl)); (case e4 => (simp only [List.map_append, List.map_cons, List.map_nil, unP, List.cons_append, List.nil_append]; exact rfl)))
  | ((with_reducible refine' g_ips ?e ?_); (case e => exact rfl))
  | ((with_reducible refine' g_ipt ?e ?_); (case e => exact rfl))
  | ((with_reducible refine' g_n ?e ?_); (case e => omega))
  | ((with_reducible refine' go_in0 ?e ?e2 ?e3 ?e4 ?_); (case e => exact rfl); (case e2 => exact rfl); (case e3 => (simp only [List.map_cons, List.map_nil, unP]; exact rfl)); (case e4 => (dsimp only [memD])))
  | ((with_reducible refine' go_in1 ?e ?e2 ?e3 ?e4 ?_); (case e => exact rfl); (case e2 => exact rfl); (case e3 => (simp only [List.map_cons, List.map_nil, unP]; exact rfl)); (case e4 => (dsimp only [memD])))
  | with_reducible refine go_bseq ?_
  | with_reducible refine go_bexp ?_
  | with_reducible refine go_bfld ?_
  | ((with_reducible refine' g_bf ?h ?_); (case h => decide))
  | ((with_reducible refine' g_subX h ?e ?_); (case e => exact rfl); clear h; intro O h; simp only [Int.reduceToNat, Int.toNat_zero, Int.toNat_one, List.set_cons_zero, List.set_cons_succ] at h)
  | ((with_reducible refine' go_ixX h ?e ?_); (case e => exact rfl))
  | with_reducible refine go_dic0 ?_
  | with_reducible refine go_bms ?_
  | with_reducible refine go_fmtO ?_
  | ((with_reducible refine' go_otxt ?e ?_); (case e => exact rfl))
  | ((with_reducible refine' go_obool ?e ?_); (case e => exact rfl))
  | ((with_reducible refine' go_oeqA ?e ?e2 ?_); (case e => exact rfl); (case e2 => exact rfl))
  | ((with_reducible refine' go_oneA ?e ?e2 ?_); (case e => exact rfl); (case e2 => exact rfl)))
local macro_rules | `(tactic| wtm_at "q.z0_4") => `(tactic| fail)
set_option hygiene false in
local macro_rules | `(tactic| wtm_at "q.z0_4") => `(tactic| first
  | with_reducible refine go_iZ ?_
  | ((with_reducible refine' g_iz ?e ?e2 ?_); (case e => exact rfl); (case e2 => exact rfl))
  | with_reducible refine go_inOL ?_
  | with_reducible refine go_bms0 ?_
  | with_reducible refine go_js ?_
  | with_reducible refine gj_cons ?_
  | with_reducible refine gj_nil ?_
  | with_reducible refine g_str ?_
  | with_reducible refine go_fmt ?_
  | with_reducible refine go_strS ?_
  | ((with_reducible refine' go_addS ?h ?_); (case h => (first | omega | (simp only [zl_app, zl_emp, join_1, join_2]; omega) | decide +kernel)))
  | ((with_reducible refine' g_and ?h ?_); (case h => ((first | unfold sizeLine | skip); (first | omega | (simp only [zl_app, zl_emp, join_1, join_2]; omega)))))
  | ((with_reducible refine' g_fmtS ?h ?_); (case h => ((first | unfold sizeLine | skip); (first | omega | (simp only [zl_app, zl_emp, join_1, join_2]; omega)))))
  | ((with_reducible refine' go_strI ?h ?_); (case h => (refine log_ok ?_; omega)))
  | ((with_reducible refine' g_fmtI ?h ?_); (case h => (refine log_ok ?_; omega)))
  | ((with_reducible refine' go_joinN ?e ?h ?_); (case e => exact rfl); (case h => (simp only [List.map_cons, List.map_nil, List.sum_cons, List.sum_nil, List.length_cons, List.length_nil, zl_app, zl_emp, join_1, join_2]; omega)))
  | ((with_reducible refine' go_rep01 ?h ?_); (case h => decide))
  | with_reducible refine go_iAt ?_
  | with_reducible refine g_at ?_
  | with_reducible refine g_al ?_
  | ((with_reducible refine' go_sort2 ?e ?_); (case e => exact rfl))
  | with_reducible refine go_isBB ?_
  | with_reducible refine go_notBB ?_
  | with_reducible refine go_makeKO ?_
  | dsimp only)
local macro_rules | `(tactic| wtm_at "q.c0") => `(tactic| fail)
set_option hygiene false in
local macro_rules | `(tactic| wtm_at "q.c0") => `(tactic| first
  | wtm_at "q.z0_0"
  | wtm_at "q.z0_1"
  | wtm_at "q.z0_2"
  | wtm_at "q.z0_3"
  | wtm_at "q.z0_4")
set_option hygiene false in
local macro_rules | `(tactic| wtm_at "q.c") => `(tactic| repeat wtm_at "q.c0")
set_option hygiene false in
local macro_rules | `(tactic| wtm_at "q.b") => `(tactic| first
  | ((with_reducible refine' bt ?h ?_); (case h => omega))
  | ((with_reducible refine' bf ?h ?_); (case h => omega))
  | ((with_reducible refine' bnt ?h ?_); (case h => omega))
  | ((with_reducible refine' bnf ?h ?_); (case h => omega))
  | ((with_reducible refine' bt ?h ?_); (case h => exact rfl))
  | ((with_reducible refine' bf ?h ?_); (case h => decide))
  | ((with_reducible refine' bnt ?h ?_); (case h => decide))
  | ((with_reducible refine' bnf ?h ?_); (case h => exact rfl)))
set_option hygiene false in
local macro_rules | `(tactic| wtm_at "q.ixi") => `(tactic| ((refine' go_ixI ?e ?ei ?h0 ?h1 ?_); (case e => exact rfl); (case ei => exact rfl); (case h0 => omega); (case h1 => (simp only [List.length_cons, List.length_nil]; omega)); intro z hz; simp only [List.map_cons, List.map_nil, unP, List.mem_cons, List.not_mem_nil, or_false] at hz))
set_option hygiene false in
local macro_rules | `(tactic| wtm_at "q.g") => `(tactic| repeat (first | wtm_at "q.c0" | wtm_at "q.b" | wtm_at "q.call" | wtm_at "q.ixi"))
set_option hygiene false in
local macro_rules | `(tactic| wtm_at "q.def") => `(tactic| ((refine' go_def ?e ?e2 ?_); (case e => exact rfl); (case e2 => (simp only [List.map_cons, List.map_nil, List.cons_append, List.nil_append, Nat.reduceSub, List.reduceReplicate]; exact rfl)); wtm_at "q.c"))
set_option hygiene false in
local macro_rules | `(tactic| wtm_at "q.init") => `(tactic| ((refine' go_init ?e ?e2 ?_); (case e => exact rfl); (case e2 => (simp only [List.map_cons, List.map_nil, List.cons_append, List.nil_append, List.append_nil, Nat.reduceSub, Nat.reduceAdd, List.reduceReplicate]; exact rfl)); wtm_at "q.g"))
set_option hygiene false in
local macro_rules | `(tactic| wtm_at "q.call") => `(tactic| fail)
set_option hygiene false in
local macro_rules | `(tactic| wtm_at "q.fr") => `(tactic| first
  | exact Qx.Fr.refl
  | assumption
  | ((refine Qx.Fr.app ?_); wtm_at "q.fr")
  | ((refine Qx.Fr.tr (by assumption) ?_); wtm_at "q.fr"))
set_option hygiene false in
local macro_rules | `(tactic| wtm_at "q.c0") => `(tactic| first
  | with_reducible refine go_noXM ?_
  | with_reducible refine go_mkN ?_
  | ((with_reducible refine' go_isx0 ?e ?e2 ?e3 ?e4 ?_); (case e => exact rfl); (case e2 => decide +kernel); (case e3 => exact rfl); (case e4 => decide +kernel))
  | ((with_reducible refine' go_isx1 ?e ?e2 ?e3 ?e4 ?_); (case e => exact rfl); (case e2 => decide +kernel); (case e3 => exact rfl); (case e4 => decide +kernel))
  | ((with_reducible refine' go_catL ?e ?e2 ?e3 ?_); (case e => first | exact rfl | exact lstT_loc get_app); (case e2 => first | exact rfl | exact lstT_loc get_app); (case e3 => exact rfl); (simp only [List.cons_append, List.nil_append]))
  | ((with_reducible refine' go_catLOn ?e ?e2 ?e3 ?_); (case e => first | exact lstT_loc get_app | exact rfl); (case e2 => first | exact rfl | exact lstT_loc get_app); (case e3 => exact rfl); (simp only [List.cons_append, List.nil_append])))
set_option hygiene false in
local macro_rules | `(tactic| wtm_at "q.xdef") => `(tactic| ((refine' GoE.exc (goe_def ?e ?e2 ?_)); (case e => exact rfl); (case e2 => (simp only [List.map_cons, List.map_nil, List.cons_append, List.nil_append, Nat.reduceSub, List.reduceReplicate]; exact rfl))))
theorem cutP_take3 {ns : List Int} : cutP (ns.map PV.int) none (some 3) = (ns.take 3).map PV.int := by
  have e1 : ∀ n, HT.sIx n 0 none = 0 := fun n => rfl
  unfold cutP
  rw [e1, List.drop_zero, List.map_take]
  show List.take (HT.sIx (ns.map PV.int).length (ns.map PV.int).length (some 3)) _ = _
  have e2 : HT.sIx (ns.map PV.int).length (ns.map PV.int).length (some 3) = min 3 (ns.map PV.int).length := by
    unfold HT.sIx
    simp
  rw [e2]
  by_cases h : 3 ≤ (ns.map PV.int).length
  · rw [Nat.min_eq_left h]
  · rw [Nat.min_eq_right (by omega), List.take_length, List.take_of_length_le (by omega)]
theorem ints_of {ps : List PV} (h : ∀ q, q ∈ ps → ∃ z, q = .int z) : ∃ zs : List Int, ps = zs.map .int := by
  induction ps with
  | nil => exact ⟨[], rfl⟩
  | cons p ps ih =>
    obtain ⟨zs, e⟩ := ih fun q hq => h q (List.mem_cons_of_mem _ hq)
    obtain ⟨z, e2⟩ := h p List.mem_cons_self
    exact ⟨z :: zs, by rw [e, e2]; rfl⟩
section
theorem g__law_cell {ns : List Int} {j : Int} {O : Sto} {Q : PV → Sto → Prop} (h0 : 0 ≤ j) (h1 : j < 1000) (k : ∀ z : Int, Q (.int z) O) : Go (m__law_cell [.rol (ns.map .int), .int j] O) Q := by
  wtm_at "q.def"
  refine qbr (fun h => ?_) (fun h => ?_)
  · wtm_at "q.c"
    refine go_ixR rfl h0 (by simpa using h) fun r hr => ?_
    obtain ⟨z, _, rfl⟩ := List.mem_map.mp hr
    exact k z
  · wtm_at "q.c"
    refine go_sum (ns := ns.take 3) ?_ ?_
    · show some (cutP (ns.map PV.int) none (some 3)) = _
      rw [cutP_take3]
    · wtm_at "q.c"
      exact k _
theorem g__law_cells {ns : List Int} {a b : Int} {O : Sto} {Q : PV → Sto → Prop} (hn : ns.length ≤ 63) (ha : 0 ≤ a ∧ a ≤ 100) (hb : 0 ≤ b ∧ b ≤ 100) (k : ∀ zs : List Int, zs.length ≤ 100 → Q (.lst (zs.map .int)) O) : Go (m__law_cells [.rol (ns.map .int), .int a, .int b] O) Q := by
  wtm_at "q.def"
  rw [List.length_map]
  wtm_at "q.g"
  obtain ⟨acc, O', e1, e2, e3, rfl⟩ := comp_all (O := O) (tgt := gNm 3) (e := eCall m__law_cell [] (aCons (eVar 0) (aCons (eVar 3) aNil))) (s0 := [some (PV.rol (ns.map .int)), some (.int a), some (.int b), none]) (items := rgL 0 (max a (min b ns.length)).toNat) (fun O' => O' = O) (fun q => ∃ z, q = .int z) (by rw [rgL_len]; omega) rfl fun p hp O' eO => by
    subst eO
    obtain ⟨i, hi⟩ := List.getElem?_of_mem hp
    obtain ⟨hp1, rfl⟩ := rgL_get hi
    wtm_at "q.c"
    exact g__law_cell (by omega) (by omega) fun z => ⟨⟨z, rfl⟩, rfl⟩
  obtain ⟨zs, rfl⟩ := ints_of e3
  refine ⟨_, _, e1, k zs ?_⟩
  rw [List.length_map, rgL_len] at e2
  omega
set_option hygiene false in
local macro_rules | `(tactic| wtm_at "q.call") => `(tactic| ((with_reducible refine' g__law_cells ?a ?b ?c ?_); (case a => assumption); (case b => omega); (case c => omega); intro zs hzs))
theorem g__law_purse {n : Int} {O : Sto} {Q : PV → Sto → Prop} (k : ∀ O', Pu O' O.length → O'.length = O.length + 1 → (∀ m : Nat, m < O.length → O'[m]? = O[m]?) → Q (.loc O.length) O') : Go (m__law_purse [.int n] O) Q := by
  have fin : ∀ b : Int, 0 ≤ b → Q (.loc O.length) (O ++ [some (.lst [.int (n % 2147483399), .int b, .int 0])]) := fun b hb => k _ ⟨_, b, 0, get_app, Int.emod_nonneg _ (by omega), Int.emod_lt_of_pos _ (by omega), hb⟩ (by simp) fun m hm => by rw [List.getElem?_append_left hm]
  wtm_at "q.def"
  refine qbr (fun h => ?_) (fun h => ?_)
  · wtm_at "q.c"
    exact fin _ (by split <;> omega)
  · wtm_at "q.c"
    generalize (10 : Int) ^ Int.toNat 18 = t
    refine qbr (fun h2 => ?_) (fun h2 => ?_)
    · wtm_at "q.c"
      exact fin _ (by split <;> omega)
    · wtm_at "q.c"
      exact fin _ (by omega)
theorem g__law_take {O0 O : Sto} {p : Nat} {n : Int} {Q : PV → Sto → Prop} (h : Ph O0 p O) (n0 : 0 < n) (n1 : n < 1073741824) (k : ∀ (r : Int) (O' : Sto), 0 ≤ r → r < n → Ph O0 p O' → Q (.int r) O') : Go (m__law_take [.loc p, .int n] O) Q := by
  obtain ⟨a, b, c, h, a0, a1, b0⟩ := h.open
  wtm_at "q.def"
  refine qbr (fun hh => ?_) (fun hh => ?_)
  · wtm_at "q.c"
    refine k _ _ ?_ ?_ (h.close ?_ ?_ ?_)
    · exact Int.emod_nonneg _ (by omega)
    · exact Int.emod_lt_of_pos _ n0
    · exact Int.emod_nonneg _ (by omega)
    · exact Int.emod_lt_of_pos _ (by omega)
    · exact Int.ediv_nonneg b0 (by omega)
  · wtm_at "q.c"
    refine k _ _ ?_ ?_ (h.close ?_ ?_ ?_)
    · exact Int.emod_nonneg _ (by omega)
    · exact Int.emod_lt_of_pos _ n0
    · exact Int.emod_nonneg _ (by omega)
    · exact Int.emod_lt_of_pos _ (by omega)
    · exact b0
set_option hygiene false in
local macro_rules | `(tactic| wtm_at "q.call") => `(tactic| ((with_reducible refine' g__law_take h ?n0 ?n1 ?_); (case n0 => omega); (case n1 => omega); clear h; intro r O r0 r1 h))
theorem g__law_measure {O0 O : Sto} {p : Nat} {Q : PV → Sto → Prop} (h : Ph O0 p O) (k : ∀ (r : Int) (O' : Sto), -990000 ≤ r → r ≤ 990000 → Ph O0 p O' → Q (.int r) O') : Go (m__law_measure [.loc p] O) Q := by
  wtm_at "q.def"
  wtm_at "q.g"
  exact k _ _ (by omega) (by omega) h
set_option hygiene false in
local macro_rules | `(tactic| wtm_at "q.call") => `(tactic| ((with_reducible refine' g__law_measure h ?_); clear h; intro r O r0 r1 h))
theorem g__law_allowed {O0 O : Sto} {p : Nat} {n : Int} {Q : PV → Sto → Prop} (h : Ph O0 p O) (n0 : 0 ≤ n) (n1 : n ≤ 100000) (k : ∀ (u l : Int) (O' : Sto), 0 ≤ u + l → u + l ≤ n + 4 → -40 ≤ u ∧ u ≤ n + 50 → Ph O0 p O' → Q (.tup [.int u, .int l]) O') : Go (m__law_allowed [.loc p, .int n] O) Q := by
  wtm_at "q.def"
  wtm_at "q.g"
  exact k _ _ _ (by omega) (by omega) (by omega) h
set_option hygiene false in
local macro_rules | `(tactic| wtm_at "q.call") => `(tactic| ((with_reducible refine' g__law_allowed h ?n0 ?n1 ?_); (case n0 => omega); (case n1 => omega); clear h; intro u l O r0 r1 r2 h))
theorem g__law_parts {O0 O : Sto} {p : Nat} {n : Int} {Q : PV → Sto → Prop} (h : Ph O0 p O) (n0 : 0 ≤ n) (n1 : n ≤ 100000) (k : ∀ (s u l : Int) (O' : Sto), -990000 ≤ s ∧ s ≤ 990000 → 0 ≤ u + l → u + l ≤ n + 4 → -40 ≤ u ∧ u ≤ n + 50 → Ph O0 p O' → Q (.tup [.int s, .int u, .int l]) O') : Go (m__law_parts [.loc p, .int n] O) Q := by
  wtm_at "q.def"
  wtm_at "q.g"
  exact k _ _ _ _ (by omega) (by omega) (by omega) (by omega) h
set_option hygiene false in
local macro_rules | `(tactic| wtm_at "q.call") => `(tactic| ((with_reducible refine' g__law_parts h ?n0 ?n1 ?_); (case n0 => omega); (case n1 => omega); clear h; intro s u l O r0 r1 r2 r3 h))
theorem e_is_measure {i : Int} {O : Sto} : m_is_measure [.int i] O = .ok (.bl true) O := Go.eq (by
  wtm_at "q.def"
  exact ⟨rfl, rfl⟩)
set_option hygiene false in
local macro_rules | `(tactic| wtm_at "q.call") => `(tactic| ((with_reducible refine' go_at e_is_measure ?_)))
theorem e_check_measure {i : Int} {O : Sto} : m_check_measure [.int i] O = .ok .non O := Go.eq (by
  wtm_at "q.def"
  wtm_at "q.g"
  exact ⟨rfl, rfl⟩)
set_option hygiene false in
local macro_rules | `(tactic| wtm_at "q.call") => `(tactic| ((with_reducible refine' go_at e_check_measure ?_)))
theorem e_check_allowance {i j : Int} {O : Sto} (h : 0 ≤ i + j) : m_check_allowance [.int i, .int j] O = .ok .non O := Go.eq (by
  wtm_at "q.def"
  wtm_at "q.g"
  exact ⟨rfl, rfl⟩)
set_option hygiene false in
local macro_rules | `(tactic| wtm_at "q.call") => `(tactic| ((with_reducible refine' go_at (e_check_allowance ?h0) ?_); (case h0 => omega)))
abbrev span (s u l : Int) : PV := .ins "Span" ["size", "above", "below", "low", "high"] [.int s, .int u, .int l, .int (s - l), .int (s + u)]
theorem e_Span {s u l : Int} {O : Sto} (h : 0 ≤ u + l) : mkIns "Span" (m_Span___init__ [.int s, .int u, .int l] O) = .ok (span s u l) O := by
  refine Go.eq ?_
  wtm_at "q.init"
  exact ⟨rfl, rfl⟩
set_option hygiene false in
local macro_rules | `(tactic| wtm_at "q.call") => `(tactic| ((with_reducible refine' go_at (e_Span ?h0) ?_); (case h0 => omega)))
theorem e_check_span {s u l : Int} {O : Sto} : m_check_span [span s u l] O = .ok .non O := Go.eq (by
  wtm_at "q.def"
  wtm_at "q.g"
  exact ⟨rfl, rfl⟩)
set_option hygiene false in
local macro_rules | `(tactic| wtm_at "q.call") => `(tactic| ((with_reducible refine' go_at e_check_span ?_)))
theorem e_turned {s u l : Int} {O : Sto} (h : 0 ≤ u + l) : m_Span_turned [span s u l] O = .ok (span (0 - s) l u) O := Go.eq (by
  wtm_at "q.def"
  wtm_at "q.g"
  exact ⟨rfl, rfl⟩)
set_option hygiene false in
local macro_rules | `(tactic| wtm_at "q.call") => `(tactic| ((with_reducible refine' go_at (e_turned ?h0) ?_); (case h0 => omega)))
theorem e_plus {s u l s' u' l' : Int} {O : Sto} (h : 0 ≤ u + l) (h' : 0 ≤ u' + l') : m_Span_plus [span s u l, span s' u' l'] O = .ok (span (s + s') (u + u') (l + l')) O := Go.eq (by
  wtm_at "q.def"
  wtm_at "q.g"
  exact ⟨rfl, rfl⟩)
set_option hygiene false in
local macro_rules | `(tactic| wtm_at "q.call") => `(tactic| ((with_reducible refine' go_at (e_plus ?h0 ?h1) ?_); (case h0 => omega); (case h1 => omega)))
theorem e_minus {s u l s' u' l' : Int} {O : Sto} (h : 0 ≤ u + l) (h' : 0 ≤ u' + l') : m_Span_minus [span s u l, span s' u' l'] O = .ok (span (s + (0 - s')) (u + l') (l + u')) O := Go.eq (by
  wtm_at "q.def"
  wtm_at "q.g"
  exact ⟨rfl, rfl⟩)
set_option hygiene false in
local macro_rules | `(tactic| wtm_at "q.call") => `(tactic| ((with_reducible refine' go_at (e_minus ?h0 ?h1) ?_); (case h0 => omega); (case h1 => omega)))
theorem e_Span_len {s u l : Int} {O : Sto} (h : 0 ≤ u + l) (h1 : u + l < 2 ^ 40) : m_Span___len__ [span s u l] O = .ok (.int (u + l + 1)) O := Go.eq (by
  wtm_at "q.def"
  wtm_at "q.g"
  refine go_lenR (by omega) (by omega) ?_
  exact ⟨by congr 1; omega, rfl⟩)
set_option hygiene false in
local macro_rules | `(tactic| wtm_at "q.call") => `(tactic| ((with_reducible refine' go_at (e_Span_len ?h0 ?h1) ?_); (case h0 => omega); (case h1 => omega)))
theorem e_lets {s u l m : Int} {O : Sto} : m_Span_lets [span s u l, .int m] O = .ok (.bl (decide (s - l ≤ m ∧ m ≤ s + u))) O := Go.eq (by
  wtm_at "q.def"
  wtm_at "q.g"
  refine qbr (fun c => ?_) (fun c => ?_)
  · wtm_at "q.g"
    exact ⟨by simp [c], rfl⟩
  · exact ⟨by simp [c], rfl⟩)
set_option hygiene false in
local macro_rules | `(tactic| wtm_at "q.call") => `(tactic| ((with_reducible refine' go_at e_lets ?_)))
section
variable {α : Type} {le : α → α → Bool}
open PySem.W (TotalLe sameRank)
theorem sortQB_map {α : Type} {b : Bool} {f : α → PV} {k : α → PyData} (xs : List α) : sortQB b (xs.map f) (xs.map k) = (xs.mergeSort (PySem.W.dataLe b k)).map f := by
  unfold sortQB
  rw [List.zip_map', show xs.map (fun x => (f x, k x)) = xs.map fun x => (f x, k x) from rfl]
  have m1 : (xs.map fun x => (f x, k x)).mergeSort (PySem.W.dataLe b fun p : PV × PyData => p.2) = (xs.mergeSort (PySem.W.dataLe b k)).map fun x => (f x, k x) := (List.map_mergeSort (r := PySem.W.dataLe b k) (s := PySem.W.dataLe b fun p : PV × PyData => p.2) (f := fun x => (f x, k x)) (l := xs) fun _ _ _ _ => rfl).symm
  rw [m1, List.map_map]
  rfl
end
end
set_option hygiene false in
local macro_rules | `(tactic| wtm_at "q.call") => `(tactic| ((with_reducible refine' g__law_cells ?a ?b ?c ?_); (case a => assumption); (case b => omega); (case c => omega); intro zs hzs))
set_option hygiene false in
local macro_rules | `(tactic| wtm_at "q.call") => `(tactic| ((with_reducible refine' g__law_take h ?n0 ?n1 ?_); (case n0 => omega); (case n1 => omega); clear h; intro r O r0 r1 h))
set_option hygiene false in
local macro_rules | `(tactic| wtm_at "q.call") => `(tactic| ((with_reducible refine' g__law_measure h ?_); clear h; intro r O r0 r1 h))
set_option hygiene false in
local macro_rules | `(tactic| wtm_at "q.call") => `(tactic| ((with_reducible refine' g__law_allowed h ?n0 ?n1 ?_); (case n0 => omega); (case n1 => omega); clear h; intro u l O r0 r1 r2 h))
set_option hygiene false in
local macro_rules | `(tactic| wtm_at "q.call") => `(tactic| ((with_reducible refine' g__law_parts h ?n0 ?n1 ?_); (case n0 => omega); (case n1 => omega); clear h; intro s u l O r0 r1 r2 r3 h))
set_option hygiene false in
local macro_rules | `(tactic| wtm_at "q.call") => `(tactic| ((with_reducible refine' go_at e_is_measure ?_)))
set_option hygiene false in
local macro_rules | `(tactic| wtm_at "q.call") => `(tactic| ((with_reducible refine' go_at e_check_measure ?_)))
set_option hygiene false in
local macro_rules | `(tactic| wtm_at "q.call") => `(tactic| ((with_reducible refine' go_at (e_check_allowance ?h0) ?_); (case h0 => omega)))
set_option hygiene false in
local macro_rules | `(tactic| wtm_at "q.call") => `(tactic| ((with_reducible refine' go_at (e_Span ?h0) ?_); (case h0 => omega)))
set_option hygiene false in
local macro_rules | `(tactic| wtm_at "q.call") => `(tactic| ((with_reducible refine' go_at e_check_span ?_)))
set_option hygiene false in
local macro_rules | `(tactic| wtm_at "q.call") => `(tactic| ((with_reducible refine' go_at (e_turned ?h0) ?_); (case h0 => omega)))
set_option hygiene false in
local macro_rules | `(tactic| wtm_at "q.call") => `(tactic| ((with_reducible refine' go_at (e_plus ?h0 ?h1) ?_); (case h0 => omega); (case h1 => omega)))
set_option hygiene false in
local macro_rules | `(tactic| wtm_at "q.call") => `(tactic| ((with_reducible refine' go_at (e_minus ?h0 ?h1) ?_); (case h0 => omega); (case h1 => omega)))
set_option hygiene false in
local macro_rules | `(tactic| wtm_at "q.call") => `(tactic| ((with_reducible refine' go_at (e_Span_len ?h0 ?h1) ?_); (case h0 => omega); (case h1 => omega)))
set_option hygiene false in
local macro_rules | `(tactic| wtm_at "q.call") => `(tactic| ((with_reducible refine' go_at e_lets ?_)))
section
theorem bT {A B : Prop} {b : Bool} (h : b = true) (k : A) : if b = true then A else B := by rw [if_pos h]; exact k
theorem bF {A B : Prop} {b : Bool} (h : b = false) (k : B) : if b = true then A else B := by rw [if_neg (by rw [h]; exact Bool.false_ne_true)]; exact k
theorem goe_make {X : PExc → Sto → Prop} {C : Str} {m : List PV → Sto → PR (List Str × List PV)} {dps : List PV} {f : AF} {s : Slots} {O : Sto} {Q : PV → Sto → Prop} (k : Go (f s O) fun ps O1 => GoE X (mkIns C (m (ps ++ dps) O1)) Q) : GoE X (eMake C m dps f s O) Q := goe_bind k
theorem goe_makeK {X : PExc → Sto → Prop} {C : Str} {m : List PV → Sto → PR (List Str × List PV)} {gP : List PV → List PV → List PV} {n k : Nat} {f g : AF} {s : Slots} {O : Sto} {Q : PV → Sto → Prop} (h : Go (f s O) fun ps O1 => Go (g s O1) fun zs O2 => (ps.length = n ∧ zs.length = k) ∧ GoE X (mkIns C (m (gP ps zs) O2)) Q) : GoE X (eMakeK C m n k gP f g s O) Q := goe_bind (h.mono fun _ _ h => goe_bind (h.mono fun _ _ h => by rw [if_pos h.1]; exact h.2))
abbrev T3 := Int × Int × Int
abbrev sP (w : T3) : PV := span w.1 w.2.1 w.2.2
abbrev xSp : PExc := ⟨.cls "NoSpan", [], []⟩
abbrev xMs : PExc := ⟨.cls "NoMeasure", [], []⟩
abbrev xAl : PExc := ⟨.cls "NoAllowance", [], []⟩
def OddC (c : Str) (p : PV) : Prop := ∃ t, (∀ O, tyOf O p = some t) ∧ kitP cs t (.cls c) = some false
def OddR (p : PV) : Prop := ∀ O, isiTP cs p [.ty "list", .ty "tuple"] O = .ok (.bl false) O
def OddM (p : PV) : Prop := ∀ O, m_is_measure [p] O = .ok (.bl false) O
theorem x_check_span {p : PV} {O : Sto} (h : OddC "Span" p) : m_check_span [p] O = .exc xSp O := by
  obtain ⟨t, e, e2⟩ := h
  refine GoE.exc (goe_def rfl rfl ?_)
  refine go_ifS (go_tnot (go_tst (go_cb ?_)))
  wtm_at "q.c"
  refine go_isi (e O) e2 ?_
  wtm_at "q.c"
  exact gos_raise ⟨rfl, rfl⟩
theorem x_check_measure {p : PV} {O : Sto} (h : OddM p) : m_check_measure [p] O = .exc xMs O := by
  refine GoE.exc (goe_def (s' := [some p]) rfl rfl ?_)
  refine go_ifS (go_tnot (go_tst (go_call ?_)))
  wtm_at "q.c"
  first
    | refine go_at (h O) ?_
    | (refine g_m rfl ?_; first | refine go_at (h O) ?_ | refine go_noXM (go_at (h O) ?_))
  wtm_at "q.c"
  exact gos_raise ⟨rfl, rfl⟩
theorem x_allow1 {p q : PV} {O : Sto} (h : OddM p) : m_check_allowance [p, q] O = .exc xAl O := by
  refine GoE.exc (goe_def (s' := [some p, some q]) rfl rfl ?_)
  refine go_ifS (go_tor (go_tnot (go_tst (go_call ?_))))
  wtm_at "q.c"
  first
    | refine go_at (h O) ?_
    | (refine g_m rfl ?_; first | refine go_at (h O) ?_ | refine go_noXM (go_at (h O) ?_))
  wtm_at "q.c"
  exact gos_raise ⟨rfl, rfl⟩
theorem x_allow2 {i : Int} {q : PV} {O : Sto} (h : OddM q) : m_check_allowance [.int i, q] O = .exc xAl O := by
  refine GoE.exc (goe_def (s' := [some (.int i), some q]) rfl rfl ?_)
  refine go_ifS (go_tor (go_tnot (go_tst (go_call ?_))))
  wtm_at "q.c"
  refine go_at e_is_measure ?_
  wtm_at "q.c"
  first
    | refine go_at (h O) ?_
    | (refine g_m rfl ?_; first | refine go_at (h O) ?_ | refine go_noXM (go_at (h O) ?_))
  wtm_at "q.c"
  exact gos_raise ⟨rfl, rfl⟩
theorem x_allow3 {i j : Int} {O : Sto} (h : i + j < 0) : m_check_allowance [.int i, .int j] O = .exc xAl O := by
  refine GoE.exc (goe_def (s' := [some (.int i), some (.int j)]) rfl rfl ?_)
  refine go_ifS (go_tor (go_tnot (go_tst (go_call ?_))))
  wtm_at "q.c"
  refine go_at e_is_measure ?_
  wtm_at "q.g"
  exact gos_raise ⟨rfl, rfl⟩
theorem x_init1 {p q r : PV} {e : PExc} {O : Sto} (h : m_check_measure [p] O = .exc e O) : mkIns "Span" (m_Span___init__ [p, q, r] O) = .exc e O := by
  have e1 : bExp (eCall m_check_measure [] (aCons (eVar 1) aNil)) [] [] [none, some p, some q, some r] O = .exc e O := by
    unfold bExp
    rw [show eCall m_check_measure [] (aCons (eVar 1) aNil) [none, some p, some q, some r] O = m_check_measure [p] O from rfl, h]
  unfold m_Span___init__ mkInit
  rw [if_pos (show [p, q, r].length = 3 from rfl)]
  unfold bSeq
  rw [show (none :: List.map some [p, q, r] ++ List.replicate (4 - (3 + 1)) none) = [none, some p, some q, some r] from rfl, e1]
  rfl
theorem x_init2 {p q r : PV} {e : PExc} {O : Sto} (h0 : m_check_measure [p] O = .ok .non O) (h : m_check_allowance [q, r] O = .exc e O) : mkIns "Span" (m_Span___init__ [p, q, r] O) = .exc e O := by
  have e1 : bExp (eCall m_check_measure [] (aCons (eVar 1) aNil)) [] [] [none, some p, some q, some r] O = .next [] [] [none, some p, some q, some r] O := by
    unfold bExp
    rw [show eCall m_check_measure [] (aCons (eVar 1) aNil) [none, some p, some q, some r] O = m_check_measure [p] O from rfl, h0]
  have e2 : bExp (eCall m_check_allowance [] (aCons (eVar 2) (aCons (eVar 3) aNil))) [] [] [none, some p, some q, some r] O = .exc e O := by
    unfold bExp
    rw [show eCall m_check_allowance [] (aCons (eVar 2) (aCons (eVar 3) aNil)) [none, some p, some q, some r] O = m_check_allowance [q, r] O from rfl, h]
  unfold m_Span___init__ mkInit
  rw [if_pos (show [p, q, r].length = 3 from rfl)]
  unfold bSeq
  rw [show (none :: List.map some [p, q, r] ++ List.replicate (4 - (3 + 1)) none) = [none, some p, some q, some r] from rfl, e1]
  show mkIns "Span" (match (bExp (eCall m_check_allowance [] (aCons (eVar 2) (aCons (eVar 3) aNil))) [] [] [none, some p, some q, some r] O).bind _ with
    | .next ns qs _ O' => .ok (ns, qs) O'
    | .exc e O' => .exc e O'
    | .bad => .bad) = _
  rw [e2]
  rfl
theorem x_row_kind {p : PV} {O : Sto} (h : OddR p) : m_check_row [p] O = .exc xSp O := by
  refine GoE.exc (goe_def (s' := [some p, none]) rfl rfl ?_)
  refine go_seq (go_ifS (go_tnot (go_tst ?_)))
  refine go_isT ?_
  wtm_at "q.c"
  refine go_at (h O) ?_
  wtm_at "q.c"
  exact gos_raise ⟨rfl, rfl⟩
theorem x_row_item {ws : List T3} {q p : PV} {rest : List PV} {O : Sto} (hq : OddC "Span" q) (hp : p = .lst (ws.map sP ++ q :: rest) ∨ p = .tup (ws.map sP ++ q :: rest)) : m_check_row [p] O = .exc xSp O := by
  rcases hp with rfl | rfl
  all_goals
    refine GoE.exc (goe_def (s' := [some _, none]) rfl rfl ?_)
    refine go_seq (go_ifS (go_tnot (go_tst ?_)))
    refine go_isT ?_
    wtm_at "q.c"
    refine go_at (v := .bl true) (O1 := O) rfl ?_
    wtm_at "q.g"
    refine go_loop (fun i s1 O1 => ∃ x1, s1 = [some _, x1] ∧ O1 = O ∧ i ≤ ws.length) _ 0 _ _ ⟨_, rfl, rfl, Nat.zero_le _⟩ (fun i p s1 O1 hi hJ => ?_) (fun s1 O1 hJ => ?_)
    · obtain ⟨x1, rfl, rfl, hle⟩ := hJ
      by_cases c : i < ws.length
      · rw [List.getElem?_append_left (by rw [List.length_map]; exact c), List.getElem?_map, List.getElem?_eq_getElem c] at hi
        cases hi
        unfold sP
        wtm_at "q.g"
        exact ⟨_, rfl, rfl, by omega⟩
      · obtain rfl : i = ws.length := by omega
        rw [List.getElem?_append_right (by rw [List.length_map]; omega), List.length_map, Nat.sub_self] at hi
        cases hi
        refine go_nm (s' := [some _, some q]) rfl ?_
        refine gos_expE (goe_call ?_)
        wtm_at "q.c"
        refine g_me rfl ?_
        exact goe_at (x_check_span hq) ⟨rfl, rfl⟩
    · obtain ⟨x1, rfl, rfl, hle⟩ := hJ
      simp only [List.length_append, List.length_map, List.length_cons] at hle
      omega
set_option hygiene false in
local macro_rules | `(tactic| wtm_at "q.sx") => `(tactic| ((refine go_seq (gos_expE (goe_call ?_))); wtm_at "q.c"; (refine g_me rfl ?_)))
theorem x_lets {w : T3} {p : PV} {O : Sto} (h : OddM p) : m_Span_lets [sP w, p] O = .exc xMs O := by
  refine GoE.exc (goe_def (s' := [some (sP w), some p]) rfl rfl ?_)
  wtm_at "q.sx"
  exact goe_at (x_check_measure h) ⟨rfl, rfl⟩
theorem x_plus {w : T3} {p : PV} {O : Sto} (h : OddC "Span" p) : m_Span_plus [sP w, p] O = .exc xSp O := by
  refine GoE.exc (goe_def (s' := [some (sP w), some p]) rfl rfl ?_)
  wtm_at "q.sx"
  exact goe_at (x_check_span h) ⟨rfl, rfl⟩
theorem x_minus {w : T3} {p : PV} {O : Sto} (h : OddC "Span" p) : m_Span_minus [sP w, p] O = .exc xSp O := by
  refine GoE.exc (goe_def (s' := [some (sP w), some p]) rfl rfl ?_)
  wtm_at "q.sx"
  exact goe_at (x_check_span h) ⟨rfl, rfl⟩
theorem x_both0 {p q : PV} {O : Sto} (h : OddC "Span" p) : m_both [p, q] O = .exc xSp O := by
  refine GoE.exc (goe_def (s' := [some p, some q, none, none]) rfl rfl ?_)
  wtm_at "q.sx"
  exact goe_at (x_check_span h) ⟨rfl, rfl⟩
theorem x_both1 {w : T3} {q : PV} {O : Sto} (h : OddC "Span" q) : m_both [sP w, q] O = .exc xSp O := by
  refine GoE.exc (goe_def (s' := [some (sP w), some q, none, none]) rfl rfl ?_)
  wtm_at "q.c"
  refine go_at e_check_span ?_
  wtm_at "q.sx"
  exact goe_at (x_check_span h) ⟨rfl, rfl⟩
theorem x_within0 {p q : PV} {O : Sto} (h : OddC "Span" p) : m_within [p, q] O = .exc xSp O := by
  refine GoE.exc (goe_def (s' := [some p, some q]) rfl rfl ?_)
  wtm_at "q.sx"
  exact goe_at (x_check_span h) ⟨rfl, rfl⟩
theorem x_within1 {w : T3} {q : PV} {O : Sto} (h : OddC "Span" q) : m_within [sP w, q] O = .exc xSp O := by
  refine GoE.exc (goe_def (s' := [some (sP w), some q]) rfl rfl ?_)
  wtm_at "q.c"
  refine go_at e_check_span ?_
  wtm_at "q.sx"
  exact goe_at (x_check_span h) ⟨rfl, rfl⟩
theorem x_unlike0 {p q : PV} {O : Sto} (h : OddC "Span" p) : m_unlike [p, q] O = .exc xSp O := by
  refine GoE.exc (goe_def (s' := [some p, some q, none, none, none]) rfl rfl ?_)
  wtm_at "q.sx"
  exact goe_at (x_check_span h) ⟨rfl, rfl⟩
theorem x_unlike1 {w : T3} {q : PV} {O : Sto} (h : OddC "Span" q) : m_unlike [sP w, q] O = .exc xSp O := by
  refine GoE.exc (goe_def (s' := [some (sP w), some q, none, none, none]) rfl rfl ?_)
  wtm_at "q.c"
  refine go_at e_check_span ?_
  wtm_at "q.sx"
  exact goe_at (x_check_span h) ⟨rfl, rfl⟩
theorem g_both {s u l s' u' l' : Int} {O : Sto} {Q : PV → Sto → Prop} (k1 : s - l ≤ s' + u' → s' - l' ≤ s + u → ∀ a b c, Q (span a b c) O) (k2 : ¬ (s - l ≤ s' + u' ∧ s' - l' ≤ s + u) → Q .non O) (al : 0 ≤ u + l) (al' : 0 ≤ u' + l') : Go (m_both [span s u l, span s' u' l'] O) Q := by
  wtm_at "q.def"
  refine go_at e_check_span ?_
  wtm_at "q.c"
  refine go_at e_check_span ?_
  wtm_at "q.c"
  refine qbr (fun c => ?_) (fun c => ?_)
  · wtm_at "q.c"
    have e : m_span_of [.int (max (s - l) (s' - l')), .int (min (s + u) (s' + u'))] O = .ok (span (max (s - l) (s' - l')) (min (s + u) (s' + u') - max (s - l) (s' - l')) 0) O := Go.eq (by
      wtm_at "q.def"
      refine go_at (e_Span (by omega)) ?_
      exact ⟨rfl, rfl⟩)
    refine go_at e ?_
    wtm_at "q.c"
    exact k1 (by omega) (by omega) _ _ _
  · wtm_at "q.c"
    exact k2 (by omega)
theorem e_within {s u l s' u' l' : Int} {O : Sto} : m_within [span s u l, span s' u' l'] O = .ok (.bl (decide (s' - l' ≤ s - l ∧ s + u ≤ s' + u'))) O := Go.eq (by
  wtm_at "q.def"
  refine go_at e_check_span ?_
  wtm_at "q.c"
  refine go_at e_check_span ?_
  wtm_at "q.c"
  refine qbr (fun c => ?_) (fun c => ?_)
  · wtm_at "q.c"
    exact ⟨by simp [c], rfl⟩
  · exact ⟨by simp [c], rfl⟩)
theorem e_unlike {w v : T3} {O : Sto} {Q : PV → Sto → Prop} (k : ∀ q, Q q O) : Go (m_unlike [sP w, sP v] O) Q := by
  wtm_at "q.def"
  refine go_at e_check_span ?_
  wtm_at "q.c"
  refine go_at e_check_span ?_
  wtm_at "q.c"
  refine go_loop (fun i s1 O1 => ∃ x1 x2 x3, s1 = [some (sP w), some (sP v), x1, x2, x3] ∧ O1 = O) _ 0 _ _ ⟨_, _, _, rfl, rfl⟩ (fun i p s1 O1 hi hJ => ?_) (fun s1 O1 hJ => ?_)
  · obtain ⟨x1, x2, x3, rfl, rfl⟩ := hJ
    have hp : ∃ z a b, p = .tup [.str z, sP a, sP b] := by
      have := List.mem_of_getElem? hi
      simp only [List.mem_cons, List.not_mem_nil, or_false] at this
      rcases this with rfl | rfl
      · exact ⟨_, w, v, rfl⟩
      · exact ⟨_, v, w, rfl⟩
    obtain ⟨z, a, b, rfl⟩ := hp
    wtm_at "q.g"
    refine qbr (fun h => ?_) (fun h => ?_)
    · wtm_at "q.g"
      exact k _
    · wtm_at "q.g"
      refine qbr (fun h => ?_) (fun h => ?_)
      · wtm_at "q.g"
        exact k _
      · exact ⟨_, _, _, rfl, rfl⟩
  · obtain ⟨x1, x2, x3, rfl, rfl⟩ := hJ
    wtm_at "q.g"
    exact k _
end
section
theorem d0 {sp p a b c : PV} {ps : List PV} {O : Sto} {X : PExc → Sto → Prop} {Q : PV → Sto → Prop} (el : lstOf O p = some (a :: b :: c :: ps)) (h : GoE X (mkIns "Span" (m_Span___init__ [a, b, c] O)) Q) : GoE X (m__law_door [.int 0, sp, p] O) Q := by
  refine goe_def (s' := [some (.int 0), some sp, some p]) rfl rfl ?_
  refine go_seq (go_ifS (go_tst ?_))
  wtm_at "q.c"
  refine bT rfl ?_
  refine gos_retE (goe_make ?_)
  wtm_at "q.c"
  refine go_ixL el (atI_nat (j := 0) rfl) ?_
  wtm_at "q.c"
  refine go_ixL el (atI_nat (j := 1) rfl) ?_
  wtm_at "q.c"
  refine go_ixL el (atI_nat (j := 2) rfl) ?_
  wtm_at "q.c"
  exact h
theorem d1 {sp p a b c : PV} {ps : List PV} {O : Sto} {X : PExc → Sto → Prop} {Q : PV → Sto → Prop} (el : lstOf O p = some (a :: b :: c :: ps)) (h : GoE X (mkIns "Span" (m_Span___init__ [a, b, c] O)) Q) : GoE X (m__law_door [.int 1, sp, p] O) Q := by
  refine goe_def (s' := [some (.int 1), some sp, some p]) rfl rfl ?_
  refine go_seq (go_ifS (go_tst ?_))
  wtm_at "q.c"
  refine bF rfl (go_skip ?_)
  refine go_seq (go_ifS (go_tst ?_))
  wtm_at "q.c"
  refine bT rfl ?_
  refine gos_retE (goe_makeK ?_)
  wtm_at "q.c"
  refine go_ixL el (atI_nat (j := 0) rfl) ?_
  wtm_at "q.c"
  refine go_ixL el (atI_nat (j := 2) rfl) ?_
  wtm_at "q.c"
  refine go_ixL el (atI_nat (j := 1) rfl) ?_
  wtm_at "q.c"
  exact h
theorem d2 {w : T3} {p v : PV} {ps : List PV} {O : Sto} {X : PExc → Sto → Prop} {Q : PV → Sto → Prop} (el : lstOf O p = some (v :: ps)) (h : GoE X (m_Span_lets [sP w, v] O) Q) : GoE X (m__law_door [.int 2, sP w, p] O) Q := by
  refine goe_def (s' := [some (.int 2), some (sP w), some p]) rfl rfl ?_
  refine go_seq (go_ifS (go_tst ?_))
  wtm_at "q.c"
  refine bF rfl (go_skip ?_)
  refine go_seq (go_ifS (go_tst ?_))
  wtm_at "q.c"
  refine bF rfl (go_skip ?_)
  refine go_seq (go_ifS (go_tst ?_))
  wtm_at "q.c"
  refine bT rfl ?_
  refine gos_retE (goe_meth ?_)
  wtm_at "q.c"
  refine go_ixL el (atI_nat (j := 0) rfl) ?_
  wtm_at "q.c"
  refine g_me rfl ?_
  exact h
theorem d3 {w : T3} {p v : PV} {ps : List PV} {O : Sto} {X : PExc → Sto → Prop} {Q : PV → Sto → Prop} (el : lstOf O p = some (v :: ps)) (h : GoE X (m_Span_plus [sP w, v] O) Q) : GoE X (m__law_door [.int 3, sP w, p] O) Q := by
  refine goe_def (s' := [some (.int 3), some (sP w), some p]) rfl rfl ?_
  refine go_seq (go_ifS (go_tst ?_))
  wtm_at "q.c"
  refine bF rfl (go_skip ?_)
  refine go_seq (go_ifS (go_tst ?_))
  wtm_at "q.c"
  refine bF rfl (go_skip ?_)
  refine go_seq (go_ifS (go_tst ?_))
  wtm_at "q.c"
  refine bF rfl (go_skip ?_)
  refine go_seq (go_ifS (go_tst ?_))
  wtm_at "q.c"
  refine bT rfl ?_
  refine gos_retE (goe_meth ?_)
  wtm_at "q.c"
  refine go_ixL el (atI_nat (j := 0) rfl) ?_
  wtm_at "q.c"
  refine g_me rfl ?_
  exact h
theorem d4 {w : T3} {p v : PV} {ps : List PV} {O : Sto} {X : PExc → Sto → Prop} {Q : PV → Sto → Prop} (el : lstOf O p = some (v :: ps)) (h : GoE X (m_Span_minus [sP w, v] O) Q) : GoE X (m__law_door [.int 4, sP w, p] O) Q := by
  refine goe_def (s' := [some (.int 4), some (sP w), some p]) rfl rfl ?_
  refine go_seq (go_ifS (go_tst ?_))
  wtm_at "q.c"
  refine bF rfl (go_skip ?_)
  refine go_seq (go_ifS (go_tst ?_))
  wtm_at "q.c"
  refine bF rfl (go_skip ?_)
  refine go_seq (go_ifS (go_tst ?_))
  wtm_at "q.c"
  refine bF rfl (go_skip ?_)
  refine go_seq (go_ifS (go_tst ?_))
  wtm_at "q.c"
  refine bF rfl (go_skip ?_)
  refine go_seq (go_ifS (go_tst ?_))
  wtm_at "q.c"
  refine bT rfl ?_
  refine gos_retE (goe_methK ?_)
  wtm_at "q.c"
  refine go_ixL el (atI_nat (j := 0) rfl) ?_
  wtm_at "q.c"
  first
    | exact h
    | exact ⟨⟨rfl, rfl⟩, h⟩
    | exact g_me rfl h
theorem d5 {sp p v u : PV} {ps : List PV} {O : Sto} {X : PExc → Sto → Prop} {Q : PV → Sto → Prop} (el : lstOf O p = some (v :: u :: ps)) (h : GoE X (m_both [v, u] O) Q) : GoE X (m__law_door [.int 5, sp, p] O) Q := by
  refine goe_def (s' := [some (.int 5), some sp, some p]) rfl rfl ?_
  refine go_seq (go_ifS (go_tst ?_))
  wtm_at "q.c"
  refine bF rfl (go_skip ?_)
  refine go_seq (go_ifS (go_tst ?_))
  wtm_at "q.c"
  refine bF rfl (go_skip ?_)
  refine go_seq (go_ifS (go_tst ?_))
  wtm_at "q.c"
  refine bF rfl (go_skip ?_)
  refine go_seq (go_ifS (go_tst ?_))
  wtm_at "q.c"
  refine bF rfl (go_skip ?_)
  refine go_seq (go_ifS (go_tst ?_))
  wtm_at "q.c"
  refine bF rfl (go_skip ?_)
  refine go_seq (go_ifS (go_tst ?_))
  wtm_at "q.c"
  refine bT rfl ?_
  refine gos_retE (goe_call ?_)
  wtm_at "q.c"
  refine go_ixL el (atI_nat (j := 0) rfl) ?_
  wtm_at "q.c"
  refine go_ixL el (atI_nat (j := 1) rfl) ?_
  wtm_at "q.c"
  refine g_me rfl ?_
  exact h
theorem d6 {sp p v u : PV} {ps : List PV} {O : Sto} {X : PExc → Sto → Prop} {Q : PV → Sto → Prop} (el : lstOf O p = some (v :: u :: ps)) (h : GoE X (m_within [v, u] O) Q) : GoE X (m__law_door [.int 6, sp, p] O) Q := by
  refine goe_def (s' := [some (.int 6), some sp, some p]) rfl rfl ?_
  refine go_seq (go_ifS (go_tst ?_))
  wtm_at "q.c"
  refine bF rfl (go_skip ?_)
  refine go_seq (go_ifS (go_tst ?_))
  wtm_at "q.c"
  refine bF rfl (go_skip ?_)
  refine go_seq (go_ifS (go_tst ?_))
  wtm_at "q.c"
  refine bF rfl (go_skip ?_)
  refine go_seq (go_ifS (go_tst ?_))
  wtm_at "q.c"
  refine bF rfl (go_skip ?_)
  refine go_seq (go_ifS (go_tst ?_))
  wtm_at "q.c"
  refine bF rfl (go_skip ?_)
  refine go_seq (go_ifS (go_tst ?_))
  wtm_at "q.c"
  refine bF rfl (go_skip ?_)
  refine go_seq (go_ifS (go_tst ?_))
  wtm_at "q.c"
  refine bT rfl ?_
  refine gos_retE (goe_callK ?_)
  wtm_at "q.c"
  refine go_ixL el (atI_nat (j := 1) rfl) ?_
  wtm_at "q.c"
  refine go_ixL el (atI_nat (j := 0) rfl) ?_
  wtm_at "q.c"
  exact h
theorem d7 {sp p v u : PV} {ps : List PV} {O : Sto} {X : PExc → Sto → Prop} {Q : PV → Sto → Prop} (el : lstOf O p = some (v :: u :: ps)) (h : GoE X (m_unlike [v, u] O) Q) : GoE X (m__law_door [.int 7, sp, p] O) Q := by
  refine goe_def (s' := [some (.int 7), some sp, some p]) rfl rfl ?_
  refine go_seq (go_ifS (go_tst ?_))
  wtm_at "q.c"
  refine bF rfl (go_skip ?_)
  refine go_seq (go_ifS (go_tst ?_))
  wtm_at "q.c"
  refine bF rfl (go_skip ?_)
  refine go_seq (go_ifS (go_tst ?_))
  wtm_at "q.c"
  refine bF rfl (go_skip ?_)
  refine go_seq (go_ifS (go_tst ?_))
  wtm_at "q.c"
  refine bF rfl (go_skip ?_)
  refine go_seq (go_ifS (go_tst ?_))
  wtm_at "q.c"
  refine bF rfl (go_skip ?_)
  refine go_seq (go_ifS (go_tst ?_))
  wtm_at "q.c"
  refine bF rfl (go_skip ?_)
  refine go_seq (go_ifS (go_tst ?_))
  wtm_at "q.c"
  refine bF rfl (go_skip ?_)
  refine go_seq (go_ifS (go_tst ?_))
  wtm_at "q.c"
  refine bT rfl ?_
  refine gos_retE (goe_call ?_)
  wtm_at "q.c"
  refine go_ixL el (atI_nat (j := 0) rfl) ?_
  wtm_at "q.c"
  refine go_ixL el (atI_nat (j := 1) rfl) ?_
  wtm_at "q.c"
  refine g_me rfl ?_
  exact h
theorem d8 {sp p v : PV} {ps : List PV} {O : Sto} {X : PExc → Sto → Prop} {Q : PV → Sto → Prop} (el : lstOf O p = some (v :: ps)) (el2 : seqOf O p = some (v :: ps)) (h : ∀ b, GoE X (m_in_order [v, .non, .bl b] O) Q) : GoE X (m__law_door [.int 8, sp, p] O) Q := by
  refine goe_def (s' := [some (.int 8), some sp, some p]) rfl rfl ?_
  refine go_seq (go_ifS (go_tst ?_))
  wtm_at "q.c"
  refine bF rfl (go_skip ?_)
  refine go_seq (go_ifS (go_tst ?_))
  wtm_at "q.c"
  refine bF rfl (go_skip ?_)
  refine go_seq (go_ifS (go_tst ?_))
  wtm_at "q.c"
  refine bF rfl (go_skip ?_)
  refine go_seq (go_ifS (go_tst ?_))
  wtm_at "q.c"
  refine bF rfl (go_skip ?_)
  refine go_seq (go_ifS (go_tst ?_))
  wtm_at "q.c"
  refine bF rfl (go_skip ?_)
  refine go_seq (go_ifS (go_tst ?_))
  wtm_at "q.c"
  refine bF rfl (go_skip ?_)
  refine go_seq (go_ifS (go_tst ?_))
  wtm_at "q.c"
  refine bF rfl (go_skip ?_)
  refine go_seq (go_ifS (go_tst ?_))
  wtm_at "q.c"
  refine bF rfl (go_skip ?_)
  refine gos_retE (goe_callK ?_)
  wtm_at "q.c"
  refine go_ixL el (atI_nat (j := 0) rfl) ?_
  wtm_at "q.c"
  refine go_len el2 ?_
  wtm_at "q.c"
  first
    | exact h _
    | exact ⟨⟨rfl, rfl⟩, h _⟩
    | exact g_me rfl (h _)
inductive ExK : PExc → Str → Prop
  | ms : ExK xMs "measure"
  | al : ExK xAl "allowance"
  | sp : ExK xSp "span"
theorem e_sort0 {O : Sto} : m__law_sort [.xc "NoMeasure" [] []] O = .ok (.str "measure") O := by rfl
theorem e_sort1 {O : Sto} : m__law_sort [.xc "NoAllowance" [] []] O = .ok (.str "allowance") O := by rfl
theorem e_sort2 {O : Sto} : m__law_sort [.xc "NoSpan" [] []] O = .ok (.str "span") O := by rfl
theorem g_caught6 {d sp p : PV} {e : PExc} {w : Str} {O1 : Sto} {Q : PV → Sto → Prop} (hk : ExK e w) (k : Q (.str w) O1) : TryK { nx := fun s2 O2 => GoS { nx := fun _ O3 => Q .non O3, rt := Q, bk := fun _ _ => False, ct := fun _ _ => False } (sRet (eVar 3) s2 O2), rt := Q, bk := fun _ _ => False, ct := fun _ _ => False } 4 (cmX xt (.own "FitError")) (sAsg (eCall m__law_sort [] (aCons (eVar 4) aNil)) (gNm 3)) e [some d, some sp, some p, some (.str "told"), none] O1 := by
  cases hk with
  | ms =>
    refine ⟨_, true, rfl, by decide +kernel, ?_⟩
    rw [if_pos rfl]
    wtm_at "q.c"
    refine go_at e_sort0 ?_
    wtm_at "q.c"
    exact k
  | al =>
    refine ⟨_, true, rfl, by decide +kernel, ?_⟩
    rw [if_pos rfl]
    wtm_at "q.c"
    refine go_at e_sort1 ?_
    wtm_at "q.c"
    exact k
  | sp =>
    refine ⟨_, true, rfl, by decide +kernel, ?_⟩
    rw [if_pos rfl]
    wtm_at "q.c"
    refine go_at e_sort2 ?_
    wtm_at "q.c"
    exact k
theorem GoE.monoQ {α : Type} {X : PExc → Sto → Prop} {r : PR α} {Q Q' : α → Sto → Prop} (h : GoE X r Q) (k : ∀ v O1, Q v O1 → Q' v O1) : GoE X r Q' := by
  cases r with
  | ok v O1 => exact k _ _ h
  | exc e O1 => exact h
  | bad => exact h
theorem g_seen6 {d sp p : PV} {O : Sto} {Q : PV → Sto → Prop} (h : ∀ X : PExc → Sto → Prop, (∀ e w O1, ExK e w → Q (.str w) O1 → X e O1) → GoE X (m__law_door [d, sp, p] O) fun _ O1 => Q (.str "told") O1) : Go (m__law_seen [d, sp, p] O) Q := by
  refine go_def (s' := [some d, some sp, some p, none, none]) rfl rfl ?_
  wtm_at "q.c"
  refine gos_try ?_
  refine gos_expE (goe_call ?_)
  wtm_at "q.c"
  refine g_me rfl ?_
  refine GoE.monoQ (h _ fun e w O1 hk k => g_caught6 hk k) fun _ O1 k => ?_
  wtm_at "q.c"
  exact k
noncomputable def LAM6 : List (LamI × MF) := [(ll_in_order_l0, m_in_order_l0)]
def wP (w : T3) : PV := .tup [.int (w.1 - w.2.2), .int (w.1 + w.2.1)]
def wD (w : T3) : PyData := .tuple [.int (w.1 - w.2.2), .int (w.1 + w.2.1)]
theorem toDL_w : ∀ ws : List T3, toDL (ws.map wP) = some (ws.map wD)
  | [] => rfl
  | w :: ws => by
    rw [List.map_cons, List.map_cons, toDL, toDL_w ws]
    rfl
theorem keys_ok (ws : List T3) : (alikeB (ws.map wD) && (sortB (ws.map wD) && (ws.map wD).all fun d => decide (d.depth ≤ 60))) = true := by
  rw [Bool.and_eq_true, Bool.and_eq_true]
  refine ⟨List.all_eq_true.mpr fun d hd => List.all_eq_true.mpr fun d' hd' => ?_, ?_, List.all_eq_true.mpr fun d hd => ?_⟩
  · obtain ⟨w, _, rfl⟩ := List.mem_map.mp hd
    obtain ⟨v, _, rfl⟩ := List.mem_map.mp hd'
    rfl
  · refine Bool.or_eq_true_iff.mpr (.inl (List.all_eq_true.mpr fun d hd => ?_))
    obtain ⟨w, _, rfl⟩ := List.mem_map.mp hd
    rfl
  · obtain ⟨w, _, rfl⟩ := List.mem_map.mp hd
    unfold wD
    simp [PyData.depth, PyData.depthAll]
theorem key_at {w : T3} {O : Sto} : m_in_order_l0 [sP w] O = .ok (wP w) O := by
  refine Go.eq ?_
  wtm_at "q.def"
  exact ⟨rfl, rfl⟩
abbrev Hd6 (O : Sto) (p : PV) (qs : List PV) : Prop := p = .tup qs ∨ p = .lst qs ∨ ∃ n, p = .loc n ∧ O[n]? = some (some (.lst qs))
theorem Hd6.seq {O : Sto} {p : PV} {qs : List PV} (h : Hd6 O p qs) : seqOf O p = some qs := by
  rcases h with rfl | rfl | ⟨n, rfl, h⟩
  · rfl
  · rfl
  · exact seq_loc h
theorem e_check_row6 {p : PV} {ws : List T3} {O : Sto} (hp : Hd6 O p (ws.map sP)) : m_check_row [p] O = .ok .non O := by
  refine Go.eq ?_
  rcases hp with rfl | rfl | ⟨n, rfl, hn⟩
  · wtm_at "q.def"
    wtm_at "q.g"
    refine go_isT ?_
    wtm_at "q.g"
    refine go_at (v := .bl true) (O1 := O) rfl ?_
    wtm_at "q.g"
    refine go_loopP sP (fun d s1 O1 => (∃ x1, s1 = [some (.tup (ws.map sP)), x1]) ∧ O1 = O) ws (fun _ _ _ _ => trivial) ⟨⟨_, rfl⟩, rfl⟩ (fun d r t s1 O1 ed hJ => ?_) (fun s1 O1 hJ => ?_)
    · obtain ⟨⟨x1, rfl⟩, rfl⟩ := hJ
      wtm_at "q.g"
      exact ⟨⟨_, rfl⟩, rfl⟩
    · obtain ⟨⟨x1, rfl⟩, rfl⟩ := hJ
      exact ⟨rfl, rfl⟩
  · wtm_at "q.def"
    wtm_at "q.g"
    refine go_isT ?_
    wtm_at "q.g"
    refine go_at (v := .bl true) (O1 := O) rfl ?_
    wtm_at "q.g"
    refine go_loopP sP (fun d s1 O1 => (∃ x1, s1 = [some (.lst (ws.map sP)), x1]) ∧ O1 = O) ws (fun _ _ _ _ => trivial) ⟨⟨_, rfl⟩, rfl⟩ (fun d r t s1 O1 ed hJ => ?_) (fun s1 O1 hJ => ?_)
    · obtain ⟨⟨x1, rfl⟩, rfl⟩ := hJ
      wtm_at "q.g"
      exact ⟨⟨_, rfl⟩, rfl⟩
    · obtain ⟨⟨x1, rfl⟩, rfl⟩ := hJ
      exact ⟨rfl, rfl⟩
  · wtm_at "q.def"
    wtm_at "q.g"
    refine go_isT ?_
    wtm_at "q.g"
    refine go_at (v := .bl true) (O1 := O) (by simp [isiTP, isiP, tyOf, hn]; rfl) ?_
    wtm_at "q.g"
    refine ⟨ws.map sP, some (n, ws.map sP), by show itemsOf O (.loc n) = _; unfold itemsOf; simp only [hn], ?_⟩
    refine go_loopP (gd := some (n, ws.map sP)) sP (fun d s1 O1 => (∃ x1, s1 = [some (.loc n), x1]) ∧ O1 = O) ws (fun _ _ _ h => by rw [h.2]; exact hn) ⟨⟨_, rfl⟩, rfl⟩ (fun d r t s1 O1 ed hJ => ?_) (fun s1 O1 hJ => ?_)
    · obtain ⟨⟨x1, rfl⟩, rfl⟩ := hJ
      wtm_at "q.g"
      exact ⟨⟨_, rfl⟩, rfl⟩
    · obtain ⟨⟨x1, rfl⟩, rfl⟩ := hJ
      exact ⟨rfl, rfl⟩
theorem g_io6 {n : Nat} {b : Bool} {ws : List T3} {p : PV} {O : Sto} {Q : PV → Sto → Prop} (hT : O[0]? = some (some (.tbl tl_in_order))) (hh : Hd6 O p (ws.map sP)) (hl : ws.length ≤ 100) (kk : ∀ q, Q q O) : Go (mr_in_order (n + 1) [p, .fn ll_in_order_l0, .bl b] O) Q := by
  have key : ∀ s2, s2 = [some p, some (.fn ll_in_order_l0), some (.bl b)] → keysK (eCallM [] LAM6 1 (aCons (eVar 3) aNil)) s2 (ws.map sP) O = .ok (ws.map wP) O := fun s2 e => by
    subst e
    refine keysK_map ws fun w hww => Go.eq ?_
    refine go_callMf rfl (m := m_in_order_l0) (by unfold LAM6; rw [lamTab_hit]) ?_
    wtm_at "q.g"
    refine go_at key_at ?_
    exact ⟨rfl, rfl⟩
  have e1 : seqK O p = some (ws.map sP) := by unfold seqK; rw [hh.seq]
  wtm_at "q.def"
  refine go_at (e_check_row6 hh) ?_
  wtm_at "q.g"
  cases b with
  | true =>
    wtm_at "q.g"
    refine go_sortK ?_
    wtm_at "q.g"
    refine ⟨p, _, _, _, rfl, hT, e1, key _ rfl, toDL_w ws, keys_ok ws, ?_⟩
    rw [sortQB_map]
    wtm_at "q.g"
    exact kk _
  | false =>
    wtm_at "q.g"
    refine go_sortK ?_
    wtm_at "q.g"
    refine ⟨p, _, _, _, rfl, hT, e1, key _ rfl, toDL_w ws, keys_ok ws, ?_⟩
    rw [sortQB_map]
    wtm_at "q.g"
    exact kk _
theorem g_io6n {b : Bool} {ws : List T3} {p : PV} {O : Sto} {Q : PV → Sto → Prop} (hT : O[0]? = some (some (.tbl tl_in_order))) (hh : Hd6 O p (ws.map sP)) (hl : ws.length ≤ 100) (kk : ∀ q, Q q O) : Go (m_in_order [p, .non, .bl b] O) Q := by
  show Go (mr_in_order (6 + 2) [p, .non, .bl b] O) Q
  wtm_at "q.def"
  refine go_at (e_check_row6 hh) ?_
  wtm_at "q.g"
  refine go_lam hT ?_
  wtm_at "q.g"
  exact g_io6 hT hh hl kk
theorem x_io6 {b : PV} {p : PV} {O : Sto} (h : m_check_row [p] O = .exc xSp O) : m_in_order [p, .non, b] O = .exc xSp O := by
  show mr_in_order (7 + 1) [p, .non, b] O = _
  refine GoE.exc (goe_def (s' := [some p, some .non, some b]) rfl rfl ?_)
  refine go_seq (gos_expE (goe_call ?_))
  wtm_at "q.c"
  refine g_me rfl ?_
  exact goe_at h ⟨rfl, rfl⟩
end
section
abbrev tz (i : Int) : Str := Str.ofString (toString i)
theorem log_ok {i : Int} (h : -1000000000000 ≤ i ∧ i ≤ 1000000000000) : i.natAbs.log2 < 1920 := by
  by_cases c : i.natAbs = 0
  · rw [c]; decide
  · rw [Nat.log2_lt c]
    exact Nat.lt_of_le_of_lt (show i.natAbs ≤ 1000000000000 by omega) (Nat.lt_of_lt_of_le (show 1000000000000 < 2 ^ 40 by decide) (Nat.pow_le_pow_right (by decide) (by decide)))
theorem mul_1 (z : Str) : Txt.mul z 1 = z := rfl
theorem mul_0 (z : Str) : Txt.mul z 0 = Str.empty := rfl
theorem go_rep01 {z : Str} {b : Bool} {O : Sto} {Q : PV → Sto → Prop} (hz : z.length ≤ 1000) (k : Q (.str (if b = true then z else Str.empty)) O) : Go (repS (.str z) (.int (if b then 1 else 0)) O) Q := by
  unfold repS
  simp only
  have : mulOkS z (if b = true then 1 else 0) = true := by
    unfold mulOkS
    refine decide_eq_true ⟨by split <;> decide, by split <;> decide, ?_⟩
    cases b
    · simp
    · simp; omega
  rw [if_pos this]
  cases b
  · show Q (.str (Txt.mul z 0)) O
    rw [mul_0]; exact k
  · show Q (.str (Txt.mul z 1)) O
    rw [mul_1]; exact k
structure Sm (s u l : Int) : Prop where
  s : -100000000 ≤ s ∧ s ≤ 100000000
  u : -100000000 ≤ u ∧ u ≤ 100000000
  l : -100000000 ≤ l ∧ l ≤ 100000000
def reprT (s u l : Int) : Str := Str.empty ++ Str.ofString "Span(" ++ tz s ++ Str.ofString ", above=" ++ tz u ++ Str.ofString ", below=" ++ tz l ++ Str.ofString ")"
theorem e_span_repr {s u l : Int} {O : Sto} (h : -100000000000 ≤ s ∧ s ≤ 100000000000) (h1 : -100000000000 ≤ u ∧ u ≤ 100000000000) (h2 : -100000000000 ≤ l ∧ l ≤ 100000000000) (hz : (tz s).length ≤ 2000000 ∧ (tz u).length ≤ 2000000 ∧ (tz l).length ≤ 2000000) : m_Span___repr__ [span s u l] O = .ok (.str (reprT s u l)) O := by
  have l1 : (Str.ofString "Span(").length = 5 := rfl
  have l2 : (Str.ofString ", above=").length = 8 := rfl
  have l3 : (Str.ofString ", below=").length = 8 := rfl
  have l4 : (Str.ofString ")").length = 1 := rfl
  obtain ⟨z1, z2, z3⟩ := hz
  dsimp only [tz] at z1 z2 z3
  refine Go.eq ?_
  wtm_at "q.def"
  wtm_at "q.g"
  exact ⟨rfl, rfl⟩
theorem tz30 {i : Int} (h : -1000000000 ≤ i ∧ i ≤ 1000000000) : (tz i).length ≤ 11 := by
  have e := int_text_length_le10 (a := i) (k := 10) (by decide) (by rw [show (10 : Nat) ^ 10 = 10000000000 by decide]; omega)
  rw [PySem.ofString_length]
  exact e
theorem e_rp30 {s u l : Int} {O : Sto} (h : Sm s u l) : m_Span___repr__ [span s u l] O = .ok (.str (reprT s u l)) O := by
  have h1 := h.s
  have h2 := h.u
  have h3 := h.l
  have z1 := tz30 (i := s) (by omega)
  have z2 := tz30 (i := u) (by omega)
  have z3 := tz30 (i := l) (by omega)
  exact e_span_repr (by omega) (by omega) (by omega) ⟨by omega, by omega, by omega⟩
theorem reprT_len {s u l : Int} (h : Sm s u l) : (reprT s u l).length ≤ 60 := by
  have h1 := h.s
  have h2 := h.u
  have h3 := h.l
  have z1 := tz30 (i := s) (by omega)
  have z2 := tz30 (i := u) (by omega)
  have z3 := tz30 (i := l) (by omega)
  have l0 : (Str.empty).length = 0 := rfl
  have l1 : (Str.ofString "Span(").length = 5 := rfl
  have l2 : (Str.ofString ", above=").length = 8 := rfl
  have l3 : (Str.ofString ", below=").length = 8 := rfl
  have l4 : (Str.ofString ")").length = 1 := rfl
  unfold reprT
  simp only [PySem.strLen_append]
  omega
noncomputable abbrev tb6 : List (Str × MF) := [("Span", m_Span___repr__)]
def TxD (n B : Nat) (v : PV) : Prop := ∃ t : Str, t.length ≤ B ∧ ∀ O m, shO tb6 O (m + n) v = some t
theorem TxD.up {n B n' B' : Nat} {v : PV} (h : TxD n B v) (hn : n ≤ n') (hB : B ≤ B') : TxD n' B' v := by
  obtain ⟨t, h1, h2⟩ := h
  refine ⟨t, by omega, fun O m => ?_⟩
  rw [show m + n' = (m + (n' - n)) + n by omega]
  exact h2 O _
theorem tx_sp {w : T3} (h : Sm w.1 w.2.1 w.2.2) : TxD 1 60 (sP w) := ⟨reprT w.1 w.2.1 w.2.2, reprT_len h, fun O m => by
  show rprI m_Span___repr__ (sP w) O = _
  exact rprI_of (e_rp30 h)⟩
theorem tx_int {i : Int} (h : -1000000000 ≤ i ∧ i ≤ 1000000000) : TxD 1 11 (.int i) := ⟨tz i, tz30 h, fun O m => by
  have hl : i.natAbs.log2 < 1920 := by
    by_cases c : i.natAbs = 0
    · rw [c]; decide
    · rw [Nat.log2_lt c]
      exact Nat.lt_of_le_of_lt (show i.natAbs ≤ 1000000000 by omega) (Nat.lt_of_lt_of_le (show 1000000000 < 2 ^ 40 by decide) (Nat.pow_le_pow_right (by decide) (by decide)))
  show (if _ then _ else _) = _
  rw [if_pos hl]⟩
theorem tx_non : TxD 1 5 .non := ⟨"None", by decide, fun _ _ => rfl⟩
theorem tx_bl {b : Bool} : TxD 1 5 (.bl b) := ⟨if b then ("True" : Str) else "False", by cases b <;> decide, fun _ _ => rfl⟩
theorem tx_str {z : Str} {B : Nat} (h : (reprText z).length ≤ B) (hB : B ≤ 1000) : TxD 1 B (.str z) := ⟨reprText z, h, fun O m => by
  show (if _ then _ else _) = _
  rw [if_pos (by have e : sizeLine = 16777216 := by decide
                 omega)]⟩
theorem tx_list {n B : Nat} : ∀ {ps : List PV}, (∀ p ∈ ps, TxD n B p) → ∃ ts : List Str, ts.length = ps.length ∧ (ts.map fun t => t.length).sum ≤ B * ps.length ∧ ∀ O m, shL (shO tb6 O (m + n)) ps = some ts
  | [], _ => ⟨[], rfl, by simp, fun _ _ => rfl⟩
  | p :: ps, h => by
    obtain ⟨t, h1, h2⟩ := h p List.mem_cons_self
    obtain ⟨ts, g1, g2, g3⟩ := tx_list fun q hq => h q (List.mem_cons_of_mem _ hq)
    refine ⟨t :: ts, by simp [g1], ?_, fun O m => ?_⟩
    · simp only [List.map_cons, List.sum_cons, List.length_cons, Nat.mul_add, Nat.mul_one]
      omega
    · unfold shL
      rw [h2 O m, g3 O m]
theorem tx_lst {n B L : Nat} {ps : List PV} (h : ∀ p ∈ ps, TxD n B p) (hl : ps.length ≤ L) : TxD (n + 1) ((B + 2) * L + 3) (.lst ps) := by
  obtain ⟨ts, g1, g2, g3⟩ := tx_list h
  refine ⟨listText ts, ?_, fun O m => ?_⟩
  · have a1 := listText_len_le ts
    have : B * ps.length + 2 * ps.length ≤ (B + 2) * L := by rw [← Nat.add_mul]; exact Nat.mul_le_mul_left _ hl
    omega
  · show (shL (shO tb6 O (m + n)) ps).map listText = _
    rw [g3]
    rfl
theorem tx_tup {n B L : Nat} {ps : List PV} (h : ∀ p ∈ ps, TxD n B p) (hl : ps.length ≤ L) : TxD (n + 1) ((B + 2) * L + 3) (.tup ps) := by
  obtain ⟨ts, g1, g2, g3⟩ := tx_list h
  refine ⟨tupleText ts, ?_, fun O m => ?_⟩
  · have a1 := tupleText_len_le ts
    have : B * ps.length + 2 * ps.length ≤ (B + 2) * L := by rw [← Nat.add_mul]; exact Nat.mul_le_mul_left _ hl
    omega
  · show (shL (shO tb6 O (m + n)) ps).map tupleText = _
    rw [g3]
    rfl
theorem dicT_len {t : Str} (h : t.length ≤ 80) : (dictText [reprText "a" ++ ": " ++ t]).length ≤ 100 := by
  have l1 : (reprText ("a" : Str)).length = 3 := by decide +kernel
  have e : dictText [reprText "a" ++ ": " ++ t] = ("{" : Str) ++ (reprText "a" ++ ": " ++ t) ++ "}" := rfl
  rw [e, PySem.strLen_append, PySem.strLen_append, PySem.strLen_append, PySem.strLen_append, l1, show (("{" : Str)).length = 1 from rfl, show ((": " : Str)).length = 2 from rfl, show (("}" : Str)).length = 1 from rfl]
  omega
theorem tx_dic0 : TxD 1 5 (.dic [] []) := ⟨dictText [], by decide, fun _ _ => rfl⟩
theorem sc_a : scT (.str "a") = some (reprText "a") := by
  show (if _ then _ else _) = _
  rw [if_pos (by decide +kernel)]
theorem tx_dicA {v : PV} {t : Str} (h : viT tb6 v = some t) (hl : t.length ≤ 80) : TxD 1 100 (.dic [.str "a"] [v]) := ⟨_, dicT_len hl, fun O m => by
  show (shD tb6 [.str "a"] [v]).map dictText = _
  unfold shD shD
  rw [sc_a, h]
  rfl⟩
theorem vi_sp {w : T3} (h : Sm w.1 w.2.1 w.2.2) : viT tb6 (sP w) = some (reprT w.1 w.2.1 w.2.2) := by
  have hl : ∀ i : Int, -1000000000 ≤ i ∧ i ≤ 1000000000 → (scT (.int i)).isSome = true := fun i hi => by
    have hl : i.natAbs.log2 < 1920 := by
      by_cases c : i.natAbs = 0
      · rw [c]; decide
      · rw [Nat.log2_lt c]
        exact Nat.lt_of_le_of_lt (show i.natAbs ≤ 1000000000 by omega) (Nat.lt_of_lt_of_le (show 1000000000 < 2 ^ 40 by decide) (Nat.pow_le_pow_right (by decide) (by decide)))
    show (if _ then some _ else none).isSome = true
    rw [if_pos hl]
    rfl
  have h1 := h.s
  have h2 := h.u
  have h3 := h.l
  show (if ([PV.int w.1, .int w.2.1, .int w.2.2, .int (w.1 - w.2.2), .int (w.1 + w.2.1)].all fun p => (scT p).isSome) = true then rprI m_Span___repr__ (sP w) [] else none) = _
  rw [if_pos (by simp only [List.all_cons, List.all_nil, Bool.and_true, Bool.and_eq_true]; exact ⟨hl _ (by omega), hl _ (by omega), hl _ (by omega), hl _ (by omega), hl _ (by omega)⟩)]
  exact rprI_of (e_rp30 h)
theorem vi_5 : viT tb6 (.int 5) = some (tz 5) := by
  show (if (5 : Int).natAbs.log2 < 1920 then some (Str.ofString (toString (5 : Int))) else none) = _
  rw [if_pos (by decide)]
theorem odd_ns {w : T3} (h : Sm w.1 w.2.1 w.2.2) : ∀ q, q ∈ [PV.non, .int 5, .bl true, .str (Str.ofString "Span(5)"), .tup [.int 5, .int 0, .int 0], .lst [sP w], .tup [sP w], .dic [] [], .tup [.lst [sP w]], .dic [.str "a"] [sP w]] → OddC "Span" q ∧ TxD 3 100 q := by
  intro q hq
  have t1 : TxD 2 65 (.lst [sP w]) := (tx_lst (L := 1) (fun p hp => by rw [List.mem_singleton.mp hp]; exact tx_sp h) (Nat.le_refl _)).up (by omega) (by omega)
  have t2 : TxD 2 65 (.tup [sP w]) := (tx_tup (L := 1) (fun p hp => by rw [List.mem_singleton.mp hp]; exact tx_sp h) (Nat.le_refl _)).up (by omega) (by omega)
  have t3 : TxD 3 70 (.tup [.lst [sP w]]) := (tx_tup (L := 1) (fun p hp => by rw [List.mem_singleton.mp hp]; exact t1) (Nat.le_refl _)).up (by omega) (by omega)
  have t4 : TxD 2 60 (.tup [.int 5, .int 0, .int 0]) := (tx_tup (L := 3) (n := 1) (B := 11) (fun p hp => by
    simp only [List.mem_cons, List.not_mem_nil, or_false] at hp
    rcases hp with rfl | rfl | rfl <;> exact tx_int (by decide)) (Nat.le_refl _)).up (by omega) (by omega)
  simp only [List.mem_cons, List.not_mem_nil, or_false] at hq
  rcases hq with rfl | rfl | rfl | rfl | rfl | rfl | rfl | rfl | rfl | rfl <;> refine ⟨⟨_, fun _ => rfl, by decide +kernel⟩, ?_⟩
  · exact tx_non.up (by omega) (by omega)
  · exact (tx_int (by decide)).up (by omega) (by omega)
  · exact tx_bl.up (by omega) (by omega)
  · exact (tx_str (B := 50) (by decide +kernel) (by omega)).up (by omega) (by omega)
  · exact t4.up (by omega) (by omega)
  · exact t1.up (by omega) (by omega)
  · exact t2.up (by omega) (by omega)
  · exact tx_dic0.up (by omega) (by omega)
  · exact t3.up (by omega) (by omega)
  · exact (tx_dicA (vi_sp h) (by have := reprT_len h; omega)).up (by omega) (by omega)
theorem odd_nm : ∀ q, q ∈ [PV.non, .bl true, .bl false, .str (Str.ofString "5"), .str (Str.ofString ""), .lst [], .lst [.int 5], .tup [.int 5], .dic [] [], .tup [.lst [.int 5]], .dic [.str "a"] [.int 5]] → OddM q ∧ TxD 3 100 q := by
  intro q hq
  have t1 : TxD 2 20 (.lst [.int 5]) := (tx_lst (L := 1) (n := 1) (B := 11) (fun p hp => by rw [List.mem_singleton.mp hp]; exact tx_int (by decide)) (Nat.le_refl _)).up (by omega) (by omega)
  have t2 : TxD 2 20 (.tup [.int 5]) := (tx_tup (L := 1) (n := 1) (B := 11) (fun p hp => by rw [List.mem_singleton.mp hp]; exact tx_int (by decide)) (Nat.le_refl _)).up (by omega) (by omega)
  have t3 : TxD 3 30 (.tup [.lst [.int 5]]) := (tx_tup (L := 1) (fun p hp => by rw [List.mem_singleton.mp hp]; exact t1) (Nat.le_refl _)).up (by omega) (by omega)
  have t0 : TxD 2 3 (.lst []) := (tx_lst (L := 0) (n := 1) (B := 0) (fun p hp => by cases hp) (Nat.le_refl _)).up (by omega) (by omega)
  simp only [List.mem_cons, List.not_mem_nil, or_false] at hq
  rcases hq with rfl | rfl | rfl | rfl | rfl | rfl | rfl | rfl | rfl | rfl | rfl <;> refine ⟨fun O => Go.eq (by wtm_at "q.def" <;> wtm_at "q.g" <;> exact ⟨rfl, rfl⟩), ?_⟩
  · exact tx_non.up (by omega) (by omega)
  · exact tx_bl.up (by omega) (by omega)
  · exact tx_bl.up (by omega) (by omega)
  · exact (tx_str (B := 50) (by decide +kernel) (by omega)).up (by omega) (by omega)
  · exact (tx_str (B := 50) (by decide +kernel) (by omega)).up (by omega) (by omega)
  · exact t0.up (by omega) (by omega)
  · exact t1.up (by omega) (by omega)
  · exact t2.up (by omega) (by omega)
  · exact tx_dic0.up (by omega) (by omega)
  · exact t3.up (by omega) (by omega)
  · exact (tx_dicA vi_5 (by decide +kernel)).up (by omega) (by omega)
theorem g__law_no_number {O0 O : Sto} {p : Nat} {Q : PV → Sto → Prop} (h : Ph O0 p O) (k : ∀ q O', OddM q → TxD 3 100 q → Ph O0 p O' → Q q O') : Go (m__law_no_number [.loc p] O) Q := by
  wtm_at "q.def"
  wtm_at "q.g"
  refine go_disp (goP_cons ?_)
  wtm_at "q.c"
  refine goP_nil ⟨[(.inr "a", .int 5)], rfl, ?_⟩
  wtm_at "q.g"
  refine go_ixR rfl r0 (by simp only [List.length_cons, List.length_nil]; omega) fun q hq => ?_
  obtain ⟨a, b⟩ := odd_nm q hq
  exact k _ _ a b h
theorem g__law_no_span {O0 O : Sto} {p : Nat} {w : T3} {Q : PV → Sto → Prop} (h : Ph O0 p O) (hw : Sm w.1 w.2.1 w.2.2) (k : ∀ q O', OddC "Span" q → TxD 3 100 q → Ph O0 p O' → Q q O') : Go (m__law_no_span [.loc p, sP w] O) Q := by
  wtm_at "q.def"
  wtm_at "q.g"
  refine go_disp (goP_cons ?_)
  wtm_at "q.c"
  refine goP_nil ⟨[(.inr "a", sP w)], rfl, ?_⟩
  wtm_at "q.g"
  refine go_ixR rfl r0 (by simp only [List.length_cons, List.length_nil]; omega) fun q hq => ?_
  obtain ⟨a, b⟩ := odd_ns hw q hq
  exact k _ _ a b h
end
section
inductive AlS : PV → PV → Str → Prop
  | told {u l : Int} (h : 0 ≤ u + l) (hu : -1000 ≤ u ∧ u ≤ 1000) (hl : -1000 ≤ l ∧ l ≤ 1000) : AlS (.int u) (.int l) "told"
  | al1 {b c : PV} (h : OddM b) (tb : TxD 3 100 b) (tc : TxD 3 100 c) : AlS b c "allowance"
  | al2 {j : Int} {c : PV} (h : OddM c) (hj : -1000 ≤ j ∧ j ≤ 1000) (tc : TxD 3 100 c) : AlS (.int j) c "allowance"
  | al3 {j m : Int} (h : j + m < 0) (hj : -10000 ≤ j ∧ j ≤ 10000) (hm : -10000 ≤ m ∧ m ≤ 10000) : AlS (.int j) (.int m) "allowance"
theorem tx_i {i : Int} (h : -1000000000 ≤ i ∧ i ≤ 1000000000) : TxD 3 100 (.int i) := (tx_int h).up (by omega) (by omega)
theorem AlS.tx {b c : PV} {w : Str} (h : AlS b c w) : TxD 3 100 b ∧ TxD 3 100 c := by
  cases h with
  | told h hu hl => exact ⟨tx_i (by omega), tx_i (by omega)⟩
  | al1 h tb tc => exact ⟨tb, tc⟩
  | al2 h hj tc => exact ⟨tx_i (by omega), tc⟩
  | al3 h hj hm => exact ⟨tx_i (by omega), tx_i (by omega)⟩
inductive Made : PV → PV → PV → Str → Prop
  | ok {s : Int} {b c : PV} {w : Str} (h : AlS b c w) : Made (.int s) b c w
  | ms {a b c : PV} (h : OddM a) : Made a b c "measure"
theorem made_door {a b c : PV} {w : Str} {O : Sto} {X : PExc → Sto → Prop} {Q : PV → Sto → Prop} (h : Made a b c w) (hX : ∀ e w O1, ExK e w → Q (.str w) O1 → X e O1) (k : Q (.str w) O) : GoE X (mkIns "Span" (m_Span___init__ [a, b, c] O)) fun _ O1 => Q (.str "told") O1 := by
  cases h with
  | ms h => exact goe_at (x_init1 (x_check_measure h)) (hX _ _ _ .ms k)
  | ok h =>
    cases h with
    | told h => exact goe_go (go_at (e_Span h) k)
    | al1 h => exact goe_at (x_init2 e_check_measure (x_allow1 h)) (hX _ _ _ .al k)
    | al2 h => exact goe_at (x_init2 e_check_measure (x_allow2 h)) (hX _ _ _ .al k)
    | al3 h => exact goe_at (x_init2 e_check_measure (x_allow3 h)) (hX _ _ _ .al k)
theorem g_tail6 {O0 O : Sto} {p : Nat} {q b c : PV} {w : Str} {s f : Int} {Q : PV → Sto → Prop} (h : Ph O0 p O) (hs : -100000000 ≤ s ∧ s ≤ 100000000) (al : AlS b c w) (k : ∀ a w O', Made a b c w → TxD 3 100 a → TxD 3 100 b → TxD 3 100 c → Ph O0 p O' → Q (.tup [.lst [a, b, c], .str w]) O') :
    if decide (f % 2 = 1) = true then GoS { nx := fun s1 O1 => GoS { nx := fun _ O1 => Q .non O1, rt := Q, bk := fun _ _ => False, ct := fun _ _ => False } (sRet (eTup (aCons (eLst (aCons (eVar 4) (aCons (eVar 5) (aCons (eVar 6) aNil)))) (aCons (eVar 3) aNil))) s1 O1), rt := Q, bk := fun _ _ => False, ct := fun _ _ => False } (sPar 4 3 (aCons (eCall m__law_no_number [] (aCons (eVar 0) aNil)) (aCons (eC (.str "measure")) aNil)) [some (.loc p), some q, some (.int f), some (.str w), some (.int s), some b, some c] O) else GoS { nx := fun s1 O1 => GoS { nx := fun _ O1 => Q .non O1, rt := Q, bk := fun _ _ => False, ct := fun _ _ => False } (sRet (eTup (aCons (eLst (aCons (eVar 4) (aCons (eVar 5) (aCons (eVar 6) aNil)))) (aCons (eVar 3) aNil))) s1 O1), rt := Q, bk := fun _ _ => False, ct := fun _ _ => False } (sSkip [some (.loc p), some q, some (.int f), some (.str w), some (.int s), some b, some c] O) := by
  obtain ⟨tb, tc⟩ := al.tx
  refine qbr (fun c1 => ?_) (fun c1 => ?_)
  · wtm_at "q.c"
    refine g__law_no_number h fun a O1 ha ta h1 => ?_
    wtm_at "q.c"
    exact k _ _ _ (.ms ha) ta tb tc h1
  · wtm_at "q.c"
    exact k _ _ _ (.ok al) (tx_i (by omega)) tb tc h
theorem g__law_made {O0 O : Sto} {p : Nat} {s u l f : Int} {Q : PV → Sto → Prop} (h : Ph O0 p O) (hs : -100000000 ≤ s ∧ s ≤ 100000000) (h0 : 0 ≤ u + l) (hu : -1000 ≤ u ∧ u ≤ 1000) (hl : -1000 ≤ l ∧ l ≤ 1000) (k : ∀ a b c w O', Made a b c w → TxD 3 100 a → TxD 3 100 b → TxD 3 100 c → Ph O0 p O' → Q (.tup [.lst [a, b, c], .str w]) O') : Go (m__law_made [.loc p, .tup [.int s, .int u, .int l], .int f] O) Q := by
  wtm_at "q.def"
  wtm_at "q.g"
  refine qbr (fun c1 => ?_) (fun c1 => ?_)
  · wtm_at "q.c"
    refine g__law_no_number h fun c O1 hc tc h1 => ?_
    wtm_at "q.c"
    refine qbr (fun c2 => ?_) (fun c2 => ?_)
    · wtm_at "q.c"
      refine g__law_no_number h1 fun b O2 hb tb h2 => ?_
      wtm_at "q.c"
      refine qbr (fun c3 => ?_) (fun c3 => ?_)
      · wtm_at "q.c"
        refine bF (by decide) (go_skip ?_)
        wtm_at "q.c"
        exact g_tail6 h2 hs (.al1 hb tb tc) fun _ _ _ => k _ _ _ _ _
      · wtm_at "q.c"
        exact g_tail6 h2 hs (.al1 hb tb tc) fun _ _ _ => k _ _ _ _ _
    · wtm_at "q.c"
      refine qbr (fun c3 => ?_) (fun c3 => ?_)
      · wtm_at "q.c"
        refine bF (by decide) (go_skip ?_)
        wtm_at "q.c"
        exact g_tail6 h1 hs (.al2 hc hu tc) fun _ _ _ => k _ _ _ _ _
      · wtm_at "q.c"
        exact g_tail6 h1 hs (.al2 hc hu tc) fun _ _ _ => k _ _ _ _ _
  · wtm_at "q.c"
    refine qbr (fun c2 => ?_) (fun c2 => ?_)
    · wtm_at "q.c"
      refine g__law_no_number h fun b O2 hb tb h2 => ?_
      wtm_at "q.c"
      refine qbr (fun c3 => ?_) (fun c3 => ?_)
      · wtm_at "q.c"
        refine bF (by decide) (go_skip ?_)
        wtm_at "q.c"
        exact g_tail6 h2 hs (.al1 hb tb (tx_i (i := l) (by omega))) fun _ _ _ => k _ _ _ _ _
      · wtm_at "q.c"
        exact g_tail6 h2 hs (.al1 hb tb (tx_i (i := l) (by omega))) fun _ _ _ => k _ _ _ _ _
    · wtm_at "q.c"
      refine qbr (fun c3 => ?_) (fun c3 => ?_)
      · wtm_at "q.c"
        refine bT (by decide) ?_
        wtm_at "q.g"
        exact k _ _ _ _ _ (.ok (.al3 (j := 0 - l - 1 - r) (m := l) (by omega) (by omega) (by omega))) (tx_i (by omega)) (tx_i (i := 0 - l - 1 - r) (by omega)) (tx_i (by omega)) h
      · wtm_at "q.c"
        exact g_tail6 h hs (.told h0 hu hl) fun _ _ _ => k _ _ _ _ _
def Sl (w : T3) (q : PV) (odd : Bool) : Prop := if odd then OddC "Span" q ∧ TxD 3 100 q else q = sP w
theorem Sl.tx {w : T3} {q : PV} {b : Bool} (hw : Sm w.1 w.2.1 w.2.2) (h : Sl w q b) : TxD 3 100 q := by
  unfold Sl at h
  cases b with
  | true => exact h.2
  | false => rw [show q = sP w from h]; exact (tx_sp hw).up (by omega) (by omega)
def dueB (a b : Bool) : Str := if a || b then "span" else "told"
structure Pn (O0 : Sto) (p : Nat) (O : Sto) : Prop where
  pu : Pu O p
  len : O0.length ≤ O.length
  oth : ∀ m : Nat, m < O0.length → m ≠ p → O[m]? = O0[m]?
theorem Pn.start {O : Sto} {p : Nat} (h : Pu O p) : Pn O p O := ⟨h, Nat.le_refl _, fun _ _ _ => rfl⟩
theorem Pn.ph {O0 O O1 : Sto} {p : Nat} (h : Pn O0 p O) (f : Ph O p O1) : Pn O0 p O1 := ⟨f.pu, by rw [f.len]; exact h.len, fun m h1 h2 => (f.oth m h2).trans (h.oth m h1 h2)⟩
theorem Pn.app {O0 O : Sto} {p : Nat} {x : Option PV} (h : Pn O0 p O) : Pn O0 p (O ++ [x]) := by
  obtain ⟨a, b, c, e, h5⟩ := h.pu
  have hp := lt_of_get e
  exact ⟨⟨a, b, c, by rw [List.getElem?_append_left hp]; exact e, h5⟩, by rw [List.length_append]; have := h.len; omega, fun m h1 h2 => by rw [List.getElem?_append_left (by have := h.len; omega)]; exact h.oth m h1 h2⟩
theorem Pn.set {O0 O : Sto} {p n : Nat} {x : Option PV} (h : Pn O0 p O) (hn : O0.length ≤ n) (hp : n ≠ p) : Pn O0 p (O.set n x) := by
  obtain ⟨a, b, c, e, h5⟩ := h.pu
  exact ⟨⟨a, b, c, by rw [List.getElem?_set_ne hp]; exact e, h5⟩, by rw [List.length_set]; exact h.len, fun m h1 h2 => by rw [List.getElem?_set_ne (by omega)]; exact h.oth m h1 h2⟩
theorem Pn.trans {O0 O1 O2 : Sto} {p : Nat} (h : Pn O0 p O1) (g : Pn O1 p O2) : Pn O0 p O2 := ⟨g.pu, Nat.le_trans h.len g.len, fun m h1 h2 => (g.oth m (by have := h.len; omega) h2).trans (h.oth m h1 h2)⟩
theorem g__law_two {O : Sto} {p : Nat} {w v : T3} {f : Int} {Q : PV → Sto → Prop} (pu : Pu O p) (hw : Sm w.1 w.2.1 w.2.2) (hv : Sm v.1 v.2.1 v.2.2) (k : ∀ x y O' n, Sl w x (decide (f / 1 % 2 = 1)) → Sl v y (decide (f / 2 % 2 = 1)) → Pn O p O' → O'[n]? = some (some (.lst [x, y])) → O.length ≤ n → Q (.tup [.loc n, .str (dueB (decide (f / 1 % 2 = 1)) (decide (f / 2 % 2 = 1)))]) O') : Go (m__law_two [.loc p, .lst [sP w, sP v], .int f] O) Q := by
  have hp : p < O.length := by obtain ⟨a, b, c, e, _⟩ := pu; exact lt_of_get e
  generalize hA : decide (f / 1 % 2 = 1) = A at k ⊢
  generalize hB : decide (f / 2 % 2 = 1) = B at k ⊢
  wtm_at "q.def"
  wtm_at "q.c"
  refine go_bLstO rfl ?_
  wtm_at "q.c"
  refine go_loop (fun i s1 O1 => ∃ x y x3, s1 = [some (.loc p), some (.lst [sP w, sP v]), some (.int f), x3, some (.loc O.length), some (.str (dueB (A && decide (2 ≤ i)) (B && decide (1 ≤ i))))] ∧ Sl w x (A && decide (2 ≤ i)) ∧ Sl v y (B && decide (1 ≤ i)) ∧ O1[O.length]? = some (some (.lst [x, y])) ∧ Pn O p O1) _ 0 _ _ ⟨sP w, sP v, none, by simp [dueB], by simp [Sl], by simp [Sl], get_app, (Pn.start pu).app⟩ (fun i q s1 O1 hi hJ => ?_) (fun s1 O1 hJ => ?_)
  · obtain ⟨x, y, x3, rfl, sx, sy, en, pn⟩ := hJ
    have h := Ph.start pn.pu
    have hi2 : i = 0 ∨ i = 1 := by
      have := (List.getElem?_eq_some_iff.mp hi).1
      simp only [List.length_cons, List.length_nil] at this
      omega
    rcases hi2 with rfl | rfl
    · cases hi
      have hy : y = sP v := by simpa [Sl] using sy
      have hx : x = sP w := by simpa [Sl] using sx
      subst hy hx
      wtm_at "q.c"
      rw [show (1 : Int) + 1 = 2 by rfl, hB]
      cases B with
      | false =>
        rw [if_neg Bool.false_ne_true]
        wtm_at "q.c"
        exact ⟨_, _, _, rfl, sx, sy, en, pn⟩
      | true =>
        rw [if_pos rfl]
        wtm_at "q.c"
        refine g__law_no_span h hv fun q O2 hq tq h2 => ?_
        wtm_at "q.c"
        refine g_sub (j' := 1) ((h2.oth _ (by omega)).trans en) rfl ?_
        wtm_at "q.c"
        refine ⟨sP w, q, some (.int 1), by simp [dueB], by simpa [Sl] using sx, ⟨hq, tq⟩, get_set ((h2.oth _ (by omega)).trans en), (pn.ph h2).set (Nat.le_refl _) (by omega)⟩
    · cases hi
      have hx : x = sP w := by simpa [Sl] using sx
      subst hx
      wtm_at "q.c"
      rw [show (1 : Int) + 0 = 1 by rfl, hA]
      cases A with
      | false =>
        rw [if_neg Bool.false_ne_true]
        wtm_at "q.c"
        exact ⟨_, _, _, rfl, by simp [Sl], by simpa using sy, en, pn⟩
      | true =>
        rw [if_pos rfl]
        wtm_at "q.c"
        refine g__law_no_span h hw fun q O2 hq tq h2 => ?_
        wtm_at "q.c"
        refine g_sub (j' := 0) ((h2.oth _ (by omega)).trans en) rfl ?_
        wtm_at "q.c"
        refine ⟨q, y, some (.int 0), by simp [dueB], ⟨hq, tq⟩, by simpa using sy, get_set ((h2.oth _ (by omega)).trans en), (pn.ph h2).set (Nat.le_refl _) (by omega)⟩
  · obtain ⟨x, y, x3, rfl, sx, sy, en, pn⟩ := hJ
    wtm_at "q.c"
    have := k x y O1 O.length (by simpa using sx) (by simpa using sy) pn en (Nat.le_refl _)
    simpa using this
theorem cut_takeP {ps : List PV} {j : Nat} {a : Int} (ha : a = (j : Int)) : cutP ps none (some a) = ps.take j := by
  subst ha
  have e1 : HT.sIx ps.length 0 none = 0 := rfl
  have e2 : HT.sIx ps.length ps.length (some (j : Int)) = min j ps.length := by
    unfold HT.sIx
    simp
    omega
  unfold cutP
  rw [e1, e2, List.drop_zero, Nat.sub_zero]
  by_cases c : j ≤ ps.length
  · rw [Nat.min_eq_left c]
  · rw [Nat.min_eq_right (by omega), List.take_length, List.take_of_length_le (by omega)]
theorem cutP_len9 {ps : List PV} {i j : Option Int} : (cutP ps i j).length ≤ ps.length := by
  unfold cutP
  rw [List.length_take, List.length_drop]
  omega
theorem mem_cutP {ps : List PV} {i j : Option Int} {q : PV} (h : q ∈ cutP ps i j) : q ∈ ps := by
  unfold cutP at h
  exact List.mem_of_mem_drop (List.mem_of_mem_take h)
inductive RowS : PV → Str → Prop
  | told {ws : List T3} {q : PV} (hq : q = .lst (ws.map sP) ∨ q = .tup (ws.map sP)) (hl : ws.length ≤ 100) : RowS q "told"
  | kind {q : PV} (h : OddR q) : RowS q "span"
  | item {ws : List T3} {o q : PV} {rest : List PV} (h : OddC "Span" o) (hq : q = .lst (ws.map sP ++ o :: rest) ∨ q = .tup (ws.map sP ++ o :: rest)) : RowS q "span"
theorem row_door {q : PV} {w : Str} {b : Bool} {O : Sto} {X : PExc → Sto → Prop} {Q : PV → Sto → Prop} (h : RowS q w) (hT : O[0]? = some (some (.tbl tl_in_order))) (hX : ∀ e w O1, ExK e w → Q (.str w) O1 → X e O1) (k : Q (.str w) O) : GoE X (m_in_order [q, .non, .bl b] O) fun _ O1 => Q (.str "told") O1 := by
  cases h with
  | told hq hl => exact goe_go (g_io6n hT (hq.elim (fun e => .inr (.inl e)) fun e => .inl e) hl fun _ => k)
  | kind h => exact goe_at (x_io6 (x_row_kind h)) (hX _ _ _ .sp k)
  | item h hq => exact goe_at (x_io6 (x_row_item h hq)) (hX _ _ _ .sp k)
theorem odd_r8 {w : T3} (h : Sm w.1 w.2.1 w.2.2) : ∀ q, q ∈ [PV.non, .int 5, .str (Str.ofString ""), .str (Str.ofString "ab"), sP w, .dic [] [], .dic [.str "a"] [sP w], .bl true] → OddR q ∧ TxD 4 1000 q := by
  intro q hq
  simp only [List.mem_cons, List.not_mem_nil, or_false] at hq
  rcases hq with rfl | rfl | rfl | rfl | rfl | rfl | rfl | rfl <;> refine ⟨fun O => by unfold isiTP tyOf; first | rfl | (simp only; rfl), ?_⟩
  · exact tx_non.up (by omega) (by omega)
  · exact (tx_int (by decide)).up (by omega) (by omega)
  · exact (tx_str (B := 50) (by decide +kernel) (by omega)).up (by omega) (by omega)
  · exact (tx_str (B := 50) (by decide +kernel) (by omega)).up (by omega) (by omega)
  · exact (tx_sp h).up (by omega) (by omega)
  · exact tx_dic0.up (by omega) (by omega)
  · exact (tx_dicA (vi_sp h) (by have := reprT_len h; omega)).up (by omega) (by omega)
  · exact tx_bl.up (by omega) (by omega)
theorem rep_two {w v : T3} {j : Nat} (h : j ≤ 2) : ∃ ws : List T3, (List.replicate j [sP w, sP v]).flatten = ws.map sP ∧ ws.length = 2 * j ∧ ∀ x ∈ ws, x = w ∨ x = v := by
  have : j = 0 ∨ j = 1 ∨ j = 2 := by omega
  rcases this with rfl | rfl | rfl
  · exact ⟨[], rfl, rfl, fun _ h => nomatch h⟩
  · exact ⟨[w, v], rfl, rfl, by simp⟩
  · exact ⟨[w, v, w, v], rfl, rfl, by simp⟩
theorem g__law_row {O O0 : Sto} {p : Nat} {w v : T3} {f : Int} {Q : PV → Sto → Prop} (h : Ph O0 p O) (hw : Sm w.1 w.2.1 w.2.2) (hv : Sm v.1 v.2.1 v.2.2) (k : ∀ q t O', RowS q t → TxD 4 1000 q → Ph O0 p O' → Q (.tup [q, .str t]) O') : Go (m__law_row [.loc p, .lst [sP w, sP v], .int f] O) Q := by
  have two : ∀ {q : PV} {ps : List PV}, q ∈ [PV.lst ps, .tup ps] → q = .lst ps ∨ q = .tup ps := fun {q ps} hq => by
    simp only [List.mem_cons, List.not_mem_nil, or_false] at hq
    exact hq
  have txr : ∀ {q : PV} {ps : List PV}, (q = .lst ps ∨ q = .tup ps) → ps.length ≤ 9 → (∀ x ∈ ps, TxD 3 100 x) → TxD 4 1000 q := fun {q ps} hq hl hx => by
    rcases hq with rfl | rfl
    · exact (tx_lst (L := 9) hx hl).up (by omega) (by omega)
    · exact (tx_tup (L := 9) hx hl).up (by omega) (by omega)
  wtm_at "q.def"
  refine g__law_take h (by omega) (by omega) fun j O1 j0 j1 h1 => ?_
  obtain ⟨ws, ews, lws, mws⟩ := rep_two (w := w) (v := v) (j := j.toNat) (by omega)
  have hsp : ∀ x ∈ ws.map sP, TxD 3 100 x := fun x hx => by
    obtain ⟨y, hy, rfl⟩ := List.mem_map.mp hx
    rcases mws y hy with rfl | rfl
    · exact (tx_sp hw).up (by omega) (by omega)
    · exact (tx_sp hv).up (by omega) (by omega)
  refine go_repL rfl (by unfold szOk sizeLine; simp only [Bool.and_eq_true, decide_eq_true_eq, List.length_cons, List.length_nil]; omega) ews ?_
  wtm_at "q.c"
  rw [List.length_map]
  refine g__law_take h1 (by omega) (by omega) fun a O2 a0 a1 h2 => ?_
  wtm_at "q.c"
  refine qbr (fun c1 => ?_) (fun c1 => ?_)
  · wtm_at "q.c"
    refine go_ixR rfl (by omega) (by simp only [List.length_cons, List.length_nil]; omega) fun q hq => ?_
    wtm_at "q.c"
    have hq := two hq
    exact k _ _ _ (.told hq (by omega)) (txr hq (by rw [List.length_map]; omega) hsp) h2
  · wtm_at "q.c"
    refine qbr (fun c2 => ?_) (fun c2 => ?_)
    · wtm_at "q.c"
      refine go_disp (goP_cons ?_)
      wtm_at "q.c"
      refine goP_nil ⟨[(.inr "a", sP w)], rfl, ?_⟩
      wtm_at "q.c"
      refine g__law_take h2 (by omega) (by omega) fun i O3 i0 i1 h3 => ?_
      refine go_ixR rfl i0 (by simp only [List.length_cons, List.length_nil]; omega) fun q hq => ?_
      wtm_at "q.c"
      obtain ⟨g1, g2⟩ := odd_r8 hw q hq
      exact k _ _ _ (.kind g1) g2 h3
    · wtm_at "q.c"
      rw [cut_takeP (j := a.toNat) (by omega), ← List.map_take]
      refine g__law_no_span h2 hw fun o O3 ho to h3 => ?_
      wtm_at "q.c"
      refine go_catL rfl rfl (sz_le (by simp only [List.length_map, List.length_take, List.length_cons, List.length_nil]; omega)) ?_
      wtm_at "q.c"
      have lc := cutP_len9 (ps := ws.map sP) (i := some a) (j := none)
      have mc : ∀ x ∈ cutP (ws.map sP) (some a) none, TxD 3 100 x := fun x hx => hsp x (mem_cutP hx)
      rw [List.length_map] at lc
      refine go_catL rfl rfl (sz_le (by simp only [List.length_append, List.length_map, List.length_take, List.length_cons, List.length_nil]; omega)) ?_
      generalize cutP (ws.map sP) (some a) none = rest at lc mc ⊢
      rw [show (List.map sP (List.take a.toNat ws) ++ [o]) ++ rest = (ws.take a.toNat).map sP ++ o :: rest by rw [List.append_assoc]; rfl]
      wtm_at "q.c"
      refine go_ixR rfl (by omega) (by simp only [List.length_cons, List.length_nil]; omega) fun q hq => ?_
      wtm_at "q.c"
      have hq := two hq
      refine k _ _ _ (.item ho hq) (txr hq ?_ fun x hx => ?_) h3
      · simp only [List.length_append, List.length_map, List.length_take, List.length_cons]
        omega
      · rcases List.mem_append.mp hx with hx | hx
        · obtain ⟨y, hy, rfl⟩ := List.mem_map.mp hx
          exact hsp _ (List.mem_map.mpr ⟨y, List.mem_of_mem_take hy, rfl⟩)
        · rcases List.mem_cons.mp hx with rfl | hx
          · exact to
          · exact mc x hx
end
section
theorem gos_nxt {K : Ks} {r : SR} {J : Slots → Sto → Prop} (h : GoS { K with nx := J } r) (m : ∀ s O, J s O → K.nx s O) : GoS K r := by
  cases r with
  | next s O => exact m s O h
  | _ => exact h
theorem qjn {c : Prop} [Decidable c] {K : Ks} {r r' : SR} (J : Slots → Sto → Prop) (h1 : c → GoS { K with nx := J } r) (h2 : ¬ c → GoS { K with nx := J } r') (m : ∀ s O, J s O → K.nx s O) : if decide c = true then GoS K r else GoS K r' :=
  qbr (fun h => gos_nxt (h1 h) m) fun h => gos_nxt (h2 h) m
theorem qjnI {c : Prop} (i : Decidable c) {K : Ks} {r r' : SR} (J : Slots → Sto → Prop) (h1 : c → GoS { K with nx := J } r) (h2 : ¬ c → GoS { K with nx := J } r') (m : ∀ s O, J s O → K.nx s O) : if @decide c i = true then GoS K r else GoS K r' :=
  qjn J h1 h2 m
abbrev tP (w : T3) : PV := .tup [.int w.1, .int w.2.1, .int w.2.2]
def ov (d f : Int) (w : Str) : Str := if d = 3 ∨ d = 4 then (if f % 2 = 1 then "span" else "told") else w
structure Hk (w0 : T3) (d f : Int) (q : PV) (w : Str) (O : Sto) : Prop where
  dr : ∀ (X : PExc → Sto → Prop) (Q : PV → Sto → Prop), (∀ e w O1, ExK e w → Q (.str w) O1 → X e O1) → Q (.str (ov d f w)) O → GoE X (m__law_door [.int d, sP w0, q] O) fun _ O2 => Q (.str "told") O2
  tx : ∃ t : Str, t.length ≤ 10000 ∧ shO tb6 O 9 q = some t
theorem TxD.at9 {n B : Nat} {q : PV} {O : Sto} (h : TxD n B q) (hn : n ≤ 9) (hB : B ≤ 10000) : ∃ t : Str, t.length ≤ 10000 ∧ shO tb6 O 9 q = some t := by
  obtain ⟨t, h1, h2⟩ := h.up hn hB
  exact ⟨t, h1, h2 O 0⟩
theorem hk_made {w0 : T3} {d f : Int} {a b c : PV} {w : Str} {O : Sto} (hd : d = 0 ∨ d = 1) (h : Made a b c w) (ta : TxD 3 100 a) (tb : TxD 3 100 b) (tc : TxD 3 100 c) : Hk w0 d f (.lst [a, b, c]) w O := by
  refine ⟨fun X Q hX k => ?_, (tx_lst (L := 3) (n := 3) (B := 100) (fun p hp => ?_) (Nat.le_refl _)).at9 (by omega) (by omega)⟩
  · have e : ov d f w = w := by unfold ov; rw [if_neg (by omega)]
    rw [e] at k
    rcases hd with rfl | rfl
    · exact d0 rfl (made_door h hX k)
    · exact d1 rfl (made_door h hX k)
  · simp only [List.mem_cons, List.not_mem_nil, or_false] at hp
    rcases hp with rfl | rfl | rfl <;> assumption
theorem hk_2 {w0 : T3} {f i : Int} {O : Sto} (hi : -1000000 ≤ i ∧ i ≤ 1000000) : Hk w0 2 f (.lst [.int i]) "told" O := by
  refine ⟨fun X Q hX k => ?_, (tx_lst (L := 1) (n := 1) (B := 11) (fun p hp => by rw [List.mem_singleton.mp hp]; exact tx_int (by omega)) (Nat.le_refl _)).at9 (by omega) (by omega)⟩
  exact d2 (el := rfl) (goe_go (go_at e_lets k))
theorem hk_2x {w0 : T3} {f : Int} {q : PV} {O : Sto} (hq : OddM q) (tq : TxD 3 100 q) : Hk w0 2 f (.lst [q]) "measure" O := by
  refine ⟨fun X Q hX k => ?_, (tx_lst (L := 1) (n := 3) (B := 100) (fun p hp => by rw [List.mem_singleton.mp hp]; exact tq) (Nat.le_refl _)).at9 (by omega) (by omega)⟩
  exact d2 (el := rfl) (goe_at (x_lets hq) (hX _ _ _ .ms k))
theorem hk_row {w0 : T3} {f : Int} {q : PV} {w : Str} {O : Sto} {ps : List PV} (h : RowS q w) (tq : TxD 4 1000 q) (hT : O[0]? = some (some (.tbl tl_in_order))) (hl : ps.length ≤ 3) (hp : ∀ x ∈ ps, x = .bl true) : Hk w0 8 f (.lst (q :: ps)) w O := by
  refine ⟨fun X Q hX k => ?_, (tx_lst (L := 4) (n := 4) (B := 1000) (fun p hp2 => ?_) (by rw [List.length_cons]; omega)).at9 (by omega) (by omega)⟩
  · exact d8 rfl rfl fun b => row_door h hT hX k
  · rcases List.mem_cons.mp hp2 with rfl | h2
    · exact tq
    · rw [hp p h2]; exact tx_bl.up (by omega) (by omega)
theorem hk_two {w0 w1 : T3} {d f : Int} {n : Nat} {x y : PV} {O : Sto} (hd : 3 ≤ d ∧ d < 8) (h0 : Sm w0.1 w0.2.1 w0.2.2) (h1 : Sm w1.1 w1.2.1 w1.2.2) (a0 : 0 ≤ w0.2.1 + w0.2.2) (a1 : 0 ≤ w1.2.1 + w1.2.2) (sx : Sl w0 x (decide (f / 1 % 2 = 1))) (sy : Sl w1 y (decide (f / 2 % 2 = 1))) (e : O[n]? = some (some (.lst [x, y]))) : Hk w0 d f (.loc n) (dueB (decide (f / 1 % 2 = 1)) (decide (f / 2 % 2 = 1))) O := by
  have tx := sx.tx h0
  have ty := sy.tx h1
  have el : lstOf O (.loc n) = some [x, y] := lst_loc e
  refine ⟨fun X Q hX k => ?_, ?_⟩
  · have f1 : f / 1 = f := by omega
    rw [f1] at sx k
    generalize hA : decide (f % 2 = 1) = A at sx k
    generalize hB : decide (f / 2 % 2 = 1) = B at sy k
    have eA : ov d f (dueB A B) = if d = 3 ∨ d = 4 then (if A = true then ("span" : Str) else "told") else dueB A B := by
      unfold ov
      rw [← hA]
      simp
    rw [eA] at k
    have hc : d = 3 ∨ d = 4 ∨ d = 5 ∨ d = 6 ∨ d = 7 := by omega
    rcases hc with rfl | rfl | rfl | rfl | rfl
    · rw [if_pos (by omega)] at k
      cases A with
      | true => exact d3 el (goe_at (x_plus sx.1) (hX _ _ _ .sp k))
      | false =>
        rw [show x = sP w0 from sx] at el
        exact d3 el (goe_go (go_at (e_plus a0 a0) k))
    · rw [if_pos (by omega)] at k
      cases A with
      | true => exact d4 el (goe_at (x_minus sx.1) (hX _ _ _ .sp k))
      | false =>
        rw [show x = sP w0 from sx] at el
        exact d4 el (goe_go (go_at (e_minus a0 a0) k))
    · rw [if_neg (by omega)] at k
      cases A with
      | true => exact d5 el (goe_at (x_both0 sx.1) (hX _ _ _ .sp k))
      | false =>
        rw [show x = sP w0 from sx] at el
        cases B with
        | true => exact d5 el (goe_at (x_both1 sy.1) (hX _ _ _ .sp k))
        | false =>
          rw [show y = sP w1 from sy] at el
          exact d5 el (goe_go (g_both (fun _ _ _ _ _ => k) (fun _ => k) a0 a1))
    · rw [if_neg (by omega)] at k
      cases A with
      | true => exact d6 el (goe_at (x_within0 sx.1) (hX _ _ _ .sp k))
      | false =>
        rw [show x = sP w0 from sx] at el
        cases B with
        | true => exact d6 el (goe_at (x_within1 sy.1) (hX _ _ _ .sp k))
        | false =>
          rw [show y = sP w1 from sy] at el
          exact d6 el (goe_go (go_at e_within k))
    · rw [if_neg (by omega)] at k
      cases A with
      | true => exact d7 el (goe_at (x_unlike0 sx.1) (hX _ _ _ .sp k))
      | false =>
        rw [show x = sP w0 from sx] at el
        cases B with
        | true => exact d7 el (goe_at (x_unlike1 sy.1) (hX _ _ _ .sp k))
        | false =>
          rw [show y = sP w1 from sy] at el
          exact d7 el (goe_go (e_unlike fun _ => k))
  · have hm : ∀ p ∈ [x, y], TxD 3 100 p := fun p hp => by
      simp only [List.mem_cons, List.not_mem_nil, or_false] at hp
      rcases hp with rfl | rfl <;> assumption
    obtain ⟨ts, g1, g2, g3⟩ := tx_list hm
    refine ⟨listText ts, ?_, ?_⟩
    · have a1 := listText_len_le ts
      simp only [List.length_cons, List.length_nil] at g1 g2
      omega
    · show (match kids O (.loc n) with
        | some (true, ps) => (shL (shO tb6 O 8) ps).map tupleText
        | some (false, ps) => (shL (shO tb6 O 8) ps).map listText
        | none => _) = _
      rw [show kids O (.loc n) = some (false, [x, y]) from kids_lst rfl el]
      show (shL (shO tb6 O 8) [x, y]).map listText = _
      rw [g3 O 5]
      rfl
structure Pq (p : Nat) (O : Sto) : Prop where
  pu : Pu O p
  pos : 0 < p
  tb : O[0]? = some (some (.tbl tl_in_order))
theorem hk_seen {w0 : T3} {d f : Int} {q : PV} {w : Str} {O : Sto} {Q : PV → Sto → Prop} (hk : Hk w0 d f q w O) (k : Q (.str (ov d f w)) O) : Go (m__law_seen [.int d, sP w0, q] O) Q := g_seen6 fun X hX => hk.dr X Q hX k
theorem g_seen2 {w1 : T3} {b : Bool} {O : Sto} {Q : PV → Sto → Prop} (k : Q (.str "measure") O) : Go (m__law_seen [.int 2, sP w1, .lst [.bl b]] O) Q := g_seen6 fun X hX => d2 (el := rfl) (goe_at (x_lets (odd_nm (.bl b) (by cases b <;> simp)).1) (hX _ _ _ .ms k))
theorem Pq.pn {p : Nat} {O O' : Sto} (h : Pq p O) (f : Pn O p O') : Pq p O' := ⟨f.pu, h.pos, by
  obtain ⟨a, b, c, e, _⟩ := h.pu
  have := lt_of_get e
  have hp := h.pos
  rw [f.oth 0 (by omega) (by omega)]
  exact h.tb⟩
theorem Pq.ph {p : Nat} {O O' : Sto} (h : Pq p O) (f : Ph O p O') : Pq p O' := h.pn ((Pn.start h.pu).ph f)
theorem g__law_right {p : Nat} {Ob : Sto} {Q : PV → Sto → Prop} (pq : Pq p Ob) (k : ∀ O', O'[0]? = some (some (.tbl tl_in_order)) → Q (.bl true) O') : Go (m__law_right [.loc p] Ob) Q := by
  have h := Ph.start pq.pu
  wtm_at "q.def"
  refine g__law_take h (by omega) (by omega) fun d O1 d0 d1 h => ?_
  wtm_at "q.c"
  refine g__law_take h (by omega) (by omega) fun f O2 f0 f1 h => ?_
  wtm_at "q.c"
  refine g__law_parts h (by omega) (by omega) fun s u l O3 b1 b2 b3 b4 h => ?_
  wtm_at "q.c"
  refine g__law_parts h (by omega) (by omega) fun s' u' l' O4 b1' b2' b3' b4' h => ?_
  have pq4 := pq.ph h
  clear h pq
  have m0 : Sm s u l := ⟨by omega, by omega, by omega⟩
  have m1 : Sm s' u' l' := ⟨by omega, by omega, by omega⟩
  wtm_at "q.c"
  refine go_at (e_Span b2) ?_
  wtm_at "q.c"
  refine go_at (e_Span b2') ?_
  wtm_at "q.c"
  have pn4 := Pn.start pq4.pu
  have h4 := Ph.start pq4.pu
  refine qjn (fun s1 O1 => ∃ q w x9, s1 = [some (.loc p), some (.lst [tP (s, u, l), tP (s', u', l')]), some (.lst [sP (s, u, l), sP (s', u', l')]), none, some (.int d), some (.int f), some (.str w), none, none, x9, some q] ∧ Hk (s, u, l) d f q w O1 ∧ Pn O4 p O1) (fun c1 => ?_) (fun c1 => ?_) (fun s1 O1 hJ => ?_)
  · wtm_at "q.c"
    refine g__law_made h4 (by omega) b2 (by omega) (by omega) fun a b c w O5 hm ta tb tc h5 => ?_
    wtm_at "q.c"
    exact ⟨_, _, _, rfl, hk_made (by omega) hm ta tb tc, pn4.ph h5⟩
  · wtm_at "q.c"
    refine qbr (fun c2 => ?_) (fun c2 => ?_)
    · subst c2
      wtm_at "q.c"
      refine qbr (fun c3 => ?_) (fun c3 => ?_)
      · wtm_at "q.c"
        refine g__law_no_number h4 fun q O5 hq tq h5 => ?_
        wtm_at "q.c"
        exact ⟨_, _, _, rfl, hk_2x hq tq, pn4.ph h5⟩
      · wtm_at "q.c"
        exact ⟨_, _, _, rfl, hk_2 (by omega), pn4⟩
    · wtm_at "q.c"
      refine qbr (fun c3 => ?_) (fun c3 => ?_)
      · wtm_at "q.c"
        refine g__law_two (w := (s, u, l)) (v := (s', u', l')) (f := f) pq4.pu m0 m1 fun x y O5 n sx sy pn5 en hn => ?_
        wtm_at "q.c"
        exact ⟨_, _, _, rfl, hk_two (by omega) m0 m1 b2 b2' sx sy en, pn5⟩
      · obtain rfl : d = 8 := by omega
        wtm_at "q.c"
        refine g__law_row (w := (s, u, l)) (v := (s', u', l')) (f := f) h4 m0 m1 fun q t O5 hr tq h5 => ?_
        have p5 := pq4.ph h5
        wtm_at "q.c"
        have hf : f / 9 = 0 ∨ f / 9 = 1 := by omega
        obtain ⟨ps, eps, lps, mps⟩ : ∃ ps : List PV, (List.replicate (f / 9).toNat [PV.bl true]).flatten = ps ∧ ps.length ≤ 3 ∧ ∀ x ∈ ps, x = .bl true := by
          rcases hf with e | e <;> rw [e]
          · exact ⟨[], rfl, by decide, fun _ h => nomatch h⟩
          · exact ⟨[.bl true], rfl, by decide, by simp⟩
        refine go_repL rfl (by unfold szOk sizeLine; simp only [Bool.and_eq_true, decide_eq_true_eq, List.length_cons, List.length_nil]; omega) eps ?_
        wtm_at "q.c"
        refine go_catL rfl rfl (sz_le (by simp only [List.length_cons, List.length_nil]; omega)) ?_
        wtm_at "q.c"
        exact ⟨_, _, _, rfl, hk_row hr tq p5.tb lps mps, pn4.ph h5⟩
  · obtain ⟨q, w, x9, rfl, hk, pn5⟩ := hJ
    have pq5 := pq4.pn pn5
    obtain ⟨t, lt, et⟩ := hk.tx
    have esp : shO tb6 O1 9 (.lst [sP (s, u, l), sP (s', u', l')]) = some (listText [reprT s u l, reprT s' u' l']) := by
      show (shL (shO tb6 O1 8) [sP (s, u, l), sP (s', u', l')]).map listText = _
      unfold shL shL shL
      rw [show shO tb6 O1 8 (sP (s, u, l)) = some (reprT s u l) from rprI_of (e_rp30 m0), show shO tb6 O1 8 (sP (s', u', l')) = some (reprT s' u' l') from rprI_of (e_rp30 m1)]
      rfl
    have lsp : (listText [reprT s u l, reprT s' u' l']).length ≤ 1000 := by
      have a1 := listText_len_le [reprT s u l, reprT s' u' l']
      have a2 := reprT_len m0
      have a3 := reprT_len m1
      simp only [List.map_cons, List.map_nil, List.sum_cons, List.sum_nil, List.length_cons, List.length_nil] at a1
      omega
    have sz : sizeLine = 16777216 := by decide
    wtm_at "q.c"
    refine qjnI _ (fun s1 O2 => s1 = [some (.loc p), some (.lst [tP (s, u, l), tP (s', u', l')]), some (.lst [sP (s, u, l), sP (s', u', l')]), none, some (.int d), some (.int f), some (.str (ov d f w)), none, none, x9, some q] ∧ O2 = O1) (fun c1 => ?_) (fun c1 => ?_) (fun s1 O2 hJ => ?_)
    · wtm_at "q.c"
      have eo : ov d f w = if f % 2 = 1 then ("span" : Str) else "told" := by
        unfold ov
        rw [if_pos c1]
      rw [eo]
      by_cases c2 : f % 2 = 1
      · rw [if_pos c2, c2]
        refine go_ixL rfl (atI_nat (j := 1) rfl) ?_
        wtm_at "q.c"
        exact ⟨rfl, rfl⟩
      · rw [if_neg c2, show f % 2 = 0 by omega]
        refine go_ixL rfl (atI_nat (j := 0) rfl) ?_
        wtm_at "q.c"
        exact ⟨rfl, rfl⟩
    · have e2 : ov d f w = w := by
        unfold ov
        rw [if_neg c1]
      wtm_at "q.c"
      rw [e2]
      first | done | exact ⟨rfl, rfl⟩
    · obtain ⟨rfl, rfl⟩ := hJ
      wtm_at "q.c"
      refine go_reprO et (by omega) ?_
      wtm_at "q.c"
      refine go_reprO esp (by omega) ?_
      wtm_at "q.c"
      refine hk_seen hk ?_
      wtm_at "q.c"
      rw [decide_eq_true rfl]
      wtm_at "q.c"
      refine go_reprO et (by omega) ?_
      wtm_at "q.c"
      refine go_reprO esp (by omega) ?_
      wtm_at "q.c"
      rw [decide_eq_true rfl]
      wtm_at "q.c"
      refine go_loop (fun i s1 O1 => ∃ x7 x8, s1 = [some (.loc p), some (.lst [tP (s, u, l), tP (s', u', l')]), some (.lst [sP (s, u, l), sP (s', u', l')]), some (.str (t ++ listText [reprT s u l, reprT s' u' l'])), some (.int d), some (.int f), some (.str (ov d f w)), x7, x8, x9, some q] ∧ O1 = O2) _ 0 _ _ ⟨none, none, rfl, rfl⟩ (fun i v s1 O3 hi hJ => ?_) (fun s1 O3 hJ => ?_)
      · obtain ⟨x7, x8, rfl, rfl⟩ := hJ
        have hv : ∃ (n : Int) (b : Bool), v = .tup [.int n, .bl b] := by
          have := List.mem_of_getElem? hi
          simp only [List.mem_cons, List.not_mem_nil, or_false] at this
          rcases this with rfl | rfl
          · exact ⟨_, _, rfl⟩
          · exact ⟨_, _, rfl⟩
        obtain ⟨n, b, rfl⟩ := hv
        wtm_at "q.c"
        refine go_at e_lets ?_
        wtm_at "q.c"
        refine qbr (fun c1 => ?_) (fun c1 => ?_)
        · wtm_at "q.c"
          have eb : (!decide (decide (s' - l' ≤ n ∧ n ≤ s' + u') = decide (n ≤ s' + u'))) = false := by
            have e : (s' - l' ≤ n ∧ n ≤ s' + u') ↔ n ≤ s' + u' := ⟨fun h => h.2, fun h => ⟨c1, h⟩⟩
            simp [e]
          rw [eb, if_neg Bool.false_ne_true]
          wtm_at "q.c"
          refine g_seen2 ?_
          wtm_at "q.c"
          exact ⟨_, _, rfl, rfl⟩
        · rw [decide_eq_false (fun h => c1 h.1)]
          wtm_at "q.c"
          rw [show (!decide (false = false)) = false by decide, if_neg Bool.false_ne_true]
          wtm_at "q.c"
          refine g_seen2 ?_
          wtm_at "q.c"
          exact ⟨_, _, rfl, rfl⟩
      · obtain ⟨x7, x8, rfl, rfl⟩ := hJ
        wtm_at "q.g"
        refine go_at (e_Span_len (s := s) (u := u) (l := l) b2 (by omega)) ?_
        refine ⟨_, rfl, ⟨by omega, by omega⟩, ?_⟩
        wtm_at "q.g"
        rw [decide_eq_true rfl]
        exact k _ (pq5.tb)
end
section
theorem law_true {ns : List Int} (hn : ns.length ≤ 63) : Go (m_law [.rol (ns.map .int)] [some (.tbl tl_in_order)]) fun q _ => q = .bl true := by
  wtm_at "q.def"
  refine g__law_cells hn (by decide) (by decide) fun zs hz => ?_
  wtm_at "q.g"
  obtain ⟨acc, O', e1, e2, e3, _⟩ := comp_all (O := [some (.tbl tl_in_order)]) (tgt := gNm 1) (e := eCall m__law_right [] (aCons (eCall m__law_purse [] (aCons (eVar 1) aNil)) aNil)) (s0 := [some (.rol (ns.map .int)), none]) (items := zs.map .int) (fun O => O[0]? = some (some (.tbl tl_in_order))) (fun q => q = .bl true) (by rw [List.length_map]; omega) rfl fun p hp O' hT => by
    obtain ⟨z, _, rfl⟩ := List.mem_map.mp hp
    wtm_at "q.g"
    have l1 := lt_of_get hT
    refine g__law_purse fun O2 h _ fr => ?_
    wtm_at "q.g"
    exact g__law_right ⟨h, l1, (fr 0 l1).trans hT⟩ fun O3 h0 => ⟨rfl, h0⟩
  refine ⟨_, _, e1, ?_⟩
  wtm_at "q.g"
  refine go_all (ns := List.replicate acc.length true) (congrArg some (trues e3)) ?_
  rw [Gx.all_rep]
end
end Qg
namespace Qg
open PySem PySem.Spec PyProof.Rows L2 Gx Qx Hd
section
variable {K : PySem.W.Frag}
theorem bd_Span___init___4 : Gx.BdD K d_Span___init__ ["self", "size", "above", "below"] [] := fun fd F => F.binds1 4 2 (List.cons_ne_nil _ _) (by rfl) fun _ _ _ _ _ _ _ us its h1 h2 => match us, its, h1, h2 with | [_, _, _, _], [_, _], _, _ => ⟨_, rfl, rfl⟩
theorem bk_Span___init___2_above : Gx.BdK K d_Span___init__ ["self", "size", "above", "below"] 2 ["above"] (fun us ws => (fun its => us ++ (ws.drop 0).take 1 ++ (its.drop 1).take 1) ([.int (0), .int (0)] : List V)) := fun fd F => by
  have e : (d_Span___init__).dvs K = ([.int (0), .int (0)] : List V) := by rfl
  rw [← e]
  obtain ⟨its, h⟩ := F.kbindsD (ps := ["self", "size", "above", "below"]) 2 ["above"] (fun us its ws => us ++ (ws.drop 0).take 1 ++ (its.drop 1).take 1) (List.cons_ne_nil _ _) (fun r1 r2 r3 => ((r1.append ((r3.drop 0).take 1)).append ((r2.drop 1).take 1))) (fun _ _ _ _ _ _ _ us its ws h1 h2 h3 => match us, its, ws, h1, h2, h3 with | [_, _], [_, _], [_], _, _, _ => ⟨_, rfl, rfl⟩)
  exact ⟨_, h⟩
theorem bk_Span___init___2_above_below : Gx.BdK K d_Span___init__ ["self", "size", "above", "below"] 2 ["above", "below"] (fun us ws => (fun its => us ++ (ws.drop 0).take 1 ++ (ws.drop 1).take 1) ([.int (0), .int (0)] : List V)) := fun fd F => by
  have e : (d_Span___init__).dvs K = ([.int (0), .int (0)] : List V) := by rfl
  rw [← e]
  obtain ⟨its, h⟩ := F.kbindsD (ps := ["self", "size", "above", "below"]) 2 ["above", "below"] (fun us its ws => us ++ (ws.drop 0).take 1 ++ (ws.drop 1).take 1) (List.cons_ne_nil _ _) (fun r1 r2 r3 => ((r1.append ((r3.drop 0).take 1)).append ((r3.drop 1).take 1))) (fun _ _ _ _ _ _ _ us its ws h1 h2 h3 => match us, its, ws, h1, h2, h3 with | [_, _], [_, _], [_, _], _, _, _ => ⟨_, rfl, rfl⟩)
  exact ⟨_, h⟩
theorem bk_Span___init___2_below_above : Gx.BdK K d_Span___init__ ["self", "size", "above", "below"] 2 ["below", "above"] (fun us ws => (fun its => us ++ (ws.drop 1).take 1 ++ (ws.drop 0).take 1) ([.int (0), .int (0)] : List V)) := fun fd F => by
  have e : (d_Span___init__).dvs K = ([.int (0), .int (0)] : List V) := by rfl
  rw [← e]
  obtain ⟨its, h⟩ := F.kbindsD (ps := ["self", "size", "above", "below"]) 2 ["below", "above"] (fun us its ws => us ++ (ws.drop 1).take 1 ++ (ws.drop 0).take 1) (List.cons_ne_nil _ _) (fun r1 r2 r3 => ((r1.append ((r3.drop 1).take 1)).append ((r3.drop 0).take 1))) (fun _ _ _ _ _ _ _ us its ws h1 h2 h3 => match us, its, ws, h1, h2, h3 with | [_, _], [_, _], [_, _], _, _, _ => ⟨_, rfl, rfl⟩)
  exact ⟨_, h⟩
theorem bk_Span_minus_1_other : Gx.BdK K d_Span_minus ["self", "other"] 1 ["other"] (fun us ws => us ++ (ws.drop 0).take 1) := fun fd F => ⟨_, Gx.kbN F 1 ["other"] (fun us ws => us ++ (ws.drop 0).take 1) (fun r1 r3 => (r1.append ((r3.drop 0).take 1))) fun _ _ _ _ _ _ us ws h1 h2 => match us, ws, h1, h2 with | [_], [_], _, _ => rfl⟩
theorem bk_in_order_1_falling : Gx.BdK K d_in_order ["spans", "key", "falling"] 1 ["falling"] (fun us ws => (fun its => us ++ (its.drop 0).take 1 ++ (ws.drop 0).take 1) ([.non, .bl false] : List V)) := fun fd F => by
  have e : (d_in_order).dvs K = ([.non, .bl false] : List V) := by rfl
  rw [← e]
  obtain ⟨its, h⟩ := F.kbindsD (ps := ["spans", "key", "falling"]) 1 ["falling"] (fun us its ws => us ++ (its.drop 0).take 1 ++ (ws.drop 0).take 1) (List.cons_ne_nil _ _) (fun r1 r2 r3 => ((r1.append ((r2.drop 0).take 1)).append ((r3.drop 0).take 1))) (fun _ _ _ _ _ _ _ us its ws h1 h2 h3 => match us, its, ws, h1, h2, h3 with | [_], [_, _], [_], _, _, _ => ⟨_, rfl, rfl⟩)
  exact ⟨_, h⟩
theorem bk_in_order_1_key_falling : Gx.BdK K d_in_order ["spans", "key", "falling"] 1 ["key", "falling"] (fun us ws => (fun its => us ++ (ws.drop 0).take 1 ++ (ws.drop 1).take 1) ([.non, .bl false] : List V)) := fun fd F => by
  have e : (d_in_order).dvs K = ([.non, .bl false] : List V) := by rfl
  rw [← e]
  obtain ⟨its, h⟩ := F.kbindsD (ps := ["spans", "key", "falling"]) 1 ["key", "falling"] (fun us its ws => us ++ (ws.drop 0).take 1 ++ (ws.drop 1).take 1) (List.cons_ne_nil _ _) (fun r1 r2 r3 => ((r1.append ((r3.drop 0).take 1)).append ((r3.drop 1).take 1))) (fun _ _ _ _ _ _ _ us its ws h1 h2 h3 => match us, its, ws, h1, h2, h3 with | [_], [_, _], [_, _], _, _, _ => ⟨_, rfl, rfl⟩)
  exact ⟨_, h⟩
theorem bk_within_0_other_one : Gx.BdK K d_within ["one", "other"] 0 ["other", "one"] (fun us ws => us ++ (ws.drop 1).take 1 ++ (ws.drop 0).take 1) := fun fd F => ⟨_, Gx.kbN F 0 ["other", "one"] (fun us ws => us ++ (ws.drop 1).take 1 ++ (ws.drop 0).take 1) (fun r1 r3 => ((r1.append ((r3.drop 1).take 1)).append ((r3.drop 0).take 1))) fun _ _ _ _ _ _ us ws h1 h2 => match us, ws, h1, h2 with | [], [_, _], _, _ => rfl⟩
end
section
variable {P : Program} {w : World} {K : PySem.W.Frag} {mg : Str → Option Value} {base : Heap} [TB : TbC K mg base [tl_in_order]]
theorem sc__law_cell : FnScope ["_law_script", "_law_k"] ["_law_script", "_law_k"] (defScope s__law_cell) := ⟨rfl, rfl, rfl, by decide +kernel, rfl, by decide +kernel, by decide +kernel⟩
theorem ok__law_cell (T : Tx w K mg) : DOk P w K mg base d__law_cell CX0 1 ["_law_script", "_law_k"] (spM K false m__law_cell) := by
  obtain ⟨fd, F⟩ := T.df__law_cell
  exact ⟨fd, F, F.ok sc__law_cell (fun vs H Q E h => spM_len h) (fun cdv A outer s H vs Q E hr h => ⟨_, PSs.nox (pss_cons (ps_if (pt_cmpR op_lt (pv 1) (pe_callB (call_len_seq) (by rfl) T.f_len (by decide +kernel) (pa_cons (pv 0) pa_nil)) (nomark _)) (pss_one (ps_ret (pe_ix ix_list (pv 0) (pv 1) (fun _ _ => rfl)))) pss_nil)
      (pss_one (ps_ret (pe_op op_add (pe_op op_add (pe_op op_mul (pe_callB (x_sum (K := K) rfl rfl) (by rfl) T.f_sum (by decide +kernel) (pa_cons (pe_slice sl_list (pv 0) po_none (po_some pe_int)) pa_nil)) pe_int) (pe_op op_mul pe_int (pe_op op_add (pv 1) pe_int))) pe_int)))), spM_run (n := 2) (N := ["_law_script", "_law_k"]) (sim_seq (sim_ifS (sim_test (sim_op os_lt sim_var (sim_cb cb_len (sim_cons sim_var sim_nil)))) (sim_ret (sim_op os_ixL sim_var sim_var)) sim_next)
      (sim_ret (sim_op os_add (sim_op os_add (sim_op os_mul (sim_cb cb_sum (sim_cons (sim_sl ss_L sim_var sim_noP (sim_part sim_int)) sim_nil)) sim_int) (sim_op os_mul sim_int (sim_op os_add sim_var sim_int))) sim_int))) h⟩)⟩
theorem sc__law_cells : FnScope ["_law_script", "_law_few", "_law_upto", "_law_k"] ["_law_script", "_law_few", "_law_upto"] (defScope s__law_cells) := ⟨rfl, rfl, rfl, by decide +kernel, rfl, by decide +kernel, by decide +kernel⟩
theorem ok__law_cells (T : Tx w K mg) : DOk P w K mg base d__law_cells CX0 2 ["_law_script", "_law_few", "_law_upto"] (spM K false m__law_cells) := by
  have o__law_cell := ok__law_cell (P := P) (w := w) (base := base) T
  obtain ⟨fd, F⟩ := T.df__law_cells
  exact ⟨fd, F, F.ok sc__law_cells (fun vs H Q E h => spM_len h) (fun cdv A outer s H vs Q E hr h => ⟨_, PSs.nox (pss_one (ps_ret (pe_lc (own := [("_law_k", 3)]) (g := gName 3) (tt := tYes) rfl sc__law_cells.nd (pi_range1 (by rfl) T.f_range (pa_cons (pe_callB (c_max rfl) (by rfl) T.f_max (by decide +kernel) (pa_cons (pv 1) (pa_cons (pe_callB (c_min rfl) (by rfl) T.f_min (by decide +kernel) (pa_cons (pv 2) (pa_cons (pe_callB (call_len_seq) (by rfl) T.f_len (by decide +kernel) (pa_cons (pv 0) pa_nil)) pa_nil))) pa_nil))) pa_nil)) (blkOk_by (N := ["_law_script", "_law_few", "_law_upto", "_law_k"]) (sc := defScope s__law_cells) (own := [("_law_k", 3)]) (by decide +kernel)) (fun _ _ _ _ _ => (pg_name (i := 3) sc__law_cells.nd rfl (Or.inl rfl))) (fun _ _ _ _ _ => pts_nil) (fun _ _ _ _ _ => (pc o__law_cell T.g__law_cell b__law_cell hr (by decide) (pa_cons (pv 0) (pa_cons (pv 3) pa_nil))))))), spM_run (n := 3) (N := ["_law_script", "_law_few", "_law_upto", "_law_k"]) (sim_ret (sim_lc (gw_nm (by decide)) mg_nm (sim_iR1 (sim_cons (sim_cb cb_max2 (sim_cons sim_var (sim_cons (sim_cb cb_min2 (sim_cons sim_var (sim_cons (sim_cb cb_len (sim_cons sim_var sim_nil)) sim_nil))) sim_nil))) sim_nil)) g0_nm sim_yesP (sim_call (sim_cons sim_var (sim_cons sim_var sim_nil)) (fun _ _ => RepL.nilR)))) h⟩)⟩
theorem sc__law_purse : FnScope ["_law_cell_here", "_law_digits"] ["_law_cell_here"] (defScope s__law_purse) := ⟨rfl, rfl, rfl, by decide +kernel, rfl, by decide +kernel, by decide +kernel⟩
theorem ok__law_purse (T : Tx w K mg) : DOk P w K mg base d__law_purse CX0 1 ["_law_cell_here"] (spM K false m__law_purse) := by
  obtain ⟨fd, F⟩ := T.df__law_purse
  exact ⟨fd, F, F.ok sc__law_purse (fun vs H Q E h => spM_len h) (fun cdv A outer s H vs Q E hr h => ⟨_, PSs.nox (pss_cons (ps_set (i := 1) sc__law_purse.nd rfl (Or.inl rfl) pe_int)
      (pss_cons (ps_if (PW.pt (pw_or (pt_cmpR op_lt (pv 0) pe_int (nomark _)) (pw_or1 (pt_cmpR op_ge (pv 0) (pe_op op_pow pe_int pe_int) (nomark _))))) (pss_one (ps_set (i := 1) sc__law_purse.nd rfl (Or.inl rfl) (pe_callB (call_abs) (by rfl) T.f_abs (by decide +kernel) (pa_cons (pv 0) pa_nil)))) pss_nil)
      (pss_one (ps_ret (pe_lst (pa_cons (pe_op op_mod (pv 0) pe_int) (pa_cons (pv 1) (pa_cons pe_int pa_nil)))))))), spM_run (n := 1) (N := ["_law_cell_here", "_law_digits"]) (sim_seq (sim_asg sim_int sim_nm)
      (sim_seq (sim_ifS (sim_or (sim_test (sim_op os_lt sim_var sim_int)) (sim_test (sim_op os_ge sim_var (sim_op os_pow sim_int sim_int)))) (sim_asg (sim_cb cb_abs (sim_cons sim_var sim_nil)) sim_nm) sim_next)
      (sim_ret (sim_lstO (sim_cons (sim_op os_mod sim_var sim_int) (sim_cons sim_var (sim_cons sim_int sim_nil))))))) h⟩)⟩
theorem sc__law_take : FnScope ["_law_purse_here", "_law_many", "_law_old", "_law_taken"] ["_law_purse_here", "_law_many"] (defScope s__law_take) := ⟨rfl, rfl, rfl, by decide +kernel, rfl, by decide +kernel, by decide +kernel⟩
theorem ok__law_take (T : Tx w K mg) : DOk P w K mg base d__law_take CX0 1 ["_law_purse_here", "_law_many"] (spM K false m__law_take) := by
  obtain ⟨fd, F⟩ := T.df__law_take
  exact ⟨fd, F, F.ok sc__law_take (fun vs H Q E h => spM_len h) (fun cdv A outer s H vs Q E hr h => ⟨_, PSs.nox (pss_cons (ps_asg (pe_op op_add (pe_ix ix_list (pv 0) pe_int (fun _ _ => rfl)) pe_int) (pg_sub (pv 0) pe_int set_list))
      (pss_cons (ps_set (i := 2) sc__law_take.nd rfl (Or.inl rfl) (pe_ix ix_list (pv 0) pe_int (fun _ _ => rfl)))
      (pss_cons (ps_asg (pe_op op_mod (pe_op op_add (pe_op op_add (pe_op op_mul (pv 2) (pe_op op_add (pe_op op_mod (pv 2) pe_int) pe_int)) (pe_op op_mul pe_int (pe_ix ix_list (pv 0) pe_int (fun _ _ => rfl)))) pe_int) pe_int) (pg_sub (pv 0) pe_int set_list))
      (pss_cons (ps_if (pt_cmpR op_gt (pe_ix ix_list (pv 0) pe_int (fun _ _ => rfl)) pe_int (nomark _)) (pss_cons (ps_set (i := 3) sc__law_take.nd rfl (Or.inl rfl) (pe_op op_mod (pe_ix ix_list (pv 0) pe_int (fun _ _ => rfl)) (pv 1)))
      (pss_cons (ps_asg (pe_op op_fdiv (pe_ix ix_list (pv 0) pe_int (fun _ _ => rfl)) (pv 1)) (pg_sub (pv 0) pe_int set_list))
      (pss_one (ps_ret (pv 3))))) pss_nil)
      (pss_one (ps_ret (pe_op op_mod (pe_op op_fdiv (pe_ix ix_list (pv 0) pe_int (fun _ _ => rfl)) pe_int) (pv 1)))))))), spM_run (n := 2) (N := ["_law_purse_here", "_law_many", "_law_old", "_law_taken"]) (sim_seq (sim_asg (sim_op os_add (sim_op os_ixL sim_var sim_int) sim_int) (sim_gSubL sim_var sim_int))
      (sim_seq (sim_asg (sim_op os_ixL sim_var sim_int) sim_nm)
      (sim_seq (sim_asg (sim_op os_mod (sim_op os_add (sim_op os_add (sim_op os_mul sim_var (sim_op os_add (sim_op os_mod sim_var sim_int) sim_int)) (sim_op os_mul sim_int (sim_op os_ixL sim_var sim_int))) sim_int) sim_int) (sim_gSubL sim_var sim_int))
      (sim_seq (sim_ifS (sim_test (sim_op os_gt (sim_op os_ixL sim_var sim_int) sim_int)) (sim_seq (sim_asg (sim_op os_mod (sim_op os_ixL sim_var sim_int) sim_var) sim_nm)
      (sim_seq (sim_asg (sim_op os_fdiv (sim_op os_ixL sim_var sim_int) sim_var) (sim_gSubL sim_var sim_int))
      (sim_ret sim_var))) sim_next)
      (sim_ret (sim_op os_mod (sim_op os_fdiv (sim_op os_ixL sim_var sim_int) sim_int) sim_var)))))) h⟩)⟩
theorem sc__law_measure : FnScope ["_law_purse_here", "_law_wide"] ["_law_purse_here"] (defScope s__law_measure) := ⟨rfl, rfl, rfl, by decide +kernel, rfl, by decide +kernel, by decide +kernel⟩
theorem ok__law_measure (T : Tx w K mg) : DOk P w K mg base d__law_measure CX0 2 ["_law_purse_here"] (spM K false m__law_measure) := by
  have o__law_take := ok__law_take (P := P) (w := w) (base := base) T
  obtain ⟨fd, F⟩ := T.df__law_measure
  exact ⟨fd, F, F.ok sc__law_measure (fun vs H Q E h => spM_len h) (fun cdv A outer s H vs Q E hr h => ⟨_, PSs.nox (pss_cons (ps_set (i := 1) sc__law_measure.nd rfl (Or.inl rfl) (pe_ix ix_list (pe_lst (pa_cons pe_int (pa_cons pe_int (pa_cons pe_int (pa_cons pe_int pa_nil))))) (pc o__law_take T.g__law_take b__law_take hr (by decide) (pa_cons (pv 0) (pa_cons pe_int pa_nil))) (fun _ _ => rfl)))
      (pss_one (ps_ret (pe_op op_sub (pc o__law_take T.g__law_take b__law_take hr (by decide) (pa_cons (pv 0) (pa_cons (pe_op op_add (pe_op op_mul pe_int (pv 1)) pe_int) pa_nil))) (pv 1))))), spM_run (n := 1) (N := ["_law_purse_here", "_law_wide"]) (sim_seq (sim_asg (sim_op os_ixL (sim_lst (sim_cons sim_int (sim_cons sim_int (sim_cons sim_int (sim_cons sim_int sim_nil))))) (sim_call (sim_cons sim_var (sim_cons sim_int sim_nil)) (fun _ _ => RepL.nilR))) sim_nm)
      (sim_ret (sim_op os_sub (sim_call (sim_cons sim_var (sim_cons (sim_op os_add (sim_op os_mul sim_int sim_var) sim_int) sim_nil)) (fun _ _ => RepL.nilR)) sim_var))) h⟩)⟩
theorem sc__law_allowed : FnScope ["_law_purse_here", "_law_wide", "_law_spread", "_law_pick", "_law_more"] ["_law_purse_here", "_law_wide"] (defScope s__law_allowed) := ⟨rfl, rfl, rfl, by decide +kernel, rfl, by decide +kernel, by decide +kernel⟩
theorem ok__law_allowed (T : Tx w K mg) : DOk P w K mg base d__law_allowed CX0 2 ["_law_purse_here", "_law_wide"] (spM K false m__law_allowed) := by
  have o__law_take := ok__law_take (P := P) (w := w) (base := base) T
  obtain ⟨fd, F⟩ := T.df__law_allowed
  exact ⟨fd, F, F.ok sc__law_allowed (fun vs H Q E h => spM_len h) (fun cdv A outer s H vs Q E hr h => ⟨_, PSs.nox (pss_cons (ps_set (i := 2) sc__law_allowed.nd rfl (Or.inl rfl) (pc o__law_take T.g__law_take b__law_take hr (by decide) (pa_cons (pv 0) (pa_cons (pe_ix ix_list (pe_lst (pa_cons pe_int (pa_cons pe_int (pa_cons (pe_op op_add (pv 1) pe_int) pa_nil)))) (pc o__law_take T.g__law_take b__law_take hr (by decide) (pa_cons (pv 0) (pa_cons pe_int pa_nil))) (fun _ _ => rfl)) pa_nil))))
      (pss_cons (ps_set (i := 3) sc__law_allowed.nd rfl (Or.inl rfl) (pc o__law_take T.g__law_take b__law_take hr (by decide) (pa_cons (pv 0) (pa_cons pe_int pa_nil))))
      (pss_cons (ps_set (i := 4) sc__law_allowed.nd rfl (Or.inl rfl) (pe_ix ix_list (pe_lst (pa_cons (pv 2) (pa_cons pe_int (pa_cons (pc o__law_take T.g__law_take b__law_take hr (by decide) (pa_cons (pv 0) (pa_cons (pe_op op_add (pv 2) pe_int) pa_nil))) (pa_cons (pe_op op_sub pe_int (pc o__law_take T.g__law_take b__law_take hr (by decide) (pa_cons (pv 0) (pa_cons pe_int pa_nil)))) (pa_cons (pe_op op_add (pv 2) (pc o__law_take T.g__law_take b__law_take hr (by decide) (pa_cons (pv 0) (pa_cons pe_int pa_nil)))) pa_nil)))))) (pv 3) (fun _ _ => rfl)))
      (pss_one (ps_ret (pe_tup (pa_cons (pv 4) (pa_cons (pe_op op_sub (pv 2) (pv 4)) pa_nil)))))))), spM_run (n := 2) (N := ["_law_purse_here", "_law_wide", "_law_spread", "_law_pick", "_law_more"]) (sim_seq (sim_asg (sim_call (sim_cons sim_var (sim_cons (sim_op os_ixL (sim_lst (sim_cons sim_int (sim_cons sim_int (sim_cons (sim_op os_add sim_var sim_int) sim_nil)))) (sim_call (sim_cons sim_var (sim_cons sim_int sim_nil)) (fun _ _ => RepL.nilR))) sim_nil)) (fun _ _ => RepL.nilR)) sim_nm)
      (sim_seq (sim_asg (sim_call (sim_cons sim_var (sim_cons sim_int sim_nil)) (fun _ _ => RepL.nilR)) sim_nm)
      (sim_seq (sim_asg (sim_op os_ixL (sim_lst (sim_cons sim_var (sim_cons sim_int (sim_cons (sim_call (sim_cons sim_var (sim_cons (sim_op os_add sim_var sim_int) sim_nil)) (fun _ _ => RepL.nilR)) (sim_cons (sim_op os_sub sim_int (sim_call (sim_cons sim_var (sim_cons sim_int sim_nil)) (fun _ _ => RepL.nilR))) (sim_cons (sim_op os_add sim_var (sim_call (sim_cons sim_var (sim_cons sim_int sim_nil)) (fun _ _ => RepL.nilR))) sim_nil)))))) sim_var) sim_nm)
      (sim_ret (sim_tup (sim_cons sim_var (sim_cons (sim_op os_sub sim_var sim_var) sim_nil))))))) h⟩)⟩
theorem sc__law_parts : FnScope ["_law_purse_here", "_law_wide"] ["_law_purse_here", "_law_wide"] (defScope s__law_parts) := ⟨rfl, rfl, rfl, by decide +kernel, rfl, by decide +kernel, by decide +kernel⟩
theorem ok__law_parts (T : Tx w K mg) : DOk P w K mg base d__law_parts CX0 3 ["_law_purse_here", "_law_wide"] (spM K false m__law_parts) := by
  have o__law_measure := ok__law_measure (P := P) (w := w) (base := base) T
  have o__law_allowed := ok__law_allowed (P := P) (w := w) (base := base) T
  obtain ⟨fd, F⟩ := T.df__law_parts
  exact ⟨fd, F, F.ok sc__law_parts (fun vs H Q E h => spM_len h) (fun cdv A outer s H vs Q E hr h => ⟨_, PSs.nox (pss_one (ps_ret (pe_op op_catA (pe_tup (pa_cons (pc o__law_measure T.g__law_measure b__law_measure hr (by decide) (pa_cons (pv 0) pa_nil)) pa_nil)) (pc o__law_allowed T.g__law_allowed b__law_allowed hr (by decide) (pa_cons (pv 0) (pa_cons (pv 1) pa_nil)))))), spM_run (n := 2) (N := ["_law_purse_here", "_law_wide"]) (sim_ret (sim_op os_catA (sim_tup (sim_cons (sim_call (sim_cons sim_var sim_nil) (fun _ _ => RepL.nilR)) sim_nil)) (sim_call (sim_cons sim_var (sim_cons sim_var sim_nil)) (fun _ _ => RepL.nilR)))) h⟩)⟩
theorem sc_is_measure : FnScope ["thing"] ["thing"] (defScope s_is_measure) := ⟨rfl, rfl, rfl, by decide +kernel, rfl, by decide +kernel, by decide +kernel⟩
theorem ok_is_measure (T : Tx w K mg) : DOk P w K mg base d_is_measure CX0 1 ["thing"] (spM K false m_is_measure) := by
  obtain ⟨fd, F⟩ := T.df_is_measure
  exact ⟨fd, F, F.ok sc_is_measure (fun vs H Q E h => spM_len h) (fun cdv A outer s H vs Q E hr h => ⟨_, PSs.nox (pss_one (ps_ret (pe_and (pe_callB (x_isi (K := K) rfl) (by rfl) T.f_isinstance (by decide +kernel) (pa_cons (pv 0) (pa_cons (pe_bltn (v := .ty "int") (u := .type "int") (by rfl) T.f_int (by decide +kernel) rfl) pa_nil))) (pe_one (pe_not (pe_callB (x_isi (K := K) rfl) (by rfl) T.f_isinstance (by decide +kernel) (pa_cons (pv 0) (pa_cons (pe_bltn (v := .ty "bool") (u := .type "bool") (by rfl) T.f_bool (by decide +kernel) rfl) pa_nil)))))))), spM_run (n := 1) (N := ["thing"]) (sim_ret (sim_andV (sim_cb (cb_isi T.clsK) (sim_cons sim_var (sim_cons sim_ty sim_nil))) (sim_notV (sim_cb (cb_isi T.clsK) (sim_cons sim_var (sim_cons sim_ty sim_nil)))))) h⟩)⟩
theorem sc_check_measure : FnScope ["thing"] ["thing"] (defScope s_check_measure) := ⟨rfl, rfl, rfl, by decide +kernel, rfl, by decide +kernel, by decide +kernel⟩
theorem ok_check_measure (T : Tx w K mg) : DOk P w K mg base d_check_measure (L2.CX P w) 2 ["thing"] (spM K true m_check_measure) := by
  have o_is_measure := ok_is_measure (P := P) (w := w) (base := base) T
  obtain ⟨fd, F⟩ := T.df_check_measure
  exact ⟨fd, F, F.ok sc_check_measure (fun vs H Q E h => spM_len h) (fun cdv A outer s H vs Q E hr h => ⟨_, (pss_one (ps_if (pt_not (pt_val (pc o_is_measure T.g_is_measure b_is_measure hr (by decide) (pa_cons (pv 0) pa_nil)))) (pss_one (ps_raise rfl (takes_of rfl rfl rfl rfl) (pmk_own PySem.F.excBase_ValueError T.xq_NoMeasure T.g_NoMeasure T.xc_NoMeasure.kp T.xc_NoMeasure.raises rfl))) pss_nil)), spM_runX (E := E) (n := 1) (N := ["thing"]) (sim_ifS (sim_not (sim_B (sim_callN (sim_cons sim_var sim_nil) (fun _ _ => RepL.nilR)))) sim_raiseP sim_next) h⟩)⟩
theorem sc_check_allowance : FnScope ["above", "below"] ["above", "below"] (defScope s_check_allowance) := ⟨rfl, rfl, rfl, by decide +kernel, rfl, by decide +kernel, by decide +kernel⟩
theorem ok_check_allowance (T : Tx w K mg) : DOk P w K mg base d_check_allowance (L2.CX P w) 2 ["above", "below"] (spM K true m_check_allowance) := by
  have o_is_measure := ok_is_measure (P := P) (w := w) (base := base) T
  obtain ⟨fd, F⟩ := T.df_check_allowance
  exact ⟨fd, F, F.ok sc_check_allowance (fun vs H Q E h => spM_len h) (fun cdv A outer s H vs Q E hr h => ⟨_, (pss_one (ps_if (PW.pt (pw_or (pt_not (pt_val (pc o_is_measure T.g_is_measure b_is_measure hr (by decide) (pa_cons (pv 0) pa_nil)))) (pw_or (pt_not (pt_val (pc o_is_measure T.g_is_measure b_is_measure hr (by decide) (pa_cons (pv 1) pa_nil)))) (pw_or1 (pt_cmpR op_lt (pe_op op_add (pv 0) (pv 1)) pe_int (nomark _)))))) (pss_one (ps_raise rfl (takes_of rfl rfl rfl rfl) (pmk_own PySem.F.excBase_ValueError T.xq_NoAllowance T.g_NoAllowance T.xc_NoAllowance.kp T.xc_NoAllowance.raises rfl))) pss_nil)), spM_runX (E := E) (n := 2) (N := ["above", "below"]) (sim_ifS (sim_or (sim_not (sim_B (sim_callN (sim_cons sim_var sim_nil) (fun _ _ => RepL.nilR)))) (sim_or (sim_not (sim_B (sim_callN (sim_cons sim_var sim_nil) (fun _ _ => RepL.nilR)))) (sim_test (sim_op os_lt (sim_op os_add sim_var sim_var) sim_int)))) sim_raiseP sim_next) h⟩)⟩
theorem sc_Span___init__ : FnScope ["self", "size", "above", "below"] ["self", "size", "above", "below"] (defScope s_Span___init__) := ⟨rfl, rfl, rfl, by decide +kernel, rfl, by decide +kernel, by decide +kernel⟩
theorem ok_Span___init__ (T : Tx w K mg) : DOk P w K mg base d_Span___init__ (L2.CX P w) 3 ["self", "size", "above", "below"] (spIX K "Span" m_Span___init__) := by
  have o_check_measure := ok_check_measure (P := P) (w := w) (base := base) T
  have o_check_allowance := ok_check_allowance (P := P) (w := w) (base := base) T
  obtain ⟨fd, F⟩ := T.df_Span___init__
  exact ⟨fd, F, F.ok sc_Span___init__ (fun vs H Q E h => spIX_len h) (fun cdv A outer s H vs Q E hr h => ⟨_, (pss_cons (ps_expr (pcS o_check_measure (fun _ => passAt (takes_of rfl rfl rfl rfl) _) T.g_check_measure b_check_measure hr (by decide) (pa_cons (pv 1) pa_nil)))
      (pss_cons (ps_expr (pcS o_check_allowance (fun _ => passAt (takes_of rfl rfl rfl rfl) _) T.g_check_allowance b_check_allowance hr (by decide) (pa_cons (pv 2) (pa_cons (pv 3) pa_nil))))
      (pss_cons (ps_fld (pv 0) (pv 1) rfl)
      (pss_cons (ps_fld (pv 0) (pv 2) rfl)
      (pss_cons (ps_fld (pv 0) (pv 3) rfl)
      (pss_cons (ps_fld (pv 0) (pe_op op_sub (pv 1) (pv 3)) rfl)
      (pss_one (ps_fld (pv 0) (pe_op op_add (pv 1) (pv 2)) rfl)))))))), spIX_run (E := E) (n := 3) (N := ["self", "size", "above", "below"]) (sbx_seq (sbx_exp (sim_callS (sim_cons sim_var sim_nil) (fun _ _ => RepL.nilR)))
      (sbx_seq (sbx_exp (sim_callS (sim_cons sim_var (sim_cons sim_var sim_nil)) (fun _ _ => RepL.nilR)))
      (sbx_seq (sbx_fld T.cls_Span T.no_Span_size sim_var)
      (sbx_seq (sbx_fld T.cls_Span T.no_Span_above sim_var)
      (sbx_seq (sbx_fld T.cls_Span T.no_Span_below sim_var)
      (sbx_seq (sbx_fld T.cls_Span T.no_Span_low (sim_op os_sub sim_var sim_var))
      (sbx_fld T.cls_Span T.no_Span_high (sim_op os_add sim_var sim_var)))))))) h⟩)⟩
theorem sc__law_no_number : FnScope ["_law_purse_here", "_law_odd"] ["_law_purse_here"] (defScope s__law_no_number) := ⟨rfl, rfl, rfl, by decide +kernel, rfl, by decide +kernel, by decide +kernel⟩
theorem ok__law_no_number (T : Tx w K mg) : DOk P w K mg base d__law_no_number CX0 2 ["_law_purse_here"] (spM K false m__law_no_number) := by
  have o__law_take := ok__law_take (P := P) (w := w) (base := base) T
  obtain ⟨fd, F⟩ := T.df__law_no_number
  exact ⟨fd, F, F.ok sc__law_no_number (fun vs H Q E h => spM_len h) (fun cdv A outer s H vs Q E hr h => ⟨_, PSs.nox (pss_cons (ps_set (i := 1) sc__law_no_number.nd rfl (Or.inl rfl) (pe_lst (pa_cons pe_non (pa_cons pe_bl (pa_cons pe_bl (pa_cons pe_str (pa_cons pe_str (pa_cons (pe_lst pa_nil) (pa_cons (pe_lst (pa_cons pe_int pa_nil)) (pa_cons (pe_tup (pa_cons pe_int pa_nil)) (pa_cons pe_dnewK (pa_cons (pe_tup (pa_cons (pe_lst (pa_cons pe_int pa_nil)) pa_nil)) (pa_cons (pe_disp (pps_cons pe_str pe_int pps_nil) rfl rfl (fun h => nomatch h) (by decide)) pa_nil)))))))))))))
      (pss_one (ps_ret (pe_ix ix_list (pv 1) (pc o__law_take T.g__law_take b__law_take hr (by decide) (pa_cons (pv 0) (pa_cons pe_int pa_nil))) (fun _ _ => rfl))))), spM_run (n := 1) (N := ["_law_purse_here", "_law_odd"]) (sim_seq (sim_asg (sim_lst (sim_cons sim_non (sim_cons sim_bl (sim_cons sim_bl (sim_cons sim_str (sim_cons sim_str (sim_cons (sim_lst sim_nil) (sim_cons (sim_lst (sim_cons sim_int sim_nil)) (sim_cons (sim_tup (sim_cons sim_int sim_nil)) (sim_cons sim_dic0 (sim_cons (sim_tup (sim_cons (sim_lst (sim_cons sim_int sim_nil)) sim_nil)) (sim_cons (sim_disp (SimPs.cons sim_str sim_int SimPs.nil)) sim_nil)))))))))))) sim_nm)
      (sim_ret (sim_op os_ixL sim_var (sim_call (sim_cons sim_var (sim_cons sim_int sim_nil)) (fun _ _ => RepL.nilR))))) h⟩)⟩
theorem sc__law_made : FnScope ["_law_purse_here", "_law_parts_here", "_law_bits", "_law_due", "_law_first", "_law_over", "_law_under"] ["_law_purse_here", "_law_parts_here", "_law_bits"] (defScope s__law_made) := ⟨rfl, rfl, rfl, by decide +kernel, rfl, by decide +kernel, by decide +kernel⟩
theorem ok__law_made (T : Tx w K mg) : DOk P w K mg base d__law_made CX0 3 ["_law_purse_here", "_law_parts_here", "_law_bits"] (spM K false m__law_made) := by
  have o__law_no_number := ok__law_no_number (P := P) (w := w) (base := base) T
  have o__law_take := ok__law_take (P := P) (w := w) (base := base) T
  obtain ⟨fd, F⟩ := T.df__law_made
  exact ⟨fd, F, F.ok sc__law_made (fun vs H Q E h => spM_len h) (fun cdv A outer s H vs Q E hr h => ⟨_, PSs.nox (pss_cons (ps_asg (pv 1) (pg_tup rfl (pgs_cons (pg_name (i := 4) sc__law_made.nd rfl (Or.inl rfl)) (pgs_cons (pg_name (i := 5) sc__law_made.nd rfl (Or.inl rfl)) (pgs_cons (pg_name (i := 6) sc__law_made.nd rfl (Or.inl rfl)) pgs_nil)))))
      (pss_cons (ps_set (i := 3) sc__law_made.nd rfl (Or.inl rfl) pe_str)
      (pss_cons (ps_if (pt_cmpR op_eq (pe_op op_mod (pe_op op_fdiv (pv 2) pe_int) pe_int) pe_int (nomark _)) (pss_one (ps_par (i := 6) (j := 3) (by rfl) sc__law_made.nd rfl rfl (by decide) rfl rfl (pa_cons (pc o__law_no_number T.g__law_no_number b__law_no_number hr (by decide) (pa_cons (pv 0) pa_nil)) (pa_cons pe_str pa_nil)) (by rfl))) pss_nil)
      (pss_cons (ps_if (pt_cmpR op_eq (pe_op op_mod (pe_op op_fdiv (pv 2) pe_int) pe_int) pe_int (nomark _)) (pss_one (ps_par (i := 5) (j := 3) (by rfl) sc__law_made.nd rfl rfl (by decide) rfl rfl (pa_cons (pc o__law_no_number T.g__law_no_number b__law_no_number hr (by decide) (pa_cons (pv 0) pa_nil)) (pa_cons pe_str pa_nil)) (by rfl))) pss_nil)
      (pss_cons (ps_if (PW.pt (pw_and (pt_cmpR op_eq (pe_op op_mod (pv 2) pe_int) pe_int (nomark _)) (pw_and1 (pt_cmpR op_eq (pv 3) pe_str (nomark _))))) (pss_one (ps_par (i := 5) (j := 3) (by rfl) sc__law_made.nd rfl rfl (by decide) rfl rfl (pa_cons (pe_op op_sub (pe_op op_sub (pe_op op_sub pe_int (pv 6)) pe_int) (pc o__law_take T.g__law_take b__law_take hr (by decide) (pa_cons (pv 0) (pa_cons pe_int pa_nil)))) (pa_cons pe_str pa_nil)) (by rfl))) pss_nil)
      (pss_cons (ps_if (pt_cmpR op_eq (pe_op op_mod (pv 2) pe_int) pe_int (nomark _)) (pss_one (ps_par (i := 4) (j := 3) (by rfl) sc__law_made.nd rfl rfl (by decide) rfl rfl (pa_cons (pc o__law_no_number T.g__law_no_number b__law_no_number hr (by decide) (pa_cons (pv 0) pa_nil)) (pa_cons pe_str pa_nil)) (by rfl))) pss_nil)
      (pss_one (ps_ret (pe_tup (pa_cons (pe_lst (pa_cons (pv 4) (pa_cons (pv 5) (pa_cons (pv 6) pa_nil)))) (pa_cons (pv 3) pa_nil))))))))))), spM_run (n := 3) (N := ["_law_purse_here", "_law_parts_here", "_law_bits", "_law_due", "_law_first", "_law_over", "_law_under"]) (sim_seq (sim_asg sim_var (sim_g0 (g0_tup (E := none) (g0_cons g0_nm (g0_cons g0_nm (g0_cons g0_nm g0_nil))))))
      (sim_seq (sim_asg sim_str sim_nm)
      (sim_seq (sim_ifS (sim_test (sim_op os_eqS (sim_op os_mod (sim_op os_fdiv sim_var sim_int) sim_int) sim_int)) (sim_par (sim_cons (sim_call (sim_cons sim_var sim_nil) (fun _ _ => RepL.nilR)) (sim_cons sim_str sim_nil))) sim_next)
      (sim_seq (sim_ifS (sim_test (sim_op os_eqS (sim_op os_mod (sim_op os_fdiv sim_var sim_int) sim_int) sim_int)) (sim_par (sim_cons (sim_call (sim_cons sim_var sim_nil) (fun _ _ => RepL.nilR)) (sim_cons sim_str sim_nil))) sim_next)
      (sim_seq (sim_ifS (sim_and (sim_test (sim_op os_eqS (sim_op os_mod sim_var sim_int) sim_int)) (sim_test (sim_op os_eqS sim_var sim_str))) (sim_par (sim_cons (sim_op os_sub (sim_op os_sub (sim_op os_sub sim_int sim_var) sim_int) (sim_call (sim_cons sim_var (sim_cons sim_int sim_nil)) (fun _ _ => RepL.nilR))) (sim_cons sim_str sim_nil))) sim_next)
      (sim_seq (sim_ifS (sim_test (sim_op os_eqS (sim_op os_mod sim_var sim_int) sim_int)) (sim_par (sim_cons (sim_call (sim_cons sim_var sim_nil) (fun _ _ => RepL.nilR)) (sim_cons sim_str sim_nil))) sim_next)
      (sim_ret (sim_tup (sim_cons (sim_lst (sim_cons sim_var (sim_cons sim_var (sim_cons sim_var sim_nil)))) (sim_cons sim_var sim_nil)))))))))) h⟩)⟩
theorem sc__law_no_span : FnScope ["_law_purse_here", "_law_span", "_law_odd"] ["_law_purse_here", "_law_span"] (defScope s__law_no_span) := ⟨rfl, rfl, rfl, by decide +kernel, rfl, by decide +kernel, by decide +kernel⟩
theorem ok__law_no_span (T : Tx w K mg) : DOk P w K mg base d__law_no_span CX0 2 ["_law_purse_here", "_law_span"] (spM K false m__law_no_span) := by
  have o__law_take := ok__law_take (P := P) (w := w) (base := base) T
  obtain ⟨fd, F⟩ := T.df__law_no_span
  exact ⟨fd, F, F.ok sc__law_no_span (fun vs H Q E h => spM_len h) (fun cdv A outer s H vs Q E hr h => ⟨_, PSs.nox (pss_cons (ps_set (i := 2) sc__law_no_span.nd rfl (Or.inl rfl) (pe_lst (pa_cons pe_non (pa_cons pe_int (pa_cons pe_bl (pa_cons pe_str (pa_cons (pe_tup (pa_cons pe_int (pa_cons pe_int (pa_cons pe_int pa_nil)))) (pa_cons (pe_lst (pa_cons (pv 1) pa_nil)) (pa_cons (pe_tup (pa_cons (pv 1) pa_nil)) (pa_cons pe_dnewK (pa_cons (pe_tup (pa_cons (pe_lst (pa_cons (pv 1) pa_nil)) pa_nil)) (pa_cons (pe_disp (pps_cons pe_str (pv 1) pps_nil) rfl rfl (fun h => nomatch h) (by decide)) pa_nil))))))))))))
      (pss_one (ps_ret (pe_ix ix_list (pv 2) (pc o__law_take T.g__law_take b__law_take hr (by decide) (pa_cons (pv 0) (pa_cons pe_int pa_nil))) (fun _ _ => rfl))))), spM_run (n := 2) (N := ["_law_purse_here", "_law_span", "_law_odd"]) (sim_seq (sim_asg (sim_lst (sim_cons sim_non (sim_cons sim_int (sim_cons sim_bl (sim_cons sim_str (sim_cons (sim_tup (sim_cons sim_int (sim_cons sim_int (sim_cons sim_int sim_nil)))) (sim_cons (sim_lst (sim_cons sim_var sim_nil)) (sim_cons (sim_tup (sim_cons sim_var sim_nil)) (sim_cons sim_dic0 (sim_cons (sim_tup (sim_cons (sim_lst (sim_cons sim_var sim_nil)) sim_nil)) (sim_cons (sim_disp (SimPs.cons sim_str sim_var SimPs.nil)) sim_nil))))))))))) sim_nm)
      (sim_ret (sim_op os_ixL sim_var (sim_call (sim_cons sim_var (sim_cons sim_int sim_nil)) (fun _ _ => RepL.nilR))))) h⟩)⟩
theorem sc__law_two : FnScope ["_law_purse_here", "_law_spans", "_law_bits", "_law_k", "_law_things", "_law_due"] ["_law_purse_here", "_law_spans", "_law_bits"] (defScope s__law_two) := ⟨rfl, rfl, rfl, by decide +kernel, rfl, by decide +kernel, by decide +kernel⟩
theorem ok__law_two (T : Tx w K mg) : DOk P w K mg base d__law_two CX0 3 ["_law_purse_here", "_law_spans", "_law_bits"] (spM K false m__law_two) := by
  have o__law_no_span := ok__law_no_span (P := P) (w := w) (base := base) T
  obtain ⟨fd, F⟩ := T.df__law_two
  exact ⟨fd, F, F.ok sc__law_two (fun vs H Q E h => spM_len h) (fun cdv A outer s H vs Q E hr h => ⟨_, PSs.nox (pss_cons (ps_par (i := 4) (j := 5) (by rfl) sc__law_two.nd rfl rfl (by decide) rfl rfl (pa_cons (pe_callTy (call_list_of) (by rfl) T.f_list (by decide +kernel) (pa_cons (pv 1) pa_nil)) (pa_cons pe_str pa_nil)) (by rfl))
      (pss_cons (ps_for PassesOwn.never rfl (pi_tup (pe_tup (pa_cons pe_int (pa_cons pe_int pa_nil)))) (pg_name (i := 3) sc__law_two.nd rfl (Or.inl rfl))
      (pss_one (ps_if (pt_cmpR op_eq (pe_op op_mod (pe_op op_fdiv (pv 2) (pe_op op_add pe_int (pv 3))) pe_int) pe_int (nomark _)) (pss_one (ps_asg (pe_tup (pa_cons (pc o__law_no_span T.g__law_no_span b__law_no_span hr (by decide) (pa_cons (pv 0) (pa_cons (pe_ix ix_list (pv 1) (pv 3) (fun _ _ => rfl)) pa_nil))) (pa_cons pe_str pa_nil))) (pg_tup rfl (pgs_cons (pg_sub (pv 4) (pv 3) set_list) (pgs_cons (pg_name (i := 5) sc__law_two.nd rfl (Or.inl rfl)) pgs_nil))))) pss_nil)))
      (pss_one (ps_ret (pe_tup (pa_cons (pv 4) (pa_cons (pv 5) pa_nil))))))), spM_run (n := 3) (N := ["_law_purse_here", "_law_spans", "_law_bits", "_law_k", "_law_things", "_law_due"]) (sim_seq (sim_par (sim_cons (sim_cb cb_lstO (sim_cons sim_var sim_nil)) (sim_cons sim_str sim_nil)))
      (sim_seq (sim_for (sim_iT (sim_tup (sim_cons sim_int (sim_cons sim_int sim_nil)))) (sim_g0 g0_nm) (sim_ifS (sim_test (sim_op os_eqS (sim_op os_mod (sim_op os_fdiv sim_var (sim_op os_add sim_int sim_var)) sim_int) sim_int)) (sim_asg (sim_tup (sim_cons (sim_call (sim_cons sim_var (sim_cons (sim_op os_ixL sim_var sim_var) sim_nil)) (fun _ _ => RepL.nilR)) (sim_cons sim_str sim_nil))) (sim_gtupS (sim_gSubL sim_var sim_var) (g0_cons g0_nm g0_nil))) sim_next))
      (sim_ret (sim_tup (sim_cons sim_var (sim_cons sim_var sim_nil)))))) h⟩)⟩
theorem sc__law_row : FnScope ["_law_purse_here", "_law_spans", "_law_bits", "_law_row_here", "_law_at", "_law_odd"] ["_law_purse_here", "_law_spans", "_law_bits"] (defScope s__law_row) := ⟨rfl, rfl, rfl, by decide +kernel, rfl, by decide +kernel, by decide +kernel⟩
theorem ok__law_row (T : Tx w K mg) : DOk P w K mg base d__law_row CX0 3 ["_law_purse_here", "_law_spans", "_law_bits"] (spM K false m__law_row) := by
  have o__law_take := ok__law_take (P := P) (w := w) (base := base) T
  have o__law_no_span := ok__law_no_span (P := P) (w := w) (base := base) T
  obtain ⟨fd, F⟩ := T.df__law_row
  exact ⟨fd, F, F.ok sc__law_row (fun vs H Q E h => spM_len h) (fun cdv A outer s H vs Q E hr h => ⟨_, PSs.nox (pss_cons (ps_set (i := 3) sc__law_row.nd rfl (Or.inl rfl) (pe_op op_rep (pv 1) (pc o__law_take T.g__law_take b__law_take hr (by decide) (pa_cons (pv 0) (pa_cons pe_int pa_nil)))))
      (pss_cons (ps_set (i := 4) sc__law_row.nd rfl (Or.inl rfl) (pc o__law_take T.g__law_take b__law_take hr (by decide) (pa_cons (pv 0) (pa_cons (pe_op op_add (pe_callB (call_len_seq) (by rfl) T.f_len (by decide +kernel) (pa_cons (pv 3) pa_nil)) pe_int) pa_nil))))
      (pss_cons (ps_if (pt_cmpR op_eq (pe_op op_mod (pv 2) pe_int) pe_int (nomark _)) (pss_one (ps_ret (pe_tup (pa_cons (pe_ix ix_list (pe_lst (pa_cons (pv 3) (pa_cons (pe_callTy (x_tup (K := K) rfl) (by rfl) T.f_tuple (by decide +kernel) (pa_cons (pv 3) pa_nil)) pa_nil))) (pe_op op_mod (pv 2) pe_int) (fun _ _ => rfl)) (pa_cons pe_str pa_nil))))) pss_nil)
      (pss_cons (ps_if (pt_cmpR op_eq (pe_op op_mod (pv 2) pe_int) pe_int (nomark _)) (pss_cons (ps_set (i := 5) sc__law_row.nd rfl (Or.inl rfl) (pe_lst (pa_cons pe_non (pa_cons pe_int (pa_cons pe_str (pa_cons pe_str (pa_cons (pe_ix ix_list (pv 1) pe_int (fun _ _ => rfl)) (pa_cons pe_dnewK (pa_cons (pe_disp (pps_cons pe_str (pe_ix ix_list (pv 1) pe_int (fun _ _ => rfl)) pps_nil) rfl rfl (fun h => nomatch h) (by decide)) (pa_cons pe_bl pa_nil))))))))))
      (pss_one (ps_ret (pe_tup (pa_cons (pe_ix ix_list (pv 5) (pc o__law_take T.g__law_take b__law_take hr (by decide) (pa_cons (pv 0) (pa_cons pe_int pa_nil))) (fun _ _ => rfl)) (pa_cons pe_str pa_nil)))))) pss_nil)
      (pss_cons (ps_set (i := 3) sc__law_row.nd rfl (Or.inl rfl) (pe_op op_cat (pe_op op_cat (pe_slice sl_list (pv 3) po_none (po_some (pv 4))) (pe_lst (pa_cons (pc o__law_no_span T.g__law_no_span b__law_no_span hr (by decide) (pa_cons (pv 0) (pa_cons (pe_ix ix_list (pv 1) pe_int (fun _ _ => rfl)) pa_nil))) pa_nil))) (pe_slice sl_list (pv 3) (po_some (pv 4)) po_none)))
      (pss_one (ps_ret (pe_tup (pa_cons (pe_ix ix_list (pe_lst (pa_cons (pv 3) (pa_cons (pe_callTy (x_tup (K := K) rfl) (by rfl) T.f_tuple (by decide +kernel) (pa_cons (pv 3) pa_nil)) pa_nil))) (pe_op op_mod (pe_op op_fdiv (pv 2) pe_int) pe_int) (fun _ _ => rfl)) (pa_cons pe_str pa_nil)))))))))), spM_run (n := 3) (N := ["_law_purse_here", "_law_spans", "_law_bits", "_law_row_here", "_law_at", "_law_odd"]) (sim_seq (sim_asg (sim_op os_rep sim_var (sim_call (sim_cons sim_var (sim_cons sim_int sim_nil)) (fun _ _ => RepL.nilR))) sim_nm)
      (sim_seq (sim_asg (sim_call (sim_cons sim_var (sim_cons (sim_op os_add (sim_cb cb_len (sim_cons sim_var sim_nil)) sim_int) sim_nil)) (fun _ _ => RepL.nilR)) sim_nm)
      (sim_seq (sim_ifS (sim_test (sim_op os_eqS (sim_op os_mod sim_var sim_int) sim_int)) (sim_ret (sim_tup (sim_cons (sim_op os_ixL (sim_lst (sim_cons sim_var (sim_cons (sim_cb cb_tup (sim_cons sim_var sim_nil)) sim_nil))) (sim_op os_mod sim_var sim_int)) (sim_cons sim_str sim_nil)))) sim_next)
      (sim_seq (sim_ifS (sim_test (sim_op os_eqS (sim_op os_mod sim_var sim_int) sim_int)) (sim_seq (sim_asg (sim_lst (sim_cons sim_non (sim_cons sim_int (sim_cons sim_str (sim_cons sim_str (sim_cons (sim_op os_ixL sim_var sim_int) (sim_cons sim_dic0 (sim_cons (sim_disp (SimPs.cons sim_str (sim_op os_ixL sim_var sim_int) SimPs.nil)) (sim_cons sim_bl sim_nil))))))))) sim_nm)
      (sim_ret (sim_tup (sim_cons (sim_op os_ixL sim_var (sim_call (sim_cons sim_var (sim_cons sim_int sim_nil)) (fun _ _ => RepL.nilR))) (sim_cons sim_str sim_nil))))) sim_next)
      (sim_seq (sim_asg (sim_op os_catL (sim_op os_catL (sim_sl ss_L sim_var sim_noP (sim_part sim_var)) (sim_lst (sim_cons (sim_call (sim_cons sim_var (sim_cons (sim_op os_ixL sim_var sim_int) sim_nil)) (fun _ _ => RepL.nilR)) sim_nil))) (sim_sl ss_L sim_var (sim_part sim_var) sim_noP)) sim_nm)
      (sim_ret (sim_tup (sim_cons (sim_op os_ixL (sim_lst (sim_cons sim_var (sim_cons (sim_cb cb_tup (sim_cons sim_var sim_nil)) sim_nil))) (sim_op os_mod (sim_op os_fdiv sim_var sim_int) sim_int)) (sim_cons sim_str sim_nil))))))))) h⟩)⟩
theorem sc_Span___repr__ : FnScope ["self"] ["self"] (defScope s_Span___repr__) := ⟨rfl, rfl, rfl, by decide +kernel, rfl, by decide +kernel, by decide +kernel⟩
theorem ok_Span___repr__ (T : Tx w K mg) : DOk P w K mg base d_Span___repr__ CX0 1 ["self"] (spM K false m_Span___repr__) := by
  obtain ⟨fd, F⟩ := T.df_Span___repr__
  exact ⟨fd, F, F.ok sc_Span___repr__ (fun vs H Q E h => spM_len h) (fun cdv A outer s H vs Q E hr h => ⟨_, PSs.nox (pss_one (ps_ret (pe_joined (PJ.cons pe_str (PJ.cons (pe_fmt (pe_fld (pv 0) rfl)) (PJ.cons pe_str (PJ.cons (pe_fmt (pe_fld (pv 0) rfl)) (PJ.cons pe_str (PJ.cons (pe_fmt (pe_fld (pv 0) rfl)) (PJ.cons pe_str PJ.nil)))))))))), spM_run (n := 1) (N := ["self"]) (sim_ret (sim_js (SimJs.cons sim_str (SimJs.cons (sim_fmt (sim_fld T.cls_Span T.no_Span_size sim_var)) (SimJs.cons sim_str (SimJs.cons (sim_fmt (sim_fld T.cls_Span T.no_Span_above sim_var)) (SimJs.cons sim_str (SimJs.cons (sim_fmt (sim_fld T.cls_Span T.no_Span_below sim_var)) (SimJs.cons sim_str SimJs.nil))))))))) h⟩)⟩
theorem sc_Span_lets : FnScope ["self", "measure"] ["self", "measure"] (defScope s_Span_lets) := ⟨rfl, rfl, rfl, by decide +kernel, rfl, by decide +kernel, by decide +kernel⟩
theorem ok_Span_lets (T : Tx w K mg) : DOk P w K mg base d_Span_lets (L2.CX P w) 3 ["self", "measure"] (spM K true m_Span_lets) := by
  have o_check_measure := ok_check_measure (P := P) (w := w) (base := base) T
  obtain ⟨fd, F⟩ := T.df_Span_lets
  exact ⟨fd, F, F.ok sc_Span_lets (fun vs H Q E h => spM_len h) (fun cdv A outer s H vs Q E hr h => ⟨_, (pss_cons (ps_expr (pcS o_check_measure (fun _ => passAt (takes_of rfl rfl rfl rfl) _) T.g_check_measure b_check_measure hr (by decide) (pa_cons (pv 1) pa_nil)))
      (pss_one (ps_ret (pe_chain op_le op_le (pe_fld (pv 0) rfl) (pv 1) (pe_fld (pv 0) rfl))))), spM_runX (E := E) (n := 2) (N := ["self", "measure"]) (sim_seq (sim_exp (sim_callS (sim_cons sim_var sim_nil) (fun _ _ => RepL.nilR)))
      (sim_ret (sim_chain os_le os_le (sim_fld T.cls_Span T.no_Span_low sim_var) sim_var (sim_fld T.cls_Span T.no_Span_high sim_var)))) h⟩)⟩
theorem sc_check_span : FnScope ["thing"] ["thing"] (defScope s_check_span) := ⟨rfl, rfl, rfl, by decide +kernel, rfl, by decide +kernel, by decide +kernel⟩
theorem ok_check_span (T : Tx w K mg) : DOk P w K mg base d_check_span (L2.CX P w) 1 ["thing"] (spM K true m_check_span) := by
  obtain ⟨fd, F⟩ := T.df_check_span
  exact ⟨fd, F, F.ok sc_check_span (fun vs H Q E h => spM_len h) (fun cdv A outer s H vs Q E hr h => ⟨_, (pss_one (ps_if (pt_not (pt_val (pe_callB (x_isi (K := K) rfl) (by rfl) T.f_isinstance (by decide +kernel) (pa_cons (pv 0) (pa_cons (pe_glob (v := .ref (He.ga K "Span")) rfl T.g_Span rfl) pa_nil))))) (pss_one (ps_raise rfl (takes_of rfl rfl rfl rfl) (pmk_own PySem.F.excBase_ValueError T.xq_NoSpan T.g_NoSpan T.xc_NoSpan.kp T.xc_NoSpan.raises rfl))) pss_nil)), spM_runX (E := E) (n := 1) (N := ["thing"]) (sim_ifS (sim_not (sim_B (sim_cb (cb_isi T.clsK) (sim_cons sim_var (sim_cons sim_cls sim_nil))))) sim_raiseP sim_next) h⟩)⟩
theorem sc_Span_plus : FnScope ["self", "other"] ["self", "other"] (defScope s_Span_plus) := ⟨rfl, rfl, rfl, by decide +kernel, rfl, by decide +kernel, by decide +kernel⟩
theorem ok_Span_plus (T : Tx w K mg) : DOk P w K mg base d_Span_plus (L2.CX P w) 5 ["self", "other"] (spM K true m_Span_plus) := by
  have o_check_span := ok_check_span (P := P) (w := w) (base := base) T
  have o_Span___init__ := ok_Span___init__ (P := P) (w := w) (base := base) T
  obtain ⟨fd, F⟩ := T.df_Span_plus
  exact ⟨fd, F, F.ok sc_Span_plus (fun vs H Q E h => spM_len h) (fun cdv A outer s H vs Q E hr h => ⟨_, (pss_cons (ps_expr (pcS o_check_span (fun _ => passAt (takes_of rfl rfl rfl rfl) _) T.g_check_span b_check_span hr (by decide) (pa_cons (pv 1) pa_nil)))
      (pss_one (ps_ret (pmkKS o_Span___init__ (fun _ => passAt (takes_of rfl rfl rfl rfl) _) T.mkr_Span T.g_Span bk_Span___init___2_above_below hr (by decide) (pa_cons (pe_op op_add (pe_fld (pv 0) rfl) (pe_fld (pv 1) rfl)) pa_nil) (pk_cons (pe_op op_add (pe_fld (pv 0) rfl) (pe_fld (pv 1) rfl)) (pk_cons (pe_op op_add (pe_fld (pv 0) rfl) (pe_fld (pv 1) rfl)) pk_nil)))))), spM_runX (E := E) (n := 2) (N := ["self", "other"]) (sim_seq (sim_exp (sim_callS (sim_cons sim_var sim_nil) (fun _ _ => RepL.nilR)))
      (sim_ret (sim_makeKS (sim_cons (sim_op os_add (sim_fld T.cls_Span T.no_Span_size sim_var) (sim_fld T.cls_Span T.no_Span_size sim_var)) sim_nil) (sim_cons (sim_op os_add (sim_fld T.cls_Span T.no_Span_above sim_var) (sim_fld T.cls_Span T.no_Span_above sim_var)) (sim_cons (sim_op os_add (sim_fld T.cls_Span T.no_Span_below sim_var) (sim_fld T.cls_Span T.no_Span_below sim_var)) sim_nil)) (fun x ι G ps vs zs ws r1 r2 => ⟨_, rfl, ((r1.app ((r2.drop 0).take 1)).app ((r2.drop 1).take 1))⟩)))) h⟩)⟩
theorem sc_Span_turned : FnScope ["self"] ["self"] (defScope s_Span_turned) := ⟨rfl, rfl, rfl, by decide +kernel, rfl, by decide +kernel, by decide +kernel⟩
theorem ok_Span_turned (T : Tx w K mg) : DOk P w K mg base d_Span_turned (L2.CX P w) 5 ["self"] (spM K true m_Span_turned) := by
  have o_Span___init__ := ok_Span___init__ (P := P) (w := w) (base := base) T
  obtain ⟨fd, F⟩ := T.df_Span_turned
  exact ⟨fd, F, F.ok sc_Span_turned (fun vs H Q E h => spM_len h) (fun cdv A outer s H vs Q E hr h => ⟨_, (pss_one (ps_ret (pmkKS o_Span___init__ (fun _ => passAt (takes_of rfl rfl rfl rfl) _) T.mkr_Span T.g_Span bk_Span___init___2_above_below hr (by decide) (pa_cons (pe_op op_sub pe_int (pe_fld (pv 0) rfl)) pa_nil) (pk_cons (pe_fld (pv 0) rfl) (pk_cons (pe_fld (pv 0) rfl) pk_nil))))), spM_runX (E := E) (n := 1) (N := ["self"]) (sim_ret (sim_makeKS (sim_cons (sim_op os_sub sim_int (sim_fld T.cls_Span T.no_Span_size sim_var)) sim_nil) (sim_cons (sim_fld T.cls_Span T.no_Span_below sim_var) (sim_cons (sim_fld T.cls_Span T.no_Span_above sim_var) sim_nil)) (fun x ι G ps vs zs ws r1 r2 => ⟨_, rfl, ((r1.app ((r2.drop 0).take 1)).app ((r2.drop 1).take 1))⟩))) h⟩)⟩
theorem sc_Span_minus : FnScope ["self", "other"] ["self", "other"] (defScope s_Span_minus) := ⟨rfl, rfl, rfl, by decide +kernel, rfl, by decide +kernel, by decide +kernel⟩
theorem ok_Span_minus (T : Tx w K mg) : DOk P w K mg base d_Span_minus (L2.CX P w) 6 ["self", "other"] (spM K true m_Span_minus) := by
  have o_check_span := ok_check_span (P := P) (w := w) (base := base) T
  have o_Span_turned := ok_Span_turned (P := P) (w := w) (base := base) T
  have o_Span_plus := ok_Span_plus (P := P) (w := w) (base := base) T
  obtain ⟨fd, F⟩ := T.df_Span_minus
  exact ⟨fd, F, F.ok sc_Span_minus (fun vs H Q E h => spM_len h) (fun cdv A outer s H vs Q E hr h => ⟨_, (pss_cons (ps_expr (pcS o_check_span (fun _ => passAt (takes_of rfl rfl rfl rfl) _) T.g_check_span b_check_span hr (by decide) (pa_cons (pv 1) pa_nil)))
      (pss_one (ps_ret (pmS o_Span_plus (fun _ => passAt (takes_of rfl rfl rfl rfl) _) T.cls_Span T.mt_Span_plus b_Span_plus hr (by decide) (pv 0) (pa_cons (pm0S o_Span_turned (fun _ => passAt (takes_of rfl rfl rfl rfl) _) T.cls_Span T.mt_Span_turned b_Span_turned hr (by decide) (pv 1)) pa_nil))))), spM_runX (E := E) (n := 2) (N := ["self", "other"]) (sim_seq (sim_exp (sim_callS (sim_cons sim_var sim_nil) (fun _ _ => RepL.nilR)))
      (sim_ret (sim_methS sim_var (sim_cons (sim_methS sim_var sim_nil (fun _ _ => RepL.nilR)) sim_nil) (fun _ _ => RepL.nilR)))) h⟩)⟩
theorem sc_span_of : FnScope ["low", "high"] ["low", "high"] (defScope s_span_of) := ⟨rfl, rfl, rfl, by decide +kernel, rfl, by decide +kernel, by decide +kernel⟩
theorem ok_span_of (T : Tx w K mg) : DOk P w K mg base d_span_of (L2.CX P w) 5 ["low", "high"] (spM K true m_span_of) := by
  have o_Span___init__ := ok_Span___init__ (P := P) (w := w) (base := base) T
  obtain ⟨fd, F⟩ := T.df_span_of
  exact ⟨fd, F, F.ok sc_span_of (fun vs H Q E h => spM_len h) (fun cdv A outer s H vs Q E hr h => ⟨_, (pss_one (ps_ret (pmkKS o_Span___init__ (fun _ => passAt (takes_of rfl rfl rfl rfl) _) T.mkr_Span T.g_Span bk_Span___init___2_above hr (by decide) (pa_cons (pv 0) pa_nil) (pk_cons (pe_op op_sub (pv 1) (pv 0)) pk_nil)))), spM_runX (E := E) (n := 2) (N := ["low", "high"]) (sim_ret (sim_makeKS (sim_cons sim_var sim_nil) (sim_cons (sim_op os_sub sim_var sim_var) sim_nil) (fun x ι G ps vs zs ws r1 r2 => ⟨_, rfl, ((r1.app ((r2.drop 0).take 1)).app (RepL.one rp_int))⟩))) h⟩)⟩
theorem sc_both : FnScope ["one", "other", "low", "high"] ["one", "other"] (defScope s_both) := ⟨rfl, rfl, rfl, by decide +kernel, rfl, by decide +kernel, by decide +kernel⟩
theorem ok_both (T : Tx w K mg) : DOk P w K mg base d_both (L2.CX P w) 6 ["one", "other"] (spM K true m_both) := by
  have o_check_span := ok_check_span (P := P) (w := w) (base := base) T
  have o_span_of := ok_span_of (P := P) (w := w) (base := base) T
  obtain ⟨fd, F⟩ := T.df_both
  exact ⟨fd, F, F.ok sc_both (fun vs H Q E h => spM_len h) (fun cdv A outer s H vs Q E hr h => ⟨_, (pss_cons (ps_expr (pcS o_check_span (fun _ => passAt (takes_of rfl rfl rfl rfl) _) T.g_check_span b_check_span hr (by decide) (pa_cons (pv 0) pa_nil)))
      (pss_cons (ps_expr (pcS o_check_span (fun _ => passAt (takes_of rfl rfl rfl rfl) _) T.g_check_span b_check_span hr (by decide) (pa_cons (pv 1) pa_nil)))
      (pss_cons (ps_par (i := 2) (j := 3) (by rfl) sc_both.nd rfl rfl (by decide) rfl rfl (pa_cons (pe_callB (c_max rfl) (by rfl) T.f_max (by decide +kernel) (pa_cons (pe_fld (pv 0) rfl) (pa_cons (pe_fld (pv 1) rfl) pa_nil))) (pa_cons (pe_callB (c_min rfl) (by rfl) T.f_min (by decide +kernel) (pa_cons (pe_fld (pv 0) rfl) (pa_cons (pe_fld (pv 1) rfl) pa_nil))) pa_nil)) (by rfl))
      (pss_one (ps_ret (pe_ifExp (pt_cmpR op_le (pv 2) (pv 3) (nomark _)) (pcS o_span_of (fun _ => passAt (takes_of rfl rfl rfl rfl) _) T.g_span_of b_span_of hr (by decide) (pa_cons (pv 2) (pa_cons (pv 3) pa_nil))) pe_non)))))), spM_runX (E := E) (n := 2) (N := ["one", "other", "low", "high"]) (sim_seq (sim_exp (sim_callS (sim_cons sim_var sim_nil) (fun _ _ => RepL.nilR)))
      (sim_seq (sim_exp (sim_callS (sim_cons sim_var sim_nil) (fun _ _ => RepL.nilR)))
      (sim_seq (sim_par (sim_cons (sim_cb cb_max2 (sim_cons (sim_fld T.cls_Span T.no_Span_low sim_var) (sim_cons (sim_fld T.cls_Span T.no_Span_low sim_var) sim_nil))) (sim_cons (sim_cb cb_min2 (sim_cons (sim_fld T.cls_Span T.no_Span_high sim_var) (sim_cons (sim_fld T.cls_Span T.no_Span_high sim_var) sim_nil))) sim_nil)))
      (sim_ret (sim_if (sim_test (sim_op os_le sim_var sim_var)) (sim_callS (sim_cons sim_var (sim_cons sim_var sim_nil)) (fun _ _ => RepL.nilR)) sim_non))))) h⟩)⟩
theorem sc_within : FnScope ["one", "other"] ["one", "other"] (defScope s_within) := ⟨rfl, rfl, rfl, by decide +kernel, rfl, by decide +kernel, by decide +kernel⟩
theorem ok_within (T : Tx w K mg) : DOk P w K mg base d_within (L2.CX P w) 2 ["one", "other"] (spM K true m_within) := by
  have o_check_span := ok_check_span (P := P) (w := w) (base := base) T
  obtain ⟨fd, F⟩ := T.df_within
  exact ⟨fd, F, F.ok sc_within (fun vs H Q E h => spM_len h) (fun cdv A outer s H vs Q E hr h => ⟨_, (pss_cons (ps_expr (pcS o_check_span (fun _ => passAt (takes_of rfl rfl rfl rfl) _) T.g_check_span b_check_span hr (by decide) (pa_cons (pv 0) pa_nil)))
      (pss_cons (ps_expr (pcS o_check_span (fun _ => passAt (takes_of rfl rfl rfl rfl) _) T.g_check_span b_check_span hr (by decide) (pa_cons (pv 1) pa_nil)))
      (pss_one (ps_ret (pe_and (pe_cmpR op_le (pe_fld (pv 1) rfl) (pe_fld (pv 0) rfl) (nomark _)) (pe_one (pe_cmpR op_le (pe_fld (pv 0) rfl) (pe_fld (pv 1) rfl) (nomark _)))))))), spM_runX (E := E) (n := 2) (N := ["one", "other"]) (sim_seq (sim_exp (sim_callS (sim_cons sim_var sim_nil) (fun _ _ => RepL.nilR)))
      (sim_seq (sim_exp (sim_callS (sim_cons sim_var sim_nil) (fun _ _ => RepL.nilR)))
      (sim_ret (sim_andV (sim_op os_le (sim_fld T.cls_Span T.no_Span_low sim_var) (sim_fld T.cls_Span T.no_Span_low sim_var)) (sim_op os_le (sim_fld T.cls_Span T.no_Span_high sim_var) (sim_fld T.cls_Span T.no_Span_high sim_var)))))) h⟩)⟩
theorem sc_unlike : FnScope ["one", "other", "who", "this", "that"] ["one", "other"] (defScope s_unlike) := ⟨rfl, rfl, rfl, by decide +kernel, rfl, by decide +kernel, by decide +kernel⟩
theorem ok_unlike (T : Tx w K mg) : DOk P w K mg base d_unlike (L2.CX P w) 2 ["one", "other"] (spM K true m_unlike) := by
  have o_check_span := ok_check_span (P := P) (w := w) (base := base) T
  obtain ⟨fd, F⟩ := T.df_unlike
  exact ⟨fd, F, F.ok sc_unlike (fun vs H Q E h => spM_len h) (fun cdv A outer s H vs Q E hr h => ⟨_, (pss_cons (ps_expr (pcS o_check_span (fun _ => passAt (takes_of rfl rfl rfl rfl) _) T.g_check_span b_check_span hr (by decide) (pa_cons (pv 0) pa_nil)))
      (pss_cons (ps_expr (pcS o_check_span (fun _ => passAt (takes_of rfl rfl rfl rfl) _) T.g_check_span b_check_span hr (by decide) (pa_cons (pv 1) pa_nil)))
      (pss_cons (ps_for PassesOwn.leaving rfl (pi_tup (pe_tup (pa_cons (pe_tup (pa_cons pe_str (pa_cons (pv 0) (pa_cons (pv 1) pa_nil)))) (pa_cons (pe_tup (pa_cons pe_str (pa_cons (pv 1) (pa_cons (pv 0) pa_nil)))) pa_nil)))) (pg_tup rfl (pgs_cons (pg_name (i := 2) sc_unlike.nd rfl (Or.inl rfl)) (pgs_cons (pg_name (i := 3) sc_unlike.nd rfl (Or.inl rfl)) (pgs_cons (pg_name (i := 4) sc_unlike.nd rfl (Or.inl rfl)) pgs_nil))))
      (pss_cons (ps_if (pt_cmpR op_lt (pe_fld (pv 3) rfl) (pe_fld (pv 4) rfl) (nomark _)) (pss_one (ps_ret (pe_tup (pa_cons (pv 2) (pa_cons (pe_fld (pv 3) rfl) pa_nil))))) pss_nil)
      (pss_one (ps_if (pt_cmpR op_gt (pe_fld (pv 3) rfl) (pe_fld (pv 4) rfl) (nomark _)) (pss_one (ps_ret (pe_tup (pa_cons (pv 2) (pa_cons (pe_fld (pv 3) rfl) pa_nil))))) pss_nil))))
      (pss_one (ps_ret pe_non))))), spM_runX (E := E) (n := 2) (N := ["one", "other", "who", "this", "that"]) (sim_seq (sim_exp (sim_callS (sim_cons sim_var sim_nil) (fun _ _ => RepL.nilR)))
      (sim_seq (sim_exp (sim_callS (sim_cons sim_var sim_nil) (fun _ _ => RepL.nilR)))
      (sim_seq (sim_for (sim_iT (sim_tup (sim_cons (sim_tup (sim_cons sim_str (sim_cons sim_var (sim_cons sim_var sim_nil)))) (sim_cons (sim_tup (sim_cons sim_str (sim_cons sim_var (sim_cons sim_var sim_nil)))) sim_nil)))) (sim_g0 (g0_tup (E := none) (g0_cons g0_nm (g0_cons g0_nm (g0_cons g0_nm g0_nil))))) (sim_seq (sim_ifS (sim_test (sim_op os_lt (sim_fld T.cls_Span T.no_Span_low sim_var) (sim_fld T.cls_Span T.no_Span_low sim_var))) (sim_ret (sim_tup (sim_cons sim_var (sim_cons (sim_fld T.cls_Span T.no_Span_low sim_var) sim_nil)))) sim_next)
      (sim_ifS (sim_test (sim_op os_gt (sim_fld T.cls_Span T.no_Span_high sim_var) (sim_fld T.cls_Span T.no_Span_high sim_var))) (sim_ret (sim_tup (sim_cons sim_var (sim_cons (sim_fld T.cls_Span T.no_Span_high sim_var) sim_nil)))) sim_next)))
      (sim_ret sim_non)))) h⟩)⟩
theorem sc_check_row : FnScope ["things", "thing"] ["things"] (defScope s_check_row) := ⟨rfl, rfl, rfl, by decide +kernel, rfl, by decide +kernel, by decide +kernel⟩
theorem ok_check_row (T : Tx w K mg) : DOk P w K mg base d_check_row (L2.CX P w) 2 ["things"] (spM K true m_check_row) := by
  have o_check_span := ok_check_span (P := P) (w := w) (base := base) T
  obtain ⟨fd, F⟩ := T.df_check_row
  exact ⟨fd, F, F.ok sc_check_row (fun vs H Q E h => spM_len h) (fun cdv A outer s H vs Q E hr h => ⟨_, (pss_cons (ps_if (pt_not (pt_val (pe_callB (x_isaT (K := K) rfl) (by rfl) T.f_isinstance (by decide +kernel) (pa_cons (pv 0) (pa_cons (pe_tup (pa_cons (pe_bltn (v := .ty "list") (u := .type "list") (by rfl) T.f_list (by decide +kernel) rfl) (pa_cons (pe_bltn (v := .ty "tuple") (u := .type "tuple") (by rfl) T.f_tuple (by decide +kernel) rfl) pa_nil))) pa_nil))))) (pss_one (ps_raise rfl (takes_of rfl rfl rfl rfl) (pmk_own PySem.F.excBase_ValueError T.xq_NoSpan T.g_NoSpan T.xc_NoSpan.kp T.xc_NoSpan.raises rfl))) pss_nil)
      (pss_one (ps_for PassesOwn.leaving rfl (pi_any (pv 0)) (pg_name (i := 1) sc_check_row.nd rfl (Or.inl rfl))
      (pss_one (ps_expr (pcS o_check_span (fun _ => passAt (takes_of rfl rfl rfl rfl) _) T.g_check_span b_check_span hr (by decide) (pa_cons (pv 1) pa_nil))))))), spM_runX (E := E) (n := 1) (N := ["things", "thing"]) (sim_seq (sim_ifS (sim_not (sim_B (sim_isT (it_isi T.clsK) sim_var (sim_cons sim_ty (sim_cons sim_ty sim_nil))))) sim_raiseP sim_next)
      (sim_for (sim_iA sim_var) (sim_g0 g0_nm) (sim_exp (sim_callS (sim_cons sim_var sim_nil) (fun _ _ => RepL.nilR))))) h⟩)⟩
theorem sc_in_order_l0 : FnScope ["span"] ["span"] ll_in_order_l0.scope := ⟨rfl, rfl, rfl, by decide +kernel, rfl, by decide +kernel, by decide +kernel⟩
theorem ok_in_order_l0 (T : Tx w K mg) : LmOk P w K mg base 1 ll_in_order_l0 (spM K false m_in_order_l0) := by
  exact lam_of sc_in_order_l0 (fun vs H Q E h => spM_len h) (fun _ _ _ us hl => match us, hl with | [_], _ => rfl) (fun f cdv A outer s H vs Q hr h => ⟨_, PE.nox (pe_tup (pa_cons (pe_fld (pv 0) rfl) (pa_cons (pe_fld (pv 0) rfl) pa_nil))), spM_runE (n := 1) (N := ["span"]) (sim_tup (sim_cons (sim_fld T.cls_Span T.no_Span_low sim_var) (sim_cons (sim_fld T.cls_Span T.no_Span_high sim_var) sim_nil))) h⟩)
theorem sc_in_order : FnScope ["spans", "key", "falling"] ["spans", "key", "falling"] (defScope s_in_order) := ⟨rfl, rfl, rfl, by decide +kernel, rfl, by decide +kernel, by decide +kernel⟩
theorem okr_in_order (T : Tx w K mg) : ∀ n_, DOk P w K mg base d_in_order (L2.CX P w) (5 + n_) ["spans", "key", "falling"] (spM K true (mr_in_order n_))
  | 0 => by
    obtain ⟨fd, F⟩ := T.df_in_order
    exact ⟨fd, F, F.ok sc_in_order (fun vs H Q E h => (bad_sp h).elim) (fun cdv A outer s H vs Q E hr h => (bad_sp h).elim)⟩
  | n_ + 1 => by
    have o_check_row := ok_check_row (P := P) (w := w) (base := base) T
    have o_in_order := okr_in_order T n_
    have o_in_order_l0 := ok_in_order_l0 (P := P) (w := w) (base := base) T
    obtain ⟨fd, F⟩ := T.df_in_order
    exact ⟨fd, F, okC (d := d_in_order.at_) F sc_in_order (fun vs H Q E h => spM_len h) (fun cdv hcd A outer s H vs Q E hr h => ⟨_, (pss_cons (ps_expr (pcS o_check_row (fun _ => passAt (takes_of rfl rfl rfl rfl) _) T.g_check_row b_check_row hr (by first | decide | omega | (show _ ≤ 5 + n_; omega) | exact Nat.le_refl _) (pa_cons (pv 0) pa_nil)))
      (pss_cons (ps_if (pt_cmpR op_isN (pv 1) pe_non (nomark _)) (pss_one (ps_ret (pcKS o_in_order (fun _ => passAt (takes_of rfl rfl rfl rfl) _) T.g_in_order bk_in_order_1_key_falling hr (by first | decide | omega | (show _ ≤ 5 + n_; omega) | exact Nat.le_refl _) (pa_cons (pv 0) pa_nil) (pk_cons (pe_lam (L := ll_in_order_l0) (TB.tb tl_in_order List.mem_cons_self) hcd rfl) (pk_cons (pv 2) pk_nil))))) pss_nil)
      (pss_cons (ps_if (pt_val (pv 2)) (pss_one (ps_ret (pe_callTy (x_tup (K := K) rfl) (by rfl) T.f_tuple (by decide +kernel) (pa_cons (pe_sortKR (k := 1) (t := tl_in_order) (p := "span") (TB.tb tl_in_order List.mem_cons_self) hcd rfl hr (by first | decide | omega | (show _ ≤ 5 + n_; omega) | exact Nat.le_refl _) (pa_cons (pv 0) pa_nil) (by rfl) T.f_sorted (lamP_by (sc := defScope s_in_order) (by decide +kernel)) (show ("span" : Str) ∉ (["spans", "key", "falling"] : List Str) from by decide +kernel) (fun A s H f c hr => (pe_callM (i := 1) tabs_nil (lams_cons o_in_order_l0 (by first | decide | omega | (show _ ≤ 5 + n_; omega) | exact Nat.le_refl _) lams_nil) hr rfl (by first | exact Or.inl rfl | exact Or.inr (Or.inl rfl) | exact Or.inr (Or.inr rfl)) (pa_cons (pv 3) pa_nil)))) pa_nil)))) pss_nil)
      (pss_one (ps_ret (pe_callTy (x_tup (K := K) rfl) (by rfl) T.f_tuple (by decide +kernel) (pa_cons (pe_sortK (k := 1) (t := tl_in_order) (p := "span") (TB.tb tl_in_order List.mem_cons_self) hcd rfl hr (by first | decide | omega | (show _ ≤ 5 + n_; omega) | exact Nat.le_refl _) (pa_cons (pv 0) pa_nil) (by rfl) T.f_sorted (lamP_by (sc := defScope s_in_order) (by decide +kernel)) (show ("span" : Str) ∉ (["spans", "key", "falling"] : List Str) from by decide +kernel) (fun A s H f c hr => (pe_callM (i := 1) tabs_nil (lams_cons o_in_order_l0 (by first | decide | omega | (show _ ≤ 5 + n_; omega) | exact Nat.le_refl _) lams_nil) hr rfl (by first | exact Or.inl rfl | exact Or.inr (Or.inl rfl) | exact Or.inr (Or.inr rfl)) (pa_cons (pv 3) pa_nil)))) pa_nil))))))), spM_runX (E := E) (n := 3) (N := ["spans", "key", "falling"]) (sim_seq (sim_exp (sim_callS (sim_cons sim_var sim_nil) (fun _ _ => RepL.nilR)))
      (sim_seq (sim_ifS (sim_test (sim_op os_isN sim_var sim_non)) (sim_ret (sim_callKS (sim_cons sim_var sim_nil) (sim_cons sim_lam (sim_cons sim_var sim_nil)) (fun ι G ps vs zs ws r1 r2 => ((r1.app ((r2.drop 0).take 1)).app ((r2.drop 1).take 1))))) sim_next)
      (sim_seq (sim_ifS (sim_B sim_var) (sim_ret (sim_cb cb_tup (sim_cons (sim_sortK (sim_cons sim_var sim_nil) (sim_callM (sim_cons sim_var sim_nil))) sim_nil))) sim_next)
      (sim_ret (sim_cb cb_tup (sim_cons (sim_sortK (sim_cons sim_var sim_nil) (sim_callM (sim_cons sim_var sim_nil))) sim_nil)))))) h⟩)⟩
theorem ok_in_order (T : Tx w K mg) : DOk P w K mg base d_in_order (L2.CX P w) 13 ["spans", "key", "falling"] (spM K true m_in_order) := okr_in_order T 8
theorem sc__law_door : FnScope ["_law_door_here", "_law_span", "_law_things"] ["_law_door_here", "_law_span", "_law_things"] (defScope s__law_door) := ⟨rfl, rfl, rfl, by decide +kernel, rfl, by decide +kernel, by decide +kernel⟩
theorem ok__law_door (T : Tx w K mg) : DOk P w K mg base d__law_door (L2.CX P w) 14 ["_law_door_here", "_law_span", "_law_things"] (spM K true m__law_door) := by
  have o_Span___init__ := ok_Span___init__ (P := P) (w := w) (base := base) T
  have o_Span_lets := ok_Span_lets (P := P) (w := w) (base := base) T
  have o_Span_plus := ok_Span_plus (P := P) (w := w) (base := base) T
  have o_Span_minus := ok_Span_minus (P := P) (w := w) (base := base) T
  have o_both := ok_both (P := P) (w := w) (base := base) T
  have o_within := ok_within (P := P) (w := w) (base := base) T
  have o_unlike := ok_unlike (P := P) (w := w) (base := base) T
  have o_in_order := ok_in_order (P := P) (w := w) (base := base) T
  obtain ⟨fd, F⟩ := T.df__law_door
  exact ⟨fd, F, F.ok sc__law_door (fun vs H Q E h => spM_len h) (fun cdv A outer s H vs Q E hr h => ⟨_, (pss_cons (ps_if (pt_cmpR op_eq (pv 0) pe_int (nomark _)) (pss_one (ps_ret (pmkS o_Span___init__ (fun _ => passAt (takes_of rfl rfl rfl rfl) _) T.mkr_Span T.g_Span bd_Span___init___4 hr (by decide) (pa_cons (pe_ix ix_list (pv 2) pe_int (fun _ _ => rfl)) (pa_cons (pe_ix ix_list (pv 2) pe_int (fun _ _ => rfl)) (pa_cons (pe_ix ix_list (pv 2) pe_int (fun _ _ => rfl)) pa_nil)))))) pss_nil)
      (pss_cons (ps_if (pt_cmpR op_eq (pv 0) pe_int (nomark _)) (pss_one (ps_ret (pmkKS o_Span___init__ (fun _ => passAt (takes_of rfl rfl rfl rfl) _) T.mkr_Span T.g_Span bk_Span___init___2_below_above hr (by decide) (pa_cons (pe_ix ix_list (pv 2) pe_int (fun _ _ => rfl)) pa_nil) (pk_cons (pe_ix ix_list (pv 2) pe_int (fun _ _ => rfl)) (pk_cons (pe_ix ix_list (pv 2) pe_int (fun _ _ => rfl)) pk_nil))))) pss_nil)
      (pss_cons (ps_if (pt_cmpR op_eq (pv 0) pe_int (nomark _)) (pss_one (ps_ret (pmS o_Span_lets (fun _ => passAt (takes_of rfl rfl rfl rfl) _) T.cls_Span T.mt_Span_lets b_Span_lets hr (by decide) (pv 1) (pa_cons (pe_ix ix_list (pv 2) pe_int (fun _ _ => rfl)) pa_nil)))) pss_nil)
      (pss_cons (ps_if (pt_cmpR op_eq (pv 0) pe_int (nomark _)) (pss_one (ps_ret (pmS o_Span_plus (fun _ => passAt (takes_of rfl rfl rfl rfl) _) T.cls_Span T.mt_Span_plus b_Span_plus hr (by decide) (pv 1) (pa_cons (pe_ix ix_list (pv 2) pe_int (fun _ _ => rfl)) pa_nil)))) pss_nil)
      (pss_cons (ps_if (pt_cmpR op_eq (pv 0) pe_int (nomark _)) (pss_one (ps_ret (pmK0S o_Span_minus (fun _ => passAt (takes_of rfl rfl rfl rfl) _) T.cls_Span T.mt_Span_minus bk_Span_minus_1_other hr (by decide) (pv 1) (pk_cons (pe_ix ix_list (pv 2) pe_int (fun _ _ => rfl)) pk_nil)))) pss_nil)
      (pss_cons (ps_if (pt_cmpR op_eq (pv 0) pe_int (nomark _)) (pss_one (ps_ret (pcS o_both (fun _ => passAt (takes_of rfl rfl rfl rfl) _) T.g_both b_both hr (by decide) (pa_cons (pe_ix ix_list (pv 2) pe_int (fun _ _ => rfl)) (pa_cons (pe_ix ix_list (pv 2) pe_int (fun _ _ => rfl)) pa_nil))))) pss_nil)
      (pss_cons (ps_if (pt_cmpR op_eq (pv 0) pe_int (nomark _)) (pss_one (ps_ret (pcK0S o_within (fun _ => passAt (takes_of rfl rfl rfl rfl) _) T.g_within bk_within_0_other_one hr (by decide) (pk_cons (pe_ix ix_list (pv 2) pe_int (fun _ _ => rfl)) (pk_cons (pe_ix ix_list (pv 2) pe_int (fun _ _ => rfl)) pk_nil))))) pss_nil)
      (pss_cons (ps_if (pt_cmpR op_eq (pv 0) pe_int (nomark _)) (pss_one (ps_ret (pcS o_unlike (fun _ => passAt (takes_of rfl rfl rfl rfl) _) T.g_unlike b_unlike hr (by decide) (pa_cons (pe_ix ix_list (pv 2) pe_int (fun _ _ => rfl)) (pa_cons (pe_ix ix_list (pv 2) pe_int (fun _ _ => rfl)) pa_nil))))) pss_nil)
      (pss_one (ps_ret (pcKS o_in_order (fun _ => passAt (takes_of rfl rfl rfl rfl) _) T.g_in_order bk_in_order_1_falling hr (by decide) (pa_cons (pe_ix ix_list (pv 2) pe_int (fun _ _ => rfl)) pa_nil) (pk_cons (pe_cmpR op_gt (pe_callB (call_len_seq) (by rfl) T.f_len (by decide +kernel) (pa_cons (pv 2) pa_nil)) pe_int (nomark _)) pk_nil)))))))))))), spM_runX (E := E) (n := 3) (N := ["_law_door_here", "_law_span", "_law_things"]) (sim_seq (sim_ifS (sim_test (sim_op os_eqS sim_var sim_int)) (sim_ret (sim_makeS (sim_cons (sim_op os_ixL sim_var sim_int) (sim_cons (sim_op os_ixL sim_var sim_int) (sim_cons (sim_op os_ixL sim_var sim_int) sim_nil))) (fun _ _ => RepL.nilR))) sim_next)
      (sim_seq (sim_ifS (sim_test (sim_op os_eqS sim_var sim_int)) (sim_ret (sim_makeKS (sim_cons (sim_op os_ixL sim_var sim_int) sim_nil) (sim_cons (sim_op os_ixL sim_var sim_int) (sim_cons (sim_op os_ixL sim_var sim_int) sim_nil)) (fun x ι G ps vs zs ws r1 r2 => ⟨_, rfl, ((r1.app ((r2.drop 1).take 1)).app ((r2.drop 0).take 1))⟩))) sim_next)
      (sim_seq (sim_ifS (sim_test (sim_op os_eqS sim_var sim_int)) (sim_ret (sim_methS sim_var (sim_cons (sim_op os_ixL sim_var sim_int) sim_nil) (fun _ _ => RepL.nilR))) sim_next)
      (sim_seq (sim_ifS (sim_test (sim_op os_eqS sim_var sim_int)) (sim_ret (sim_methS sim_var (sim_cons (sim_op os_ixL sim_var sim_int) sim_nil) (fun _ _ => RepL.nilR))) sim_next)
      (sim_seq (sim_ifS (sim_test (sim_op os_eqS sim_var sim_int)) (sim_ret (sim_methKS sim_var sim_nil (sim_cons (sim_op os_ixL sim_var sim_int) sim_nil) (fun ι G ps vs zs ws r1 r2 => (r1.app ((r2.drop 0).take 1))))) sim_next)
      (sim_seq (sim_ifS (sim_test (sim_op os_eqS sim_var sim_int)) (sim_ret (sim_callS (sim_cons (sim_op os_ixL sim_var sim_int) (sim_cons (sim_op os_ixL sim_var sim_int) sim_nil)) (fun _ _ => RepL.nilR))) sim_next)
      (sim_seq (sim_ifS (sim_test (sim_op os_eqS sim_var sim_int)) (sim_ret (sim_callKS sim_nil (sim_cons (sim_op os_ixL sim_var sim_int) (sim_cons (sim_op os_ixL sim_var sim_int) sim_nil)) (fun ι G ps vs zs ws r1 r2 => ((r1.app ((r2.drop 1).take 1)).app ((r2.drop 0).take 1))))) sim_next)
      (sim_seq (sim_ifS (sim_test (sim_op os_eqS sim_var sim_int)) (sim_ret (sim_callS (sim_cons (sim_op os_ixL sim_var sim_int) (sim_cons (sim_op os_ixL sim_var sim_int) sim_nil)) (fun _ _ => RepL.nilR))) sim_next)
      (sim_ret (sim_callKS (sim_cons (sim_op os_ixL sim_var sim_int) sim_nil) (sim_cons (sim_op os_gt (sim_cb cb_len (sim_cons sim_var sim_nil)) sim_int) sim_nil) (fun ι G ps vs zs ws r1 r2 => ((r1.app (RepL.one rp_non)).app ((r2.drop 0).take 1))))))))))))) h⟩)⟩
theorem sc__law_sort : FnScope ["_law_e", "_law_odd", "_law_kinds"] ["_law_e"] (defScope s__law_sort) := ⟨rfl, rfl, rfl, by decide +kernel, rfl, by decide +kernel, by decide +kernel⟩
theorem okW__law_sort (T : Tx w K mg) : DOkW P w K mg base d__law_sort CX0 1 ["_law_e"] (spM K false m__law_sort) := by
  obtain ⟨fd, F⟩ := T.df__law_sort
  exact ⟨fd, F, okW F sc__law_sort (fun vs H Q E h => spM_len h) (fun cdv A outer s H vs Q E hr h => ⟨_, PSs.nox (pss_cons (ps_set (i := 1) sc__law_sort.nd rfl (Or.inl rfl) (pe_callB (x_isaT (K := K) rfl) (by rfl) T.f_isinstance (by decide +kernel) (pa_cons (pv 0) (pa_cons (pe_tup (pa_cons (pe_glob (v := .ref (He.ga K "NoDrawing")) rfl T.g_NoDrawing rfl) (pa_cons (pe_glob (v := .ref (He.ga K "NoLimits")) rfl T.g_NoLimits rfl) (pa_cons (pe_glob (v := .ref (He.ga K "NoLine")) rfl T.g_NoLine rfl) (pa_cons (pe_glob (v := .ref (He.ga K "NoName")) rfl T.g_NoName rfl) (pa_cons (pe_glob (v := .ref (He.ga K "NoNew")) rfl T.g_NoNew rfl) (pa_cons (pe_glob (v := .ref (He.ga K "NoOption")) rfl T.g_NoOption rfl) (pa_cons (pe_glob (v := .ref (He.ga K "NoPlace")) rfl T.g_NoPlace rfl) (pa_cons (pe_glob (v := .ref (He.ga K "NoRow")) rfl T.g_NoRow rfl) (pa_cons (pe_glob (v := .ref (He.ga K "NoSieve")) rfl T.g_NoSieve rfl) (pa_cons (pe_glob (v := .ref (He.ga K "NoTray")) rfl T.g_NoTray rfl) pa_nil))))))))))) pa_nil))))
      (pss_cons (ps_set (i := 1) sc__law_sort.nd rfl (Or.inl rfl) (pe_or (pv 1) (pe_one (pe_callB (x_isaT (K := K) rfl) (by rfl) T.f_isinstance (by decide +kernel) (pa_cons (pv 0) (pa_cons (pe_tup (pa_cons (pe_glob (v := .ref (He.ga K "NoWants")) rfl T.g_NoWants rfl) (pa_cons (pe_glob (v := .ref (He.ga K "NoWord")) rfl T.g_NoWord rfl) (pa_cons (pe_glob (v := .ref (He.ga K "NoZeros")) rfl T.g_NoZeros rfl) (pa_cons (pe_glob (v := .ref (He.ga K "ReadError")) rfl T.g_ReadError rfl) (pa_cons (pe_glob (v := .ref (He.ga K "RoomError")) rfl T.g_RoomError rfl) (pa_cons (pe_glob (v := .ref (He.ga K "TooLong")) rfl T.g_TooLong rfl) (pa_cons (pe_glob (v := .ref (He.ga K "MissError")) rfl T.g_MissError rfl) pa_nil)))))))) pa_nil))))))
      (pss_cons (ps_set (i := 1) sc__law_sort.nd rfl (Or.inl rfl) (pe_or (pv 1) (pe_one (pe_callB (x_isaT (K := K) rfl) (by rfl) T.f_isinstance (by decide +kernel) (pa_cons (pv 0) (pa_cons (pe_tup (pa_cons (pe_bltn (v := .ty "LookupError") (u := .type "LookupError") (by rfl) T.f_LookupError (by decide +kernel) rfl) (pa_cons (pe_bltn (v := .ty "ArithmeticError") (u := .type "ArithmeticError") (by rfl) T.f_ArithmeticError (by decide +kernel) rfl) pa_nil))) pa_nil))))))
      (pss_cons (ps_set (i := 2) sc__law_sort.nd rfl (Or.inl rfl) (pe_lst (pa_cons (pe_callB (x_isa (K := K) rfl) (by rfl) T.f_isinstance (by decide +kernel) (pa_cons (pv 0) (pa_cons (pe_glob (v := .ref (He.ga K "NoMeasure")) rfl T.g_NoMeasure rfl) pa_nil))) (pa_cons (pe_callB (x_isa (K := K) rfl) (by rfl) T.f_isinstance (by decide +kernel) (pa_cons (pv 0) (pa_cons (pe_glob (v := .ref (He.ga K "NoAllowance")) rfl T.g_NoAllowance rfl) pa_nil))) (pa_cons (pe_callB (x_isa (K := K) rfl) (by rfl) T.f_isinstance (by decide +kernel) (pa_cons (pv 0) (pa_cons (pe_glob (v := .ref (He.ga K "NoSpan")) rfl T.g_NoSpan rfl) pa_nil))) pa_nil)))))
      (pss_cons (ps_if (PW.pt (pw_or (pt_val (pv 1)) (pw_or (pt_cmpR op_ne (pe_bm PySem.F.plainAttrs_list PySem.F.slot_list_count PySem.F.type_list_count mt_cntV (pv 2) (pa_cons pe_bl pa_nil)) pe_int (nomark _)) (pw_or1 (pt_not (pt_val (pe_callB (x_isa (K := K) rfl) (by rfl) T.f_isinstance (by decide +kernel) (pa_cons (pv 0) (pa_cons (pe_bltn (v := .ty "ValueError") (u := .type "ValueError") (by rfl) T.f_ValueError (by decide +kernel) rfl) pa_nil))))))))) (pss_one (ps_ret pe_str)) pss_nil)
      (pss_one (ps_ret (pe_ix ix_list (pe_lst (pa_cons pe_str (pa_cons pe_str (pa_cons pe_str pa_nil)))) (pe_bm PySem.F.plainAttrs_list PySem.F.slot_list_index PySem.F.type_list_index mt_index (pv 2) (pa_cons pe_bl pa_nil)) (fun _ _ => rfl))))))))), spM_run (n := 1) (N := ["_law_e", "_law_odd", "_law_kinds"]) (sim_seq (sim_asg (sim_isT (it_isx T.xk) sim_var (sim_cons sim_cls (sim_cons sim_cls (sim_cons sim_cls (sim_cons sim_cls (sim_cons sim_cls (sim_cons sim_cls (sim_cons sim_cls (sim_cons sim_cls (sim_cons sim_cls (sim_cons sim_cls sim_nil))))))))))) sim_nm)
      (sim_seq (sim_asg (sim_orV sim_var (sim_isT (it_isx T.xk) sim_var (sim_cons sim_cls (sim_cons sim_cls (sim_cons sim_cls (sim_cons sim_cls (sim_cons sim_cls (sim_cons sim_cls (sim_cons sim_cls sim_nil))))))))) sim_nm)
      (sim_seq (sim_asg (sim_orV sim_var (sim_isT (it_isx T.xk) sim_var (sim_cons sim_ty (sim_cons sim_ty sim_nil)))) sim_nm)
      (sim_seq (sim_asg (sim_lst (sim_cons (sim_cb (cb_isx T.xk) (sim_cons sim_var (sim_cons sim_cls sim_nil))) (sim_cons (sim_cb (cb_isx T.xk) (sim_cons sim_var (sim_cons sim_cls sim_nil))) (sim_cons (sim_cb (cb_isx T.xk) (sim_cons sim_var (sim_cons sim_cls sim_nil))) sim_nil)))) sim_nm)
      (sim_seq (sim_ifS (sim_or (sim_B sim_var) (sim_or (sim_test (sim_op os_neS (sim_bml ml_count sim_var (sim_cons sim_bl sim_nil)) sim_int)) (sim_not (sim_B (sim_cb (cb_isx T.xk) (sim_cons sim_var (sim_cons sim_ty sim_nil))))))) (sim_ret sim_str) sim_next)
      (sim_ret (sim_op os_ixL (sim_lst (sim_cons sim_str (sim_cons sim_str (sim_cons sim_str sim_nil)))) (sim_bml ml_index sim_var (sim_cons sim_bl sim_nil))))))))) h⟩)⟩
theorem sc__law_seen : FnScope ["_law_door_here", "_law_span", "_law_things", "_law_told", "_law_e"] ["_law_door_here", "_law_span", "_law_things"] (defScope s__law_seen) := ⟨rfl, rfl, rfl, by decide +kernel, rfl, by decide +kernel, by decide +kernel⟩
theorem ok__law_seen (T : Tx w K mg) : DOk P w K mg base d__law_seen CX0 15 ["_law_door_here", "_law_span", "_law_things"] (spM K false m__law_seen) := by
  have o__law_door := ok__law_door (P := P) (w := w) (base := base) T
  have ow__law_sort := okW__law_sort (P := P) (w := w) (base := base) T
  obtain ⟨fd, F⟩ := T.df__law_seen
  exact ⟨fd, F, F.ok sc__law_seen (fun vs H Q E h => spM_len h) (fun cdv A outer s H vs Q E hr h => ⟨_, PSs.nox (pss_cons (ps_set (i := 3) sc__law_seen.nd rfl (Or.inl rfl) pe_str)
      (pss_cons (ps_try_asT (i := 4) rfl rfl rfl sc__law_seen.nd rfl rfl ⟨rfl, by decide, .inl T.g_FitError⟩ takes0 (fun W pn xe tk po => (pss_one (ps_expr (pcS o__law_door (fun _ => passAt tk _) T.g__law_door b__law_door hr (by decide) (pa_cons (pv 0) (pa_cons (pv 1) (pa_cons (pv 2) pa_nil)))))))
      (fun a pn => (pss_one (ps_set (i := 3) sc__law_seen.nd rfl (Or.inl rfl) (pcW ow__law_sort T.g__law_sort b__law_sort (hr.hot _) (by decide) (pa_cons (pv 4) pa_nil))))))
      (pss_one (ps_ret (pv 3))))), spM_run (n := 3) (N := ["_law_door_here", "_law_span", "_law_things", "_law_told", "_law_e"]) (sim_seq (sim_asg sim_str sim_nm)
      (sim_seq (sim_tryAs (fun _ z => by cases z) (T.xk.cm (q := .own "FitError") (by decide)) (fun W => (sim_exp (sim_callS (sim_cons sim_var (sim_cons sim_var (sim_cons sim_var sim_nil))) (fun _ _ => RepL.nilR))))
      (sim_asg (sim_callW (sim_cons sim_var sim_nil)) sim_nm))
      (sim_ret sim_var))) h⟩)⟩
theorem sc_Span___len__ : FnScope ["self"] ["self"] (defScope s_Span___len__) := ⟨rfl, rfl, rfl, by decide +kernel, rfl, by decide +kernel, by decide +kernel⟩
theorem ok_Span___len__ (T : Tx w K mg) : DOk P w K mg base d_Span___len__ CX0 1 ["self"] (spM K false m_Span___len__) := by
  obtain ⟨fd, F⟩ := T.df_Span___len__
  exact ⟨fd, F, F.ok sc_Span___len__ (fun vs H Q E h => spM_len h) (fun cdv A outer s H vs Q E hr h => ⟨_, PSs.nox (pss_one (ps_ret (pe_callB (call_len_rng) (by rfl) T.f_len (by decide +kernel) (pa_cons (pe_callTy (cr_range2) (by rfl) T.f_range (by decide +kernel) (pa_cons (pe_fld (pv 0) rfl) (pa_cons (pe_op op_add (pe_fld (pv 0) rfl) pe_int) pa_nil))) pa_nil)))), spM_run (n := 1) (N := ["self"]) (sim_ret (sim_cb cb_lenR (sim_cons (sim_cb cb_rng (sim_cons (sim_fld T.cls_Span T.no_Span_low sim_var) (sim_cons (sim_op os_add (sim_fld T.cls_Span T.no_Span_high sim_var) sim_int) sim_nil))) sim_nil))) h⟩)⟩
theorem sc__law_right : FnScope ["_law_purse_here", "_law_parts_here", "_law_spans", "_law_ahead", "_law_door_here", "_law_bits", "_law_due", "_law_length", "_law_twin", "_law_row_here", "_law_things"] ["_law_purse_here"] (defScope s__law_right) := ⟨rfl, rfl, rfl, by decide +kernel, rfl, by decide +kernel, by decide +kernel⟩
theorem ok__law_right (T : Tx w K mg) : DOkG P w K mg base d__law_right CX0 16 ["_law_purse_here"] (spM K false m__law_right) := by
  have o__law_take := ok__law_take (P := P) (w := w) (base := base) T
  have o__law_parts := ok__law_parts (P := P) (w := w) (base := base) T
  have o_Span___init__ := ok_Span___init__ (P := P) (w := w) (base := base) T
  have o__law_made := ok__law_made (P := P) (w := w) (base := base) T
  have o__law_no_number := ok__law_no_number (P := P) (w := w) (base := base) T
  have o__law_two := ok__law_two (P := P) (w := w) (base := base) T
  have o__law_row := ok__law_row (P := P) (w := w) (base := base) T
  have o_Span___repr__ := ok_Span___repr__ (P := P) (w := w) (base := base) T
  have o__law_seen := ok__law_seen (P := P) (w := w) (base := base) T
  have o_Span_lets := ok_Span_lets (P := P) (w := w) (base := base) T
  have o_Span___len__ := ok_Span___len__ (P := P) (w := w) (base := base) T
  obtain ⟨fd, F⟩ := T.df__law_right
  exact ⟨fd, F, okG F sc__law_right (fun vs H Q E h => spM_len h) (fun cdv A outer s H vs Q E hr hg h => ⟨_, PSs.nox (pss_cons (ps_par (i := 4) (j := 5) (by rfl) sc__law_right.nd rfl rfl (by decide) rfl rfl (pa_cons (pc o__law_take T.g__law_take b__law_take hr (by decide) (pa_cons (pv 0) (pa_cons pe_int pa_nil))) (pa_cons (pc o__law_take T.g__law_take b__law_take hr (by decide) (pa_cons (pv 0) (pa_cons pe_int pa_nil))) pa_nil)) (by rfl))
      (pss_cons (ps_set (i := 1) sc__law_right.nd rfl (Or.inl rfl) (pe_lst (pa_cons (pc o__law_parts T.g__law_parts b__law_parts hr (by decide) (pa_cons (pv 0) (pa_cons pe_int pa_nil))) (pa_cons (pc o__law_parts T.g__law_parts b__law_parts hr (by decide) (pa_cons (pv 0) (pa_cons pe_int pa_nil))) pa_nil))))
      (pss_cons (ps_setLc (i := 2) (own := [("_law_row_here", 9)]) (g := gName 9) (tt := tYes) rfl sc__law_right.nd rfl rfl (sw_true rfl rfl rfl (by decide +kernel)) (pi_list (pv 1)) (blkOk_by (N := ["_law_purse_here", "_law_parts_here", "_law_spans", "_law_ahead", "_law_door_here", "_law_bits", "_law_due", "_law_length", "_law_twin", "_law_row_here", "_law_things"]) (sc := defScope s__law_right) (own := [("_law_row_here", 9)]) (by decide +kernel)) (fun _ _ _ _ _ => (pg_name (i := 9) sc__law_right.nd rfl (Or.inl rfl))) (fun _ _ _ _ _ => pts_nil) (fun _ _ _ _ _ => (pmkS o_Span___init__ passE0 T.mkr_Span T.g_Span bd_Span___init___4 hr (by decide) (pa_cons (pe_ix ix_tup (pv 9) pe_int (fun _ _ => rfl)) (pa_cons (pe_ix ix_tup (pv 9) pe_int (fun _ _ => rfl)) (pa_cons (pe_ix ix_tup (pv 9) pe_int (fun _ _ => rfl)) pa_nil))))))
      (pss_cons (ps_if (pt_cmpR op_lt (pv 4) pe_int (nomark _)) (pss_one (ps_asg (pc o__law_made T.g__law_made b__law_made hr (by decide) (pa_cons (pv 0) (pa_cons (pe_ix ix_list (pv 1) pe_int (fun _ _ => rfl)) (pa_cons (pv 5) pa_nil)))) (pg_tup rfl (pgs_cons (pg_name (i := 10) sc__law_right.nd rfl (Or.inl rfl)) (pgs_cons (pg_name (i := 6) sc__law_right.nd rfl (Or.inl rfl)) pgs_nil))))) (pss_one (ps_if (pt_cmpR op_eq (pv 4) pe_int (nomark _)) (pss_cons (ps_par (i := 10) (j := 6) (by rfl) sc__law_right.nd rfl rfl (by decide) rfl rfl (pa_cons (pe_lst (pa_cons (pe_ix ix_tup (pe_ix ix_list (pv 1) pe_int (fun _ _ => rfl)) pe_int (fun _ _ => rfl)) pa_nil)) (pa_cons pe_str pa_nil)) (by rfl))
      (pss_one (ps_if (pt_cmpR op_eq (pe_op op_mod (pv 5) pe_int) pe_int (nomark _)) (pss_one (ps_par (i := 10) (j := 6) (by rfl) sc__law_right.nd rfl rfl (by decide) rfl rfl (pa_cons (pe_lst (pa_cons (pc o__law_no_number T.g__law_no_number b__law_no_number hr (by decide) (pa_cons (pv 0) pa_nil)) pa_nil)) (pa_cons pe_str pa_nil)) (by rfl))) pss_nil))) (pss_one (ps_if (pt_cmpR op_lt (pv 4) pe_int (nomark _)) (pss_one (ps_asg (pc o__law_two T.g__law_two b__law_two hr (by decide) (pa_cons (pv 0) (pa_cons (pv 2) (pa_cons (pv 5) pa_nil)))) (pg_tup rfl (pgs_cons (pg_name (i := 10) sc__law_right.nd rfl (Or.inl rfl)) (pgs_cons (pg_name (i := 6) sc__law_right.nd rfl (Or.inl rfl)) pgs_nil))))) (pss_cons (ps_asg (pc o__law_row T.g__law_row b__law_row hr (by decide) (pa_cons (pv 0) (pa_cons (pv 2) (pa_cons (pv 5) pa_nil)))) (pg_tup rfl (pgs_cons (pg_name (i := 9) sc__law_right.nd rfl (Or.inl rfl)) (pgs_cons (pg_name (i := 6) sc__law_right.nd rfl (Or.inl rfl)) pgs_nil))))
      (pss_one (ps_set (i := 10) sc__law_right.nd rfl (Or.inl rfl) (pe_op op_cat (pe_lst (pa_cons (pv 9) pa_nil)) (pe_op op_rep (pe_lst (pa_cons pe_bl pa_nil)) (pe_op op_fdiv (pv 5) pe_int)))))))))))
      (pss_cons (ps_if (pt_cmpR op_in_seq (pv 4) (pe_tup (pa_cons pe_int (pa_cons pe_int pa_nil))) rfl) (pss_one (ps_set (i := 6) sc__law_right.nd rfl (Or.inl rfl) (pe_ix ix_list (pe_lst (pa_cons pe_str (pa_cons pe_str pa_nil))) (pe_op op_mod (pv 5) pe_int) (fun _ _ => rfl)))) pss_nil)
      (pss_cons (ps_set (i := 3) sc__law_right.nd rfl (Or.inl rfl) (pe_op op_add_str (pe_callB (call_reprO (k := _) (.cons o_Span___repr__ T.mt_Span___repr__ b_Span___repr__ .nil) hg hr (by decide)) (by rfl) T.f_repr (by decide +kernel) (pa_cons (pv 10) pa_nil)) (pe_callB (call_reprO (k := _) (.cons o_Span___repr__ T.mt_Span___repr__ b_Span___repr__ .nil) hg hr (by decide)) (by rfl) T.f_repr (by decide +kernel) (pa_cons (pv 2) pa_nil))))
      (pss_cons (ps_if (PW.pt (pw_or (pt_cmpR op_ne (pc o__law_seen T.g__law_seen b__law_seen hr (by decide) (pa_cons (pv 4) (pa_cons (pe_ix ix_list (pv 2) pe_int (fun _ _ => rfl)) (pa_cons (pv 10) pa_nil)))) (pv 6) (nomark _)) (pw_or1 (pt_cmpR op_ne (pe_op op_add_str (pe_callB (call_reprO (k := _) (.cons o_Span___repr__ T.mt_Span___repr__ b_Span___repr__ .nil) hg hr (by decide)) (by rfl) T.f_repr (by decide +kernel) (pa_cons (pv 10) pa_nil)) (pe_callB (call_reprO (k := _) (.cons o_Span___repr__ T.mt_Span___repr__ b_Span___repr__ .nil) hg hr (by decide)) (by rfl) T.f_repr (by decide +kernel) (pa_cons (pv 2) pa_nil))) (pv 3) (nomark _))))) (pss_one (ps_ret pe_bl)) pss_nil)
      (pss_cons (ps_for PassesOwn.never rfl (pi_list (pe_lst (pa_cons (pe_tup (pa_cons pe_int (pa_cons pe_bl pa_nil))) (pa_cons (pe_tup (pa_cons pe_int (pa_cons pe_bl pa_nil))) pa_nil)))) (pg_tup rfl (pgs_cons (pg_name (i := 7) sc__law_right.nd rfl (Or.inl rfl)) (pgs_cons (pg_name (i := 8) sc__law_right.nd rfl (Or.inl rfl)) pgs_nil)))
      (pss_cons (ps_if (pt_cmpR op_ne (pmS o_Span_lets passE0 T.cls_Span T.mt_Span_lets b_Span_lets hr (by decide) (pe_ix ix_list (pv 2) pe_int (fun _ _ => rfl)) (pa_cons (pv 7) pa_nil)) (pe_chain op_le op_le (pe_fld (pe_ix ix_list (pv 2) pe_int (fun _ _ => rfl)) rfl) (pv 7) (pe_fld (pe_ix ix_list (pv 2) pe_int (fun _ _ => rfl)) rfl)) (nomark _)) (pss_one (ps_ret pe_bl)) pss_nil)
      (pss_one (ps_if (pt_cmpR op_ne (pc o__law_seen T.g__law_seen b__law_seen hr (by decide) (pa_cons pe_int (pa_cons (pe_ix ix_list (pv 2) pe_int (fun _ _ => rfl)) (pa_cons (pe_lst (pa_cons (pv 8) pa_nil)) pa_nil)))) pe_str (nomark _)) (pss_one (ps_ret pe_bl)) pss_nil))))
      (pss_one (ps_ret (pe_cmpR op_eq (pe_callB (call_olen o_Span___len__ T.mt_Span___len__ b_Span___len__ hr (by decide)) (by rfl) T.f_len (by decide +kernel) (pa_cons (pe_ix ix_list (pv 2) pe_int (fun _ _ => rfl)) pa_nil)) (pe_op op_add (pe_op op_add (pe_ix ix_tup (pe_ix ix_list (pv 1) pe_int (fun _ _ => rfl)) pe_int (fun _ _ => rfl)) (pe_ix ix_tup (pe_ix ix_list (pv 1) pe_int (fun _ _ => rfl)) pe_int (fun _ _ => rfl))) pe_int) (nomark _)))))))))))), spM_run (n := 1) (N := ["_law_purse_here", "_law_parts_here", "_law_spans", "_law_ahead", "_law_door_here", "_law_bits", "_law_due", "_law_length", "_law_twin", "_law_row_here", "_law_things"]) (sim_seq (sim_par (sim_cons (sim_call (sim_cons sim_var (sim_cons sim_int sim_nil)) (fun _ _ => RepL.nilR)) (sim_cons (sim_call (sim_cons sim_var (sim_cons sim_int sim_nil)) (fun _ _ => RepL.nilR)) sim_nil)))
      (sim_seq (sim_asg (sim_lst (sim_cons (sim_call (sim_cons sim_var (sim_cons sim_int sim_nil)) (fun _ _ => RepL.nilR)) (sim_cons (sim_call (sim_cons sim_var (sim_cons sim_int sim_nil)) (fun _ _ => RepL.nilR)) sim_nil))) sim_nm)
      (sim_seq (sim_asg (sim_lc (gw_nm (by decide)) mg_nm (sim_iL sim_var) g0_nm sim_yesP (sim_makeX (sim_cons (sim_op os_ixT sim_var sim_int) (sim_cons (sim_op os_ixT sim_var sim_int) (sim_cons (sim_op os_ixT sim_var sim_int) sim_nil))) (fun _ _ => RepL.nilR))) sim_nm)
      (sim_seq (sim_ifS (sim_test (sim_op os_lt sim_var sim_int)) (sim_asg (sim_call (sim_cons sim_var (sim_cons (sim_op os_ixL sim_var sim_int) (sim_cons sim_var sim_nil))) (fun _ _ => RepL.nilR)) (sim_g0 (g0_tup (E := none) (g0_cons g0_nm (g0_cons g0_nm g0_nil))))) (sim_ifS (sim_test (sim_op os_eqS sim_var sim_int)) (sim_seq (sim_par (sim_cons (sim_lst (sim_cons (sim_op os_ixT (sim_op os_ixL sim_var sim_int) sim_int) sim_nil)) (sim_cons sim_str sim_nil)))
      (sim_ifS (sim_test (sim_op os_eqS (sim_op os_mod sim_var sim_int) sim_int)) (sim_par (sim_cons (sim_lst (sim_cons (sim_call (sim_cons sim_var sim_nil) (fun _ _ => RepL.nilR)) sim_nil)) (sim_cons sim_str sim_nil))) sim_next)) (sim_ifS (sim_test (sim_op os_lt sim_var sim_int)) (sim_asg (sim_call (sim_cons sim_var (sim_cons sim_var (sim_cons sim_var sim_nil))) (fun _ _ => RepL.nilR)) (sim_g0 (g0_tup (E := none) (g0_cons g0_nm (g0_cons g0_nm g0_nil))))) (sim_seq (sim_asg (sim_call (sim_cons sim_var (sim_cons sim_var (sim_cons sim_var sim_nil))) (fun _ _ => RepL.nilR)) (sim_g0 (g0_tup (E := none) (g0_cons g0_nm (g0_cons g0_nm g0_nil)))))
      (sim_asg (sim_op os_catL (sim_lst (sim_cons sim_var sim_nil)) (sim_op os_rep (sim_lst (sim_cons sim_bl sim_nil)) (sim_op os_fdiv sim_var sim_int))) sim_nm)))))
      (sim_seq (sim_ifS (sim_test (sim_op os_inS sim_var (sim_tup (sim_cons sim_int (sim_cons sim_int sim_nil))))) (sim_asg (sim_op os_ixL (sim_lst (sim_cons sim_str (sim_cons sim_str sim_nil))) (sim_op os_mod sim_var sim_int)) sim_nm) sim_next)
      (sim_seq (sim_asg (sim_op os_addS (sim_cb cb_reprO (sim_cons sim_var sim_nil)) (sim_cb cb_reprO (sim_cons sim_var sim_nil))) sim_nm)
      (sim_seq (sim_ifS (sim_or (sim_test (sim_op os_neS (sim_call (sim_cons sim_var (sim_cons (sim_op os_ixL sim_var sim_int) (sim_cons sim_var sim_nil))) (fun _ _ => RepL.nilR)) sim_var)) (sim_test (sim_op os_neS (sim_op os_addS (sim_cb cb_reprO (sim_cons sim_var sim_nil)) (sim_cb cb_reprO (sim_cons sim_var sim_nil))) sim_var))) (sim_ret sim_bl) sim_next)
      (sim_seq (sim_for (sim_iL (sim_lst (sim_cons (sim_tup (sim_cons sim_int (sim_cons sim_bl sim_nil))) (sim_cons (sim_tup (sim_cons sim_int (sim_cons sim_bl sim_nil))) sim_nil)))) (sim_g0 (g0_tup (E := none) (g0_cons g0_nm (g0_cons g0_nm g0_nil)))) (sim_seq (sim_ifS (sim_test (sim_op os_neS (sim_methX (sim_op os_ixL sim_var sim_int) (sim_cons sim_var sim_nil) (fun _ _ => RepL.nilR)) (sim_chain os_le os_le (sim_fld T.cls_Span T.no_Span_low (sim_op os_ixL sim_var sim_int)) sim_var (sim_fld T.cls_Span T.no_Span_high (sim_op os_ixL sim_var sim_int))))) (sim_ret sim_bl) sim_next)
      (sim_ifS (sim_test (sim_op os_neS (sim_call (sim_cons sim_int (sim_cons (sim_op os_ixL sim_var sim_int) (sim_cons (sim_lst (sim_cons sim_var sim_nil)) sim_nil))) (fun _ _ => RepL.nilR)) sim_str)) (sim_ret sim_bl) sim_next)))
      (sim_ret (sim_op os_eqS (sim_cb cb_olen (sim_cons (sim_op os_ixL sim_var sim_int) sim_nil)) (sim_op os_add (sim_op os_add (sim_op os_ixT (sim_op os_ixL sim_var sim_int) sim_int) (sim_op os_ixT (sim_op os_ixL sim_var sim_int) sim_int)) sim_int))))))))))) h⟩)⟩
theorem sc_law : FnScope ["_law_script", "_law_cell_here"] ["_law_script"] (defScope s_law) := ⟨rfl, rfl, rfl, by decide +kernel, rfl, by decide +kernel, by decide +kernel⟩
theorem ok_law (T : Tx w K mg) : DOkG P w K mg base d_law CX0 17 ["_law_script"] (spM K false m_law) := by
  have o__law_cells := ok__law_cells (P := P) (w := w) (base := base) T
  have o__law_purse := ok__law_purse (P := P) (w := w) (base := base) T
  have o__law_right := ok__law_right (P := P) (w := w) (base := base) T
  obtain ⟨fd, F⟩ := T.df_law
  exact ⟨fd, F, okG F sc_law (fun vs H Q E h => spM_len h) (fun cdv A outer s H vs Q E hr hg h => ⟨_, PSs.nox (pss_one (ps_ret (pe_callB (x_all (K := K) rfl rfl) (by rfl) T.f_all (by decide +kernel) (pa_cons (pe_lc (own := [("_law_cell_here", 1)]) (g := gName 1) (tt := tYes) rfl sc_law.nd (pi_list (pc o__law_cells T.g__law_cells b__law_cells hr (by decide) (pa_cons (pv 0) (pa_cons pe_int (pa_cons pe_int pa_nil))))) (blkOk_by (N := ["_law_script", "_law_cell_here"]) (sc := defScope s_law) (own := [("_law_cell_here", 1)]) (by decide +kernel)) (fun _ _ _ _ _ => (pg_name (i := 1) sc_law.nd rfl (Or.inl rfl))) (fun _ _ _ _ _ => pts_nil) (fun _ _ _ _ _ => (pcG o__law_right T.g__law_right b__law_right hr hg (by decide) (pa_cons (pc o__law_purse T.g__law_purse b__law_purse hr (by decide) (pa_cons (pv 1) pa_nil)) pa_nil)))) pa_nil)))), spM_run (n := 1) (N := ["_law_script", "_law_cell_here"]) (sim_ret (sim_cb cb_all (sim_cons (sim_lc (gw_nm (by decide)) mg_nm (sim_iL (sim_call (sim_cons sim_var (sim_cons sim_int (sim_cons sim_int sim_nil))) (fun _ _ => RepL.nilR))) g0_nm sim_yesP (sim_call (sim_cons (sim_call (sim_cons sim_var sim_nil) (fun _ _ => RepL.nilR)) sim_nil) (fun _ _ => RepL.nilR))) sim_nil))) h⟩)⟩
end
end Qg
theorem PySem.Challenge.cw_fitwords_k06_spans_refused_holds : PySem.Challenge.rw_fitwords_k06_spans_refused.Holds :=
  Qe.end_gen Qg.tl_in_order rfl Qg.m_law Qg.law_true Qg.ok_law
#print axioms PySem.Challenge.cw_fitwords_k06_spans_refused_holds
