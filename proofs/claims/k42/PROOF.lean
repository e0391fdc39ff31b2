import PyProof.Rows.All
import Wide.All
import OpenK.AllK
import Wide.FinOn
import HandS.ForMost
import HandS.ForExc
import HandS.IsInst
import HandS.Defaults
import HandS.MakeKw
import HandS.Conv
import HandS.Wide
import HandS.WideMore
import HandS.Flow
import HandS.Style
import HandS.Head0
import HandS.Head1
import HandS.Head2
import HandS.HeadEnd
import HandS.HeadHook1
import HandS.HeadHook2
import HandS.HeadHook3
import HandS.HeadHook4
import HandS.EndBits
import HandS.TupSets
import PyProof.MinMaxWalk
import PyProof.DictWalks
import PyProof.ListStr
import PyProof.Rows.IntBool
import HandS.SetFor
import HandS.Sort
import HandS.Strs
import HandS.TryOnly
import HandS.Zip
import OpenK.KOps
import PyProof.InstNe
import HandS.CallSlots
import HandS.Exc
import HandS.ExcOwn
import HandS.HotCalls
import KE.KExcIs
import HandS.ExcIs
import HandS.ExcField
import HandS.ExcInit
import HandS.TupAny
import KE.KRevSl
import KE.KFmtOwn
import HandS.OwnEq
import HandS.More
import PyProof.Rows.StrMeet
import PyProof.Conv_bool
import HandS.RaiseMore
import PyProof.StrBlock2
import HandS.Text
import HandS.StrMore
import HandS.FStr
import HandS.CallLocal
import HandS.MakeKwOnly
import KE.SortData
import KE.KTryMore
import KE.KExcInit
import KE.KIntText
import HandS.Flt
import HandS.Dict
import HandS.Iter
import HandS.SetKeys
import HandS.WordsDict
import HandS.Lambda
import HandS.HeadWalk
import KE.DataMinKey
import HandS.SortInts
import KE.KDictSum
import HandS.ListItems
import KE.KDictPairs
import KE.GoesEnum
import KE.KTupSum
import KE.KEqNest
import PyProof.ReprRoads
import PyProof.Rows.RegFStrParts
import PySem.Challenge.RW_fitwords_k42_classes_that_go
set_option Elab.async false
set_option linter.all false
set_option maxRecDepth 100000
set_option maxHeartbeats 4000000
namespace Qx
open PySem PySem.Spec PyProof.Rows L2
def refB {α : Type} : List Addr → Nat → List Addr → (Nat → List Addr → α) → α
  | [], vis, nx, k => k vis nx
  | r :: rs, vis, nx, k => match Nat.testBit vis r with
    | true => refB rs vis nx k
    | false => HandSHeadRun.frNat (Nat.lor vis (Nat.shiftLeft 1 r)) fun v => refB rs v (r :: nx) k
def frontB {α : Type} (g : Addr → Option Obj) : List Addr → Nat → List Addr → (Nat → List Addr → α) → α
  | [], vis, nx, k => k vis nx
  | a :: as, vis, nx, k => match g a with
    | some o => refB (He.refsD o) vis nx fun v n => frontB g as v n k
    | none => frontB g as vis nx k
def lvB (g : Addr → Option Obj) : Nat → Nat → List Addr → List Addr → List Addr
  | 0, _, fr, acc => acc ++ fr
  | d + 1, vis, fr, acc => frontB g fr vis [] fun v n => lvB g d v n (acc ++ fr)
def asB (g : Addr → Option Obj) (n : Nat) (xs : List Addr) : List Addr := lvB g n (Nat.shiftLeft 1 mainGlobals) [mainGlobals] xs
def obsB (n : Nat) (xs : List Addr) (fa : List He.Fa) (fn : List He.DefD) (ts : List He.Tab) (ex : PySem.W.Frag → Bool) (g : Addr → Option Obj) : He.AlX := (He.obsT fa fn ts (He.frT g (asB g n xs)), ex (He.frT g (asB g n xs)))
theorem saysB_of {as : List Addr} {fa : List He.Fa} {fn : List He.DefD} {ts : List He.Tab} {ex : PySem.W.Frag → Bool} {w : World} {h : Heap} (e : ((He.obsT fa fn ts (He.frT h.get? as), ex (He.frT h.get? as)) : He.AlX) = He.valX fn ts w) : He.SaysX fa fn ts [] ex w h (He.frT h.get? as) := by
  have e1 : He.obsT fa fn ts (He.frT h.get? as) = He.valT fn ts w := congrArg (fun z : He.AlX => z.1) e
  have e2 : ex (He.frT h.get? as) = true := congrArg (fun z : He.AlX => z.2) e
  exact ⟨e1, e2, fun p hp => (nomatch hp), fun p hp => (nomatch hp), fun p hp => (nomatch hp)⟩
def hookB (n : Nat) (xs : List Addr) (fa : List He.Fa) (fn : List He.DefD) (ts : List He.Tab) (ex : PySem.W.Frag → Bool) : PySem.W.Hook where
  α := He.AlX
  obs := fun s => obsB n xs fa fn ts ex s.heap.get?
  val := fun w => He.valX fn ts w
  says := fun w h => ∃ K : PySem.W.Frag, K.In h ∧ He.SaysX fa fn ts [] ex w h K
  of := fun _ _ e => ⟨_, He.frT_in, saysB_of e⟩
  keeps := fun _ _ _ ⟨K, hK, c⟩ k => ⟨K, PySem.W.Frag.In.keeps hK k, ⟨c.t, c.more, c.hd, c.out, fun p hp => k _ _ (c.empty p hp)⟩⟩
theorem obsB_eq {n : Nat} {xs : List Addr} {fa : List He.Fa} {fn : List He.DefD} {ts : List He.Tab} {ex : PySem.W.Frag → Bool} {g : Addr → Option Obj} {s : Shared} (h : ∀ a, g a = s.heap.get? a) : obsB n xs fa fn ts ex g = (hookB n xs fa fn ts ex).obs s := by
  have e : g = s.heap.get? := funext h
  rw [e] <;> rfl
def KT : List String := ["NoneType", "int", "bool", "str", "list", "tuple", "dict"]
def exOne (K : PySem.W.Frag) (cs : List Str) (C : Str) : Bool :=
  He.eqO (PySem.W.findIn K (.ref (He.ga K C)) "__class__") (some (some (.builtin "object.__class__"))) && (decide (PySem.W.mroIn K (He.ga K C) (.type "object") = some true) &&
  (KT.all (fun t => decide (PySem.W.kitOne K (.type t) (.ref (He.ga K C)) = some false)) && (KT.all (fun t => decide (PySem.W.kitOne K (.ref (He.ga K C)) (.type t) = some false)) &&
  (cs.all (fun D => decide (C = D) || decide (PySem.W.kitOne K (.ref (He.ga K C)) (.ref (He.ga K D)) = some false)) && He.eqO (PySem.W.findIn K (.ref (He.ga K C)) "__ne__") (some (some (.builtin "object.__ne__")))))))
def exAll (K : PySem.W.Frag) (cs : List Str) : Bool :=
  He.eqO (PySem.W.specialIn K (.builtin "object.__class__") "__get__") (some (some (.builtin "getset_descriptor.__get__"))) && (decide (PySem.W.takesIn K (.builtin "object.__class__") = some true) && cs.all (exOne K cs))
inductive XN where
  | own (C : Str) | blt (n : String)
  deriving DecidableEq
def xv (K : PySem.W.Frag) : XN → Value
  | .own C => .ref (He.ga K C)
  | .blt n => .type n
def xcOne (K : PySem.W.Frag) (C : Str) : Bool :=
  He.eqO (PySem.W.findIn K (.ref (He.ga K C)) "__getattribute__") (some (some (.builtin "BaseException.__getattribute__"))) && (He.eqO (PySem.W.findIn K (.ref (He.ga K C)) "__getattr__") (some none) &&
  (decide (PySem.W.subIn K (.ref (He.ga K C)) (.type "BaseException") = some true) && (PySem.W.hasDictIn K (He.ga K C) && (He.eqO (PySem.W.findIn K (.ref (He.ga K C)) "__class__") (some (some (.builtin "object.__class__"))) &&
  (He.eqO (PySem.W.specialIn K (.builtin "object.__class__") "__get__") (some (some (.builtin "getset_descriptor.__get__"))) && (decide (PySem.W.takesIn K (.builtin "object.__class__") = some true) && (decide (PySem.W.mroIn K (He.ga K C) (.type "object") = some true) &&
  (PySem.W.keepIn K (.ref (He.ga K C)) && decide (PySem.W.typeIn K (.ref (He.ga K C)) = some (.type "type"))))))))))
def xkOne (K : PySem.W.Frag) (xa xm : List XN) (w : Str × List XN) : Bool :=
  xcOne K w.1 && (xa.all (fun q => decide (PySem.W.kitOne K (.ref (He.ga K w.1)) (xv K q) = some (decide (q ∈ w.2)))) && xm.all (fun q => decide (PySem.W.exmOne K (.ref (He.ga K w.1)) (xv K q) = some (decide (q ∈ w.2)))))
def xkAll (K : PySem.W.Frag) (xt : List (Str × List XN)) (xa xm : List XN) : Bool :=
  xt.all (xkOne K xa xm) && xa.all (fun q => decide (PySem.W.kitOne K (.type "NoneType") (xv K q) = some false))
structure EB where
  B : String
  nw : String
  ini : String
  tail : List Value
def nfAll (K : PySem.W.Frag) (cs : List Str) : Bool := cs.all fun C => KT.all (fun T => PySem.W.notFirst K (He.ga K C) (.type T)) && cs.all fun D => PySem.W.notFirst K (He.ga K C) (.ref (He.ga K D))
def shB (K : PySem.W.Frag) (cs : List Str) : Bool := cs.all fun C => He.eqO (PySem.W.findIn K (.ref (He.ga K C)) "__bool__") (some none) && He.eqO (PySem.W.findIn K (.ref (He.ga K C)) "__format__") (some (some (.builtin "object.__format__")))
inductive KV where
  | non | bl (b : Bool) | int (i : Int) | str (z : Str) | tup (l : List KV) | fn (C : Str)
mutual
def kRep (K : PySem.W.Frag) : KV → Value → Bool
  | .non, .none => true
  | .bl b, .bool c => b == c
  | .int i, .int j _ => decide (i = j)
  | .str z, .str y _ => decide (z = y)
  | .fn C, .ref a => decide (a = He.ga K C)
  | .tup l, .ref a => match K.lookup a with
    | some ⟨.type c, _, .seq its _, _⟩ => decide (c = "tuple") && (decide (its.size ≤ sizeLine) && kRepL K l its.toList)
    | _ => false
  | _, _ => false
def kRepL (K : PySem.W.Frag) : List KV → List Value → Bool
  | [], [] => true
  | k :: ks, u :: us => kRep K k u && kRepL K ks us
  | _, _ => false
end
def kdB (K : PySem.W.Frag) (x : Str) (kvs : List (Str × KV)) : Bool := kvs.all fun q => match PySem.W.nsIn K (He.ga K x) q.1 with
  | some (some u) => kRep K q.2 u
  | _ => false
end Qx
namespace Hd
open PySem PySem.Spec PyProof.Rows L2
/-! ### the text by places -/
def top (i : Nat) : Stmt := PySem.Challenge.pw_fitwords_k42_classes_that_go.main.body.getD i (.Pass ⟨0, 0, 0, 0⟩)
abbrev s__law_cell : Stmt := top 51
abbrev s__law_purse : Stmt := top 52
abbrev s__law_take : Stmt := top 53
abbrev s__law_some : Stmt := top 57
abbrev s_Tray___init__ : Stmt := inClass (top 44) 0
abbrev s_is_measure : Stmt := top 20
abbrev s_check_measure : Stmt := top 21
abbrev s_Tray_put : Stmt := inClass (top 44) 3
abbrev s__law_tray : Stmt := top 55
abbrev s__law_limits : Stmt := top 58
abbrev s__law_word : Stmt := top 59
abbrev s__law_goes : Stmt := top 56
abbrev s__law_word_by_all : Stmt := top 60
abbrev s__law_due : Stmt := top 61
abbrev s_check_tray : Stmt := top 45
abbrev s_check_width : Stmt := top 42
abbrev s_check_limits : Stmt := top 37
abbrev s_class_of : Stmt := top 43
abbrev s_Tray_classes : Stmt := inClass (top 44) 5
abbrev s_check_allowance : Stmt := top 33
abbrev s_Span___init__ : Stmt := inClass (top 34) 0
abbrev s_class_span : Stmt := top 46
abbrev s_check_span : Stmt := top 35
abbrev s_with_gap : Stmt := top 39
abbrev s_Fit___init__ : Stmt := inClass (top 38) 0
abbrev s_fit : Stmt := top 40
abbrev s_class_pairs : Stmt := top 48
abbrev s__law_pieces_right : Stmt := top 62
abbrev s__law_pairs_right : Stmt := top 63
abbrev s__law_asked_right : Stmt := top 64
abbrev s_widest : Stmt := top 49
abbrev s__law_whole : Stmt := top 54
abbrev s__law_always : Stmt := top 65
abbrev s__law_widest_right : Stmt := top 66
abbrev s_law : Stmt := top 67
def d__law_cell : He.DefD := ⟨("_law_cell", none), "_law_cell", "_law_cell", defArgs s__law_cell, defBody s__law_cell, defScope s__law_cell, [], []⟩
def d__law_purse : He.DefD := ⟨("_law_purse", none), "_law_purse", "_law_purse", defArgs s__law_purse, defBody s__law_purse, defScope s__law_purse, [], []⟩
def d__law_take : He.DefD := ⟨("_law_take", none), "_law_take", "_law_take", defArgs s__law_take, defBody s__law_take, defScope s__law_take, [], []⟩
def d__law_some : He.DefD := ⟨("_law_some", none), "_law_some", "_law_some", defArgs s__law_some, defBody s__law_some, defScope s__law_some, [], []⟩
def d_Tray___init__ : He.DefD := ⟨("Tray", some "__init__"), "__init__", "Tray.__init__", defArgs s_Tray___init__, defBody s_Tray___init__, defScope s_Tray___init__, [], []⟩
def d_is_measure : He.DefD := ⟨("is_measure", none), "is_measure", "is_measure", defArgs s_is_measure, defBody s_is_measure, defScope s_is_measure, [], []⟩
def d_check_measure : He.DefD := ⟨("check_measure", none), "check_measure", "check_measure", defArgs s_check_measure, defBody s_check_measure, defScope s_check_measure, [], []⟩
def d_Tray_put : He.DefD := ⟨("Tray", some "put"), "put", "Tray.put", defArgs s_Tray_put, defBody s_Tray_put, defScope s_Tray_put, [], []⟩
def d__law_tray : He.DefD := ⟨("_law_tray", none), "_law_tray", "_law_tray", defArgs s__law_tray, defBody s__law_tray, defScope s__law_tray, [], []⟩
def d__law_limits : He.DefD := ⟨("_law_limits", none), "_law_limits", "_law_limits", defArgs s__law_limits, defBody s__law_limits, defScope s__law_limits, [], []⟩
def d__law_word : He.DefD := ⟨("_law_word", none), "_law_word", "_law_word", defArgs s__law_word, defBody s__law_word, defScope s__law_word, [], []⟩
def d__law_goes : He.DefD := ⟨("_law_goes", none), "_law_goes", "_law_goes", defArgs s__law_goes, defBody s__law_goes, defScope s__law_goes, [], []⟩
def d__law_word_by_all : He.DefD := ⟨("_law_word_by_all", none), "_law_word_by_all", "_law_word_by_all", defArgs s__law_word_by_all, defBody s__law_word_by_all, defScope s__law_word_by_all, [], []⟩
def d__law_due : He.DefD := ⟨("_law_due", none), "_law_due", "_law_due", defArgs s__law_due, defBody s__law_due, defScope s__law_due, [], []⟩
def d_check_tray : He.DefD := ⟨("check_tray", none), "check_tray", "check_tray", defArgs s_check_tray, defBody s_check_tray, defScope s_check_tray, [], []⟩
def d_check_width : He.DefD := ⟨("check_width", none), "check_width", "check_width", defArgs s_check_width, defBody s_check_width, defScope s_check_width, [], []⟩
def d_check_limits : He.DefD := ⟨("check_limits", none), "check_limits", "check_limits", defArgs s_check_limits, defBody s_check_limits, defScope s_check_limits, [], []⟩
def d_class_of : He.DefD := ⟨("class_of", none), "class_of", "class_of", defArgs s_class_of, defBody s_class_of, defScope s_class_of, [], []⟩
def d_Tray_classes : He.DefD := ⟨("Tray", some "classes"), "classes", "Tray.classes", defArgs s_Tray_classes, defBody s_Tray_classes, defScope s_Tray_classes, [.int (0)], []⟩
def d_check_allowance : He.DefD := ⟨("check_allowance", none), "check_allowance", "check_allowance", defArgs s_check_allowance, defBody s_check_allowance, defScope s_check_allowance, [], []⟩
def d_Span___init__ : He.DefD := ⟨("Span", some "__init__"), "__init__", "Span.__init__", defArgs s_Span___init__, defBody s_Span___init__, defScope s_Span___init__, [.int (0), .int (0)], []⟩
def d_class_span : He.DefD := ⟨("class_span", none), "class_span", "class_span", defArgs s_class_span, defBody s_class_span, defScope s_class_span, [.int (0)], []⟩
def d_check_span : He.DefD := ⟨("check_span", none), "check_span", "check_span", defArgs s_check_span, defBody s_check_span, defScope s_check_span, [], []⟩
def d_with_gap : He.DefD := ⟨("with_gap", none), "with_gap", "with_gap", defArgs s_with_gap, defBody s_with_gap, defScope s_with_gap, [], []⟩
def d_Fit___init__ : He.DefD := ⟨("Fit", some "__init__"), "__init__", "Fit.__init__", defArgs s_Fit___init__, defBody s_Fit___init__, defScope s_Fit___init__, [], []⟩
def d_fit : He.DefD := ⟨("fit", none), "fit", "fit", defArgs s_fit, defBody s_fit, defScope s_fit, [.int (0), .non], []⟩
def d_class_pairs : He.DefD := ⟨("class_pairs", none), "class_pairs", "class_pairs", defArgs s_class_pairs, defBody s_class_pairs, defScope s_class_pairs, [.int (0), .non, .int (0)], []⟩
def d__law_pieces_right : He.DefD := ⟨("_law_pieces_right", none), "_law_pieces_right", "_law_pieces_right", defArgs s__law_pieces_right, defBody s__law_pieces_right, defScope s__law_pieces_right, [], []⟩
def d__law_pairs_right : He.DefD := ⟨("_law_pairs_right", none), "_law_pairs_right", "_law_pairs_right", defArgs s__law_pairs_right, defBody s__law_pairs_right, defScope s__law_pairs_right, [], []⟩
def d__law_asked_right : He.DefD := ⟨("_law_asked_right", none), "_law_asked_right", "_law_asked_right", defArgs s__law_asked_right, defBody s__law_asked_right, defScope s__law_asked_right, [], []⟩
def d_widest : He.DefD := ⟨("widest", none), "widest", "widest", defArgs s_widest, defBody s_widest, defScope s_widest, [], []⟩
def d__law_whole : He.DefD := ⟨("_law_whole", none), "_law_whole", "_law_whole", defArgs s__law_whole, defBody s__law_whole, defScope s__law_whole, [], []⟩
def d__law_always : He.DefD := ⟨("_law_always", none), "_law_always", "_law_always", defArgs s__law_always, defBody s__law_always, defScope s__law_always, [], []⟩
def d__law_widest_right : He.DefD := ⟨("_law_widest_right", none), "_law_widest_right", "_law_widest_right", defArgs s__law_widest_right, defBody s__law_widest_right, defScope s__law_widest_right, [], []⟩
def d_law : He.DefD := ⟨("law", none), "law", "law", defArgs s_law, defBody s_law, defScope s_law, [], []⟩
def fc0 : List He.DefD := [d__law_cell, d__law_purse, d__law_take, d__law_some, d_Tray___init__, d_is_measure, d_check_measure, d_Tray_put, d__law_tray, d__law_limits, d__law_word, d__law_goes, d__law_word_by_all, d__law_due, d_check_tray, d_check_width, d_check_limits]
def fc1 : List He.DefD := [d_class_of, d_Tray_classes, d_check_allowance, d_Span___init__, d_class_span, d_check_span, d_with_gap, d_Fit___init__, d_fit, d_class_pairs, d__law_pieces_right, d__law_pairs_right, d__law_asked_right, d_widest, d__law_whole, d__law_always, d__law_widest_right, d_law]
def fn1 : List He.DefD := fc0
def fn2 : List He.DefD := fc1
def fn : List He.DefD := fn1 ++ fn2
def fa : List He.Fa := [.glo "_law_cell", .glo "_law_purse", .glo "_law_take", .glo "_law_some", .glo "is_measure", .glo "check_measure", .glo "_law_tray", .glo "_law_limits", .glo "_law_word", .glo "_law_goes", .glo "_law_word_by_all", .glo "_law_due", .glo "check_tray", .glo "check_width", .glo "check_limits", .glo "class_of", .glo "check_allowance", .glo "class_span", .glo "check_span", .glo "with_gap", .glo "fit", .glo "class_pairs", .glo "_law_pieces_right", .glo "_law_pairs_right", .glo "_law_asked_right", .glo "widest", .glo "_law_whole", .glo "_law_always", .glo "_law_widest_right", .glo "law", .glo "FitError", .glo "NoMeasure", .glo "NoAllowance", .glo "NoSpan", .glo "NoLimits", .glo "NoOption", .glo "NoTray", .glo "RoomError", .glo "TooLong", .glo "Span", .glo "Fit", .glo "Tray", .free "len", .free "sum", .free "abs", .free "range", .free "isinstance", .free "int", .free "bool", .free "any", .free "all", .free "sorted", .free "tuple", .free "set", .free "enumerate", .free "min", .free "max", .free "repr", .meth "Tray" "put", .meth "Tray" "classes", .cls "Span", .mkr "Span", .noat "Span" "size", .noat "Span" "above", .noat "Span" "below", .noat "Span" "low", .noat "Span" "high", .cls "Fit", .mkr "Fit", .noat "Fit" "word", .noat "Fit" "goes", .noat "Fit" "fails", .cls "Tray", .mkr "Tray", .noat "Tray" "kept"]
def ex (K : PySem.W.Frag) : Bool := Qx.exAll K ["Span", "Fit", "Tray"]
abbrev R : PySem.W.OpenRow := PySem.W.OpenLaw.row PySem.Challenge.rw_fitwords_k42_classes_that_go
def loose0 : List Str := ["_wall", "FitError", "NoMeasure", "NoAllowance", "NoSpan", "NoLimits", "NoOption", "NoTray", "RoomError", "TooLong", "INCH", "MOST_BY_WORDS", "ONES", "TEENS", "COUNTS", "TENS", "GREAT_SHARES", "SHARES", "is_measure", "check_measure", "minus_of", "by_parts", "by_inches", "doubled", "by_halves", "counted", "by_words", "TELLERS", "shown", "shown_span"]
def loose1 : List Str := ["check_allowance", "Span", "check_span", "check_limits", "Fit", "with_gap", "fit", "check_width", "class_of", "Tray", "check_tray", "class_span", "class_pairs", "widest", "_law_cell", "_law_purse", "_law_take", "_law_whole", "_law_tray", "_law_goes", "_law_some", "_law_limits", "_law_word", "_law_word_by_all", "_law_due", "_law_pieces_right", "_law_pairs_right", "_law_asked_right", "_law_always", "_law_widest_right"]
def loose : List Str := loose0 ++ loose1
def tabs : List He.Tab := []
abbrev hk : PySem.W.Hook := Qx.hookB 5 [] fa fn tabs ex
def ob (s : PySem.W.SharedT) : He.AlX := Qx.obsB 5 [] fa fn tabs ex (HandSHeadRun.getT s)
theorem ob_eq (s : PySem.W.SharedT) : ob s = hk.obs s.abs := Qx.obsB_eq (HandSHeadRun.getT_eq s)
abbrev RunAt (w : World) : Prop := HandSHeadRun.RunEq R (PySem.W.view R.prog [67]) hk ob 20000 loose w
section
open PySem.W PySem.Calls
theorem join3 {α β : Type} {r : Option α} {L : α → Bool} {S : α → β} {K : α → PySem.W.Frag} {fa : List He.Fa} {fn1 fn2 : List He.DefD} {ts : List He.Tab} {E : α → Bool} {g : β} {v : List (Option (List (Option (Str × Int))))}
    (e1 : r.map (fun s => (L s, S s, fa.all (fun f => f.ok (K s)), ts.map (fun t => He.dicW (K s) (t.1 (K s))), E s)) = some (true, g, true, v, true))
    (e2 : r.map (fun s => (fn1.all (fun d => d.ok (K s)), fn1.map (fun d => He.fnW (K s) d.at_))) = some (true, fn1.map He.DefD.val))
    (e3 : r.map (fun s => (fn2.all (fun d => d.ok (K s)), fn2.map (fun d => He.fnW (K s) d.at_))) = some (true, fn2.map He.DefD.val)) :
    r.map (fun s => (L s, S s, (He.obsT fa (fn1 ++ fn2) ts (K s), E s))) = some (true, g, (((true, (fn1 ++ fn2).map He.DefD.val), v), true)) := by
  cases r with
  | none => cases e1
  | some s =>
    have e1 := Option.some.inj e1
    have e2 := Option.some.inj e2
    have e3 := Option.some.inj e3
    injection e1 with a1 e1
    injection e1 with a2 e1
    injection e1 with a3 e1
    injection e1 with a4 a5
    injection e2 with b1 b2
    injection e3 with c1 c2
    show some (L s, S s, ((((fa.all fun f => f.ok (K s)) && (fn1 ++ fn2).all fun d => d.ok (K s), (fn1 ++ fn2).map fun d => He.fnW (K s) d.at_), ts.map fun t => He.dicW (K s) (t.1 (K s))), E s)) = _
    rw [List.all_append, List.map_append, List.map_append, a1, a2, a3, a4, a5, b1, b2, c1, c2]
    rfl
def KK (s : PySem.W.SharedT) : PySem.W.Frag := He.frT (HandSHeadRun.getT s) (Qx.asB (HandSHeadRun.getT s) 5 [])
noncomputable abbrev RunO (w : World) (os : OsState) : Option PySem.W.SharedT := HandSHeadRun.endF (HandSHeadRun.stepQ (HandSHeadRun.denQ HandSHeadRun.tabQ) R.prog w) 20000 R.prog w os
theorem runF0 (w : World) (os : OsState) : (RunO (w.withFollow "special-get-raises" false) os).map (fun s => (HandSHeadRun.looksF R.prog (boot_heap (w.withFollow "special-get-raises" false).params) s.abs, HandSHeadRun.seenQ (PySem.W.view R.prog [67]) loose (importedModules R.prog.main.body) (fun s => PySem.W.xlAt (PySem.W.view R.prog [67]) [] s && PySem.W.recOk R.toRowW.records s) s.abs, fa.all (fun f => f.ok (KK s)), tabs.map (fun t => He.dicW (KK s) (t.1 (KK s))), ex (KK s))) = some (true, PySem.W.openGood (PySem.W.view R.prog [67]) loose, true, tabs.map (fun t => some (He.keysIn (w.withFollow "special-get-raises" false).params t.2)), true) := by
  kernel_rfl
theorem runFc0 (w : World) (os : OsState) : (RunO (w.withFollow "special-get-raises" false) os).map (fun s => (fc0.all (fun d => d.ok (KK s)), fc0.map (fun d => He.fnW (KK s) d.at_))) = some (true, fc0.map He.DefD.val) := by
  kernel_rfl
theorem runFc1 (w : World) (os : OsState) : (RunO (w.withFollow "special-get-raises" false) os).map (fun s => (fc1.all (fun d => d.ok (KK s)), fc1.map (fun d => He.fnW (KK s) d.at_))) = some (true, fc1.map He.DefD.val) := by
  kernel_rfl
theorem runF (w : World) : RunAt (w.withFollow "special-get-raises" false) := by
  intro os
  have z := join3 (r := RunO (w.withFollow "special-get-raises" false) os) (L := fun s => HandSHeadRun.looksF R.prog (boot_heap (w.withFollow "special-get-raises" false).params) s.abs) (S := fun s => HandSHeadRun.seenQ (PySem.W.view R.prog [67]) loose (importedModules R.prog.main.body) (fun s => PySem.W.xlAt (PySem.W.view R.prog [67]) [] s && PySem.W.recOk R.toRowW.records s) s.abs) (K := KK) (fa := fa) (fn1 := fc0) (fn2 := fc1) (ts := tabs) (E := fun s => ex (KK s)) (g := PySem.W.openGood (PySem.W.view R.prog [67]) loose) (v := tabs.map (fun t => some (He.keysIn (w.withFollow "special-get-raises" false).params t.2))) (runF0 w os) (runFc0 w os) (runFc1 w os)
  exact z
theorem runT0 (w : World) (os : OsState) : (RunO (w.withFollow "special-get-raises" true) os).map (fun s => (HandSHeadRun.looksF R.prog (boot_heap (w.withFollow "special-get-raises" true).params) s.abs, HandSHeadRun.seenQ (PySem.W.view R.prog [67]) loose (importedModules R.prog.main.body) (fun s => PySem.W.xlAt (PySem.W.view R.prog [67]) [] s && PySem.W.recOk R.toRowW.records s) s.abs, fa.all (fun f => f.ok (KK s)), tabs.map (fun t => He.dicW (KK s) (t.1 (KK s))), ex (KK s))) = some (true, PySem.W.openGood (PySem.W.view R.prog [67]) loose, true, tabs.map (fun t => some (He.keysIn (w.withFollow "special-get-raises" true).params t.2)), true) := by
  kernel_rfl
theorem runTc0 (w : World) (os : OsState) : (RunO (w.withFollow "special-get-raises" true) os).map (fun s => (fc0.all (fun d => d.ok (KK s)), fc0.map (fun d => He.fnW (KK s) d.at_))) = some (true, fc0.map He.DefD.val) := by
  kernel_rfl
theorem runTc1 (w : World) (os : OsState) : (RunO (w.withFollow "special-get-raises" true) os).map (fun s => (fc1.all (fun d => d.ok (KK s)), fc1.map (fun d => He.fnW (KK s) d.at_))) = some (true, fc1.map He.DefD.val) := by
  kernel_rfl
theorem runT (w : World) : RunAt (w.withFollow "special-get-raises" true) := by
  intro os
  have z := join3 (r := RunO (w.withFollow "special-get-raises" true) os) (L := fun s => HandSHeadRun.looksF R.prog (boot_heap (w.withFollow "special-get-raises" true).params) s.abs) (S := fun s => HandSHeadRun.seenQ (PySem.W.view R.prog [67]) loose (importedModules R.prog.main.body) (fun s => PySem.W.xlAt (PySem.W.view R.prog [67]) [] s && PySem.W.recOk R.toRowW.records s) s.abs) (K := KK) (fa := fa) (fn1 := fc0) (fn2 := fc1) (ts := tabs) (E := fun s => ex (KK s)) (g := PySem.W.openGood (PySem.W.view R.prog [67]) loose) (v := tabs.map (fun t => some (He.keysIn (w.withFollow "special-get-raises" true).params t.2))) (runT0 w os) (runTc0 w os) (runTc1 w os)
  exact z
end
theorem run (w : World) : RunAt w := PySem.W.byRow2 (P := RunAt) "special-get-raises" runF runT w
end Hd
namespace Gx
open PySem PySem.Spec PyProof.Rows L2
/-! ### what is known of a heap: the cells that may change, and facts that stay -/
abbrev Fact := Hp → Prop
def Mn (f : Fact) : Prop := ∀ H H', Same H H' → f H → f H'
def ers (m : List Addr) (H : Hp) : Hp := fun a => if a ∈ m then none else H a
theorem ers_sub (m : List Addr) (H : Hp) : Same (ers m H) H := fun b o e => by
  unfold ers at e
  by_cases h : b ∈ m
  · rw [if_pos h] at e; cases e
  · rw [if_neg h] at e; exact e
theorem ers_out {m : List Addr} {H : Hp} {a : Addr} (h : a ∉ m) : ers m H a = H a := if_neg h
theorem ers_mono {m : List Addr} {H H' : Hp} (e : Same H H') : Same (ers m H) (ers m H') := fun b o q => by
  have hb : b ∉ m := fun h => by unfold ers at q; rw [if_pos h] at q; cases q
  rw [ers_out hb] at q ⊢
  exact e b o q
theorem ers_less {m m' : List Addr} {H : Hp} (h : ∀ a ∈ m', a ∈ m) : Same (ers m H) (ers m' H) := fun b o q => by
  have hb : b ∉ m := fun h => by unfold ers at q; rw [if_pos h] at q; cases q
  rw [ers_out hb] at q
  rw [ers_out fun z => hb (h b z)]
  exact q
abbrev Cell := Addr × (HO → Prop)
structure Kn (M : List Cell) (fs : List Fact) (H : Hp) : Prop where
  cel : ∀ x ∈ M, ∃ o, H x.1 = some o ∧ x.2 o
  nd : (M.map (·.1)).Nodup
  fac : ∀ f ∈ fs, Mn f ∧ f (ers (M.map (·.1)) H)
section
variable {M : List Cell} {fs fs' : List Fact} {f : Fact} {H H' : Hp} {p : Addr} {o : HO} {P P' : HO → Prop} {x y : Cell}
theorem Kn.get (k : Kn M fs H) (h : f ∈ fs) : f H := (k.fac f h).1 _ _ (ers_sub _ _) (k.fac f h).2
theorem Kn.same (k : Kn M fs H) (e : Same H H') : Kn M fs H' :=
  ⟨fun x hx => let ⟨o, h1, h2⟩ := k.cel x hx; ⟨o, e _ _ h1, h2⟩, k.nd, fun f hf => ⟨(k.fac f hf).1, (k.fac f hf).1 _ _ (ers_mono e) (k.fac f hf).2⟩⟩
theorem Kn.sub (k : Kn M fs H) (h : ∀ f ∈ fs', f ∈ fs) : Kn M fs' H := ⟨k.cel, k.nd, fun f hf => k.fac f (h f hf)⟩
theorem Kn.hd {gs : List Fact} (k : Kn M (f :: gs) H) (h : ∀ g ∈ fs, g ∈ gs) : Kn M (f :: fs) H := k.sub fun g hg => by
  rcases List.mem_cons.mp hg with e | e
  · rw [e]; exact List.mem_cons_self
  · exact List.mem_cons_of_mem _ (h g e)
theorem Kn.tl (k : Kn M (f :: fs) H) : Kn M fs H := k.sub fun _ h => List.mem_cons_of_mem _ h
theorem Kn.notin (k : Kn M fs H) (hp : H p = none) : p ∉ M.map (·.1) := fun h => by
  obtain ⟨x, hx, e⟩ := List.mem_map.mp h
  obtain ⟨o, h1, _⟩ := k.cel x hx
  rw [e, hp] at h1
  cases h1
theorem same_new (hp : H p = none) : Same H (upd H p o) := fun b u e => by
  rw [upd_ne (ne_of_none e hp)]
  exact e
theorem Kn.new (k : Kn M fs H) (hp : H p = none) (mn : Mn f) (h : ∀ G : Hp, G p = some o → f G) : Kn M (f :: fs) (upd H p o) := by
  have k2 := k.same (same_new (o := o) hp)
  refine ⟨k2.cel, k2.nd, fun g hg => ?_⟩
  rcases List.mem_cons.mp hg with rfl | hg
  · exact ⟨mn, h _ (by rw [ers_out (k.notin hp)]; exact upd_same)⟩
  · exact k2.fac g hg
theorem Kn.set (k : Kn ((p, P) :: M) fs H) (h : P' o) : Kn ((p, P') :: M) fs (upd H p o) := by
  have nd := List.nodup_cons.mp k.nd
  refine ⟨fun x hx => ?_, k.nd, fun g hg => ?_⟩
  · rcases List.mem_cons.mp hx with rfl | hx
    · exact ⟨o, upd_same, h⟩
    · obtain ⟨u, h1, h2⟩ := k.cel x (List.mem_cons_of_mem _ hx)
      refine ⟨u, ?_, h2⟩
      rw [upd_ne fun e => nd.1 (List.mem_map.mpr ⟨x, hx, e⟩)]
      exact h1
  · refine ⟨(k.fac g hg).1, (k.fac g hg).1 _ _ (fun b u e => ?_) (k.fac g hg).2⟩
    have hb : b ∉ ((p, P) :: M).map (·.1) := fun h => by unfold ers at e; rw [if_pos h] at e; cases e
    rw [ers_out hb] at e
    have hb2 : b ∉ ((p, P') :: M).map (·.1) := hb
    rw [ers_out hb2, upd_ne fun z => hb (by rw [z]; exact List.mem_cons_self)]
    exact e
theorem Kn.drop (k : Kn ((p, P) :: M) fs H) : Kn M fs H :=
  ⟨fun x hx => k.cel x (List.mem_cons_of_mem _ hx), (List.nodup_cons.mp k.nd).2, fun g hg => ⟨(k.fac g hg).1, (k.fac g hg).1 _ _ (ers_less fun a ha => List.mem_cons_of_mem _ ha) (k.fac g hg).2⟩⟩
theorem Kn.swap (k : Kn (x :: y :: M) fs H) : Kn (y :: x :: M) fs H := by
  have n1 := List.nodup_cons.mp k.nd
  have n2 := List.nodup_cons.mp n1.2
  refine ⟨fun z hz => k.cel z ?_, ?_, fun g hg => ⟨(k.fac g hg).1, (k.fac g hg).1 _ _ (ers_less ?_) (k.fac g hg).2⟩⟩
  · rcases List.mem_cons.mp hz with rfl | hz
    · exact List.mem_cons_of_mem _ List.mem_cons_self
    · rcases List.mem_cons.mp hz with rfl | hz
      · exact List.mem_cons_self
      · exact List.mem_cons_of_mem _ (List.mem_cons_of_mem _ hz)
  · refine List.nodup_cons.mpr ⟨fun z => ?_, List.nodup_cons.mpr ⟨fun z => n1.1 (List.mem_cons_of_mem _ z), n2.2⟩⟩
    rcases List.mem_cons.mp z with z | z
    · exact n1.1 (by rw [← z]; exact List.mem_cons_self)
    · exact n2.1 z
  · intro a ha
    rcases List.mem_cons.mp ha with rfl | ha
    · exact List.mem_cons_of_mem _ List.mem_cons_self
    · rcases List.mem_cons.mp ha with rfl | ha
      · exact List.mem_cons_self
      · exact List.mem_cons_of_mem _ (List.mem_cons_of_mem _ ha)
theorem Kn.cell (k : Kn ((p, P) :: M) fs H) : ∃ o, H p = some o ∧ P o := k.cel _ List.mem_cons_self
end
/-! ### the usual facts -/
section
variable {K : PySem.W.Frag} {H H' : Hp} {a p : Addr} {xs : List V} {M : List Cell} {fs : List Fact} {C : Addr}
theorem rd_same {u : HO} (e : Same H H') (h : Rd H a u) : Rd H' a u := by
  rcases h with h | ⟨o, h⟩
  · exact .inl (e _ _ h)
  · exact .inr ⟨o, e _ _ h⟩
theorem sqt_same (e : Same H H') (h : SqT K H a xs) : SqT K H' a xs := by
  rcases h with h | h
  · exact .inl (rd_same e h)
  · exact .inr h
def fL (K : PySem.W.Frag) (a : Addr) (xs : List V) : Fact := fun H => SqL K H a xs
def fO (a : Addr) (o : HO) : Fact := fun H => H a = some o
theorem mn_L : Mn (fL K a xs) := fun _ _ e h => e.seq h
theorem Kn.obj {o : HO} (k : Kn M fs H) (h : fO a o ∈ fs) : H a = some o := k.get h
def isL (xs : List V) : HO → Prop := fun o => o = .lst xs
theorem Kn.lst (k : Kn ((p, isL xs) :: M) fs H) : H p = some (.lst xs) := by
  obtain ⟨o, h1, h2⟩ := k.cell
  rw [h2] at h1
  exact h1
end
theorem sl {n : Nat} (h : n.ble 1000 = true) : n ≤ sizeLine := Nat.le_trans (Nat.le_of_ble_eq_true h) (by decide)
/-! ### answers to what a reading asks -/
section
variable {K : PySem.W.Frag} {H H' : Hp} {a p : Addr} {xs : List V} {M : List Cell} {fs : List Fact} {C : Addr} {G : Addr → Prop} {A B : Prop}
theorem br {c : Prop} [Decidable c] (h1 : c → A) (h2 : ¬ c → B) : if decide c = true then A else B := by
  by_cases h : c
  · rw [if_pos (decide_eq_true h)]; exact h1 h
  · rw [if_neg (by rw [decide_eq_false h]; exact Bool.false_ne_true)]; exact h2 h
theorem brn {c : Prop} [Decidable c] (h1 : ¬ c → A) (h2 : c → B) : if (!decide c) = true then A else B := by
  by_cases h : c
  · rw [if_neg (by rw [decide_eq_true h]; exact Bool.false_ne_true)]; exact h2 h
  · rw [if_pos (by rw [decide_eq_false h]; rfl)]; exact h1 h
end
/-! ### a def of the text, with its promise -/
section
variable {X : Cx} {P : Program} {w : World} {K : PySem.W.Frag} {mg : Str → Option Value} {base : Heap} {d : He.DefD} {CX : CXT} {k j : Nat} {ps : List Str} {sp : Sp}
structure DOk (P : Program) (w : World) (K : PySem.W.Frag) (mg : Str → Option Value) (base : Heap) (d : He.DefD) (CX : CXT) (k : Nat) (ps : List Str) (sp : Sp) : Prop where
  ex : ∃ fd, FunD K d.name d.qual d.params d.body d.scope (d.dvs K) (d.kws K) (He.fAd K d.at_) fd ∧ FnOk P w K mg base CX k (He.fAd K d.at_) fd ps sp
def BdN (d : He.DefD) (ps : List Str) : Prop := d.dfl = [] ∧ ∀ (kV doc pm : Value) (an : Option Addr) (cdv ct : Value) (us : List Value), us.length = ps.length → bindArgs (PySem.W.fnOf d.name d.qual d.params d.body d.scope .none kV doc pm an cdv ct) ⟨us, []⟩ = pure (ps.zip us)
theorem FunD.bdN {fd : FuncData} (F : FunD K d.name d.qual d.params d.body d.scope (d.dvs K) (d.kws K) (He.fAd K d.at_) fd) (h : BdN d ps) : Binds K fd ps [] := by
  have e : d.dvs K = [] := by unfold He.DefD.dvs; rw [h.1]; rfl
  rw [e] at F
  exact F.bindsN h.2
theorem pc {x : Str} {p pos : Pos} {e : Expr} {es : List Expr} {t : TA} (D : DOk X.prog X.w X.K X.mg X.base d CX0 k ps sp) (hm : X.mg x = some (.ref (He.fAd X.K d.at_))) (hb : BdN d ps) (hr : Room j X.A) (hj : k ≤ j) (ha : PA X (e :: es) t) (hg : Gl X x := by rfl)
    (hdb : (x == ("__debug__" : Str)) = false := by decide) (he : starEach (e :: es) X.env = (false, eval e X.env) :: starEach es X.env := by rfl) (hpl : (backTo pos (starEach es X.env)).any (·.1) = false := by rfl) :
    PE X (.Call (.Name x p) (e :: es) [] pos) (tCall sp [] E0 t) := by
  obtain ⟨fd, F, G⟩ := D.ex
  exact pe_call G (hr.mono hj) hg hm F.kp (FunD.bdN F hb) .nil pass0 ha hdb he hpl
def BdD (K : PySem.W.Frag) (d : He.DefD) (ps : List Str) (dv : List V) : Prop := ∀ fd, FunD K d.name d.qual d.params d.body d.scope (d.dvs K) (d.kws K) (He.fAd K d.at_) fd → ∃ ds, Vals dv ds ∧ Binds K fd ps ds
theorem pcD {x : Str} {p pos : Pos} {e : Expr} {es : List Expr} {t : TA} {dv : List V} (D : DOk X.prog X.w X.K X.mg X.base d CX0 k ps sp) (hm : X.mg x = some (.ref (He.fAd X.K d.at_))) (hb : BdD X.K d ps dv) (hr : Room j X.A) (hj : k ≤ j) (ha : PA X (e :: es) t) (hg : Gl X x := by rfl)
    (hdb : (x == ("__debug__" : Str)) = false := by decide) (he : starEach (e :: es) X.env = (false, eval e X.env) :: starEach es X.env := by rfl) (hpl : (backTo pos (starEach es X.env)).any (·.1) = false := by rfl) :
    PE X (.Call (.Name x p) (e :: es) [] pos) (tCall sp dv E0 t) := by
  obtain ⟨fd, F, G⟩ := D.ex
  obtain ⟨ds, hv, hbd⟩ := hb fd F
  exact pe_call G (hr.mono hj) hg hm F.kp hbd hv pass0 ha hdb he hpl
theorem pmk {x : Str} {p pos : Pos} {e : Expr} {es : List Expr} {t : TA} {dv : List V} {C : Addr} (D : DOk X.prog X.w X.K X.mg X.base d CX0 k ps sp) (M : Mk X.K C (He.fAd X.K d.at_)) (hm : X.mg x = some (.ref C)) (hb : BdD X.K d ps dv) (hr : Room j X.A) (hj : k + 1 ≤ j) (ha : PA X (e :: es) t) (hg : Gl X x := by rfl)
    (hdb : (x == ("__debug__" : Str)) = false := by decide) (he : starEach (e :: es) X.env = (false, eval e X.env) :: starEach es X.env := by rfl) (hpl : (backTo pos (starEach es X.env)).any (·.1) = false := by rfl) :
    PE X (.Call (.Name x p) (e :: es) [] pos) (tMake C sp dv E0 t) := by
  obtain ⟨fd, F, G⟩ := D.ex
  obtain ⟨ds, hv, hbd⟩ := hb fd F
  exact pe_make M G (hr.mono hj) hg hm hbd hv pass0 ha hdb he hpl
def BdK (K : PySem.W.Frag) (d : He.DefD) (ps : List Str) (n : Nat) (ks : List Str) (gV : List V → List V → List V) : Prop := ∀ fd, FunD K d.name d.qual d.params d.body d.scope (d.dvs K) (d.kws K) (He.fAd K d.at_) fd → ∃ g, KBn K fd ps n ks g gV
section
variable {x : Str} {p pos : Pos} {e : Expr} {es : List Expr} {kws : List Keyword} {t tk : TA} {n : Nat} {ks : List Str} {gV : List V → List V → List V} {C : Addr}
theorem pmkK (D : DOk X.prog X.w X.K X.mg X.base d CX0 k ps sp) (M : Mk X.K C (He.fAd X.K d.at_)) (hm : X.mg x = some (.ref C)) (hb : BdK X.K d ps (n + 1) ks gV) (hr : Room j X.A) (hj : k + 1 ≤ j) (ha : PA X (e :: es) t) (hkw : PK X kws tk) (hg : Gl X x := by rfl)
    (hall : (backToKw pos (keywordEach kws X.env)).all (·.1.isSome) = true := by rfl) (hks : (backToKw pos (keywordEach kws X.env)).filterMap (·.1) = ks := by rfl)
    (hdb : (x == ("__debug__" : Str)) = false := by decide) (he : starEach (e :: es) X.env = (false, eval e X.env) :: starEach es X.env := by rfl)
    (hpl : ((backTo pos (starEach (e :: es) X.env)).any (·.1) || (backToKw pos (keywordEach kws X.env)).any (·.1.isNone)) = false := by rfl) :
    PE X (.Call (.Name x p) (e :: es) kws pos) (tMakeN C n ks.length sp gV E0 t tk) := by
  obtain ⟨fd, F, G⟩ := D.ex
  obtain ⟨g, hbd⟩ := hb fd F
  exact pe_makeN M G (hr.mono hj) hg hm hbd pass0 ha hkw hall hks hdb he hpl
theorem pcK (D : DOk X.prog X.w X.K X.mg X.base d CX0 k ps sp) (hm : X.mg x = some (.ref (He.fAd X.K d.at_))) (hb : BdK X.K d ps n ks gV) (hr : Room j X.A) (hj : k ≤ j) (ha : PA X (e :: es) t) (hkw : PK X kws tk) (hg : Gl X x := by rfl)
    (hall : (backToKw pos (keywordEach kws X.env)).all (·.1.isSome) = true := by rfl) (hks : (backToKw pos (keywordEach kws X.env)).filterMap (·.1) = ks := by rfl)
    (hdb : (x == ("__debug__" : Str)) = false := by decide) (he : starEach (e :: es) X.env = (false, eval e X.env) :: starEach es X.env := by rfl)
    (hpl : ((backTo pos (starEach (e :: es) X.env)).any (·.1) || (backToKw pos (keywordEach kws X.env)).any (·.1.isNone)) = false := by rfl) :
    PE X (.Call (.Name x p) (e :: es) kws pos) (tCallN n ks.length sp gV E0 t tk) := by
  obtain ⟨fd, F, G⟩ := D.ex
  obtain ⟨g, hbd⟩ := hb fd F
  exact pe_callN G (hr.mono hj) hg hm F.kp hbd pass0 ha hkw hall hks hdb he hpl
theorem pcK0 (D : DOk X.prog X.w X.K X.mg X.base d CX0 k ps sp) (hm : X.mg x = some (.ref (He.fAd X.K d.at_))) (hb : BdK X.K d ps 0 ks gV) (hr : Room j X.A) (hj : k ≤ j) (hkw : PK X kws tk) (hg : Gl X x := by rfl)
    (hall : (backToKw pos (keywordEach kws X.env)).all (·.1.isSome) = true := by rfl) (hks : (backToKw pos (keywordEach kws X.env)).filterMap (·.1) = ks := by rfl)
    (hdb : (x == ("__debug__" : Str)) = false := by decide)
    (hpl : ((backTo pos (starEach [] X.env)).any (·.1) || (backToKw pos (keywordEach kws X.env)).any (·.1.isNone)) = false := by rfl) :
    PE X (.Call (.Name x p) [] kws pos) (tCallN 0 ks.length sp gV E0 tNil tk) := by
  obtain ⟨fd, F, G⟩ := D.ex
  obtain ⟨g, hbd⟩ := hb fd F
  refine ⟨fun pins s σ H Q I h => ?_⟩
  refine wpAny_Call_Name_kw (ld_glob I hg hm ?_ hdb)
  refine PySem.W.callWith_KW0 (h₀ := X.base) I.ok.mod.kin F.kp hall ?_ hpl
  refine thn (hkw.run pos pins s σ H _ I h) fun ws s2 ⟨zs, H2, I2, rz, l1, l2, q2⟩ => ⟨I2.kIn, ?_⟩
  rw [hks]
  exact run_fnN (us := []) (vs := []) G (hr.mono hj) hbd pass0 I2 .nil rz l1 l2 q2
end
end
end Gx

namespace Gx
open PySem PySem.Spec PyProof.Rows L2
/-! ### steps: what a reading asks, construct by construct -/
section
variable {K : PySem.W.Frag} {H : Hp} {σ : L2.St} {Q : VK} {QT : Bool → Hp → Prop} {QA : List V → Hp → Prop} {v x y : V} {i j : Int} {n : Nat} {ta tb te tc : TE} {t u : TT} {tA tR : TA} {r r' : R2} {tS uS : TS} {nx : L2.St → Hp → Prop} {rt : VK} {bk ct : L2.St → Hp → Prop} {a p C : Addr} {xs : List V} {M : List Cell} {fs : List Fact}
-- operators by values
theorem dec_int : decide (V.int i = V.int j) = decide (i = j) := by
  by_cases e : i = j
  · rw [decide_eq_true e, decide_eq_true (congrArg V.int e)]
  · rw [decide_eq_false e, decide_eq_false fun z => e (V.int.inj z)]
theorem dec_bl {b c : Bool} : decide (V.bl b = V.bl c) = decide (b = c) := by
  cases b <;> cases c <;> decide
theorem dec_str {b c : Str} : decide (V.str b = V.str c) = decide (b = c) := by
  by_cases e : b = c
  · rw [decide_eq_true e, decide_eq_true (congrArg V.str e)]
  · rw [decide_eq_false e, decide_eq_false fun z => e (V.str.inj z)]
theorem g_sub {to ti : TE} {s : TSet} {w : L2.St → Hp → Prop} (k : to σ H fun o H1 => ti σ H1 fun i H2 => s o i v H2 fun H3 => w σ H3) : gSub to ti s v σ H w := k
-- isinstance
theorem kB1 : kitB "int" "int" = some true := by decide +kernel
theorem kB2 : kitB "int" "bool" = some false := by decide +kernel
theorem kB3 : kitB "bool" "bool" = some true := by decide +kernel
theorem kB4 : kitB "bool" "int" = some true := by decide +kernel
theorem kB5 : kitB "str" "str" = some true := by decide +kernel
theorem kB6 : kitB "tuple" "tuple" = some true := by decide +kernel
theorem kB7 : kitB "NoneType" "bool" = some false := by decide +kernel
theorem kB8 : kitB "NoneType" "int" = some false := by decide +kernel
theorem kB9 : kitB "NoneType" "tuple" = some false := by decide +kernel
theorem kB10 : kitB "str" "int" = some false := by decide +kernel
structure InsK (K : PySem.W.Frag) (C : Addr) : Prop where
  cl : Cls K C
  ha : PySem.W.findIn K (.ref C) "__class__" = some (some (.builtin "object.__class__"))
  hn : PySem.W.specialIn K (.builtin "object.__class__") "__get__" = some (some (.builtin "getset_descriptor.__get__"))
  htk : PySem.W.takesIn K (.builtin "object.__class__") = some true
  hm : PySem.W.mroIn K C (.type "object") = some true
end
end Gx

namespace Gx
open PySem PySem.Spec PyProof.Rows L2
theorem Kn.exact {p : Addr} {Pr : HO → Prop} {M : List Cell} {fs : List Fact} {H : Hp} (k : Kn ((p, Pr) :: M) fs H) : ∃ o, Pr o ∧ Kn ((p, fun u => u = o) :: M) fs H := by
  obtain ⟨o, h1, h2⟩ := k.cell
  refine ⟨o, h2, fun x hx => ?_, k.nd, k.fac⟩
  rcases List.mem_cons.mp hx with rfl | hx
  · exact ⟨o, h1, rfl⟩
  · exact k.cel x (List.mem_cons_of_mem _ hx)
theorem Kn.cons {M : List Cell} {fs gs : List Fact} {H : Hp} (k : Kn M (gs ++ fs) H) : Kn M fs H := k.sub fun _ h => List.mem_append_right _ h
/-! ### fields, new instances -/
section
variable {K : PySem.W.Frag} {H : Hp} {σ : L2.St} {Q : VK} {E : XK} {v x y : V} {i j : Int} {n m : Nat} {ta tb te tc : TE} {tA tK : TA} {nx : L2.St → Hp → Prop} {rt : VK} {bk ct : L2.St → Hp → Prop} {a p C : Addr} {xs : List V} {M : List Cell} {fs : List Fact} {f : Str} {sp : Sp}
end
/-! ### loops -/
section
variable {K : PySem.W.Frag} {H : Hp} {σ : L2.St} {Q : VK} {v x : V} {tl : TE} {tA : TA} {g : TG} {tb : TS} {nx : L2.St → Hp → Prop} {rt : VK} {bk ct : L2.St → Hp → Prop} {a p : Addr} {xs : List V} {M : List Cell} {fs : List Fact}
theorem drop_get {α : Type} {xs : List α} {i : Nat} {x : α} (h : xs[i]? = some x) : xs.drop i = x :: xs.drop (i + 1) := by
  have hl := (List.getElem?_eq_some_iff.mp h).1
  have e := (List.getElem?_eq_some_iff.mp h).2
  rw [List.drop_eq_getElem_cons hl, e]
end
/-! ### slices, comprehensions -/
section
variable {K : PySem.W.Frag} {H : Hp} {σ : L2.St} {Q : VK} {v x : V} {te tl : TE} {t : TT} {tA : TA} {g : TG} {a p : Addr} {xs : List V} {M : List Cell} {fs : List Fact} {vs : List Nat}
theorem s_iteT {A B : Prop} (k : A) : if true = true then A else B := by rw [if_pos rfl]; exact k
theorem s_iteF {A B : Prop} (k : B) : if false = true then A else B := by rw [if_neg Bool.false_ne_true]; exact k
theorem s_iteNT {A B : Prop} (k : B) : if (!true) = true then A else B := by rw [if_neg (by decide)]; exact k
theorem s_iteNF {A B : Prop} (k : A) : if (!false) = true then A else B := by rw [if_pos (by decide)]; exact k
-- slices
end
/-! ### spans -/
section
variable {K : PySem.W.Frag} {H : Hp} {σ : L2.St} {Q : VK} {E : XK} {v x y : V} {a p C : Addr} {xs : List V} {M : List Cell} {fs : List Fact} {f : Str} {s u l s' u' l' : Int}
end
end Gx
namespace Gx
open PySem PySem.Spec PyProof.Rows L2
theorem kbN {K : PySem.W.Frag} {d : He.DefD} {fd : FuncData} {ps : List Str} (F : FunD K d.name d.qual d.params d.body d.scope (d.dvs K) (d.kws K) (He.fAd K d.at_) fd) (n : Nat) (ks : List Str) (g : {α : Type} → List α → List α → List α)
    (hrel : ∀ {vs zs : List V} {us ws : List Value}, Vals vs us → Vals zs ws → Vals (g vs zs) (g us ws))
    (h : ∀ (kV doc pm : Value) (an : Option Addr) (cdv ct : Value) (us ws : List Value), us.length = n → ws.length = ks.length → bindArgs (PySem.W.fnOf d.name d.qual d.params d.body d.scope .none kV doc pm an cdv ct) ⟨us, ks.zip ws⟩ = pure (ps.zip (g us ws))) (hd : d.dfl = [] := by rfl) :
    KBn K fd ps n ks (fun us ws => g us ws) (fun vs zs => g vs zs) := by
  have e : d.dvs K = [] := by unfold He.DefD.dvs; rw [hd]; rfl
  rw [e] at F
  obtain ⟨oc, od, dV, kV, doc, pm, an, cdv, ct, osl, rfl, lk, hcd, hD, hK⟩ := F.ex
  rcases hD with ⟨_, rfl⟩ | ⟨e, _⟩
  · exact ⟨fun s us ws X l1 l2 => BindsTo.of_eq (h kV doc pm an cdv ct us ws l1 l2), fun r1 r2 => hrel r1 r2⟩
  · exact absurd rfl e
end Gx

namespace Gx
open PySem PySem.Spec PyProof.Rows L2
section
variable {X : Cx}
theorem c_max (hc : X.calm = true) : CallR X (.builtin "max") (fun xs H Q => ∃ i j, xs = [.int i, .int j] ∧ Q (.int (max i j)) H) := by
  intro pins s σ H xs us Q I r h
  refine call_max2 hc pins s σ H xs us Q I r ?_
  obtain ⟨i, j, e, q⟩ := h
  refine ⟨i, j, e, ?_⟩
  have e2 : (if j > i then j else i) = max i j := by split <;> omega
  rw [e2]
  exact q
theorem c_min (hc : X.calm = true) : CallR X (.builtin "min") (fun xs H Q => ∃ i j, xs = [.int i, .int j] ∧ Q (.int (min i j)) H) := by
  intro pins s σ H xs us Q I r h
  refine call_min2 hc pins s σ H xs us Q I r ?_
  obtain ⟨i, j, e, q⟩ := h
  refine ⟨i, j, e, ?_⟩
  have e2 : (if j < i then j else i) = min i j := by split <;> omega
  rw [e2]
  exact q
end
section
variable {K : PySem.W.Frag} {H : Hp} {σ : L2.St} {Q : VK} {te tb : TE} {tS uS : TS} {nx : L2.St → Hp → Prop} {rt : VK} {bk ct : L2.St → Hp → Prop} {p q : Addr} {xs ys : List V} {M : List Cell} {fs : List Fact}
theorem eqvAll_ints : ∀ ns ms : List Int, PyData.eqvAll (ns.map PyData.int) (ms.map PyData.int) = decide (ns = ms)
  | [], [] => rfl
  | [], _ :: _ => rfl
  | _ :: _, [] => rfl
  | n :: ns, m :: ms => by
    show (PyData.eqv (.int n) (.int m) && PyData.eqvAll (ns.map PyData.int) (ms.map PyData.int)) = _
    rw [eqvAll_ints ns ms]
    show ((n == m) && decide (ns = ms)) = _
    by_cases h1 : n = m
    · by_cases h2 : ns = ms
      · rw [h1, h2]; simp
      · simp [h1, h2]
    · simp [h1]
theorem Kn.init {a : Addr} {ns : List Int} (h : SqL K H a (ns.map V.int)) : Kn [] [fL K a (ns.map V.int)] H := by
  refine ⟨fun x hx => (nomatch hx), List.nodup_nil, fun f hf => ?_⟩
  rcases List.mem_cons.mp hf with rfl | hf
  · refine ⟨mn_L, ?_⟩
    have e : ers ([].map fun x : Cell => x.1) H = H := funext fun b => ers_out (by simp)
    rw [e]
    exact h
  · exact nomatch hf
end
end Gx

namespace Gx
open PySem PySem.Spec PyProof.Rows L2
/-! ### instances of any class, by their fields -/
section
variable {K : PySem.W.Frag} {H : Hp} {σ : L2.St} {Q : VK} {E : XK} {v x y : V} {a p C : Addr} {xs : List V} {M : List Cell} {fs : List Fact} {f : Str} {fl : List (Str × V)} {g : Fact}
def fN (C p : Addr) (fl : List (Str × V)) : Fact := fun H => ∃ dx, H p = some (.ins C dx fl)
theorem mn_N : Mn (fN C p fl) := fun _ _ e ⟨dx, h⟩ => ⟨dx, e _ _ h⟩
theorem Kn.raw (k : Kn M fs H) (h : g ∈ fs) : g (ers (M.map (·.1)) H) := (k.fac g h).2
theorem Kn.more (k : Kn M fs H) (mn : Mn g) (h : g (ers (M.map (·.1)) H)) : Kn M (g :: fs) H := ⟨k.cel, k.nd, fun f hf => by
  rcases List.mem_cons.mp hf with rfl | hf
  · exact ⟨mn, h⟩
  · exact k.fac f hf⟩
end
/-! ### gaps and limits -/
def goB (g f : Int) (o : Option Int) : Bool := decide (f ≤ g) && (match o with | none => true | some r => decide (g ≤ r))
def sureB (lo hi f : Int) (o : Option Int) : Bool := decide (f ≤ lo) && (match o with | none => true | some r => decide (hi ≤ r))
def neverB (lo hi f : Int) (o : Option Int) : Bool := decide (hi < f) || (match o with | none => false | some r => decide (r < lo))
def wordOf (lo hi f : Int) (o : Option Int) : Str := if sureB lo hi f o then "sure" else if neverB lo hi f o then "never" else "may"
abbrev vA : Option (Addr × Int × Int) → V
  | none => .non
  | some (t, _, _) => .ref t
def In2 (hl hh pl ph a b : Int) : Prop := hl ≤ a ∧ a ≤ hh ∧ pl ≤ b ∧ b ≤ ph
structure GoesOk (hl hh pl ph f : Int) (o : Option Int) (g : Option (Addr × Int × Int)) : Prop where
  non : g = none ↔ neverB (hl - ph) (hh - pl) f o = true
  som : ∀ t a b, g = some (t, a, b) → In2 hl hh pl ph a b ∧ goB (a - b) f o = true
structure FailsOk (hl hh pl ph f : Int) (o : Option Int) (g : Option (Addr × Int × Int)) : Prop where
  non : g = none ↔ sureB (hl - ph) (hh - pl) f o = true
  som : ∀ t a b, g = some (t, a, b) → In2 hl hh pl ph a b ∧ goB (a - b) f o = false
def TupOf (H : Hp) (g : Option (Addr × Int × Int)) : Prop := ∀ t a b, g = some (t, a, b) → H t = some (.tup [.int a, .int b])
theorem TupOf.none {H : Hp} : TupOf H none := fun _ _ _ e => nomatch e
theorem TupOf.some {H : Hp} {t : Addr} {a b : Int} (h : H t = .some (.tup [.int a, .int b])) : TupOf H (.some (t, a, b)) := fun _ _ _ e => by cases e; exact h
def fTup (g : Option (Addr × Int × Int)) : Fact := fun H => TupOf H g
theorem mn_Tup {g : Option (Addr × Int × Int)} : Mn (fTup g) := fun _ _ e h t a b q => e _ _ (h t a b q)
def fitFl (w : Str) (g e : V) : List (Str × V) := [("word", .str w), ("goes", g), ("fails", e)]
def fFit (C x : Addr) (hl hh pl ph f : Int) (o : Option Int) : Fact := fun H => ∃ g e, GoesOk hl hh pl ph f o g ∧ FailsOk hl hh pl ph f o e ∧ TupOf H g ∧ TupOf H e ∧ fN C x (fitFl (wordOf (hl - ph) (hh - pl) f o) (vA g) (vA e)) H
theorem mn_Fit {C x : Addr} {hl hh pl ph f : Int} {o : Option Int} : Mn (fFit C x hl hh pl ph f o) := fun _ _ e ⟨g, b, h1, h2, h3, h4, h5⟩ => ⟨g, b, h1, h2, mn_Tup _ _ e h3, mn_Tup _ _ e h4, mn_N _ _ e h5⟩
theorem Kn.fit {C x : Addr} {hl hh pl ph f : Int} {o : Option Int} {g e : Option (Addr × Int × Int)} {w : Str} {M : List Cell} {fs : List Fact} {H : Hp} (k : Kn M fs H) (hg : GoesOk hl hh pl ph f o g) (he : FailsOk hl hh pl ph f o e)
    (tg : fTup g ∈ fs) (te : fTup e ∈ fs) (hx : fN C x (fitFl w (vA g) (vA e)) ∈ fs) (hw : w = wordOf (hl - ph) (hh - pl) f o) : Kn M (fFit C x hl hh pl ph f o :: fs) H :=
  k.more mn_Fit ⟨g, e, hg, he, k.raw tg, k.raw te, by rw [← hw]; exact k.raw hx⟩
end Gx

namespace Gx
open PySem PySem.Spec PyProof.Rows L2
section
variable {K : PySem.W.Frag} {H : Hp} {σ : L2.St} {Q : VK} {v x : V} {te tl : TE} {t : TT} {tA : TA} {g : TG} {tb : TS} {nx : L2.St → Hp → Prop} {rt : VK} {bk ct : L2.St → Hp → Prop} {a p q : Addr} {xs ys : List V} {M : List Cell} {fs : List Fact} {vs : List Nat} {i : Int}
/-! ### comprehensions that keep facts of what they make -/
/-! ### loops by an invariant -/
/-! ### zip of two tuples of two -/
/-! ### items, sums of lists, growing lists -/
theorem x_sum {X : Cx} {K : PySem.W.Frag} (hk : X.K = K) (hc : X.calm = true) : CallR X (.builtin "sum") (rSum K) := by
  subst hk
  exact cr_sum hc
theorem x_any {X : Cx} {K : PySem.W.Frag} (hk : X.K = K) (hc : X.calm = true) : CallR X (.builtin "any") (rAny K) := by
  subst hk
  exact cr_any hc
theorem x_all {X : Cx} {K : PySem.W.Frag} (hk : X.K = K) (hc : X.calm = true) : CallR X (.builtin "all") (rAll K) := by
  subst hk
  exact cr_all hc
end
end Gx

namespace Gx
open PySem PySem.Spec PyProof.Rows L2
/-! ### methods, own ==, !=, len -/
section
variable {X : Cx} {K : PySem.W.Frag} {d : He.DefD} {k j n : Nat} {ps : List Str} {sp : Sp} {C : Addr} {m : Str} {o : Expr} {ta : TE} {apos pos : Pos} {pl : Sem Bool}
theorem pm {e : Expr} {es : List Expr} {t : TA} (D : DOk X.prog X.w X.K X.mg X.base d CX0 k ps sp) (c : Cls X.K C) (hm : Meth X.K C m (He.fAd X.K d.at_)) (hb : BdN d ps) (hr : Room j X.A) (hj : k ≤ j) (he : PE X o ta) (ha : PA X (e :: es) t)
    (hst : starEach (e :: es) X.env = (false, eval e X.env) :: starEach es X.env := by rfl) (hpl : (backTo pos (starEach es X.env)).any (·.1) = false := by rfl)
    (ht : eval (.Call (.Attribute o m apos) (e :: es) [] pos) X.env = (do
      let ov ← eval o X.env
      standAt apos.atName
      let (f, first) ← holding [ov] (getMethod ov m pl)
      callWith pos f first (backTo pos (starEach (e :: es) X.env)) (backToKw pos (keywordEach [] X.env))) := by rfl) :
    PE X (.Call (.Attribute o m apos) (e :: es) [] pos) (tMeth C m sp [] E0 ta t) := by
  obtain ⟨fd, F, G⟩ := D.ex
  exact pe_meth he c hm G (hr.mono hj) (FunD.bdN F hb) .nil pass0 ha hst hpl ht
def tMethN (C : Addr) (m : Str) (n mk : Nat) (sp : Sp) (gV : List V → List V → List V) (E : XK) (ta : TE) (t tk : TA) : TE := fun σ H Q => ta σ H fun x H1 => ∃ a dx fs, x = .ref a ∧ H1 a = some (.ins C dx fs) ∧ fs.lookup m = none ∧ t σ H1 fun vs H2 => tk σ H2 fun zs H3 => vs.length + 1 = n ∧ zs.length = mk ∧ sp (gV (.ref a :: vs) zs) H3 Q E
theorem pmK {e : Expr} {es : List Expr} {t : TA} {kws : List Keyword} {tk : TA} {ks : List Str} {gV : List V → List V → List V} (D : DOk X.prog X.w X.K X.mg X.base d CX0 k ps sp) (c : Cls X.K C) (hm : Meth X.K C m (He.fAd X.K d.at_)) (hb : BdK X.K d ps n ks gV) (hr : Room j X.A) (hj : k ≤ j) (he : PE X o ta) (ha : PA X (e :: es) t) (hkw : PK X kws tk)
    (hall : (backToKw pos (keywordEach kws X.env)).all (·.1.isSome) = true := by rfl) (hks : (backToKw pos (keywordEach kws X.env)).filterMap (·.1) = ks := by rfl)
    (hst : starEach (e :: es) X.env = (false, eval e X.env) :: starEach es X.env := by rfl)
    (hpl : ((backTo pos (starEach (e :: es) X.env)).any (·.1) || (backToKw pos (keywordEach kws X.env)).any (·.1.isNone)) = false := by rfl)
    (ht : eval (.Call (.Attribute o m apos) (e :: es) kws pos) X.env = (do
      let ov ← eval o X.env
      standAt apos.atName
      let (f, first) ← holding [ov] (getMethod ov m pl)
      callWith pos f first (backTo pos (starEach (e :: es) X.env)) (backToKw pos (keywordEach kws X.env))) := by rfl) :
    PE X (.Call (.Attribute o m apos) (e :: es) kws pos) (tMethN C m n ks.length sp gV E0 ta t tk) := by
  obtain ⟨fd, F, G⟩ := D.ex
  obtain ⟨g, hbd⟩ := hb fd F
  refine ⟨fun pins s σ H Q I h => ?_⟩
  refine PySem.W.methodCall_KW (pl := pl) (thn (he.run pins s σ H _ I h) fun u s1 ⟨x, H1, I1, rx, a, dx, fs, ex, ea, l, q⟩ => ?_) ht
  subst ex
  obtain rfl : u = Value.ref a := rx
  refine getmeth_ok I1 ea c hm l ?_
  refine PySem.W.callWith_KW (first := [.ref a]) (h₀ := X.base) I.ok.mod.kin hm.kp hall (thn (ha.run pos pins s1 σ H1 _ I1 q) fun us s2 ⟨vs, H2, I2, r, q⟩ => ?_) hpl hst
  refine thn (hkw.run pos pins s2 σ H2 _ I2 q) fun ws s3 ⟨zs, H3, I3, rz, l1, l2, q2⟩ => ⟨I3.kIn, ?_⟩
  rw [hks]
  exact run_fnN (us := .ref a :: us) (vs := .ref a :: vs) G (hr.mono hj) hbd pass0 I3 (.cons rfl r) rz l1 l2 q2
/-! ### readings of these, by what is known -/
section
variable {M : List Cell} {fs : List Fact} {H : Hp} {σ : L2.St} {Q : VK} {a b : Addr} {s u l s' u' l' : Int} {fl gl : List (Str × V)} {E : XK} {t tk : TA} {dvs : List V} {mk : Nat} {gV : List V → List V → List V}
end
def rTupOf (K : PySem.W.Frag) (xs : List V) (H : Hp) (Q : VK) : Prop := ∃ p ys, xs = [.ref p] ∧ ((SqL K H p ys ∧ ∀ l, H l = none → Q (.ref l) (upd H l (.tup ys))) ∨ (SqT K H p ys ∧ Q (.ref p) H))
theorem x_tup {X : Cx} {K : PySem.W.Frag} (hk : X.K = K) : CallR X (.type "tuple") (rTupOf K) := by
  subst hk
  exact call_tuple_of
theorem x_isi {X : Cx} {K : PySem.W.Frag} (hk : X.K = K) : CallR X (.builtin "isinstance") (rIsi K) := by
  subst hk
  exact call_isi
end
end Gx

namespace Gx
open PySem PySem.Spec PyProof.Rows L2
/-! ### set and sorted of a list of whole numbers -/
abbrev nS (w : World) : Obj := { cls := .type "set", dict := none, data := .set #[] 0 (.fresh 0 0 (!w.params.followText "set-order")) }
section
variable {P : Program} {w : World} {A : Around} {E : Value → Shared → Prop} {s : Shared} {l : Addr} {items : Array Value} {ns : List Int}
theorem ints_at (hit : IntsAre items.toList ns) (i : Nat) (v : Value) (hv : items[i]? = some v) : ∃ k t, ns[i]? = some k ∧ v = .int k t := by
  have q := IntsAre.length hit
  rw [Array.length_toList] at q
  have hi : i < ns.length := by rw [← q]; exact (Array.getElem?_eq_some_iff.mp hv).1
  obtain ⟨t, e⟩ := PyProof.Rows.IntsAre.int_at hit i v (by rw [Array.getElem?_toList]; exact hv)
  exact ⟨ns[i], t, List.getElem?_eq_getElem hi, by rw [e, List.getD_eq_getElem?_getD, List.getElem?_eq_getElem hi] <;> rfl⟩
theorem init_listI {R : Result → Shared → Prop} (hh : A.handled = none) (hl : s.heap.IsList l items) (hit : IntsAre items.toList ns) (hb : ns.length + 1 < scanBound)
    (hR : ∀ h' tk c, SetR w h' s.heap.objs.size (fun j => decide (j ∈ ns)) c → c ≤ ns.length → (∀ b o, s.heap.get? b = some o → h'.get? b = some o) → R (.ok (.ret .none)) { s with heap := h', toks := tk }) :
    wpAny (model P w) A.in1 (Builtin.«set.__init__» ⟨[.ref s.heap.objs.size, .ref l], []⟩) (fun fin s' => match fin with | .done f => R (.ok f) s' | .again c' => c'.quiet = true ∧ codeAny (model P w) A c' R s') (fun e s' => R (.error e) s') { s with heap := s.heap.push (nS w) } := by
  have hisz : items.size = ns.length := by
    have q := IntsAre.length hit
    rw [Array.length_toList] at q
    exact q
  obtain ⟨⟨ocls, odict, odata, oslots⟩, hol, hcl, nl, hdl⟩ := hl
  simp only at hcl hdl
  subst hcl; subst hdl
  have hS : (s.heap.push (nS w)).get? s.heap.objs.size = some (nS w) := Heap.get?_push_size _ rfl
  have hl1 : (s.heap.push (nS w)).IsList l items := ⟨_, Heap.get?_push_of_some _ hol, rfl, nl, rfl⟩
  have hol' := Heap.get?_push_of_some (nS w) hol
  have hsls := F.sub_list_set
  have hslf := F.sub_list_frozenset
  have hne : (Value.type "list" == Value.type "dict") = false := by decide
  unfold Builtin.«set.__init__» noKeywords Builtin.Frozenset.updateFrom
  generalize hPI : pyIter = PI
  wp_walk
  subst hPI
  refine wpAny_pyIter_list hl1 ?_
  refine wpAny_bind (wpAny_runValue ?_)
  have hlS : l < s.heap.objs.size := Heap.lt_size hol
  have hz : (s.heap.push (nS w)).objs.size = s.heap.objs.size + 1 := Heap.size_push ..
  have hneI : l ≠ (s.heap.push (nS w)).objs.size := by rw [hz]; exact Nat.ne_of_lt (Nat.lt_succ_of_lt hlS)
  have hSf : s.heap.objs.size ∉ [(s.heap.push (nS w)).objs.size, l] := by
    rw [hz]
    simp only [List.mem_cons, List.not_mem_nil, or_false, not_or]
    exact ⟨Nat.ne_of_lt (Nat.lt_succ_self _), Nat.ne_of_gt hlS⟩
  refine set_update_ints ((Walks.list (by simp [hh]) _ l hneI items).toS) s.heap.objs.size hSf ns hisz hb (ints_at hit) (items.size - 0) 0 _ (by omega) (Nat.zero_le _) ⟨⟨_, Heap.get?_push_size _ rfl, rfl, rfl⟩, (hl1.push _)⟩ ⟨0, Nat.le_refl 0, setR_new_at (Heap.get?_push_of_some _ hS)⟩ fun s' c' hm hc' hS' => ?_
  obtain ⟨h', g2, d', tk', os'⟩ := s'
  have eg : g2 = s.gens := hm.gens
  have ed : d' = s.drawn := hm.drawn
  have eo : os' = s.os := hm.os
  subst eg; subst ed; subst eo
  refine wpAny_pure (wpAny_pure (hR h' tk' c' hS' (by rw [← hisz]; exact hc') fun b o e => ?_))
  have hb0 : b < s.heap.objs.size := Heap.lt_size e
  refine hm.heap b o ?_ (Heap.get?_push_of_some _ (Heap.get?_push_of_some _ e))
  rw [hz]
  simp only [List.mem_cons, List.not_mem_nil, or_false, not_or]
  exact ⟨Nat.ne_of_lt hb0, Nat.ne_of_lt (Nat.lt_succ_of_lt hb0)⟩
theorem call_set_lstI {Q : Value → Shared → Prop} (hh : A.handled = none) (hl : s.heap.IsList l items) (hit : IntsAre items.toList ns) (hb : ns.length + 1 < scanBound)
    (h : ∀ (h' : Heap) (tk c : Nat), SetR w h' s.heap.objs.size (fun j => decide (j ∈ ns)) c → c ≤ ns.length → (∀ b o, s.heap.get? b = some o → h'.get? b = some o) → Q (.ref s.heap.objs.size) { s with heap := h', toks := tk }) :
    wpAny (model P w) A (call (.type "set") [.ref l]) Q E s := by
  obtain ⟨c, tl, hmro⟩ := F.called_set.mro
  have hmade := F.called_set.made
  have hsub := F.called_set.sub
  refine wpAny_call (codeAny_of_tree (wpAny_pure ⟨Code.quiet_builtin _ (by decide +kernel), codeAny_builtin F.entry_type_call ?_⟩))
  rw [Around.under_plain (weight_type_call_type "set" [.ref l] []) rfl]
  have h1 := F.called_set.notType
  have h2 := F.called_set.canCreate
  have hct := F.typeCall_set_1 (.ref l)
  repeat (any_goals (first | assumption | wp_step))
  refine codeAny_mono (code_set_led1 (.ref l) (E := E) (Q₁ := fun obj s₁ => obj = .ref s.heap.objs.size ∧ s₁ = { s with heap := s.heap.push (nS w) }) ⟨rfl, rfl⟩) fun r s₁ hr => ?_
  cases r with
  | error e => exact hr
  | ok fl =>
    cases fl with
    | ret obj =>
      obtain ⟨rfl, rfl⟩ := hr
      have hT : Shared.TypeIs { s with heap := s.heap.push (nS w) } (.ref s.heap.objs.size) "set" := ⟨_, Heap.get?_push_size _ rfl, rfl⟩
      have hli := F.called_set.init.lookup
      have hbi := F.called_set.init.bind (.ref s.heap.objs.size)
      repeat (any_goals (first | assumption | wp_step))
      refine codeAny_mono (codeAny_call_builtin (R := wants (fun r s₂ => r = .none ∧ ∃ h' tk c, s₂ = { s with heap := h', toks := tk } ∧ SetR w h' s.heap.objs.size (fun j => decide (j ∈ ns)) c ∧ c ≤ ns.length ∧ (∀ b o, s.heap.get? b = some o → h'.get? b = some o)) E) F.called_set.init.plain F.entry_set_init
        (check_set_init_1 hT ?ini)) fun r₂ s₂ hr₂ => ?_
      case ini =>
        refine init_listI ?hh hl hit hb fun h' tk c r1 r2 r3 => ?k
        case hh => simp [hh]
        case k => exact ⟨rfl, h', tk, c, rfl, r1, r2, r3⟩
      cases r₂ with
      | error e => exact hr₂
      | ok fl =>
        cases fl with
        | ret v =>
          obtain ⟨rfl, h', tk, c, rfl, r1, r2, r3⟩ := hr₂
          refine wpAny_pure ?_
          show wpAny _ _ (ret (Value.ref s.heap.objs.size)) _ _ _
          exact wpAny_pure (h h' tk c r1 r2 r3)
        | next => exact False.elim hr₂
        | brk => exact False.elim hr₂
        | cont => exact False.elim hr₂
    | next => exact False.elim hr
    | brk => exact False.elim hr
    | cont => exact False.elim hr
end
section
variable {X : Cx} {K : PySem.W.Frag} {w : World}
theorem nodup_len {l : List Int} : ∀ {L : List Int}, l.Nodup → (∀ x, x ∈ l → x ∈ L) → l.length ≤ L.length := by
  induction l with
  | nil => intro L _ _; exact Nat.zero_le _
  | cons a l ih =>
    intro L nd h
    obtain ⟨n1, n2⟩ := List.nodup_cons.mp nd
    have ha := h a List.mem_cons_self
    have e := ih (L := L.erase a) n2 fun x hx => (List.mem_erase_of_ne (fun (q : x = a) => n1 (by rw [← q]; exact hx))).mpr (h x (List.mem_cons_of_mem _ hx))
    rw [List.length_erase_of_mem ha] at e
    have := List.length_pos_of_mem ha
    rw [List.length_cons]
    omega
theorem setR_len {h : Heap} {a : Addr} {S : Int → Bool} {n : Nat} (R : SetR w h a S n) {L : List Int} (hL : ∀ k, S k = true → k ∈ L) : n ≤ L.length := by
  obtain ⟨o, es, ep, t, ho, hex, hd, g, nd, hm, hb, hf, hn, hr, hl⟩ := R
  have e := nodup_len nd fun x hx => hL x ((hm x).mpr hx)
  rw [List.length_map, Array.length_toList, hn] at e
  exact e
def rSetI (K : PySem.W.Frag) (w : World) : List V → Hp → VK → Prop := fun xs H Q => ∃ (l : Addr) (ns : List Int), xs = [.ref l] ∧ SqL K H l (ns.map V.int) ∧ ns.length < 4000 ∧ ∀ a c, H a = none → (∀ L : List Int, (∀ k, k ∈ ns → k ∈ L) → c ≤ L.length) → Q (.ref a) (upd H a (SetO w a (fun j => decide (j ∈ ns)) c))
theorem x_setI (hk : X.K = K) (hw : X.w = w) (hc : X.calm = true) : CallR X (.type "set") (rSetI K w) := by
  subst hk
  subst hw
  intro pins s σ H xs us Q I r h
  obtain ⟨l, ns, rfl, hl, hn, q⟩ := h
  rw [Vals.ref1 r]
  obtain ⟨its, rv, pl, hz⟩ := I.list hl
  have hi : IntsAre its.toArray.toList ns := ints_of_vals rv
  refine call_set_lstI (P := X.prog) (w := X.w) (I.ok.hd hc) pl.isList hi (by unfold scanBound; omega) fun h' tk c R hcn k => ?_
  exact ⟨.ref s.heap.objs.size, upd H s.heap.objs.size (SetO X.w s.heap.objs.size (fun j => decide (j ∈ ns)) c), I.laid (t' := tk) k (Nat.le_refl _) (setO_new R), rfl, q _ c (I.hok.fresh (Nat.le_refl _)) fun L hL => setR_len R fun k hk => hL k (of_decide_eq_true hk)⟩
theorem x_sortedSet (hw : X.w = w) (hc : X.calm = true) : CallR X (.builtin "sorted") (rSortedSet w) := by
  subst hw
  exact cr_sortedSet hc
section
variable {H : Hp} {Q : VK} {p q : Addr} {ns ms : List Int} {S : Int → Bool} {n : Nat} {M : List Cell} {fs : List Fact}
theorem rise_eq : ∀ {xs ys : List Int}, xs.Pairwise (· < ·) → ys.Pairwise (· < ·) → (∀ k, k ∈ xs ↔ k ∈ ys) → xs = ys
  | [], [], _, _, _ => rfl
  | [], y :: ys, _, _, h => nomatch (h y).mpr List.mem_cons_self
  | x :: xs, [], _, _, h => nomatch (h x).mp List.mem_cons_self
  | x :: xs, y :: ys, h1, h2, h => by
    obtain ⟨a1, b1⟩ := List.pairwise_cons.mp h1
    obtain ⟨a2, b2⟩ := List.pairwise_cons.mp h2
    have e : x = y := by
      rcases List.mem_cons.mp ((h x).mp List.mem_cons_self) with e | e
      · exact e
      · rcases List.mem_cons.mp ((h y).mpr List.mem_cons_self) with e' | e'
        · exact e'.symm
        · have := a1 y e'
          have := a2 x e
          omega
    subst e
    rw [rise_eq b1 b2 fun k => ?_]
    constructor
    · intro hk
      rcases List.mem_cons.mp ((h k).mp (List.mem_cons_of_mem _ hk)) with e | e
      · have := a1 k hk
        omega
      · exact e
    · intro hk
      rcases List.mem_cons.mp ((h k).mpr (List.mem_cons_of_mem _ hk)) with e | e
      · have := a2 k hk
        omega
      · exact e
end
end
end Gx

/-! Own layer Q1: values without addresses (PV), a store of things that change, and how both stand in a heap. -/
namespace Gx
open PySem PySem.Spec PyProof.Rows L2
def XO (a : Addr) (oe : Obj) : HO := .ext fun h => h.get? a = some oe
end Gx
namespace Qx
open PySem PySem.Spec PyProof.Rows L2 Gx
structure TabI where
  d : Str
  x : Option Str
  q : Str
  deriving DecidableEq
inductive PV where
  | non | bl (b : Bool) | int (i : Int) | str (z : Str) | ty (n : String) | cls (C : Str)
  | tup (ps : List PV) | xtp (ps : List PV) | lst (ps : List PV) | rol (ps : List PV) | ins (C : Str) (ns : List Str) (ps : List PV)
  | rng (a b : Int) | loc (n : Nat) | dic (ks vs : List PV) | dtk (ks : List (List Key)) (vs : List PV) | tbl (t : TabI) | xc (C : Str) (ns : List Str) (ps : List PV)
def keyP : PV → Option Key
  | .int i => some (.inl i)
  | .str z => some (.inr z)
  | _ => none
def XD (G : Hp) (d : Option Addr) (ns : List Str) (xs : List V) : Prop := (d = none ∧ ns = []) ∨ ∃ dd, d = some dd ∧ G dd = some (.xd (ns.zip xs))
theorem XD.mono {G G' : Hp} {d : Option Addr} {ns : List Str} {xs : List V} (e : Same G G') (h : XD G d ns xs) : XD G' d ns xs := h.elim .inl fun ⟨dd, h1, h2⟩ => .inr ⟨dd, h1, e _ _ h2⟩
def TabO (K : PySem.W.Frag) (G : Hp) (t : TabI) (a : Addr) (o : HO) : Prop := a = (He.cT K (t.d, t.x)).2 ∧ ∃ ps : Array Value, o = .tbl ps ∧ TriplesOk ps.toList ∧ ∀ (pos : Pos) (cv : Value), codeAmong pos ps.toList = some cv → ∃ c, cv = .ref c ∧ G c = some (LamX.CodeO c t.q)
theorem TabO.mono {K : PySem.W.Frag} {G G' : Hp} {t : TabI} {a : Addr} {o : HO} (e : Same G G') (h : TabO K G t a o) : TabO K G' t a o := by
  obtain ⟨h1, ps, h2, h3, h4⟩ := h
  exact ⟨h1, ps, h2, h3, fun pos cv hc => (h4 pos cv hc).imp fun c z => ⟨z.1, e _ _ z.2⟩⟩
abbrev Sto := List (Option PV)
abbrev Slots := List (Option PV)
def Pre (ι ι' : List Addr) : Prop := ∀ (n : Nat) (a : Addr), ι[n]? = some a → ι'[n]? = some a
theorem Pre.refl {ι : List Addr} : Pre ι ι := fun _ _ h => h
theorem Pre.trans {ι ι' ι'' : List Addr} (a : Pre ι ι') (b : Pre ι' ι'') : Pre ι ι'' := fun n x h => b n x (a n x h)
theorem Pre.app {ι t : List Addr} : Pre ι (ι ++ t) := fun n a h => by
  rw [List.getElem?_append_left (List.getElem?_eq_some_iff.mp h).1]; exact h
theorem same_refl {H : Hp} : Same H H := fun _ _ h => h
theorem same_trans {H H' H'' : Hp} (a : Same H H') (b : Same H' H'') : Same H H'' := fun x o h => b x o (a x o h)
def ExT (G : Hp) (v : V) : Prop := ∃ a ob u, v = .ref a ∧ G a = some (.frz ob u) ∧ ob.cls = .type "tuple" ∧ ob.dict = none
theorem ExT.mono {G G' : Hp} {v : V} (e : Same G G') (h : ExT G v) : ExT G' v := by
  obtain ⟨a, ob, u, h1, h2, h3⟩ := h
  exact ⟨a, ob, u, h1, e _ _ h2, h3⟩
mutual
def Rep (K : PySem.W.Frag) (ι : List Addr) (G : Hp) : PV → V → Prop
  | .non, v => v = .non
  | .bl b, v => v = .bl b
  | .int i, v => v = .int i
  | .str z, v => v = .str z
  | .ty n, v => v = .ty n
  | .cls C, v => v = .ref (He.ga K C)
  | .tup ps, v => ∃ a xs, v = .ref a ∧ SqT K G a xs ∧ RepL K ι G ps xs
  | .xtp ps, v => (∃ a xs, v = .ref a ∧ SqT K G a xs ∧ RepL K ι G ps xs) ∧ ExT G v
  | .lst ps, v => ∃ a xs, v = .ref a ∧ G a = some (.lst xs) ∧ RepL K ι G ps xs
  | .rol ps, v => ∃ a xs, v = .ref a ∧ SqL K G a xs ∧ RepL K ι G ps xs
  | .ins C ns ps, v => ∃ a dx xs, v = .ref a ∧ G a = some (.ins (He.ga K C) dx (ns.zip xs)) ∧ ns.length = ps.length ∧ RepL K ι G ps xs
  | .rng i j, v => ∃ a, v = .ref a ∧ G a = some (.rng i j)
  | .loc n, v => ∃ a, v = .ref a ∧ ι[n]? = some a
  | .dic ks vs, v => ∃ a kvs, v = .ref a ∧ G a = some (.dK kvs) ∧ ks.map keyP = kvs.map (fun w => some w.1) ∧ RepL K ι G vs (kvs.map (·.2))
  | .dtk ks vs, v => ∃ a kvs, v = .ref a ∧ G a = some (.dT kvs) ∧ kvs.map (·.1) = ks ∧ RepL K ι G vs (kvs.map (·.2))
  | .tbl t, v => ∃ a, v = .ref a ∧ ∃ o, G a = some o ∧ TabO K G t a o
  | .xc C ns ps, v => ∃ a oe xs, v = .ref a ∧ G a = some (Gx.XO a oe) ∧ oe.cls = .ref (He.ga K C) ∧ (∃ w, oe.data = .fields w) ∧ XD G oe.dict ns xs ∧ ns.length = ps.length ∧ RepL K ι G ps xs
def RepL (K : PySem.W.Frag) (ι : List Addr) (G : Hp) : List PV → List V → Prop
  | [], xs => xs = []
  | p :: ps, xs => ∃ x r, xs = x :: r ∧ Rep K ι G p x ∧ RepL K ι G ps r
end
section
variable {K : PySem.W.Frag} {ι ι' : List Addr} {G G' : Hp}
mutual
theorem Rep.mono (hp : Pre ι ι') (e : Same G G') : ∀ (p : PV) (v : V), Rep K ι G p v → Rep K ι' G' p v
  | .non, _, h => h
  | .bl _, _, h => h
  | .int _, _, h => h
  | .str _, _, h => h
  | .ty _, _, h => h
  | .cls _, _, h => h
  | .tup ps, _, ⟨a, xs, h1, h2, h3⟩ => ⟨a, xs, h1, sqt_same e h2, RepL.mono hp e ps xs h3⟩
  | .xtp ps, _, ⟨⟨a, xs, h1, h2, h3⟩, h4⟩ => ⟨⟨a, xs, h1, sqt_same e h2, RepL.mono hp e ps xs h3⟩, h4.mono e⟩
  | .lst ps, _, ⟨a, xs, h1, h2, h3⟩ => ⟨a, xs, h1, e _ _ h2, RepL.mono hp e ps xs h3⟩
  | .rol ps, _, ⟨a, xs, h1, h2, h3⟩ => ⟨a, xs, h1, e.seq h2, RepL.mono hp e ps xs h3⟩
  | .ins _ _ ps, _, ⟨a, dx, xs, h1, h2, h3, h4⟩ => ⟨a, dx, xs, h1, e _ _ h2, h3, RepL.mono hp e ps xs h4⟩
  | .rng _ _, _, ⟨a, h1, h2⟩ => ⟨a, h1, e _ _ h2⟩
  | .loc _, _, ⟨a, h1, h2⟩ => ⟨a, h1, hp _ _ h2⟩
  | .dic _ vs, _, ⟨a, kvs, h1, h2, h3, h4⟩ => ⟨a, kvs, h1, e _ _ h2, h3, RepL.mono hp e vs _ h4⟩
  | .dtk _ vs, _, ⟨a, kvs, h1, h2, h3, h4⟩ => ⟨a, kvs, h1, e _ _ h2, h3, RepL.mono hp e vs _ h4⟩
  | .tbl _, _, ⟨a, h1, o, h2, h3⟩ => ⟨a, h1, o, e _ _ h2, h3.mono e⟩
  | .xc _ _ ps, _, ⟨a, oe, xs, h1, h2, h3, h4, h5, h6, h7⟩ => ⟨a, oe, xs, h1, e _ _ h2, h3, h4, h5.mono e, h6, RepL.mono hp e ps xs h7⟩
theorem RepL.mono (hp : Pre ι ι') (e : Same G G') : ∀ (ps : List PV) (xs : List V), RepL K ι G ps xs → RepL K ι' G' ps xs
  | [], _, h => h
  | p :: ps, _, ⟨x, r, h1, h2, h3⟩ => ⟨x, r, h1, Rep.mono hp e p x h2, RepL.mono hp e ps r h3⟩
end
theorem RepL.len : ∀ {ps : List PV} {xs : List V}, RepL K ι G ps xs → xs.length = ps.length
  | [], _, h => by rw [show _ = [] from h]; rfl
  | _ :: ps, _, ⟨x, r, h1, _, h3⟩ => by rw [h1, List.length_cons, List.length_cons, RepL.len h3]
theorem RepL.get : ∀ {ps : List PV} {xs : List V} {i : Nat} {p : PV}, RepL K ι G ps xs → ps[i]? = some p → ∃ x, xs[i]? = some x ∧ Rep K ι G p x
  | [], _, _, _, _, e => by simp at e
  | q :: ps, _, 0, p, ⟨x, r, h1, h2, _⟩, e => by
    subst h1
    simp only [List.getElem?_cons_zero, Option.some.injEq] at e
    subst e
    exact ⟨x, rfl, h2⟩
  | q :: ps, _, i + 1, p, ⟨x, r, h1, _, h3⟩, e => by
    subst h1
    simp only [List.getElem?_cons_succ] at e ⊢
    exact RepL.get h3 e
theorem RepL.of : ∀ {ps : List PV} {xs : List V}, xs.length = ps.length → (∀ (i : Nat) p, ps[i]? = some p → ∃ x, xs[i]? = some x ∧ Rep K ι G p x) → RepL K ι G ps xs
  | [], xs, hl, _ => by
    have : xs = [] := List.length_eq_zero_iff.mp hl
    exact this
  | p :: ps, [], hl, _ => by simp at hl
  | p :: ps, x :: xs, hl, h => by
    obtain ⟨y, e, hy⟩ := h 0 p rfl
    simp only [List.getElem?_cons_zero, Option.some.injEq] at e
    subst e
    refine ⟨x, xs, rfl, hy, RepL.of (by simpa using hl) fun i q hq => ?_⟩
    obtain ⟨z, e, hz⟩ := h (i + 1) q (by simpa using hq)
    exact ⟨z, by simpa using e, hz⟩
theorem RepL.app {ps qs : List PV} {xs ys : List V} (h : RepL K ι G ps xs) (h' : RepL K ι G qs ys) : RepL K ι G (ps ++ qs) (xs ++ ys) := by
  induction ps generalizing xs with
  | nil =>
    have e : xs = [] := h
    subst e
    exact h'
  | cons p ps ih =>
    obtain ⟨x, r, e, h2, h3⟩ := h
    subst e
    exact ⟨x, r ++ ys, rfl, h2, ih h3⟩
theorem RepL.one {p : PV} {x : V} (h : Rep K ι G p x) : RepL K ι G [p] [x] := ⟨x, [], rfl, h, rfl⟩
theorem RepL.nilR : RepL K ι G [] [] := rfl
theorem RepL.consR {p : PV} {x : V} {ps : List PV} {xs : List V} (h : Rep K ι G p x) (t : RepL K ι G ps xs) : RepL K ι G (p :: ps) (x :: xs) := ⟨x, xs, rfl, h, t⟩
theorem RepL.drop {ps : List PV} {xs : List V} (n : Nat) (h : RepL K ι G ps xs) : RepL K ι G (ps.drop n) (xs.drop n) := by
  refine RepL.of (by rw [List.length_drop, List.length_drop, h.len]) fun i p e => ?_
  rw [List.getElem?_drop] at e ⊢
  exact h.get e
theorem RepL.take {ps : List PV} {xs : List V} (n : Nat) (h : RepL K ι G ps xs) : RepL K ι G (ps.take n) (xs.take n) := by
  refine RepL.of (by rw [List.length_take, List.length_take, h.len]) fun i p e => ?_
  rw [List.getElem?_take] at e ⊢
  by_cases c : i < n
  · rw [if_pos c] at e ⊢; exact h.get e
  · rw [if_neg c] at e; cases e
theorem RepL.set {ps : List PV} {xs : List V} {n : Nat} {p : PV} {x : V} (h : RepL K ι G ps xs) (hp : Rep K ι G p x) : RepL K ι G (ps.set n p) (xs.set n x) := by
  refine RepL.of (by rw [List.length_set, List.length_set, h.len]) fun i q e => ?_
  rw [List.getElem?_set] at e ⊢
  by_cases c : n = i
  · rw [if_pos c] at e ⊢
    rw [h.len]
    by_cases d : n < ps.length
    · rw [if_pos d] at e ⊢
      cases e
      exact ⟨x, rfl, hp⟩
    · rw [if_neg d] at e; cases e
  · rw [if_neg c] at e ⊢
    exact h.get e
theorem RepL.mapV {α : Type} {f : α → PV} {g : α → V} (hf : ∀ a, Rep K ι G (f a) (g a)) : ∀ as : List α, RepL K ι G (as.map f) (as.map g)
  | [] => rfl
  | a :: as => ⟨g a, as.map g, rfl, hf a, RepL.mapV hf as⟩
theorem RepL.split : ∀ {ps qs : List PV} {xs : List V}, RepL K ι G (ps ++ qs) xs → ∃ ys zs, xs = ys ++ zs ∧ RepL K ι G ps ys ∧ RepL K ι G qs zs
  | [], qs, xs, h => ⟨[], xs, rfl, rfl, h⟩
  | p :: ps, qs, xs, ⟨x, r, e, h2, h3⟩ => by
    obtain ⟨ys, zs, e2, h4, h5⟩ := RepL.split h3
    exact ⟨x :: ys, zs, by rw [e, e2]; rfl, ⟨x, ys, rfl, h2, h4⟩, h5⟩
end
def RepO (K : PySem.W.Frag) (ι : List Addr) (G : Hp) (a : Addr) : PV → HO → Prop
  | .lst ps, o => ∃ xs, o = .lst xs ∧ RepL K ι G ps xs
  | .ins C ns ps, o => ∃ dx xs, o = .ins (He.ga K C) dx (ns.zip xs) ∧ ns.length = ps.length ∧ RepL K ι G ps xs
  | .dic ks vs, o => ∃ kvs, o = .dK kvs ∧ ks.map keyP = kvs.map (fun w => some w.1) ∧ RepL K ι G vs (kvs.map (·.2))
  | .dtk ks vs, o => ∃ kvs, o = .dT kvs ∧ kvs.map (·.1) = ks ∧ RepL K ι G vs (kvs.map (·.2))
  | .tbl t, o => TabO K G t a o
  | _, _ => False
theorem RepO.mono {K : PySem.W.Frag} {ι ι' : List Addr} {G G' : Hp} (hp : Pre ι ι') (e : Same G G') {p : PV} {o : HO} {a : Addr} (h : RepO K ι G a p o) : RepO K ι' G' a p o := by
  cases p with
  | lst ps => obtain ⟨xs, h1, h2⟩ := h; exact ⟨xs, h1, h2.mono hp e⟩
  | ins C ns ps => obtain ⟨dx, xs, h1, h2, h3⟩ := h; exact ⟨dx, xs, h1, h2, h3.mono hp e⟩
  | dic ks vs => obtain ⟨kvs, h1, h2, h3⟩ := h; exact ⟨kvs, h1, h2, h3.mono hp e⟩
  | dtk ks vs => obtain ⟨kvs, h1, h2, h3⟩ := h; exact ⟨kvs, h1, h2, h3.mono hp e⟩
  | tbl t => exact TabO.mono e h
  | _ => exact h.elim
theorem RepO.rep {K : PySem.W.Frag} {ι : List Addr} {G : Hp} {p : PV} {o : HO} {a : Addr} (h : RepO K ι G a p o) (e : G a = some o) : Rep K ι G p (.ref a) := by
  cases p with
  | lst ps => obtain ⟨xs, h1, h2⟩ := h; subst h1; exact ⟨a, xs, rfl, e, h2⟩
  | ins C ns ps => obtain ⟨dx, xs, h1, h2, h3⟩ := h; subst h1; exact ⟨a, dx, xs, rfl, e, h2, h3⟩
  | dic ks vs => obtain ⟨kvs, h1, h2, h3⟩ := h; subst h1; exact ⟨a, kvs, rfl, e, h2, h3⟩
  | dtk ks vs => obtain ⟨kvs, h1, h2, h3⟩ := h; subst h1; exact ⟨a, kvs, rfl, e, h2, h3⟩
  | tbl t => exact ⟨a, rfl, o, e, h⟩
  | _ => exact h.elim
/-! ### the live addresses of a store -/
def lv : List Addr → Sto → List Addr
  | a :: ι, some _ :: O => a :: lv ι O
  | _ :: ι, none :: O => lv ι O
  | _, _ => []
theorem lv_mem : ∀ {ι : List Addr} {O : Sto} {a : Addr}, a ∈ lv ι O → ∃ (n : Nat) (p : PV), ι[n]? = some a ∧ O[n]? = some (some p)
  | [], O, a, h => by simp [lv] at h
  | b :: ι, [], a, h => by simp [lv] at h
  | b :: ι, some p :: O, a, h => by
    simp only [lv, List.mem_cons] at h
    rcases h with rfl | h
    · exact ⟨0, p, rfl, rfl⟩
    · obtain ⟨n, q, h1, h2⟩ := lv_mem h
      exact ⟨n + 1, q, by simpa using h1, by simpa using h2⟩
  | b :: ι, none :: O, a, h => by
    simp only [lv] at h
    obtain ⟨n, q, h1, h2⟩ := lv_mem h
    exact ⟨n + 1, q, by simpa using h1, by simpa using h2⟩
theorem lv_in : ∀ {ι : List Addr} {O : Sto} {n : Nat} {a : Addr} {p : PV}, ι[n]? = some a → O[n]? = some (some p) → a ∈ lv ι O
  | [], _, _, _, _, h, _ => by simp at h
  | b :: ι, [], _, _, _, _, h => by simp at h
  | b :: ι, some q :: O, 0, a, p, h, _ => by
    simp only [List.getElem?_cons_zero, Option.some.injEq] at h
    subst h
    exact List.mem_cons_self
  | b :: ι, none :: O, 0, a, p, _, h => by simp at h
  | b :: ι, some q :: O, n + 1, a, p, h, h' => List.mem_cons_of_mem _ (lv_in (n := n) (p := p) (by simpa using h) (by simpa using h'))
  | b :: ι, none :: O, n + 1, a, p, h, h' => by
    simp only [lv]
    exact lv_in (n := n) (p := p) (by simpa using h) (by simpa using h')
theorem lv_app : ∀ {ι : List Addr} {O : Sto} {a : Addr} {p : PV}, ι.length = O.length → lv (ι ++ [a]) (O ++ [some p]) = lv ι O ++ [a]
  | [], [], _, _, _ => rfl
  | [], _ :: _, _, _, h => by simp at h
  | _ :: _, [], _, _, h => by simp at h
  | b :: ι, some q :: O, a, p, h => by
    simp only [List.cons_append, lv]
    rw [lv_app (by simpa using h)]
  | b :: ι, none :: O, a, p, h => by
    simp only [List.cons_append, lv]
    rw [lv_app (by simpa using h)]
theorem lv_out : ∀ {ι : List Addr} {O : Sto} {n : Nat} {a : Addr} {p : PV}, ι[n]? = some a → O[n]? = some (some p) → (lv ι O).Perm (a :: lv ι (O.set n none))
  | [], _, _, _, _, h, _ => by simp at h
  | b :: ι, [], _, _, _, _, h => by simp at h
  | b :: ι, some q :: O, 0, a, p, h, _ => by
    simp only [List.getElem?_cons_zero, Option.some.injEq] at h
    subst h
    simp only [List.set_cons_zero, lv]
    exact .refl _
  | b :: ι, none :: O, 0, a, p, _, h => by simp at h
  | b :: ι, some q :: O, n + 1, a, p, h, h' => by
    simp only [List.set_cons_succ, lv]
    exact ((lv_out (n := n) (p := p) (by simpa using h) (by simpa using h')).cons b).trans (.swap a b _)
  | b :: ι, none :: O, n + 1, a, p, h, h' => by
    simp only [List.set_cons_succ, lv]
    exact lv_out (n := n) (p := p) (by simpa using h) (by simpa using h')
theorem set_back {O : Sto} {n : Nat} {x : Option PV} (h : O[n]? = some x) : O.set n x = O := by
  apply List.ext_getElem?
  intro i
  rw [List.getElem?_set]
  split
  · rename_i e
    subst e
    rw [h, if_pos (List.getElem?_eq_some_iff.mp h).1]
  · rfl
theorem lv_put {ι : List Addr} {O : Sto} {n : Nat} {a : Addr} {p : PV} (h : ι[n]? = some a) (h' : O[n]? = some none) : (lv ι (O.set n (some p))).Perm (a :: lv ι O) := by
  have hl := (List.getElem?_eq_some_iff.mp h').1
  have e := lv_out (ι := ι) (O := O.set n (some p)) (n := n) (a := a) (p := p) h (by rw [List.getElem?_set_self hl])
  rw [List.set_set, set_back h'] at e
  exact e
/-! ### a store in a heap -/
def fz (R : List (Addr × HO)) (ι : List Addr) (O : Sto) (H : Hp) : Hp := ers (R.map (·.1) ++ lv ι O) H
structure Sim (K : PySem.W.Frag) (R : List (Addr × HO)) (ι : List Addr) (O : Sto) (H : Hp) : Prop where
  len : ι.length = O.length
  nd : (R.map (·.1) ++ lv ι O).Nodup
  hid : ∀ x ∈ R, H x.1 = some x.2
  thr : ∀ a ∈ ι, H a ≠ none
  obj : ∀ (n : Nat) a p, ι[n]? = some a → O[n]? = some (some p) → ∃ o, H a = some o ∧ RepO K ι (fz R ι O H) a p o
structure Ext (R : List (Addr × HO)) (ι : List Addr) (O : Sto) (H : Hp) (ι' : List Addr) (O' : Sto) (H' : Hp) : Prop where
  pre : Pre ι ι'
  same : Same (fz R ι O H) (fz R ι' O' H')
section
variable {K : PySem.W.Frag} {R : List (Addr × HO)} {ι ι' ι'' : List Addr} {O O' O'' : Sto} {H H' H'' : Hp} {D a : Addr} {o o' : HO} {n : Nat} {p p' : PV}
theorem Ext.refl : Ext R ι O H ι O H := ⟨.refl, same_refl⟩
theorem Ext.trans (x : Ext R ι O H ι' O' H') (y : Ext R ι' O' H' ι'' O'' H'') : Ext R ι O H ι'' O'' H'' := ⟨x.pre.trans y.pre, same_trans x.same y.same⟩
theorem Ext.rep (x : Ext R ι O H ι' O' H') {v : V} (h : Rep K ι (fz R ι O H) p v) : Rep K ι' (fz R ι' O' H') p v := h.mono x.pre x.same
theorem Ext.repL (x : Ext R ι O H ι' O' H') {ps : List PV} {vs : List V} (h : RepL K ι (fz R ι O H) ps vs) : RepL K ι' (fz R ι' O' H') ps vs := h.mono x.pre x.same
theorem ers_eq {m m' : List Addr} (h : ∀ b, b ∈ m ↔ b ∈ m') : ers m H = ers m' H := by
  funext b
  unfold ers
  by_cases c : b ∈ m
  · rw [if_pos c, if_pos ((h b).mp c)]
  · rw [if_neg c, if_neg fun z => c ((h b).mpr z)]
theorem ers_upd {m : List Addr} (h : D ∈ m) : ers m (upd H D o) = ers m H := by
  funext b
  unfold ers
  by_cases c : b ∈ m
  · rw [if_pos c, if_pos c]
  · rw [if_neg c, if_neg c, upd_ne fun z => c (by rw [z]; exact h)]
theorem Sim.frozen (S : Sim K R ι O H) : Same (fz R ι O H) H := ers_sub _ _
theorem Sim.fresh (S : Sim K R ι O H) (h : H D = none) : D ∉ R.map (·.1) ++ lv ι O := fun z => by
  rcases List.mem_append.mp z with z | z
  · obtain ⟨x, hx, e⟩ := List.mem_map.mp z
    have := S.hid x hx
    rw [e, h] at this
    cases this
  · obtain ⟨n, q, h1, h2⟩ := lv_mem z
    obtain ⟨o, h3, _⟩ := S.obj n D q h1 h2
    rw [h] at h3
    cases h3
theorem Sim.hide_new (S : Sim K R ι O H) (h : H D = none) (o : HO) : Sim K ((D, o) :: R) ι O (upd H D o) ∧ fz ((D, o) :: R) ι O (upd H D o) = fz R ι O H := by
  have hf := S.fresh h
  have e : fz ((D, o) :: R) ι O (upd H D o) = fz R ι O H := by
    show ers (D :: (R.map (·.1) ++ lv ι O)) (upd H D o) = ers (R.map (·.1) ++ lv ι O) H
    rw [ers_upd List.mem_cons_self]
    funext b
    unfold ers
    by_cases c : b ∈ R.map (·.1) ++ lv ι O
    · rw [if_pos c, if_pos (List.mem_cons_of_mem _ c)]
    · rw [if_neg c]
      by_cases d : b = D
      · rw [d, if_pos List.mem_cons_self, h]
      · rw [if_neg fun z => (List.mem_cons.mp z).elim d c]
  have hs : Same H (upd H D o) := same_new h
  refine ⟨⟨S.len, List.nodup_cons.mpr ⟨hf, S.nd⟩, fun x hx => ?_, fun b hb z => ?_, fun n b q h1 h2 => ?_⟩, e⟩
  · rcases List.mem_cons.mp hx with rfl | hx
    · exact upd_same
    · exact hs _ _ (S.hid x hx)
  · cases q : H b with
    | none => exact S.thr b hb q
    | some u => rw [hs _ _ q] at z; cases z
  · obtain ⟨u, h3, h4⟩ := S.obj n b q h1 h2
    rw [e]
    exact ⟨u, hs _ _ h3, h4⟩
theorem Sim.hid_set (S : Sim K ((D, o) :: R) ι O H) (o' : HO) : Sim K ((D, o') :: R) ι O (upd H D o') ∧ fz ((D, o') :: R) ι O (upd H D o') = fz ((D, o) :: R) ι O H := by
  have nd := List.nodup_cons.mp (show (D :: (R.map (·.1) ++ lv ι O)).Nodup from S.nd)
  have e : fz ((D, o') :: R) ι O (upd H D o') = fz ((D, o) :: R) ι O H := by
    show ers (D :: (R.map (·.1) ++ lv ι O)) (upd H D o') = ers (D :: (R.map (·.1) ++ lv ι O)) H
    exact ers_upd List.mem_cons_self
  refine ⟨⟨S.len, S.nd, fun x hx => ?_, fun b hb z => ?_, fun n b q h1 h2 => ?_⟩, e⟩
  · rcases List.mem_cons.mp hx with rfl | hx
    · exact upd_same
    · rw [upd_ne fun z => nd.1 (List.mem_append_left _ (List.mem_map.mpr ⟨x, hx, z⟩))]
      exact S.hid x (List.mem_cons_of_mem _ hx)
  · by_cases c : b = D
    · rw [c, upd_same] at z; cases z
    · rw [upd_ne c] at z; exact S.thr b hb z
  · obtain ⟨u, h3, h4⟩ := S.obj n b q h1 h2
    rw [e]
    exact ⟨u, by rw [upd_ne fun z => nd.1 (List.mem_append_right _ (by rw [← z]; exact lv_in h1 h2))]; exact h3, h4⟩
theorem Sim.unhide (S : Sim K ((D, o) :: R) ι O H) : Sim K R ι O H ∧ Same (fz ((D, o) :: R) ι O H) (fz R ι O H) ∧ fz R ι O H D = some o := by
  have nd := List.nodup_cons.mp (show (D :: (R.map (·.1) ++ lv ι O)).Nodup from S.nd)
  have e : Same (fz ((D, o) :: R) ι O H) (fz R ι O H) := ers_less fun b hb => List.mem_cons_of_mem _ hb
  refine ⟨⟨S.len, nd.2, fun x hx => S.hid x (List.mem_cons_of_mem _ hx), S.thr, fun n b q h1 h2 => ?_⟩, e, ?_⟩
  · obtain ⟨u, h3, h4⟩ := S.obj n b q h1 h2
    exact ⟨u, h3, h4.mono .refl e⟩
  · show ers _ H D = _
    rw [ers_out nd.1]
    exact S.hid (D, o) List.mem_cons_self
theorem Sim.own (S : Sim K ((D, o) :: R) ι O H) (r : RepO K ι (fz ((D, o) :: R) ι O H) D p o) : Sim K R (ι ++ [D]) (O ++ [some p]) H ∧ fz R (ι ++ [D]) (O ++ [some p]) H = fz ((D, o) :: R) ι O H := by
  have hm : ∀ b, b ∈ R.map (·.1) ++ lv (ι ++ [D]) (O ++ [some p]) ↔ b ∈ D :: (R.map (·.1) ++ lv ι O) := fun b => by
    rw [lv_app S.len]
    simp only [List.mem_append, List.mem_cons, List.not_mem_nil, or_false]
    constructor
    · rintro (h | h | h)
      · exact .inr (.inl h)
      · exact .inr (.inr h)
      · exact .inl h
    · rintro (h | h | h)
      · exact .inr (.inr h)
      · exact .inl h
      · exact .inr (.inl h)
  have e : fz R (ι ++ [D]) (O ++ [some p]) H = fz ((D, o) :: R) ι O H := ers_eq hm
  have hD := S.hid (D, o) List.mem_cons_self
  refine ⟨⟨by simp [S.len], ?_, fun x hx => S.hid x (List.mem_cons_of_mem _ hx), fun b hb z => ?_, fun n b q h1 h2 => ?_⟩, e⟩
  · rw [lv_app S.len, ← List.append_assoc]
    exact (List.perm_append_singleton D _).nodup_iff.mpr S.nd
  · rcases List.mem_append.mp hb with hb | hb
    · exact S.thr b hb z
    · rw [List.mem_singleton.mp hb] at z
      rw [show H D = some o from hD] at z
      cases z
  · rw [e]
    by_cases c : n < O.length
    · rw [List.getElem?_append_left (by rw [S.len]; exact c)] at h1
      rw [List.getElem?_append_left c] at h2
      obtain ⟨u, h3, h4⟩ := S.obj n b q h1 h2
      exact ⟨u, h3, h4.mono .app same_refl⟩
    · have hn := (List.getElem?_eq_some_iff.mp h2).1
      simp only [List.length_append, List.length_cons, List.length_nil] at hn
      have en : n = O.length := by omega
      rw [en, List.getElem?_append_right (Nat.le_refl _)] at h2
      rw [en, List.getElem?_append_right (by rw [S.len]; exact Nat.le_refl _)] at h1
      simp [S.len] at h1 h2
      subst h1
      subst h2
      exact ⟨o, hD, r.mono .app same_refl⟩
theorem Sim.out (S : Sim K R ι O H) (hn : ι[n]? = some a) (ho : O[n]? = some (some p)) : ∃ o, H a = some o ∧ Sim K ((a, o) :: R) ι (O.set n none) H ∧ fz ((a, o) :: R) ι (O.set n none) H = fz R ι O H ∧ RepO K ι (fz R ι O H) a p o := by
  obtain ⟨o, h1, h2⟩ := S.obj n a p hn ho
  have pm := lv_out hn ho
  have hm : ∀ b, b ∈ a :: (R.map (·.1) ++ lv ι (O.set n none)) ↔ b ∈ R.map (·.1) ++ lv ι O := fun b => by
    have := pm.mem_iff (a := b)
    simp only [List.mem_append, List.mem_cons] at this ⊢
    rw [this]
    constructor
    · rintro (h | h | h)
      · exact .inr (.inl h)
      · exact .inl h
      · exact .inr (.inr h)
    · rintro (h | h | h)
      · exact .inr (.inl h)
      · exact .inl h
      · exact .inr (.inr h)
  have e : fz ((a, o) :: R) ι (O.set n none) H = fz R ι O H := ers_eq hm
  refine ⟨o, h1, ⟨by rw [List.length_set]; exact S.len, ?_, fun x hx => ?_, S.thr, fun m b q h3 h4 => ?_⟩, e, h2⟩
  · show (a :: (R.map (·.1) ++ lv ι (O.set n none))).Nodup
    exact ((pm.append_left (R.map (·.1))).trans List.perm_middle).nodup_iff.mp S.nd
  · rcases List.mem_cons.mp hx with rfl | hx
    · exact h1
    · exact S.hid x hx
  · rw [e]
    rw [List.getElem?_set] at h4
    split at h4
    · split at h4
      · cases h4
      · cases h4
    · exact S.obj m b q h3 h4
theorem Sim.put (S : Sim K ((a, o) :: R) ι O H) (hn : ι[n]? = some a) (ho : O[n]? = some none) (r : RepO K ι (fz ((a, o) :: R) ι O H) a p o) : Sim K R ι (O.set n (some p)) H ∧ fz R ι (O.set n (some p)) H = fz ((a, o) :: R) ι O H := by
  have pm := lv_put (p := p) hn ho
  have hm : ∀ b, b ∈ R.map (·.1) ++ lv ι (O.set n (some p)) ↔ b ∈ a :: (R.map (·.1) ++ lv ι O) := fun b => by
    have := pm.mem_iff (a := b)
    simp only [List.mem_append, List.mem_cons] at this ⊢
    rw [this]
    constructor
    · rintro (h | h | h)
      · exact .inr (.inl h)
      · exact .inl h
      · exact .inr (.inr h)
    · rintro (h | h | h)
      · exact .inr (.inl h)
      · exact .inl h
      · exact .inr (.inr h)
  have e : fz R ι (O.set n (some p)) H = fz ((a, o) :: R) ι O H := ers_eq hm
  have ha := S.hid (a, o) List.mem_cons_self
  refine ⟨⟨by rw [List.length_set]; exact S.len, ?_, fun x hx => S.hid x (List.mem_cons_of_mem _ hx), S.thr, fun m b q h3 h4 => ?_⟩, e⟩
  · have q : (a :: (R.map (·.1) ++ lv ι O)).Nodup := S.nd
    exact ((pm.append_left (R.map (·.1))).trans List.perm_middle).nodup_iff.mpr q
  · rw [e]
    rw [List.getElem?_set] at h4
    split at h4
    · rename_i c
      subst c
      split at h4
      · cases h4
        rw [hn] at h3
        cases h3
        exact ⟨o, ha, r⟩
      · cases h4
    · exact S.obj m b q h3 h4
/-! what follows: a new frozen thing, a new thing that changes, a change, a freezing -/
theorem Sim.newF (S : Sim K R ι O H) (h : H D = none) (o : HO) : Sim K R ι O (upd H D o) ∧ Ext R ι O H ι O (upd H D o) ∧ fz R ι O (upd H D o) D = some o := by
  obtain ⟨S1, e1⟩ := S.hide_new h o
  obtain ⟨S2, e2, e3⟩ := S1.unhide
  exact ⟨S2, ⟨.refl, by rw [← e1]; exact e2⟩, e3⟩
theorem Sim.newO (S : Sim K R ι O H) (h : H D = none) {o : HO} (r : RepO K ι (fz R ι O H) D p o) : Sim K R (ι ++ [D]) (O ++ [some p]) (upd H D o) ∧ Ext R ι O H (ι ++ [D]) (O ++ [some p]) (upd H D o) := by
  obtain ⟨S1, e1⟩ := S.hide_new h o
  obtain ⟨S2, e2⟩ := S1.own (p := p) (by rw [e1]; exact r)
  exact ⟨S2, ⟨.app, by rw [e2, e1]; exact same_refl⟩⟩
theorem Sim.change (S : Sim K R ι O H) (hn : ι[n]? = some a) (ho : O[n]? = some (some p)) {o' : HO} (r : RepO K ι (fz R ι O H) a p' o') : Sim K R ι (O.set n (some p')) (upd H a o') ∧ Ext R ι O H ι (O.set n (some p')) (upd H a o') := by
  obtain ⟨o, _, S1, e1, _⟩ := S.out hn ho
  obtain ⟨S2, e2⟩ := S1.hid_set o'
  have hl := (List.getElem?_eq_some_iff.mp ho).1
  obtain ⟨S3, e3⟩ := S2.put (n := n) (p := p') hn (by rw [List.getElem?_set_self hl]) (by rw [e2, e1]; exact r)
  rw [List.set_set] at S3 e3
  exact ⟨S3, ⟨.refl, by rw [e3, e2, e1]; exact same_refl⟩⟩
end
end Qx

/-! Own layer Q2: what an expression, a test, a statement computes on PVs, and that a reading follows from it. -/
namespace Qx
open PySem PySem.Spec PyProof.Rows L2 Gx
structure PExc where
  cls : PV
  ns : List Str
  ps : List PV
inductive PR (α : Type) where
  | ok (a : α) (O : Sto) | exc (e : PExc) (O : Sto) | bad
def PR.bind {α β : Type} (x : PR α) (g : α → Sto → PR β) : PR β := match x with
  | .ok a O => g a O
  | .exc e O => .exc e O
  | .bad => .bad
def RepX (K : PySem.W.Frag) (ι : List Addr) (G : Hp) (e : PExc) (c : Value) (d : Option Addr) : Prop :=
  (match e.cls with | .cls C => c = .ref (He.ga K C) | .ty n => c = .type n | _ => False) ∧
  ∃ xs, XD G d e.ns xs ∧ e.ns.length = e.ps.length ∧ RepL K ι G e.ps xs
abbrev EF := Slots → Sto → PR PV
abbrev TF := Slots → Sto → PR Bool
abbrev AF := Slots → Sto → PR (List PV)
def SlR (K : PySem.W.Frag) (ι : List Addr) (G : Hp) (σ : L2.St) (s : Slots) : Prop := s.length = σ.length ∧ ∀ (i : Nat) p, s[i]? = some (some p) → ∃ v, σ[i]? = some (some v) ∧ Rep K ι G p v
section
variable {K : PySem.W.Frag} {R : List (Addr × HO)} {ι ι1 : List Addr} {O O1 : Sto} {H H1 : Hp} {σ : L2.St} {s : Slots}
theorem SlR.ext (X : Ext R ι O H ι1 O1 H1) (L : SlR K ι (fz R ι O H) σ s) : SlR K ι1 (fz R ι1 O1 H1) σ s := ⟨L.1, fun i p e => let ⟨v, h1, h2⟩ := L.2 i p e; ⟨v, h1, X.rep h2⟩⟩
theorem SlR.set {G : Hp} {p : PV} {v : V} (n : Nat) (L : SlR K ι G σ s) (r : Rep K ι G p v) : SlR K ι G (σ.set n (some v)) (s.set n (some p)) := by
  refine ⟨by rw [List.length_set, List.length_set]; exact L.1, fun i q e => ?_⟩
  rw [List.getElem?_set] at e ⊢
  by_cases c : n = i
  · rw [if_pos c] at e ⊢
    rw [← L.1]
    by_cases d : n < s.length
    · rw [if_pos d] at e ⊢
      cases e
      exact ⟨v, rfl, r⟩
    · rw [if_neg d] at e; cases e
  · rw [if_neg c] at e ⊢
    exact L.2 i q e
theorem SlR.set0 {G : Hp} {x : Option V} (n : Nat) (L : SlR K ι G σ s) : SlR K ι G (σ.set n x) (s.set n none) := by
  refine ⟨by rw [List.length_set, List.length_set]; exact L.1, fun i q e => ?_⟩
  rw [List.getElem?_set] at e ⊢
  by_cases c : n = i
  · rw [if_pos c] at e
    split at e <;> cases e
  · rw [if_neg c] at e ⊢
    exact L.2 i q e
theorem SlR.start {G : Hp} {ps : List PV} {vs : List V} (h : RepL K ι G ps vs) (n : Nat) : SlR K ι G (vs.map some ++ List.replicate n none) (ps.map some ++ List.replicate n none) := by
  refine ⟨by simp [h.len], fun i p e => ?_⟩
  by_cases c : i < ps.length
  · rw [List.getElem?_append_left (by rw [List.length_map]; exact c), List.getElem?_map] at e
    rw [List.getElem?_append_left (by rw [List.length_map, h.len]; exact c), List.getElem?_map]
    cases q : ps[i]? with
    | none => rw [q] at e; cases e
    | some p' =>
      rw [q] at e
      cases e
      obtain ⟨v, h1, h2⟩ := h.get q
      exact ⟨v, by rw [h1]; rfl, h2⟩
  · rw [List.getElem?_append_right (by rw [List.length_map]; omega), List.getElem?_replicate] at e
    split at e <;> cases e
end
def Post {α β : Type} (K : PySem.W.Frag) (R : List (Addr × HO)) (E : Option XK) (rp : List Addr → Hp → α → β → Prop) (ι : List Addr) (O : Sto) (H : Hp) (Q : β → Hp → Prop) : PR α → Prop
  | .ok a O' => ∀ b ι' H', Sim K R ι' O' H' → Ext R ι O H ι' O' H' → rp ι' (fz R ι' O' H') a b → Q b H'
  | .exc e O' => ∃ E', E = some E' ∧ ∀ c d ι' H', Sim K R ι' O' H' → Ext R ι O H ι' O' H' → RepX K ι' (fz R ι' O' H') e c d → E' c d H'
  | .bad => False
section
variable {α β γ δ : Type} {K : PySem.W.Frag} {R : List (Addr × HO)} {E : Option XK} {rp : List Addr → Hp → α → β → Prop} {rp' : List Addr → Hp → γ → δ → Prop} {ι ι1 : List Addr} {O O1 : Sto} {H H1 : Hp} {Q : β → Hp → Prop}
theorem Post.of (X : Ext R ι O H ι1 O1 H1) {r : PR α} (h : Post K R E rp ι O H Q r) : Post K R E rp ι1 O1 H1 Q r := by
  cases r with
  | ok a O' => exact fun b ι' H' S Y q => h b ι' H' S (X.trans Y) q
  | exc e O' => obtain ⟨E', e1, h⟩ := h; exact ⟨E', e1, fun c d ι' H' S Y q => h c d ι' H' S (X.trans Y) q⟩
  | bad => exact h
theorem Post.bind {x : PR α} {g : α → Sto → PR γ} {Q' : δ → Hp → Prop} (h : Post K R E rp' ι O H Q' (x.bind g)) (k : ∀ a O1 b ι1 H1, Sim K R ι1 O1 H1 → Ext R ι O H ι1 O1 H1 → rp ι1 (fz R ι1 O1 H1) a b → Post K R E rp' ι1 O1 H1 Q' (g a O1) → Q b H1) : Post K R E rp ι O H Q x := by
  cases x with
  | ok a O' => exact fun b ι' H' S Y q => k a O' b ι' H' S Y q (Post.of Y h)
  | exc e O' => exact h
  | bad => exact h
theorem Post.here {a : α} {b : β} (h : Post K R E rp ι O H Q (.ok a O)) (S : Sim K R ι O H) (r : rp ι (fz R ι O H) a b) : Q b H := h b ι H S .refl r
theorem Post.at {a : α} {b : β} (h : Post K R E rp ι O H Q (.ok a O1)) (S : Sim K R ι1 O1 H1) (X : Ext R ι O H ι1 O1 H1) (r : rp ι1 (fz R ι1 O1 H1) a b) : Q b H1 := h b ι1 H1 S X r
end
abbrev XM := Option (L2.St → XK)
def xat (E : XM) (σ : L2.St) : Option XK := E.map fun e => e σ
/-! ### judgements -/
def SimE (K : PySem.W.Frag) (E : XM) (t : TE) (f : EF) : Prop := ∀ R ι O H σ s Q, Sim K R ι O H → SlR K ι (fz R ι O H) σ s → Post K R (xat E σ) (Rep K) ι O H Q (f s O) → t σ H Q
def SimT (K : PySem.W.Frag) (E : XM) (t : TT) (f : TF) : Prop := ∀ R ι O H σ s Q, Sim K R ι O H → SlR K ι (fz R ι O H) σ s → Post K R (xat E σ) (fun _ _ a b => a = b) ι O H Q (f s O) → t σ H Q
def SimA (K : PySem.W.Frag) (E : XM) (t : TA) (f : AF) : Prop := ∀ R ι O H σ s Q, Sim K R ι O H → SlR K ι (fz R ι O H) σ s → Post K R (xat E σ) (RepL K) ι O H Q (f s O) → t σ H Q
def OpS (K : PySem.W.Frag) (r : R2) (op : PV → PV → Sto → PR PV) : Prop := ∀ R ι O H p q x y E Q, Sim K R ι O H → Rep K ι (fz R ι O H) p x → Rep K ι (fz R ι O H) q y → Post K R E (Rep K) ι O H Q (op p q O) → r x y H Q
def CbS (K : PySem.W.Frag) (r : List V → Hp → VK → Prop) (f : List PV → Sto → PR PV) : Prop := ∀ R ι O H ps xs E Q, Sim K R ι O H → RepL K ι (fz R ι O H) ps xs → Post K R E (Rep K) ι O H Q (f ps O) → r xs H Q
/-! ### expressions -/
def eVar (i : Nat) : EF := fun s O => match s[i]? with
  | some (some p) => .ok p O
  | _ => .bad
def eC (p : PV) : EF := fun _ O => .ok p O
def eOp (op : PV → PV → Sto → PR PV) (a b : EF) : EF := fun s O => (a s O).bind fun p O1 => (b s O1).bind fun q O2 => op p q O2
def eUn (op : PV → Sto → PR PV) (a : EF) : EF := fun s O => (a s O).bind op
def aNil : AF := fun _ O => .ok [] O
def aCons (a : EF) (r : AF) : AF := fun s O => (a s O).bind fun p O1 => (r s O1).bind fun ps O2 => .ok (p :: ps) O2
def eCB (f : List PV → Sto → PR PV) (a : AF) : EF := fun s O => (a s O).bind f
def szOk (n : Nat) : Bool := decide (n ≤ sizeLine)
def szLt (n : Nat) : Bool := decide (n < sizeLine)
def eTup (a : AF) : EF := fun s O => (a s O).bind fun ps O1 => if szOk ps.length = true then .ok (.tup ps) O1 else .bad
def eLst (a : AF) : EF := fun s O => (a s O).bind fun ps O1 => if szOk ps.length = true then .ok (.lst ps) O1 else .bad
def eLstO (a : AF) : EF := fun s O => (a s O).bind fun ps O1 => if szOk ps.length = true then .ok (.loc O1.length) (O1 ++ [some (.lst ps)]) else .bad
def tTst (a : EF) : TF := fun s O => (a s O).bind fun p O1 => match p with
  | .bl b => .ok b O1
  | _ => .bad
def tAndP (a b : TF) : TF := fun s O => (a s O).bind fun c O1 => if c = true then b s O1 else .ok false O1
def tOrP (a b : TF) : TF := fun s O => (a s O).bind fun c O1 => if c = true then .ok true O1 else b s O1
def tNotP (a : TF) : TF := fun s O => (a s O).bind fun c O1 => .ok (!c) O1
def eAnd (a b : EF) : EF := fun s O => (a s O).bind fun p O1 => match p with
  | .bl c => if c = true then b s O1 else .ok (.bl false) O1
  | _ => .bad
def eOr (a b : EF) : EF := fun s O => (a s O).bind fun p O1 => match p with
  | .bl c => if c = true then .ok (.bl true) O1 else b s O1
  | _ => .bad
def eNot (a : EF) : EF := fun s O => (a s O).bind fun p O1 => match p with
  | .bl c => .ok (.bl (!c)) O1
  | _ => .bad
def eIf (c : TF) (a b : EF) : EF := fun s O => (c s O).bind fun k O1 => if k = true then a s O1 else b s O1
def eChain (o1 o2 : PV → PV → Sto → PR PV) (a b c : EF) : EF := fun s O => (a s O).bind fun p O1 => (b s O1).bind fun q O2 => (o1 p q O2).bind fun z O3 => match z with
  | .bl k => if k = true then (c s O3).bind fun r O4 => o2 q r O4 else .ok (.bl false) O3
  | _ => .bad
section
variable {K : PySem.W.Frag} {E : XM} {ta tb tc : TE} {fa fb fc : EF} {tA tB' : TA} {gA gB : AF} {t u : TT} {f g : TF} {r r' : R2} {op op' : PV → PV → Sto → PR PV}
theorem sim_var {i : Nat} : SimE K E (tVar i) (eVar i) := by
  intro R ι O H σ s Q S L h
  unfold eVar at h
  cases e : s[i]? with
  | none => rw [e] at h; exact h.elim
  | some x =>
    cases x with
    | none => rw [e] at h; exact h.elim
    | some p =>
      rw [e] at h
      obtain ⟨v, h1, h2⟩ := L.2 i p e
      exact ⟨v, h1, h.here S h2⟩
theorem sim_c {v : V} {p : PV} (hr : ∀ ι G, Rep K ι G p v) : SimE K E (tC v) (eC p) := fun R ι O H σ s Q S L h => h.here S (hr _ _)
theorem sim_int {i : Int} : SimE K E (tC (.int i)) (eC (.int i)) := sim_c fun _ _ => rfl
theorem sim_bl {b : Bool} : SimE K E (tC (.bl b)) (eC (.bl b)) := sim_c fun _ _ => rfl
theorem sim_non : SimE K E (tC .non) (eC .non) := sim_c fun _ _ => rfl
theorem sim_str {z : Str} : SimE K E (tC (.str z)) (eC (.str z)) := sim_c fun _ _ => rfl
theorem sim_ty {n : String} : SimE K E (tC (.ty n)) (eC (.ty n)) := sim_c fun _ _ => rfl
theorem sim_cls {C : Str} : SimE K E (tC (.ref (He.ga K C))) (eC (.cls C)) := sim_c fun _ _ => rfl
theorem sim_op (ho : OpS K r op) (ha : SimE K E ta fa) (hb : SimE K E tb fb) : SimE K E (tOp r ta tb) (eOp op fa fb) := fun R ι O H σ s Q S L h =>
  ha R ι O H σ s _ S L (h.bind fun p O1 x ι1 H1 S1 X1 r1 h1 => hb R ι1 O1 H1 σ s _ S1 (L.ext X1) (h1.bind fun q O2 y ι2 H2 S2 X2 r2 h2 => ho R ι2 O2 H2 p q x y _ _ S2 (X2.rep r1) r2 h2))
theorem sim_nil : SimA K E tNil aNil := fun R ι O H σ s Q S L h => h.here S rfl
theorem sim_cons (ha : SimE K E ta fa) (hA : SimA K E tA gA) : SimA K E (tCons ta tA) (aCons fa gA) := fun R ι O H σ s Q S L h =>
  ha R ι O H σ s _ S L (h.bind fun p O1 x ι1 H1 S1 X1 r1 h1 => hA R ι1 O1 H1 σ s _ S1 (L.ext X1) (h1.bind fun ps O2 xs ι2 H2 S2 X2 r2 h2 => h2.here S2 (RepL.consR (X2.rep r1) r2)))
theorem sim_cb {r : List V → Hp → VK → Prop} {c : List PV → Sto → PR PV} (hc : CbS K r c) (hA : SimA K E tA gA) : SimE K E (tCB r tA) (eCB c gA) := fun R ι O H σ s Q S L h =>
  hA R ι O H σ s _ S L (h.bind fun ps O1 xs ι1 H1 S1 X1 r1 h1 => hc R ι1 O1 H1 ps xs _ _ S1 r1 h1)
theorem szOk_le {n : Nat} (h : szOk n = true) : n ≤ sizeLine := of_decide_eq_true h
theorem szLt_lt {n : Nat} (h : szLt n = true) : n < sizeLine := of_decide_eq_true h
theorem sim_tup (hA : SimA K E tA gA) : SimE K E (tTup tA) (eTup gA) := fun R ι O H σ s Q S L h =>
  hA R ι O H σ s _ S L (h.bind fun ps O1 xs ι1 H1 S1 X1 r1 h1 => by
    split at h1
    · rename_i c
      refine ⟨by rw [r1.len]; exact szOk_le c, fun p hp => ?_⟩
      obtain ⟨S2, X2, e2⟩ := S1.newF hp (.tup xs)
      exact h1.at S2 X2 ⟨p, xs, rfl, SqT.of e2, X2.repL r1⟩
    · exact h1.elim)
theorem sim_lst (hA : SimA K E tA gA) : SimE K E (tLst tA) (eLst gA) := fun R ι O H σ s Q S L h =>
  hA R ι O H σ s _ S L (h.bind fun ps O1 xs ι1 H1 S1 X1 r1 h1 => by
    split at h1
    · rename_i c
      refine ⟨by rw [r1.len]; exact szOk_le c, fun p hp => ?_⟩
      obtain ⟨S2, X2, e2⟩ := S1.newF hp (.lst xs)
      exact h1.at S2 X2 ⟨p, xs, rfl, e2, X2.repL r1⟩
    · exact h1.elim)
theorem new_at {ι : List Addr} {O : Sto} {D : Addr} (h : ι.length = O.length) : (ι ++ [D])[O.length]? = some D := by
  rw [List.getElem?_append_right (by omega), h]
  simp
theorem sim_lstO (hA : SimA K E tA gA) : SimE K E (tLst tA) (eLstO gA) := fun R ι O H σ s Q S L h =>
  hA R ι O H σ s _ S L (h.bind fun ps O1 xs ι1 H1 S1 X1 r1 h1 => by
    split at h1
    · rename_i c
      refine ⟨by rw [r1.len]; exact szOk_le c, fun p hp => ?_⟩
      obtain ⟨S2, X2⟩ := S1.newO (p := .lst ps) hp (o := .lst xs) ⟨xs, rfl, r1⟩
      exact h1.at S2 X2 ⟨p, rfl, new_at S1.len⟩
    · exact h1.elim)
theorem sim_test (ha : SimE K E ta fa) : SimT K E (tTest ta) (tTst fa) := fun R ι O H σ s Q S L h =>
  ha R ι O H σ s _ S L (h.bind fun p O1 x ι1 H1 S1 X1 r1 h1 => by
    cases p with
    | bl b => exact ⟨b, r1, h1.here S1 rfl⟩
    | _ => exact h1.elim)
theorem sim_B (ha : SimE K E ta fa) : SimT K E (tB ta) (tTst fa) := fun R ι O H σ s Q S L h => sim_test ha R ι O H σ s Q S L h
theorem sim_and (ha : SimT K E t f) (hb : SimT K E u g) : SimT K E (tAnd t u) (tAndP f g) := fun R ι O H σ s Q S L h =>
  ha R ι O H σ s _ S L (h.bind fun c O1 c' ι1 H1 S1 X1 e h1 => by
    subst e
    cases c with
    | true => exact hb R ι1 O1 H1 σ s _ S1 (L.ext X1) h1
    | false => exact h1.here S1 rfl)
theorem sim_or (ha : SimT K E t f) (hb : SimT K E u g) : SimT K E (tOr t u) (tOrP f g) := fun R ι O H σ s Q S L h =>
  ha R ι O H σ s _ S L (h.bind fun c O1 c' ι1 H1 S1 X1 e h1 => by
    subst e
    cases c with
    | false => exact hb R ι1 O1 H1 σ s _ S1 (L.ext X1) h1
    | true => exact h1.here S1 rfl)
theorem sim_not (ha : SimT K E t f) : SimT K E (tNot t) (tNotP f) := fun R ι O H σ s Q S L h =>
  ha R ι O H σ s _ S L (h.bind fun c O1 c' ι1 H1 S1 X1 e h1 => by
    subst e
    exact h1.here S1 rfl)
theorem sim_yes : SimT K E tYes (fun _ O => .ok true O) := fun R ι O H σ s Q S L h => h.here S rfl
theorem sim_andV (ha : SimE K E ta fa) (hb : SimE K E tb fb) : SimE K E (tAndV ta tb) (eAnd fa fb) := fun R ι O H σ s Q S L h =>
  ha R ι O H σ s _ S L (h.bind fun p O1 x ι1 H1 S1 X1 r1 h1 => by
    cases p with
    | bl c =>
      refine ⟨c, r1, ?_⟩
      cases c with
      | true => exact hb R ι1 O1 H1 σ s _ S1 (L.ext X1) h1
      | false => exact h1.here S1 rfl
    | _ => exact h1.elim)
theorem sim_orV (ha : SimE K E ta fa) (hb : SimE K E tb fb) : SimE K E (tOrV ta tb) (eOr fa fb) := fun R ι O H σ s Q S L h =>
  ha R ι O H σ s _ S L (h.bind fun p O1 x ι1 H1 S1 X1 r1 h1 => by
    cases p with
    | bl c =>
      refine ⟨c, r1, ?_⟩
      cases c with
      | false => exact hb R ι1 O1 H1 σ s _ S1 (L.ext X1) h1
      | true => exact h1.here S1 rfl
    | _ => exact h1.elim)
theorem sim_notV (ha : SimE K E ta fa) : SimE K E (tNotV ta) (eNot fa) := fun R ι O H σ s Q S L h =>
  ha R ι O H σ s _ S L (h.bind fun p O1 x ι1 H1 S1 X1 r1 h1 => by
    cases p with
    | bl c => exact ⟨c, r1, h1.here S1 rfl⟩
    | _ => exact h1.elim)
theorem sim_if (hc : SimT K E t f) (ha : SimE K E ta fa) (hb : SimE K E tb fb) : SimE K E (tIf t ta tb) (eIf f fa fb) := fun R ι O H σ s Q S L h =>
  hc R ι O H σ s _ S L (h.bind fun c O1 c' ι1 H1 S1 X1 e h1 => by
    subst e
    cases c with
    | true => exact ha R ι1 O1 H1 σ s _ S1 (L.ext X1) h1
    | false => exact hb R ι1 O1 H1 σ s _ S1 (L.ext X1) h1)
end
/-! ### statements -/
inductive SR where
  | next (s : Slots) (O : Sto) | ret (p : PV) (O : Sto) | brk (s : Slots) (O : Sto) | cnt (s : Slots) (O : Sto) | exc (e : PExc) (s : Slots) (O : Sto) | bad
abbrev SF := Slots → Sto → SR
def PR.toS {α : Type} (r : PR α) (s : Slots) (k : α → Sto → SR) : SR := match r with
  | .ok a O => k a O
  | .exc e O => .exc e s O
  | .bad => .bad
def SR.bind (r : SR) (k : SF) : SR := match r with
  | .next s O => k s O
  | r => r
def PostS (K : PySem.W.Frag) (R : List (Addr × HO)) (E : XM) (ι : List Addr) (O : Sto) (H : Hp) (D : Ends) : SR → Prop
  | .next s O' => ∀ σ' ι' H', Sim K R ι' O' H' → Ext R ι O H ι' O' H' → SlR K ι' (fz R ι' O' H') σ' s → D.nx σ' H'
  | .ret p O' => ∀ v ι' H', Sim K R ι' O' H' → Ext R ι O H ι' O' H' → Rep K ι' (fz R ι' O' H') p v → D.rt v H'
  | .brk s O' => ∀ σ' ι' H', Sim K R ι' O' H' → Ext R ι O H ι' O' H' → SlR K ι' (fz R ι' O' H') σ' s → D.bk σ' H'
  | .cnt s O' => ∀ σ' ι' H', Sim K R ι' O' H' → Ext R ι O H ι' O' H' → SlR K ι' (fz R ι' O' H') σ' s → D.ct σ' H'
  | .exc e s O' => ∃ E', E = some E' ∧ ∀ σ' c d ι' H', Sim K R ι' O' H' → Ext R ι O H ι' O' H' → SlR K ι' (fz R ι' O' H') σ' s → RepX K ι' (fz R ι' O' H') e c d → E' σ' c d H'
  | .bad => False
def SimS (K : PySem.W.Frag) (E : XM) (t : TS) (g : SF) : Prop := ∀ R ι O H σ s D, Sim K R ι O H → SlR K ι (fz R ι O H) σ s → PostS K R E ι O H D (g s O) → t D σ H
abbrev GF := PV → Slots → Sto → PR Slots
def SimG (K : PySem.W.Frag) (E : XM) (g : TG) (f : GF) : Prop := ∀ R ι O H σ s p x Q, Sim K R ι O H → SlR K ι (fz R ι O H) σ s → Rep K ι (fz R ι O H) p x → Post K R (xat E σ) (fun ι G s σ => SlR K ι G σ s) ι O H Q (f p s O) → g x σ H Q
section
variable {α β : Type} {K : PySem.W.Frag} {R : List (Addr × HO)} {E : XM} {rp : List Addr → Hp → α → β → Prop} {ι ι1 : List Addr} {O O1 : Sto} {H H1 : Hp} {D : Ends} {σ : L2.St} {s : Slots}
theorem PostS.of (X : Ext R ι O H ι1 O1 H1) {r : SR} (h : PostS K R E ι O H D r) : PostS K R E ι1 O1 H1 D r := by
  cases r with
  | next s O' => exact fun σ' ι' H' S Y q => h σ' ι' H' S (X.trans Y) q
  | ret p O' => exact fun v ι' H' S Y q => h v ι' H' S (X.trans Y) q
  | brk s O' => exact fun σ' ι' H' S Y q => h σ' ι' H' S (X.trans Y) q
  | cnt s O' => exact fun σ' ι' H' S Y q => h σ' ι' H' S (X.trans Y) q
  | exc e s O' => obtain ⟨E', e1, h⟩ := h; exact ⟨E', e1, fun σ' c d ι' H' S Y l q => h σ' c d ι' H' S (X.trans Y) l q⟩
  | bad => exact h
theorem PostS.lift {r : PR α} {k : α → Sto → SR} {Q : β → Hp → Prop} (h : PostS K R E ι O H D (r.toS s k)) (L : SlR K ι (fz R ι O H) σ s) (kk : ∀ a O1 b ι1 H1, Sim K R ι1 O1 H1 → Ext R ι O H ι1 O1 H1 → rp ι1 (fz R ι1 O1 H1) a b → PostS K R E ι1 O1 H1 D (k a O1) → Q b H1) : Post K R (xat E σ) rp ι O H Q r := by
  cases r with
  | ok a O' => exact fun b ι' H' S Y q => kk a O' b ι' H' S Y q (PostS.of Y h)
  | exc e O' =>
    obtain ⟨E', e1, h⟩ := h
    exact ⟨E' σ, by rw [e1]; rfl, fun c d ι' H' S Y q => h σ c d ι' H' S Y (L.ext Y) q⟩
  | bad => exact h
theorem PostS.bind {r : SR} {k : SF} {nx : L2.St → Hp → Prop} (h : PostS K R E ι O H D (r.bind k)) (kk : ∀ s1 O1 σ1 ι1 H1, Sim K R ι1 O1 H1 → Ext R ι O H ι1 O1 H1 → SlR K ι1 (fz R ι1 O1 H1) σ1 s1 → PostS K R E ι1 O1 H1 D (k s1 O1) → nx σ1 H1) : PostS K R E ι O H { D with nx := nx } r := by
  cases r with
  | next s O' => exact fun σ' ι' H' S Y q => kk s O' σ' ι' H' S Y q (PostS.of Y h)
  | ret p O' => exact h
  | brk s O' => exact h
  | cnt s O' => exact h
  | exc e s O' => exact h
  | bad => exact h
end
def sSkip : SF := fun s O => .next s O
def sSeq (a b : SF) : SF := fun s O => (a s O).bind b
def sRet (f : EF) : SF := fun s O => (f s O).toS s fun p O1 => .ret p O1
def sRetN : SF := fun s O => .ret .non O
def sExp (f : EF) : SF := fun s O => (f s O).toS s fun _ O1 => .next s O1
def sIf (c : TF) (a b : SF) : SF := fun s O => (c s O).toS s fun k O1 => if k = true then a s O1 else b s O1
def sAsg (f : EF) (g : GF) : SF := fun s O => (f s O).toS s fun p O1 => (g p s O1).toS s fun s' O2 => .next s' O2
def sBad : SF := fun _ _ => .bad
def gNm (i : Nat) : GF := fun p s O => .ok (s.set i (some p)) O
section
variable {K : PySem.W.Frag} {E : XM} {ta tb tc : TE} {fa fb fc : EF} {t : TT} {c : TF} {tS uS : TS} {f g : SF} {G : TG} {gf : GF}
theorem sim_next : SimS K E tNext sSkip := fun R ι O H σ s D S L h => h σ ι H S .refl L
theorem sim_seq (ha : SimS K E tS f) (hb : SimS K E uS g) : SimS K E (tSeq tS uS) (sSeq f g) := fun R ι O H σ s D S L h =>
  ha R ι O H σ s _ S L (h.bind fun s1 O1 σ1 ι1 H1 S1 X1 L1 h1 => hb R ι1 O1 H1 σ1 s1 D S1 L1 h1)
theorem sim_ret (ha : SimE K E ta fa) : SimS K E (tRet ta) (sRet fa) := fun R ι O H σ s D S L h =>
  ha R ι O H σ s _ S L (h.lift L fun p O1 v ι1 H1 S1 X1 r1 h1 => h1 v ι1 H1 S1 .refl r1)
theorem sim_retN : SimS K E tRetN sRetN := fun R ι O H σ s D S L h => h .non ι H S .refl rfl
theorem sim_exp (ha : SimE K E ta fa) : SimS K E (tDrop ta) (sExp fa) := fun R ι O H σ s D S L h =>
  ha R ι O H σ s _ S L (h.lift L fun p O1 v ι1 H1 S1 X1 r1 h1 => h1 σ ι1 H1 S1 .refl (L.ext X1))
theorem sim_ifS (hc : SimT K E t c) (ha : SimS K E tS f) (hb : SimS K E uS g) : SimS K E (tIfS t tS uS) (sIf c f g) := fun R ι O H σ s D S L h =>
  hc R ι O H σ s _ S L (h.lift L fun k O1 k' ι1 H1 S1 X1 e h1 => by
    subst e
    cases k with
    | true => exact ha R ι1 O1 H1 σ s D S1 (L.ext X1) h1
    | false => exact hb R ι1 O1 H1 σ s D S1 (L.ext X1) h1)
theorem sim_asg (ha : SimE K E ta fa) (hg : SimG K E G gf) : SimS K E (tAsg ta G) (sAsg fa gf) := fun R ι O H σ s D S L h =>
  ha R ι O H σ s _ S L (h.lift L fun p O1 v ι1 H1 S1 X1 r1 h1 => hg R ι1 O1 H1 σ s p v _ S1 (L.ext X1) r1 (h1.lift (L.ext X1) fun s2 O2 σ2 ι2 H2 S2 X2 L2 h2 => h2 σ2 ι2 H2 S2 .refl L2))
theorem sim_nm {i : Nat} : SimG K E (gName i) (gNm i) := fun R ι O H σ s p x Q S L r h => h.here S (L.set i r)
end
/-! ### defs -/
def mkDef (n N : Nat) (body : SF) (ps : List PV) (O : Sto) : PR PV :=
  if ps.length = n then match body (ps.map some ++ List.replicate (N - n) none) O with
    | .ret p O' => .ok p O'
    | .next _ O' => .ok .non O'
    | .exc e _ O' => .exc e O'
    | _ => .bad
  else .bad
abbrev MF := List PV → Sto → PR PV
def spM (K : PySem.W.Frag) (x : Bool) (m : MF) : Sp := fun vs H Q E => ∃ R ι O ps, Sim K R ι O H ∧ RepL K ι (fz R ι O H) ps vs ∧ Post K R (if x = true then some E else none) (Rep K) ι O H Q (m ps O)
theorem spM_len {K : PySem.W.Frag} {x : Bool} {n N : Nat} {body : SF} {vs : List V} {H : Hp} {Q : VK} {E : XK} (h : spM K x (mkDef n N body) vs H Q E) : vs.length = n := by
  obtain ⟨R, ι, O, ps, S, r, h⟩ := h
  unfold mkDef at h
  by_cases c : ps.length = n
  · rw [r.len]; exact c
  · rw [if_neg c] at h; exact h.elim
theorem spM_run {K : PySem.W.Frag} {n : Nat} {N : List Str} {body : SF} {vs : List V} {H : Hp} {Q : VK} {E : XK} {t : TS} (hs : SimS K none t body) (h : spM K false (mkDef n N.length body) vs H Q E) : t { nx := fun _ H => Q .non H, rt := Q } (L2.start N vs) H := by
  have hl := spM_len h
  obtain ⟨R, ι, O, ps, S, r, h⟩ := h
  unfold mkDef at h
  have hp : ps.length = n := by rw [← r.len]; exact hl
  rw [if_pos hp] at h
  have e : L2.start N vs = vs.map some ++ List.replicate (N.length - n) none := by unfold L2.start; rw [hl]
  rw [e]
  refine hs R ι O H _ (ps.map some ++ List.replicate (N.length - n) none) _ S (SlR.start r _) ?_
  cases q : body (ps.map some ++ List.replicate (N.length - n) none) O with
  | next s O' => rw [q] at h; exact fun σ' ι' H' S' X' L' => h .non ι' H' S' X' rfl
  | ret p O' => rw [q] at h; exact h
  | exc e s O' => rw [q] at h; obtain ⟨E', e1, _⟩ := h; cases e1
  | _ => rw [q] at h; exact h.elim
def eCall (m : MF) (dps : List PV) (a : AF) : EF := fun s O => (a s O).bind fun ps O1 => m (ps ++ dps) O1
def eCallK (m : MF) (n k : Nat) (gP : List PV → List PV → List PV) (a z : AF) : EF := fun s O => (a s O).bind fun ps O1 => (z s O1).bind fun zs O2 => if ps.length = n ∧ zs.length = k then m (gP ps zs) O2 else .bad
section
variable {K : PySem.W.Frag} {E : XM} {tA tZ : TA} {fA fZ : AF} {m : MF} {dps : List PV} {dvs : List V}
theorem sim_call (hA : SimA K none tA fA) (hd : ∀ ι G, RepL K ι G dps dvs) : SimE K none (tCall (spM K false m) dvs E0 tA) (eCall m dps fA) := fun R ι O H σ s Q S L h =>
  hA R ι O H σ s _ S L (h.bind fun ps O1 xs ι1 H1 S1 X1 r1 h1 => ⟨R, ι1, O1, ps ++ dps, S1, r1.app (hd _ _), h1⟩)
theorem sim_callK {n k : Nat} {gP : List PV → List PV → List PV} {gV : List V → List V → List V} (hA : SimA K none tA fA) (hZ : SimA K none tZ fZ) (hg : ∀ ι G ps vs zs ws, RepL K ι G ps vs → RepL K ι G zs ws → RepL K ι G (gP ps zs) (gV vs ws)) : SimE K none (tCallN n k (spM K false m) gV E0 tA tZ) (eCallK m n k gP fA fZ) := fun R ι O H σ s Q S L h =>
  hA R ι O H σ s _ S L (h.bind fun ps O1 xs ι1 H1 S1 X1 r1 h1 => hZ R ι1 O1 H1 σ s _ S1 (L.ext X1) (h1.bind fun zs O2 ws ι2 H2 S2 X2 r2 h2 => by
    split at h2
    · rename_i c
      exact ⟨by rw [r1.len]; exact c.1, by rw [r2.len]; exact c.2, R, ι2, O2, gP ps zs, S2, hg _ _ _ _ _ _ (X2.repL r1) r2, h2⟩
    · exact h2.elim))
end
end Qx

/-! Own layer Q3: operators, lists, tuples, fields, methods, new instances. -/
namespace Qx
open PySem PySem.Spec PyProof.Rows L2 Gx
/-! ### what a PV is, with the store -/
def lstOf (O : Sto) : PV → Option (List PV)
  | .lst ps => some ps
  | .rol ps => some ps
  | .loc n => match O[n]? with
    | some (some (.lst ps)) => some ps
    | _ => none
  | _ => none
def lstT (O : Sto) : PV → Option (List PV)
  | .lst ps => some ps
  | .loc n => match O[n]? with
    | some (some (.lst ps)) => some ps
    | _ => none
  | _ => none
def tupOf : PV → Option (List PV)
  | .tup ps => some ps
  | .xtp ps => some ps
  | _ => none
def insOf (O : Sto) : PV → Option (Str × List Str × List PV)
  | .ins C ns ps => some (C, ns, ps)
  | .loc n => match O[n]? with
    | some (some (.ins C ns ps)) => some (C, ns, ps)
    | _ => none
  | _ => none
section
variable {K : PySem.W.Frag} {R : List (Addr × HO)} {ι : List Addr} {O : Sto} {H : Hp} {p : PV} {x : V} {ps : List PV}
theorem lstT_read (S : Sim K R ι O H) (r : Rep K ι (fz R ι O H) p x) (e : lstT O p = some ps) : ∃ a xs, x = .ref a ∧ H a = some (.lst xs) ∧ RepL K ι (fz R ι O H) ps xs := by
  cases p with
  | lst qs =>
    obtain ⟨a, xs, h1, h2, h3⟩ := r
    cases e
    exact ⟨a, xs, h1, S.frozen _ _ h2, h3⟩
  | loc n =>
    obtain ⟨a, h1, h2⟩ := r
    unfold lstT at e
    cases q : O[n]? with
    | none => simp [q] at e
    | some y =>
      cases y with
      | none => simp [q] at e
      | some z =>
        cases z with
        | lst qs =>
          simp only [q, Option.some.injEq] at e
          subst e
          obtain ⟨o, h3, xs, h4, h5⟩ := S.obj n a _ h2 q
          subst h4
          exact ⟨a, xs, h1, h3, h5⟩
        | _ => simp [q] at e
  | _ => cases e
theorem lst_read (S : Sim K R ι O H) (r : Rep K ι (fz R ι O H) p x) (e : lstOf O p = some ps) : ∃ a xs, x = .ref a ∧ SqL K H a xs ∧ RepL K ι (fz R ι O H) ps xs := by
  cases p with
  | rol qs =>
    obtain ⟨a, xs, h1, h2, h3⟩ := r
    cases e
    exact ⟨a, xs, h1, S.frozen.seq h2, h3⟩
  | lst qs =>
    obtain ⟨a, xs, h1, h2, h3⟩ := lstT_read S r (ps := ps) e
    exact ⟨a, xs, h1, SqL.of h2, h3⟩
  | loc n =>
    obtain ⟨a, xs, h1, h2, h3⟩ := lstT_read S r (ps := ps) e
    exact ⟨a, xs, h1, SqL.of h2, h3⟩
  | _ => cases e
theorem tup_read (S : Sim K R ι O H) (r : Rep K ι (fz R ι O H) p x) (e : tupOf p = some ps) : ∃ a xs, x = .ref a ∧ SqT K H a xs ∧ RepL K ι (fz R ι O H) ps xs := by
  cases p with
  | tup qs =>
    obtain ⟨a, xs, h1, h2, h3⟩ := r
    cases e
    exact ⟨a, xs, h1, sqt_same S.frozen h2, h3⟩
  | xtp qs =>
    obtain ⟨⟨a, xs, h1, h2, h3⟩, _⟩ := r
    cases e
    exact ⟨a, xs, h1, sqt_same S.frozen h2, h3⟩
  | _ => cases e
theorem ins_read {C : Str} {ns : List Str} (S : Sim K R ι O H) (r : Rep K ι (fz R ι O H) p x) (e : insOf O p = some (C, ns, ps)) : ∃ a dx xs, x = .ref a ∧ H a = some (.ins (He.ga K C) dx (ns.zip xs)) ∧ ns.length = ps.length ∧ RepL K ι (fz R ι O H) ps xs := by
  cases p with
  | ins C' ns' qs =>
    obtain ⟨a, dx, xs, h1, h2, h3, h4⟩ := r
    cases e
    exact ⟨a, dx, xs, h1, S.frozen _ _ h2, h3, h4⟩
  | loc n =>
    obtain ⟨a, h1, h2⟩ := r
    unfold insOf at e
    cases q : O[n]? with
    | none => simp [q] at e
    | some y =>
      cases y with
      | none => simp [q] at e
      | some z =>
        cases z with
        | ins C' ns' qs =>
          simp only [q, Option.some.injEq, Prod.mk.injEq] at e
          obtain ⟨rfl, rfl, rfl⟩ := e
          obtain ⟨o, h3, dx, xs, h4, h5, h6⟩ := S.obj n a _ h2 q
          subst h4
          exact ⟨a, dx, xs, h1, h3, h5, h6⟩
        | _ => simp [q] at e
  | _ => cases e
end
theorem zip_lookup {K : PySem.W.Frag} {ι : List Addr} {G : Hp} {f : Str} : ∀ {ns : List Str} {ps : List PV} {xs : List V}, RepL K ι G ps xs → (∀ p, (ns.zip ps).lookup f = some p → ∃ x, (ns.zip xs).lookup f = some x ∧ Rep K ι G p x) ∧ ((ns.zip ps).lookup f = none → (ns.zip xs).lookup f = none)
  | [], _, _, _ => ⟨fun p e => by simp at e, fun _ => rfl⟩
  | _ :: _, [], xs, h => by rw [show xs = [] from h]; exact ⟨fun p e => by simp at e, fun _ => by simp⟩
  | n :: ns, p :: ps, _, ⟨x, r, e, h2, h3⟩ => by
    subst e
    simp only [List.zip_cons_cons, List.lookup_cons]
    cases c : (f == n) with
    | true => exact ⟨fun q e => by cases e; exact ⟨x, rfl, h2⟩, fun e => by cases e⟩
    | false => exact zip_lookup h3
/-! ### whole numbers -/
def i2 (c : Int → Int → Bool) (g : Int → Int → PV) (p q : PV) (O : Sto) : PR PV := match p, q with
  | .int i, .int j => if c i j = true then .ok (g i j) O else .bad
  | _, _ => .bad
def i20 (g : Int → Int → PV) (p q : PV) (O : Sto) : PR PV := match p, q with
  | .int i, .int j => .ok (g i j) O
  | _, _ => .bad
theorem os_i0 {K : PySem.W.Frag} {g : Int → Int → PV} {g' : Int → Int → V} (h : ∀ i j ι G, Rep K ι G (g i j) (g' i j)) : OpS K (rI0 g') (i20 g) := by
  intro R ι O H p q x y E Q S r1 r2 h1
  cases p <;> cases q <;> first | exact h1.elim | skip
  rename_i i j
  exact ⟨i, j, r1, r2, h1.here S (h _ _ _ _)⟩
theorem os_i {K : PySem.W.Frag} {c : Int → Int → Bool} {C : Int → Int → Prop} {g : Int → Int → PV} {g' : Int → Int → V} (hc : ∀ i j, c i j = true → C i j) (h : ∀ i j ι G, Rep K ι G (g i j) (g' i j)) : OpS K (rI C g') (i2 c g) := by
  intro R ι O H p q x y E Q S r1 r2 h1
  cases p <;> cases q <;> first | exact h1.elim | skip
  rename_i i j
  unfold i2 at h1
  by_cases e : c i j = true
  · simp only [e, if_true] at h1
    exact ⟨i, j, r1, r2, hc _ _ e, h1.here S (h _ _ _ _)⟩
  · simp only [e] at h1
    exact h1.elim
def mulOk (i j : Int) : Bool := decide ((-(2 ^ 64) < i ∧ i < 2 ^ 64) ∨ (-(2 ^ 64) < j ∧ j < 2 ^ 64))
def divOk (i j : Int) : Bool := decide (0 < j ∧ j < 1073741824)
def powOk (i j : Int) : Bool := decide (0 ≤ j ∧ j ≤ 1000000 ∧ i.natAbs < 2 ^ 64)
def addI := i20 fun i j => .int (i + j)
def subI := i20 fun i j => .int (i - j)
def mulI := i2 mulOk fun i j => .int (i * j)
def fdivI := i2 divOk fun i j => .int (i / j)
def modI := i2 (fun _ j => decide (0 < j)) fun i j => .int (i % j)
def powI := i2 powOk fun i j => .int (i ^ j.toNat)
def ltI := i20 fun i j => .bl (decide (i < j))
def leI := i20 fun i j => .bl (decide (i ≤ j))
def gtI := i20 fun i j => .bl (decide (j < i))
def geI := i20 fun i j => .bl (decide (j ≤ i))
def negI (p : PV) (O : Sto) : PR PV := match p with
  | .int i => .ok (.int (-i)) O
  | _ => .bad
section
variable {K : PySem.W.Frag}
theorem os_add : OpS K (rI0 fun i j => .int (i + j)) addI := os_i0 fun _ _ _ _ => rfl
theorem os_sub : OpS K (rI0 fun i j => .int (i - j)) subI := os_i0 fun _ _ _ _ => rfl
theorem os_mul : OpS K (rI CMul fun i j => .int (i * j)) mulI := os_i (fun _ _ h => by unfold mulOk at h; have e := of_decide_eq_true h; exact e) fun _ _ _ _ => rfl
theorem os_fdiv : OpS K (rI CDiv fun i j => .int (i / j)) fdivI := os_i (fun _ _ h => by unfold divOk at h; have e := of_decide_eq_true h; exact e) fun _ _ _ _ => rfl
theorem os_mod : OpS K (rI (fun _ j => 0 < j) fun i j => .int (i % j)) modI := os_i (fun _ _ h => of_decide_eq_true h) fun _ _ _ _ => rfl
theorem os_pow : OpS K (rI CPow fun i j => .int (i ^ j.toNat)) powI := os_i (fun _ _ h => by unfold powOk at h; have e := of_decide_eq_true h; exact e) fun _ _ _ _ => rfl
theorem os_lt : OpS K (rI0 fun i j => .bl (decide (i < j))) ltI := os_i0 fun _ _ _ _ => rfl
theorem os_le : OpS K (rI0 fun i j => .bl (decide (i ≤ j))) leI := os_i0 fun _ _ _ _ => rfl
theorem os_gt : OpS K (rI0 fun i j => .bl (decide (j < i))) gtI := os_i0 fun _ _ _ _ => rfl
theorem os_ge : OpS K (rI0 fun i j => .bl (decide (j ≤ i))) geI := os_i0 fun _ _ _ _ => rfl
end
/-! ### equality of scalars, is None -/
def scV : PV → Option V
  | .non => some .non
  | .bl b => some (.bl b)
  | .int i => some (.int i)
  | .str z => some (.str z)
  | _ => none
theorem scV_rep {K : PySem.W.Frag} {ι : List Addr} {G : Hp} {p : PV} {v x : V} (e : scV p = some v) (r : Rep K ι G p x) : x = v := by
  cases p <;> first | (cases e; exact r) | cases e
def scB (p q : PV) : Bool := match scV p, scV q with
  | some v, some w => scal v w
  | _, _ => false
def scD (p q : PV) : Bool := match scV p, scV q with
  | some v, some w => decide (v = w)
  | _, _ => false
def eqS (p q : PV) (O : Sto) : PR PV := if scB p q = true then .ok (.bl (scD p q)) O else .bad
def neS (p q : PV) (O : Sto) : PR PV := if scB p q = true then .ok (.bl (!scD p q)) O else .bad
def isNon : PV → Bool
  | .non => true
  | _ => false
def isN (p q : PV) (O : Sto) : PR PV := match q with
  | .non => .ok (.bl (isNon p)) O
  | _ => .bad
def notN (p q : PV) (O : Sto) : PR PV := match q with
  | .non => .ok (.bl (!isNon p)) O
  | _ => .bad
section
variable {K : PySem.W.Frag}
theorem sc_two {ι : List Addr} {G : Hp} {p q : PV} {x y : V} (c : scB p q = true) (r1 : Rep K ι G p x) (r2 : Rep K ι G q y) : scal x y = true ∧ decide (x = y) = scD p q := by
  unfold scB at c
  unfold scD
  cases e1 : scV p with
  | none => simp [e1] at c
  | some v =>
    cases e2 : scV q with
    | none => simp [e1, e2] at c
    | some w =>
      simp only [e1, e2] at c ⊢
      rw [scV_rep e1 r1, scV_rep e2 r2]
      exact ⟨c, rfl⟩
theorem os_eqS : OpS K rEq eqS := by
  intro R ι O H p q x y E Q S r1 r2 h
  unfold eqS at h
  split at h
  · rename_i c
    obtain ⟨h1, h2⟩ := sc_two c r1 r2
    exact ⟨h1, by rw [h2]; exact h.here S rfl⟩
  · exact h.elim
theorem os_neS : OpS K rNe neS := by
  intro R ι O H p q x y E Q S r1 r2 h
  unfold neS at h
  split at h
  · rename_i c
    obtain ⟨h1, h2⟩ := sc_two c r1 r2
    exact ⟨h1, by rw [h2]; exact h.here S rfl⟩
  · exact h.elim
theorem isNon_rep {ι : List Addr} {G : Hp} {p : PV} {x : V} (r : Rep K ι G p x) : decide (x = .non) = isNon p := by
  cases p with
  | non => rw [show x = .non from r]; rfl
  | bl b => rw [show x = .bl b from r]; rfl
  | int b => rw [show x = .int b from r]; rfl
  | str b => rw [show x = .str b from r]; rfl
  | ty b => rw [show x = .ty b from r]; rfl
  | cls b => rw [show x = .ref _ from r]; rfl
  | tup b => obtain ⟨a, xs, e, _⟩ := r; rw [e]; rfl
  | xtp b => obtain ⟨⟨a, xs, e, _⟩, _⟩ := r; rw [e]; rfl
  | lst b => obtain ⟨a, xs, e, _⟩ := r; rw [e]; rfl
  | rol b => obtain ⟨a, xs, e, _⟩ := r; rw [e]; rfl
  | ins b c d => obtain ⟨a, dx, xs, e, _⟩ := r; rw [e]; rfl
  | rng b c => obtain ⟨a, e, _⟩ := r; rw [e]; rfl
  | loc b => obtain ⟨a, e, _⟩ := r; rw [e]; rfl
  | dic _ _ => obtain ⟨a, kvs, e, _⟩ := r; rw [e]; rfl
  | dtk _ _ => obtain ⟨a, kvs, e, _⟩ := r; rw [e]; rfl
  | tbl _ => obtain ⟨a, e, _⟩ := r; rw [e]; rfl
  | xc _ _ _ => obtain ⟨a, oe, xs, e, _⟩ := r; rw [e]; rfl
theorem os_isN : OpS K (fun x y H Q => y = .non ∧ Q (.bl (decide (x = .non))) H) isN := by
  intro R ι O H p q x y E Q S r1 r2 h
  cases q <;> first | exact h.elim | skip
  exact ⟨r2, by rw [isNon_rep r1]; exact h.here S rfl⟩
theorem os_notN : OpS K (fun x y H Q => y = .non ∧ Q (.bl (!decide (x = .non))) H) notN := by
  intro R ι O H p q x y E Q S r1 r2 h
  cases q <;> first | exact h.elim | skip
  exact ⟨r2, by rw [isNon_rep r1]; exact h.here S rfl⟩
end
/-! ### deep equality -/
mutual
def toD0 : PV → Option PyData
  | .non => some .none
  | .bl b => some (.bool b)
  | .int i => some (.int i)
  | .str z => some (.str z)
  | .tup ps => (toDL ps).map .tuple
  | .xtp ps => (toDL ps).map .tuple
  | .lst ps => (toDL ps).map .list
  | .rol ps => (toDL ps).map .list
  | _ => none
def toDL : List PV → Option (List PyData)
  | [] => some []
  | p :: ps => match toD0 p, toDL ps with
    | some d, some ds => some (d :: ds)
    | _, _ => none
end
def toD (O : Sto) : PV → Option PyData
  | .loc n => match O[n]? with
    | some (some (.lst ps)) => (toDL ps).map .list
    | _ => none
  | p => toD0 p
section
variable {K : PySem.W.Frag} {ι : List Addr} {G H : Hp}
mutual
theorem toD0_dp (e : Same G H) : ∀ (p : PV) (x : V) (d : PyData), Rep K ι G p x → toD0 p = some d → Dp K H x d
  | .non, _, _, r, h => by cases r; cases h; exact .non
  | .bl _, _, _, r, h => by cases r; cases h; exact .bl _
  | .int _, _, _, r, h => by cases r; cases h; exact .int _
  | .str _, _, _, r, h => by cases r; cases h; exact .str _
  | .tup ps, _, _, ⟨a, xs, h1, h2, h3⟩, h => by
    subst h1
    obtain ⟨ds, h4, h5⟩ := Option.map_eq_some_iff.mp (show (toDL ps).map PyData.tuple = some _ by unfold toD0 at h; exact h)
    subst h5
    exact .tup (sqt_same e h2) (toDL_dp e ps xs ds h3 h4)
  | .xtp ps, _, _, ⟨⟨a, xs, h1, h2, h3⟩, _⟩, h => by
    subst h1
    obtain ⟨ds, h4, h5⟩ := Option.map_eq_some_iff.mp (show (toDL ps).map PyData.tuple = some _ by unfold toD0 at h; exact h)
    subst h5
    exact .tup (sqt_same e h2) (toDL_dp e ps xs ds h3 h4)
  | .lst ps, _, _, ⟨a, xs, h1, h2, h3⟩, h => by
    subst h1
    obtain ⟨ds, h4, h5⟩ := Option.map_eq_some_iff.mp (show (toDL ps).map PyData.list = some _ by unfold toD0 at h; exact h)
    subst h5
    exact .lst (SqL.of (e _ _ h2)) (toDL_dp e ps xs ds h3 h4)
  | .rol ps, _, _, ⟨a, xs, h1, h2, h3⟩, h => by
    subst h1
    obtain ⟨ds, h4, h5⟩ := Option.map_eq_some_iff.mp (show (toDL ps).map PyData.list = some _ by unfold toD0 at h; exact h)
    subst h5
    exact .lst (e.seq h2) (toDL_dp e ps xs ds h3 h4)
  | .ty _, _, _, _, h => by cases h
  | .cls _, _, _, _, h => by cases h
  | .ins _ _ _, _, _, _, h => by cases h
  | .rng _ _, _, _, _, h => by cases h
  | .loc _, _, _, _, h => by cases h
  | .dic _ _, _, _, _, h => by cases h
  | .dtk _ _, _, _, _, h => by cases h
  | .tbl _, _, _, _, h => by cases h
  | .xc _ _ _, _, _, _, h => by cases h
theorem toDL_dp (e : Same G H) : ∀ (ps : List PV) (xs : List V) (ds : List PyData), RepL K ι G ps xs → toDL ps = some ds → DpAll K H xs ds
  | [], _, _, r, h => by cases r; cases h; exact .nil
  | p :: ps, _, ds, ⟨x, r, h1, h2, h3⟩, h => by
    subst h1
    unfold toDL at h
    cases e1 : toD0 p with
    | none => simp [e1] at h
    | some d =>
      cases e2 : toDL ps with
      | none => simp [e1, e2] at h
      | some ds' =>
        simp only [e1, e2, Option.some.injEq] at h
        subst h
        exact .cons (toD0_dp e p x d h2 e1) (toDL_dp e ps r ds' h3 e2)
end
end
theorem toD_dp {K : PySem.W.Frag} {R : List (Addr × HO)} {ι : List Addr} {O : Sto} {H : Hp} {p : PV} {x : V} {d : PyData} (S : Sim K R ι O H) (r : Rep K ι (fz R ι O H) p x) (e : toD O p = some d) : Dp K H x d := by
  cases p with
  | loc n =>
    unfold toD at e
    obtain ⟨a, xs, h1, h2, h3⟩ : ∃ (a : Addr) (qs : List PV), lstT O (.loc n) = some qs ∧ (toDL qs).map PyData.list = some d ∧ True := by
      cases q : O[n]? with
      | none => simp [q] at e
      | some y =>
        cases y with
        | none => simp [q] at e
        | some z =>
          cases z with
          | lst qs => simp only [q] at e; exact ⟨0, qs, by simp [lstT, q], e, trivial⟩
          | _ => simp [q] at e
    obtain ⟨b, ys, h5, h6, h7⟩ := lstT_read S r h1
    obtain ⟨ds, h8, h9⟩ := Option.map_eq_some_iff.mp h2
    subst h5
    subst h9
    exact .lst (SqL.of h6) (toDL_dp S.frozen xs ys ds h7 h8)
  | _ => exact toD0_dp S.frozen _ x d r e
def eqD (p q : PV) (O : Sto) : PR PV := match toD O p, toD O q with
  | some d, some e => if (SeqAt.shaped d && SeqAt.shaped e) = true then .ok (.bl (PyData.eqv d e)) O else .bad
  | _, _ => .bad
def neD (p q : PV) (O : Sto) : PR PV := match toD O p, toD O q with
  | some d, some e => if (SeqAt.shaped d && SeqAt.shaped e) = true then .ok (.bl (!PyData.eqv d e)) O else .bad
  | _, _ => .bad
section
variable {K : PySem.W.Frag}
theorem os_neD : OpS K (rNeD K) neD := by
  intro R ι O H p q x y E Q S r1 r2 h
  unfold neD at h
  cases e1 : toD O p with
  | none => simp [e1] at h; exact h.elim
  | some d =>
    cases e2 : toD O q with
    | none => simp [e1, e2] at h; exact h.elim
    | some e =>
      simp only [e1, e2] at h
      split at h
      · rename_i c
        obtain ⟨c1, c2⟩ := Bool.and_eq_true_iff.mp c
        exact ⟨d, e, toD_dp S r1 e1, toD_dp S r2 e2, c1, c2, h.here S rfl⟩
      · exact h.elim
end
/-! ### items, slices, sums of sequences, in -/
def ixL (p q : PV) (O : Sto) : PR PV := match lstOf O p, q with
  | some ps, .int i => match atI ps i with
    | some r => .ok r O
    | none => .bad
  | _, _ => .bad
def ixT (p q : PV) (O : Sto) : PR PV := match tupOf p, q with
  | some ps, .int i => match atI ps i with
    | some r => .ok r O
    | none => .bad
  | _, _ => .bad
theorem atI_rep {K : PySem.W.Frag} {ι : List Addr} {G : Hp} {ps : List PV} {xs : List V} {i : Int} {r : PV} (h : RepL K ι G ps xs) (e : atI ps i = some r) : ∃ v, atI xs i = some v ∧ Rep K ι G r v := by
  unfold atI at e ⊢
  rw [h.len]
  obtain ⟨j, h1, h2⟩ := Option.bind_eq_some_iff.mp e
  obtain ⟨v, h3, h4⟩ := h.get h2
  exact ⟨v, by rw [h1]; exact h3, h4⟩
def cutP (ps : List PV) (lo hi : Option Int) : List PV := (ps.drop (HT.sIx ps.length 0 lo)).take (HT.sIx ps.length ps.length hi - HT.sIx ps.length 0 lo)
theorem cut_rep {K : PySem.W.Frag} {ι : List Addr} {G : Hp} {ps : List PV} {xs : List V} {lo hi : Option Int} (h : RepL K ι G ps xs) : RepL K ι G (cutP ps lo hi) (cutV xs lo hi) := by
  unfold cutP cutV
  rw [h.len]
  exact (h.drop _).take _
abbrev OF := Slots → Sto → PR (Option Int)
def SimO (K : PySem.W.Frag) (E : XM) (t : TO) (f : OF) : Prop := ∀ R ι O H σ s Q, Sim K R ι O H → SlR K ι (fz R ι O H) σ s → Post K R (xat E σ) (fun _ _ a b => a = b) ι O H Q (f s O) → t σ H Q
def oNo : OF := fun _ O => .ok none O
def oSo (f : EF) : OF := fun s O => (f s O).bind fun p O1 => match p with
  | .int i => .ok (some i) O1
  | _ => .bad
def eSl (g : PV → Option Int → Option Int → Sto → PR PV) (f : EF) (l h : OF) : EF := fun s O => (f s O).bind fun p O1 => (l s O1).bind fun i O2 => (h s O2).bind fun j O3 => g p i j O3
def SlS (K : PySem.W.Frag) (r : V → Option Int → Option Int → Hp → VK → Prop) (g : PV → Option Int → Option Int → Sto → PR PV) : Prop := ∀ R ι O H p x i j E Q, Sim K R ι O H → Rep K ι (fz R ι O H) p x → Post K R E (Rep K) ι O H Q (g p i j O) → r x i j H Q
def slL (p : PV) (i j : Option Int) (O : Sto) : PR PV := match lstOf O p with
  | some ps => .ok (.lst (cutP ps i j)) O
  | none => .bad
def slT (p : PV) (i j : Option Int) (O : Sto) : PR PV := match tupOf p with
  | some ps => if (HT.sIx ps.length 0 i == 0 && HT.sIx ps.length ps.length j == ps.length) = true then .bad else .ok (.tup (cutP ps i j)) O
  | none => .bad
def catT (p q : PV) (O : Sto) : PR PV := match tupOf p, tupOf q with
  | some ps, some qs => if (!ps.isEmpty && !qs.isEmpty && szOk (ps.length + qs.length)) = true then .ok (.tup (ps ++ qs)) O else .bad
  | _, _ => .bad
def catL (p q : PV) (O : Sto) : PR PV := match lstT O p, lstT O q with
  | some ps, some qs => if szOk (ps.length + qs.length) = true then .ok (.lst (ps ++ qs)) O else .bad
  | _, _ => .bad
section
variable {K : PySem.W.Frag} {E : XM} {te : TE} {fe : EF} {tl th : TO} {fl fh : OF}
theorem os_ixL : OpS K (rIxL K) ixL := by
  intro R ι O H p q x y E Q S r1 r2 h
  unfold ixL at h
  cases e1 : lstOf O p with
  | none => simp [e1] at h; exact h.elim
  | some ps =>
    cases q with
    | int i =>
      simp only [e1] at h
      cases e2 : atI ps i with
      | none => simp [e2] at h; exact h.elim
      | some r =>
        simp only [e2] at h
        obtain ⟨a, xs, h1, h2, h3⟩ := lst_read S r1 e1
        obtain ⟨v, h4, h5⟩ := atI_rep h3 e2
        exact ⟨a, xs, i, v, h1, r2, h2, h4, h.here S h5⟩
    | _ => simp [e1] at h; exact h.elim
theorem os_ixT : OpS K (rIxT K) ixT := by
  intro R ι O H p q x y E Q S r1 r2 h
  unfold ixT at h
  cases e1 : tupOf p with
  | none => simp [e1] at h; exact h.elim
  | some ps =>
    cases q with
    | int i =>
      simp only [e1] at h
      cases e2 : atI ps i with
      | none => simp [e2] at h; exact h.elim
      | some r =>
        simp only [e2] at h
        obtain ⟨a, xs, h1, h2, h3⟩ := tup_read S r1 e1
        obtain ⟨v, h4, h5⟩ := atI_rep h3 e2
        exact ⟨a, xs, i, v, h1, r2, h2, h4, h.here S h5⟩
    | _ => simp [e1] at h; exact h.elim
theorem sim_noP : SimO K E tNoPart oNo := fun R ι O H σ s Q S L h => h.here S rfl
theorem sim_part (he : SimE K E te fe) : SimO K E (tPart te) (oSo fe) := fun R ι O H σ s Q S L h =>
  he R ι O H σ s _ S L (h.bind fun p O1 x ι1 H1 S1 X1 r1 h1 => by
    cases p with
    | int i => exact ⟨i, r1, h1.here S1 rfl⟩
    | _ => exact h1.elim)
theorem sim_sl {r : V → Option Int → Option Int → Hp → VK → Prop} {g : PV → Option Int → Option Int → Sto → PR PV} (hg : SlS K r g) (he : SimE K E te fe) (hl : SimO K E tl fl) (hh : SimO K E th fh) : SimE K E (tSl r te tl th) (eSl g fe fl fh) := fun R ι O H σ s Q S L h =>
  he R ι O H σ s _ S L (h.bind fun p O1 x ι1 H1 S1 X1 r1 h1 => hl R ι1 O1 H1 σ s _ S1 (L.ext X1) (h1.bind fun i O2 i' ι2 H2 S2 X2 r2 h2 => by
    subst r2
    exact hh R ι2 O2 H2 σ s _ S2 (L.ext (X1.trans X2)) (h2.bind fun j O3 j' ι3 H3 S3 X3 r3 h3 => by
      subst r3
      exact hg R ι3 O3 H3 p x i j _ _ S3 ((X2.trans X3).rep r1) h3)))
theorem ss_L : SlS K (rSlL K) slL := by
  intro R ι O H p x i j E Q S r h
  unfold slL at h
  cases e : lstOf O p with
  | none => simp [e] at h; exact h.elim
  | some ps =>
    simp only [e] at h
    obtain ⟨a, xs, h1, h2, h3⟩ := lst_read S r e
    refine ⟨a, xs, h1, h2, fun q hq => ?_⟩
    obtain ⟨S2, X2, e2⟩ := S.newF hq (.lst (cutV xs i j))
    exact h.at S2 X2 ⟨q, _, rfl, e2, X2.repL (cut_rep h3)⟩
theorem os_catL : OpS K rCat catL := by
  intro R ι O H p q x y E Q S r1 r2 h
  unfold catL at h
  cases e1 : lstT O p with
  | none => simp [e1] at h; exact h.elim
  | some ps =>
    cases e2 : lstT O q with
    | none => simp [e1, e2] at h; exact h.elim
    | some qs =>
      simp only [e1, e2] at h
      split at h
      · rename_i c
        obtain ⟨a, xs, h1, h2, h3⟩ := lstT_read S r1 e1
        obtain ⟨b, ys, h4, h5, h6⟩ := lstT_read S r2 e2
        refine ⟨a, b, xs, ys, h1, h4, h2, h5, by rw [h3.len, h6.len]; exact szOk_le c, fun o ho => ?_⟩
        obtain ⟨S2, X2, e2⟩ := S.newF ho (.lst (xs ++ ys))
        exact h.at S2 X2 ⟨o, _, rfl, e2, X2.repL (h3.app h6)⟩
      · exact h.elim
end
/-! ### targets -/
def gTupP (n : Nat) (gs : List PV → Slots → Sto → PR Slots) : GF := fun p s O => match tupOf p with
  | some ps => if ps.length = n then gs ps s O else .bad
  | none => .bad
def gNilP (ps : List PV) (s : Slots) (O : Sto) : PR Slots := match ps with
  | [] => .ok s O
  | _ => .bad
def gConsP (g : GF) (gs : List PV → Slots → Sto → PR Slots) (ps : List PV) (s : Slots) (O : Sto) : PR Slots := match ps with
  | p :: r => (g p s O).bind fun s1 O1 => gs r s1 O1
  | [] => .bad
def SimGs (K : PySem.W.Frag) (E : XM) (g : TGs) (f : List PV → Slots → Sto → PR Slots) : Prop := ∀ R ι O H σ s ps xs E' Q, Sim K R ι O H → SlR K ι (fz R ι O H) σ s → RepL K ι (fz R ι O H) ps xs → Post K R E' (fun ι G s σ => SlR K ι G σ s) ι O H Q (f ps s O) → g xs σ H Q
def SimG0 (K : PySem.W.Frag) (g : TG) (f : GF) : Prop := ∀ R ι O H σ s p x E Q, Sim K R ι O H → SlR K ι (fz R ι O H) σ s → Rep K ι (fz R ι O H) p x → Post K R E (fun ι G s σ => SlR K ι G σ s) ι O H Q (f p s O) → g x σ H Q
section
variable {K : PySem.W.Frag} {E : XM} {g : TG} {f : GF} {gs : TGs} {fs : List PV → Slots → Sto → PR Slots}
theorem sim_g0 (h : SimG0 K g f) : SimG K E g f := fun R ι O H σ s p x Q S L r q => h R ι O H σ s p x _ Q S L r q
theorem g0_nm {i : Nat} : SimG0 K (gName i) (gNm i) := fun R ι O H σ s p x E Q S L r h => h.here S (L.set i r)
theorem g0_nil : SimGs K E gNil gNilP := by
  intro R ι O H σ s ps xs E' Q S L r h
  cases ps with
  | nil => exact ⟨r, h.here S L⟩
  | cons p ps => exact h.elim
theorem g0_cons (h1 : SimG0 K g f) (h2 : SimGs K E gs fs) : SimGs K E (gCons g gs) (gConsP f fs) := by
  intro R ι O H σ s ps xs E' Q S L r h
  cases ps with
  | nil => exact h.elim
  | cons p ps =>
    obtain ⟨x, r', e, r1, r2⟩ := r
    refine ⟨x, r', e, h1 R ι O H σ s p x E' _ S L r1 (Post.bind (rp' := fun ι G s σ => SlR K ι G σ s) h fun s1 O1 σ1 ι1 H1 S1 X1 L1 k => h2 R ι1 O1 H1 σ1 s1 ps r' E' Q S1 L1 (X1.repL r2) k)⟩
theorem g0_tup {n : Nat} (h : SimGs K E gs fs) : SimG0 K (gTup K n gs) (gTupP n fs) := by
  intro R ι O H σ s p x E' Q S L r k
  unfold gTupP at k
  cases e : tupOf p with
  | none => simp [e] at k; exact k.elim
  | some ps =>
    simp only [e] at k
    split at k
    · rename_i c
      obtain ⟨a, xs, h1, h2, h3⟩ := tup_read S r e
      exact ⟨a, xs, h1, h2, by rw [h3.len]; exact c, h R ι O H σ s ps xs E' Q S L h3 k⟩
    · exact k.elim
end
def gSubL (fo fi : EF) : GF := fun v s O => (fo s O).bind fun p O1 => (fi s O1).bind fun q O2 => match p, q with
  | .loc n, .int k => match O2[n]? with
    | some (some (.lst ps)) => match ixN ps.length k with
      | some j => .ok s (O2.set n (some (.lst (ps.set j v))))
      | none => .bad
    | _ => .bad
  | _, _ => .bad
section
variable {K : PySem.W.Frag} {E : XM} {to ti : TE} {fo fi : EF}
theorem sim_gSubL (ho : SimE K E to fo) (hi : SimE K E ti fi) : SimG K E (gSub to ti rSetL) (gSubL fo fi) := by
  intro R ι O H σ s v x Q S L rv h
  refine ho R ι O H σ s _ S L (Post.bind (rp' := fun ι G s σ => SlR K ι G σ s) h fun p O1 y ι1 H1 S1 X1 r1 h1 => hi R ι1 O1 H1 σ s _ S1 (L.ext X1) (Post.bind (rp' := fun ι G s σ => SlR K ι G σ s) h1 fun q O2 z ι2 H2 S2 X2 r2 h2 => ?_))
  cases p with
  | loc n =>
    cases q with
    | int k =>
      simp only at h2
      cases e : O2[n]? with
      | none => simp [e] at h2; exact h2.elim
      | some w =>
        cases w with
        | none => simp [e] at h2; exact h2.elim
        | some w =>
          cases w with
          | lst ps =>
            simp only [e] at h2
            cases e2 : ixN ps.length k with
            | none => simp [e2] at h2; exact h2.elim
            | some j =>
              simp only [e2] at h2
              obtain ⟨a, h3, h4⟩ := X2.rep r1
              obtain ⟨o, h5, xs, h6, h7⟩ := S2.obj n a _ h4 e
              subst h6
              obtain ⟨S3, X3⟩ := S2.change h4 e (p' := .lst (ps.set j v)) (o' := .lst (xs.set j x)) ⟨_, rfl, h7.set ((X1.trans X2).rep rv)⟩
              exact ⟨a, xs, k, j, h3, r2, h5, by rw [h7.len]; exact e2, h2.at S3 X3 (L.ext ((X1.trans X2).trans X3))⟩
          | _ => simp [e] at h2; exact h2.elim
    | _ => exact h2.elim
  | _ => exact h2.elim
end
end Qx

/-! Own layer Q4: fields, methods, new instances, isinstance, built-ins, loops, comprehensions. -/
namespace Qx
open PySem PySem.Spec PyProof.Rows L2 Gx
def noX {α : Type} (r : PR α) : PR α := match r with
  | .exc _ _ => .bad
  | r => r
theorem Post.noX {α β : Type} {K : PySem.W.Frag} {R : List (Addr × HO)} {E E' : Option XK} {rp : List Addr → Hp → α → β → Prop} {ι : List Addr} {O : Sto} {H : Hp} {Q : β → Hp → Prop} {r : PR α} (h : Post K R E rp ι O H Q (Qx.noX r)) : Post K R E' rp ι O H Q r := by
  cases r with
  | ok a O' => exact h
  | exc e O' => exact h.elim
  | bad => exact h
/-! ### fields and methods -/
def eFld (C f : Str) (a : EF) : EF := fun s O => (a s O).bind fun p O1 => match insOf O1 p with
  | some (C', ns, ps) => if C' = C then match (ns.zip ps).lookup f with
    | some q => .ok q O1
    | none => .bad else .bad
  | none => .bad
def eMeth (C m : Str) (mf : MF) (dps : List PV) (a : EF) (b : AF) : EF := fun s O => (a s O).bind fun p O1 => match insOf O1 p with
  | some (C', ns, qs) => if C' = C ∧ ((ns.zip qs).lookup m).isNone = true then (b s O1).bind fun ps O2 => mf (p :: (ps ++ dps)) O2 else .bad
  | none => .bad
def eMethK (C m : Str) (mf : MF) (n k : Nat) (gP : List PV → List PV → List PV) (a : EF) (b z : AF) : EF := fun s O => (a s O).bind fun p O1 => match insOf O1 p with
  | some (C', ns, qs) => if C' = C ∧ ((ns.zip qs).lookup m).isNone = true then (b s O1).bind fun ps O2 => (z s O2).bind fun zs O3 => if ps.length + 1 = n ∧ zs.length = k then mf (gP (p :: ps) zs) O3 else .bad else .bad
  | none => .bad
section
variable {K : PySem.W.Frag} {E : XM} {ta : TE} {fa : EF} {tA tZ : TA} {fA fZ : AF} {C f m : Str} {mf : MF} {dps : List PV} {dvs : List V}
theorem sim_fld (c : Cls K (He.ga K C)) (no : NoAttr K (He.ga K C) f) (ha : SimE K E ta fa) : SimE K E (tFld K ta f) (eFld C f fa) := fun R ι O H σ s Q S L h =>
  ha R ι O H σ s _ S L (h.bind fun p O1 x ι1 H1 S1 X1 r1 h1 => by
    cases e : insOf O1 p with
    | none => simp [e] at h1; exact h1.elim
    | some w =>
      obtain ⟨C', ns, ps⟩ := w
      simp only [e] at h1
      split at h1
      · rename_i ec
        subst ec
        obtain ⟨a, dx, xs, h2, h3, h4, h5⟩ := ins_read S1 r1 e
        cases e2 : (ns.zip ps).lookup f with
        | none => simp [e2] at h1; exact h1.elim
        | some q =>
          simp only [e2] at h1
          obtain ⟨v, h6, h7⟩ := (zip_lookup h5).1 q e2
          exact ⟨a, _, dx, _, v, h2, h3, c, no, h6, h1.here S1 h7⟩
      · exact h1.elim)
theorem sim_meth (ha : SimE K none ta fa) (hA : SimA K none tA fA) (hd : ∀ ι G, RepL K ι G dps dvs) : SimE K none (tMeth (He.ga K C) m (spM K false mf) dvs E0 ta tA) (eMeth C m mf dps fa fA) := fun R ι O H σ s Q S L h =>
  ha R ι O H σ s _ S L (h.bind fun p O1 x ι1 H1 S1 X1 r1 h1 => by
    cases e : insOf O1 p with
    | none => simp [e] at h1; exact h1.elim
    | some w =>
      obtain ⟨C', ns, ps⟩ := w
      simp only [e] at h1
      split at h1
      · rename_i ec
        obtain ⟨ec, en⟩ := ec
        subst ec
        obtain ⟨a, dx, xs, h2, h3, h4, h5⟩ := ins_read S1 r1 e
        exact ⟨a, dx, _, h2, h3, (zip_lookup h5).2 (Option.isNone_iff_eq_none.mp en), hA R ι1 O1 H1 σ s _ S1 (L.ext X1) (h1.bind fun qs O2 ys ι2 H2 S2 X2 r2 h6 => ⟨R, ι2, O2, _, S2, RepL.consR (X2.rep r1) (r2.app (hd _ _)), h6⟩)⟩
      · exact h1.elim)
theorem sim_methK {n k : Nat} {gP : List PV → List PV → List PV} {gV : List V → List V → List V} (ha : SimE K none ta fa) (hA : SimA K none tA fA) (hZ : SimA K none tZ fZ) (hg : ∀ ι G ps vs zs ws, RepL K ι G ps vs → RepL K ι G zs ws → RepL K ι G (gP ps zs) (gV vs ws)) : SimE K none (tMethN (He.ga K C) m n k (spM K false mf) gV E0 ta tA tZ) (eMethK C m mf n k gP fa fA fZ) := fun R ι O H σ s Q S L h =>
  ha R ι O H σ s _ S L (h.bind fun p O1 x ι1 H1 S1 X1 r1 h1 => by
    cases e : insOf O1 p with
    | none => simp [e] at h1; exact h1.elim
    | some w =>
      obtain ⟨C', ns, ps⟩ := w
      simp only [e] at h1
      split at h1
      · rename_i ec
        obtain ⟨ec, en⟩ := ec
        subst ec
        obtain ⟨a, dx, xs, h2, h3, h4, h5⟩ := ins_read S1 r1 e
        refine ⟨a, dx, _, h2, h3, (zip_lookup h5).2 (Option.isNone_iff_eq_none.mp en), hA R ι1 O1 H1 σ s _ S1 (L.ext X1) (h1.bind fun qs O2 ys ι2 H2 S2 X2 r2 h6 => hZ R ι2 O2 H2 σ s _ S2 (L.ext (X1.trans X2)) (h6.bind fun zs O3 ws ι3 H3 S3 X3 r3 h7 => ?_))⟩
        split at h7
        · rename_i cc
          exact ⟨by rw [r2.len]; exact cc.1, by rw [r3.len]; exact cc.2, R, ι3, O3, _, S3, hg _ _ _ _ _ _ (by rw [← h2]; exact RepL.consR ((X2.trans X3).rep r1) (X3.repL r2)) r3, h7⟩
        · exact h7.elim
      · exact h1.elim)
/-! ### own ==, !=, len -/
def insIs (O : Sto) (C : Str) (p : PV) : Bool := match insOf O p with
  | some (C', _, _) => decide (C' = C)
  | none => false
def boolR (neg : Bool) (r : PR PV) : PR PV := (noX r).bind fun p O => match p with
  | .bl b => .ok (.bl (if neg then !b else b)) O
  | _ => .bad
def oeqP (C : Str) (m : MF) (p q : PV) (O : Sto) : PR PV := if (insIs O C p && insIs O C q) = true then boolR false (m [p, q] O) else .bad
def oneP (C : Str) (m : MF) (p q : PV) (O : Sto) : PR PV := if (insIs O C p && insIs O C q) = true then boolR true (m [p, q] O) else .bad
def olenP (C : Str) (m : MF) (ps : List PV) (O : Sto) : PR PV := match ps with
  | [p] => if insIs O C p = true then (noX (m [p] O)).bind fun r O1 => match r with
    | .int n => if (decide (0 ≤ n) && decide (n < 2 ^ 63)) = true then .ok (.int n) O1 else .bad
    | _ => .bad else .bad
  | _ => .bad
end
/-! ### new instances: frozen ones, by a builder -/
inductive BR where
  | next (ns : List Str) (ps : List PV) (s : Slots) (O : Sto) | exc (e : PExc) (O : Sto) | bad
abbrev BF := List Str → List PV → Slots → Sto → BR
def BR.bind (r : BR) (k : BF) : BR := match r with
  | .next ns ps s O => k ns ps s O
  | r => r
def hdI (K : PySem.W.Frag) (C : Str) (x dx : Addr) (ns : List Str) (xs : List V) : Addr × HO := (x, .ins (He.ga K C) dx (ns.zip xs))
structure SimI (K : PySem.W.Frag) (C : Str) (R : List (Addr × HO)) (ι : List Addr) (O : Sto) (H : Hp) (x dx : Addr) (ns : List Str) (ps : List PV) (xs : List V) (σ : L2.St) (s : Slots) : Prop where
  S : Sim K (hdI K C x dx ns xs :: R) ι O H
  ln : ns.length = ps.length
  r : RepL K ι (fz (hdI K C x dx ns xs :: R) ι O H) ps xs
  s0 : σ[0]? = some (some (.ref x))
  n0 : ∀ p, s[0]? ≠ some (some p)
  L : SlR K ι (fz (hdI K C x dx ns xs :: R) ι O H) σ s
structure ExtI (K : PySem.W.Frag) (C : Str) (R : List (Addr × HO)) (x dx : Addr) (ι : List Addr) (O : Sto) (H : Hp) (ns : List Str) (xs : List V) (ι' : List Addr) (O' : Sto) (H' : Hp) (ns' : List Str) (xs' : List V) : Prop where
  pre : Pre ι ι'
  same : Same (fz (hdI K C x dx ns xs :: R) ι O H) (fz (hdI K C x dx ns' xs' :: R) ι' O' H')
def PostB (K : PySem.W.Frag) (C : Str) (R : List (Addr × HO)) (x dx : Addr) (ι : List Addr) (O : Sto) (H : Hp) (ns : List Str) (xs : List V) (nx : L2.St → Hp → Prop) : BR → Prop
  | .next ns' ps' s' O' => ∀ σ' ι' H' xs', SimI K C R ι' O' H' x dx ns' ps' xs' σ' s' → ExtI K C R x dx ι O H ns xs ι' O' H' ns' xs' → nx σ' H'
  | _ => False
def SimB (K : PySem.W.Frag) (C : Str) (t : TS) (g : BF) : Prop := ∀ R ι O H x dx ns ps xs σ s (D : Ends), SimI K C R ι O H x dx ns ps xs σ s → PostB K C R x dx ι O H ns xs D.nx (g ns ps s O) → t D σ H
def bSeq (a b : BF) : BF := fun ns ps s O => (a ns ps s O).bind b
def bExp (f : EF) : BF := fun ns ps s O => match f s O with
  | .ok _ O1 => .next ns ps s O1
  | .exc e O1 => .exc e O1
  | .bad => .bad
def bFld (f : Str) (e : EF) : BF := fun ns ps s O => match e s O with
  | .ok p O1 => if f ∈ ns ∨ 900 < ns.length then .bad else .next (ns ++ [f]) (ps ++ [p]) s O1
  | .exc e O1 => .exc e O1
  | .bad => .bad
theorem putF_new {f : Str} {v : V} : ∀ {ns : List Str} {xs : List V}, ns.length = xs.length → f ∉ ns → putF f v (ns.zip xs) = (ns ++ [f]).zip (xs ++ [v])
  | [], [], _, _ => rfl
  | [], _ :: _, h, _ => by simp at h
  | _ :: _, [], h, _ => by simp at h
  | n :: ns, x :: xs, h, hn => by
    have e : n ≠ f := fun z => hn (by rw [z]; exact List.mem_cons_self)
    show (if n = f then (n, v) :: ns.zip xs else (n, x) :: putF f v (ns.zip xs)) = _
    rw [if_neg e, putF_new (by simpa using h) fun z => hn (List.mem_cons_of_mem _ z)]
    rfl
section
variable {K : PySem.W.Frag} {C : Str} {ta : TE} {fa : EF} {tS uS : TS} {f g : BF}
theorem ExtI.trans {R : List (Addr × HO)} {x dx : Addr} {ι ι' ι'' : List Addr} {O O' O'' : Sto} {H H' H'' : Hp} {ns ns' ns'' : List Str} {xs xs' xs'' : List V} (a : ExtI K C R x dx ι O H ns xs ι' O' H' ns' xs') (b : ExtI K C R x dx ι' O' H' ns' xs' ι'' O'' H'' ns'' xs'') : ExtI K C R x dx ι O H ns xs ι'' O'' H'' ns'' xs'' := ⟨a.pre.trans b.pre, same_trans a.same b.same⟩
theorem sb_seq (ha : SimB K C tS f) (hb : SimB K C uS g) : SimB K C (tSeq tS uS) (bSeq f g) := fun R ι O H x dx ns ps xs σ s D I h => ha R ι O H x dx ns ps xs σ s _ I (by
  unfold bSeq at h
  cases e : f ns ps s O with
  | next ns' ps' s' O' =>
    rw [e] at h
    intro σ' ι' H' xs' I' X'
    refine hb R ι' O' H' x dx ns' ps' xs' σ' s' D I' ?_
    have h' : PostB K C R x dx ι O H ns xs D.nx (g ns' ps' s' O') := h
    cases e2 : g ns' ps' s' O' with
    | next ns2 ps2 s2 O2 => rw [e2] at h'; exact fun σ2 ι2 H2 xs2 I2 X2 => h' σ2 ι2 H2 xs2 I2 (X'.trans X2)
    | _ => rw [e2] at h'; exact h'.elim
  | _ => rw [e] at h; exact h.elim)
theorem sb_exp (ha : SimE K none ta fa) : SimB K C (tDrop ta) (bExp fa) := fun R ι O H x dx ns ps xs σ s D I h => ha _ ι O H σ s _ I.S I.L (by
  unfold bExp at h
  cases e : fa s O with
  | ok p O1 =>
    rw [e] at h
    exact fun v ι' H' S' X' r' => h σ ι' H' xs ⟨S', I.ln, X'.repL I.r, I.s0, I.n0, I.L.ext X'⟩ ⟨X'.pre, X'.same⟩
  | _ => rw [e] at h; exact h.elim)
theorem sb_fld {f : Str} (c : Cls K (He.ga K C)) (no : NoAttr K (He.ga K C) f) (ha : SimE K none ta fa) : SimB K C (sFld K (tVar 0) ta f) (bFld f fa) := fun R ι O H x dx ns ps xs σ s D I h => ha _ ι O H σ s _ I.S I.L (by
  unfold bFld at h
  cases e : fa s O with
  | ok p O1 =>
    rw [e] at h
    simp only at h
    split at h
    · exact h.elim
    · rename_i cc
      have c1 : f ∉ ns := fun z => cc (.inl z)
      have c2 : ns.length ≤ 900 := Nat.le_of_not_lt fun z => cc (.inr z)
      intro v ι' H' S' X' r'
      have hx := S'.hid _ List.mem_cons_self
      have hlen : ns.length = xs.length := by rw [I.r.len]; exact I.ln
      refine ⟨.ref x, I.s0, x, _, dx, _, rfl, hx, c, no, ?_, ?_⟩
      · rw [List.length_zip]; omega
      · obtain ⟨S2, e2⟩ := S'.hid_set (.ins (He.ga K C) dx ((ns ++ [f]).zip (xs ++ [v])))
        have e2 : fz (hdI K C x dx (ns ++ [f]) (xs ++ [v]) :: R) ι' O1 (upd H' x (.ins (He.ga K C) dx ((ns ++ [f]).zip (xs ++ [v])))) = fz (hdI K C x dx ns xs :: R) ι' O1 H' := e2
        rw [putF_new hlen c1]
        have er : RepL K ι' (fz (hdI K C x dx (ns ++ [f]) (xs ++ [v]) :: R) ι' O1 (upd H' x (.ins (He.ga K C) dx ((ns ++ [f]).zip (xs ++ [v]))))) (ps ++ [p]) (xs ++ [v]) := by
          have q := (X'.repL I.r).app (.one r')
          rw [← e2] at q
          exact q
        refine h σ ι' _ (xs ++ [v]) ⟨S2, by rw [List.length_append, List.length_append, I.ln]; rfl, er, I.s0, I.n0, ?_⟩ ⟨X'.pre, ?_⟩
        · have q := I.L.ext X'
          rw [← e2] at q
          exact q
        · have q := X'.same
          rw [← e2] at q
          exact q
  | _ => rw [e] at h; exact h.elim)
def mkInit (n N : Nat) (body : BF) (ps : List PV) (O : Sto) : PR (List Str × List PV) :=
  if ps.length = n then match body [] [] (none :: ps.map some ++ List.replicate (N - (n + 1)) none) O with
    | .next ns qs _ O' => .ok (ns, qs) O'
    | .exc e O' => .exc e O'
    | .bad => .bad
  else .bad
def spI (K : PySem.W.Frag) (C : Str) (m : List PV → Sto → PR (List Str × List PV)) : Sp := fun vs H Q _ => ∃ (x dx : Addr) (us : List V) (R : List (Addr × HO)) (ι : List Addr) (O : Sto) (ps : List PV), vs = .ref x :: us ∧ Sim K (hdI K C x dx [] [] :: R) ι O H ∧ RepL K ι (fz (hdI K C x dx [] [] :: R) ι O H) ps us ∧
  match m ps O with
  | .ok (ns, qs) O' => ∀ ι' H' xs, Sim K (hdI K C x dx ns xs :: R) ι' O' H' → Pre ι ι' → Same (fz (hdI K C x dx [] [] :: R) ι O H) (fz (hdI K C x dx ns xs :: R) ι' O' H') → ns.length = qs.length → RepL K ι' (fz (hdI K C x dx ns xs :: R) ι' O' H') qs xs → Q .non H'
  | _ => False
theorem spI_len {n N : Nat} {body : BF} {vs : List V} {H : Hp} {Q : VK} {E : XK} (h : spI K C (mkInit n N body) vs H Q E) : vs.length = n + 1 := by
  obtain ⟨x, dx, us, R, ι, O, ps, e, S, r, h⟩ := h
  unfold mkInit at h
  by_cases c : ps.length = n
  · rw [e, List.length_cons, r.len, c]
  · rw [if_neg c] at h; exact h.elim
theorem spI_run {n : Nat} {N : List Str} {body : BF} {vs : List V} {H : Hp} {Q : VK} {E : XK} {t : TS} (hs : SimB K C t body) (h : spI K C (mkInit n N.length body) vs H Q E) : t { nx := fun _ H => Q .non H, rt := Q } (L2.start N vs) H := by
  have hl := spI_len h
  obtain ⟨x, dx, us, R, ι, O, ps, e, S, r, h⟩ := h
  have hp : ps.length = n := by rw [e, List.length_cons, r.len] at hl; omega
  unfold mkInit at h
  rw [if_pos hp] at h
  have e2 : L2.start N vs = some (.ref x) :: (us.map some ++ List.replicate (N.length - (n + 1)) none) := by
    unfold L2.start
    rw [hl, e]
    rfl
  rw [e2]
  refine hs R ι O H x dx [] [] [] _ (none :: ps.map some ++ List.replicate (N.length - (n + 1)) none) _ ⟨S, rfl, rfl, rfl, fun p z => ?_, ?_⟩ ?_
  · simp at z
  · have L := SlR.start (K := K) r (N.length - (n + 1))
    refine ⟨by simp [r.len], fun i p e => ?_⟩
    cases i with
    | zero => simp at e
    | succ i =>
      rw [List.cons_append, List.getElem?_cons_succ] at e
      rw [List.getElem?_cons_succ]
      exact L.2 i p e
  · cases q : body [] [] (none :: ps.map some ++ List.replicate (N.length - (n + 1)) none) O with
    | next ns qs s O' =>
      rw [q] at h
      exact fun σ' ι' H' xs' I' X' => h ι' H' xs' I'.S X'.pre X'.same I'.ln I'.r
    | _ => rw [q] at h; exact h.elim
end
def mkIns (C : Str) (r : PR (List Str × List PV)) : PR PV := match r with
  | .ok (ns, qs) O => .ok (.ins C ns qs) O
  | .exc e O => .exc e O
  | .bad => .bad
def eMake (C : Str) (m : List PV → Sto → PR (List Str × List PV)) (dps : List PV) (a : AF) : EF := fun s O => (a s O).bind fun ps O1 => mkIns C (m (ps ++ dps) O1)
def eMakeK (C : Str) (m : List PV → Sto → PR (List Str × List PV)) (n k : Nat) (gP : List PV → List PV → List PV) (a z : AF) : EF := fun s O => (a s O).bind fun ps O1 => (z s O1).bind fun zs O2 => if ps.length = n ∧ zs.length = k then mkIns C (m (gP ps zs) O2) else .bad
section
variable {K : PySem.W.Frag} {C : Str} {tA tZ : TA} {fA fZ : AF} {m : List PV → Sto → PR (List Str × List PV)} {dps : List PV} {dvs : List V}
theorem mk_core {R : List (Addr × HO)} {ι : List Addr} {O : Sto} {H : Hp} {ps : List PV} {us : List V} {Q : VK} {E : XK} {x dx : Addr} (S : Sim K R ι O H) (r : RepL K ι (fz R ι O H) ps us) (h : Post K R none (Rep K) ι O H Q (mkIns C (m ps O))) (hx : H x = none) (hdx : H dx = none) (ne : dx ≠ x) :
    spI K C m (.ref x :: us) (upd (upd H dx (.own x)) x (.ins (He.ga K C) dx [])) (fun v H2 => v = .non ∧ Q (.ref x) H2) E := by
  obtain ⟨S1, X1, _⟩ := S.newF hdx (.own x)
  obtain ⟨S2, e2⟩ := S1.hide_new (D := x) (by rw [upd_ne fun e => ne e.symm]; exact hx) (.ins (He.ga K C) dx [])
  have sm : Same (fz R ι O H) (fz (hdI K C x dx [] [] :: R) ι O (upd (upd H dx (.own x)) x (.ins (He.ga K C) dx []))) := by
    have q := X1.same
    rw [← e2] at q
    exact q
  refine ⟨x, dx, us, R, ι, O, ps, rfl, S2, r.mono .refl sm, ?_⟩
  cases e : m ps O with
  | bad => rw [e] at h; exact h.elim
  | exc e O' => rw [e] at h; obtain ⟨_, z, _⟩ := h; cases z
  | ok w O' =>
    obtain ⟨ns, qs⟩ := w
    rw [e] at h
    intro ι' H' xs S' pre sm' ln r'
    obtain ⟨S3, sm3, e3⟩ := S'.unhide
    refine ⟨rfl, h (.ref x) ι' H' S3 ⟨pre, same_trans sm (same_trans sm' sm3)⟩ ⟨x, dx, xs, rfl, e3, ln, r'.mono .refl sm3⟩⟩
theorem sim_make (hA : SimA K none tA fA) (hd : ∀ ι G, RepL K ι G dps dvs) : SimE K none (tMake (He.ga K C) (spI K C m) dvs E0 tA) (eMake C m dps fA) := fun R ι O H σ s Q S L h =>
  hA R ι O H σ s _ S L (h.bind fun ps O1 xs ι1 H1 S1 X1 r1 h1 => fun x dx hx hdx ne => mk_core S1 (r1.app (hd _ _)) h1 hx hdx ne)
theorem sim_makeK {n k : Nat} {gP : List PV → List PV → List PV} {gV : List V → List V → List V} (hA : SimA K none tA fA) (hZ : SimA K none tZ fZ) (hg : ∀ x ι G ps vs zs ws, RepL K ι G ps vs → RepL K ι G zs ws → ∃ us, gV (.ref x :: vs) ws = .ref x :: us ∧ RepL K ι G (gP ps zs) us) : SimE K none (tMakeN (He.ga K C) n k (spI K C m) gV E0 tA tZ) (eMakeK C m n k gP fA fZ) := fun R ι O H σ s Q S L h =>
  hA R ι O H σ s _ S L (h.bind fun ps O1 xs ι1 H1 S1 X1 r1 h1 => hZ R ι1 O1 H1 σ s _ S1 (L.ext X1) (h1.bind fun zs O2 ws ι2 H2 S2 X2 r2 h2 => by
    split at h2
    · rename_i c
      refine ⟨by rw [r1.len]; exact c.1, by rw [r2.len]; exact c.2, fun x dx hx hdx ne => ?_⟩
      obtain ⟨us, e, r3⟩ := hg x _ _ ps xs zs ws (X2.repL r1) r2
      rw [e]
      exact mk_core S2 r3 h2 hx hdx ne
    · exact h2.elim))
end
end Qx

/-! Own layer Q5: loops, comprehensions, methods of lists, built-ins, isinstance. -/
namespace Qx
open PySem PySem.Spec PyProof.Rows L2 Gx
theorem PR.bind_ok {α β : Type} {x : PR α} {g : α → Sto → PR β} {a : β} {O : Sto} (h : x.bind g = .ok a O) : ∃ b O1, x = .ok b O1 ∧ g b O1 = .ok a O := by
  cases x with
  | ok b O1 => exact ⟨b, O1, rfl, h⟩
  | exc e O1 => cases h
  | bad => cases h
/-! ### what is walked -/
abbrev ItP := List PV × Option (Nat × List PV)
abbrev IF := Slots → Sto → PR ItP
def grd (g : Option (Nat × List PV)) (O : Sto) : Prop := match g with
  | none => True
  | some (n, ps) => O[n]? = some (some (.lst ps))
open Classical in
noncomputable def chk {α : Type} (g : Option (Nat × List PV)) (O : Sto) (bad r : α) : α := match g with
  | none => r
  | some (n, ps) => if O[n]? = some (some (.lst ps)) then r else bad
theorem chk_or {α : Type} (g : Option (Nat × List PV)) (O : Sto) (bad r : α) : (grd g O ∧ chk g O bad r = r) ∨ chk g O bad r = bad := by
  cases g with
  | none => exact .inl ⟨trivial, rfl⟩
  | some w =>
    obtain ⟨n, ps⟩ := w
    by_cases c : O[n]? = some (some (.lst ps))
    · exact .inl ⟨c, by unfold chk; simp only; rw [if_pos c]⟩
    · exact .inr (by unfold chk; simp only; rw [if_neg c])
def ItOk (K : PySem.W.Frag) (J : It) (items : List PV) (g : Option (Nat × List PV)) (ι0 : List Addr) (G0 : Hp) : Prop := ∀ R ι O H, Sim K R ι O H → Pre ι0 ι → Same G0 (fz R ι O H) → grd g O → ∀ i : Nat,
  (∀ p, items[i]? = some p → J.go i H ∧ ∀ x H', J.yld i H x H' → ∃ ι', Sim K R ι' O H' ∧ Ext R ι O H ι' O H' ∧ Rep K ι' (fz R ι' O H') p x) ∧ (items.length ≤ i → J.stop i H)
def rpI (K : PySem.W.Frag) (ι : List Addr) (G : Hp) (a : ItP) (J : It) : Prop := ItOk K J a.1 a.2 ι G
def SimIt (K : PySem.W.Frag) (E : XM) (wi : TI) (f : IF) : Prop := ∀ R ι O H σ s Q, Sim K R ι O H → SlR K ι (fz R ι O H) σ s → Post K R (xat E σ) (rpI K) ι O H Q (f s O) → wi σ H Q
/-! ### for -/
noncomputable def loopL (g : Option (Nat × List PV)) (tgt : GF) (body : SF) : List PV → SF
  | [], s, O => chk g O .bad (.next s O)
  | p :: r, s, O => chk g O .bad ((tgt p s O).toS s fun s1 O1 => match body s1 O1 with
    | .next s2 O2 => loopL g tgt body r s2 O2
    | .cnt s2 O2 => loopL g tgt body r s2 O2
    | .brk s2 O2 => .next s2 O2
    | x => x)
noncomputable def sFor (f : IF) (tgt : GF) (body : SF) : SF := fun s O => (f s O).toS s fun it O1 => loopL it.2 tgt body it.1 s O1
theorem sim_for {K : PySem.W.Frag} {E : XM} {wi : TI} {fI : IF} {g : TG} {tgt : GF} {tb : TS} {body : SF} (hi : SimIt K E wi fI) (hg : SimG K E g tgt) (hb : SimS K E tb body) : SimS K E (tFor wi g tb) (sFor fI tgt body) := by
  intro R ι O H σ s D S L h
  refine hi R ι O H σ s _ S L (h.lift L fun it O1 J ι1 H1 S1 X1 ok h1 => ?_)
  obtain ⟨items, gd⟩ := it
  have ok : ItOk K J items gd ι1 (fz R ι1 O1 H1) := ok
  refine ⟨fun i m σ' H' => m = items.length - i ∧ i ≤ items.length ∧ ∃ s' ι' O', Sim K R ι' O' H' ∧ Ext R ι1 O1 H1 ι' O' H' ∧ SlR K ι' (fz R ι' O' H') σ' s' ∧ PostS K R E ι' O' H' D (loopL gd tgt body (items.drop i) s' O'), ⟨_, rfl, Nat.zero_le _, s, ι1, O1, S1, .refl, L.ext X1, h1⟩, ?_⟩
  rintro i m σ' H' ⟨rfl, hi', s', ι', O', S', X', L', h'⟩
  by_cases hlt : i < items.length
  · have ep : items[i]? = some items[i] := List.getElem?_eq_getElem hlt
    rw [drop_get ep] at h'
    unfold loopL at h'
    rcases chk_or gd O' SR.bad ((tgt items[i] s' O').toS s' fun s1 O1 => match body s1 O1 with
      | .next s2 O2 => loopL gd tgt body (items.drop (i + 1)) s2 O2
      | .cnt s2 O2 => loopL gd tgt body (items.drop (i + 1)) s2 O2
      | .brk s2 O2 => .next s2 O2
      | x => x) with ⟨gok, e⟩ | e
    · rw [e] at h'
      obtain ⟨go, yl⟩ := (ok R ι' O' H' S' X'.pre X'.same gok i).1 _ ep
      refine .inr ⟨go, fun σ2 H2 => ∃ m', m' < items.length - i ∧ (m' = items.length - (i + 1) ∧ i + 1 ≤ items.length ∧ ∃ s2 ι2 O2, Sim K R ι2 O2 H2 ∧ Ext R ι1 O1 H1 ι2 O2 H2 ∧ SlR K ι2 (fz R ι2 O2 H2) σ2 s2 ∧ PostS K R E ι2 O2 H2 D (loopL gd tgt body (items.drop (i + 1)) s2 O2)), fun σ2 H2 z => z, fun x H2 y => ?_⟩
      obtain ⟨ι2, S2, X2, r2⟩ := yl x H2 y
      refine hg R ι2 O' H2 σ' s' _ x _ S2 (L'.ext X2) r2 ((PostS.of X2 h').lift (L'.ext X2) fun s3 O3 σ3 ι3 H3 S3 X3 L3 h3 => ?_)
      refine hb R ι3 O3 H3 σ3 s3 _ S3 L3 ?_
      have X13 := X'.trans (X2.trans X3)
      cases e3 : body s3 O3 with
      | next s4 O4 => rw [e3] at h3; exact fun σ4 ι4 H4 S4 X4 L4 => ⟨_, by omega, rfl, by omega, s4, ι4, O4, S4, X13.trans X4, L4, PostS.of X4 h3⟩
      | cnt s4 O4 => rw [e3] at h3; exact fun σ4 ι4 H4 S4 X4 L4 => ⟨_, by omega, rfl, by omega, s4, ι4, O4, S4, X13.trans X4, L4, PostS.of X4 h3⟩
      | brk s4 O4 => rw [e3] at h3; exact fun σ4 ι4 H4 S4 X4 L4 => h3 σ4 ι4 H4 S4 X4 L4
      | ret p O4 => rw [e3] at h3; exact h3
      | exc x s4 O4 => rw [e3] at h3; exact h3
      | bad => rw [e3] at h3; exact h3
    · rw [e] at h'; exact h'.elim
  · have e0 : items.drop i = [] := List.drop_eq_nil_of_le (Nat.le_of_not_lt hlt)
    rw [e0] at h'
    unfold loopL at h'
    rcases chk_or gd O' SR.bad (.next s' O') with ⟨gok, e⟩ | e
    · rw [e] at h'
      exact .inl ⟨(ok R ι' O' H' S' X'.pre X'.same gok i).2 (Nat.le_of_not_lt hlt), h' σ' ι' H' S' .refl L'⟩
    · rw [e] at h'; exact h'.elim
/-! ### what is walked: lists, tuples, ranges, zip, enumerate, texts -/
def iL (f : EF) : IF := fun s O => (f s O).bind fun p O1 => match p with
  | .lst ps => .ok (ps, none) O1
  | .rol ps => .ok (ps, none) O1
  | .loc n => match O1[n]? with
    | some (some (.lst ps)) => .ok (ps, some (n, ps)) O1
    | _ => .bad
  | _ => .bad
def iT (f : EF) : IF := fun s O => (f s O).bind fun p O1 => match tupOf p with
  | some ps => .ok (ps, none) O1
  | none => .bad
def rgOk (j : Int) : Bool := decide (-(2 ^ 62) ≤ j ∧ j < 2 ^ 62)
def rgL (lo : Int) (n : Nat) : List PV := (List.range n).map fun i => .int (lo + (i : Nat))
def iR1 (a : AF) : IF := fun s O => (a s O).bind fun ps O1 => match ps with
  | [.int j] => if rgOk j = true then .ok (rgL 0 j.toNat, none) O1 else .bad
  | _ => .bad
def iR2 (a : AF) : IF := fun s O => (a s O).bind fun ps O1 => match ps with
  | [.int i, .int j] => if (rgOk i && rgOk j) = true then .ok (rgL i (j - i).toNat, none) O1 else .bad
  | _ => .bad
def frL : PV → Option (List PV)
  | .lst ps => some ps
  | .rol ps => some ps
  | _ => none
def zipP (ps qs : List PV) : List PV := (ps.zip qs).map fun w => .tup [w.1, w.2]
def iZ (a : AF) : IF := fun s O => (a s O).bind fun ps O1 => match ps with
  | [p, q] => match frL p, frL q with
    | some xs, some ys => .ok (zipP xs ys, none) O1
    | _, _ => match tupOf p, tupOf q with
      | some xs, some ys => .ok (zipP xs ys, none) O1
      | _, _ => .bad
  | _ => .bad
def enumP : Nat → List PV → List PV
  | _, [] => []
  | i, p :: ps => .tup [.int (i : Nat), p] :: enumP (i + 1) ps
theorem rgL_get {lo : Int} {n i : Nat} {p : PV} (h : (rgL lo n)[i]? = some p) : i < n ∧ p = .int (lo + (i : Nat)) := by
  unfold rgL at h
  rw [List.getElem?_map] at h
  obtain ⟨j, h1, h2⟩ := Option.map_eq_some_iff.mp h
  obtain ⟨h3, h4⟩ := List.getElem?_eq_some_iff.mp h1
  simp only [List.getElem_range] at h4
  simp only [List.length_range] at h3
  subst h4
  exact ⟨h3, h2.symm⟩
theorem rgL_len {lo : Int} {n : Nat} : (rgL lo n).length = n := by unfold rgL; simp
theorem enumP_get : ∀ {ps : List PV} {k i : Nat} {p : PV}, (enumP k ps)[i]? = some p → ∃ q, ps[i]? = some q ∧ p = .tup [.int ((k + i : Nat) : Int), q]
  | [], _, _, _, h => by simp [enumP] at h
  | q :: ps, k, 0, p, h => by
    simp only [enumP, List.getElem?_cons_zero, Option.some.injEq] at h
    exact ⟨q, rfl, h.symm⟩
  | q :: ps, k, i + 1, p, h => by
    simp only [enumP, List.getElem?_cons_succ] at h
    obtain ⟨r, h1, h2⟩ := enumP_get h
    exact ⟨r, by simpa using h1, by rw [h2]; congr 4; omega⟩
theorem enumP_len : ∀ {ps : List PV} {k : Nat}, (enumP k ps).length = ps.length
  | [], _ => rfl
  | _ :: ps, k => by rw [enumP, List.length_cons, List.length_cons, enumP_len]
section
variable {K : PySem.W.Frag} {E : XM} {te : TE} {fe : EF} {tA : TA} {fA : AF}
theorem sim_iR1 (hA : SimA K E tA fA) : SimIt K E (iRng1 tA) (iR1 fA) := fun R ι O H σ s Q S L h =>
  hA R ι O H σ s _ S L (h.bind fun ps O1 xs ι1 H1 S1 X1 r1 h1 => by
    match ps, h1, r1 with
    | [.int j], h1, ⟨x, t, e, r2, e2⟩ =>
      cases e2
      subst e
      simp only at h1
      split at h1
      · rename_i c
        have c' := of_decide_eq_true c
        refine ⟨j, by rw [show x = .int j from r2], c'.1, c'.2, h1.here S1 fun R' ι' O' H' S' _ _ _ i => ⟨fun p ep => ?_, fun hl => ?_⟩⟩
        · obtain ⟨h3, h4⟩ := rgL_get ep
          exact ⟨h3, fun x H'' y => ⟨ι', by rw [y.1]; exact S', by rw [y.1]; exact .refl, by rw [h4, y.2]; rfl⟩⟩
        · rw [rgL_len] at hl; exact hl
      · exact h1.elim)
theorem sim_iR2 (hA : SimA K E tA fA) : SimIt K E (iRng2 tA) (iR2 fA) := fun R ι O H σ s Q S L h =>
  hA R ι O H σ s _ S L (h.bind fun ps O1 xs ι1 H1 S1 X1 r1 h1 => by
    match ps, h1, r1 with
    | [.int i0, .int j], h1, ⟨x, t, e, r2, y, t2, e2, r3, e3⟩ =>
      cases e3
      subst e2
      subst e
      simp only at h1
      split at h1
      · rename_i c
        obtain ⟨c1, c2⟩ := Bool.and_eq_true_iff.mp c
        have c1 := of_decide_eq_true c1
        have c2 := of_decide_eq_true c2
        refine ⟨i0, j, by rw [show x = .int i0 from r2, show y = .int j from r3], ⟨c1.1, c1.2, c2.1, c2.2⟩, h1.here S1 fun R' ι' O' H' S' _ _ _ i => ⟨fun p ep => ?_, fun hl => ?_⟩⟩
        · obtain ⟨h3, h4⟩ := rgL_get ep
          exact ⟨h3, fun x H'' y => ⟨ι', by rw [y.1]; exact S', by rw [y.1]; exact .refl, by rw [h4, y.2]; rfl⟩⟩
        · rw [rgL_len] at hl; exact hl
      · exact h1.elim)
theorem itl_ok {ι0 : List Addr} {G0 : Hp} {a : Addr} {items : List PV} {g : Option (Nat × List PV)} (rd : ∀ R ι O H, Sim K R ι O H → Pre ι0 ι → Same G0 (fz R ι O H) → grd g O → ∃ xs, SqL K H a xs ∧ RepL K ι (fz R ι O H) items xs) : ItOk K (Itl K a) items g ι0 G0 := by
  intro R ι O H S p1 sm gd i
  obtain ⟨xs, h1, h2⟩ := rd R ι O H S p1 sm gd
  refine ⟨fun p ep => ?_, fun hl => ⟨xs, h1, by rw [h2.len]; exact hl⟩⟩
  obtain ⟨x, h3, h4⟩ := h2.get ep
  refine ⟨⟨xs, x, h1, h3⟩, fun y H' z => ⟨ι, by rw [z.1]; exact S, by rw [z.1]; exact .refl, ?_⟩⟩
  have e := z.2 xs h1
  rw [h3] at e
  cases e
  rw [z.1]
  exact h4
theorem itt_ok {ι0 : List Addr} {G0 : Hp} {a : Addr} {items : List PV} {xs : List V} (h1 : SqT K G0 a xs) (h2 : RepL K ι0 G0 items xs) : ItOk K (Itt K a) items none ι0 G0 := by
  intro R ι O H S p1 sm gd i
  have h1 : SqT K H a xs := sqt_same (same_trans sm S.frozen) h1
  have h2 := h2.mono p1 sm
  refine ⟨fun p ep => ?_, fun hl => ⟨xs, h1, by rw [h2.len]; exact hl⟩⟩
  obtain ⟨x, h3, h4⟩ := h2.get ep
  refine ⟨⟨xs, x, h1, h3⟩, fun y H' z => ⟨ι, by rw [z.1]; exact S, by rw [z.1]; exact .refl, ?_⟩⟩
  have e := z.2 xs h1
  rw [h3] at e
  cases e
  rw [z.1]
  exact h4
theorem frL_read {ι : List Addr} {G : Hp} {p : PV} {x : V} {ps : List PV} (r : Rep K ι G p x) (e : frL p = some ps) : ∃ a xs, x = .ref a ∧ SqL K G a xs ∧ RepL K ι G ps xs := by
  cases p with
  | lst qs => obtain ⟨a, xs, h1, h2, h3⟩ := r; cases e; exact ⟨a, xs, h1, SqL.of h2, h3⟩
  | rol qs => obtain ⟨a, xs, h1, h2, h3⟩ := r; cases e; exact ⟨a, xs, h1, h2, h3⟩
  | _ => cases e
theorem sim_iL (he : SimE K E te fe) : SimIt K E (iList K te) (iL fe) := fun R ι O H σ s Q S L h =>
  he R ι O H σ s _ S L (h.bind fun p O1 x ι1 H1 S1 X1 r1 h1 => by
    have fr : ∀ ps, frL p = some ps → Post K R (xat E σ) (rpI K) ι1 O1 H1 Q (.ok (ps, none) O1) → ∃ a, x = .ref a ∧ (∃ xs, SqL K H1 a xs) ∧ Q (Itl K a) H1 := fun ps e h1 => by
      obtain ⟨a, xs, e1, h3, h4⟩ := frL_read r1 e
      exact ⟨a, e1, ⟨xs, S1.frozen.seq h3⟩, h1.here S1 (itl_ok fun R' ι' O' H' S' p1 sm _ => ⟨xs, S'.frozen.seq (sm.seq h3), h4.mono p1 sm⟩)⟩
    cases p with
    | lst ps => exact fr ps rfl h1
    | rol ps => exact fr ps rfl h1
    | loc n =>
      obtain ⟨a, e1, e2⟩ := r1
      simp only at h1
      cases q : O1[n]? with
      | none => simp [q] at h1; exact h1.elim
      | some w =>
        cases w with
        | none => simp [q] at h1; exact h1.elim
        | some w =>
          cases w with
          | lst ps =>
            simp only [q] at h1
            obtain ⟨o, h3, xs, h4, h5⟩ := S1.obj n a _ e2 q
            subst h4
            refine ⟨a, e1, ⟨xs, SqL.of h3⟩, h1.here S1 (itl_ok fun R' ι' O' H' S' p1 sm gd => ?_)⟩
            obtain ⟨o, h3, xs, h4, h5⟩ := S'.obj n a _ (p1 _ _ e2) (show O'[n]? = some (some (.lst ps)) from gd)
            subst h4
            exact ⟨xs, SqL.of h3, h5⟩
          | _ => simp [q] at h1; exact h1.elim
    | _ => exact h1.elim)
theorem sim_iT (he : SimE K E te fe) : SimIt K E (iTup K te) (iT fe) := fun R ι O H σ s Q S L h =>
  he R ι O H σ s _ S L (h.bind fun p O1 x ι1 H1 S1 X1 r1 h1 => by
    cases p with
    | tup ps =>
      obtain ⟨a, xs, e1, h3, h4⟩ := r1
      exact ⟨a, e1, ⟨xs, sqt_same S1.frozen h3⟩, h1.here S1 (itt_ok h3 h4)⟩
    | xtp ps =>
      obtain ⟨⟨a, xs, e1, h3, h4⟩, _⟩ := r1
      exact ⟨a, e1, ⟨xs, sqt_same S1.frozen h3⟩, h1.here S1 (itt_ok h3 h4)⟩
    | _ => exact h1.elim)
end
end Qx

/-! Own layer Q6: comprehensions, methods of lists, built-ins, isinstance. -/
namespace Qx
open PySem PySem.Spec PyProof.Rows L2 Gx
/-! ### comprehensions -/
def wipeP (s : Slots) : List Nat → Slots
  | [] => s
  | v :: vs => (wipeP s vs).set v none
theorem wipe_get (σ : L2.St) : ∀ (vs : List Nat) (i : Nat), (wipe σ vs)[i]? = if i ∈ vs then σ[i]?.map (fun _ => none) else σ[i]?
  | [], i => by simp [wipe]
  | v :: vs, i => by
    show ((wipe σ vs).set v none)[i]? = _
    rw [List.getElem?_set, wipe_length]
    by_cases c : v = i
    · subst c
      rw [if_pos rfl, if_pos List.mem_cons_self]
      by_cases d : v < σ.length
      · rw [if_pos d, List.getElem?_eq_getElem d]; rfl
      · rw [if_neg d, List.getElem?_eq_none (Nat.le_of_not_lt d)]; rfl
    · rw [if_neg c, wipe_get σ vs i]
      have e : i ∈ v :: vs ↔ i ∈ vs := by
        simp only [List.mem_cons]
        constructor
        · rintro (h | h)
          · exact absurd h.symm c
          · exact h
        · exact .inr
      simp only [e]
theorem wipe_wipe {σ : L2.St} {vs : List Nat} : wipe (wipe σ vs) vs = wipe σ vs := by
  apply List.ext_getElem?
  intro i
  rw [wipe_get, wipe_get]
  by_cases c : i ∈ vs
  · simp only [c, if_true, Option.map_map]; rfl
  · simp only [c, if_false]
theorem wipe_set {σ : L2.St} {vs : List Nat} {n : Nat} {x : Option V} (h : n ∈ vs) : wipe (σ.set n x) vs = wipe σ vs := by
  apply List.ext_getElem?
  intro i
  rw [wipe_get, wipe_get, List.getElem?_set]
  by_cases c : i ∈ vs
  · simp only [c, if_true]
    by_cases d : n = i
    · subst d
      by_cases e : n < σ.length
      · simp [e, List.getElem?_eq_getElem e]
      · simp [e, List.getElem?_eq_none (Nat.le_of_not_lt e)]
    · simp [d]
  · simp only [c, if_false]
    rw [if_neg fun e => c (by rw [← e]; exact h)]
theorem SlR.wipe {K : PySem.W.Frag} {ι : List Addr} {G : Hp} {σ : L2.St} {s : Slots} (L : SlR K ι G σ s) : ∀ vs : List Nat, SlR K ι G (L2.wipe σ vs) (wipeP s vs)
  | [] => L
  | v :: vs => (SlR.wipe L vs).set0 v
def GW (g : TG) (vs : List Nat) : Prop := ∀ v σ H Q, g v σ H Q → g v σ H fun σ2 H2 => L2.wipe σ2 vs = L2.wipe σ vs ∧ Q σ2 H2
def GWs (g : TGs) (vs : List Nat) : Prop := ∀ xs σ H Q, g xs σ H Q → g xs σ H fun σ2 H2 => L2.wipe σ2 vs = L2.wipe σ vs ∧ Q σ2 H2
theorem gw_nm {n : Nat} {vs : List Nat} (h : n ∈ vs) : GW (gName n) vs := fun v σ H Q q => ⟨wipe_set h, q⟩
theorem gw_nil {vs : List Nat} : GWs gNil vs := fun xs σ H Q q => ⟨q.1, rfl, q.2⟩
theorem gw_cons {g : TG} {gs : TGs} {vs : List Nat} (h1 : GW g vs) (h2 : GWs gs vs) (mg : ∀ v σ H (Q Q' : L2.St → Hp → Prop), (∀ σ H, Q σ H → Q' σ H) → g v σ H Q → g v σ H Q') (mgs : ∀ v σ H (Q Q' : L2.St → Hp → Prop), (∀ σ H, Q σ H → Q' σ H) → gs v σ H Q → gs v σ H Q') : GWs (gCons g gs) vs := by
  rintro xs σ H Q ⟨v, r, e, q⟩
  refine ⟨v, r, e, mg _ _ _ _ _ (fun σ2 H2 z => ?_) (h1 v σ H _ q)⟩
  exact mgs _ _ _ _ _ (fun σ3 H3 w => ⟨w.1.trans z.1, w.2⟩) (h2 r σ2 H2 Q z.2)
theorem gw_tup {K : PySem.W.Frag} {n : Nat} {gs : TGs} {vs : List Nat} (h : GWs gs vs) : GW (gTup K n gs) vs := by
  rintro v σ H Q ⟨a, xs, e, h1, h2, q⟩
  exact ⟨a, xs, e, h1, h2, h xs σ H Q q⟩
theorem mg_nm {n : Nat} : ∀ v σ H (Q Q' : L2.St → Hp → Prop), (∀ σ H, Q σ H → Q' σ H) → gName n v σ H Q → gName n v σ H Q' := fun _ _ _ _ _ h q => h _ _ q
theorem mgs_nil : ∀ v σ H (Q Q' : L2.St → Hp → Prop), (∀ σ H, Q σ H → Q' σ H) → gNil v σ H Q → gNil v σ H Q' := fun _ _ _ _ _ h q => ⟨q.1, h _ _ q.2⟩
theorem mgs_cons {g : TG} {gs : TGs} (mg : ∀ v σ H (Q Q' : L2.St → Hp → Prop), (∀ σ H, Q σ H → Q' σ H) → g v σ H Q → g v σ H Q') (mgs : ∀ v σ H (Q Q' : L2.St → Hp → Prop), (∀ σ H, Q σ H → Q' σ H) → gs v σ H Q → gs v σ H Q') : ∀ v σ H (Q Q' : L2.St → Hp → Prop), (∀ σ H, Q σ H → Q' σ H) → gCons g gs v σ H Q → gCons g gs v σ H Q' := by
  rintro v σ H Q Q' h ⟨x, r, e, q⟩
  exact ⟨x, r, e, mg _ _ _ _ _ (fun σ2 H2 z => mgs _ _ _ _ _ h z) q⟩
theorem mg_tup {K : PySem.W.Frag} {n : Nat} {gs : TGs} (mgs : ∀ v σ H (Q Q' : L2.St → Hp → Prop), (∀ σ H, Q σ H → Q' σ H) → gs v σ H Q → gs v σ H Q') : ∀ v σ H (Q Q' : L2.St → Hp → Prop), (∀ σ H, Q σ H → Q' σ H) → gTup K n gs v σ H Q → gTup K n gs v σ H Q' := by
  rintro v σ H Q Q' h ⟨a, xs, e, h1, h2, q⟩
  exact ⟨a, xs, e, h1, h2, mgs _ _ _ _ _ h q⟩
noncomputable def compL (g : Option (Nat × List PV)) (tgt : GF) (t : TF) (e : EF) (s0 : Slots) : List PV → List PV → Sto → PR (List PV)
  | [], acc, O => chk g O .bad (.ok acc O)
  | p :: r, acc, O => chk g O .bad ((tgt p s0 O).bind fun s1 O1 => (t s1 O1).bind fun b O2 => if b = true then (e s1 O2).bind fun q O3 => if szLt acc.length = true then compL g tgt t e s0 r (acc ++ [q]) O3 else .bad else compL g tgt t e s0 r acc O2)
noncomputable def lcC (f : IF) (tgt : GF) (t : TF) (e : EF) (vs : List Nat) : AF := fun s O => (f s O).bind fun it O1 => noX (compL it.2 tgt t e (wipeP s vs) it.1 [] O1)
noncomputable def eLc (f : IF) (tgt : GF) (t : TF) (e : EF) (vs : List Nat) : EF := fun s O => (lcC f tgt t e vs s O).bind fun ps O1 => .ok (.lst ps) O1
noncomputable def eLcO (f : IF) (tgt : GF) (t : TF) (e : EF) (vs : List Nat) : EF := fun s O => (lcC f tgt t e vs s O).bind fun ps O1 => .ok (.loc O1.length) (O1 ++ [some (.lst ps)])
section
variable {K : PySem.W.Frag} {E : XM} {wi : TI} {fI : IF} {g : TG} {tgt : GF} {tt : TT} {ft : TF} {te : TE} {fe : EF} {vs : List Nat}
theorem lc_core {R : List (Addr × HO)} {ι : List Addr} {O : Sto} {H : Hp} {σ : L2.St} {s : Slots} {Q : VK} {k : List PV → Sto → PR PV} (hw : GW g vs) (mg : ∀ v σ H (Q Q' : L2.St → Hp → Prop), (∀ σ H, Q σ H → Q' σ H) → g v σ H Q → g v σ H Q') (hi : SimIt K E wi fI) (hg : SimG0 K g tgt) (ht : SimT K none tt ft) (he : SimE K none te fe)
    (S : Sim K R ι O H) (L : SlR K ι (fz R ι O H) σ s) (h : Post K R (xat E σ) (Rep K) ι O H Q ((lcC fI tgt ft fe vs s O).bind k))
    (fin : ∀ D ps xs ι' O' H', Sim K ((D, .lst xs) :: R) ι' O' H' → Pre ι ι' → Same (fz R ι O H) (fz ((D, .lst xs) :: R) ι' O' H') → RepL K ι' (fz ((D, .lst xs) :: R) ι' O' H') ps xs → Post K R (xat E σ) (Rep K) ι O H Q (k ps O') → Q (.ref D) H') : tLc wi g tt te vs σ H Q := by
  unfold lcC at h
  have h0 : Post K R (xat E σ) (Rep K) ι O H Q ((fI s O).bind fun it O1 => (noX (compL it.2 tgt ft fe (wipeP s vs) it.1 [] O1)).bind k) := by
    cases e : fI s O with
    | ok it O1 => rw [e] at h; exact h
    | exc x O1 => rw [e] at h; exact h
    | bad => rw [e] at h; exact h
  refine hi R ι O H σ s _ S L ?_
  cases e0 : fI s O with
  | exc x O1 => rw [e0] at h0; exact h0
  | bad => rw [e0] at h0; exact h0
  | ok it O1 =>
    rw [e0] at h0
    intro J ι1 H1 S1 X1 ok D hD
    obtain ⟨items, gd⟩ := it
    have ok : ItOk K J items gd ι1 (fz R ι1 O1 H1) := ok
    cases ec : compL gd tgt ft fe (wipeP s vs) items [] O1 with
    | exc x O2 => rw [show ((PR.ok (items, gd) O1).bind fun it O1 => (noX (compL it.2 tgt ft fe (wipeP s vs) it.1 [] O1)).bind k) = (noX (compL gd tgt ft fe (wipeP s vs) items [] O1)).bind k from rfl, ec] at h0; exact h0.elim
    | bad => rw [show ((PR.ok (items, gd) O1).bind fun it O1 => (noX (compL it.2 tgt ft fe (wipeP s vs) it.1 [] O1)).bind k) = (noX (compL gd tgt ft fe (wipeP s vs) items [] O1)).bind k from rfl, ec] at h0; exact h0.elim
    | ok ps Of =>
      rw [show ((PR.ok (items, gd) O1).bind fun it O1 => (noX (compL it.2 tgt ft fe (wipeP s vs) it.1 [] O1)).bind k) = (noX (compL gd tgt ft fe (wipeP s vs) items [] O1)).bind k from rfl, ec] at h0
      have h0 : Post K R (xat E σ) (Rep K) ι O H Q (k ps Of) := h0
      refine ⟨fun i m H' => m = items.length - i ∧ i ≤ items.length ∧ ∃ acc xs ι' O', Sim K ((D, .lst xs) :: R) ι' O' H' ∧ Pre ι1 ι' ∧ Same (fz R ι1 O1 H1) (fz ((D, .lst xs) :: R) ι' O' H') ∧ RepL K ι' (fz ((D, .lst xs) :: R) ι' O' H') acc xs ∧ compL gd tgt ft fe (wipeP s vs) (items.drop i) acc O' = .ok ps Of, ?_, ?_⟩
      · obtain ⟨S2, e2⟩ := S1.hide_new hD (.lst [])
        exact ⟨_, rfl, Nat.zero_le _, [], [], ι1, O1, S2, .refl, by rw [e2]; exact same_refl, rfl, ec⟩
      · rintro i m H' ⟨rfl, hi', acc, xs, ι', O', S', P', M', r', c'⟩
        by_cases hlt : i < items.length
        · have ep : items[i]? = some items[i] := List.getElem?_eq_getElem hlt
          rw [drop_get ep] at c'
          unfold compL at c'
          rcases chk_or gd O' (PR.bad) ((tgt items[i] (wipeP s vs) O').bind fun s1 O1 => (ft s1 O1).bind fun b O2 => if b = true then (fe s1 O2).bind fun q O3 => if szLt acc.length = true then compL gd tgt ft fe (wipeP s vs) (items.drop (i + 1)) (acc ++ [q]) O3 else .bad else compL gd tgt ft fe (wipeP s vs) (items.drop (i + 1)) acc O2) with ⟨gok, e⟩ | e
          · rw [e] at c'
            obtain ⟨go, yl⟩ := (ok _ ι' O' H' S' P' M' gok i).1 _ ep
            refine .inr ⟨go, fun H2 => ∃ m', m' < items.length - i ∧ (m' = items.length - (i + 1) ∧ i + 1 ≤ items.length ∧ ∃ acc xs ι' O', Sim K ((D, .lst xs) :: R) ι' O' H2 ∧ Pre ι1 ι' ∧ Same (fz R ι1 O1 H1) (fz ((D, .lst xs) :: R) ι' O' H2) ∧ RepL K ι' (fz ((D, .lst xs) :: R) ι' O' H2) acc xs ∧ compL gd tgt ft fe (wipeP s vs) (items.drop (i + 1)) acc O' = .ok ps Of), fun H2 z => z, fun x H2 y => ?_⟩
            obtain ⟨ι2, S2, X2, r2⟩ := yl x H2 y
            have M2 := same_trans M' X2.same
            have Lw : SlR K ι2 (fz ((D, .lst xs) :: R) ι2 O' H2) (L2.wipe σ vs) (wipeP s vs) := by
              have q := (L.ext X1).wipe vs
              exact ⟨q.1, fun i p e => let ⟨v, h1, h2⟩ := q.2 i p e; ⟨v, h1, h2.mono (P'.trans X2.pre) M2⟩⟩
            obtain ⟨s3, O3, e3, c3⟩ := PR.bind_ok c'
            obtain ⟨b, O4, e4, c4⟩ := PR.bind_ok c3
            have hgo : g x (L2.wipe σ vs) H2 fun σ2 H2 => tt σ2 H2 fun b H3 => if b = true then te σ2 H3 fun y H4 => ∃ acc, H4 D = some (.lst acc) ∧ acc.length < sizeLine ∧ (∃ m', m' < items.length - i ∧ (m' = items.length - (i + 1) ∧ i + 1 ≤ items.length ∧ ∃ acc' xs ι' O', Sim K ((D, .lst xs) :: R) ι' O' (upd H4 D (.lst (acc ++ [y]))) ∧ Pre ι1 ι' ∧ Same (fz R ι1 O1 H1) (fz ((D, .lst xs) :: R) ι' O' (upd H4 D (.lst (acc ++ [y])))) ∧ RepL K ι' (fz ((D, .lst xs) :: R) ι' O' (upd H4 D (.lst (acc ++ [y])))) acc' xs ∧ compL gd tgt ft fe (wipeP s vs) (items.drop (i + 1)) acc' O' = .ok ps Of)) else (∃ m', m' < items.length - i ∧ (m' = items.length - (i + 1) ∧ i + 1 ≤ items.length ∧ ∃ acc xs ι' O', Sim K ((D, .lst xs) :: R) ι' O' H3 ∧ Pre ι1 ι' ∧ Same (fz R ι1 O1 H1) (fz ((D, .lst xs) :: R) ι' O' H3) ∧ RepL K ι' (fz ((D, .lst xs) :: R) ι' O' H3) acc xs ∧ compL gd tgt ft fe (wipeP s vs) (items.drop (i + 1)) acc O' = .ok ps Of)) := by
              refine hg _ ι2 O' H2 _ (wipeP s vs) _ x none _ S2 Lw r2 ?_
              rw [e3]
              intro σ3 ι3 H3 S3 X3 L3
              refine ht _ ι3 O3 H3 σ3 s3 _ S3 L3 ?_
              rw [e4]
              intro b' ι4 H4 S4 X4 eb
              subst eb
              have M4 := same_trans M2 (same_trans X3.same X4.same)
              have P4 := P'.trans (X2.pre.trans (X3.pre.trans X4.pre))
              cases b with
              | false => exact ⟨_, by omega, rfl, by omega, acc, xs, ι4, O4, S4, P4, M4, r'.mono (X2.pre.trans (X3.pre.trans X4.pre)) (same_trans X2.same (same_trans X3.same X4.same)), c4⟩
              | true =>
                simp only [if_true] at c4
                obtain ⟨q, O5, e5, c5⟩ := PR.bind_ok c4
                refine he _ ι4 O4 H4 σ3 s3 _ S4 (L3.ext X4) ?_
                rw [e5]
                intro y ι5 H5 S5 X5 r5
                by_cases cz : szLt acc.length = true
                · rw [if_pos cz] at c5
                  have hD5 := S5.hid (D, .lst xs) List.mem_cons_self
                  obtain ⟨S6, e6⟩ := S5.hid_set (.lst (xs ++ [y]))
                  have M5 := same_trans M4 X5.same
                  have rr := r'.mono (X2.pre.trans (X3.pre.trans (X4.pre.trans X5.pre))) (same_trans X2.same (same_trans X3.same (same_trans X4.same X5.same)))
                  refine ⟨xs, hD5, by rw [r'.len]; exact szLt_lt cz, _, by omega, rfl, by omega, acc ++ [q], xs ++ [y], ι5, O5, S6, P4.trans X5.pre, by rw [e6]; exact M5, by rw [e6]; exact rr.app (.one r5), c5⟩
                · rw [if_neg cz] at c5; cases c5
            have q := hw x _ _ _ hgo
            refine mg _ _ _ _ _ ?_ q
            intro σ2 H2 z
            exact ⟨z.1.trans wipe_wipe, z.2⟩
          · rw [e] at c'; cases c'
        · have e0 : items.drop i = [] := List.drop_eq_nil_of_le (Nat.le_of_not_lt hlt)
          rw [e0] at c'
          unfold compL at c'
          rcases chk_or gd O' PR.bad (.ok acc O') with ⟨gok, e⟩ | e
          · rw [e] at c'
            cases c'
            exact .inl ⟨(ok _ ι' _ H' S' P' M' gok i).2 (Nat.le_of_not_lt hlt), fin D _ xs ι' _ H' S' (X1.pre.trans P') (same_trans X1.same M') r' h0⟩
          · rw [e] at c'; cases c'
theorem sim_lc (hw : GW g vs) (mg : ∀ v σ H (Q Q' : L2.St → Hp → Prop), (∀ σ H, Q σ H → Q' σ H) → g v σ H Q → g v σ H Q') (hi : SimIt K E wi fI) (hg : SimG0 K g tgt) (ht : SimT K none tt ft) (he : SimE K none te fe) : SimE K E (tLc wi g tt te vs) (eLc fI tgt ft fe vs) := fun R ι O H σ s Q S L h =>
  lc_core hw mg hi hg ht he S L h fun D ps xs ι' O' H' S' P M r h' => by
    obtain ⟨S2, M2, e2⟩ := S'.unhide
    exact h'.at S2 ⟨P, same_trans M M2⟩ ⟨D, xs, rfl, e2, r.mono .refl M2⟩
end
/-! ### methods of lists -/
def MtP (K : PySem.W.Frag) (r : V → List V → Hp → VK → Prop) (f : PV → List PV → Sto → PR PV) : Prop := ∀ R ι O H p ps x xs E Q, Sim K R ι O H → Rep K ι (fz R ι O H) p x → RepL K ι (fz R ι O H) ps xs → Post K R E (Rep K) ι O H Q (f p ps O) → r x xs H Q
def eBml (f : PV → List PV → Sto → PR PV) (o : EF) (a : AF) : EF := fun s O => (o s O).bind fun p O1 => if (lstOf O1 p).isSome = true then (a s O1).bind fun ps O2 => f p ps O2 else .bad
def locL (O : Sto) : PV → Option (Nat × List PV)
  | .loc n => match O[n]? with
    | some (some (.lst ps)) => some (n, ps)
    | _ => none
  | _ => none
def appendP (p : PV) (qs : List PV) (O : Sto) : PR PV := match locL O p, qs with
  | some (n, ps), [q] => if szLt ps.length = true then .ok .non (O.set n (some (.lst (ps ++ [q])))) else .bad
  | _, _ => .bad
theorem locL_read {K : PySem.W.Frag} {R : List (Addr × HO)} {ι : List Addr} {O : Sto} {H : Hp} {p : PV} {x : V} {n : Nat} {ps : List PV} (S : Sim K R ι O H) (r : Rep K ι (fz R ι O H) p x) (e : locL O p = some (n, ps)) : ∃ a xs, x = .ref a ∧ ι[n]? = some a ∧ O[n]? = some (some (.lst ps)) ∧ H a = some (.lst xs) ∧ RepL K ι (fz R ι O H) ps xs := by
  cases p with
  | loc m =>
    obtain ⟨a, e1, e2⟩ := r
    unfold locL at e
    cases q : O[m]? with
    | none => simp [q] at e
    | some w =>
      cases w with
      | none => simp [q] at e
      | some w =>
        cases w with
        | lst qs =>
          simp only [q, Option.some.injEq, Prod.mk.injEq] at e
          obtain ⟨rfl, rfl⟩ := e
          obtain ⟨o, h3, xs, h4, h5⟩ := S.obj m a _ e2 q
          subst h4
          exact ⟨a, xs, e1, e2, q, h3, h5⟩
        | _ => simp [q] at e
  | _ => cases e
section
variable {K : PySem.W.Frag} {E : XM} {to : TE} {fo : EF} {tA : TA} {fA : AF} {r : V → List V → Hp → VK → Prop} {f : PV → List PV → Sto → PR PV}
theorem sim_bml (hf : MtP K r f) (ho : SimE K E to fo) (hA : SimA K E tA fA) : SimE K E (tBM K "list" r to tA) (eBml f fo fA) := fun R ι O H σ s Q S L h =>
  ho R ι O H σ s _ S L (h.bind fun p O1 x ι1 H1 S1 X1 r1 h1 => by
    split at h1
    · rename_i c
      obtain ⟨ps, e⟩ := Option.isSome_iff_exists.mp c
      obtain ⟨a, xs, e1, h3, h4⟩ := lst_read S1 r1 e
      refine ⟨by rw [e1]; exact Or.inl ⟨rfl, xs, h3⟩, hA R ι1 O1 H1 σ s _ S1 (L.ext X1) (h1.bind fun qs O2 ys ι2 H2 S2 X2 r2 h2 => hf R ι2 O2 H2 p qs x ys _ _ S2 (X2.rep r1) r2 h2)⟩
    · exact h1.elim)
theorem ml_append : MtP K rAppend appendP := by
  intro R ι O H p qs x ys E Q S r1 r2 h
  unfold appendP at h
  cases e : locL O p with
  | none => simp [e] at h; exact h.elim
  | some w =>
    obtain ⟨n, ps⟩ := w
    match qs, h, r2 with
    | [], h, _ => simp [e] at h; exact h.elim
    | _ :: _ :: _, h, _ => simp [e] at h; exact h.elim
    | [q], h, ⟨y, t, e2, r3, e3⟩ =>
      cases e3
      subst e2
      simp only [e] at h
      split at h
      · rename_i c
        obtain ⟨a, xs, e1, h2, h3, h4, h5⟩ := locL_read S r1 e
        obtain ⟨S2, X2⟩ := S.change h2 h3 (p' := .lst (ps ++ [q])) (o' := .lst (xs ++ [y])) ⟨_, rfl, h5.app (.one r3)⟩
        exact ⟨a, xs, y, e1, rfl, h4, by rw [h5.len]; exact szLt_lt c, h.at S2 X2 rfl⟩
      · exact h.elim
end
end Qx

/-! Own layer Q7: built-ins, isinstance, further statements. -/
namespace Qx
open PySem PySem.Spec PyProof.Rows L2 Gx
def intsOf : List PV → Option (List Int)
  | [] => some []
  | .int i :: r => (intsOf r).map (i :: ·)
  | _ => none
def blsOf : List PV → Option (List Bool)
  | [] => some []
  | .bl i :: r => (blsOf r).map (i :: ·)
  | _ => none
def strsOf : List PV → Option (List Str)
  | [] => some []
  | .str i :: r => (strsOf r).map (i :: ·)
  | _ => none
theorem intsOf_map : ∀ ns : List Int, intsOf (ns.map PV.int) = some ns
  | [] => rfl
  | n :: ns => by simp only [List.map_cons, intsOf, intsOf_map ns, Option.map_some]
theorem blsOf_map : ∀ ns : List Bool, blsOf (ns.map PV.bl) = some ns
  | [] => rfl
  | n :: ns => by simp only [List.map_cons, blsOf, blsOf_map ns, Option.map_some]
theorem of_intsOf : ∀ {ps : List PV} {ns : List Int}, intsOf ps = some ns → ps = ns.map PV.int
  | [], ns, h => by cases h; rfl
  | .int i :: r, ns, h => by
    simp only [intsOf] at h
    obtain ⟨ms, h1, h2⟩ := Option.map_eq_some_iff.mp h
    subst h2
    rw [of_intsOf h1]
    rfl
  | .non :: _, _, h => by cases h
  | .bl _ :: _, _, h => by cases h
  | .str _ :: _, _, h => by cases h
  | .ty _ :: _, _, h => by cases h
  | .cls _ :: _, _, h => by cases h
  | .tup _ :: _, _, h => by cases h
  | .xtp _ :: _, _, h => by cases h
  | .lst _ :: _, _, h => by cases h
  | .rol _ :: _, _, h => by cases h
  | .ins _ _ _ :: _, _, h => by cases h
  | .rng _ _ :: _, _, h => by cases h
  | .loc _ :: _, _, h => by cases h
  | .dic _ _ :: _, _, h => by cases h
  | .dtk _ _ :: _, _, h => by cases h
  | .tbl _ :: _, _, h => by cases h
  | .xc _ _ _ :: _, _, h => by cases h
theorem of_blsOf : ∀ {ps : List PV} {ns : List Bool}, blsOf ps = some ns → ps = ns.map PV.bl
  | [], ns, h => by cases h; rfl
  | .bl i :: r, ns, h => by
    simp only [blsOf] at h
    obtain ⟨ms, h1, h2⟩ := Option.map_eq_some_iff.mp h
    subst h2
    rw [of_blsOf h1]
    rfl
  | .non :: _, _, h => by cases h
  | .int _ :: _, _, h => by cases h
  | .str _ :: _, _, h => by cases h
  | .ty _ :: _, _, h => by cases h
  | .cls _ :: _, _, h => by cases h
  | .tup _ :: _, _, h => by cases h
  | .xtp _ :: _, _, h => by cases h
  | .lst _ :: _, _, h => by cases h
  | .rol _ :: _, _, h => by cases h
  | .ins _ _ _ :: _, _, h => by cases h
  | .rng _ _ :: _, _, h => by cases h
  | .loc _ :: _, _, h => by cases h
  | .dic _ _ :: _, _, h => by cases h
  | .dtk _ _ :: _, _, h => by cases h
  | .tbl _ :: _, _, h => by cases h
  | .xc _ _ _ :: _, _, h => by cases h
theorem rep_map {α : Type} {K : PySem.W.Frag} {ι : List Addr} {G : Hp} {f : α → PV} {g : α → V} (hf : ∀ a v, Rep K ι G (f a) v → v = g a) : ∀ {as : List α} {xs : List V}, RepL K ι G (as.map f) xs → xs = as.map g
  | [], xs, h => h
  | a :: as, _, ⟨x, r, e, h1, h2⟩ => by rw [e, hf a x h1, rep_map hf h2]; rfl
theorem rep_ints {K : PySem.W.Frag} {ι : List Addr} {G : Hp} {ps : List PV} {ns : List Int} {xs : List V} (e : intsOf ps = some ns) (r : RepL K ι G ps xs) : xs = ns.map V.int := by
  rw [of_intsOf e] at r
  exact rep_map (f := PV.int) (g := V.int) (fun _ _ h => h) r
theorem rep_bls {K : PySem.W.Frag} {ι : List Addr} {G : Hp} {ps : List PV} {ns : List Bool} {xs : List V} (e : blsOf ps = some ns) (r : RepL K ι G ps xs) : xs = ns.map V.bl := by
  rw [of_blsOf e] at r
  exact rep_map (f := PV.bl) (g := V.bl) (fun _ _ h => h) r
/-! ### built-ins -/
def b1 (f : PV → Sto → PR PV) (ps : List PV) (O : Sto) : PR PV := match ps with
  | [p] => f p O
  | _ => .bad
def b2 (f : PV → PV → Sto → PR PV) (ps : List PV) (O : Sto) : PR PV := match ps with
  | [p, q] => f p q O
  | _ => .bad
def bIs (f : List Int → Option PV) : List PV → Sto → PR PV := b1 fun p O => match (lstOf O p).bind intsOf with
  | some ns => match f ns with
    | some q => .ok q O
    | none => .bad
  | none => .bad
def bBs (f : List Bool → PV) : List PV → Sto → PR PV := b1 fun p O => match (lstOf O p).bind blsOf with
  | some ns => .ok (f ns) O
  | none => .bad
def bMax2 := b2 fun p q O => match p, q with
  | .int i, .int j => .ok (.int (max i j)) O
  | _, _ => .bad
def bMin2 := b2 fun p q O => match p, q with
  | .int i, .int j => .ok (.int (min i j)) O
  | _, _ => .bad
def bSum := bIs fun ns => some (.int ns.sum)
def bAll := bBs fun bs => .bl (bs.all id)
def bAny := bBs fun bs => .bl (bs.any id)
def bAbs := b1 fun p O => match p with
  | .int i => .ok (.int (if i < 0 then -i else i)) O
  | _ => .bad
def bInt := b1 fun p O => match p with
  | .int i => .ok (.int i) O
  | .bl k => .ok (.int (if k then 1 else 0)) O
  | _ => .bad
def seqOf (O : Sto) (p : PV) : Option (List PV) := match lstOf O p with
  | some ps => some ps
  | none => tupOf p
def bLen := b1 fun p O => match seqOf O p with
  | some ps => .ok (.int ps.length) O
  | none => .bad
def bRng := b2 fun p q O => match p, q with
  | .int i, .int j => .ok (.rng i j) O
  | _, _ => .bad
def bTup := b1 fun p O => match lstOf O p with
  | some ps => .ok (.tup ps) O
  | none => match p with
    | .tup ps => .ok (.tup ps) O
    | _ => .bad
def bDivmod := b2 fun p q O => match p, q with
  | .int i, .int j => if divOk i j = true then .ok (.tup [.int (i / j), .int (i % j)]) O else .bad
  | _, _ => .bad
section
variable {K : PySem.W.Frag}
theorem cb_1 {r : List V → Hp → VK → Prop} {f : PV → Sto → PR PV} (h : ∀ R ι O H p x E Q, Sim K R ι O H → Rep K ι (fz R ι O H) p x → Post K R E (Rep K) ι O H Q (f p O) → r [x] H Q) : CbS K r (b1 f) := by
  intro R ι O H ps xs E Q S r1 h1
  match ps, h1, r1 with
  | [], h1, _ => exact h1.elim
  | _ :: _ :: _, h1, _ => exact h1.elim
  | [p], h1, ⟨x, t, e, r2, e2⟩ =>
    cases e2
    subst e
    exact h R ι O H p x E Q S r2 h1
theorem cb_2 {r : List V → Hp → VK → Prop} {f : PV → PV → Sto → PR PV} (h : ∀ R ι O H p q x y E Q, Sim K R ι O H → Rep K ι (fz R ι O H) p x → Rep K ι (fz R ι O H) q y → Post K R E (Rep K) ι O H Q (f p q O) → r [x, y] H Q) : CbS K r (b2 f) := by
  intro R ι O H ps xs E Q S r1 h1
  match ps, h1, r1 with
  | [], h1, _ => exact h1.elim
  | [_], h1, _ => exact h1.elim
  | _ :: _ :: _ :: _, h1, _ => exact h1.elim
  | [p, q], h1, ⟨x, t, e, r2, y, t2, e2, r3, e3⟩ =>
    cases e3
    subst e2
    subst e
    exact h R ι O H p q x y E Q S r2 r3 h1
theorem cb_is {r : List V → Hp → VK → Prop} {f : List Int → Option PV} (h : ∀ a (ns : List Int) H Q q, SqL K H a (ns.map V.int) → f ns = some q → (∀ v, (∀ ι G, Rep K ι G q v) → Q v H) → r [.ref a] H Q) (hs : ∀ ns q, f ns = some q → ∃ v, ∀ ι G x, Rep K ι G q x ↔ x = v) : CbS K r (bIs f) := cb_1 fun R ι O H p x E Q S r1 h1 => by
  cases e : (lstOf O p).bind intsOf with
  | none => simp [e] at h1; exact h1.elim
  | some ns =>
    simp only [e] at h1
    cases e2 : f ns with
    | none => simp [e2] at h1; exact h1.elim
    | some q =>
      simp only [e2] at h1
      obtain ⟨ps, e3, e4⟩ := Option.bind_eq_some_iff.mp e
      obtain ⟨a, xs, h2, h3, h4⟩ := lst_read S r1 e3
      subst h2
      rw [rep_ints e4 h4] at h3
      exact h a ns H Q q h3 e2 fun v hv => h1.here S (hv _ _)
theorem cb_bs {r : List V → Hp → VK → Prop} {f : List Bool → Bool} (h : ∀ a (ns : List Bool) H Q, SqL K H a (ns.map V.bl) → Q (.bl (f ns)) H → r [.ref a] H Q) : CbS K r (bBs fun bs => .bl (f bs)) := cb_1 fun R ι O H p x E Q S r1 h1 => by
  cases e : (lstOf O p).bind blsOf with
  | none => simp [e] at h1; exact h1.elim
  | some ns =>
    simp only [e] at h1
    obtain ⟨ps, e3, e4⟩ := Option.bind_eq_some_iff.mp e
    obtain ⟨a, xs, h2, h3, h4⟩ := lst_read S r1 e3
    subst h2
    rw [rep_bls e4 h4] at h3
    exact h a ns H Q h3 (h1.here S rfl)
theorem cb_all : CbS K (rAll K) bAll := cb_bs fun a ns H Q h1 h2 => ⟨a, ns, rfl, h1, h2⟩
theorem cb_any : CbS K (rAny K) bAny := cb_bs fun a ns H Q h1 h2 => ⟨a, ns, rfl, h1, h2⟩
theorem one_int {n : Int} {q : PV} (e : some (PV.int n) = some q) : ∃ v, ∀ (ι : List Addr) G x, Rep K ι G q x ↔ x = v := by cases e; exact ⟨.int n, fun _ _ _ => Iff.rfl⟩
theorem cb_sum : CbS K (rSum K) bSum := cb_is (fun a ns H Q q h1 e h2 => by cases e; exact ⟨a, ns, rfl, h1, h2 _ fun _ _ => rfl⟩) fun ns q e => one_int e
theorem cb_max2 : CbS K (fun xs H Q => ∃ i j, xs = [.int i, .int j] ∧ Q (.int (max i j)) H) bMax2 := cb_2 fun R ι O H p q x y E Q S r1 r2 h => by
  cases p <;> cases q <;> first | exact h.elim | exact ⟨_, _, by rw [show x = _ from r1, show y = _ from r2], h.here S rfl⟩
theorem cb_min2 : CbS K (fun xs H Q => ∃ i j, xs = [.int i, .int j] ∧ Q (.int (min i j)) H) bMin2 := cb_2 fun R ι O H p q x y E Q S r1 r2 h => by
  cases p <;> cases q <;> first | exact h.elim | exact ⟨_, _, by rw [show x = _ from r1, show y = _ from r2], h.here S rfl⟩
theorem cb_abs : CbS K (fun xs H Q => ∃ i, xs = [.int i] ∧ Q (.int (if i < 0 then -i else i)) H) bAbs := cb_1 fun R ι O H p x E Q S r1 h => by
  cases p <;> first | exact h.elim | exact ⟨_, by rw [show x = _ from r1], h.here S rfl⟩
theorem cb_int : CbS K (fun xs H Q => (∃ i, xs = [.int i] ∧ Q (.int i) H) ∨ ∃ k, xs = [.bl k] ∧ Q (.int (if k then 1 else 0)) H) bInt := cb_1 fun R ι O H p x E Q S r1 h => by
  cases p with
  | int i => exact .inl ⟨i, by rw [show x = .int i from r1], h.here S rfl⟩
  | bl k => exact .inr ⟨k, by rw [show x = .bl k from r1], h.here S rfl⟩
  | _ => exact h.elim
theorem seq_read {R : List (Addr × HO)} {ι : List Addr} {O : Sto} {H : Hp} {p : PV} {x : V} {ps : List PV} (S : Sim K R ι O H) (r : Rep K ι (fz R ι O H) p x) (e : seqOf O p = some ps) : ∃ a xs, x = .ref a ∧ (SqL K H a xs ∨ SqT K H a xs) ∧ RepL K ι (fz R ι O H) ps xs := by
  unfold seqOf at e
  cases e1 : lstOf O p with
  | some qs =>
    simp only [e1, Option.some.injEq] at e
    subst e
    obtain ⟨a, xs, h1, h2, h3⟩ := lst_read S r e1
    exact ⟨a, xs, h1, .inl h2, h3⟩
  | none =>
    simp only [e1] at e
    obtain ⟨a, xs, h1, h2, h3⟩ := tup_read S r e
    exact ⟨a, xs, h1, .inr h2, h3⟩
theorem cb_len : CbS K (fun xs H Q => ∃ p ys, xs = [.ref p] ∧ (SqL K H p ys ∨ SqT K H p ys) ∧ Q (.int ys.length) H) bLen := cb_1 fun R ι O H p x E Q S r1 h => by
  cases e : seqOf O p with
  | none => simp [e] at h; exact h.elim
  | some ps =>
    simp only [e] at h
    obtain ⟨a, xs, h1, h2, h3⟩ := seq_read S r1 e
    exact ⟨a, xs, by rw [h1], h2, by rw [h3.len]; exact h.here S rfl⟩
theorem cb_tup : CbS K (rTupOf K) bTup := cb_1 fun R ι O H p x E Q S r1 h => by
  cases e : lstOf O p with
  | some ps =>
    simp only [e] at h
    obtain ⟨a, xs, h1, h2, h3⟩ := lst_read S r1 e
    refine ⟨a, xs, by rw [h1], .inl ⟨h2, fun o ho => ?_⟩⟩
    obtain ⟨S2, X2, e2⟩ := S.newF ho (.tup xs)
    exact h.at S2 X2 ⟨o, xs, rfl, SqT.of e2, X2.repL h3⟩
  | none =>
    simp only [e] at h
    cases p <;> first | exact h.elim | skip
    obtain ⟨a, xs, h1, h2, h3⟩ := tup_read S r1 rfl
    refine ⟨a, xs, by rw [h1], .inr ⟨h2, ?_⟩⟩
    rw [← h1]
    exact h.here S r1
end
/-! ### in -/
def scVs : List PV → Option (List V)
  | [] => some []
  | p :: ps => match scV p, scVs ps with
    | some v, some vs => some (v :: vs)
    | _, _ => none
theorem scVs_rep {K : PySem.W.Frag} {ι : List Addr} {G : Hp} : ∀ {ps : List PV} {vs xs : List V}, scVs ps = some vs → RepL K ι G ps xs → xs = vs
  | [], vs, xs, e, r => by cases e; exact r
  | p :: ps, vs, xs, e, ⟨x, t, e1, r1, r2⟩ => by
    unfold scVs at e
    cases e2 : scV p with
    | none => simp [e2] at e
    | some v =>
      cases e3 : scVs ps with
      | none => simp [e2, e3] at e
      | some ws =>
        simp only [e2, e3, Option.some.injEq] at e
        subst e
        rw [e1, scV_rep e2 r1, scVs_rep e3 r2]
def inS (neg : Bool) (p q : PV) (O : Sto) : PR PV := match scV p, (seqOf O q).bind scVs with
  | some v, some vs => if (flatV v && vs.all flatV) = true then .ok (.bl (if neg then !inV v vs else inV v vs)) O else .bad
  | _, _ => .bad
theorem os_inS {K : PySem.W.Frag} {neg : Bool} : OpS K (rIn K neg) (inS neg) := by
  intro R ι O H p q x y E Q S r1 r2 h
  unfold inS at h
  cases e1 : scV p with
  | none => simp [e1] at h; exact h.elim
  | some v =>
    cases e2 : (seqOf O q).bind scVs with
    | none => simp [e1, e2] at h; exact h.elim
    | some vs =>
      simp only [e1, e2] at h
      split at h
      · rename_i c
        obtain ⟨c1, c2⟩ := Bool.and_eq_true_iff.mp c
        obtain ⟨ps, e3, e4⟩ := Option.bind_eq_some_iff.mp e2
        obtain ⟨a, xs, h1, h2, h3⟩ := seq_read S r2 e3
        have ex := scVs_rep e4 h3
        subst ex
        have ev := scV_rep e1 r1
        subst ev
        exact ⟨a, xs, h1, h2, c1, c2, h.here S rfl⟩
      · exact h.elim
/-! ### isinstance -/
structure ClsK (K : PySem.W.Frag) (cs : List Str) : Prop where
  ins : ∀ C ∈ cs, InsK K (He.ga K C)
  bt : ∀ C ∈ cs, ∀ t ∈ KT, PySem.W.kitOne K (.type t) (.ref (He.ga K C)) = some false
  tb : ∀ C ∈ cs, ∀ t ∈ KT, PySem.W.kitOne K (.ref (He.ga K C)) (.type t) = some false
  cc : ∀ C ∈ cs, ∀ D ∈ cs, C ≠ D → PySem.W.kitOne K (.ref (He.ga K C)) (.ref (He.ga K D)) = some false
  ne : ∀ C ∈ cs, PySem.W.findIn K (.ref (He.ga K C)) "__ne__" = some (some (.builtin "object.__ne__"))
theorem ClsK.of {K : PySem.W.Frag} {cs : List Str} (e : exAll K cs = true) (hc : ∀ C ∈ cs, Cls K (He.ga K C)) : ClsK K cs := by
  unfold exAll at e
  obtain ⟨e1, e2⟩ := Bool.and_eq_true_iff.mp e
  obtain ⟨e3, e4⟩ := Bool.and_eq_true_iff.mp e2
  have one : ∀ C ∈ cs, exOne K cs C = true := fun C h => List.all_eq_true.mp e4 C h
  have sp : ∀ C ∈ cs, InsK K (He.ga K C) ∧ (∀ t ∈ KT, PySem.W.kitOne K (.type t) (.ref (He.ga K C)) = some false) ∧ (∀ t ∈ KT, PySem.W.kitOne K (.ref (He.ga K C)) (.type t) = some false) ∧ (∀ D ∈ cs, C ≠ D → PySem.W.kitOne K (.ref (He.ga K C)) (.ref (He.ga K D)) = some false) ∧ PySem.W.findIn K (.ref (He.ga K C)) "__ne__" = some (some (.builtin "object.__ne__")) := fun C h => by
    have o := one C h
    unfold exOne at o
    obtain ⟨o1, o⟩ := Bool.and_eq_true_iff.mp o
    obtain ⟨o2, o⟩ := Bool.and_eq_true_iff.mp o
    obtain ⟨o3, o⟩ := Bool.and_eq_true_iff.mp o
    obtain ⟨o4, o⟩ := Bool.and_eq_true_iff.mp o
    obtain ⟨o5, o6⟩ := Bool.and_eq_true_iff.mp o
    refine ⟨⟨hc C h, He.eqO_ok o1, He.eqO_ok e1, of_decide_eq_true e3, of_decide_eq_true o2⟩, fun t ht => of_decide_eq_true (List.all_eq_true.mp o3 t ht), fun t ht => of_decide_eq_true (List.all_eq_true.mp o4 t ht), fun D hD ne => ?_, He.eqO_ok o6⟩
    have q := List.all_eq_true.mp o5 D hD
    rcases Bool.or_eq_true_iff.mp q with q | q
    · exact absurd (of_decide_eq_true q) ne
    · exact of_decide_eq_true q
  exact ⟨fun C h => (sp C h).1, fun C h => (sp C h).2.1, fun C h => (sp C h).2.2.1, fun C h => (sp C h).2.2.2.1, fun C h => (sp C h).2.2.2.2⟩
def tyOf (O : Sto) (p : PV) : Option (Sum String Str) := match p with
  | .non => some (.inl "NoneType")
  | .bl _ => some (.inl "bool")
  | .int _ => some (.inl "int")
  | .str _ => some (.inl "str")
  | .tup _ => some (.inl "tuple")
  | .xtp _ => some (.inl "tuple")
  | .lst _ => some (.inl "list")
  | .rol _ => some (.inl "list")
  | .dic _ _ => some (.inl "dict")
  | .ins C _ _ => some (.inr C)
  | .loc n => match O[n]? with
    | some (some (.lst _)) => some (.inl "list")
    | some (some (.ins C _ _)) => some (.inr C)
    | some (some (.dic _ _)) => some (.inl "dict")
    | _ => none
  | _ => none
def kitP (cs : List Str) (t : Sum String Str) (c : PV) : Option Bool := match t, c with
  | .inl a, .ty b => kitB a b
  | .inl a, .cls C => if (cs.contains C && KT.contains a) = true then some false else none
  | .inr D, .ty b => if (cs.contains D && KT.contains b) = true then some false else none
  | .inr D, .cls C => if (cs.contains C && cs.contains D) = true then some (decide (D = C)) else none
  | _, _ => none
def isiP (cs : List Str) : List PV → Sto → PR PV := b2 fun p c O => match tyOf O p with
  | some t => match kitP cs t c with
    | some b => .ok (.bl b) O
    | none => .bad
  | none => .bad
section
variable {K : PySem.W.Frag} {cs : List Str}
def tyV' (K : PySem.W.Frag) : Sum String Str → Value
  | .inl a => .type a
  | .inr C => .ref (He.ga K C)
theorem sqt_ty {H : Hp} {a : Addr} {xs : List V} (h : SqT K H a xs) : TyX K H (.ref a) (.type "tuple") := by
  rcases h with (h | ⟨o, h⟩) | ⟨o, its, n, h1, h2, _⟩
  · exact .base (.tup h)
  · exact .fTuple h
  · exact .kTuple h1 h2
theorem sql_ty {H : Hp} {a : Addr} {xs : List V} (h : SqL K H a xs) : TyX K H (.ref a) (.type "list") := by
  rcases h with (h | ⟨o, h⟩) | ⟨o, its, n, h1, h2, _⟩
  · exact .base (.lst h)
  · exact .base (.frz h)
  · exact .kList h1 h2
theorem ty_read {R : List (Addr × HO)} {ι : List Addr} {O : Sto} {H : Hp} {p : PV} {x : V} {t : Sum String Str} (ck : ClsK K cs) (S : Sim K R ι O H) (r : Rep K ι (fz R ι O H) p x) (e : tyOf O p = some t) (hc : ∀ C, t = .inr C → C ∈ cs) : TyX K H x (tyV' K t) := by
  have insT : ∀ C ns ps, insOf O p = some (C, ns, ps) → t = .inr C → TyX K H x (tyV' K t) := fun C ns ps h1 h2 => by
    obtain ⟨a, dx, xs, g1, g2, _⟩ := ins_read S r h1
    have I := ck.ins C (hc C h2)
    rw [h2, g1]
    exact .base (.ins g2 I.cl I.ha I.hn I.htk I.hm)
  cases p with
  | non => cases e; rw [show x = _ from r]; exact .base .non
  | bl b => cases e; rw [show x = _ from r]; exact .base (.bl b)
  | int b => cases e; rw [show x = _ from r]; exact .base (.int b)
  | str b => cases e; rw [show x = _ from r]; exact .base (.str b)
  | tup ps =>
    cases e
    obtain ⟨a, xs, h1, h2, _⟩ := tup_read S r rfl
    rw [h1]; exact sqt_ty h2
  | xtp ps =>
    cases e
    obtain ⟨a, xs, h1, h2, _⟩ := tup_read S r rfl
    rw [h1]; exact sqt_ty h2
  | lst ps =>
    cases e
    obtain ⟨a, xs, h1, h2, _⟩ := lst_read S r rfl
    rw [h1]; exact sql_ty h2
  | rol ps =>
    cases e
    obtain ⟨a, xs, h1, h2, _⟩ := lst_read S r rfl
    rw [h1]; exact sql_ty h2
  | ins C ns ps => cases e; exact insT C ns ps rfl rfl
  | dic ks vs =>
    cases e
    obtain ⟨a, kvs, h1, h2, _⟩ := r
    rw [h1]; exact .base (.dK (S.frozen _ _ h2))
  | loc n =>
    unfold tyOf at e
    cases q : O[n]? with
    | none => simp [q] at e
    | some w =>
      cases w with
      | none => simp [q] at e
      | some w =>
        cases w with
        | lst ps =>
          simp only [q, Option.some.injEq] at e
          subst e
          obtain ⟨a, xs, h1, h2, _⟩ := lst_read S r (ps := ps) (by simp [lstOf, q])
          rw [h1]; exact sql_ty h2
        | ins C ns ps =>
          simp only [q, Option.some.injEq] at e
          exact insT C ns ps (by simp [insOf, q]) e.symm
        | dic ks vs =>
          simp only [q, Option.some.injEq] at e
          subst e
          obtain ⟨a, e1, e2⟩ := r
          obtain ⟨o, h3, kvs, h4, _⟩ := S.obj n a _ e2 q
          subst h4
          rw [e1]; exact .base (.dK h3)
        | _ => simp [q] at e
  | _ => cases e
theorem kit_read {t : Sum String Str} {c : PV} {y : V} {ι : List Addr} {G : Hp} {b : Bool} (ck : ClsK K cs) (e : kitP cs t c = some b) (r : Rep K ι G c y) : (∀ C, t = .inr C → C ∈ cs) ∧ ∃ u, ClsV y u ∧ PySem.W.kitOne K (tyV' K t) u = some b := by
  cases t with
  | inl a =>
    refine ⟨fun C h => (nomatch h), ?_⟩
    cases c <;> first | cases e | skip
    · rename_i n
      rw [show y = .ty n from r]
      exact ⟨.type n, .ty n, kit_ty e⟩
    · rename_i C
      rw [show y = .ref _ from r]
      unfold kitP at e
      simp only at e
      split at e
      · rename_i z
        obtain ⟨z1, z2⟩ := Bool.and_eq_true_iff.mp z
        cases e
        exact ⟨_, .own _, ck.bt C (List.contains_iff_mem.mp z1) a (List.contains_iff_mem.mp z2)⟩
      · cases e
  | inr D =>
    cases c <;> first | cases e | skip
    · rename_i n
      unfold kitP at e
      simp only at e
      split at e
      · rename_i z
        obtain ⟨z1, z2⟩ := Bool.and_eq_true_iff.mp z
        cases e
        rw [show y = .ty n from r]
        exact ⟨fun C h => by cases h; exact List.contains_iff_mem.mp z1, .type n, .ty n, ck.tb D (List.contains_iff_mem.mp z1) n (List.contains_iff_mem.mp z2)⟩
      · cases e
    · rename_i C
      unfold kitP at e
      simp only at e
      split at e
      · rename_i z
        obtain ⟨z1, z2⟩ := Bool.and_eq_true_iff.mp z
        cases e
        rw [show y = .ref _ from r]
        refine ⟨fun C' h => by cases h; exact List.contains_iff_mem.mp z2, _, .own _, ?_⟩
        by_cases q : D = C
        · subst q
          simp only [decide_true]
          unfold PySem.W.kitOne tyV'
          simp
        · rw [decide_eq_false q]
          exact ck.cc D (List.contains_iff_mem.mp z2) C (List.contains_iff_mem.mp z1) q
      · cases e
theorem cb_isi (ck : ClsK K cs) : CbS K (rIsi K) (isiP cs) := cb_2 fun R ι O H p q x y E Q S r1 r2 h => by
  cases e : tyOf O p with
  | none => simp [e] at h; exact h.elim
  | some t =>
    simp only [e] at h
    cases e2 : kitP cs t q with
    | none => simp [e2] at h; exact h.elim
    | some b =>
      simp only [e2] at h
      obtain ⟨h1, u, h2, h3⟩ := kit_read ck e2 r2
      exact ⟨x, y, _, u, b, rfl, h2, ty_read ck S r1 e h1, h3, h.here S rfl⟩
end
/-! ### further statements -/
def sPar (n m : Nat) (f : AF) : SF := fun s O => (f s O).toS s fun ps O1 => match ps with
  | [p, q] => .next ((s.set n (some p)).set m (some q)) O1
  | _ => .bad
def sPar3 (n m l : Nat) (f : AF) : SF := fun s O => (f s O).toS s fun ps O1 => match ps with
  | [p, q, r] => .next (((s.set n (some p)).set m (some q)).set l (some r)) O1
  | _ => .bad
def sAug (i : Nat) (op : PV → PV → Sto → PR PV) (f : EF) : SF := fun s O => match s[i]? with
  | some (some p) => (f s O).toS s fun q O1 => (op p q O1).toS s fun r O2 => .next (s.set i (some r)) O2
  | _ => .bad
section
variable {K : PySem.W.Frag} {E : XM} {tA : TA} {fA : AF} {te : TE} {fe : EF}
theorem sim_par {n m : Nat} (hA : SimA K E tA fA) : SimS K E (tPar n m tA) (sPar n m fA) := fun R ι O H σ s D S L h =>
  hA R ι O H σ s _ S L (h.lift L fun ps O1 xs ι1 H1 S1 X1 r1 h1 => by
    match ps, h1, r1 with
    | [], h1, _ => exact h1.elim
    | [_], h1, _ => exact h1.elim
    | _ :: _ :: _ :: _, h1, _ => exact h1.elim
    | [p, q], h1, ⟨x, t, e, r2, y, t2, e2, r3, e3⟩ =>
      cases e3
      subst e2
      subst e
      exact ⟨x, y, rfl, h1 _ ι1 H1 S1 .refl (((L.ext X1).set n r2).set m r3)⟩)
end
end Qx

/-! Own layer Q8: sorted sets of ints, never. -/
namespace Qx
open PySem PySem.Spec PyProof.Rows L2 Gx
theorem rp_int {K : PySem.W.Frag} {ι : List Addr} {G : Hp} {i : Int} : Rep K ι G (.int i) (.int i) := rfl
theorem rp_non {K : PySem.W.Frag} {ι : List Addr} {G : Hp} : Rep K ι G .non .non := rfl
def tYesP : TF := fun _ O => .ok true O
theorem sim_yesP {K : PySem.W.Frag} {E : XM} : SimT K E tYes tYesP := sim_yes
theorem sim_bad {K : PySem.W.Frag} {E : XM} {t : TS} : SimS K E t sBad := fun R ι O H σ s D S L h => h.elim
def gLstP (n : Nat) (gs : List PV → Slots → Sto → PR Slots) : GF := fun p s O => match lstOf O p with
  | some ps => if ps.length = n then gs ps s O else .bad
  | none => .bad
/-! ### sorted(set(..)) of ints -/
def insI (n : Int) : List Int → List Int
  | [] => [n]
  | m :: ms => if n < m then n :: m :: ms else if n = m then m :: ms else m :: insI n ms
def riseI : List Int → List Int
  | [] => []
  | n :: ns => insI n (riseI ns)
theorem insI_mem {n k : Int} : ∀ {ms : List Int}, k ∈ insI n ms ↔ k = n ∨ k ∈ ms
  | [] => by simp [insI]
  | m :: ms => by
    unfold insI
    split
    · simp
    · split
      · rename_i e
        subst e
        simp
      · simp only [List.mem_cons, insI_mem]
        constructor
        · rintro (h | h | h)
          · exact .inr (.inl h)
          · exact .inl h
          · exact .inr (.inr h)
        · rintro (h | h | h)
          · exact .inr (.inl h)
          · exact .inl h
          · exact .inr (.inr h)
theorem insI_rise {n : Int} : ∀ {ms : List Int}, ms.Pairwise (· < ·) → (insI n ms).Pairwise (· < ·)
  | [], _ => by simp [insI]
  | m :: ms, h => by
    obtain ⟨h1, h2⟩ := List.pairwise_cons.mp h
    unfold insI
    split
    · rename_i c
      refine List.pairwise_cons.mpr ⟨fun k hk => ?_, h⟩
      rcases List.mem_cons.mp hk with rfl | hk
      · exact c
      · exact Int.lt_trans c (h1 k hk)
    · split
      · exact h
      · rename_i c1 c2
        refine List.pairwise_cons.mpr ⟨fun k hk => ?_, insI_rise h2⟩
        rcases insI_mem.mp hk with rfl | hk
        · omega
        · exact h1 k hk
theorem riseI_mem {k : Int} : ∀ {ns : List Int}, k ∈ riseI ns ↔ k ∈ ns
  | [] => Iff.rfl
  | n :: ns => by
    unfold riseI
    rw [insI_mem, riseI_mem]
    simp
theorem riseI_rise : ∀ ns : List Int, (riseI ns).Pairwise (· < ·)
  | [] => .nil
  | n :: ns => insI_rise (riseI_rise ns)
def eSortSet (f : EF) : EF := fun s O => (f s O).bind fun p O1 => match (lstOf O1 p).bind intsOf with
  | some ns => if (decide (ns.length < 4000) && decide ((riseI ns).length < 64)) = true then .ok (.lst ((riseI ns).map .int)) O1 else .bad
  | none => .bad
theorem sim_sortSet {K : PySem.W.Frag} {w : World} {E : XM} {te : TE} {fe : EF} (he : SimE K E te fe) : SimE K E (tCB (rSortedSet w) (tCons (tCB (rSetI K w) (tCons te tNil)) tNil)) (eSortSet fe) := fun R ι O H σ s Q S L h =>
  he R ι O H σ s _ S L (h.bind fun p O1 x ι1 H1 S1 X1 r1 h1 => by
    cases e : (lstOf O1 p).bind intsOf with
    | none => simp [e] at h1; exact h1.elim
    | some ns =>
      simp only [e] at h1
      split at h1
      · rename_i c
        obtain ⟨c1, c2⟩ := Bool.and_eq_true_iff.mp c
        have c1 := of_decide_eq_true c1
        have c2 := of_decide_eq_true c2
        obtain ⟨ps, e3, e4⟩ := Option.bind_eq_some_iff.mp e
        obtain ⟨a, xs, h2, h3, h4⟩ := lst_read S1 r1 e3
        subst h2
        rw [rep_ints e4 h4] at h3
        refine ⟨a, ns, rfl, h3, c1, fun b c hb hc => ?_⟩
        have hc : c ≤ (riseI ns).length := hc _ fun k hk => riseI_mem.mpr hk
        obtain ⟨S2, X2, e5⟩ := S1.newF hb (SetO w b (fun j => decide (j ∈ ns)) c)
        refine ⟨b, _, c, rfl, upd_same, by omega, fun zs p hz hk hl hp => ?_⟩
        have ez : zs = riseI ns := rise_eq hz (riseI_rise ns) fun k => by rw [hk, riseI_mem]; simp
        subst ez
        obtain ⟨S3, X3, e6⟩ := S2.newF hp (.lst ((riseI ns).map V.int))
        exact h1.at S3 (X2.trans X3) ⟨p, _, rfl, e6, RepL.mapV (f := PV.int) (g := V.int) (fun _ => rfl) _⟩
      · exact h1.elim)
end Qx

/-! Own: zip of two sequences of any two kinds (a tuple and a list). -/
namespace Zx
open PySem PySem.Spec PyProof.Rows L2
open PySem.Sem (wp)
structure Kd where
  It : Heap → Addr → Addr → Nat → Prop
  Ls : Heap → Addr → Array Value → Prop
  ob : ∀ {h i l n}, It h i l n → ∃ o fs, h.get? i = some o ∧ o.data = .fields fs
  itk : ∀ {h h' i l n}, It h i l n → (∀ o, h.get? i = some o → h'.get? i = some o) → It h' i l n
  lsk : ∀ {h h' l xs}, Ls h l xs → (∀ o, h.get? l = some o → h'.get? l = some o) → Ls h' l xs
  nx : ∀ {prog : Program} {w : World} {A : Around} {E : Value → Shared → Prop} {s : Shared} {i l : Addr} {n : Nat} {xs : Array Value} {x : Value} {Q : Value → Shared → Prop}, It s.heap i l n → Ls s.heap l xs → xs[n]? = some x → (∀ h', It h' i l (n + 1) → Heap.SameBut i s.heap h' → Q x { s with heap := h' }) → wpAny (model prog w) A (Builtin.SmallTypes.nextOf (.ref i)) Q E s
  en : ∀ {prog : Program} {w : World} {A : Around} {E : Value → Shared → Prop} {s : Shared} {i l : Addr} {n : Nat} {xs : Array Value} {Q : Value → Shared → Prop}, A.handled = none → It s.heap i l n → Ls s.heap l xs → xs[n]? = none → (∀ h' e, Heap.ExtBut i s.heap h' → (∃ o, h'.get? e = some o ∧ o.cls = .type "StopIteration") → E (.ref e) { s with heap := h' }) → wpAny (model prog w) A (Builtin.SmallTypes.nextOf (.ref i)) Q E s
section
variable {prog : Program} {w : World} {A : Around} {E : Value → Shared → Prop} {s : Shared} {a b : Kd}
end
/-! ### the call of zip -/
abbrev w1 (c : String) (h : Heap) (l : Addr) : Heap := h.push { cls := .type c, data := .fields #[.ref l, .int 0 0] }
abbrev w2 (c d : String) (h : Heap) (l m : Addr) : Heap := w1 d (w1 c h l) m
abbrev w3 (c d : String) (h : Heap) (l m : Addr) : Heap := (w2 c d h l m).push { cls := .type "tuple", data := .seq #[.ref h.objs.size, .ref (w1 c h l).objs.size] }
section
variable {prog : Program} {w : World} {A : Around} {E : Value → Shared → Prop} {s : Shared}
end
/-! ### the turn of a loop -/
end Zx

/-! Own layer Q9: instances that change, fields set, list.pop(i), zip of a tuple with a list, freezing. -/
namespace Qx
open PySem PySem.Spec PyProof.Rows L2 Gx
/-! ### C(..) as a thing that changes -/
theorem pmk0 {X : Cx} {d : He.DefD} {k j : Nat} {ps : List Str} {sp : Sp} {x : Str} {p pos : Pos} {dv : List V} {C : Addr} (D : DOk X.prog X.w X.K X.mg X.base d CX0 k ps sp) (M : Mk X.K C (He.fAd X.K d.at_)) (hm : X.mg x = some (.ref C)) (hb : BdD X.K d ps dv) (hr : Room j X.A) (hj : k + 1 ≤ j) (hg : Gl X x := by rfl)
    (hdb : (x == ("__debug__" : Str)) = false := by decide) : PE X (.Call (.Name x p) [] [] pos) (tMake C sp dv E0 tNil) := by
  obtain ⟨fd, F, G⟩ := D.ex
  obtain ⟨ds, hv, hbd⟩ := hb fd F
  exact pe_make0 M G (hr.mono hj) hg hm hbd hv pass0 hdb
def eMakeO (C : Str) (m : MF) (dps : List PV) (a : AF) : EF := fun s O => (a s O).bind fun ps O1 => (noX (m (.loc O1.length :: (ps ++ dps)) (O1 ++ [some (.ins C [] [])]))).bind fun r O2 => match r with
  | .non => .ok (.loc O1.length) O2
  | _ => .bad
section
variable {K : PySem.W.Frag} {E : XM} {C : Str} {tA : TA} {fA : AF} {m : MF} {dps : List PV} {dvs : List V}
theorem sim_makeO (hA : SimA K none tA fA) (hd : ∀ ι G, RepL K ι G dps dvs) : SimE K none (tMake (He.ga K C) (spM K false m) dvs E0 tA) (eMakeO C m dps fA) := fun R ι O H σ s Q S L h =>
  hA R ι O H σ s _ S L (h.bind fun ps O1 xs ι1 H1 S1 X1 r1 h1 => fun x dx hx hdx ne => by
    obtain ⟨S2, X2, _⟩ := S1.newF hdx (.own x)
    obtain ⟨S3, X3⟩ := S2.newO (D := x) (p := .ins C [] []) (by rw [upd_ne fun e => ne e.symm]; exact hx) (o := .ins (He.ga K C) dx []) ⟨dx, [], rfl, rfl, rfl⟩
    have X := X2.trans X3
    refine ⟨R, _, _, .loc O1.length :: (ps ++ dps), S3, .consR (show Rep K _ _ (.loc O1.length) _ from ⟨x, rfl, new_at S1.len⟩) ((X.repL r1).app (hd _ _)), ?_⟩
    refine Post.noX (E := none) (Post.bind (Post.of X h1) fun r O2 v ι2 H2 S4 X4 r2 h2 => ?_)
    cases r with
    | non => exact ⟨r2, h2.here S4 ⟨x, rfl, X4.pre _ _ (new_at S1.len)⟩⟩
    | _ => exact h2.elim)
end
/-! ### o.f = e -/
def putN (f : Str) : List Str → List Str
  | [] => [f]
  | n :: r => if n = f then n :: r else n :: putN f r
def putW {α : Type} (f : Str) (q : α) : List Str → List α → List α
  | [], _ => [q]
  | n :: r, p :: ps => if n = f then q :: ps else p :: putW f q r ps
  | _ :: _, [] => []
theorem putF_zip {f : Str} {v : V} : ∀ {ns : List Str} {xs : List V}, ns.length = xs.length → putF f v (ns.zip xs) = (putN f ns).zip (putW f v ns xs)
  | [], [], _ => rfl
  | [], _ :: _, h => by simp at h
  | _ :: _, [], h => by simp at h
  | n :: ns, x :: xs, h => by
    show (if n = f then (n, v) :: ns.zip xs else (n, x) :: putF f v (ns.zip xs)) = _
    unfold putN putW
    by_cases c : n = f
    · rw [if_pos c, if_pos c, if_pos c]; rfl
    · rw [if_neg c, if_neg c, if_neg c, putF_zip (by simpa using h)]; rfl
theorem putN_len {α : Type} {f : Str} {q : α} : ∀ {ns : List Str} {ps : List α}, ns.length = ps.length → (putN f ns).length = (putW f q ns ps).length
  | [], [], _ => rfl
  | [], _ :: _, h => by simp at h
  | _ :: _, [], h => by simp at h
  | n :: ns, x :: xs, h => by
    unfold putN putW
    by_cases c : n = f
    · rw [if_pos c, if_pos c]; simpa using h
    · rw [if_neg c, if_neg c, List.length_cons, List.length_cons, putN_len (q := q) (by simpa using h)]
theorem putW_rep {K : PySem.W.Frag} {ι : List Addr} {G : Hp} {f : Str} {q : PV} {v : V} (r : Rep K ι G q v) : ∀ {ns : List Str} {ps : List PV} {xs : List V}, RepL K ι G ps xs → RepL K ι G (putW f q ns ps) (putW f v ns xs)
  | [], ps, xs, h => by unfold putW; exact .one r
  | n :: ns, [], xs, h => by rw [show xs = [] from h]; exact rfl
  | n :: ns, p :: ps, xs, h => by
    obtain ⟨x, t, e, h1, h2⟩ := h
    subst e
    unfold putW
    by_cases c : n = f
    · rw [if_pos c, if_pos c]; exact .consR r h2
    · rw [if_neg c, if_neg c]; exact .consR h1 (putW_rep r h2)
def fldP (C f : Str) (p q : PV) (s : Slots) (O : Sto) : SR := match p with
  | .loc n => match O[n]? with
    | some (some (.ins C' ns ps)) => if C' = C ∧ ns.length ≤ 900 then .next s (O.set n (some (.ins C (putN f ns) (putW f q ns ps)))) else .bad
    | _ => .bad
  | _ => .bad
def sFldP (C f : Str) (fo fv : EF) : SF := fun s O => (fv s O).toS s fun q O1 => (fo s O1).toS s fun p O2 => fldP C f p q s O2
theorem sim_fldS {K : PySem.W.Frag} {E : XM} {C f : Str} {ta tv : TE} {fo fv : EF} (c : Cls K (He.ga K C)) (no : NoAttr K (He.ga K C) f) (hv : SimE K E tv fv) (ho : SimE K E ta fo) : SimS K E (sFld K ta tv f) (sFldP C f fo fv) := fun R ι O H σ s D S L h =>
  hv R ι O H σ s _ S L (h.lift L fun q O1 y ι1 H1 S1 X1 r1 h1 => ho R ι1 O1 H1 σ s _ S1 (L.ext X1) (h1.lift (L.ext X1) fun p O2 x ι2 H2 S2 X2 r2 h2 => by
    unfold fldP at h2
    cases p with
    | loc n =>
      obtain ⟨a, e1, e2⟩ := r2
      simp only at h2
      cases e : O2[n]? with
      | none => simp [e] at h2; exact h2.elim
      | some w =>
        cases w with
        | none => simp [e] at h2; exact h2.elim
        | some w =>
          cases w with
          | ins C' ns ps =>
            simp only [e] at h2
            split at h2
            · rename_i cc
              obtain ⟨o, h3, dx, xs, h4, h5, h6⟩ := S2.obj n a _ e2 e
              subst h4
              have l : ns.length = xs.length := by rw [h5, h6.len]
              refine ⟨a, _, dx, _, e1, by rw [h3, cc.1], c, no, by rw [List.length_zip]; have := cc.2; omega, ?_⟩
              have r1' := X2.rep r1
              rw [putF_zip l]
              obtain ⟨S3, X3⟩ := S2.change (p' := .ins C (putN f ns) (putW f q ns ps)) e2 e (o' := .ins (He.ga K C) dx ((putN f ns).zip (putW f y ns xs))) ⟨dx, _, rfl, putN_len h5, putW_rep r1' h6⟩
              exact h2 σ ι2 _ S3 X3 ((L.ext (X1.trans X2)).ext X3)
            · exact h2.elim
          | _ => simp [e] at h2; exact h2.elim
    | _ => exact h2.elim))
/-! ### list.pop(i) -/
theorem RepL.erase {K : PySem.W.Frag} {ι : List Addr} {G : Hp} {ps : List PV} {xs : List V} (h : RepL K ι G ps xs) (k : Nat) : RepL K ι G (ps.eraseIdx k) (xs.eraseIdx k) := by
  rw [List.eraseIdx_eq_take_drop_succ, List.eraseIdx_eq_take_drop_succ]
  exact (h.take k).app (h.drop (k + 1))
/-! ### zip of a tuple with a list -/
def itemsOf (O : Sto) : PV → Option (List PV × Option (Nat × List PV))
  | .lst ps => some (ps, none)
  | .rol ps => some (ps, none)
  | .loc n => match O[n]? with
    | some (some (.lst ps)) => some (ps, some (n, ps))
    | some (some _) => none
    | some none => none
    | none => none
  | _ => none
theorem items_read {K : PySem.W.Frag} {R : List (Addr × HO)} {ι : List Addr} {O : Sto} {H : Hp} {p : PV} {x : V} {ps : List PV} {g : Option (Nat × List PV)} (S : Sim K R ι O H) (r : Rep K ι (fz R ι O H) p x) (e : itemsOf O p = some (ps, g)) : ∃ a, x = .ref a ∧ grd g O ∧ ∀ R' ι' O' H', Sim K R' ι' O' H' → Pre ι ι' → Same (fz R ι O H) (fz R' ι' O' H') → grd g O' → ∃ xs, SqL K H' a xs ∧ RepL K ι' (fz R' ι' O' H') ps xs := by
  have fr : ∀ qs, frL p = some qs → qs = ps → none = g → ∃ a, x = .ref a ∧ grd g O ∧ ∀ R' ι' O' H', Sim K R' ι' O' H' → Pre ι ι' → Same (fz R ι O H) (fz R' ι' O' H') → grd g O' → ∃ xs, SqL K H' a xs ∧ RepL K ι' (fz R' ι' O' H') ps xs := fun qs f e2 e3 => by
    subst e2
    subst e3
    obtain ⟨a, xs, e1, h3, h4⟩ := frL_read r f
    exact ⟨a, e1, trivial, fun R' ι' O' H' S' p1 sm _ => ⟨xs, S'.frozen.seq (sm.seq h3), h4.mono p1 sm⟩⟩
  cases p with
  | lst qs => cases e; exact fr _ rfl rfl rfl
  | rol qs => cases e; exact fr _ rfl rfl rfl
  | loc n =>
    obtain ⟨a, e1, e2⟩ := r
    unfold itemsOf at e
    simp only at e
    cases q : O[n]? with
    | none => simp [q] at e
    | some w =>
      cases w with
      | none => simp [q] at e
      | some w =>
        cases w with
        | lst qs =>
          simp only [q, Option.some.injEq, Prod.mk.injEq] at e
          obtain ⟨e3, e4⟩ := e
          subst e3
          subst e4
          refine ⟨a, e1, q, fun R' ι' O' H' S' p1 sm gd => ?_⟩
          obtain ⟨o, h3, xs, h4, h5⟩ := S'.obj n a _ (p1 _ _ e2) (show O'[n]? = some (some (.lst qs)) from gd)
          subst h4
          exact ⟨xs, SqL.of h3, h5⟩
        | _ => simp [q] at e
  | _ => cases e
theorem tupOf_read {K : PySem.W.Frag} {ι : List Addr} {G : Hp} {p : PV} {x : V} {ps : List PV} (r : Rep K ι G p x) (e : tupOf p = some ps) : ∃ a xs, x = .ref a ∧ SqT K G a xs ∧ RepL K ι G ps xs := by
  cases p <;> first | (cases e; exact r) | (cases e; exact r.1) | cases e
/-! ### freezing -/
def frzP (p : PV) (O : Sto) : PR PV := match p with
  | .loc n => match O[n]? with
    | some (some q) => .ok q (O.set n none)
    | some none => .ok p O
    | none => .ok p O
  | _ => .ok p O
def eFrz (a : EF) : EF := fun s O => (a s O).bind frzP
end Qx

/-! Own layer Xa: a caught exception as a thing that is tracked from then on; calls where something is handled; calls that may raise. -/
namespace Gx
open PySem PySem.Spec PyProof.Rows L2
end Gx

/-! Own layer Xb: defs called where something is handled (warm); calls that may raise. -/
namespace Gx
open PySem PySem.Spec PyProof.Rows L2 L2H
theorem _root_.L2H.RoomH.units {k : Nat} {A : Around} (h : RoomH k A) : A.units + 64 < cLine := by have := h.un; omega
structure FnW (P : Program) (w : World) (K : PySem.W.Frag) (mg : Str → Option Value) (base : Heap) (CX : CXT) (k : Nat) (f : Addr) (fd : FuncData) (ps : List Str) (sp : Sp) : Prop where
  len : ∀ vs H Q E, sp vs H Q E → vs.length = ps.length
  run : ∀ (A : Around) (outer : List Env) (s : Shared) (H : Hp) (args : Args) (us : List Value) (vs : List V) (Q : VK) (E : XK), RoomH k A → Env0 P w K mg base A outer s H → BindsTo s fd args (ps.zip us) → Vals vs us → sp vs H Q E → codeAny (model P w) A (.call (.ref f) args) (CR CX outer P w H s Q E) s
structure DOkW (P : Program) (w : World) (K : PySem.W.Frag) (mg : Str → Option Value) (base : Heap) (d : He.DefD) (CX : CXT) (k : Nat) (ps : List Str) (sp : Sp) : Prop where
  ex : ∃ fd, FunD K d.name d.qual d.params d.body d.scope (d.dvs K) (d.kws K) (He.fAd K d.at_) fd ∧ FnW P w K mg base CX k (He.fAd K d.at_) fd ps sp
section
variable {X : Cx} {CX : CXT} {d : He.DefD} {k j : Nat} {ps : List Str} {sp : Sp} {x : Str} {p pos : Pos} {e : Expr} {es : List Expr} {t : TA}
end
end Gx

/-! Own layer Xc: calls of defs that may raise; what is wished for then may speak of the caller's slots. -/
namespace Gx
open PySem PySem.Spec PyProof.Rows L2
section
variable {X : Cx} {CXx : CXT} {d : He.DefD} {k j n : Nat} {f C : Addr} {fd : FuncData} {ps : List Str} {sp : Sp} {x : Str} {p pos apos : Pos} {e o : Expr} {es : List Expr} {t tk : TA} {ta : TE} {dv : List V} {E : L2.St → XK} {m : Str} {pl : Sem Bool} {kws : List Keyword} {ks : List Str} {gV : List V → List V → List V}
/-! f(e, ..) -/
/-! o.m(e, ..) -/
/-! C(e, ..) -/
end
end Gx

/-! Own layer Xd: isinstance and fields of a tracked exception; list.count, by values. -/
namespace Gx
open PySem PySem.Spec PyProof.Rows L2
structure XcC (K : PySem.W.Frag) (C : Addr) : Prop where
  e : ExcC K C
  cl : (PySem.W.clsIn K C).isSome = true
theorem XcC.kit {K : PySem.W.Frag} {C x : Addr} {oe : Obj} {od : Option Obj} (c : XcC K C) : PySem.W.KitX K (.ref x) (.ref C) fun h => PySem.W.InstAt h x oe C od := PySem.W.kitx_exc c.cl c.e.hg c.e.hk c.e.hs c.e.ha c.e.hn c.e.ht c.e.hm
/-! ### list.count -/
end Gx

/-! Own layer Xe: the simulation of calls that may raise, raise, try, isinstance of exceptions. -/
namespace Qx
open PySem PySem.Spec PyProof.Rows L2 Gx
def noXM {α : Type} (m : List PV → Sto → PR α) : List PV → Sto → PR α := fun ps O => noX (m ps O)
theorem RepX.mono {K : PySem.W.Frag} {ι ι' : List Addr} {G G' : Hp} {e : PExc} {c : Value} {d : Option Addr} (hp : Pre ι ι') (s : Same G G') (h : RepX K ι G e c d) : RepX K ι' G' e c d :=
  ⟨h.1, let ⟨xs, h1, h2, h3⟩ := h.2; ⟨xs, h1.mono s, h2, h3.mono hp s⟩⟩
section
variable {K : PySem.W.Frag} {E : XM} {e : L2.St → XK} {ta : TE} {fa : EF} {tA tZ : TA} {fA fZ : AF} {C m : Str} {mf : MF} {dps : List PV} {dvs : List V} {n k : Nat} {gP : List PV → List PV → List PV} {gV : List V → List V → List V}
/-! defs that do not raise, wherever they are called -/
/-! calls that may raise -/
/-! methods -/
end
/-! ### a def that may raise -/
/-! ### raise, try -/
def SR.noX : SR → SR
  | .exc _ _ _ => .bad
  | r => r
section
variable {K : PySem.W.Frag} {E : XM} {i : Nat} {cm : Str → Option Bool} {cV : Value} {fb fs : SF} {tb : WX → TS} {ts : TS} {Wout : WX}
end
end Qx

/-! Own layer Xf: new instances whose __init__ may raise; isinstance of exceptions; list.count, list.index; {}. -/
namespace Qx
open PySem PySem.Spec PyProof.Rows L2 Gx
section
variable {K : PySem.W.Frag} {C : Str} {E : XK} {ta : TE} {fa : EF} {tS uS : TS} {f g : BF}
end
section
variable {K : PySem.W.Frag} {E : XM} {e : L2.St → XK} {C : Str} {tA tZ : TA} {fA fZ : AF} {m : List PV → Sto → PR (List Str × List PV)} {dps : List PV} {dvs : List V} {n k : Nat} {gP : List PV → List PV → List PV} {gV : List V → List V → List V} {mf : MF}
/-! things that change -/
end
end Qx

/-! Own layer Xg: what the head tells of exception classes; isinstance; count, index; {}. -/
namespace Qx
open PySem PySem.Spec PyProof.Rows L2 Gx
structure XcF (K : PySem.W.Frag) (C : Str) : Prop where
  c : XcC K (He.ga K C)
  kp : PySem.W.keepIn K (.ref (He.ga K C)) = true
  ty : PySem.W.typeIn K (.ref (He.ga K C)) = some (.type "type")
theorem XcF.of {K : PySem.W.Frag} {C : Str} (h : xcOne K C = true) : XcF K C := by
  unfold xcOne at h
  obtain ⟨h1, h⟩ := Bool.and_eq_true_iff.mp h
  obtain ⟨h2, h⟩ := Bool.and_eq_true_iff.mp h
  obtain ⟨h3, h⟩ := Bool.and_eq_true_iff.mp h
  obtain ⟨h4, h⟩ := Bool.and_eq_true_iff.mp h
  obtain ⟨h5, h⟩ := Bool.and_eq_true_iff.mp h
  obtain ⟨h6, h⟩ := Bool.and_eq_true_iff.mp h
  obtain ⟨h7, h⟩ := Bool.and_eq_true_iff.mp h
  obtain ⟨h8, h⟩ := Bool.and_eq_true_iff.mp h
  obtain ⟨h9, h10⟩ := Bool.and_eq_true_iff.mp h
  refine ⟨⟨⟨He.eqO_ok h1, He.eqO_ok h2, of_decide_eq_true h3, h4, He.eqO_ok h5, He.eqO_ok h6, of_decide_eq_true h7, of_decide_eq_true h8⟩, ?_⟩, h9, of_decide_eq_true h10⟩
  unfold PySem.W.hasDictIn at h4
  cases q : PySem.W.clsIn K (He.ga K C) with
  | none => rw [q] at h4; cases h4
  | some _ => rfl
theorem XcF.raises {X : Cx} {C : Str} (h : XcF X.K C) : Raises X (.ref (He.ga X.K C)) := raises_own h.c.e.hs h.ty
structure XkK (K : PySem.W.Frag) (xt : List (Str × List XN)) (xa xm : List XN) : Prop where
  c : ∀ w ∈ xt, XcF K w.1
  kit : ∀ w ∈ xt, ∀ q ∈ xa, PySem.W.kitOne K (.ref (He.ga K w.1)) (xv K q) = some (decide (q ∈ w.2))
  exm : ∀ w ∈ xt, ∀ q ∈ xm, PySem.W.exmOne K (.ref (He.ga K w.1)) (xv K q) = some (decide (q ∈ w.2))
  non : ∀ q ∈ xa, PySem.W.kitOne K (.type "NoneType") (xv K q) = some false
theorem XkK.of {K : PySem.W.Frag} {xt : List (Str × List XN)} {xa xm : List XN} (h : xkAll K xt xa xm = true) : XkK K xt xa xm := by
  unfold xkAll at h
  obtain ⟨h1, h2⟩ := Bool.and_eq_true_iff.mp h
  have one : ∀ w ∈ xt, xkOne K xa xm w = true := fun w hw => List.all_eq_true.mp h1 w hw
  refine ⟨fun w hw => ?_, fun w hw q hq => ?_, fun w hw q hq => ?_, fun q hq => of_decide_eq_true (List.all_eq_true.mp h2 q hq)⟩
  · have o := one w hw
    unfold xkOne at o
    exact XcF.of (Bool.and_eq_true_iff.mp o).1
  · have o := one w hw
    unfold xkOne at o
    exact of_decide_eq_true (List.all_eq_true.mp (Bool.and_eq_true_iff.mp (Bool.and_eq_true_iff.mp o).2).1 q hq)
  · have o := one w hw
    unfold xkOne at o
    exact of_decide_eq_true (List.all_eq_true.mp (Bool.and_eq_true_iff.mp (Bool.and_eq_true_iff.mp o).2).2 q hq)
def cmX (xt : List (Str × List XN)) (q : XN) (C : Str) : Option Bool := (xt.lookup C).map fun l => decide (q ∈ l)
theorem lookup_mem {α : Type} {C : Str} {l : α} : ∀ {xt : List (Str × α)}, xt.lookup C = some l → (C, l) ∈ xt
  | [], h => by cases h
  | (D, m) :: xt, h => by
    rw [List.lookup_cons] at h
    by_cases c : C = D
    · subst c
      simp only [beq_self_eq_true] at h
      cases h
      exact List.mem_cons_self
    · have q : (C == D) = false := by simpa using c
      simp only [q] at h
      exact List.mem_cons_of_mem _ (lookup_mem h)
theorem XkK.cm {K : PySem.W.Frag} {xt : List (Str × List XN)} {xa xm : List XN} {q : XN} (k : XkK K xt xa xm) (hq : q ∈ xm) : ∀ C b, cmX xt q C = some b → PySem.W.exmOne K (.ref (He.ga K C)) (xv K q) = some b := fun C b h => by
  unfold cmX at h
  obtain ⟨l, h1, h2⟩ := Option.map_eq_some_iff.mp h
  rw [← h2]
  exact k.exm _ (lookup_mem h1) q hq
/-! isinstance -/
/-! isinstance(x, (A, B, ..)) -/
end Qx

/-! Own layer Xh: isinstance with a tuple of classes; fields of exceptions; count, index; {}. -/
namespace Qx
open PySem PySem.Spec PyProof.Rows L2 Gx
/-! ### list.count, list.index -/
/-! ### {} -/
def eDic0 : EF := fun _ O => .ok (.dic [] []) O
def eDic0O : EF := fun _ O => .ok (.loc O.length) (O ++ [some (.dic [] [])])
theorem sim_dic0O {K : PySem.W.Frag} {E : XM} : SimE K E tDNewK eDic0O := fun R ι O H σ s Q S L h p hp => by
  obtain ⟨S2, X2⟩ := S.newO (p := .dic [] []) hp (o := .dK []) ⟨[], rfl, rfl, rfl⟩
  exact h.at S2 X2 ⟨p, rfl, new_at S.len⟩
/-! ### xs[i] of a list or a tuple -/
/-! ### xs * k -/
def repL (p q : PV) (O : Sto) : PR PV := match lstT O p, q with
  | some ps, .int k => if (decide (-(2 ^ 63) ≤ k ∧ k < 2 ^ 63) && szOk (ps.length * k.toNat)) = true then .ok (.lst (List.replicate k.toNat ps).flatten) O else .bad
  | _, _ => .bad
theorem RepL.rep {K : PySem.W.Frag} {ι : List Addr} {G : Hp} {ps : List PV} {xs : List V} (h : RepL K ι G ps xs) : ∀ k : Nat, RepL K ι G (List.replicate k ps).flatten (List.replicate k xs).flatten
  | 0 => rfl
  | k + 1 => by
    rw [List.replicate_succ, List.replicate_succ, List.flatten_cons, List.flatten_cons]
    exact h.app (RepL.rep h k)
/-! ### e.f of an exception -/
structure XfK (K : PySem.W.Frag) (xf : List (Str × Str)) : Prop where
  c : ∀ w ∈ xf, XcF K w.1
  no : ∀ w ∈ xf, PySem.W.findIn K (.ref (He.ga K w.1)) w.2 = some none
end Qx

/-! Own: t[::-1] of a tuple; t[i:j] that is all of t. -/
namespace Zy
open PySem PySem.Spec PyProof.Rows L2 HT
section
variable {prog : Program} {w : World} {A : Around} {E : Value → Shared → Prop} {s : Shared}
end
end Zy

/-! Own layer Xi: exceptions whose own __init__ calls the one of an own class over ValueError and keeps one field. -/
namespace Qx
open PySem PySem.Spec PyProof.Rows L2 Gx
section
variable {X : Cx} {e : Expr} {es : List Expr} {ta : TA} {x : Str} {p1 p2 pos : Pos} {B : Addr}
end
/-! what the head tells of them -/
structure ClI (K : PySem.W.Frag) (B : Addr) : Prop where
  rd : PySem.W.readsIn K B (.type "type") = true
  ga : PySem.W.specialIn K (.ref B) "__getattribute__" = some (some (.builtin "type.__getattribute__"))
  vV : PySem.W.findCls K (.ref B) (.type "type") "__init__" = some (.val (.builtin "ValueError.__init__"))
structure XiC (K : PySem.W.Frag) (C B : Str) (f : Str) : Prop where
  o : OexC K (He.ga K C)
  no : PySem.W.findIn K (.ref (He.ga K C)) f = some none
  b : ClI K (He.ga K B)
/-! ### raise C(e) -/
/-! ### t[::-1] -/
/-! ### t + u, t[a:b], empty ones too -/
/-! ### the Hook that tells of the interpreter's own statics too -/
end Qx

/-! Own layer Xj: str, repr and f-strings of own instances. -/
namespace Gx
open PySem PySem.Spec PyProof.Rows L2
section
variable {X : Cx} {k j : Nat} {ps : List Str} {sp : Sp} {d : He.DefD} {C : Addr}
end
end Gx
namespace Qx
open PySem PySem.Spec PyProof.Rows L2 Gx
section
variable {K : PySem.W.Frag} {C : Str} {mf : MF} {E : XM} {te : TE} {fa : EF}
def otxtP (C : Str) (m : MF) (ps : List PV) (O : Sto) : PR PV := match ps with
  | [p] => if insIs O C p = true then (noX (m [p] O)).bind fun r O1 => match r with
    | .str z => .ok (.str z) O1
    | _ => .bad else .bad
  | _ => .bad
def eFmtO (C : Str) (m : MF) (fa : EF) : EF := fun s O => (fa s O).bind fun p O1 => otxtP C m [p] O1
def eFmt (fa : EF) : EF := fun s O => (fa s O).bind fun p O1 => match p with
  | .str z => if z.length ≤ sizeLine then .ok (.str z) O1 else .bad
  | .int i => if i.natAbs.log2 < 1920 then .ok (.str (toString i)) O1 else .bad
  | _ => .bad
noncomputable def jsP : List EF → Str → Slots → Sto → PR Str
  | [], acc, _, O => .ok acc O
  | f :: fs, acc, s, O => (f s O).bind fun p O1 => match p with
    | .str y => if (acc ++ y).length ≤ sizeLine then jsP fs (acc ++ y) s O1 else .bad
    | _ => .bad
noncomputable def eJs (fs : List EF) : EF := fun s O => (jsP fs Str.empty s O).bind fun z O1 => .ok (.str z) O1
inductive SimJs (K : PySem.W.Frag) (E : XM) : List TE → List EF → Prop
  | nil : SimJs K E [] []
  | cons {t : TE} {f : EF} {ts : List TE} {fs : List EF} (h : SimE K E t f) (r : SimJs K E ts fs) : SimJs K E (t :: ts) (f :: fs)
end
end Qx

/-! Own layer Xk: bool of an own instance with a __len__; {x!r} of an own instance. -/
namespace PySem.W
open PySem PySem.Spec PySem.Calls PyProof.Rows
section
variable {prog : Program} {w : World} {A : Around} {E : Value → Shared → Prop} {s : Shared} {K : Frag} {x C f : Addr} {ox : Obj} {od : Option Obj}
end
end PySem.W
namespace Gx
open PySem PySem.Spec PyProof.Rows L2
section
variable {X : Cx} {k j : Nat} {ps : List Str} {sp : Sp} {d : He.DefD} {C : Addr}
end
end Gx
namespace Qx
open PySem PySem.Spec PyProof.Rows L2 Gx
section
variable {K : PySem.W.Frag} {C : Str} {mf : MF} {E : XM} {te : TE} {fa : EF}
def oboolP (C : Str) (m : MF) (ps : List PV) (O : Sto) : PR PV := match ps with
  | [p] => if insIs O C p = true then (noX (m [p] O)).bind fun r O1 => match r with
    | .int n => if (decide (0 ≤ n) && decide (n < 2 ^ 63)) = true then .ok (.bl (n != 0)) O1 else .bad
    | _ => .bad else .bad
  | _ => .bad
end
end Qx

/-! Own layer Xl: == of an own instance and any thing. -/
namespace Gx
open PySem PySem.Spec PyProof.Rows L2
section
variable {X : Cx} {k j : Nat} {ps : List Str} {sp : Sp} {d : He.DefD} {C : Addr}
end
end Gx
namespace Qx
open PySem PySem.Spec PyProof.Rows L2 Gx
section
variable {K : PySem.W.Frag} {cs : List Str} {C : Str} {mf : MF}
structure NfK (K : PySem.W.Frag) (cs : List Str) : Prop where
  t : ∀ C ∈ cs, ∀ T ∈ KT, PySem.W.notFirst K (He.ga K C) (.type T) = true
  c : ∀ C ∈ cs, ∀ D ∈ cs, PySem.W.notFirst K (He.ga K C) (.ref (He.ga K D)) = true
theorem NfK.of (h : nfAll K cs = true) : NfK K cs := by
  have one := fun C (hC : C ∈ cs) => Bool.and_eq_true_iff.mp (List.all_eq_true.mp h C hC)
  exact ⟨fun C hC T hT => List.all_eq_true.mp (one C hC).1 T hT, fun C hC D hD => List.all_eq_true.mp (one C hC).2 D hD⟩
def tyIn (cs : List Str) : Sum String Str → Bool
  | .inl a => KT.contains a
  | .inr D => cs.contains D
def oeqA (cs : List Str) (C : Str) (m : MF) (p q : PV) (O : Sto) : PR PV := match tyOf O q with
  | some t => if (insIs O C p && (tyIn cs t && cs.contains C)) = true then boolR false (m [p, q] O) else .bad
  | none => .bad
def oneA (cs : List Str) (C : Str) (m : MF) (p q : PV) (O : Sto) : PR PV := match tyOf O q with
  | some t => if (insIs O C p && (tyIn cs t && cs.contains C)) = true then boolR true (m [p, q] O) else .bad
  | none => .bad
end
end Qx

/-! Own layer Xm: str of texts and numbers; facts of own classes that show themselves. -/
namespace Qx
open PySem PySem.Spec PyProof.Rows L2 Gx
section
variable {K : PySem.W.Frag}
def bStrS := b1 fun p O => match p with
  | .str z => .ok (.str z) O
  | _ => .bad
def bStrI := b1 fun p O => match p with
  | .int i => if i.natAbs.log2 < 1920 then .ok (.str (toString i)) O else .bad
  | _ => .bad
structure ShK (K : PySem.W.Frag) (cs : List Str) : Prop where
  nb : ∀ C ∈ cs, PySem.W.findIn K (.ref (He.ga K C)) "__bool__" = some none
  fm : ∀ C ∈ cs, PySem.W.findIn K (.ref (He.ga K C)) "__format__" = some (some (.builtin "object.__format__"))
theorem ShK.of {cs : List Str} (h : shB K cs = true) : ShK K cs := by
  have one := fun C (hC : C ∈ cs) => Bool.and_eq_true_iff.mp (List.all_eq_true.mp h C hC)
  exact ⟨fun C hC => He.eqO_ok (one C hC).1, fun C hC => He.eqO_ok (one C hC).2⟩
end
end Qx

/-! Own layer Xn: x in a list whose items are compared by an own ==. -/
namespace GQ
open PySem PySem.SeqAt
open AutoSeq1 (wpAny_loadPart')
open MeetsSeq MeetsSeq2 MeetsSeq3 SeqRoads2
section
variable {prog : Program} {w : World} {A : Around} {R : Result → Shared → Prop}
end
section
variable {prog : Program} {w : World} {A : Around} {E : Value → Shared → Prop} {s : Shared}
end
end GQ
namespace HN
open PySem PySem.Spec PyProof.Rows PySem.SeqAt
section
variable {M : Model} {prog : Program} {w : World} {A : Around} {E : Value → Shared → Prop} {s : Shared} {K : PySem.W.Frag} {x C f : Addr} {ox : Obj} {od : Option Obj}
end
end HN

/-! Own layer Xo: x in a list of None and own instances, x an own instance, by its own ==. -/
namespace GQ
open PySem PySem.SeqAt
open AutoSeq1 (wpAny_loadPart')
open MeetsSeq MeetsSeq2 MeetsSeq3 SeqRoads2
section
variable {prog : Program} {w : World} {A : Around} {E : Value → Shared → Prop} {s : Shared}
end
end GQ
namespace Gx
open PySem PySem.Spec PyProof.Rows L2
section
variable {X : Cx} {k j : Nat} {ps : List Str} {sp : Sp} {d : He.DefD} {C : Addr}
end
end Gx
namespace Qx
open PySem PySem.Spec PyProof.Rows L2 Gx
section
variable {K : PySem.W.Frag} {cs : List Str} {C : Str} {mf : MF}
def fldsD : List PV → List PV → Prop
  | p :: ps, q :: qs => (∃ v w, scV p = some v ∧ scV q = some w ∧ v ≠ w) ∨ fldsD ps qs
  | _, _ => False
def sureD (O : Sto) : PV → PV → Prop
  | .ins _ ns ps, .ins _ ns' ps' => ns = ns' ∧ fldsD ps ps'
  | .loc n, .loc m => n ≠ m ∧ (∃ p, O[n]? = some (some p)) ∧ ∃ p, O[m]? = some (some p)
  | _, _ => False
theorem ClsK.inj (ck : ClsK K cs) (C : Str) (hC : C ∈ cs) : ∀ D ∈ cs, He.ga K D = He.ga K C → D = C := fun D hD e => by
  apply Classical.byContradiction
  intro hne
  have h := ck.cc D hD C hC hne
  rw [e] at h
  unfold PySem.W.kitOne at h
  rw [if_pos (by simp)] at h
  cases h
def okT (cs : List Str) (C : Str) (O : Sto) (p : PV) : Bool := match tyOf O p with
  | some t => tyIn cs t && cs.contains C
  | none => false
def sureN (C : Str) (O : Sto) (q p : PV) : Prop := tyOf O p ≠ some (.inr C) ∨ sureD O q p
open Classical in
/-- x in a list of None and own things; only where == changes nothing -/
noncomputable def inOP (cs : List Str) (C : Str) (m : MF) (neg : Bool) (p : PV) : List PV → Sto → PR PV
  | [], O => .ok (.bl neg) O
  | q :: qs, O =>
    if q = .non then (if insIs O C p = true ∧ m [p, q] O = .ok (.bl false) O then inOP cs C m neg p qs O else .bad)
    else if (okT cs C O p = true ∧ insIs O C q = true) ∧ m [q, p] O = .ok (.bl true) O then .ok (.bl (!neg)) O
    else if (okT cs C O p = true ∧ insIs O C q = true) ∧ m [q, p] O = .ok (.bl false) O ∧ sureN C O q p then inOP cs C m neg p qs O
    else .bad
noncomputable def inOL (cs : List Str) (C : Str) (m : MF) (neg : Bool) (p l : PV) (O : Sto) : PR PV := match l with
  | .lst qs => inOP cs C m neg p qs O
  | .rol qs => inOP cs C m neg p qs O
  | _ => .bad
end
end Qx

/-! Own layer Xp: texts: +, *, <, in, items, slices, len, for, methods. -/
namespace Gx
open PySem PySem.Spec PyProof.Rows L2
section
variable {X : Cx}
def mulOkS (z : Str) (i : Int) : Bool := decide (-(2 ^ 40) < i ∧ i < 2 ^ 40 ∧ z.length * i.toNat ≤ 1000000)
end
end Gx
namespace Qx
open PySem PySem.Spec PyProof.Rows L2 Gx
section
variable {K : PySem.W.Frag} {E : XM} {te : TE} {fa : EF} {to : TE} {fo : EF} {tA : TA} {fA : AF} {r : V → List V → Hp → VK → Prop} {f : PV → List PV → Sto → PR PV}
def zOk (n : Nat) : Bool := decide (n ≤ sizeLine)
def s2 (c : Str → Str → Bool) (g : Str → Str → PV) (p q : PV) (O : Sto) : PR PV := match p, q with
  | .str i, .str j => if c i j = true then .ok (g i j) O else .bad
  | _, _ => .bad
def addS := s2 (fun i j => zOk (i.length + j.length)) fun i j => .str (i ++ j)
def repS (p q : PV) (O : Sto) : PR PV := match p, q with
  | .str z, .int i => if mulOkS z i = true then .ok (.str (Txt.mul z i)) O else .bad
  | _, _ => .bad
/-! for over a text -/
/-! methods of texts -/
def isStr : PV → Bool
  | .str _ => true
  | _ => false
def eBms (f : PV → List PV → Sto → PR PV) (o : EF) (a : AF) : EF := fun s O => (o s O).bind fun p O1 => if isStr p = true then (a s O1).bind fun ps O2 => f p ps O2 else .bad
def eBms0 (f : PV → List PV → Sto → PR PV) (o : EF) : EF := fun s O => (o s O).bind fun p O1 => if isStr p = true then f p [] O1 else .bad
def joinP (p : PV) (qs : List PV) (O : Sto) : PR PV := match p, qs with
  | .str a, [l] => match (seqOf O l).bind strsOf with
    | some ys => if decide ((ys.map (·.length)).sum + ys.length * a.length ≤ 16777216) = true then .ok (.str (Txt.join a ys)) O else .bad
    | none => .bad
  | _, _ => .bad
end
end Qx

/-! Own layer Xq: constants of the module (tuples, dicts of defs), calls of a name that holds one of several defs, while. -/
namespace Qx
open PySem PySem.Spec PyProof.Rows L2 Gx
mutual
def KV.pv : KV → PV
  | .non => .non
  | .bl b => .bl b
  | .int i => .int i
  | .str z => .str z
  | .tup l => .tup (KV.pvs l)
  | .fn C => .cls C
def KV.pvs : List KV → List PV
  | [] => []
  | k :: ks => k.pv :: KV.pvs ks
end
section
variable {K : PySem.W.Frag}
mutual
theorem kRep_ok : ∀ (k : KV) (u : Value), kRep K k u = true → ∃ v, RelV v u ∧ ∀ ι G, Rep K ι G k.pv v
  | .non, u, h => by
    cases u <;> first | exact ⟨.non, rfl, fun _ _ => rfl⟩ | simp [kRep] at h
  | .bl b, u, h => by
    cases u <;> first | (simp only [kRep, beq_iff_eq] at h; subst h; exact ⟨.bl _, rfl, fun _ _ => rfl⟩) | simp [kRep] at h
  | .int i, u, h => by
    cases u <;> first | (simp only [kRep, decide_eq_true_eq] at h; subst h; exact ⟨.int _, ⟨_, rfl⟩, fun _ _ => rfl⟩) | simp [kRep] at h
  | .str z, u, h => by
    cases u <;> first | (simp only [kRep, decide_eq_true_eq] at h; subst h; exact ⟨.str _, ⟨_, rfl⟩, fun _ _ => rfl⟩) | simp [kRep] at h
  | .fn C, u, h => by
    cases u <;> first | (simp only [kRep, decide_eq_true_eq] at h; subst h; exact ⟨.ref _, rfl, fun _ _ => rfl⟩) | simp [kRep] at h
  | .tup l, u, h => by
    cases u with
    | ref a =>
      unfold kRep at h
      cases e : K.lookup a with
      | none => rw [e] at h; cases h
      | some o =>
        rw [e] at h
        obtain ⟨oc, od, dt, sl⟩ := o
        cases oc <;> try cases h
        cases dt <;> try cases h
        rename_i c its n
        simp only at h
        obtain ⟨h1, h2⟩ := Bool.and_eq_true_iff.mp h
        obtain ⟨h2, h3⟩ := Bool.and_eq_true_iff.mp h2
        have h1 := of_decide_eq_true h1
        subst h1
        obtain ⟨xs, r, hx⟩ := kRepL_ok l its.toList h3
        exact ⟨.ref a, rfl, fun ι G => ⟨a, xs, rfl, .inr ⟨_, its, n, e, rfl, rfl, of_decide_eq_true h2, r⟩, hx ι G⟩⟩
    | _ => simp [kRep] at h
theorem kRepL_ok : ∀ (l : List KV) (us : List Value), kRepL K l us = true → ∃ xs, Vals xs us ∧ ∀ ι G, RepL K ι G (KV.pvs l) xs
  | [], us, h => by
    cases us with
    | nil => exact ⟨[], .nil, fun _ _ => rfl⟩
    | cons u us => simp [kRepL] at h
  | k :: ks, us, h => by
    cases us with
    | nil => simp [kRepL] at h
    | cons u us =>
      unfold kRepL at h
      obtain ⟨h1, h2⟩ := Bool.and_eq_true_iff.mp h
      obtain ⟨v, r1, q1⟩ := kRep_ok k u h1
      obtain ⟨xs, r2, q2⟩ := kRepL_ok ks us h2
      exact ⟨v :: xs, .cons r1 r2, fun ι G => .consR (q1 ι G) (q2 ι G)⟩
end
/-! a dict of the module, with text keys -/
structure KdF (K : PySem.W.Frag) (w : World) (T : Str) (kvs : List (Str × PV)) : Prop where
  d : ∃ es n, KDict K w (He.ga K T) es n
  yes : ∀ k p, kvs.lookup k = some p → ∃ u v, PySem.W.nsIn K (He.ga K T) k = some (some u) ∧ RelV v u ∧ ∀ ι G, Rep K ι G p v
  no : ∀ z, kvs.lookup z = none → PySem.W.nsIn K (He.ga K T) z = some none
theorem nsIn_no {w : World} {a : Addr} {ks : List Str} {z : Str} (h : He.dicW K a = some (He.keysIn w.params ks)) (hz : z ∉ ks) : PySem.W.nsIn K a z = some none := by
  unfold He.dicW at h
  unfold PySem.W.nsIn
  cases e : K.lookup a with
  | none => rw [e] at h; cases h
  | some o =>
    rw [e] at h
    obtain ⟨oc, od, dt, sl⟩ := o
    cases oc <;> try cases h
    cases od <;> try cases h
    cases dt <;> try cases h
    rename_i c es n
    simp only at h ⊢
    split at h
    · have h := Option.some.inj h
      have key : ∀ x ∈ es.toList, ∃ k t, x.key = .str k t ∧ k ∈ ks := fun x hx => by
        have hm : He.keyOf x ∈ He.keysIn w.params ks := by rw [← h]; exact List.mem_map_of_mem hx
        obtain ⟨k, hk, ek⟩ := List.mem_map.mp hm
        unfold He.keyOf at ek
        split at ek
        · rename_i y t q
          have e2 := (Prod.mk.inj (Option.some.inj ek)).1
          exact ⟨y, t, q, by rw [← e2]; exact hk⟩
        · cases ek
      have e1 : es.toList.find? (fun x => x.key.isStr z) = none := by
        rw [List.find?_eq_none]
        intro x hx
        obtain ⟨k, t, q, hk⟩ := key x hx
        rw [q]
        intro hh
        have : k = z := by
          have := hh
          simp only [Value.isStr, beq_iff_eq] at this
          exact this
        exact hz (this ▸ hk)
      have e2 : es.toList.any (fun x => x.refKey) = false := by
        rw [List.any_eq_false]
        intro x hx
        obtain ⟨k, t, q, hk⟩ := key x hx
        unfold DictEntry.refKey
        rw [q]
        exact Bool.false_ne_true
      rw [e1, e2]
      rfl
    · cases h
theorem lookup_no {α : Type} {k : Str} : ∀ {l : List (Str × α)}, l.lookup k = none → k ∉ l.map (·.1)
  | [], _ => by simp
  | (c, q) :: l, h => by
    rw [List.lookup_cons] at h
    split at h
    · cases h
    · rename_i e
      intro hm
      rcases List.mem_cons.mp hm with rfl | hm
      · simp at e
      · exact lookup_no h hm
theorem lookup_map {α β : Type} {f : α → β} {k : Str} : ∀ {l : List (Str × α)}, (l.map fun q => (q.1, f q.2)).lookup k = (l.lookup k).map f
  | [] => rfl
  | (c, q) :: l => by
    simp only [List.map_cons, List.lookup_cons]
    cases k == c with
    | true => rfl
    | false => exact lookup_map
theorem KdF.of {w : World} {T : Str} {ks : List Str} {kvs : List (Str × KV)} {pvs : List (Str × PV)} (h : He.dicW K (He.ga K T) = some (He.keysIn w.params ks)) (b : kdB K T kvs = true) (e : kvs.map (·.1) = ks) (e2 : (kvs.map fun q => (q.1, q.2.pv)) = pvs) : KdF K w T pvs := by
  subst e
  subst e2
  refine ⟨He.dicW_ok h, fun k p hk => ?_, fun z hz => ?_⟩
  · rw [lookup_map] at hk
    obtain ⟨kv, h1, h2⟩ := Option.map_eq_some_iff.mp hk
    subst h2
    have hb := List.all_eq_true.mp b _ (lookup_mem h1)
    simp only at hb
    split at hb
    · rename_i u eu
      obtain ⟨v, r, q⟩ := kRep_ok kv u hb
      exact ⟨u, v, eu, r, q⟩
    · cases hb
  · rw [lookup_map, Option.map_eq_none_iff] at hz
    exact nsIn_no h (lookup_no hz)
end
/-! membership, items -/
section
variable {K : PySem.W.Frag} {w : World} {T : Str} {kvs : List (Str × PV)}
end
/-! a call of a name that holds one of several defs -/
end Qx
namespace Gx
open PySem PySem.Spec PyProof.Rows L2
section
variable {X : Cx} {i k j : Nat} {x : Str} {p pos : Pos} {e : Expr} {es : List Expr} {t : TA} {S : Addr → Sp → Prop}
end
end Gx
namespace Qx
open PySem PySem.Spec PyProof.Rows L2 Gx
section
variable {K : PySem.W.Frag} {E : XM} {tA : TA} {fA : AF} {i : Nat}
end
/-! while -/
section
variable {K : PySem.W.Frag} {E : XM} {tc : TT} {c : TF} {tb : TS} {b : SF}
end
end Qx

/-! Own layer Xr: x in a tuple of own things; x in a list or tuple of data. -/
namespace GQ
open PySem PySem.SeqAt
open AutoSeq1 (wpAny_loadPart')
open MeetsSeq MeetsSeq2 MeetsSeq3 SeqRoads2
section
variable {prog : Program} {w : World} {A : Around} {R : Result → Shared → Prop}
end
section
variable {prog : Program} {w : World} {A : Around} {E : Value → Shared → Prop} {s : Shared}
end
end GQ
namespace Gx
open PySem PySem.Spec PyProof.Rows L2
section
variable {X : Cx} {k j : Nat} {ps : List Str} {sp : Sp} {d : He.DefD} {C : Addr}
/-! data in a list or tuple of data -/
end
end Gx
namespace Qx
open PySem PySem.Spec PyProof.Rows L2 Gx
section
variable {K : PySem.W.Frag} {cs : List Str} {C : Str} {mf : MF}
/-! data -/
end
end Qx

/-! Own layer Xs: what is walked may be a list or a tuple; sorted(list of pairs of whole numbers). -/
namespace Gx
open PySem PySem.Spec PyProof.Rows L2
section
variable {X : Cx} {tg : Expr}
/-! sorted -/
def leP (p q : Int × Int) : Bool := decide (p.1 < q.1 ∨ (p.1 = q.1 ∧ p.2 ≤ q.2))
/-! xs[::-1] of a list -/
end
end Gx
namespace Qx
open PySem PySem.Spec PyProof.Rows L2 Gx
section
variable {K : PySem.W.Frag} {E : XM} {te : TE} {fe : EF}
/-! ### what is walked: a list or a tuple -/
def iA (f : EF) : IF := fun s O => (f s O).bind fun p O1 => match tupOf p with
  | some ps => .ok (ps, none) O1
  | none => match p with
    | .lst ps => .ok (ps, none) O1
    | .rol ps => .ok (ps, none) O1
    | .loc n => match O1[n]? with
      | some (some (.lst ps)) => .ok (ps, some (n, ps)) O1
      | _ => .bad
    | _ => .bad
/-! ### sorted(pairs) -/
def prOf : PV → Option (Int × Int)
  | .tup [.int i, .int j] => some (i, j)
  | _ => none
def prsOf : List PV → Option (List (Int × Int))
  | [] => some []
  | p :: ps => match prOf p, prsOf ps with
    | some z, some zs => some (z :: zs)
    | _, _ => none
def prP (z : Int × Int) : PV := .tup [.int z.1, .int z.2]
def bSort2 := b1 fun p O => match lstOf O p with
  | some ps => match prsOf ps with
    | some zs => .ok (.lst ((zs.mergeSort leP).map prP)) O
    | none => .bad
  | none => .bad
/-! ### xs[::-1] of a list -/
/-! ### a is b, a is not b of truths -/
def isB (p q : PV) (O : Sto) : PR PV := match p, q with
  | .bl a, .bl b => .ok (.bl (decide (a = b))) O
  | _, _ => .bad
def notB (p q : PV) (O : Sto) : PR PV := match p, q with
  | .bl a, .bl b => .ok (.bl (!decide (a = b))) O
  | _, _ => .bad
/-! ### C(.., f=e) where C's instances may change -/
def eMakeKO (C : Str) (m : MF) (n k : Nat) (gP : List PV → List PV → List PV) (a z : AF) : EF := fun s O => (a s O).bind fun ps O1 => (z s O1).bind fun zs O2 => if ps.length = n ∧ zs.length = k then
  (noX (m (.loc O2.length :: gP ps zs) (O2 ++ [some (.ins C [] [])]))).bind fun r O3 => match r with
  | .non => .ok (.loc O2.length) O3
  | _ => .bad else .bad
/-! ### list(range(..)) -/
end
end Qx

/-! Own layer Xt: several except clauses, each of one class or a tuple of two, the exception tracked from then on. -/
namespace Gx
open PySem PySem.Spec PyProof.Rows L2
def TestOk (X : Cx) (t : Expr) (cs : List Value) : Prop := ∀ (a : Addr) (pn : List (Addr × Obj)) (σ : L2.St) (H : Hp) (s : Shared) (cls : Value) (b : Bool) (E : Value → Shared → Prop) (Q : Bool → Shared → Prop), Inv (X.suite a pn) [] σ H s →
  PySem.W.Looks (model X.prog X.w) s.heap (typeOf (.ref a)) cls → PySem.W.exmAny X.K cls cs = some b → (∀ h', (∀ q o, s.heap.get? q = some o → h'.get? q = some o) → Q b { s with heap := h' }) →
  wpAny (model X.prog X.w) (X.A.mark (some (.ref a))) (eval t X.env) (fun c s₁ => wpAny (model X.prog X.w) (X.A.mark (some (.ref a))) (excMatches (.ref a) c) Q E s₁) E s
section
variable {X : Cx}
inductive HdT (X : Cx) : List ExceptHandler → List (List Value × Nat × TS) → Prop
  | nil : HdT X [] []
  | cons {t : Expr} {n : Str} {i : Nat} {b₀ : Stmt} {suite : List Stmt} {pos' : Pos} {cs : List Value} {ts : TS} {hds : List ExceptHandler} {l : List (List Value × Nat × TS)} (ht : TestOk X t cs) (hi : X.N[i]? = some n) (hln : X.env.kindOf n = some .local)
      (hsu : ∀ (a : Addr) (pn : List (Addr × Obj)), PSs (X.suite a pn) (b₀ :: suite) ts) (r : HdT X hds l) : HdT X (.ExceptHandler (some t) (some n) (b₀ :: suite) pos' :: hds) ((cs, i, ts) :: l)
end
end Gx
namespace Qx
open PySem PySem.Spec PyProof.Rows L2 Gx
/-! ### try with several clauses -/
section
variable {K : PySem.W.Frag} {E : XM} {fb : SF} {tb : WX → TS} {Wout : WX}
inductive SimH (K : PySem.W.Frag) : List (List Value × Nat × TS) → List (Nat × (Str → Option Bool) × SF) → Prop
  | nil : SimH K [] []
  | cons {cs : List Value} {i : Nat} {ts : TS} {cm : Str → Option Bool} {fs : SF} {l : List (List Value × Nat × TS)} {hs : List (Nat × (Str → Option Bool) × SF)} (hcm : ∀ C b, cm C = some b → PySem.W.exmAny K (.ref (He.ga K C)) cs = some b) (hS : SimS K none ts fs) (r : SimH K l hs) : SimH K ((cs, i, ts) :: l) ((i, cm, fs) :: hs)
end
end Qx

/-! Own layer Xu: a call of a local name that holds one of several defs, some of which may raise. -/
namespace Gx
open PySem PySem.Spec PyProof.Rows L2
section
variable {X : Cx} {i k j : Nat} {x : Str} {p pos : Pos} {e : Expr} {es : List Expr} {t : TA} {S : Addr → Sp → Prop} {E : L2.St → XK}
end
end Gx
namespace Qx
open PySem PySem.Spec PyProof.Rows L2 Gx
section
variable {K : PySem.W.Frag} {E : XM} {tA : TA} {fA : AF} {i : Nat}
end
end Qx

/-! Own layer Xv: as Xi, for exceptions over LookupError or ArithmeticError. -/
namespace Qx
open PySem PySem.Spec PyProof.Rows L2 Gx
structure EbF (b : EB) : Prop where
  F : ExcBaseFacts b.B b.nw b.ini b.tail
  S : StoreFacts b.B b.tail "object.__setattr__" "object"
  h : PySem.W.handedIn (.builtin b.ini) = true
structure OexG (b : EB) (K : PySem.W.Frag) (C : Addr) : Prop where
  i : PySem.W.excInitIn K C b.tail b.nw = true
  v : PySem.W.excOver K C b.tail = true
  hd : PySem.W.hasDictIn K C = true
  sa : PySem.W.findIn K (.ref C) "__setattr__" = some (some (.builtin "object.__setattr__"))
  ex : PySem.W.subIn K (.ref C) (.type "BaseException") = some true
  ty : PySem.W.typeIn K (.ref C) = some (.type "type")
  kp : PySem.W.keepIn K (.ref C) = true
section
variable {b : EB} {X : Cx} {pins : List (Addr × Obj)} {σ : L2.St} {H : Hp} {s : Shared} {a C : Addr} {f : Str} {y : V} {u : Value} {Q : Unit → Shared → Prop} {E : Value → Shared → Prop} {A : Around}
end
section
variable {b : EB} {X : Cx} {e o : Expr} {es : List Expr} {to te : TE} {ta : TA} {x f : Str} {p p' p1 p2 pos : Pos} {B : Addr}
end
structure ClG (b : EB) (K : PySem.W.Frag) (B : Addr) : Prop where
  rd : PySem.W.readsIn K B (.type "type") = true
  ga : PySem.W.specialIn K (.ref B) "__getattribute__" = some (some (.builtin "type.__getattribute__"))
  vV : PySem.W.findCls K (.ref B) (.type "type") "__init__" = some (.val (.builtin b.ini))
structure XiG (b : EB) (K : PySem.W.Frag) (C B : Str) (f : Str) : Prop where
  o : OexG b K (He.ga K C)
  no : PySem.W.findIn K (.ref (He.ga K C)) f = some none
  b : ClG b K (He.ga K B)
/-! ### raise C(e) -/
end Qx

/-! Own layer Xw: int(text, 2); the place in a constant tuple of texts; defs that call themselves. -/
namespace PySem.W
open PySem PySem.Calls PySem.NumText PyProof.Rows
/-! ### int(text, 2) -/
end PySem.W

namespace Qx
open PySem PySem.Spec PyProof.Rows L2 Gx
/-! the hand layer's rule -/
section
variable {prog : Program} {w : World} {A : Around} {E : Value → Shared → Prop} {s : Shared}
end
section
variable {K : PySem.W.Frag}
end
/-! the place of a text in a constant tuple -/
/-! defs that call themselves -/
end Qx

namespace Qx
open PySem PySem.Spec PyProof.Rows L2
/-! min of four whole numbers -/
/-! the pure side -/
end Qx

/-! Own layer Ya: sorted of a list or a tuple of pairs of whole numbers. -/
namespace Gx
open PySem PySem.Spec PyProof.Rows L2
section
variable {prog : Program} {w : World} {A : Around} {E : Value → Shared → Prop} {s : Shared} {κ : PyProof.Rows.KeyKind}
variable {α : Type} {R : Value → α → Prop} {enc : α → PyData} {vs : List Value} {bs : List α}
end
section
variable {X : Cx}
end
end Gx
namespace Qx
open PySem PySem.Spec PyProof.Rows L2 Gx
section
variable {K : PySem.W.Frag}
end
end Qx

/-! Own layer Yb: the head's hook over addresses that are gathered with a mask of bits. -/
namespace Qx
open PySem PySem.Spec PyProof.Rows L2
/-! .. and tables of code objects: empty, not among what is held -/
end Qx

/-! Own layer Yc: dicts with whole numbers and texts as keys, frozen or changing. -/
namespace Qx
open PySem PySem.Spec PyProof.Rows L2 Gx
/-! ### the plain part -/
def kP : Key → PV
  | .inl i => .int i
  | .inr z => .str z
theorem keyP_kP (k : Key) : keyP (kP k) = some k := by cases k <;> rfl
theorem keyP_eq {p : PV} {k : Key} (h : keyP p = some k) : p = kP k := by
  cases p <;> first | (cases h; rfl) | cases h
abbrev Kvs := List (Key × PV)
def valP (kvs : Kvs) (k : Key) : Option PV := (kvs.find? fun kv => decide (kv.1 = k)).map (·.2)
def putP (kvs : Kvs) (k : Key) (v : PV) : Kvs := if (kvs.any fun kv => decide (kv.1 = k)) = true then kvs.map (fun kv => if kv.1 = k then (kv.1, v) else kv) else kvs ++ [(k, v)]
def dropP (kvs : Kvs) (k : Key) : Kvs := kvs.filter fun kv => decide (kv.1 ≠ k)
def toKv : List PV → List PV → Option Kvs
  | [], [] => some []
  | p :: ps, v :: vs => match keyP p, toKv ps vs with
    | some k, some r => some ((k, v) :: r)
    | _, _ => none
  | _, _ => none
def dicP (kvs : Kvs) : PV := .dic (kvs.map fun w => kP w.1) (kvs.map (·.2))
theorem toKv_dic : ∀ kvs : Kvs, toKv (kvs.map fun w => kP w.1) (kvs.map (·.2)) = some kvs
  | [] => rfl
  | (k, v) :: r => by
    simp only [List.map_cons]
    unfold toKv
    rw [keyP_kP, toKv_dic r]
theorem toKv_eq : ∀ {ks vs : List PV} {kvs : Kvs}, toKv ks vs = some kvs → ks = kvs.map (fun w => kP w.1) ∧ vs = kvs.map (·.2)
  | [], [], kvs, h => by cases h; exact ⟨rfl, rfl⟩
  | p :: ps, v :: vs, kvs, h => by
    unfold toKv at h
    cases e1 : keyP p with
    | none => simp [e1] at h
    | some k =>
      cases e2 : toKv ps vs with
      | none => simp [e1, e2] at h
      | some r =>
        simp only [e1, e2, Option.some.injEq] at h
        subst h
        obtain ⟨h1, h2⟩ := toKv_eq e2
        exact ⟨by rw [List.map_cons, ← h1, keyP_eq e1], by rw [List.map_cons, ← h2]⟩
  | [], _ :: _, _, h => by cases h
  | _ :: _, [], _, h => by cases h
def kvOf (O : Sto) : PV → Option Kvs
  | .dic ks vs => toKv ks vs
  | .loc n => match O[n]? with
    | some (some (.dic ks vs)) => toKv ks vs
    | _ => none
  | _ => none
theorem kv_loc {O : Sto} {n : Nat} {kvs : Kvs} (h : O[n]? = some (some (dicP kvs))) : kvOf O (.loc n) = some kvs := by
  simp only [kvOf, h, dicP]
  exact toKv_dic kvs
/-! ### entries in a heap -/
section
variable {K : PySem.W.Frag} {ι ι' : List Addr} {G G' : Hp}
def KvR (K : PySem.W.Frag) (ι : List Addr) (G : Hp) : Kvs → List (Key × V) → Prop
  | [], ws => ws = []
  | (k, p) :: r, ws => ∃ v t, ws = (k, v) :: t ∧ Rep K ι G p v ∧ KvR K ι G r t
theorem KvR.mono (hp : Pre ι ι') (e : Same G G') : ∀ {kvs : Kvs} {ws : List (Key × V)}, KvR K ι G kvs ws → KvR K ι' G' kvs ws
  | [], _, h => h
  | (k, p) :: r, ws, ⟨v, t, h1, h2, h3⟩ => ⟨v, t, h1, h2.mono hp e, KvR.mono hp e h3⟩
theorem KvR.len : ∀ {kvs : Kvs} {ws : List (Key × V)}, KvR K ι G kvs ws → ws.length = kvs.length
  | [], _, h => by rw [show _ = [] from h]; rfl
  | (k, p) :: r, ws, ⟨v, t, h1, _, h3⟩ => by rw [h1, List.length_cons, List.length_cons, KvR.len h3]
theorem KvR.val {k : Key} : ∀ {kvs : Kvs} {ws : List (Key × V)}, KvR K ι G kvs ws → (valP kvs k = none ∧ valV ws k = none) ∨ ∃ p v, valP kvs k = some p ∧ valV ws k = some v ∧ Rep K ι G p v
  | [], ws, h => by rw [show ws = [] from h]; exact .inl ⟨rfl, rfl⟩
  | (j, p) :: r, ws, ⟨v, t, h1, h2, h3⟩ => by
    subst h1
    by_cases e : j = k
    · exact .inr ⟨p, v, by simp [valP, e], valV_pos e, h2⟩
    · rcases KvR.val (k := k) h3 with ⟨a, b⟩ | ⟨p', v', a, b, c⟩
      · exact .inl ⟨by simpa [valP, e] using a, by rw [valV_neg e]; exact b⟩
      · exact .inr ⟨p', v', by simpa [valP, e] using a, by rw [valV_neg e]; exact b, c⟩
theorem KvR.any {k : Key} : ∀ {kvs : Kvs} {ws : List (Key × V)}, KvR K ι G kvs ws → (kvs.any fun kv => decide (kv.1 = k)) = ws.any fun kv => decide (kv.1 = k)
  | [], ws, h => by rw [show ws = [] from h]; rfl
  | (j, p) :: r, ws, ⟨v, t, h1, _, h3⟩ => by
    subst h1
    rw [List.any_cons, List.any_cons, KvR.any h3]
theorem KvR.app : ∀ {kvs more : Kvs} {ws ms : List (Key × V)}, KvR K ι G kvs ws → KvR K ι G more ms → KvR K ι G (kvs ++ more) (ws ++ ms)
  | [], _, ws, _, h, h' => by rw [show ws = [] from h]; exact h'
  | (k, p) :: r, _, ws, _, ⟨v, t, h1, h2, h3⟩, h' => by subst h1; exact ⟨v, _, rfl, h2, KvR.app h3 h'⟩
theorem KvR.upd {k : Key} {p : PV} {v : V} (hv : Rep K ι G p v) : ∀ {kvs : Kvs} {ws : List (Key × V)}, KvR K ι G kvs ws → KvR K ι G (kvs.map fun kv => if kv.1 = k then (kv.1, p) else kv) (ws.map fun kv => if kv.1 = k then (kv.1, v) else kv)
  | [], ws, h => by rw [show ws = [] from h]; rfl
  | (j, q) :: r, ws, ⟨v', t, h1, h2, h3⟩ => by
    subst h1
    rw [List.map_cons, List.map_cons]
    by_cases e : j = k
    · rw [if_pos e, if_pos e]
      exact ⟨v, _, rfl, hv, KvR.upd hv h3⟩
    · rw [if_neg e, if_neg e]
      exact ⟨v', _, rfl, h2, KvR.upd hv h3⟩
theorem KvR.put {k : Key} {p : PV} {v : V} {kvs : Kvs} {ws : List (Key × V)} (h : KvR K ι G kvs ws) (hv : Rep K ι G p v) : KvR K ι G (putP kvs k p) (putK ws k v) := by
  unfold putP putK
  rw [h.any]
  split
  · exact KvR.upd hv h
  · exact h.app ⟨v, [], rfl, hv, rfl⟩
theorem KvR.drop {k : Key} : ∀ {kvs : Kvs} {ws : List (Key × V)}, KvR K ι G kvs ws → KvR K ι G (dropP kvs k) (dropK ws k)
  | [], ws, h => by rw [show ws = [] from h]; rfl
  | (j, q) :: r, ws, ⟨v, t, h1, h2, h3⟩ => by
    subst h1
    unfold dropP dropK
    by_cases e : j = k
    · rw [List.filter_cons_of_neg (by simp [e]), List.filter_cons_of_neg (by simp [e])]
      exact KvR.drop h3
    · rw [List.filter_cons_of_pos (by simp [e]), List.filter_cons_of_pos (by simp [e])]
      exact ⟨v, _, rfl, h2, KvR.drop h3⟩
theorem KvR.vals : ∀ {kvs : Kvs} {ws : List (Key × V)}, KvR K ι G kvs ws → RepL K ι G (kvs.map (·.2)) (ws.map (·.2))
  | [], ws, h => by rw [show ws = [] from h]; rfl
  | (k, p) :: r, ws, ⟨v, t, h1, h2, h3⟩ => by subst h1; exact ⟨v, _, rfl, h2, KvR.vals h3⟩
theorem KvR.fst : ∀ {kvs : Kvs} {ws : List (Key × V)}, KvR K ι G kvs ws → ws.map (·.1) = kvs.map (·.1)
  | [], ws, h => by rw [show ws = [] from h]; rfl
  | (k, p) :: r, ws, ⟨v, t, h1, _, h3⟩ => by subst h1; rw [List.map_cons, List.map_cons, KvR.fst h3]
theorem KvR.get : ∀ {kvs : Kvs} {ws : List (Key × V)} {i : Nat} {k : Key} {p : PV}, KvR K ι G kvs ws → kvs[i]? = some (k, p) → ∃ v, ws[i]? = some (k, v) ∧ Rep K ι G p v
  | [], _, _, _, _, _, e => by simp at e
  | (j, q) :: r, ws, 0, k, p, ⟨v, t, h1, h2, _⟩, e => by
    subst h1
    simp only [List.getElem?_cons_zero, Option.some.injEq, Prod.mk.injEq] at e
    obtain ⟨rfl, rfl⟩ := e
    exact ⟨v, rfl, h2⟩
  | (j, q) :: r, ws, i + 1, k, p, ⟨v, t, h1, _, h3⟩, e => by
    subst h1
    simp only [List.getElem?_cons_succ] at e ⊢
    exact KvR.get h3 e
theorem KvR.of : ∀ {kvs : Kvs} {ws : List (Key × V)}, (kvs.map fun w => kP w.1).map keyP = ws.map (fun w => some w.1) → RepL K ι G (kvs.map (·.2)) (ws.map (·.2)) → KvR K ι G kvs ws
  | [], [], _, _ => rfl
  | [], _ :: _, h, _ => by simp at h
  | (k, p) :: r, [], h, _ => by simp at h
  | (k, p) :: r, (j, v) :: t, h, ⟨x, xs, h1, h2, h3⟩ => by
    simp only [List.map_cons, keyP_kP, List.cons.injEq, Option.some.injEq] at h
    obtain ⟨rfl, h⟩ := h
    simp only [List.map_cons, List.cons.injEq] at h1
    obtain ⟨rfl, rfl⟩ := h1
    exact ⟨v, t, rfl, h2, KvR.of h h3⟩
theorem KvR.repO {a : Addr} {kvs : Kvs} {ws : List (Key × V)} (h : KvR K ι G kvs ws) : RepO K ι G a (dicP kvs) (.dK ws) := ⟨ws, rfl, by
  rw [List.map_map]
  have := h.fst
  have e : kvs.map (keyP ∘ fun w => kP w.1) = kvs.map fun w => some w.1 := List.map_congr_left fun w _ => keyP_kP w.1
  rw [e]
  have e2 : ∀ l : List (Key × V), l.map (fun w => some w.1) = (l.map (·.1)).map some := fun l => by rw [List.map_map]; rfl
  have e3 : ∀ l : Kvs, l.map (fun w => some w.1) = (l.map (·.1)).map some := fun l => by rw [List.map_map]; rfl
  rw [e2, e3, this], h.vals⟩
theorem kv_of_repO {a : Addr} {ks vs : List PV} {o : HO} {kvs : Kvs} (h : RepO K ι G a (.dic ks vs) o) (e : toKv ks vs = some kvs) : ∃ ws, o = .dK ws ∧ KvR K ι G kvs ws := by
  obtain ⟨ws, h1, h2, h3⟩ := h
  obtain ⟨e1, e2⟩ := toKv_eq e
  subst e1
  subst e2
  exact ⟨ws, h1, KvR.of h2 h3⟩
end
section
variable {K : PySem.W.Frag} {R : List (Addr × HO)} {ι : List Addr} {O : Sto} {H : Hp} {p q : PV} {x : V} {kvs : Kvs} {n : Nat} {E : Option XK} {Q : VK}
theorem kv_read (S : Sim K R ι O H) (r : Rep K ι (fz R ι O H) p x) (e : kvOf O p = some kvs) : ∃ a ws, x = .ref a ∧ H a = some (.dK ws) ∧ KvR K ι (fz R ι O H) kvs ws := by
  cases p with
  | dic ks vs =>
    obtain ⟨a, ws, h1, h2, h3, h4⟩ := r
    obtain ⟨ws', h5, h6⟩ := kv_of_repO (K := K) (ι := ι) (G := fz R ι O H) (a := a) (o := .dK ws) ⟨ws, rfl, h3, h4⟩ e
    cases h5
    exact ⟨a, ws, h1, S.frozen _ _ h2, h6⟩
  | loc n =>
    obtain ⟨a, h1, h2⟩ := r
    simp only [kvOf] at e
    split at e
    · rename_i ks vs q
      obtain ⟨o, h3, h4⟩ := S.obj n a _ h2 q
      obtain ⟨ws, h5, h6⟩ := kv_of_repO h4 e
      subst h5
      exact ⟨a, ws, h1, h3, h6⟩
    · cases e
  | _ => cases e
theorem kv_readL (S : Sim K R ι O H) (r : Rep K ι (fz R ι O H) (.loc n) x) (e : kvOf O (.loc n) = some kvs) : ∃ a ws p, x = .ref a ∧ ι[n]? = some a ∧ O[n]? = some (some p) ∧ H a = some (.dK ws) ∧ KvR K ι (fz R ι O H) kvs ws := by
  obtain ⟨a, ws, h1, h2, h3⟩ := kv_read S r e
  obtain ⟨a', e1, e2⟩ := r
  rw [h1] at e1
  cases e1
  simp only [kvOf] at e
  split at e
  · rename_i ks vs q
    exact ⟨a, ws, _, h1, e2, q, h2, h3⟩
  · cases e
theorem key_read {G : Hp} {k : Key} (r : Rep K ι G p x) (e : keyP p = some k) : x = kV k := by
  rw [keyP_eq e] at r
  cases k <;> exact r
end
/-! ### k in d, d[k], d.get -/
def ixDk (p q : PV) (O : Sto) : PR PV := match kvOf O p, keyP q with
  | some kvs, some k => match valP kvs k with
    | some r => .ok r O
    | none => .bad
  | _, _ => .bad
section
variable {K : PySem.W.Frag} {E : XM} {ta tb tc : TE} {fa fb fc : EF}
theorem sim_ixDk (hd : SimE K E ta fa) (hy : SimE K E tb fb) : SimE K E (tDGet ta tb) (eOp ixDk fa fb) := fun R ι O H σ s Q S L h =>
  hd R ι O H σ s _ S L (h.bind fun p O1 x ι1 H1 S1 X1 r1 h1 => hy R ι1 O1 H1 σ s _ S1 (L.ext X1) (h1.bind fun q O2 y ι2 H2 S2 X2 r2 h2 => by
    unfold ixDk at h2
    cases e1 : kvOf O2 p with
    | none => simp [e1] at h2; exact h2.elim
    | some kvs =>
      cases e2 : keyP q with
      | none => simp [e1, e2] at h2; exact h2.elim
      | some k =>
        simp only [e1, e2] at h2
        obtain ⟨a, ws, h3, h4, h5⟩ := kv_read S2 (X2.rep r1) e1
        rw [key_read r2 e2]
        rcases h5.val (k := k) with ⟨z1, z2⟩ | ⟨p', v', z1, z2, z3⟩
        · rw [z1] at h2; exact h2.elim
        · rw [z1] at h2
          exact ⟨a, v', h3, by rw [← z2]; exact DGet.k h4, h2.here S2 z3⟩))
theorem isD_of {H : Hp} {a : Addr} {ws : List (Key × V)} (h : H a = some (.dK ws)) : IsD H a := .inl ⟨ws, .inl h⟩
end
/-! ### new dicts, stores -/
def eSetd (a b c : EF) : EF := fun s O => (a s O).bind fun p O1 => if (kvOf O1 p).isSome = true then (b s O1).bind fun q O2 => (c s O2).bind fun r O3 => match p with
  | .loc n => match kvOf O3 (.loc n), keyP q with
    | some kvs, some k => if szLt kvs.length = true then match valP kvs k with
      | some v => .ok v O3
      | none => .ok r (O3.set n (some (dicP (putP kvs k r)))) else .bad
    | _, _ => .bad
  | _ => .bad else .bad
section
variable {K : PySem.W.Frag} {E : XM} {ta tb tc : TE} {fa fb fc : EF}
theorem sim_setd (hd : SimE K E ta fa) (hy : SimE K E tb fb) (hz : SimE K E tc fc) : SimE K E (tDSetd ta tb tc) (eSetd fa fb fc) := fun R ι O H σ s Q S L h =>
  hd R ι O H σ s _ S L (h.bind fun p O1 x ι1 H1 S1 X1 r1 h1 => by
    split at h1
    · rename_i c
      obtain ⟨kv0, e0⟩ := Option.isSome_iff_exists.mp c
      obtain ⟨a, ws, h3, h4, _⟩ := kv_read S1 r1 e0
      refine ⟨a, h3, isD_of h4, hy R ι1 O1 H1 σ s _ S1 (L.ext X1) (h1.bind fun q O2 y ι2 H2 S2 X2 r2 h2 => hz R ι2 O2 H2 σ s _ S2 (L.ext (X1.trans X2)) (h2.bind fun r O3 z ι3 H3 S3 X3 r3 h3' => ?_))⟩
      cases p with
      | loc n =>
        simp only at h3'
        cases e1 : kvOf O3 (.loc n) with
        | none => simp [e1] at h3'; exact h3'.elim
        | some kvs =>
          cases e2 : keyP q with
          | none => simp [e1, e2] at h3'; exact h3'.elim
          | some k =>
            simp only [e1, e2] at h3'
            split at h3'
            · rename_i c2
              obtain ⟨a', ws, p0, g1, g2, g3, g4, g5⟩ := kv_readL S3 ((X2.trans X3).rep r1) e1
              rw [h3] at g1
              cases g1
              refine ⟨ws, k, g4, key_read r2 e2, by rw [g5.len]; exact szLt_lt c2, fun v hv => ?_, fun hv => ?_⟩
              · rcases g5.val (k := k) with ⟨z1, z2⟩ | ⟨p', v', z1, z2, z3⟩
                · rw [z2] at hv; cases hv
                · rw [z2] at hv
                  cases hv
                  rw [z1] at h3'
                  exact h3'.here S3 z3
              · rcases g5.val (k := k) with ⟨z1, z2⟩ | ⟨p', v', z1, z2, z3⟩
                · rw [z1] at h3'
                  obtain ⟨S4, X4⟩ := S3.change g2 g3 (g5.put (k := k) r3).repO
                  exact h3'.at S4 X4 (X4.rep r3)
                · rw [z2] at hv; cases hv
            · exact h3'.elim
      | _ => exact h3'.elim
    · exact h1.elim)
end
end Qx

/-! Own layer Qp: walking a mirror, in plain Lean. -/
namespace Qx
open PySem PySem.Spec PyProof.Rows L2 Gx
def Go {α : Type} (r : PR α) (Q : α → Sto → Prop) : Prop := match r with
  | .ok a O => Q a O
  | _ => False
structure Ks where
  nx : Slots → Sto → Prop
  rt : PV → Sto → Prop
  bk : Slots → Sto → Prop
  ct : Slots → Sto → Prop
  ex : PExc → Slots → Sto → Prop := fun _ _ _ => False
def GoS (K : Ks) (r : SR) : Prop := match r with
  | .next s O => K.nx s O
  | .ret p O => K.rt p O
  | .brk s O => K.bk s O
  | .cnt s O => K.ct s O
  | .exc e s O => K.ex e s O
  | .bad => False
section
variable {α β : Type} {Q : α → Sto → Prop} {Q' : β → Sto → Prop} {QP : PV → Sto → Prop} {QB : Bool → Sto → Prop} {QA : List PV → Sto → Prop} {s : Slots} {O O1 : Sto} {p q r : PV} {ps qs : List PV} {a b c : EF} {t u : TF} {f g : AF} {x y : SF} {K : Ks} {i j : Int} {n m : Nat}
theorem Go.eq {r : PR α} {v : α} (h : Go r fun w O' => w = v ∧ O' = O) : r = .ok v O := by
  cases r with
  | ok w O' => obtain ⟨rfl, rfl⟩ := h; rfl
  | _ => exact h.elim
theorem Go.mono {r : PR α} {Q1 : α → Sto → Prop} (h : Go r Q1) (k : ∀ v O', Q1 v O' → Q v O') : Go r Q := by
  cases r with
  | ok w O' => exact k _ _ h
  | _ => exact h.elim
theorem Go.ex {r : PR α} (h : Go r Q) : ∃ v O', r = .ok v O' ∧ Q v O' := by
  cases r with
  | ok w O' => exact ⟨w, O', rfl, h⟩
  | _ => exact h.elim
theorem go_at {r : PR α} {v : α} (e : r = .ok v O1) (k : Q v O1) : Go r Q := by rw [e]; exact k
theorem go_bind {r : PR α} {h : α → Sto → PR β} (k : Go r fun v O1 => Go (h v O1) Q') : Go (r.bind h) Q' := by
  cases r <;> exact k
theorem go_toS {r : PR α} {h : α → Sto → SR} (k : Go r fun v O1 => GoS K (h v O1)) : GoS K (r.toS s h) := by
  cases r <;> first | exact k | exact k.elim
/-! expressions -/
theorem go_var (e : s[n]? = some (some p)) (k : QP p O) : Go (eVar n s O) QP := by unfold eVar; rw [e]; exact k
theorem go_c (k : QP p O) : Go (eC p s O) QP := k
theorem go_op {op : PV → PV → Sto → PR PV} (k : Go (a s O) fun p O1 => Go (b s O1) fun q O2 => Go (op p q O2) QP) : Go (eOp op a b s O) QP := go_bind (k.mono fun _ _ h => go_bind h)
theorem go_un {op : PV → Sto → PR PV} (k : Go (a s O) fun p O1 => Go (op p O1) QP) : Go (eUn op a s O) QP := go_bind k
theorem go_nil (k : QA [] O) : Go (aNil s O) QA := k
theorem go_cons (k : Go (a s O) fun p O1 => Go (f s O1) fun ps O2 => QA (p :: ps) O2) : Go (aCons a f s O) QA := go_bind (k.mono fun _ _ h => go_bind h)
theorem go_cb {h : List PV → Sto → PR PV} (k : Go (f s O) fun ps O1 => Go (h ps O1) QP) : Go (eCB h f s O) QP := go_bind k
def GTup (ps : List PV) (O : Sto) (QP : PV → Sto → Prop) : Prop := szOk ps.length = true ∧ QP (.tup ps) O
def GLst (ps : List PV) (O : Sto) (QP : PV → Sto → Prop) : Prop := szOk ps.length = true ∧ QP (.lst ps) O
def GLstO (ps : List PV) (O : Sto) (QP : PV → Sto → Prop) : Prop := szOk ps.length = true ∧ QP (.loc O.length) (O ++ [some (.lst ps)])
theorem go_tup (k : Go (f s O) fun ps O1 => GTup ps O1 QP) : Go (eTup f s O) QP := go_bind (k.mono fun _ _ h => by rw [if_pos h.1]; exact h.2)
theorem go_lst (k : Go (f s O) fun ps O1 => GLst ps O1 QP) : Go (eLst f s O) QP := go_bind (k.mono fun _ _ h => by rw [if_pos h.1]; exact h.2)
theorem go_lstO (k : Go (f s O) fun ps O1 => GLstO ps O1 QP) : Go (eLstO f s O) QP := go_bind (k.mono fun _ _ h => by rw [if_pos h.1]; exact h.2)
theorem sz_small {n : Nat} (h : n.ble 100000 = true) : szOk n = true := by
  have := Nat.le_of_ble_eq_true h
  exact decide_eq_true (Nat.le_trans this (by decide))
theorem sz_le {n : Nat} (h : n ≤ 100000) : szOk n = true := decide_eq_true (Nat.le_trans h (by decide))
theorem szl_le {n : Nat} (h : n ≤ 100000) : szLt n = true := decide_eq_true (Nat.lt_of_le_of_lt h (by decide))
theorem g_tup0 (e : ps.length.ble 100000 = true) (k : QP (.tup ps) O) : GTup ps O QP := ⟨sz_small e, k⟩
theorem g_lst0 (e : ps.length.ble 100000 = true) (k : QP (.lst ps) O) : GLst ps O QP := ⟨sz_small e, k⟩
theorem g_lstO0 (e : ps.length.ble 100000 = true) (k : QP (.loc O.length) (O ++ [some (.lst ps)])) : GLstO ps O QP := ⟨sz_small e, k⟩
def GB (p : PV) (Q : Bool → Prop) : Prop := ∃ b, p = .bl b ∧ Q b
theorem g_b {b : Bool} {Q : Bool → Prop} (k : Q b) : GB (.bl b) Q := ⟨b, rfl, k⟩
theorem go_tst (k : Go (a s O) fun p O1 => GB p fun b => QB b O1) : Go (tTst a s O) QB := go_bind (k.mono fun _ _ ⟨b, e, h⟩ => by rw [e]; exact h)
theorem go_tand (k : Go (t s O) fun c O1 => if c = true then Go (u s O1) QB else QB false O1) : Go (tAndP t u s O) QB := go_bind (k.mono fun c _ h => by cases c <;> exact h)
theorem go_tor (k : Go (t s O) fun c O1 => if c = true then QB true O1 else Go (u s O1) QB) : Go (tOrP t u s O) QB := go_bind (k.mono fun c _ h => by cases c <;> exact h)
theorem go_tnot (k : Go (t s O) fun c O1 => QB (!c) O1) : Go (tNotP t s O) QB := go_bind k
theorem go_and (k : Go (a s O) fun p O1 => GB p fun c => if c = true then Go (b s O1) QP else QP (.bl false) O1) : Go (eAnd a b s O) QP := go_bind (k.mono fun _ _ ⟨c, e, h⟩ => by rw [e]; cases c <;> exact h)
theorem go_or (k : Go (a s O) fun p O1 => GB p fun c => if c = true then QP (.bl true) O1 else Go (b s O1) QP) : Go (eOr a b s O) QP := go_bind (k.mono fun _ _ ⟨c, e, h⟩ => by rw [e]; cases c <;> exact h)
theorem go_not (k : Go (a s O) fun p O1 => GB p fun c => QP (.bl (!c)) O1) : Go (eNot a s O) QP := go_bind (k.mono fun _ _ ⟨c, e, h⟩ => by rw [e]; exact h)
theorem go_if (k : Go (t s O) fun c O1 => if c = true then Go (a s O1) QP else Go (b s O1) QP) : Go (eIf t a b s O) QP := go_bind (k.mono fun c _ h => by cases c <;> exact h)
theorem go_chain {o1 o2 : PV → PV → Sto → PR PV} (k : Go (a s O) fun p O1 => Go (b s O1) fun q O2 => Go (o1 p q O2) fun z O3 => GB z fun k => if k = true then Go (c s O3) fun r O4 => Go (o2 q r O4) QP else QP (.bl false) O3) : Go (eChain o1 o2 a b c s O) QP :=
  go_bind (k.mono fun _ _ h => go_bind (h.mono fun _ _ h => go_bind (h.mono fun _ _ ⟨k, e, h⟩ => by rw [e]; cases k <;> first | exact h | exact go_bind h)))
def GM (m : MF) (ps : List PV) (O : Sto) (QP : PV → Sto → Prop) : Prop := Go (m ps O) QP
theorem g_m {m : MF} {ps' : List PV} (e : ps = ps') (k : Go (m ps' O) QP) : GM m ps O QP := by subst e; exact k
theorem go_call0 {m : MF} (k : Go (f s O) fun ps O1 => Go (m ps O1) QP) : Go (eCall m [] f s O) QP := go_bind (k.mono fun ps O1 h => by rw [List.append_nil]; exact h)
theorem go_call {m : MF} {dps : List PV} (k : Go (f s O) fun ps O1 => GM m (ps ++ dps) O1 QP) : Go (eCall m dps f s O) QP := go_bind k
def GMk (C : Str) (m : List PV → Sto → PR (List Str × List PV)) (ps : List PV) (O : Sto) (QP : PV → Sto → Prop) : Prop := Go (mkIns C (m ps O)) QP
theorem g_mk {C : Str} {m : List PV → Sto → PR (List Str × List PV)} {ps' : List PV} (e : ps = ps') (k : Go (mkIns C (m ps' O)) QP) : GMk C m ps O QP := by subst e; exact k
theorem g_and {A B : Prop} (h : A) (k : B) : A ∧ B := ⟨h, k⟩
theorem go_callK {m : MF} {gP : List PV → List PV → List PV} {n k : Nat} (h : Go (f s O) fun ps O1 => Go (g s O1) fun zs O2 => (ps.length = n ∧ zs.length = k) ∧ GM m (gP ps zs) O2 QP) : Go (eCallK m n k gP f g s O) QP := go_bind (h.mono fun _ _ h => go_bind (h.mono fun _ _ h => by rw [if_pos h.1]; exact h.2))
theorem go_make {C : Str} {m : List PV → Sto → PR (List Str × List PV)} {dps : List PV} (k : Go (f s O) fun ps O1 => GMk C m (ps ++ dps) O1 QP) : Go (eMake C m dps f s O) QP := go_bind k
theorem go_makeK {C : Str} {m : List PV → Sto → PR (List Str × List PV)} {gP : List PV → List PV → List PV} {n k : Nat} (h : Go (f s O) fun ps O1 => Go (g s O1) fun zs O2 => (ps.length = n ∧ zs.length = k) ∧ GMk C m (gP ps zs) O2 QP) : Go (eMakeK C m n k gP f g s O) QP := go_bind (h.mono fun _ _ h => go_bind (h.mono fun _ _ h => by rw [if_pos h.1]; exact h.2))
def GFld (C fl : Str) (p : PV) (O : Sto) (QP : PV → Sto → Prop) : Prop := ∃ ns ps q, insOf O p = some (C, ns, ps) ∧ (ns.zip ps).lookup fl = some q ∧ QP q O
theorem g_fld {C fl : Str} {ns : List Str} (e : insOf O p = some (C, ns, ps)) (e2 : (ns.zip ps).lookup fl = some q) (k : QP q O) : GFld C fl p O QP := ⟨ns, ps, q, e, e2, k⟩
theorem go_fld {C fl : Str} (k : Go (a s O) fun p O1 => GFld C fl p O1 QP) : Go (eFld C fl a s O) QP := go_bind (k.mono fun _ _ ⟨ns, ps, q, e, e2, h⟩ => by simp only [e, e2, if_true]; exact h)
def GMeth (C me : Str) (p : PV) (O : Sto) (A : Prop) : Prop := ∃ ns ps, insOf O p = some (C, ns, ps) ∧ (ns.zip ps).lookup me = none ∧ A
theorem g_meth {C me : Str} {ns : List Str} {A : Prop} (e : insOf O p = some (C, ns, ps)) (e2 : (ns.zip ps).lookup me = none) (k : A) : GMeth C me p O A := ⟨ns, ps, e, e2, k⟩
theorem go_meth {C me : Str} {mf : MF} {dps : List PV} (k : Go (a s O) fun p O1 => GMeth C me p O1 (Go (f s O1) fun ps O2 => GM mf (p :: (ps ++ dps)) O2 QP)) : Go (eMeth C me mf dps a f s O) QP := go_bind (k.mono fun _ _ ⟨ns, ps, e, e2, h⟩ => by simp only [e, e2, Option.isNone_none, and_self, if_true]; exact go_bind h)
theorem go_methK {C me : Str} {mf : MF} {gP : List PV → List PV → List PV} {n k : Nat} (h : Go (a s O) fun p O1 => GMeth C me p O1 (Go (f s O1) fun ps O2 => Go (g s O2) fun zs O3 => (ps.length + 1 = n ∧ zs.length = k) ∧ GM mf (gP (p :: ps) zs) O3 QP)) : Go (eMethK C me mf n k gP a f g s O) QP := go_bind (h.mono fun _ _ ⟨ns, ps, e, e2, h⟩ => by
  simp only [e, e2, Option.isNone_none, and_self, if_true]
  exact go_bind (h.mono fun _ _ h => go_bind (h.mono fun _ _ h => by rw [if_pos h.1]; exact h.2)))
theorem go_ifp {c : Prop} [Decidable c] {r r' : PR PV} (h : c) (k : Go r QP) : Go (if c then r else r') QP := by rw [if_pos h]; exact k
/-! slices -/
theorem go_ono {QO : Option Int → Sto → Prop} (k : QO none O) : Go (oNo s O) QO := k
def GI (p : PV) (Q : Int → Prop) : Prop := ∃ i, p = .int i ∧ Q i
theorem g_i {Q : Int → Prop} (k : Q i) : GI (.int i) Q := ⟨i, rfl, k⟩
theorem go_oso {QO : Option Int → Sto → Prop} (k : Go (a s O) fun p O1 => GI p fun i => QO (some i) O1) : Go (oSo a s O) QO := go_bind (k.mono fun _ _ ⟨i, e, h⟩ => by rw [e]; exact h)
theorem go_sl {h : PV → Option Int → Option Int → Sto → PR PV} {l v : OF} (k : Go (a s O) fun p O1 => Go (l s O1) fun i O2 => Go (v s O2) fun j O3 => Go (h p i j O3) QP) : Go (eSl h a l v s O) QP := go_bind (k.mono fun _ _ h => go_bind (h.mono fun _ _ h => go_bind h))
/-! statements -/
theorem go_seq (k : GoS { K with nx := fun s1 O1 => GoS K (y s1 O1) } (x s O)) : GoS K (sSeq x y s O) := by
  unfold sSeq
  cases e : x s O <;> rw [e] at k <;> exact k
theorem go_skip (k : K.nx s O) : GoS K (sSkip s O) := k
theorem go_ret (k : Go (a s O) K.rt) : GoS K (sRet a s O) := go_toS k
theorem go_retN (k : K.rt .non O) : GoS K (sRetN s O) := k
theorem go_exp (k : Go (a s O) fun _ O1 => K.nx s O1) : GoS K (sExp a s O) := go_toS k
theorem go_ifS (k : Go (t s O) fun c O1 => if c = true then GoS K (x s O1) else GoS K (y s O1)) : GoS K (sIf t x y s O) := go_toS (k.mono fun c _ h => by cases c <;> exact h)
theorem go_asg {G : GF} (k : Go (a s O) fun p O1 => Go (G p s O1) fun s1 O2 => K.nx s1 O2) : GoS K (sAsg a G s O) := go_toS (k.mono fun _ _ h => go_toS h)
theorem go_nm {QS : Slots → Sto → Prop} {s' : Slots} (e : s.set n (some p) = s') (k : QS s' O) : Go (gNm n p s O) QS := by subst e; exact k
def GPar (n m : Nat) (s : Slots) (ps : List PV) (Q : Slots → Prop) : Prop := ∃ p q, ps = [p, q] ∧ Q ((s.set n (some p)).set m (some q))
theorem g_par {Q : Slots → Prop} {s' : Slots} (e : (s.set n (some p)).set m (some q) = s') (k : Q s') : GPar n m s [p, q] Q := ⟨p, q, rfl, by rw [e]; exact k⟩
theorem go_par (k : Go (f s O) fun ps O1 => GPar n m s ps fun s1 => K.nx s1 O1) : GoS K (sPar n m f s O) := go_toS (k.mono fun _ _ ⟨p, q, e, h⟩ => by rw [e]; exact h)
def GPar3 (n m l : Nat) (s : Slots) (ps : List PV) (Q : Slots → Prop) : Prop := ∃ p q r, ps = [p, q, r] ∧ Q (((s.set n (some p)).set m (some q)).set l (some r))
theorem g_par3 {l : Nat} {Q : Slots → Prop} {s' : Slots} (e : ((s.set n (some p)).set m (some q)).set l (some r) = s') (k : Q s') : GPar3 n m l s [p, q, r] Q := ⟨p, q, r, rfl, by rw [e]; exact k⟩
theorem go_par3 {l : Nat} (k : Go (f s O) fun ps O1 => GPar3 n m l s ps fun s1 => K.nx s1 O1) : GoS K (sPar3 n m l f s O) := go_toS (k.mono fun _ _ ⟨p, q, r, e, h⟩ => by rw [e]; exact h)
def GSet (s : Slots) (n : Nat) (r : PV) (Q : Slots → Prop) : Prop := Q (s.set n (some r))
theorem g_set {Q : Slots → Prop} {s' : Slots} (e : s.set n (some p) = s') (k : Q s') : GSet s n p Q := by subst e; exact k
theorem go_aug {op : PV → PV → Sto → PR PV} (e : s[n]? = some (some p)) (k : Go (a s O) fun q O1 => Go (op p q O1) fun r O2 => GSet s n r fun s1 => K.nx s1 O2) : GoS K (sAug n op a s O) := by
  unfold sAug
  rw [e]
  exact go_toS (k.mono fun _ _ h => go_toS h)
/-! targets -/
theorem go_gtup {gs : List PV → Slots → Sto → PR Slots} {QS : Slots → Sto → Prop} (e : tupOf p = some ps) (e2 : ps.length = n) (k : Go (gs ps s O) QS) : Go (gTupP n gs p s O) QS := by
  unfold gTupP
  simp only [e, e2, if_true]
  exact k
theorem go_glst {gs : List PV → Slots → Sto → PR Slots} {QS : Slots → Sto → Prop} (e : lstOf O p = some ps) (e2 : ps.length = n) (k : Go (gs ps s O) QS) : Go (gLstP n gs p s O) QS := by
  unfold gLstP
  simp only [e, e2, if_true]
  exact k
theorem go_gnil {QS : Slots → Sto → Prop} (k : QS s O) : Go (gNilP [] s O) QS := k
theorem go_gcons {G : GF} {gs : List PV → Slots → Sto → PR Slots} {QS : Slots → Sto → Prop} (k : Go (G p s O) fun s1 O1 => Go (gs ps s1 O1) QS) : Go (gConsP G gs (p :: ps) s O) QS := go_bind k
def GSub (v : PV) (s : Slots) (p q : PV) (O : Sto) (QS : Slots → Sto → Prop) : Prop := ∃ n k ps j, p = .loc n ∧ q = .int k ∧ O[n]? = some (some (.lst ps)) ∧ ixN ps.length k = some j ∧ QS s (O.set n (some (.lst (ps.set j v))))
theorem g_sub {v : PV} {QS : Slots → Sto → Prop} {j' : Nat} (e : O[n]? = some (some (.lst ps))) (e2 : ixN ps.length i = some j') (k : QS s (O.set n (some (.lst (ps.set j' v))))) : GSub v s (.loc n) (.int i) O QS := ⟨n, i, ps, j', rfl, rfl, e, e2, k⟩
theorem go_gsub {v : PV} {QS : Slots → Sto → Prop} (k : Go (a s O) fun p O1 => Go (b s O1) fun q O2 => GSub v s p q O2 QS) : Go (gSubL a b v s O) QS :=
  go_bind (k.mono fun _ _ h => go_bind (h.mono fun _ _ ⟨n, k, ps, j, e1, e2, e3, e4, hh⟩ => by subst e1; subst e2; simp only [e3, e4]; exact hh))
/-! defs -/
theorem go_def {N : Nat} {body : SF} {s' : Slots} (e : ps.length = n) (e2 : ps.map some ++ List.replicate (N - n) none = s') (k : GoS { nx := fun _ O1 => QP .non O1, rt := QP, bk := fun _ _ => False, ct := fun _ _ => False } (body s' O)) : Go (mkDef n N body ps O) QP := by
  unfold mkDef
  rw [if_pos e, e2]
  cases q : body s' O <;> rw [q] at k <;> first | exact k | exact k.elim
/-! values -/
theorem go_addI (k : QP (.int (i + j)) O) : Go (addI (.int i) (.int j) O) QP := k
theorem go_subI (k : QP (.int (i - j)) O) : Go (subI (.int i) (.int j) O) QP := k
theorem go_i2 {c : Int → Int → Bool} {g : Int → Int → PV} (e : c i j = true) (k : QP (g i j) O) : Go (i2 c g (.int i) (.int j) O) QP := by
  unfold i2
  simp only [e, if_true]
  exact k
theorem go_mulI (e : mulOk i j = true) (k : QP (.int (i * j)) O) : Go (mulI (.int i) (.int j) O) QP := go_i2 e k
theorem go_fdivI (e : divOk i j = true) (k : QP (.int (i / j)) O) : Go (fdivI (.int i) (.int j) O) QP := go_i2 e k
theorem go_modI (e : 0 < j) (k : QP (.int (i % j)) O) : Go (modI (.int i) (.int j) O) QP := go_i2 (decide_eq_true e) k
theorem go_powI (e : powOk i j = true) (k : QP (.int (i ^ j.toNat)) O) : Go (powI (.int i) (.int j) O) QP := go_i2 e k
theorem go_ltI (k : QP (.bl (decide (i < j))) O) : Go (ltI (.int i) (.int j) O) QP := k
theorem go_leI (k : QP (.bl (decide (i ≤ j))) O) : Go (leI (.int i) (.int j) O) QP := k
theorem go_gtI (k : QP (.bl (decide (j < i))) O) : Go (gtI (.int i) (.int j) O) QP := k
theorem go_geI (k : QP (.bl (decide (j ≤ i))) O) : Go (geI (.int i) (.int j) O) QP := k
theorem go_negI (k : QP (.int (-i)) O) : Go (negI (.int i) O) QP := k
theorem go_eqI (k : QP (.bl (decide (i = j))) O) : Go (eqS (.int i) (.int j) O) QP := by
  have e : decide (V.int i = V.int j) = decide (i = j) := Gx.dec_int
  show QP (.bl (decide (V.int i = V.int j))) O
  rw [e]; exact k
theorem go_neI (k : QP (.bl (!decide (i = j))) O) : Go (neS (.int i) (.int j) O) QP := by
  have e : decide (V.int i = V.int j) = decide (i = j) := Gx.dec_int
  show QP (.bl (!decide (V.int i = V.int j))) O
  rw [e]; exact k
theorem go_eqB {b c : Bool} (k : QP (.bl (decide (b = c))) O) : Go (eqS (.bl b) (.bl c) O) QP := by
  show QP (.bl (decide (V.bl b = V.bl c))) O
  rw [Gx.dec_bl]; exact k
theorem go_neB {b c : Bool} (k : QP (.bl (!decide (b = c))) O) : Go (neS (.bl b) (.bl c) O) QP := by
  show QP (.bl (!decide (V.bl b = V.bl c))) O
  rw [Gx.dec_bl]; exact k
theorem go_eqZ {b c : Str} (k : QP (.bl (decide (b = c))) O) : Go (eqS (.str b) (.str c) O) QP := by
  show QP (.bl (decide (V.str b = V.str c))) O
  rw [Gx.dec_str]; exact k
theorem go_neZ {b c : Str} (k : QP (.bl (!decide (b = c))) O) : Go (neS (.str b) (.str c) O) QP := by
  show QP (.bl (!decide (V.str b = V.str c))) O
  rw [Gx.dec_str]; exact k
theorem go_isN (k : QP (.bl (isNon p)) O) : Go (isN p .non O) QP := k
theorem go_notN (k : QP (.bl (!isNon p)) O) : Go (notN p .non O) QP := k
theorem go_ixL (e : lstOf O p = some ps) (e2 : atI ps i = some r) (k : QP r O) : Go (ixL p (.int i) O) QP := by
  unfold ixL
  simp only [e, e2]
  exact k
theorem go_ixT (e2 : atI ps i = some r) (k : QP r O) : Go (ixT (.tup ps) (.int i) O) QP := by
  unfold ixT tupOf
  simp only [e2]
  exact k
theorem atI_inP {xs : List PV} {r : Int} (h0 : 0 ≤ r) (h1 : r < (xs.length : Int)) : ∃ v, atI xs r = some v ∧ v ∈ xs := by
  have hl : r.toNat < xs.length := by omega
  refine ⟨xs[r.toNat], ?_, List.getElem_mem hl⟩
  have e : atI xs ((r.toNat : Nat) : Int) = some xs[r.toNat] := atI_nat (List.getElem?_eq_getElem hl)
  have er : ((r.toNat : Nat) : Int) = r := by omega
  rw [er] at e
  exact e
theorem go_ixR (e : lstOf O p = some ps) (h0 : 0 ≤ i) (h1 : i < ps.length) (k : ∀ r, r ∈ ps → QP r O) : Go (ixL p (.int i) O) QP := by
  obtain ⟨v, h2, h3⟩ := atI_inP h0 h1
  exact go_ixL e h2 (k v h3)
theorem go_slL {l v : Option Int} (e : lstOf O p = some ps) (k : QP (.lst (cutP ps l v)) O) : Go (slL p l v O) QP := by
  unfold slL
  simp only [e]
  exact k
theorem go_slT {l v : Option Int} (e : (HT.sIx ps.length 0 l == 0 && HT.sIx ps.length ps.length v == ps.length) = false) (e2 : cutP ps l v = qs) (k : QP (.tup qs) O) : Go (slT (.tup ps) l v O) QP := by
  unfold slT tupOf
  simp only [e, e2]
  exact k
theorem go_catT {rs : List PV} (e : (!ps.isEmpty && !qs.isEmpty && szOk (ps.length + qs.length)) = true) (e2 : ps ++ qs = rs) (k : QP (.tup rs) O) : Go (catT (.tup ps) (.tup qs) O) QP := by
  subst e2
  unfold catT tupOf
  simp only [e, if_true]
  exact k
theorem go_catL (e1 : lstT O p = some ps) (e2 : lstT O q = some qs) (e : szOk (ps.length + qs.length) = true) (k : QP (.lst (ps ++ qs)) O) : Go (catL p q O) QP := by
  unfold catL
  simp only [e1, e2, e, if_true]
  exact k
theorem go_oeq {C : Str} {mf : MF} (e1 : insIs O C p = true) (e2 : insIs O C q = true) (k : Go (mf [p, q] O) fun r O1 => GB r fun b => QP (.bl b) O1) : Go (oeqP C mf p q O) QP := by
  unfold oeqP
  rw [if_pos (by rw [e1, e2]; rfl)]
  unfold boolR
  cases h : mf [p, q] O with
  | ok v O' => rw [h] at k; obtain ⟨b, e, h'⟩ := k; subst e; exact h'
  | _ => rw [h] at k; exact k.elim
theorem go_one {C : Str} {mf : MF} (e1 : insIs O C p = true) (e2 : insIs O C q = true) (k : Go (mf [p, q] O) fun r O1 => GB r fun b => QP (.bl (!b)) O1) : Go (oneP C mf p q O) QP := by
  unfold oneP
  rw [if_pos (by rw [e1, e2]; rfl)]
  unfold boolR
  cases h : mf [p, q] O with
  | ok v O' => rw [h] at k; obtain ⟨b, e, h'⟩ := k; subst e; exact h'
  | _ => rw [h] at k; exact k.elim
theorem go_olen {C : Str} {mf : MF} (e1 : insIs O C p = true) (k : Go (mf [p] O) fun r O1 => ∃ n, r = .int n ∧ (0 ≤ n ∧ n < 2 ^ 63) ∧ QP (.int n) O1) : Go (olenP C mf [p] O) QP := by
  unfold olenP
  simp only [e1, if_true]
  cases h : mf [p] O with
  | ok v O' =>
    rw [h] at k
    obtain ⟨n, e, ⟨h1, h2⟩, h'⟩ := k
    subst e
    show Go (if (decide (0 ≤ n) && decide (n < 2 ^ 63)) = true then PR.ok (PV.int n) O' else .bad) QP
    rw [if_pos (by rw [decide_eq_true h1, decide_eq_true h2]; rfl)]
    exact h'
  | _ => rw [h] at k; exact k.elim
theorem go_isi {cs : List Str} {c : PV} {t : Sum String Str} {b : Bool} (e : tyOf O p = some t) (e2 : kitP cs t c = some b) (k : QP (.bl b) O) : Go (isiP cs [p, c] O) QP := by
  unfold isiP b2
  simp only [e, e2]
  exact k
theorem kit_same {cs : List Str} {C : Str} (h : cs.contains C = true) : kitP cs (.inr C) (.cls C) = some true := by
  unfold kitP
  simp only [h, Bool.and_self, if_true, decide_true]
theorem kit_ii {cs : List Str} : kitP cs (.inl "int") (.ty "int") = some true := kB1
theorem kit_ib {cs : List Str} : kitP cs (.inl "int") (.ty "bool") = some false := kB2
theorem kit_bb {cs : List Str} : kitP cs (.inl "bool") (.ty "bool") = some true := kB3
theorem kit_bi {cs : List Str} : kitP cs (.inl "bool") (.ty "int") = some true := kB4
theorem kit_ss {cs : List Str} : kitP cs (.inl "str") (.ty "str") = some true := kB5
theorem kit_tt {cs : List Str} : kitP cs (.inl "tuple") (.ty "tuple") = some true := kB6
theorem kit_nb {cs : List Str} : kitP cs (.inl "NoneType") (.ty "bool") = some false := kB7
theorem kit_ni {cs : List Str} : kitP cs (.inl "NoneType") (.ty "int") = some false := kB8
theorem kit_nt {cs : List Str} : kitP cs (.inl "NoneType") (.ty "tuple") = some false := kB9
theorem kit_si {cs : List Str} : kitP cs (.inl "str") (.ty "int") = some false := kB10
theorem go_len (e : seqOf O p = some ps) (k : QP (.int ps.length) O) : Go (bLen [p] O) QP := by
  unfold bLen b1
  simp only [e]
  exact k
theorem go_rng (k : QP (.rng i j) O) : Go (bRng [.int i, .int j] O) QP := k
theorem go_max2 (k : QP (.int (max i j)) O) : Go (bMax2 [.int i, .int j] O) QP := k
theorem go_min2 (k : QP (.int (min i j)) O) : Go (bMin2 [.int i, .int j] O) QP := k
theorem go_abs (k : QP (.int (if i < 0 then -i else i)) O) : Go (bAbs [.int i] O) QP := k
theorem go_intI (k : QP (.int i) O) : Go (bInt [.int i] O) QP := k
theorem go_intB {b : Bool} (k : QP (.int (if b then 1 else 0)) O) : Go (bInt [.bl b] O) QP := k
theorem go_divmod (e : divOk i j = true) (k : QP (.tup [.int (i / j), .int (i % j)]) O) : Go (bDivmod [.int i, .int j] O) QP := by
  unfold bDivmod b2
  simp only [e, if_true]
  exact k
theorem go_is {f : List Int → Option PV} {ns : List Int} (e : (lstOf O p).bind intsOf = some ns) (e2 : f ns = some q) (k : QP q O) : Go (bIs f [p] O) QP := by
  unfold bIs b1
  simp only [e, e2]
  exact k
theorem go_sum {ns : List Int} (e : lstOf O p = some (ns.map .int)) (k : QP (.int ns.sum) O) : Go (bSum [p] O) QP := go_is (by rw [e]; exact intsOf_map ns) rfl k
theorem go_bs {f : List Bool → PV} {ns : List Bool} (e : lstOf O p = some (ns.map .bl)) (k : QP (f ns) O) : Go (bBs f [p] O) QP := by
  unfold bBs b1
  have e : (lstOf O p).bind blsOf = some ns := by rw [e]; exact blsOf_map ns
  simp only [e]
  exact k
theorem go_all {ns : List Bool} (e : lstOf O p = some (ns.map .bl)) (k : QP (.bl (ns.all id)) O) : Go (bAll [p] O) QP := go_bs e k
theorem go_any {ns : List Bool} (e : lstOf O p = some (ns.map .bl)) (k : QP (.bl (ns.any id)) O) : Go (bAny [p] O) QP := go_bs e k
theorem go_bTupL (e : lstOf O p = some ps) (k : QP (.tup ps) O) : Go (bTup [p] O) QP := by
  unfold bTup b1
  simp only [e]
  exact k
theorem go_bTupT (k : QP (.tup ps) O) : Go (bTup [.tup ps] O) QP := k
theorem go_sortSet (k : Go (a s O) fun p O1 => ∃ ns : List Int, lstOf O1 p = some (ns.map .int) ∧ ns.length < 4000 ∧ (riseI ns).length < 64 ∧ QP (.lst ((riseI ns).map .int)) O1) : Go (eSortSet a s O) QP := go_bind (k.mono fun p O1 ⟨ns, e, h1, h2, h⟩ => by
  have e : (lstOf O1 p).bind intsOf = some ns := by rw [e]; exact intsOf_map ns
  simp only [e]
  rw [if_pos (by rw [decide_eq_true h1, decide_eq_true h2]; rfl)]
  exact h)
theorem go_append (e : O[n]? = some (some (.lst ps))) (h : szLt ps.length = true) (k : QP .non (O.set n (some (.lst (ps ++ [q]))))) : Go (appendP (.loc n) [q] O) QP := by
  unfold appendP locL
  simp only [e, h, if_true]
  exact k
theorem go_bml {h : PV → List PV → Sto → PR PV} (k : Go (a s O) fun p O1 => (lstOf O1 p).isSome = true ∧ Go (f s O1) fun ps O2 => Go (h p ps O2) QP) : Go (eBml h a f s O) QP := go_bind (k.mono fun _ _ ⟨e, h⟩ => by rw [if_pos e]; exact go_bind h)
/-! what is walked -/
theorem go_iT {QI : ItP → Sto → Prop} (k : Go (a s O) fun p O1 => ∃ ps, tupOf p = some ps ∧ QI (ps, none) O1) : Go (iT a s O) QI := go_bind (k.mono fun p O1 ⟨ps, e, h⟩ => by simp only [e]; exact h)
theorem go_iR1 {QI : ItP → Sto → Prop} (k : Go (f s O) fun ps O1 => ∃ j, ps = [.int j] ∧ (-(2 ^ 62) ≤ j ∧ j < 2 ^ 62) ∧ QI (rgL 0 j.toNat, none) O1) : Go (iR1 f s O) QI := go_bind (k.mono fun ps O1 ⟨j, e, c, h⟩ => by
  subst e
  simp only
  rw [if_pos (show rgOk j = true from decide_eq_true c)]
  exact h)
theorem go_iR2 {QI : ItP → Sto → Prop} (k : Go (f s O) fun ps O1 => ∃ i j, ps = [.int i, .int j] ∧ (-(2 ^ 62) ≤ i ∧ i < 2 ^ 62 ∧ -(2 ^ 62) ≤ j ∧ j < 2 ^ 62) ∧ QI (rgL i (j - i).toNat, none) O1) : Go (iR2 f s O) QI := go_bind (k.mono fun ps O1 ⟨i, j, e, c, h⟩ => by
  subst e
  simp only
  rw [if_pos (by rw [show rgOk i = true from decide_eq_true ⟨c.1, c.2.1⟩, show rgOk j = true from decide_eq_true ⟨c.2.2.1, c.2.2.2⟩]; rfl)]
  exact h)
theorem g_r1 {F : Int → Prop} (h : -(2 ^ 62) ≤ j ∧ j < 2 ^ 62) (k : F j) : ∃ j', [PV.int j] = [.int j'] ∧ (-(2 ^ 62) ≤ j' ∧ j' < 2 ^ 62) ∧ F j' := ⟨j, rfl, h, k⟩
theorem g_r2 {F : Int → Int → Prop} (h : -(2 ^ 62) ≤ i ∧ i < 2 ^ 62 ∧ -(2 ^ 62) ≤ j ∧ j < 2 ^ 62) (k : F i j) : ∃ i' j', [PV.int i, PV.int j] = [.int i', .int j'] ∧ (-(2 ^ 62) ≤ i' ∧ i' < 2 ^ 62 ∧ -(2 ^ 62) ≤ j' ∧ j' < 2 ^ 62) ∧ F i' j' := ⟨i, j, rfl, h, k⟩
theorem g_ips {F : List PV → Prop} (e : frL p = some ps) (k : F ps) : ∃ ps', frL p = some ps' ∧ F ps' := ⟨ps, e, k⟩
theorem g_ipt {F : List PV → Prop} (e : tupOf p = some ps) (k : F ps) : ∃ ps', tupOf p = some ps' ∧ F ps' := ⟨ps, e, k⟩
/-! loops -/
theorem go_for {fI : IF} {tgt : GF} {body : SF} (k : Go (fI s O) fun it O1 => GoS K (loopL it.2 tgt body it.1 s O1)) : GoS K (sFor fI tgt body s O) := go_toS k
/-! comprehensions -/
def GoC (tgt : GF) (t : TF) (e : EF) (s0 : Slots) (p : PV) (O : Sto) (Q : Option PV → Sto → Prop) : Prop :=
  Go (tgt p s0 O) fun s1 O1 => Go (t s1 O1) fun b O2 => if b = true then Go (e s1 O2) fun q O3 => Q (some q) O3 else Q none O2
theorem comp_ok {tgt : GF} {t : TF} {e : EF} {s0 : Slots} (J : List PV → List PV → Sto → Prop) : ∀ (items done acc : List PV) (O : Sto), acc.length + items.length ≤ 100000 → J done acc O → (∀ d p r acc O, done ++ items = d ++ p :: r → J d acc O → GoC tgt t e s0 p O fun q O' => J (d ++ [p]) (acc ++ q.toList) O') →
    ∃ acc' O', compL none tgt t e s0 items acc O = .ok acc' O' ∧ J (done ++ items) acc' O'
  | [], done, acc, O, _, h0, _ => ⟨acc, O, rfl, by rw [List.append_nil]; exact h0⟩
  | p :: items, done, acc, O, hl, h0, hs => by
    have h1 := hs done p items acc O rfl h0
    unfold GoC at h1
    obtain ⟨s1, O1, e1, h2⟩ := h1.ex
    obtain ⟨b, O2, e2, h3⟩ := h2.ex
    rw [List.length_cons] at hl
    have next : ∀ acc2 O3, acc2.length + items.length ≤ 100000 → J (done ++ [p]) acc2 O3 → ∃ acc' O', compL none tgt t e s0 items acc2 O3 = .ok acc' O' ∧ J (done ++ p :: items) acc' O' := fun acc2 O3 hl2 h4 => by
      have q := comp_ok J items (done ++ [p]) acc2 O3 hl2 h4 fun d p' r acc O ed hj => hs d p' r acc O (by rw [← ed]; simp) hj
      rwa [List.append_assoc] at q
    show ∃ acc' O', ((tgt p s0 O).bind fun s1 O1 => (t s1 O1).bind fun b O2 => if b = true then (e s1 O2).bind fun q O3 => if szLt acc.length = true then compL none tgt t e s0 items (acc ++ [q]) O3 else .bad else compL none tgt t e s0 items acc O2) = _ ∧ _
    rw [e1]
    simp only [PR.bind]
    rw [e2]
    cases b with
    | true =>
      simp only [if_true] at h3 ⊢
      obtain ⟨q, O3, e3, h4⟩ := h3.ex
      rw [e3]
      simp only
      rw [if_pos (szl_le (show acc.length ≤ 100000 by omega))]
      exact next _ _ (by rw [List.length_append, List.length_singleton]; omega) h4
    | false =>
      have h3 : J (done ++ [p]) (acc ++ []) O2 := h3
      rw [List.append_nil] at h3
      exact next acc O2 (by omega) h3
theorem go_lc {fI : IF} {tgt : GF} {vs : List Nat} {s0 : Slots} (e0 : wipeP s vs = s0) (k : Go (fI s O) fun it O1 => ∃ ps O2, compL it.2 tgt t b s0 it.1 [] O1 = .ok ps O2 ∧ QP (.lst ps) O2) : Go (eLc fI tgt t b vs s O) QP := by
  subst e0
  unfold eLc lcC
  refine go_bind (go_bind (k.mono fun it O1 ⟨ps, O2, e, h⟩ => ?_))
  rw [e]
  exact h
theorem go_lcO {fI : IF} {tgt : GF} {vs : List Nat} {s0 : Slots} (e0 : wipeP s vs = s0) (k : Go (fI s O) fun it O1 => ∃ ps O2, compL it.2 tgt t b s0 it.1 [] O1 = .ok ps O2 ∧ QP (.loc O2.length) (O2 ++ [some (.lst ps)])) : Go (eLcO fI tgt t b vs s O) QP := by
  subst e0
  unfold eLcO lcC
  refine go_bind (go_bind (k.mono fun it O1 ⟨ps, O2, e, h⟩ => ?_))
  rw [e]
  exact h
theorem goc1 {tgt : GF} {e : EF} {s0 : Slots} {Q : Option PV → Sto → Prop} (k : Go (tgt p s0 O) fun s1 O1 => Go (e s1 O1) fun q O3 => Q (some q) O3) : GoC tgt tYesP e s0 p O Q := k.mono fun s1 O1 h => h
theorem comp_all {tgt : GF} {e : EF} {s0 : Slots} {items : List PV} (I : Sto → Prop) (P : PV → Prop) (hl : items.length ≤ 100000) (hI : I O) (h : ∀ p, p ∈ items → ∀ O', I O' → Go (tgt p s0 O') fun s1 O1 => Go (e s1 O1) fun q O2 => P q ∧ I O2) : ∃ acc O', compL none tgt tYesP e s0 items [] O = .ok acc O' ∧ acc.length = items.length ∧ (∀ q, q ∈ acc → P q) ∧ I O' := by
  obtain ⟨acc, O', e1, ⟨e2, e3⟩, e4⟩ := comp_ok (tgt := tgt) (t := tYesP) (e := e) (s0 := s0) (fun d acc O' => (acc.length = d.length ∧ ∀ q, q ∈ acc → P q) ∧ I O') items [] [] O (by simpa using hl) ⟨⟨rfl, fun _ h => (nomatch h)⟩, hI⟩ fun d p r acc O1 ed ⟨⟨h1, h2⟩, h3⟩ => by
    have hm : p ∈ items := by rw [show items = d ++ p :: r from ed]; simp
    refine goc1 ((h p hm O1 h3).mono fun s1 O2 k => ?_)
    refine k.mono fun q O3 z => ⟨⟨by simp [h1], fun q' hq => ?_⟩, z.2⟩
    rcases List.mem_append.mp hq with hq | hq
    · exact h2 q' hq
    · rw [show q' = q by simpa using hq]; exact z.1
  exact ⟨acc, O', e1, by simpa using e2, e3, e4⟩
theorem comp_nil {tgt : GF} {t : TF} {e : EF} {s0 : Slots} {acc : List PV} {F : List PV → Sto → Prop} (k : F acc O) : ∃ ps O2, compL none tgt t e s0 [] acc O = .ok ps O2 ∧ F ps O2 := ⟨acc, O, rfl, k⟩
theorem comp_one {tgt : GF} {t : TF} {e : EF} {s0 : Slots} {items acc : List PV} {F : List PV → Sto → Prop} (hl : acc.length.ble 100000 = true) (k : GoC tgt t e s0 p O fun q O' => ∃ ps O2, compL none tgt t e s0 items (acc ++ q.toList) O' = .ok ps O2 ∧ F ps O2) : ∃ ps O2, compL none tgt t e s0 (p :: items) acc O = .ok ps O2 ∧ F ps O2 := by
  unfold GoC at k
  obtain ⟨s1, O1, e1, h2⟩ := k.ex
  obtain ⟨b, O2, e2, h3⟩ := h2.ex
  show ∃ ps O2, ((tgt p s0 O).bind fun s1 O1 => (t s1 O1).bind fun b O2 => if b = true then (e s1 O2).bind fun q O3 => if szLt acc.length = true then compL none tgt t e s0 items (acc ++ [q]) O3 else .bad else compL none tgt t e s0 items acc O2) = _ ∧ _
  rw [e1]
  simp only [PR.bind]
  rw [e2]
  cases b with
  | true =>
    simp only [if_true] at h3 ⊢
    obtain ⟨q, O3, e3, h4⟩ := h3.ex
    rw [e3]
    simp only
    rw [if_pos (szl_le (Nat.le_of_ble_eq_true hl))]
    exact h4
  | false =>
    have h3 : ∃ ps O2', compL none tgt t e s0 items (acc ++ []) O2 = .ok ps O2' ∧ F ps O2' := h3
    rw [List.append_nil] at h3
    exact h3
def GAcc (acc : List PV) (F : List PV → Prop) : Prop := F acc
theorem g_acc {acc acc' : List PV} {F : List PV → Prop} (e : acc = acc') (k : F acc') : GAcc acc F := by subst e; exact k
theorem comp_one1 {tgt : GF} {e : EF} {s0 : Slots} {items acc : List PV} {F : List PV → Sto → Prop} (hl : acc.length.ble 100000 = true) (k : Go (tgt p s0 O) fun s1 O1 => Go (e s1 O1) fun q O' => GAcc (acc ++ [q]) fun acc' => ∃ ps O2, compL none tgt tYesP e s0 items acc' O' = .ok ps O2 ∧ F ps O2) : ∃ ps O2, compL none tgt tYesP e s0 (p :: items) acc O = .ok ps O2 ∧ F ps O2 := comp_one hl (goc1 k)
theorem go_yes (k : QB true O) : Go (tYesP s O) QB := k

end
/-! branches -/
section
variable {A B : Prop} {c : Prop} {inst : Decidable c}
theorem qbr (h1 : c → A) (h2 : ¬ c → B) : if decide c = true then A else B := Gx.br h1 h2
theorem qbrn (h1 : ¬ c → A) (h2 : c → B) : if (!decide c) = true then A else B := Gx.brn h1 h2
theorem bt (h : c) (k : A) : if decide c = true then A else B := by rw [if_pos (decide_eq_true h)]; exact k
theorem bf (h : ¬ c) (k : B) : if decide c = true then A else B := by rw [if_neg (by rw [decide_eq_false h]; exact Bool.false_ne_true)]; exact k
theorem bnt (h : ¬ c) (k : A) : if (!decide c) = true then A else B := by rw [if_pos (by rw [decide_eq_false h]; rfl)]; exact k
theorem bnf (h : c) (k : B) : if (!decide c) = true then A else B := by rw [if_neg (by rw [decide_eq_true h]; exact Bool.false_ne_true)]; exact k
end
/-! instances, purses -/
def Pu (O : Sto) (n : Nat) : Prop := ∃ a b c : Int, O[n]? = some (some (.lst [.int a, .int b, .int c])) ∧ 0 ≤ a ∧ a < 2147483399 ∧ 0 ≤ b
theorem get_set {O : Sto} {n : Nat} {x y : Option PV} (h : O[n]? = some x) : (O.set n y)[n]? = some y := by
  have := (List.getElem?_eq_some_iff.mp h).1
  rw [List.getElem?_set_self this]
theorem get_app {O : Sto} {x : Option PV} : (O ++ [x])[O.length]? = some x := by
  rw [List.getElem?_append_right (Nat.le_refl _)]
  simp
theorem lst_loc {O : Sto} {n : Nat} {ps : List PV} (h : O[n]? = some (some (.lst ps))) : lstOf O (.loc n) = some ps := by simp [lstOf, h]
theorem toDL_ints : ∀ ns : List Int, toDL (ns.map .int) = some (ns.map .int)
  | [] => by simp [toDL]
  | n :: ns => by simp only [List.map_cons, toDL, toD0, toDL_ints ns]
theorem canLay_ints : ∀ ns : List Int, PyData.canLayAll0 (ns.map PyData.int) = true
  | [] => rfl
  | n :: ns => by
    show (PyData.canLay0 (.int n) && PyData.canLayAll0 (ns.map PyData.int)) = true
    rw [canLay_ints ns]
    rfl
theorem depthAll_ints : ∀ ns : List Int, PyData.depthAll (ns.map PyData.int) ≤ 1
  | [] => by simp [PyData.depthAll]
  | n :: ns => by
    have h := depthAll_ints ns
    simp only [List.map_cons, PyData.depthAll, PyData.depth]
    omega
theorem depth_ints (ns : List Int) : (PyData.tuple (ns.map PyData.int)).depth ≤ 64 ∧ (PyData.list (ns.map PyData.int)).depth ≤ 64 := by
  have h := depthAll_ints ns
  simp only [PyData.depth]
  omega
theorem shaped_ints {ns : List Int} : SeqAt.shaped (.tuple (ns.map PyData.int)) = true := by
  unfold SeqAt.shaped
  rw [decide_eq_true (depth_ints ns).1, Bool.and_true]
  show PyData.canLayAll0 _ = true
  exact canLay_ints ns
theorem scVs_ints : ∀ ns : List Int, scVs (ns.map PV.int) = some (ns.map V.int)
  | [] => rfl
  | n :: ns => by simp only [List.map_cons, scVs, scV, scVs_ints ns]
def unP : PV → Int
  | .int i => i
  | _ => 0
theorem go_ixI {O : Sto} {p : PV} {ps : List PV} {i : Int} {QP : PV → Sto → Prop} (e : lstOf O p = some ps) (ei : ps = (ps.map unP).map .int) (h0 : 0 ≤ i) (h1 : i < ps.length) (k : ∀ z : Int, z ∈ ps.map unP → QP (.int z) O) : Go (ixL p (.int i) O) QP := go_ixR e h0 h1 fun r hr => by
  rw [ei] at hr
  obtain ⟨z, hz, rfl⟩ := List.mem_map.mp hr
  exact k z hz
theorem go_anyC {O : Sto} {p : PV} {ns : List Bool} {b : Bool} {QP : PV → Sto → Prop} (e : (lstOf O p).bind blsOf = some ns) (e2 : ns.any id = b) (k : QP (.bl b) O) : Go (bAny [p] O) QP := by
  unfold bAny bBs b1
  simp only [e]
  subst e2
  exact k
theorem go_allC {O : Sto} {p : PV} {ns : List Bool} {b : Bool} {QP : PV → Sto → Prop} (e : (lstOf O p).bind blsOf = some ns) (e2 : ns.all id = b) (k : QP (.bl b) O) : Go (bAll [p] O) QP := by
  unfold bAll bBs b1
  simp only [e]
  subst e2
  exact k
theorem eqv_ints (ns ms : List Int) (O : Sto) : eqD (.tup (ns.map .int)) (.tup (ms.map .int)) O = .ok (.bl (decide (ns = ms))) O := by
  unfold eqD toD
  simp only [toD0, toDL_ints, Option.map_some]
  rw [if_pos (by rw [shaped_ints, shaped_ints]; rfl)]
  congr 2
  exact eqvAll_ints ns ms
theorem go_eqTI {O : Sto} {ps qs : List PV} {QP : PV → Sto → Prop} {ns ms : List Int} (e1 : ps = (ps.map unP).map .int) (e2 : qs = (qs.map unP).map .int) (e3 : ps.map unP = ns) (e4 : qs.map unP = ms) (k : QP (.bl (decide (ns = ms))) O) : Go (eqD (.tup ps) (.tup qs) O) QP := by
  subst e3
  subst e4
  have e := eqv_ints (ps.map unP) (qs.map unP) O
  rw [← e1, ← e2] at e
  exact go_at e k
theorem go_inI {O : Sto} {neg : Bool} {i : Int} {q : PV} {ns : List Int} {QP : PV → Sto → Prop} (e : seqOf O q = some (ns.map .int)) (k : QP (.bl (if neg then !decide (i ∈ ns) else decide (i ∈ ns))) O) : Go (inS neg (.int i) q O) QP := by
  have e1 : (seqOf O q).bind scVs = some (ns.map V.int) := by
    rw [e]
    exact scVs_ints ns
  unfold inS
  simp only [scV, e1]
  have e2 : (flatV (V.int i) && (ns.map V.int).all flatV) = true := by simp [flatV]
  rw [if_pos e2]
  have e3 : inV (V.int i) (ns.map V.int) = decide (i ∈ ns) := by
    unfold inV
    rw [Bool.eq_iff_iff]
    simp only [List.any_map, List.any_eq_true, decide_eq_true_eq, Function.comp]
    constructor
    · rintro ⟨n, h1, h2⟩
      have : n = i := by simpa [eqV] using h2
      rw [← this]; exact h1
    · intro h
      exact ⟨i, h, by simp [eqV]⟩
  rw [e3]
  exact k
theorem g_n {i : Int} {F : Int → Prop} (h : 0 ≤ i ∧ i < 2 ^ 63) (k : F i) : ∃ n, PV.int i = .int n ∧ (0 ≤ n ∧ n < 2 ^ 63) ∧ F n := ⟨i, rfl, h, k⟩
theorem some_loc {O : Sto} {n : Nat} {ps : List PV} (h : O[n]? = some (some (.lst ps))) : (lstOf O (.loc n)).isSome = true := by rw [lst_loc h]; rfl
def memD (i : Int) : List Int → Prop
  | [] => False
  | [n] => i = n
  | n :: m :: r => i = n ∨ memD i (m :: r)
theorem memD_iff {i : Int} : ∀ {ns : List Int}, memD i ns ↔ i ∈ ns
  | [] => by simp [memD]
  | [n] => by simp [memD]
  | n :: m :: r => by
    have h := memD_iff (i := i) (ns := m :: r)
    unfold memD
    rw [h]
    simp
instance {i : Int} {ns : List Int} : Decidable (memD i ns) := decidable_of_iff (i ∈ ns) memD_iff.symm
theorem go_in0 {O : Sto} {i : Int} {q : PV} {ps : List PV} {ns : List Int} {P : Prop} {QP : PV → Sto → Prop} (e : seqOf O q = some ps) (ei : ps = (ps.map unP).map .int) (e3 : ps.map unP = ns) (hP : memD i ns = P) (k : QP (.bl (@decide P (Classical.propDecidable P))) O) : Go (inS false (.int i) q O) QP := by
  subst hP
  subst e3
  refine go_inI (ns := ps.map unP) (by rw [← ei]; exact e) ?_
  have : @decide (memD i (ps.map unP)) (Classical.propDecidable _) = decide (i ∈ ps.map unP) := decide_eq_decide.mpr memD_iff
  rw [this] at k
  exact k
theorem go_in1 {O : Sto} {i : Int} {q : PV} {ps : List PV} {ns : List Int} {P : Prop} {QP : PV → Sto → Prop} (e : seqOf O q = some ps) (ei : ps = (ps.map unP).map .int) (e3 : ps.map unP = ns) (hP : memD i ns = P) (k : QP (.bl (!@decide P (Classical.propDecidable P))) O) : Go (inS true (.int i) q O) QP := by
  subst hP
  subst e3
  refine go_inI (ns := ps.map unP) (by rw [← ei]; exact e) ?_
  have : @decide (memD i (ps.map unP)) (Classical.propDecidable _) = decide (i ∈ ps.map unP) := decide_eq_decide.mpr memD_iff
  rw [this] at k
  exact k
/-! builders -/
def GoB (N : List Str → List PV → Slots → Sto → Prop) (r : BR) : Prop := match r with
  | .next ns ps s O => N ns ps s O
  | _ => False
section
variable {N : List Str → List PV → Slots → Sto → Prop} {x y : BF} {ns : List Str} {ps : List PV} {s : Slots} {O : Sto} {a : EF} {Q : PV → Sto → Prop}
theorem go_init {C : Str} {n M : Nat} {body : BF} {s' : Slots} (e : ps.length = n) (e2 : none :: ps.map some ++ List.replicate (M - (n + 1)) none = s') (k : GoB (fun ns qs _ O1 => Q (.ins C ns qs) O1) (body [] [] s' O)) : Go (mkIns C (mkInit n M body ps O)) Q := by
  unfold mkInit
  rw [if_pos e, e2]
  cases q : body [] [] s' O <;> rw [q] at k <;> first | exact k | exact k.elim
theorem go_bseq (k : GoB (fun ns ps s O => GoB N (y ns ps s O)) (x ns ps s O)) : GoB N (bSeq x y ns ps s O) := by
  unfold bSeq
  cases e : x ns ps s O <;> rw [e] at k <;> exact k
theorem go_bexp (k : Go (a s O) fun _ O1 => N ns ps s O1) : GoB N (bExp a ns ps s O) := by
  unfold bExp
  cases e : a s O <;> rw [e] at k <;> exact k
theorem go_bfld {f : Str} (k : Go (a s O) fun p O1 => ¬ (f ∈ ns ∨ 900 < ns.length) ∧ N (ns ++ [f]) (ps ++ [p]) s O1) : GoB N (bFld f a ns ps s O) := by
  unfold bFld
  cases e : a s O with
  | ok p O1 =>
    rw [e] at k
    obtain ⟨k1, k2⟩ := k
    simp only
    rw [if_neg k1]
    exact k2
  | _ => rw [e] at k; exact k.elim
theorem g_bf {A : Prop} {f : Str} (h : ¬ (f ∈ ns ∨ 900 < ns.length)) (k : A) : ¬ (f ∈ ns ∨ 900 < ns.length) ∧ A := ⟨h, k⟩
end
structure Ph (O0 : Sto) (p : Nat) (O : Sto) : Prop where
  pu : Pu O p
  len : O.length = O0.length
  oth : ∀ m : Nat, m ≠ p → O[m]? = O0[m]?
theorem Ph.start {O : Sto} {p : Nat} (h : Pu O p) : Ph O p O := ⟨h, rfl, fun _ _ => rfl⟩
structure Phx (O0 : Sto) (p : Nat) (ps : List PV) (O : Sto) : Prop where
  at_ : O[p]? = some (some (.lst ps))
  len : O.length = O0.length
  oth : ∀ m : Nat, m ≠ p → O[m]? = O0[m]?
theorem Ph.open {O0 O : Sto} {p : Nat} (h : Ph O0 p O) : ∃ a b c : Int, Phx O0 p [.int a, .int b, .int c] O ∧ 0 ≤ a ∧ a < 2147483399 ∧ 0 ≤ b := by
  obtain ⟨⟨a, b, c, e, h1⟩, h2, h3⟩ := h
  exact ⟨a, b, c, ⟨e, h2, h3⟩, h1⟩
theorem Phx.close {O0 O : Sto} {p : Nat} {a b c : Int} (h : Phx O0 p [.int a, .int b, .int c] O) (h1 : 0 ≤ a) (h2 : a < 2147483399) (h3 : 0 ≤ b) : Ph O0 p O := ⟨⟨a, b, c, h.at_, h1, h2, h3⟩, h.len, h.oth⟩
theorem g_subX {O0 O : Sto} {n j' : Nat} {i : Int} {ps : List PV} {v : PV} {s : Slots} {QS : Slots → Sto → Prop} (h : Phx O0 n ps O) (e2 : ixN ps.length i = some j') (k : ∀ O', Phx O0 n (ps.set j' v) O' → QS s O') : GSub v s (.loc n) (.int i) O QS :=
  g_sub h.at_ e2 (k _ ⟨get_set h.at_, by rw [List.length_set]; exact h.len, fun m hm => by rw [List.getElem?_set_ne (Ne.symm hm)]; exact h.oth m hm⟩)
theorem go_ixX {O0 O : Sto} {n : Nat} {i : Int} {ps : List PV} {r : PV} {QP : PV → Sto → Prop} (h : Phx O0 n ps O) (e2 : atI ps i = some r) (k : QP r O) : Go (ixL (.loc n) (.int i) O) QP := go_ixL (lst_loc h.at_) e2 k
theorem Phx.new {O : Sto} {ps : List PV} : Phx (O ++ [some (.lst ps)]) O.length ps (O ++ [some (.lst ps)]) := ⟨get_app, rfl, fun _ _ => rfl⟩
theorem law_sp {K : PySem.W.Frag} {m : MF} {ns : List Int} {H : Hp} {a : Addr} {Q : VK} {E : XK} (hm : Go (m [.rol (ns.map .int)] []) fun q _ => q = .bl true) (hS : SqL K H a (ns.map V.int)) (hQ : ∀ H', Q (.bl true) H') : spM K false m [.ref a] H Q E := by
  have e : fz [] [] [] H = H := funext fun b => by unfold fz ers; simp [lv]
  obtain ⟨q, O', e1, rfl⟩ := hm.ex
  refine ⟨[], [], [], [.rol (ns.map .int)], ⟨rfl, by simp [lv], fun _ h => (nomatch h), fun _ h => (nomatch h), fun n b p h => by simp at h⟩, ⟨_, [], rfl, ⟨a, ns.map V.int, rfl, by rw [e]; exact hS, RepL.mapV (f := PV.int) (g := V.int) (fun _ => rfl) ns⟩, rfl⟩, ?_⟩
  rw [e1]
  intro v ι' H' S X r
  rw [show v = .bl true from r]
  exact hQ H'
end Qx

/-! Own layer Yd: lambdas that capture nothing; the table of code objects is a thing that changes. -/
namespace Qx
open PySem PySem.Spec PyProof.Rows L2 Gx
/-! ### the making -/
abbrev tA (K : PySem.W.Frag) (t : TabI) : Addr := (He.cT K (t.d, t.x)).2
section
variable {X : Cx} {pins : List (Addr × Obj)} {σ : L2.St} {H : Hp} {s : Shared}
end
/-! ### lambda a: a[i], of a tuple -/
/-! ### min(x, key=lambda a: a[1], default=None) -/
section
variable {X : Cx}
end
/-! ### its mirror -/
section
variable {K : PySem.W.Frag}
end
/-! ### a def's code object -/
class TbC (K : PySem.W.Frag) (mg : Str → Option Value) (base : Heap) (ds : List TabI) : Prop where
  tb : ∀ t ∈ ds, LamX.TabB base mg (He.cT K (t.d, t.x)).1 (He.cT K (t.d, t.x)).2
/-! ### t[i:j], the whole tuple too -/
def slTA (p : PV) (i j : Option Int) (O : Sto) : PR PV := match tupOf p with
  | some ps => .ok (.tup (cutP ps i j)) O
  | none => .bad
/-! ### the law's own promise where a table stands -/
end Qx

/-! Own layer Ye: == of two tuples of own instances, where each is alike to its fellow. -/
namespace Gx
open PySem PySem.Spec PyProof.Rows L2
section
variable {X : Cx} {k j : Nat} {ps : List Str} {sp : Sp} {d : He.DefD} {C : Addr}
end
end Gx
namespace Qx
open PySem PySem.Spec PyProof.Rows L2 Gx
section
variable {K : PySem.W.Frag} {C : Str} {mf : MF}
end
section
variable {C : Str} {m : MF} {O : Sto} {QP : PV → Sto → Prop} {ps qs : List PV}
end
end Qx

/-! Own layer Yf: sorted of whole numbers and of texts, and of a dict's keys; a dict's keys in a list; len of a dict; dict displays. -/
namespace Qx
open PySem PySem.Spec PyProof.Rows L2 Gx
theorem hu_of {k : Nat} {A : Around} (r : Room k A) : A.units + 1 < cLine := by
  have := r.un
  omega
theorem pw_eq : ∀ {l m : List Int}, l.Perm m → l.Pairwise (· ≤ ·) → m.Pairwise (· ≤ ·) → l = m
  | [], m, h, _, _ => (List.length_eq_zero_iff.mp (by rw [← h.length_eq]; rfl)).symm
  | a :: l, [], h, _, _ => by
    have := h.length_eq
    simp at this
  | a :: l, b :: m, h, h1, h2 => by
    have e : a = b := by
      have ha : a ∈ b :: m := h.mem_iff.mp List.mem_cons_self
      have hb : b ∈ a :: l := h.mem_iff.mpr List.mem_cons_self
      rcases List.mem_cons.mp ha with z | z
      · exact z
      · rcases List.mem_cons.mp hb with y | y
        · exact y.symm
        · have := (List.pairwise_cons.mp h1).1 b y
          have := (List.pairwise_cons.mp h2).1 a z
          omega
    subst e
    rw [pw_eq (List.Perm.cons_inv h) (List.pairwise_cons.mp h1).2 (List.pairwise_cons.mp h2).2]
def leZ (a b : Int) : Bool := decide (a ≤ b)
def sortZ (ns : List Int) : List Int := ns.mergeSort leZ
theorem sortZ_pw (ns : List Int) : (sortZ ns).Pairwise (· ≤ ·) := (List.pairwise_mergeSort (le := leZ) (fun a b c h h' => decide_eq_true (Int.le_trans (of_decide_eq_true h) (of_decide_eq_true h'))) (fun a b => by
  unfold leZ
  rcases Int.le_total a b with h | h
  · rw [decide_eq_true h]; rfl
  · rw [decide_eq_true h, Bool.or_true]) ns).imp fun h => of_decide_eq_true h
theorem sortZ_eq {ns ms : List Int} (h : ms.Perm ns) (hp : ms.Pairwise (· ≤ ·)) : ms = sortZ ns := pw_eq (h.trans (List.mergeSort_perm ns leZ).symm) hp (sortZ_pw ns)
def keysI : Kvs → Option (List Int)
  | [] => some []
  | (.inl i, _) :: r => (keysI r).map (i :: ·)
  | _ => none
theorem keysI_eq : ∀ {kvs : Kvs} {ns : List Int}, keysI kvs = some ns → kvs.map (·.1) = ns.map Sum.inl
  | [], ns, h => by cases h; rfl
  | (.inl i, p) :: r, ns, h => by
    obtain ⟨ms, h1, rfl⟩ := Option.map_eq_some_iff.mp (show (keysI r).map (i :: ·) = some ns from h)
    rw [List.map_cons, List.map_cons, keysI_eq h1]
  | (.inr _, _) :: _, _, h => by cases h
def bSortDZ := b1 fun p O => match (kvOf O p).bind keysI with
  | some ns => if decide (ns.length < 64) = true then .ok (.lst ((sortZ ns).map .int)) O else .bad
  | none => .bad
section
variable {K : PySem.W.Frag}
def rSortDZ : List V → Hp → VK → Prop := fun xs H Q => ∃ (a : Addr) (kvs : List (Key × V)) (ks : List Int), xs = [.ref a] ∧ Rd H a (.dK kvs) ∧ kvs.map (·.1) = ks.map Sum.inl ∧ ks.length < 64 ∧
    ∀ (ys : List Int) (p : Addr), ys.Perm ks → ys.Pairwise (· ≤ ·) → H p = none → Q (.ref p) (upd H p (.lst (ys.map V.int)))
theorem cb_sortDZ : CbS K rSortDZ bSortDZ := cb_1 fun R ι O H p x E Q S r1 h => by
  cases e : (kvOf O p).bind keysI with
  | none => simp [e] at h; exact h.elim
  | some ns =>
    simp only [e] at h
    split at h
    · rename_i c
      obtain ⟨kvs, e3, e4⟩ := Option.bind_eq_some_iff.mp e
      obtain ⟨a, ws, h1, h2, h3⟩ := kv_read S r1 e3
      refine ⟨a, ws, ns, by rw [h1], .inl h2, by rw [h3.fst]; exact keysI_eq e4, of_decide_eq_true c, fun ns' q hp hw hq => ?_⟩
      rw [sortZ_eq hp hw]
      obtain ⟨S2, X2, e5⟩ := S.newF hq (.lst ((sortZ ns).map V.int))
      exact h.at S2 X2 ⟨q, _, rfl, e5, RepL.mapV (f := PV.int) (g := V.int) (fun _ => rfl) _⟩
    · exact h.elim
end
section
variable {O : Sto} {p : PV} {QP : PV → Sto → Prop} {ns : List Int} {kvs : Kvs}
theorem go_sortDZ (e : kvOf O p = some kvs) (e2 : keysI kvs = some ns) (h : ns.length < 64) (k : QP (.lst ((sortZ ns).map .int)) O) : Go (bSortDZ [p] O) QP := by
  unfold bSortDZ b1
  simp only [e, Option.bind_some, e2, decide_eq_true h, if_true]
  exact k
end
end Qx

/-! Own layer Yg: {k: v, ..}. -/
namespace Qx
open PySem PySem.Spec PyProof.Rows L2 Gx
def prF : List (EF × EF) → Slots → Sto → PR (List (PV × PV))
  | [], _, O => .ok [] O
  | (a, b) :: r, s, O => (a s O).bind fun p O1 => (b s O1).bind fun q O2 => (prF r s O2).bind fun l O3 => .ok ((p, q) :: l) O3
def kvsOf : List (PV × PV) → Option Kvs
  | [] => some []
  | (p, v) :: r => match keyP p, kvsOf r with
    | some k, some l => some ((k, v) :: l)
    | _, _ => none
def RepPs (K : PySem.W.Frag) (ι : List Addr) (G : Hp) : List (PV × PV) → List (V × V) → Prop
  | [], ws => ws = []
  | (p, q) :: r, ws => ∃ x y t, ws = (x, y) :: t ∧ Rep K ι G p x ∧ Rep K ι G q y ∧ RepPs K ι G r t
theorem RepPs.kvs {K : PySem.W.Frag} {ι : List Addr} {G : Hp} : ∀ {l : List (PV × PV)} {ws : List (V × V)} {kvs : Kvs}, RepPs K ι G l ws → kvsOf l = some kvs → ∃ us : List (Key × V), ws = us.map (fun kv => (kV kv.1, kv.2)) ∧ KvR K ι G kvs us
  | [], ws, kvs, h, e => by cases e; rw [show ws = [] from h]; exact ⟨[], rfl, rfl⟩
  | (p, v) :: r, ws, kvs, ⟨x, y, t, h1, h2, h3, h4⟩, e => by
    subst h1
    unfold kvsOf at e
    cases e1 : keyP p with
    | none => simp [e1] at e
    | some k =>
      cases e2 : kvsOf r with
      | none => simp [e1, e2] at e
      | some l =>
        simp only [e1, e2, Option.some.injEq] at e
        subst e
        obtain ⟨us, g1, g2⟩ := h4.kvs e2
        exact ⟨(k, y) :: us, by rw [g1, key_read h2 e1]; rfl, y, us, rfl, h3, g2⟩
inductive SimPs (K : PySem.W.Frag) : List (TE × TE) → List (EF × EF) → Prop
  | nil : SimPs K [] []
  | cons {ta tb : TE} {fa fb : EF} {ts : List (TE × TE)} {fs : List (EF × EF)} (ha : SimE K none ta fa) (hb : SimE K none tb fb) (r : SimPs K ts fs) : SimPs K ((ta, tb) :: ts) ((fa, fb) :: fs)
section
variable {K : PySem.W.Frag} {E : XM} {ts : List (TE × TE)} {fs : List (EF × EF)}
theorem SimPs.run (h : SimPs K ts fs) : ∀ {R : List (Addr × HO)} {ι : List Addr} {O O1 : Sto} {H : Hp} {σ : L2.St} {s : Slots} {l : List (PV × PV)} {Q : List (V × V) → Hp → Prop}, Sim K R ι O H → SlR K ι (fz R ι O H) σ s → prF fs s O = .ok l O1 →
    (∀ ws ι1 H1, Sim K R ι1 O1 H1 → Ext R ι O H ι1 O1 H1 → RepPs K ι1 (fz R ι1 O1 H1) l ws → Q ws H1) → tPairs ts σ H Q := by
  induction h with
  | nil =>
    intro R ι O O1 H σ s l Q S L e k
    cases e
    exact k [] ι H S .refl rfl
  | @cons ta tb fa fb ts fs ha hb _ ih =>
    intro R ι O O1 H σ s l Q S L e k
    unfold prF at e
    obtain ⟨p, Oa, e1, e⟩ := PR.bind_ok e
    obtain ⟨q, Ob, e2, e⟩ := PR.bind_ok e
    obtain ⟨l', Oc, e3, e⟩ := PR.bind_ok e
    cases e
    refine ha R ι O H σ s _ S L ?_
    rw [e1]
    intro x ι1 H1 S1 X1 r1
    refine hb R ι1 Oa H1 σ s _ S1 (L.ext X1) ?_
    rw [e2]
    intro y ι2 H2 S2 X2 r2
    exact ih S2 (L.ext (X1.trans X2)) e3 fun ws ι3 H3 S3 X3 r3 => k _ ι3 H3 S3 (X1.trans (X2.trans X3)) ⟨x, y, ws, rfl, (X2.trans X3).rep r1, X3.rep r2, r3⟩
end
/-! walk -/
section
variable {s : Slots} {O : Sto} {QP : PV → Sto → Prop}
end
end Qx

/-! Own layer Yh: for k, v in d.items(), d a dict that changes; it is out of the store while the loop runs. -/
namespace Qx
open PySem PySem.Spec PyProof.Rows L2 Gx
/-! ### pure readings -/
/-! ### the loop -/
section
variable {K : PySem.W.Frag} {E : XM} {R : List (Addr × HO)} {ι ι' : List Addr} {O O' : Sto} {H H' : Hp} {n : Nat} {a : Addr} {d : PV} {od : Obj} {ws : List (Key × V)} {D : Ends}
end
end Qx

/-! Own layer Yi: sorted of a list of data of one kind. -/
namespace Gx
open PySem PySem.Spec PyProof.Rows L2
end Gx
namespace Qx
open PySem PySem.Spec PyProof.Rows L2 Gx
section
variable {K : PySem.W.Frag}
end
section
variable {O : Sto} {p : PV} {QP : PV → Sto → Prop} {ps : List PV} {ds : List PyData}
end
end Qx

/-! Own layer Yj: dict(list of pairs), tuple(dict). -/
namespace Qx
open PySem PySem.Spec PyProof.Rows L2 Gx
section
variable {X : Cx} {K : PySem.W.Frag}
end
section
variable {K : PySem.W.Frag} {R : List (Addr × HO)} {ι : List Addr} {O : Sto} {H : Hp}
end
/-! the call of tuple on a dict -/
section
variable {prog : Program} {w : World} {A : Around} {E : Value → Shared → Prop} {s : Shared} {d : Addr} {kvs : List (Key × Value)} {ep : Nat}
end
section
variable {O : Sto} {p : PV} {QP : PV → Sto → Prop} {ps : List PV} {kvs : Kvs}
end
end Qx

/-! Own layer Yk: exact tuples: tuple(d.items()), dict(such a tuple). -/
namespace Gx
open PySem PySem.Spec PyProof.Rows L2
section
variable {prog : Program} {w : World} {A : Around} {E : Value → Shared → Prop} {s : Shared} {r d : Addr} {kvs : List (Key × Value)} {ep : Nat}
end
section
variable {X : Cx} {e : Expr} {te : TE} {p apos cpos pos : Pos}
end
end Gx
namespace Qx
open PySem PySem.Spec PyProof.Rows L2 Gx
section
variable {K : PySem.W.Frag} {R : List (Addr × HO)} {ι : List Addr} {O : Sto} {H H1 : Hp}
end
section
variable {s : Slots} {O : Sto} {p : PV} {QP : PV → Sto → Prop} {ps : List PV} {kvs : Kvs} {a : EF}
end
end Qx

/-! Own layer Yl: enumerate of a list or a tuple. -/
namespace Gx
open PySem PySem.Spec PyProof.Rows L2
open PySem.Sem (wp)
end Gx
namespace Qx
open PySem PySem.Spec PyProof.Rows L2 Gx
end Qx

/-! Own layer Ym: dict(dict), list.insert(0, x). -/
namespace Qx
open PySem PySem.Spec PyProof.Rows L2 Gx
section
variable {K : PySem.W.Frag}
end
section
variable {O : Sto} {p : PV} {QP : PV → Sto → Prop} {kvs : Kvs}
end
end Qx

/-! Own layer Yn: tuple(list) as an exact tuple, sorted(dict) with texts as keys. -/
namespace Gx
open PySem PySem.Spec PyProof.Rows L2
end Gx
namespace Qx
open PySem PySem.Spec PyProof.Rows L2 Gx
/-! texts in order -/
section
variable {O : Sto} {p : PV} {QP : PV → Sto → Prop} {kvs : Kvs} {ns : List Str} {ps : List PV}
end
end Qx

/-! Own layer Yo: the sum of a tuple of whole numbers. -/
namespace Gx
open PySem PySem.Spec PyProof.Rows L2
end Gx
namespace Qx
open PySem PySem.Spec PyProof.Rows L2 Gx
end Qx

/-! Own layer Yp: len(set(whole numbers that are none twice)). -/
namespace Qx
open PySem PySem.Spec PyProof.Rows L2 Gx
end Qx

/-! Own layer Yq: enumerate of a list that may change. -/
namespace Qx
open PySem PySem.Spec PyProof.Rows L2 Gx
def iEM (a : AF) : IF := fun s O => (a s O).bind fun ps O1 => match ps with
  | [p] => match itemsOf O1 p with
    | some (xs, g) => .ok (enumP 0 xs, g) O1
    | none => .bad
  | _ => .bad
theorem sim_iEM {K : PySem.W.Frag} {E : XM} {tA : TA} {fA : AF} (hA : SimA K E tA fA) : SimIt K E (iEnum K tA) (iEM fA) := fun R ι O H σ s Q S L h =>
  hA R ι O H σ s _ S L (h.bind fun ps O1 xs ι1 H1 S1 X1 r1 h1 => by
    match ps, h1, r1 with
    | [p], h1, ⟨x, t, e, r2, e2⟩ =>
      cases e2
      subst e
      simp only at h1
      cases c1 : itemsOf O1 p with
      | none => simp [c1] at h1; exact h1.elim
      | some w =>
        obtain ⟨as, g⟩ := w
        simp only [c1] at h1
        obtain ⟨a, e1, gd, rd⟩ := items_read S1 r2 c1
        obtain ⟨xs, h3, h4⟩ := rd R ι1 O1 H1 S1 .refl same_refl gd
        refine ⟨a, xs, by rw [e1], h3, h1.here S1 fun R' ι' O' H' S' p1 sm gd' i => ?_⟩
        obtain ⟨xs, h3, h4⟩ := rd R' ι' O' H' S' p1 sm gd'
        refine ⟨fun p ep => ?_, fun hl => ⟨xs, h3, by rw [h4.len]; rw [enumP_len] at hl; exact hl⟩⟩
        obtain ⟨u, g1, g3⟩ := enumP_get ep
        obtain ⟨u', g4, g5⟩ := h4.get g1
        refine ⟨⟨xs, u', h3, g4⟩, fun z H'' yl => ?_⟩
        obtain ⟨T, x1, f1, f2, f3, f4⟩ := yl
        have f4 := f4 xs h3
        rw [g4] at f4
        cases f4
        obtain ⟨S2, X2, e4⟩ := S'.newF f2 (.tup [.int (i : Nat), u'])
        subst f3
        subst g3
        exact ⟨ι', S2, X2, T, _, f1, SqT.of e4, .consR (by rw [Nat.zero_add]; rfl) (.one (X2.rep g5))⟩)
theorem go_iEM {f : AF} {s : Slots} {O : Sto} {QI : ItP → Sto → Prop} (k : Go (f s O) fun ps O1 => ∃ p xs g, ps = [p] ∧ itemsOf O1 p = some (xs, g) ∧ QI (enumP 0 xs, g) O1) : Go (iEM f s O) QI := go_bind (k.mono fun ps O1 ⟨p, xs, g, e, e2, h⟩ => by
  subst e
  simp only [e2]
  exact h)
theorem enumP_map : ∀ (xs : List PV) (k : Nat), enumP k xs = (List.range xs.length).map fun i => .tup [.int ((k + i : Nat) : Int), xs.getD i .non]
  | [], _ => rfl
  | x :: xs, k => by
    rw [enumP, enumP_map xs (k + 1), List.length_cons, List.range_succ_eq_map, List.map_cons, List.map_map]
    congr 1
    refine List.map_congr_left fun i _ => ?_
    show PV.tup [.int ((k + 1 + i : Nat) : Int), xs.getD i .non] = PV.tup [.int ((k + (i + 1) : Nat) : Int), (x :: xs).getD (i + 1) .non]
    rw [show k + 1 + i = k + (i + 1) by omega]
    rfl
theorem go_setd {a b c : EF} {s : Slots} {O : Sto} {Q : PV → Sto → Prop} (h : Go (a s O) fun p O1 => (∃ kv, kvOf O1 p = some kv) ∧ Go (b s O1) fun q O2 => Go (c s O2) fun r O3 => ∃ n kvs k, p = .loc n ∧ kvOf O3 (.loc n) = some kvs ∧ keyP q = some k ∧ szLt kvs.length = true ∧ (∀ v, valP kvs k = some v → Q v O3) ∧ (valP kvs k = none → Q r (O3.set n (some (dicP (putP kvs k r)))))) : Go (eSetd a b c s O) Q := go_bind (h.mono fun p O1 ⟨⟨kv, e⟩, h⟩ => by
  simp only [e, Option.isSome_some, if_true]
  refine go_bind (h.mono fun q O2 h => go_bind (h.mono fun r O3 ⟨n, kvs, k, e0, e1, e2, e3, z1, z2⟩ => ?_))
  subst e0
  simp only [e1, e2, e3, if_true]
  cases ev : valP kvs k with
  | some v => exact z1 v ev
  | none => exact z2 ev)
end Qx

/-! Own layer Yr: an except clause of three classes. -/
namespace Gx
open PySem PySem.Spec PyProof.Rows L2
end Gx
namespace Qx
open PySem PySem.Spec PyProof.Rows L2 Gx
end Qx

/-! Own layer Ys: == of two dicts whose values are (text, own instance), each alike to its fellow; the dicts are locked meanwhile. -/
namespace GQ
open PySem PySem.W
section
variable {prog : Program} {w : World} {K : Type} [DecidableEq K] {knd : KeyKind prog w K}
end
end GQ
namespace Gx
open PySem PySem.Spec PyProof.Rows L2
section
variable {X : Cx} {k j : Nat} {ps : List Str} {sp : Sp} {d : He.DefD} {C : Addr}
end
end Gx

/-! Own layer Yt: the mirror of == of two dicts that change, each value a (text, own instance) alike to its fellow's. -/
namespace Qx
open PySem PySem.Spec PyProof.Rows L2 Gx
section
variable {K : PySem.W.Frag} {C : Str} {mf : MF} {R : List (Addr × HO)} {O : Sto}
def Reps (K : PySem.W.Frag) (ι : List Addr) (G : Hp) : List (PV × PV) → List (V × V) → Prop
  | [], wl => wl = []
  | (p, q) :: r, wl => ∃ v y t, wl = (v, y) :: t ∧ Rep K ι G p v ∧ Rep K ι G q y ∧ Reps K ι G r t
theorem Reps.mono {ι ι' : List Addr} {G G' : Hp} (hp : Pre ι ι') (e : Same G G') : ∀ {prs : List (PV × PV)} {wl : List (V × V)}, Reps K ι G prs wl → Reps K ι' G' prs wl
  | [], _, h => h
  | (_, _) :: _, _, ⟨v, y, t, h1, h2, h3, h4⟩ => ⟨v, y, t, h1, h2.mono hp e, h3.mono hp e, h4.mono hp e⟩
end
end Qx

/-! Own layer Yu: defs that reach repr of data: they are called where nothing is being shown. -/
namespace Gx
open PySem PySem.Spec PyProof.Rows L2
structure FnG (P : Program) (w : World) (K : PySem.W.Frag) (mg : Str → Option Value) (base : Heap) (CX : CXT) (k : Nat) (f : Addr) (fd : FuncData) (ps : List Str) (sp : Sp) : Prop where
  len : ∀ vs H Q E, sp vs H Q E → vs.length = ps.length
  run : ∀ (A : Around) (outer : List Env) (s : Shared) (H : Hp) (args : Args) (us : List Value) (vs : List V) (Q : VK) (E : XK), Room k A → A.guards = some [] → Env0 P w K mg base A outer s H → BindsTo s fd args (ps.zip us) → Vals vs us → sp vs H Q E → codeAny (model P w) A (.call (.ref f) args) (CR CX outer P w H s Q E) s
theorem fn_ofG {CX : CXT} {P : Program} {w : World} {K : PySem.W.Frag} {mg : Str → Option Value} {base : Heap} {k : Nat} {f : Addr} {name qual : Str} {params : Arguments} {body : List Stmt} {scope : Scope} {dV kV doc pm cdv ct oc : Value} {an od : Option Addr} {osl : Array (Option Value)} {N ps : List Str} {sp : Sp}
    (lk : List.lookup f K = some { cls := oc, dict := od, data := .func (PySem.W.fnOf name qual params body scope dV kV doc pm an cdv ct), slots := osl }) (hcd : PySem.W.codeIn K cdv qual = true) (S : FnScope N ps scope) (len : ∀ vs H Q E, sp vs H Q E → vs.length = ps.length)
    (hbody : ∀ (A : Around) (outer : List Env) (s : Shared) (H : Hp) (vs : List V) (Q : VK) (E : XK), Room k (A.deeper (envOfC qual scope s.heap.objs.size f cdv)) → (A.deeper (envOfC qual scope s.heap.objs.size f cdv)).guards = some [] → sp vs H Q E → ∃ t, PSs (cxOf CX P w K mg base N qual scope f cdv A outer s H E) body t ∧ t { nx := fun _ H' => Q .non H', rt := Q } (L2.start N vs) H) :
    FnG P w K mg base CX (k + 1) f (PySem.W.fnOf name qual params body scope dV kV doc pm an cdv ct) ps sp := by
  refine ⟨len, fun A outer s H args us vs Q E hr hg e0 hb r hsp => ?_⟩
  have hl := len vs H Q E hsp
  have KX := PySem.W.Frag.In.keeps e0.mod.kin fun b o e => (e0.bs b o e).1
  have lim := Heap.NoLimit.keeps e0.mod.nolimit fun b o e => (e0.bs b o e).1
  have hkind : ∀ x ∈ ps.zip us, scope.names.lookup x.1 = some .local ∨ (scope.names.lookup x.1 = some .cell ∧ ((cellsFrom (s.heap.objs.size + 1) scope.names []).lookup x.1).isSome = true) := fun (n, v) hy =>
    (S.par n (List.of_mem_zip hy).1).elim (fun q => .inl q) fun q => .inr ⟨q, PySem.W.cellsFrom_some scope.names (s.heap.objs.size + 1) [] (.inl q)⟩
  refine codeAny_call_function (Room.depth hr) (KX f _ lk) rfl S.co S.gen rfl (PySem.W.codeRec_of KX hcd) (hb _ _ _ _ (wpAny_newFunctionEnv_cells S.kind hkind fun env he s1 x => ?_))
  subst he
  refine ⟨Heap.NoLimit.keeps lim x.toInCall.keep, codeAny_func ?_⟩
  obtain ⟨t, ht, hq⟩ := hbody A outer s H vs Q E (Room.deeper hr (envOfC qual scope s.heap.objs.size f cdv)) hg hsp
  have I := inv_start (CX := CX) (E := E) S hr.hd e0 hl r x
  refine wpAny_mono (ht.run [] s1 (L2.start N vs) H { nx := fun _ H' => Q .non H', rt := Q } I hq) (fun fl s' hs => ?_) fun e s' hs => hs
  have fin : ∀ {σ' H' v u}, Inv (cxOf CX P w K mg base N qual scope f cdv A outer s H E) [] σ' H' s' → RelV v u → Q v H' → CE outer P w H s Q u s' := fun J rv q => ⟨_, _, J.os, J.bare, J.base, J.hok, rv, q⟩
  cases fl with
  | next => obtain ⟨σ', H', J, q⟩ := hs; exact fin (v := .non) J rfl q
  | brk => obtain ⟨_, _, _, q⟩ := hs; exact q.elim
  | cont => obtain ⟨_, _, _, q⟩ := hs; exact q.elim
  | ret u => obtain ⟨v, σ', H', J, rv, q⟩ := hs; exact fin J rv q
theorem okG {P : Program} {w : World} {K : PySem.W.Frag} {mg : Str → Option Value} {base : Heap} {x qual : Str} {params : Arguments} {body : List Stmt} {scope : Scope} {dvs : List V} {kws : List (Str × V)} {f : Addr} {fd : FuncData} {CX : CXT} {N ps : List Str} {k : Nat} {sp : Sp} (F : FunD K x qual params body scope dvs kws f fd) (S : FnScope N ps scope) (len : ∀ vs H Q E, sp vs H Q E → vs.length = ps.length)
    (h : ∀ (cdv : Value) (A : Around) (outer : List Env) (s : Shared) (H : Hp) (vs : List V) (Q : VK) (E : XK), Room k (A.deeper (envOfC qual scope s.heap.objs.size f cdv)) → (A.deeper (envOfC qual scope s.heap.objs.size f cdv)).guards = some [] → sp vs H Q E → ∃ t, PSs (cxOf CX P w K mg base N qual scope f cdv A outer s H E) body t ∧ t { nx := fun _ H' => Q .non H', rt := Q } (L2.start N vs) H) : FnG P w K mg base CX (k + 1) f fd ps sp := by
  obtain ⟨oc, od, dV, kV, doc, pm, an, cdv, ct, osl, e, lk, hcd, _, _⟩ := F.ex
  subst e
  exact fn_ofG lk hcd S len fun A outer s H vs Q E hr hg hsp => h cdv A outer s H vs Q E hr hg hsp
structure DOkG (P : Program) (w : World) (K : PySem.W.Frag) (mg : Str → Option Value) (base : Heap) (d : He.DefD) (CX : CXT) (k : Nat) (ps : List Str) (sp : Sp) : Prop where
  ex : ∃ fd, FunD K d.name d.qual d.params d.body d.scope (d.dvs K) (d.kws K) (He.fAd K d.at_) fd ∧ FnG P w K mg base CX k (He.fAd K d.at_) fd ps sp
section
variable {X : Cx} {CX : CXT} {d : He.DefD} {k j : Nat} {ps : List Str} {sp : Sp} {x : Str} {p pos : Pos} {e : Expr} {es : List Expr} {t : TA}
theorem pcG (D : DOkG X.prog X.w X.K X.mg X.base d CX0 k ps sp) (hm : X.mg x = some (.ref (He.fAd X.K d.at_))) (hb : BdN d ps) (hr : Room j X.A) (hgu : X.A.guards = some []) (hj : k ≤ j) (ha : PA X (e :: es) t) (hg : Gl X x := by rfl)
    (hdb : (x == ("__debug__" : Str)) = false := by decide) (he : starEach (e :: es) X.env = (false, eval e X.env) :: starEach es X.env := by rfl) (hpl : (backTo pos (starEach es X.env)).any (·.1) = false := by rfl) :
    PE X (.Call (.Name x p) (e :: es) [] pos) (tCall sp [] E0 t) := by
  obtain ⟨fd, F, G⟩ := D.ex
  refine ⟨fun pins s σ H Q I h => wpAny_Call_Name_kw (ld_glob I hg hm (PySem.W.callWith_K (h₀ := X.base) I.ok.mod.kin F.kp (thn (ha.run pos pins s σ H _ I h) fun us s1 ⟨vs, H1, I1, r, q⟩ => ⟨I1.kIn, ?_⟩) he hpl) hdb)⟩
  have q' : sp (vs ++ []) H1 Q E0 := q
  rw [List.append_nil] at q'
  have hl : us.length = ps.length := by rw [← r.length]; exact G.len _ _ _ _ q'
  have B := FunD.bdN F hb
  have bt := B s1 us I1.kIn (by rw [List.append_nil]; exact hl)
  rw [List.append_nil] at bt
  refine wpAny_call (codeAny_mono (G.run X.A X.stack s1 H1 ⟨us, []⟩ us vs Q E0 (hr.mono hj) hgu I1.env0 bt r q') fun r s' hq => ?_)
  cases r with
  | error e => exact hq.elim
  | ok fl =>
    cases fl with
    | ret u => exact I1.after hq
    | next => exact False.elim hq
    | brk => exact False.elim hq
    | cont => exact False.elim hq
def rReprD (K : PySem.W.Frag) (xs : List V) (H : Hp) (Q : VK) : Prop := ∃ a d, xs = [.ref a] ∧ Dp K H (.ref a) d ∧ d.showable = true ∧ d.hasDict = false ∧ d.depth ≤ 64 ∧ d.shown.length ≤ sizeLine ∧ Q (.str d.shown) H
theorem call_reprD (hg : X.A.guards = some []) (hr : Room j X.A) : CallR X (.builtin "repr") (rReprD X.K) := by
  intro pins s σ H xs us Q I r h
  obtain ⟨a, d, rfl, hd, h1, h2, h3, h4, q⟩ := h
  obtain ⟨u, rfl, rx⟩ := vals1 r
  obtain ⟨as, hR⟩ := Dp.reads I d _ u hd rx
  cases rx
  exact repr_of_reads' hR h1 (fun c => by rw [h2] at c; cases c) hg (by have := hr.un; omega) (fun _ _ e => e) (fun h' u tk hk => ⟨.str d.shown, H, I.kept hk, ⟨u, rfl⟩, q⟩) h4
end
end Gx
namespace Qx
open PySem PySem.Spec PyProof.Rows L2 Gx
def rpOk (d : PyData) : Bool := (match d with | .list _ => true | .tuple _ => true | _ => false) && (d.layable0 && (d.intsShort 13 && (d.showable && !d.hasDict)))
def bReprD (ps : List PV) (O : Sto) : PR PV := match ps with
  | [p] => match toD O p with
    | some d => if rpOk d = true then .ok (.str d.shown) O else .bad
    | none => .bad
  | _ => .bad
theorem cb_reprD {K : PySem.W.Frag} : CbS K (rReprD K) bReprD := by
  intro R ι O H ps xs E Q S r h
  match ps, h with
  | [], h => exact h.elim
  | _ :: _ :: _, h => exact h.elim
  | [p], h =>
    obtain ⟨x, t, e, r1, e2⟩ := r
    cases e2
    subst e
    unfold bReprD at h
    simp only at h
    cases e1 : toD O p with
    | none => simp only [e1] at h; exact h.elim
    | some d =>
      simp only [e1] at h
      split at h
      · rename_i c
        unfold rpOk at c
        simp only [Bool.and_eq_true, Bool.not_eq_true'] at c
        obtain ⟨c1, c2, c3, c4, c5⟩ := c
        have hd := toD_dp S r1 e1
        have hl := shown_le13 c2 c3
        have c6 : d.depth ≤ 64 := by
          have c2 : (PyData.canLay0 d && decide (PyData.depth d ≤ 64) && decide (PyData.weight d ≤ 2 ^ 20)) = true := c2
          simp only [Bool.and_eq_true, decide_eq_true_eq] at c2
          exact c2.1.2
        cases hd with
        | lst h1 h2 => exact ⟨_, _, rfl, .lst h1 h2, c4, c5, c6, Nat.le_trans hl (by decide), h.here S rfl⟩
        | tup h1 h2 => exact ⟨_, _, rfl, .tup h1 h2, c4, c5, c6, Nat.le_trans hl (by decide), h.here S rfl⟩
        | _ => cases c1
      · exact h.elim
theorem go_reprD {p : PV} {d : PyData} {O : Sto} {Q : PV → Sto → Prop} (e : toD O p = some d) (c : rpOk d = true) (k : Q (.str d.shown) O) : Go (bReprD [p] O) Q := by
  unfold bReprD
  simp only [e]
  rw [if_pos c]
  exact k
end Qx

/-! Own layer Yv: the law's end where it reaches repr: it is called where nothing is being shown. -/
namespace Gx
open PySem PySem.Spec PyProof.Rows L2
section
variable {P : Program} {w : World} {K : PySem.W.Frag} {mg mb : Str → Option Value} {CX : CXT} {k : Nat} {fa a : Addr} {fd : FuncData} {x : Str} {sp : Sp} {s₁ : Shared} {vs : List Value} {ns : List Int}
theorem end_core {H : Hp} (KX : K.In s₁.heap) (hns : s₁.heap.Ns mainGlobals mg) (hb : s₁.heap.Ns builtinsNs mb) (hbb : ∀ x : Str, x ≠ "__name__" → mb x = bootBuiltins x) (hlim : s₁.heap.NoLimit) (hg : s₁.gens = #[])
    (ha : s₁.heap.get? a = some { cls := .type "list", data := .seq vs.toArray }) (hr : Room k callerA)
    (F : ∀ base : Heap, K.In base → base.Ns mainGlobals mg → FnG P w K mg base CX k fa fd [x] sp) (hbind : ∀ (s : Shared) (u : Value), BindsTo s fd ⟨[u], []⟩ [(x, u)])
    (hsp : sp [.ref a] H (fun v _ => v = .bl true) fun _ _ _ => False) (hCX : ∀ e s', CX [] H s₁ (fun _ _ _ => False) e s' → False)
    (hO : Only H) (hok : HOk P w H s₁.heap) (only : ∀ b, H b ≠ none → b = a) (out : H a ≠ none → K.lookup a = none) :
    codeAny (model P w) callerA (.call (.ref fa) ⟨[.ref a], []⟩) (fun r s' => r = .ok (.ret (.bool true)) ∧ OldK s₁.heap s'.heap ∧ s'.os = s₁.os ∧ AllBare s'.gens) s₁ := by
  have free : ∀ {b : Addr} {o : Obj}, s₁.heap.get? b = some o → (b = a → H b = none) → (hidT s₁.heap H).get? b = some o := fun {b o} e h => hidT_get e (by
    by_cases c : b = a
    · exact h c
    · exact Classical.byContradiction fun q => c (only b q))
  have nsK : ∀ {b : Addr} {m : Str → Option Value}, s₁.heap.Ns b m → (hidT s₁.heap H).Ns b m := fun {b m} ⟨o, es, ep, e, d, r⟩ => ⟨o, es, ep, free e (fun c => by
    subst c
    rw [ha] at e
    cases e
    exact (nomatch (show Data.seq vs.toArray _ = Data.dict es ep from d))), d, r⟩
  have hK : K.In (hidT s₁.heap H) := fun b o e => free (KX b o e) fun c => by
    subst c
    refine Classical.byContradiction fun q => ?_
    rw [out q] at e
    cases e
  obtain ⟨mc, l1, l2⟩ := hlim
  have e0 : Env0 P w K mg (hidT s₁.heap H) callerA [] s₁ H := ⟨rfl, ⟨hK, nsK hns, ⟨mb, nsK hb, hbb⟩, ⟨mc, nsK l1, l2⟩⟩, fun b o e => of_hidT e, Nat.le_of_eq (hidT_size _ _), trivial, (fun b hb => (nomatch hb)), hok, .of_eq hg⟩
  refine codeAny_mono ((F _ hK (nsK hns)).run callerA [] s₁ H ⟨[.ref a], []⟩ [.ref a] [.ref a] _ _ hr rfl e0 (hbind s₁ (.ref a)) (.cons rfl .nil) hsp) fun r s' h => ?_
  match r, h with
  | .error e, h => exact (hCX e s' h).elim
  | .ok .next, h => exact False.elim h
  | .ok .brk, h => exact False.elim h
  | .ok .cont, h => exact False.elim h
  | .ok (.ret u), h =>
    obtain ⟨v, H', os, bare, un, hok', r', q⟩ := h
    have q : v = .bl true := q
    subst q
    obtain rfl : u = Value.bool true := r'
    refine ⟨rfl, OldK.of_keep fun b o e => ?_, os, bare⟩
    cases c : H b with
    | none => exact un.keep b o e c (by intro z; exact (nomatch z)) (by simp)
    | some y =>
      rcases hO b with z | ⟨ob, xs, z⟩
      · rw [c] at z; cases z
      · obtain ⟨e1, _⟩ := hok b _ z
        obtain ⟨e2, _⟩ := hok' b _ (un.frzs b ob _ z)
        rw [e] at e1
        cases e1
        exact e2
theorem law_callG (KX : K.In s₁.heap) (hns : s₁.heap.Ns mainGlobals mg) (hb : s₁.heap.Ns builtinsNs mb) (hbb : ∀ x : Str, x ≠ "__name__" → mb x = bootBuiltins x) (hlim : s₁.heap.NoLimit) (hg : s₁.gens = #[])
    (ha : s₁.heap.get? a = some { cls := .type "list", data := .seq vs.toArray }) (hi : IntsAre vs ns) (hl : ns.length ≤ sizeLine) (hr : Room k callerA)
    (F : ∀ base : Heap, K.In base → base.Ns mainGlobals mg → FnG P w K mg base CX k fa fd [x] sp) (hbind : ∀ (s : Shared) (u : Value), BindsTo s fd ⟨[u], []⟩ [(x, u)])
    (hsp : ∀ H : Hp, Only H → SqL K H a (ns.map V.int) → sp [.ref a] H (fun v _ => v = .bl true) fun _ _ _ => False)
    (hCX : ∀ H e s', CX [] H s₁ (fun _ _ _ => False) e s' → False) :
    codeAny (model P w) callerA (.call (.ref fa) ⟨[.ref a], []⟩) (fun r s' => r = .ok (.ret (.bool true)) ∧ OldK s₁.heap s'.heap ∧ s'.os = s₁.os ∧ AllBare s'.gens) s₁ := by
  have rv := vals_ints hi
  have lenV := hi.length
  have go : ∀ H : Hp, Only H → SqL K H a (ns.map V.int) → HOk P w H s₁.heap → (∀ b, H b ≠ none → b = a) → (H a ≠ none → K.lookup a = none) → _ := fun H hO hS h1 h2 h3 => end_core KX hns hb hbb hlim hg ha hr F hbind (hsp H hO hS) (hCX H) hO h1 h2 h3
  cases hk : K.lookup a with
  | some o =>
    have e := KX a o hk
    rw [ha] at e
    cases e
    exact go (fun _ => none) (fun _ => .inl rfl) (.inr ⟨_, vs.toArray, _, hk, rfl, rfl, rfl, by rw [List.size_toArray, lenV]; exact hl, by simpa using rv⟩) (fun b u z => (nomatch (show (none : Option HO) = some u from z))) (fun b z => absurd rfl z) fun z => absurd rfl z
  | none =>
    let o : Obj := { cls := .type "list", data := .seq vs.toArray }
    let H : Hp := fun b => if b = a then some (.frz o (.lst (ns.map V.int))) else none
    have at_a : H a = some (.frz o (.lst (ns.map V.int))) := if_pos rfl
    have off : ∀ {b}, b ≠ a → H b = none := fun c => if_neg c
    refine go H (fun b => ?_) (.inl (.inr ⟨o, at_a⟩)) (fun b u z => ?_) (fun b z => Classical.byContradiction fun c => z (off c)) fun _ => hk
    · by_cases c : b = a
      · exact .inr ⟨o, _, by rw [c]; exact at_a⟩
      · exact .inl (off c)
    · by_cases c : b = a
      · subst c
        rw [at_a] at z
        cases z
        exact ⟨ha, by rw [List.length_map]; exact hl, vs, _, rv, ha⟩
      · rw [off c] at z
        cases z
end
theorem walk_ofG {l : PySem.W.OpenLaw} {n k : Nat} {q : Program} {loose : List Str} {XP : (Str → Option Value) → Heap → Prop} {YP : World → Heap → Prop} {d : DefRec} {CX : CXT} {x : Str}
    (hn : l.most = some n) (hn2 : n ≤ sizeLine) (hdf : d.params.defaults = []) (hr : Room k callerA)
    (F : ∀ (w : World) (mg : Str → Option Value) (fa : Addr) (h : Heap), YP w h → h.Ns mainGlobals mg → mg d.name = some (.ref fa) →
      ∃ (K : PySem.W.Frag) (fd : FuncData) (sp : Sp), K.In h ∧ (∀ (s : Shared) (u : Value), BindsTo s fd ⟨[u], []⟩ [(x, u)]) ∧
        (∀ (H : Hp) (a : Addr) (ns : List Int), ns.length ≤ n → Only H → SqL K H a (ns.map V.int) → sp [.ref a] H (fun v _ => v = .bl true) fun _ _ _ => False) ∧
        ∀ base : Heap, K.In base → base.Ns mainGlobals mg → FnG l.prog w K mg base CX k fa fd [x] sp)
    (hCX : ∀ (H : Hp) (s : Shared) (e : Value) (s' : Shared), CX [] H s (fun _ _ _ => False) e s' → False) :
    PySem.W.WalkO q loose XP YP l.row.toRowW d [] (fun f vs => PySem.call f vs) := by
  refine Att.attach_call hn hdf fun w s₀ s₁ mg mb fa o pm cd doc a vs ns G Y ho hd hcd hmg hobj hints hlen hg => ?_
  obtain ⟨K, fd, sp, KX, hb, hsp, hF⟩ := F w mg fa _ Y G.T.g hmg
  exact law_callG KX G.T.g G.T.b G.T.builtins G.T.nolimit hg hobj hints (Nat.le_trans hlen hn2) hr hF hb (fun H hO hS => hsp H a ns hlen hO hS) fun H e s' => hCX H s₁ e s'
end Gx

/-! Own layer Yw: a try whose body never raises: its clauses are of no account. -/
namespace Gx
open PySem PySem.Spec PyProof.Rows L2
end Gx

/-! Own layer Yx: == and != of two lists of (text, text, own instance), each alike to its fellow. -/
namespace GQ
open PySem PySem.SeqAt PySem.W
open AutoSeq1 (wpAny_loadPart')
open MeetsSeq MeetsSeq2 MeetsSeq3 SeqRoads2
section
variable {prog : Program} {w : World} {A : Around} {R : Result → Shared → Prop}
end
section
variable {prog : Program} {w : World} {A : Around} {E : Value → Shared → Prop} {s : Shared}
end
end GQ
namespace Gx
open PySem PySem.Spec PyProof.Rows L2
section
variable {X : Cx} {k j : Nat} {ps : List Str} {sp : Sp} {d : He.DefD} {C : Addr}
end
end Gx
namespace Qx
open PySem PySem.Spec PyProof.Rows L2 Gx
def AlikeW (C : Str) (m : MF) (O : Sto) (p q : PV) : Prop := ∃ (z1 z2 : Str) (p2 q2 : PV), p = .tup [.str z1, .str z2, p2] ∧ q = .tup [.str z1, .str z2, q2] ∧ insIs O C p2 = true ∧ insIs O C q2 = true ∧ m [p2, q2] O = .ok (.bl true) O
def AlikeL (C : Str) (m : MF) (O : Sto) : List PV → List PV → Prop
  | [], [] => True
  | p :: ps, q :: qs => AlikeW C m O p q ∧ AlikeL C m O ps qs
  | _, _ => False
theorem AlikeL.len {C : Str} {m : MF} {O : Sto} : ∀ {ps qs : List PV}, AlikeL C m O ps qs → ps.length = qs.length
  | [], [], _ => rfl
  | _ :: _, _ :: _, h => by rw [List.length_cons, List.length_cons, h.2.len]
  | [], _ :: _, h => h.elim
  | _ :: _, [], h => h.elim
section
variable {K : PySem.W.Frag} {C : Str} {mf : MF} {R : List (Addr × HO)} {O : Sto}
end
section
variable {C : Str} {m : MF} {O : Sto} {QP : PV → Sto → Prop}
end
end Qx

/-! Own layer Yy: repr of lists and tuples that hold own instances with a __repr__ of their own. -/
namespace PySem.W
open PySem PySem.Spec PySem.Calls PyProof.Rows
section
variable {prog : Program} {w : World} {A : Around} {E : Value → Shared → Prop} {s : Shared} {K : Frag} {x C f : Addr} {ox : Obj} {od : Option Obj} {name : Str}
end
end PySem.W
namespace Qx
open PySem PySem.Spec PyProof.Rows L2 Gx
open Builtin Builtin.List
def kids (O : Sto) (p : PV) : Option (Bool × List PV) := match tupOf p with
  | some ps => some (true, ps)
  | none => (lstOf O p).map fun ps => (false, ps)
noncomputable def rprI (m : MF) (p : PV) (O : Sto) : Option Str := by
  classical exact if h : ∃ z, m [p] O = .ok (.str z) O then some h.choose else none
theorem rprI_some {m : MF} {p : PV} {O : Sto} {z : Str} (h : rprI m p O = some z) : m [p] O = .ok (.str z) O := by
  unfold rprI at h
  split at h
  · rename_i c
    cases h
    exact c.choose_spec
  · cases h
def shL (f : PV → Option Str) : List PV → Option (List Str)
  | [] => some []
  | p :: ps => match f p, shL f ps with
    | some t, some ts => some (t :: ts)
    | _, _ => none
theorem shL_cons {f : PV → Option Str} {p : PV} {ps : List PV} {ts : List Str} (h : shL f (p :: ps) = some ts) : ∃ t r, ts = t :: r ∧ f p = some t ∧ shL f ps = some r := by
  unfold shL at h
  cases e1 : f p with
  | none => rw [e1] at h; cases h
  | some t =>
    cases e2 : shL f ps with
    | none => rw [e1, e2] at h; cases h
    | some r => rw [e1, e2] at h; cases h; exact ⟨t, r, rfl, rfl, rfl⟩
theorem shL_get {f : PV → Option Str} : ∀ {ps : List PV} {ts : List Str} {i : Nat} {p : PV}, shL f ps = some ts → ps[i]? = some p → ∃ t, ts[i]? = some t ∧ f p = some t
  | [], _, _, _, _, e => by simp at e
  | q :: ps, _, 0, p, h, e => by
    obtain ⟨t, r, rfl, h1, _⟩ := shL_cons h
    simp only [List.getElem?_cons_zero, Option.some.injEq] at e
    subst e
    exact ⟨t, rfl, h1⟩
  | q :: ps, _, i + 1, p, h, e => by
    obtain ⟨t, r, rfl, _, h2⟩ := shL_cons h
    exact shL_get (ps := ps) (i := i) h2 (by simpa using e)
noncomputable def shG (tab : List (Str × MF)) (O : Sto) (f : PV → Option Str) (p : PV) : Option Str := match kids O p with
  | some (true, ps) => (shL f ps).map tupleText
  | some (false, ps) => (shL f ps).map listText
  | none => match insOf O p with
    | some (C, _, _) => match tab.lookup C with
      | some m => rprI m p O
      | none => none
    | none => none
def scT : PV → Option Str
  | .non => some "None"
  | .bl b => some (if b then ("True" : Str) else "False")
  | .int i => if i.natAbs.log2 < 1920 then some (toString i) else none
  | .str z => if (reprText z).length ≤ sizeLine then some (reprText z) else none
  | _ => none
def shD : List PV → List PV → Option (List Str)
  | [], [] => some []
  | k :: ks, v :: vs => match keyP k, scT k, scT v, shD ks vs with
    | some _, some a, some b, some r => some ((a ++ ": " ++ b) :: r)
    | _, _, _, _ => none
  | _, _ => none
noncomputable def shO (tab : List (Str × MF)) (O : Sto) : Nat → PV → Option Str
  | 0, _ => none
  | n + 1, p => match p with
    | .non => some "None"
    | .bl b => some (if b then ("True" : Str) else "False")
    | .int i => if i.natAbs.log2 < 1920 then some (toString i) else none
    | .str z => if (reprText z).length ≤ sizeLine then some (reprText z) else none
    | .dic ks vs => (shD ks vs).map dictText
    | p => shG tab O (shO tab O n) p
def pdp (O : Sto) : Nat → PV → Nat
  | 0, _ => 0
  | n + 1, p => match kids O p with
    | some (_, ps) => 1 + (ps.map (pdp O n)).foldr max 0
    | none => 0
section
variable {tab : List (Str × MF)} {O : Sto}
inductive ShC (tab : List (Str × MF)) (O : Sto) (n : Nat) : PV → Str → Prop
  | non : ShC tab O n .non "None"
  | bl (b : Bool) : ShC tab O n (.bl b) (if b then ("True" : Str) else "False")
  | int (i : Int) (h : i.natAbs.log2 < 1920) : ShC tab O n (.int i) (toString i)
  | str (z : Str) (h : (reprText z).length ≤ sizeLine) : ShC tab O n (.str z) (reprText z)
  | tup {p : PV} {ps : List PV} {ts : List Str} (h : tupOf p = some ps) (k : shL (shO tab O n) ps = some ts) : ShC tab O n p (tupleText ts)
  | lst {p : PV} {ps : List PV} {ts : List Str} (h0 : tupOf p = none) (h : lstOf O p = some ps) (k : shL (shO tab O n) ps = some ts) : ShC tab O n p (listText ts)
  | dic {ks vs : List PV} {ts : List Str} (k : shD ks vs = some ts) : ShC tab O n (.dic ks vs) (dictText ts)
  | ins {p : PV} {C : Str} {ns : List Str} {ps : List PV} {m : MF} {t : Str} (h0 : kids O p = none) (h : insOf O p = some (C, ns, ps)) (e : tab.lookup C = some m) (k : m [p] O = .ok (.str t) O) : ShC tab O n p t
theorem shC_of {n : Nat} {p : PV} {t : Str} (h : shO tab O (n + 1) p = some t) : ShC tab O n p t := by
  have gen : shG tab O (shO tab O n) p = some t → ShC tab O n p t := fun h => by
    unfold shG at h
    cases e : kids O p with
    | some q =>
      obtain ⟨b, ps⟩ := q
      rw [e] at h
      cases e1 : tupOf p with
      | some qs =>
        have e2 : kids O p = some (true, qs) := by unfold kids; rw [e1]
        rw [e] at e2
        cases e2
        obtain ⟨ts, e3, rfl⟩ := Option.map_eq_some_iff.mp h
        exact .tup e1 e3
      | none =>
        have e2 : kids O p = (lstOf O p).map fun ps => (false, ps) := by unfold kids; rw [e1]
        rw [e] at e2
        obtain ⟨qs, e3, e4⟩ := Option.map_eq_some_iff.mp e2.symm
        cases e4
        obtain ⟨ts, e5, rfl⟩ := Option.map_eq_some_iff.mp h
        exact .lst e1 e3 e5
    | none =>
      rw [e] at h
      simp only at h
      cases e1 : insOf O p with
      | none => rw [e1] at h; cases h
      | some q =>
        obtain ⟨C, ns, ps⟩ := q
        rw [e1] at h
        simp only at h
        cases e2 : tab.lookup C with
        | none => rw [e2] at h; cases h
        | some m =>
          rw [e2] at h
          exact .ins e e1 e2 (rprI_some h)
  cases p with
  | non => cases h; exact .non
  | bl b => cases h; exact .bl b
  | int i =>
    have h : (if i.natAbs.log2 < 1920 then some (toString i : Str) else none) = some t := h
    split at h
    · rename_i c; cases h; exact .int i c
    · cases h
  | str z =>
    have h : (if (reprText z).length ≤ sizeLine then some (reprText z) else none) = some t := h
    split at h
    · rename_i c; cases h; exact .str z c
    · cases h
  | dic ks vs =>
    obtain ⟨ts, e, rfl⟩ := Option.map_eq_some_iff.mp (show (shD ks vs).map dictText = some t from h)
    exact .dic e
  | _ => exact gen h
theorem kids_tup {p : PV} {ps : List PV} (h : tupOf p = some ps) : kids O p = some (true, ps) := by unfold kids; rw [h]
theorem kids_lst {p : PV} {ps : List PV} (h0 : tupOf p = none) (h : lstOf O p = some ps) : kids O p = some (false, ps) := by unfold kids; rw [h0]; simp only [h]; rfl
theorem pdp_kid {n : Nat} {p : PV} {b : Bool} {ps : List PV} (h : kids O p = some (b, ps)) : pdp O (n + 1) p = 1 + (ps.map (pdp O n)).foldr max 0 := by
  conv => lhs; unfold pdp
  rw [h]
end
end Qx

/-! Own layer Yz: the run of repr over lists and tuples that hold own instances. -/
namespace Gx
open PySem PySem.Spec PyProof.Rows L2
structure RmT (tab : List (Str × MF)) (k : Nat) (A : Around) : Prop where
  hd : tab = [] ∨ A.handled = none
  dp : A.depth + 3 * k + 5 < recursionLimit
  un : A.units + 16 * k + 200 < cLine
theorem RmT.mono {tab : List (Str × MF)} {j k : Nat} {A : Around} (r : RmT tab k A) (h : j ≤ k) : RmT tab j A := ⟨r.hd, by have := r.dp; omega, by have := r.un; omega⟩
theorem RmT.in1 {tab : List (Str × MF)} {k : Nat} {A : Around} (r : RmT tab (k + 1) A) : RmT tab k A.in1 :=
  ⟨r.hd, by have := r.dp; show A.depth + 3 * k + 5 < _; omega, by have := r.un; show A.units + 1 + 16 * k + 200 < _; omega⟩
end Gx
namespace Qx
open PySem PySem.Spec PyProof.Rows L2 Gx
open Builtin Builtin.List
inductive TabR (X : Cx) (k : Nat) : List (Str × MF) → Prop
  | nil : TabR X k []
  | cons {C : Str} {m : MF} {r : List (Str × MF)} {d : He.DefD} (D : DOk X.prog X.w X.K X.mg X.base d CX0 k ["self"] (spM X.K false m)) (hm : Meth X.K (He.ga X.K C) "__repr__" (He.fAd X.K d.at_)) (hb : BdN d ["self"]) (t : TabR X k r) : TabR X k ((C, m) :: r)
theorem TabR.at_ {X : Cx} {k : Nat} {tab : List (Str × MF)} (T : TabR X k tab) {C : Str} {m : MF} (e : tab.lookup C = some m) : ∃ d, DOk X.prog X.w X.K X.mg X.base d CX0 k ["self"] (spM X.K false m) ∧ Meth X.K (He.ga X.K C) "__repr__" (He.fAd X.K d.at_) ∧ BdN d ["self"] := by
  induction T with
  | nil => cases e
  | @cons C' m' r d D hm hb t ih =>
    rw [List.lookup_cons] at e
    split at e
    · rename_i c
      cases e
      have c : C = C' := by simpa using c
      subst c
      exact ⟨d, D, hm, hb⟩
    · exact ih e
section
variable {X : Cx} {tab : List (Str × MF)} {R : List (Addr × HO)} {O : Sto}
theorem dep_same {pins : List (Addr × Obj)} {σ : L2.St} {ι : List Addr} {H : Hp} {s : Shared} (S : Sim X.K R ι O H) (I : Inv X pins σ H s) : ∀ (n : Nat) (p q : PV) (a : Addr) (t t' : Str), Rep X.K ι (fz R ι O H) p (.ref a) → Rep X.K ι (fz R ι O H) q (.ref a) → shO tab O n p = some t → shO tab O n q = some t' → pdp O n p = pdp O n q
  | 0, _, _, _, _, _, _, _, h, _ => by cases h
  | n + 1, p, q, a, t, t', r1, r2, h1, h2 => by
    have two : ∀ {b : Bool} {ps qs : List PV} {ts ts' : List Str} {xs : List V}, kids O p = some (b, ps) → kids O q = some (b, qs) → shL (shO tab O n) ps = some ts → shL (shO tab O n) qs = some ts' → RepL X.K ι (fz R ι O H) ps xs → RepL X.K ι (fz R ι O H) qs xs → pdp O (n + 1) p = pdp O (n + 1) q := fun {b ps qs ts ts' xs} e1 e2 k1 k2 l1 l2 => by
      rw [pdp_kid e1, pdp_kid e2]
      congr 2
      refine List.ext_getElem? fun i => ?_
      rw [List.getElem?_map, List.getElem?_map]
      have hl : ps.length = qs.length := by rw [← l1.len, ← l2.len]
      cases c : ps[i]? with
      | none =>
        have := List.getElem?_eq_none_iff.mp c
        rw [List.getElem?_eq_none_iff.mpr (by omega)]
      | some p1 =>
        obtain ⟨hi, _⟩ := List.getElem?_eq_some_iff.mp c
        obtain ⟨q1, c2⟩ : ∃ q1, qs[i]? = some q1 := ⟨_, List.getElem?_eq_getElem (by omega)⟩
        rw [c2]
        obtain ⟨x, ex, rx⟩ := l1.get c
        obtain ⟨y, ey, ry⟩ := l2.get c2
        rw [ex] at ey
        cases ey
        obtain ⟨t1, _, ht1⟩ := shL_get k1 c
        obtain ⟨t2, _, ht2⟩ := shL_get k2 c2
        show some _ = some _
        congr 1
        cases x with
        | ref b => exact dep_same S I n p1 q1 b t1 t2 rx ry ht1 ht2
        | _ =>
          have lf : ∀ {p : PV} {t : Str}, (∃ v, Rep X.K ι (fz R ι O H) p v ∧ ∀ a, v ≠ .ref a) → shO tab O n p = some t → pdp O n p = 0 := fun {p t} ⟨v, r, hv⟩ h => by
            cases n with
            | zero => rfl
            | succ n =>
              have : kids O p = none := by
                cases e : kids O p with
                | none => rfl
                | some w =>
                  refine absurd ?_ (fun z : False => z)
                  obtain ⟨b, ps⟩ := w
                  unfold kids at e
                  cases e1 : tupOf p with
                  | some qs =>
                    obtain ⟨a, xs, e2, _⟩ := tupOf_read r e1
                    exact hv a e2
                  | none =>
                    rw [e1] at e
                    obtain ⟨qs, e2, _⟩ := Option.map_eq_some_iff.mp e
                    obtain ⟨a, xs, e3, _⟩ := lst_read S r e2
                    exact hv a e3
              unfold pdp
              rw [this]
          rw [lf ⟨_, rx, fun _ => nofun⟩ ht1, lf ⟨_, ry, fun _ => nofun⟩ ht2]
    have tup_lst : ∀ {xs ys : List V}, SqT X.K H a xs → SqL X.K H a ys → False := fun h h' => by
      obtain ⟨its, r, ⟨o, e, c, n, d⟩, _⟩ := I.tuple h
      obtain ⟨its', r', ⟨o', n', e', c', _, d'⟩, _⟩ := I.list h'
      rw [e] at e'
      cases e'
      rw [c] at c'
      injection c' with c'
      exact absurd c' (by decide)
    have noI : ∀ {C : Addr} {dx : Addr} {fl : List (Str × V)}, H a = some (.ins C dx fl) → ∀ {o : Obj} {items : Array Value} {n : Nat}, s.heap.get? a = some o → o.data = .seq items n → False := fun {C dx fl} h {o items n} e d => by
      obtain ⟨mA, J, _⟩ := ins_get I.hok h
      obtain ⟨_, _, _, ob, _⟩ := (show ObjOk _ _ H s.heap a (.ins _ _ _) from I.hok a _ h)
      rw [e] at ob
      cases ob
      cases d
    have insT : ∀ {C : Addr} {dx : Addr} {fl : List (Str × V)} {xs : List V}, H a = some (.ins C dx fl) → SqT X.K H a xs → False := fun h h' => by
      obtain ⟨its, r, ⟨o, e, c, n, d⟩, _⟩ := I.tuple h'
      exact noI h e d
    have insL : ∀ {C : Addr} {dx : Addr} {fl : List (Str × V)} {xs : List V}, H a = some (.ins C dx fl) → SqL X.K H a xs → False := fun h h' => by
      obtain ⟨its, r, ⟨o, n, e, c, _, d⟩, _⟩ := I.list h'
      exact noI h e d
    have noD : ∀ {kvs : List (Key × V)}, H a = some (.dK kvs) → ∀ {o : Obj} {items : Array Value} {n : Nat}, s.heap.get? a = some o → o.data = .seq items n → False := fun {kvs} h {o items n} e d => by
      obtain ⟨_, _, vs, _, ⟨o', es, ep, e', _, d', _⟩⟩ := (show ObjOk _ _ H s.heap a (.dK _) from I.hok a _ h)
      rw [e] at e'
      cases e'
      rw [d] at d'
      cases d'
    have dicT : ∀ {kvs : List (Key × V)} {xs : List V}, H a = some (.dK kvs) → SqT X.K H a xs → False := fun h h' => by
      obtain ⟨its, r, ⟨o, e, c, n, d⟩, _⟩ := I.tuple h'
      exact noD h e d
    have dicL : ∀ {kvs : List (Key × V)} {xs : List V}, H a = some (.dK kvs) → SqL X.K H a xs → False := fun h h' => by
      obtain ⟨its, r, ⟨o, n, e, c, _, d⟩, _⟩ := I.list h'
      exact noD h e d
    have z0 : ∀ {p : PV}, kids O p = none → pdp O (n + 1) p = 0 := fun {p} e => by unfold pdp; rw [e]
    cases shC_of h1 with
    | non => cases r1
    | bl _ => cases r1
    | int _ _ => cases r1
    | str _ _ => cases r1
    | tup e1 k1 =>
      obtain ⟨a1, xs, ea, sq1, l1⟩ := tupOf_read r1 e1
      cases ea
      cases shC_of h2 with
      | non => cases r2
      | bl _ => cases r2
      | int _ _ => cases r2
      | str _ _ => cases r2
      | tup e2 k2 =>
        obtain ⟨a2, ys, ea, sq2, l2⟩ := tupOf_read r2 e2
        cases ea
        have ex := I.tuple_inj (sqt_same S.frozen sq1) (sqt_same S.frozen sq2)
        subst ex
        exact two (kids_tup e1) (kids_tup e2) k1 k2 l1 l2
      | lst e0 e2 k2 =>
        obtain ⟨a2, ys, ea, sq2, l2⟩ := lst_read S r2 e2
        cases ea
        exact (tup_lst (sqt_same S.frozen sq1) sq2).elim
      | dic k2 =>
        obtain ⟨a2, kvs, ea, hi, _⟩ := r2
        cases ea
        exact (dicT (S.frozen _ _ hi) (sqt_same S.frozen sq1)).elim
      | ins e0 e2 _ _ =>
        obtain ⟨a2, dx, ys, ea, hi, _⟩ := ins_read S r2 e2
        cases ea
        exact (insT hi (sqt_same S.frozen sq1)).elim
    | lst e0 e1 k1 =>
      obtain ⟨a1, xs, ea, sq1, l1⟩ := lst_read S r1 e1
      cases ea
      cases shC_of h2 with
      | non => cases r2
      | bl _ => cases r2
      | int _ _ => cases r2
      | str _ _ => cases r2
      | tup e2 k2 =>
        obtain ⟨a2, ys, ea, sq2, l2⟩ := tupOf_read r2 e2
        cases ea
        exact (tup_lst (sqt_same S.frozen sq2) sq1).elim
      | lst e3 e2 k2 =>
        obtain ⟨a2, ys, ea, sq2, l2⟩ := lst_read S r2 e2
        cases ea
        have ex := I.list_inj sq1 sq2
        subst ex
        exact two (kids_lst e0 e1) (kids_lst e3 e2) k1 k2 l1 l2
      | dic k2 =>
        obtain ⟨a2, kvs, ea, hi, _⟩ := r2
        cases ea
        exact (dicL (S.frozen _ _ hi) sq1).elim
      | ins e3 e2 _ _ =>
        obtain ⟨a2, dx, ys, ea, hi, _⟩ := ins_read S r2 e2
        cases ea
        exact (insL hi sq1).elim
    | dic k1 =>
      obtain ⟨a1, kvs, ea, hi, _⟩ := r1
      cases ea
      cases shC_of h2 with
      | non => cases r2
      | bl _ => cases r2
      | int _ _ => cases r2
      | str _ _ => cases r2
      | tup e2 k2 =>
        obtain ⟨a2, ys, ea, sq2, l2⟩ := tupOf_read r2 e2
        cases ea
        exact (dicT (S.frozen _ _ hi) (sqt_same S.frozen sq2)).elim
      | lst e3 e2 k2 =>
        obtain ⟨a2, ys, ea, sq2, l2⟩ := lst_read S r2 e2
        cases ea
        exact (dicL (S.frozen _ _ hi) sq2).elim
      | dic k2 => rfl
      | ins e3 e2 _ _ => rw [z0 e3]; rfl
    | ins e0 e1 _ _ =>
      obtain ⟨a1, dx, xs, ea, hi, _⟩ := ins_read S r1 e1
      cases ea
      cases shC_of h2 with
      | non => cases r2
      | bl _ => cases r2
      | int _ _ => cases r2
      | str _ _ => cases r2
      | tup e2 k2 =>
        obtain ⟨a2, ys, ea, sq2, l2⟩ := tupOf_read r2 e2
        cases ea
        exact (insT hi (sqt_same S.frozen sq2)).elim
      | lst e3 e2 k2 =>
        obtain ⟨a2, ys, ea, sq2, l2⟩ := lst_read S r2 e2
        cases ea
        exact (insL hi sq2).elim
      | dic k2 => rw [z0 e0]; rfl
      | ins e3 e2 _ _ => rw [z0 e0, z0 e3]

def ClrG (K : PySem.W.Frag) (R : List (Addr × HO)) (ι : List Addr) (O : Sto) (H : Hp) (tab : List (Str × MF)) (M : Nat) (g : List Code) (p : PV) : Prop :=
  ∀ id v rest kw, Code.builtin id ⟨v :: rest, kw⟩ ∈ g → ∀ b, v = .ref b → (∃ q t, Rep K ι (fz R ι O H) q (.ref b) ∧ shO tab O M q = some t ∧ pdp O M p < pdp O M q) ∨ ∃ od kvs, (b, HO.frz od (.dK kvs)) ∈ R
theorem ClrG.nil {K : PySem.W.Frag} {ι : List Addr} {H : Hp} {M : Nat} {p : PV} : ClrG K R ι O H tab M [] p := fun _ _ _ _ h => nomatch h
theorem ClrG.ext {K : PySem.W.Frag} {ι ι' : List Addr} {H H' : Hp} {M : Nat} {g : List Code} {p : PV} (h : ClrG K R ι O H tab M g p) (x : Ext R ι O H ι' O H') : ClrG K R ι' O H' tab M g p := fun id v rest kw hm b e => by
  rcases h id v rest kw hm b e with ⟨q, t, h1, h2, h3⟩ | h4
  · exact .inl ⟨q, t, x.rep h1, h2, h3⟩
  · exact .inr h4
theorem no_dk {pins : List (Addr × Obj)} {σ : L2.St} {ι : List Addr} {H : Hp} {s : Shared} {n : Nat} {p : PV} {a : Addr} {t : Str} {od : Obj} {kvs : List (Key × V)} (S : Sim X.K R ι O H) (I : Inv X pins σ H s) (r : Rep X.K ι (fz R ι O H) p (.ref a)) (hp : shO tab O n p = some t) (hm : (a, HO.frz od (.dK kvs)) ∈ R) : False := by
  have h : H a = some (.frz od (.dK kvs)) := S.hid _ hm
  have noD : ∀ {o : Obj} {items : Array Value} {n : Nat}, s.heap.get? a = some o → o.data = .seq items n → False := fun {o items n} e d => by
    obtain ⟨_, _, _, vs, _, ⟨o', es, ep, e', _, d', _⟩⟩ := (show ObjOk _ _ H s.heap a (.frz _ (.dK _)) from I.hok a _ h)
    rw [e] at e'
    cases e'
    rw [d] at d'
    cases d'
  cases n with
  | zero => cases hp
  | succ n =>
    cases shC_of hp with
    | non => cases r
    | bl _ => cases r
    | int _ _ => cases r
    | str _ _ => cases r
    | tup e1 k1 =>
      obtain ⟨a1, xs, ea, sq, l⟩ := tupOf_read r e1
      cases ea
      obtain ⟨its, r, ⟨o, e, c, n, d⟩, _⟩ := I.tuple (sqt_same S.frozen sq)
      exact noD e d
    | lst e0 e1 k1 =>
      obtain ⟨a1, xs, ea, sq, l⟩ := lst_read S r e1
      cases ea
      obtain ⟨its, r, ⟨o, n, e, c, _, d⟩, _⟩ := I.list sq
      exact noD e d
    | dic k1 =>
      obtain ⟨a1, kvs', ea, hi, _⟩ := r
      cases ea
      have := S.frozen _ _ hi
      rw [h] at this
      cases this
    | ins e0 e1 _ _ =>
      obtain ⟨a1, dx, xs, ea, hi, _⟩ := ins_read S r e1
      cases ea
      rw [h] at hi
      cases hi
theorem ClrG.clear {pins : List (Addr × Obj)} {σ : L2.St} {ι : List Addr} {H : Hp} {s : Shared} {M : Nat} {g : List Code} {p : PV} {a : Addr} {t : Str} (h : ClrG X.K R ι O H tab M g p) (S : Sim X.K R ι O H) (I : Inv X pins σ H s) (r : Rep X.K ι (fz R ι O H) p (.ref a)) (hp : shO tab O M p = some t) : Clear g a := fun id v rest kw hm e => by
  rcases h id v rest kw hm a e with ⟨q, t', h1, h2, h3⟩ | ⟨od, kvs, h4⟩
  · have := dep_same S I M p q a t t' r h1 hp h2
    omega
  · exact no_dk S I r hp h4
end
end Qx

/-! Own layer Za: == and != of data, item by item: what is never looked at may be anything; empty dicts are alike. -/
namespace Qx
open PySem PySem.Spec PyProof.Rows L2 Gx
section
variable {X : Cx} {R : List (Addr × HO)} {O : Sto} {ι : List Addr} {H : Hp} {pins : List (Addr × Obj)} {σ : L2.St} {s : Shared}
def EqD (s : Shared) (n : Nat) (u v : Value) (b : Bool) : Prop := ∀ A : Around, A.units + n < cLine → SeqAt.EqAt A s u v b
theorem EqD.same {n : Nat} {v : Value} : EqD s n v v true := fun A _ => SeqAt.EqAt.same v
theorem d0_any {P P' : Program} {w w' : World} {h : Heap} {a : Addr} (d : h.DictOf (mixKind P w) a []) : h.DictOf (mixKind P' w') a [] := by
  obtain ⟨o, es, ep, h1, h2, h3, h4, h5, h6⟩ := d
  have e : es.toList = [] := by
    cases c : es.toList with
    | nil => rfl
    | cons _ _ => rw [c] at h5; cases h5
  refine ⟨o, es, ep, h1, h2, h3, fun x hx => ?_, by rw [e]; exact .nil, List.nodup_nil⟩
  have : x ∈ es.toList := by simpa using hx
  rw [e] at this
  cases this
theorem EqD.d0 {n : Nat} {P : Program} {w : World} {a a' : Addr} (hne : a ≠ a') (sa : (a == sysModules) = false) (sb : (a' == sysModules) = false) (da : s.heap.DictOf (mixKind P w) a []) (db : s.heap.DictOf (mixKind P w) a' []) : EqD s (n + 1) (.ref a) (.ref a') true :=
  fun A hu prog w E Q hq => SeqAt.EqIn.of_refs hne (fun E Q hq => PySem.W.keq_eqIn (knd := mixKind prog w) (r := true) sa sb (d0_any da) (d0_any db) (by omega) (fun _ => .nil) hq) E Q hq
end
end Qx

/-! Own layer Zb: the great letters of a text. -/
namespace Qx
open PySem PySem.Spec PyProof.Rows L2 Gx
variable {K : PySem.W.Frag}
end Qx

/-! Own layer Zc: a tuple of targets whose first one is a place of a list. -/
namespace Qx
open PySem PySem.Spec PyProof.Rows L2 Gx
end Qx

/-! Own layer Zd: the end of a law that reaches repr and holds lambdas. -/
namespace Gx
open PySem PySem.Spec PyProof.Rows L2
section
variable {P : Program} {w : World} {K : PySem.W.Frag} {mg mb : Str → Option Value} {CX : CXT} {k : Nat} {fa a : Addr} {cs : List (Addr × Addr)} {fd : FuncData} {x : Str} {sp : Sp} {s₁ : Shared} {vs : List Value} {ns : List Int}
end
end Gx

/-! Own layer Ze: y == x, where x is an own instance and y is of a built-in kind: the reflected own ==. -/
namespace HN
open PySem PySem.Spec PyProof.Rows PySem.SeqAt
open AutoSeq1 (wpAny_loadPart')
open MeetsSeq MeetsSeq2 MeetsSeq3 SeqRoads2
section
variable {M : Model} {prog : Program} {w : World} {A : Around} {E : Value → Shared → Prop} {s : Shared} {K : PySem.W.Frag} {x C f dx : Addr} {ox : Obj} {od : Option Obj}
end
end HN
namespace Gx
open PySem PySem.Spec PyProof.Rows L2
inductive OthV (K : PySem.W.Frag) (H : Hp) : V → String → Prop
  | non : OthV K H .non "NoneType"
  | int (i : Int) : OthV K H (.int i) "int"
  | str (z : Str) : OthV K H (.str z) "str"
  | tup (a : Addr) (ty : TyX K H (.ref a) (.type "tuple")) : OthV K H (.ref a) "tuple"
section
variable {X : Cx} {k j : Nat} {ps : List Str} {sp : Sp} {d : He.DefD} {C : Addr}
end
section
variable {X : Cx} {k j : Nat} {ps : List Str} {sp : Sp} {d : He.DefD} {C : Addr}
end
end Gx
namespace Qx
open PySem PySem.Spec PyProof.Rows L2 Gx
section
variable {K : PySem.W.Frag} {cs : List Str} {C : Str} {mf : MF}
end
end Qx

/-! Own layer Zf: repr of a dict that may change, whose values are lists, tuples, own instances. -/
namespace Qx
open PySem PySem.Spec PyProof.Rows L2 Gx
open Builtin Builtin.List
section
variable {X : Cx} {tab : List (Str × MF)} {R : List (Addr × HO)} {O : Sto}
inductive EntG (X : Cx) (tab : List (Str × MF)) (O : Sto) (n : Nat) (ι : List Addr) (G : Hp) : List DictEntry → List Str → Prop
  | nil : EntG X tab O n ι G [] []
  | cons {e : DictEntry} {k v : PV} {x y : V} {a b : Str} {es : List DictEntry} {ts : List Str} (rk : Rep X.K ι G k x) (uk : RelV x e.key) (hk : shO tab O n k = some a) (rv : Rep X.K ι G v y) (uv : RelV y e.val) (hv : shO tab O n v = some b) (t : EntG X tab O n ι G es ts) : EntG X tab O n ι G (e :: es) ((a ++ ": " ++ b) :: ts)
theorem EntG.len {n : Nat} {ι : List Addr} {G : Hp} {es : List DictEntry} {ts : List Str} (h : EntG X tab O n ι G es ts) : ts.length = es.length := by
  induction h with
  | nil => rfl
  | cons _ _ _ _ _ _ _ ih => simp [ih]
end
end Qx

/-! Own layer Zg: enumerate of a tuple or a list, also of one that may change. -/
namespace Qx
open PySem PySem.Spec PyProof.Rows L2 Gx
end Qx

/-! Own layer Zh: == of two dicts whose values are (text, own instance), whatever the answer. -/
namespace GQ
open PySem PySem.SeqAt
open AutoSeq1 (wpAny_loadPart')
open MeetsSeq MeetsSeq2 MeetsSeq3 SeqRoads2
section
variable {prog : Program} {w : World} {A : Around} {R : Result → Shared → Prop}
end
section
variable {prog : Program} {w : World} {A : Around} {E : Value → Shared → Prop} {s : Shared}
end
end GQ
namespace GQ
open PySem PySem.W
section
variable {prog : Program} {w : World} {K : Type} [DecidableEq K] {knd : KeyKind prog w K}
end
end GQ
namespace Gx
open PySem PySem.Spec PyProof.Rows L2
section
variable {X : Cx} {k j : Nat} {ps : List Str} {sp : Sp} {d : He.DefD} {C : Addr}
end
end Gx
namespace Qx
open PySem PySem.Spec PyProof.Rows L2 Gx
section
variable {K : PySem.W.Frag} {C : Str} {mf : MF} {R : List (Addr × HO)} {O : Sto}
def RepO1 (K : PySem.W.Frag) (ι : List Addr) (G : Hp) : Option PV → Option V → Prop
  | none, y => y = none
  | some q, y => ∃ v, y = some v ∧ Rep K ι G q v
def RepsO (K : PySem.W.Frag) (ι : List Addr) (G : Hp) : List (PV × Option PV) → List (V × Option V) → Prop
  | [], wl => wl = []
  | (p, q) :: r, wl => ∃ v y t, wl = (v, y) :: t ∧ Rep K ι G p v ∧ RepO1 K ι G q y ∧ RepsO K ι G r t
theorem RepO1.mono {ι ι' : List Addr} {G G' : Hp} (hp : Pre ι ι') (e : Same G G') {q : Option PV} {y : Option V} (h : RepO1 K ι G q y) : RepO1 K ι' G' q y := by
  cases q with
  | none => exact h
  | some q =>
    obtain ⟨v, h1, h2⟩ := h
    exact ⟨v, h1, h2.mono hp e⟩
theorem RepsO.mono {ι ι' : List Addr} {G G' : Hp} (hp : Pre ι ι') (e : Same G G') : ∀ {prs : List (PV × Option PV)} {wl : List (V × Option V)}, RepsO K ι G prs wl → RepsO K ι' G' prs wl
  | [], _, h => h
  | (_, _) :: _, _, ⟨v, y, t, h1, h2, h3, h4⟩ => ⟨v, y, t, h1, h2.mono hp e, h3.mono hp e, h4.mono hp e⟩
end
end Qx

/-! Own layer Zi: tuples of a display, t + u, t[a:b], t[::-1] as exact tuples (dict(t) wants them). -/
namespace L2
open PySem PySem.Spec PyProof.Rows HT
section
variable {X : Cx} {es : List Expr} {t : TA} {pos : Pos}
end
end L2
namespace Qx
open PySem PySem.Spec PyProof.Rows L2 Gx
section
variable {O : Sto} {s : Slots} {QP : PV → Sto → Prop} {ps qs : List PV}
end
end Qx

/-! Own layer Zj: str of a truth. -/
namespace L2
open PySem PySem.Spec PyProof.Rows HT
section
variable {X : Cx}
end
end L2
namespace Qx
open PySem PySem.Spec PyProof.Rows L2 Gx
section
variable {K : PySem.W.Frag}
end
end Qx

/-! Own layer Zk: + and - of a whole number or a truth. -/
namespace L2
open PySem PySem.Spec PyProof.Rows HT
section
variable {X : Cx}
end
end L2
namespace Qx
open PySem PySem.Spec PyProof.Rows L2 Gx
section
variable {K : PySem.W.Frag}
end
section
variable {O : Sto} {Q : PV → Sto → Prop} {i j : Int} {b : Bool}
end
end Qx

/-! Own layer Zl: list of a text. -/
namespace L2
open PySem PySem.Spec PyProof.Rows
end L2
namespace Qx
open PySem PySem.Spec PyProof.Rows L2 Gx
section
variable {K : PySem.W.Frag}
end
end Qx

/-! Own layer Zm: min and max of a dict with whole numbers as keys. -/
namespace L2
open PySem PySem.Spec PyProof.Rows
end L2
namespace Qx
open PySem PySem.Spec PyProof.Rows L2 Gx
section
variable {K : PySem.W.Frag}
end
end Qx

/-! Own layer Zn: dicts whose keys are tuples of whole numbers and texts, shown in their place: d[(a, b)] = v, d.get((a, b), c), d[(a, b)], (a, b) in d. -/
namespace Qx
open PySem PySem.Spec PyProof.Rows L2 Gx
abbrev KvsT := List (List Key × PV)
def valT (kvs : KvsT) (k : List Key) : Option PV := (kvs.find? fun kv => decide (kv.1 = k)).map (·.2)
def putT (kvs : KvsT) (k : List Key) (v : PV) : KvsT := if (kvs.any fun kv => decide (kv.1 = k)) = true then kvs.map (fun kv => if kv.1 = k then (kv.1, v) else kv) else kvs ++ [(k, v)]
def dtP (kvs : KvsT) : PV := .dtk (kvs.map (·.1)) (kvs.map (·.2))
def keysP : List PV → Option (List Key)
  | [] => some []
  | p :: ps => match keyP p, keysP ps with
    | some k, some r => some (k :: r)
    | _, _ => none
def kvT (O : Sto) (p : PV) : Option KvsT := match p with
  | .loc n => match O[n]? with
    | some (some (.dtk ks vs)) => if ks.length = vs.length then some (ks.zip vs) else none
    | _ => none
  | _ => none
theorem kvT_loc {O : Sto} {n : Nat} {kvs : KvsT} (h : O[n]? = some (some (dtP kvs))) : kvT O (.loc n) = some kvs := by
  simp only [kvT, h, dtP]
  rw [if_pos (by rw [List.length_map, List.length_map])]
  congr 1
  induction kvs with
  | nil => rfl
  | cons w r ih =>
    rw [List.map_cons, List.map_cons, List.zip_cons_cons]
    have : ∀ l : KvsT, (l.map (·.1)).zip (l.map (·.2)) = l := fun l => by
      induction l with
      | nil => rfl
      | cons w l ih => rw [List.map_cons, List.map_cons, List.zip_cons_cons, ih]
    rw [this r]
section
variable {K : PySem.W.Frag} {ι ι' : List Addr} {G G' : Hp}
def KtR (K : PySem.W.Frag) (ι : List Addr) (G : Hp) : KvsT → List (List Key × V) → Prop
  | [], ws => ws = []
  | (k, p) :: r, ws => ∃ v t, ws = (k, v) :: t ∧ Rep K ι G p v ∧ KtR K ι G r t
theorem KtR.len : ∀ {kvs : KvsT} {ws : List (List Key × V)}, KtR K ι G kvs ws → ws.length = kvs.length
  | [], _, h => by rw [show _ = [] from h]; rfl
  | (k, p) :: r, _, ⟨v, t, h1, _, h3⟩ => by rw [h1, List.length_cons, List.length_cons, KtR.len h3]
theorem KtR.val {k : List Key} : ∀ {kvs : KvsT} {ws : List (List Key × V)}, KtR K ι G kvs ws → (valT kvs k = none ∧ valV ws k = none) ∨ ∃ p v, valT kvs k = some p ∧ valV ws k = some v ∧ Rep K ι G p v
  | [], ws, h => by rw [show ws = [] from h]; exact .inl ⟨rfl, rfl⟩
  | (j, p) :: r, ws, ⟨v, t, h1, h2, h3⟩ => by
    subst h1
    by_cases e : j = k
    · exact .inr ⟨p, v, by simp [valT, e], valV_pos e, h2⟩
    · rcases KtR.val (k := k) h3 with ⟨a, b⟩ | ⟨p', v', a, b, c⟩
      · exact .inl ⟨by simpa [valT, e] using a, by rw [valV_neg e]; exact b⟩
      · exact .inr ⟨p', v', by simpa [valT, e] using a, by rw [valV_neg e]; exact b, c⟩
theorem KtR.any {k : List Key} : ∀ {kvs : KvsT} {ws : List (List Key × V)}, KtR K ι G kvs ws → (kvs.any fun kv => decide (kv.1 = k)) = ws.any fun kv => decide (kv.1 = k)
  | [], ws, h => by rw [show ws = [] from h]; rfl
  | (j, p) :: r, ws, ⟨v, t, h1, _, h3⟩ => by
    subst h1
    rw [List.any_cons, List.any_cons, KtR.any h3]
theorem KtR.app : ∀ {kvs more : KvsT} {ws ms : List (List Key × V)}, KtR K ι G kvs ws → KtR K ι G more ms → KtR K ι G (kvs ++ more) (ws ++ ms)
  | [], _, ws, _, h, h' => by rw [show ws = [] from h]; exact h'
  | (k, p) :: r, _, ws, _, ⟨v, t, h1, h2, h3⟩, h' => by subst h1; exact ⟨v, _, rfl, h2, KtR.app h3 h'⟩
theorem KtR.upd {k : List Key} {p : PV} {v : V} (hv : Rep K ι G p v) : ∀ {kvs : KvsT} {ws : List (List Key × V)}, KtR K ι G kvs ws → KtR K ι G (kvs.map fun kv => if kv.1 = k then (kv.1, p) else kv) (ws.map fun kv => if kv.1 = k then (kv.1, v) else kv)
  | [], ws, h => by rw [show ws = [] from h]; rfl
  | (j, q) :: r, ws, ⟨v', t, h1, h2, h3⟩ => by
    subst h1
    rw [List.map_cons, List.map_cons]
    by_cases e : j = k
    · rw [if_pos e, if_pos e]
      exact ⟨v, _, rfl, hv, KtR.upd hv h3⟩
    · rw [if_neg e, if_neg e]
      exact ⟨v', _, rfl, h2, KtR.upd hv h3⟩
theorem KtR.put {k : List Key} {p : PV} {v : V} {kvs : KvsT} {ws : List (List Key × V)} (h : KtR K ι G kvs ws) (hv : Rep K ι G p v) : KtR K ι G (putT kvs k p) (putK ws k v) := by
  unfold putT putK
  rw [h.any]
  split
  · exact KtR.upd hv h
  · exact h.app ⟨v, [], rfl, hv, rfl⟩
theorem KtR.vals : ∀ {kvs : KvsT} {ws : List (List Key × V)}, KtR K ι G kvs ws → RepL K ι G (kvs.map (·.2)) (ws.map (·.2))
  | [], ws, h => by rw [show ws = [] from h]; rfl
  | (k, p) :: r, ws, ⟨v, t, h1, h2, h3⟩ => by subst h1; exact ⟨v, _, rfl, h2, KtR.vals h3⟩
theorem KtR.fst : ∀ {kvs : KvsT} {ws : List (List Key × V)}, KtR K ι G kvs ws → ws.map (·.1) = kvs.map (·.1)
  | [], ws, h => by rw [show ws = [] from h]; rfl
  | (k, p) :: r, ws, ⟨v, t, h1, _, h3⟩ => by subst h1; rw [List.map_cons, List.map_cons, KtR.fst h3]
theorem KtR.repO {a : Addr} {kvs : KvsT} {ws : List (List Key × V)} (h : KtR K ι G kvs ws) : RepO K ι G a (dtP kvs) (.dT ws) := ⟨ws, rfl, h.fst, h.vals⟩
theorem KtR.of : ∀ {ks : List (List Key)} {vs : List PV} {ws : List (List Key × V)}, ks.length = vs.length → ws.map (·.1) = ks → RepL K ι G vs (ws.map (·.2)) → KtR K ι G (ks.zip vs) ws
  | [], [], [], _, _, _ => rfl
  | [], [], _ :: _, _, h, _ => by simp at h
  | k :: ks, p :: vs, [], _, h, _ => by simp at h
  | k :: ks, p :: vs, (j, v) :: ws, hl, h, ⟨x, xs, h1, h2, h3⟩ => by
    simp only [List.map_cons, List.cons.injEq] at h h1
    obtain ⟨rfl, h⟩ := h
    obtain ⟨rfl, rfl⟩ := h1
    exact ⟨v, ws, rfl, h2, KtR.of (by simpa using hl) h h3⟩
  | [], _ :: _, _, hl, _, _ => by simp at hl
  | _ :: _, [], _, hl, _, _ => by simp at hl
theorem keys_rep : ∀ {ps : List PV} {xs : List V} {k : List Key}, keysP ps = some k → RepL K ι G ps xs → xs = k.map kV
  | [], xs, k, e, h => by
    cases e
    exact h
  | p :: ps, xs, k, e, ⟨x, r, h1, h2, h3⟩ => by
    unfold keysP at e
    cases e1 : keyP p with
    | none => simp [e1] at e
    | some k1 =>
      cases e2 : keysP ps with
      | none => simp [e1, e2] at e
      | some r2 =>
        simp only [e1, e2, Option.some.injEq] at e
        subst e
        rw [h1, List.map_cons, keys_rep e2 h3, key_read h2 e1]
end
section
variable {K : PySem.W.Frag} {R : List (Addr × HO)} {ι : List Addr} {O : Sto} {H : Hp} {p q : PV} {x : V} {kvs : KvsT} {n : Nat}
theorem kt_read (S : Sim K R ι O H) (r : Rep K ι (fz R ι O H) (.loc n) x) (e : kvT O (.loc n) = some kvs) : ∃ a ws p, x = .ref a ∧ ι[n]? = some a ∧ O[n]? = some (some p) ∧ H a = some (.dT ws) ∧ KtR K ι (fz R ι O H) kvs ws := by
  obtain ⟨a, h1, h2⟩ := r
  simp only [kvT] at e
  split at e
  · rename_i ks vs q
    split at e
    · rename_i hl
      cases e
      obtain ⟨o, h3, h4⟩ := S.obj n a _ h2 q
      obtain ⟨ws, h5, h6, h7⟩ := h4
      subst h5
      exact ⟨a, ws, _, h1, h2, q, h3, KtR.of hl h6 h7⟩
    · cases e
  · cases e
end
def eDnewT : EF := fun _ O => .ok (.loc O.length) (O ++ [some (dtP [])])
def sDPutT (a : EF) (g : AF) (c : EF) : SF := fun s O => (c s O).toS s fun v O1 => (a s O1).toS s fun p O2 => (g s O2).toS s fun qs O3 => match p with
  | .loc n => match kvT O3 (.loc n), keysP qs with
    | some kvs, some k => if szLt kvs.length = true ∧ szOk qs.length = true then .next s (O3.set n (some (dtP (putT kvs k v)))) else .bad
    | _, _ => .bad
  | _ => .bad
def eGet2T (a : EF) (g : AF) (c : EF) : EF := fun s O => (a s O).bind fun p O1 => match p with
  | .loc n => if (kvT O1 (.loc n)).isSome = true then (g s O1).bind fun qs O2 => if szOk qs.length = true then (c s O2).bind fun r O3 => match kvT O3 (.loc n), keysP qs with
    | some kvs, some k => .ok ((valT kvs k).getD r) O3
    | _, _ => .bad else .bad else .bad
  | _ => .bad
section
variable {K : PySem.W.Frag} {E : XM} {ta tc : TE} {tA : TA} {fa fc : EF} {gA : AF}
theorem sim_dnewT : SimE K E tDNewT eDnewT := fun R ι O H σ s Q S L h p hp => by
  obtain ⟨S2, X2⟩ := S.newO (p := dtP []) hp (o := .dT []) (KtR.repO (kvs := []) (ws := []) rfl)
  exact h.at S2 X2 ⟨p, rfl, new_at S.len⟩
theorem sim_dputT (hd : SimE K E ta fa) (hA : SimA K E tA gA) (hv : SimE K E tc fc) : SimS K E (sDPut ta (tTup tA) tc) (sDPutT fa gA fc) := fun R ι O H σ s D S L h =>
  hv R ι O H σ s _ S L (h.lift L fun v O1 y ι1 H1 S1 X1 r1 h1 => hd R ι1 O1 H1 σ s _ S1 (L.ext X1) (h1.lift (L.ext X1) fun p O2 x ι2 H2 S2 X2 r2 h2 => hA R ι2 O2 H2 σ s _ S2 (L.ext (X1.trans X2)) (h2.lift (L.ext (X1.trans X2)) fun qs O3 zs ι3 H3 S3 X3 r3 h3 => by
    cases p with
    | loc n =>
      simp only at h3
      cases e1 : kvT O3 (.loc n) with
      | none => simp [e1] at h3; exact h3.elim
      | some kvs =>
        cases e2 : keysP qs with
        | none => simp [e1, e2] at h3; exact h3.elim
        | some k =>
          simp only [e1, e2] at h3
          split at h3
          · rename_i c
            refine ⟨by rw [r3.len]; exact szOk_le c.2, fun b hb => ?_⟩
            obtain ⟨S4, X4, e4⟩ := S3.newF hb (.tup zs)
            obtain ⟨a, ws, p0, g1, g2, g3, g4, g5⟩ := kt_read S4 ((X3.trans X4).rep r2) e1
            have rv := ((X2.trans X3).trans X4).rep r1
            have ez := keys_rep e2 r3
            have e5 : upd H3 b (.tup zs) b = some (.tup (k.map kV)) := by
              rw [← ez]
              exact S4.frozen _ _ e4
            obtain ⟨S5, X5⟩ := S4.change g2 g3 (g5.put (k := k) rv).repO
            refine ⟨a, _, g1, DPut.t g4 e5 (by rw [g5.len]; exact szLt_lt c.1), ?_⟩
            exact h3 σ _ _ S5 (X4.trans X5) (L.ext (X1.trans (X2.trans (X3.trans (X4.trans X5)))))
          · exact h3.elim
    | _ => exact h3.elim)))
theorem sim_get2T (hd : SimE K E ta fa) (hA : SimA K E tA gA) (hz : SimE K E tc fc) : SimE K E (tDGet2 ta (tTup tA) tc) (eGet2T fa gA fc) := fun R ι O H σ s Q S L h =>
  hd R ι O H σ s _ S L (h.bind fun p O1 x ι1 H1 S1 X1 r1 h1 => by
    cases p with
    | loc n =>
      simp only at h1
      split at h1
      · rename_i c
        obtain ⟨kv0, e0⟩ := Option.isSome_iff_exists.mp c
        obtain ⟨a, ws, p0, h3, h4, h5, h6, _⟩ := kt_read S1 r1 e0
        refine ⟨a, h3, .inr ⟨ws, .inl h6⟩, hA R ι1 O1 H1 σ s _ S1 (L.ext X1) (h1.bind fun qs O2 zs ι2 H2 S2 X2 r2 h2 => ?_)⟩
        split at h2
        · rename_i c2
          refine ⟨by rw [r2.len]; exact szOk_le c2, fun b hb => ?_⟩
          obtain ⟨S3, X3, e3⟩ := S2.newF hb (.tup zs)
          refine hz R ι2 O2 _ σ s _ S3 (L.ext (X1.trans (X2.trans X3))) ((Post.of X3 h2).bind fun r O3 z ι4 H4 S4 X4 r4 h4' => ?_)
          cases e1 : kvT O3 (.loc n) with
          | none => simp [e1] at h4'; exact h4'.elim
          | some kvs =>
            cases e2 : keysP qs with
            | none => simp [e1, e2] at h4'; exact h4'.elim
            | some k =>
              simp only [e1, e2] at h4'
              obtain ⟨a', ws', p1, g1, g2, g3, g4, g5⟩ := kt_read S4 (((X2.trans X3).trans X4).rep r1) e1
              rw [h3] at g1
              cases g1
              have e5 : H4 b = some (.tup (k.map kV)) := by
                rw [← keys_rep e2 r2]
                exact S4.frozen _ _ (X4.same _ _ e3)
              refine ⟨_, DGet.t g4 e5, ?_⟩
              rcases g5.val (k := k) with ⟨z1, z2⟩ | ⟨p', v', z1, z2, z3⟩
              · rw [z1] at h4'; rw [z2]; exact h4'.here S4 r4
              · rw [z1] at h4'; rw [z2]; exact h4'.here S4 z3
        · exact h2.elim
      · exact h1.elim
    | _ => exact h1.elim)
end
/-! ### the walk -/
theorem gos_dputT {K : Ks} {a c : EF} {g : AF} {s : Slots} {O : Sto} (h : Go (c s O) fun v O1 => Go (a s O1) fun p O2 => Go (g s O2) fun qs O3 => ∃ n kvs k, p = .loc n ∧ kvT O3 (.loc n) = some kvs ∧ keysP qs = some k ∧ szLt kvs.length = true ∧ szOk qs.length = true ∧ K.nx s (O3.set n (some (dtP (putT kvs k v))))) : GoS K (sDPutT a g c s O) := go_toS (h.mono fun v O1 h => go_toS (h.mono fun p O2 h => go_toS (h.mono fun qs O3 ⟨n, kvs, k, e1, e2, e3, e4, e5, z⟩ => by
  subst e1
  simp only [e2, e3]
  rw [if_pos ⟨e4, e5⟩]
  exact z)))
theorem go_get2T {a c : EF} {g : AF} {s : Slots} {O : Sto} {Q : PV → Sto → Prop} (h : Go (a s O) fun p O1 => ∃ n, p = .loc n ∧ (∃ kv, kvT O1 (.loc n) = some kv) ∧ Go (g s O1) fun qs O2 => szOk qs.length = true ∧ Go (c s O2) fun r O3 => ∃ kvs k, kvT O3 (.loc n) = some kvs ∧ keysP qs = some k ∧ Q ((valT kvs k).getD r) O3) : Go (eGet2T a g c s O) Q := go_bind (h.mono fun p O1 ⟨n, e0, ⟨kv, e⟩, h⟩ => by
  subst e0
  simp only [e, Option.isSome_some, if_true]
  refine go_bind (h.mono fun qs O2 ⟨e3, h⟩ => ?_)
  simp only [e3, if_true]
  refine go_bind (h.mono fun r O3 ⟨kvs, k, e1, e2, z⟩ => ?_)
  simp only [e1, e2]
  exact z)
theorem valT_put {kv : KvsT} {k k' : List Key} {v : PV} : valT (putT kv k v) k' = if k' = k then some v else valT kv k' := by
  induction kv with
  | nil =>
    unfold putT valT
    by_cases c : k' = k
    · subst c; simp
    · rw [if_neg c]
      have : ¬ k = k' := fun e => c e.symm
      simp [this]
  | cons w r ih =>
    by_cases cw : w.1 = k
    · subst cw
      by_cases c : k' = w.1
      · subst c
        unfold putT valT
        simp
      · rw [if_neg c]
        have h1 : ¬ w.1 = k' := fun e => c e.symm
        unfold putT valT
        rw [if_pos (by simp), List.map_cons, if_pos rfl, List.find?_cons, List.find?_cons]
        simp only [decide_eq_false h1]
        congr 1
        have main : ∀ l : KvsT, (l.map fun kv : List Key × PV => if kv.1 = w.1 then (kv.1, v) else kv).find? (fun kv => decide (kv.1 = k')) = l.find? fun kv => decide (kv.1 = k') := fun l => by
          induction l with
          | nil => rfl
          | cons y l ih2 =>
            rw [List.map_cons, List.find?_cons, List.find?_cons]
            by_cases cy : y.1 = w.1
            · rw [if_pos cy]
              have h2 : ¬ y.1 = k' := fun e => c (by rw [← e, cy])
              simp only [decide_eq_false h2]
              exact ih2
            · rw [if_neg cy]
              by_cases c3 : y.1 = k'
              · simp [c3]
              · simp only [decide_eq_false c3]
                exact ih2
        exact main r
    · have e : valT (putT (w :: r) k v) k' = if w.1 = k' then some w.2 else valT (putT r k v) k' := by
        unfold putT
        rw [List.any_cons, decide_eq_false cw, Bool.false_or]
        by_cases cr : (r.any fun kv => decide (kv.1 = k)) = true
        · rw [if_pos cr, if_pos cr, List.map_cons, if_neg cw]
          unfold valT
          rw [List.find?_cons]
          by_cases c2 : w.1 = k'
          · simp [c2]
          · simp [c2]
        · rw [if_neg cr, if_neg cr, List.cons_append]
          unfold valT
          rw [List.find?_cons]
          by_cases c2 : w.1 = k'
          · simp [c2]
          · simp [c2]
      rw [e, ih]
      have e3 : valT (w :: r) k' = if w.1 = k' then some w.2 else valT r k' := by
        unfold valT
        rw [List.find?_cons]
        by_cases c2 : w.1 = k'
        · simp [c2]
        · simp [c2]
      rw [e3]
      by_cases c2 : w.1 = k'
      · have c3 : ¬ k' = k := fun e => cw (c2.trans e)
        rw [if_pos c2, if_neg c3, if_pos c2]
      · rw [if_neg c2, if_neg c2]
end Qx

/-! Own layer Qr: walking a mirror, second part: things that change. -/
namespace Qx
open PySem PySem.Spec PyProof.Rows L2 Gx
theorem ins_loc {O : Sto} {n : Nat} {C : Str} {ns : List Str} {ps : List PV} (h : O[n]? = some (some (.ins C ns ps))) : insOf O (.loc n) = some (C, ns, ps) := by simp [insOf, h]
theorem seq_loc {O : Sto} {n : Nat} {ps : List PV} (h : O[n]? = some (some (.lst ps))) : seqOf O (.loc n) = some ps := by
  unfold seqOf
  simp [lstOf, h]
theorem lstT_loc {O : Sto} {n : Nat} {ps : List PV} (h : O[n]? = some (some (.lst ps))) : lstT O (.loc n) = some ps := by simp [lstT, h]
section
variable {α : Type} {K : Ks} {QP : PV → Sto → Prop} {s : Slots} {O O1 : Sto} {p q r : PV} {ps qs : List PV} {a b c : EF} {f g : AF} {i j : Int} {n : Nat}
/-! what is walked -/
theorem go_iLx {QI : ItP → Sto → Prop} (k : Go (a s O) fun p O1 => ∃ ps g, itemsOf O1 p = some (ps, g) ∧ QI (ps, g) O1) : Go (iL a s O) QI := go_bind (k.mono fun p O1 ⟨ps, g, e, h⟩ => by
  unfold itemsOf at e
  cases p with
  | lst qs => cases e; exact h
  | rol qs => cases e; exact h
  | loc n =>
    simp only at e ⊢
    cases q : O1[n]? with
    | none => simp [q] at e
    | some w =>
      cases w with
      | none => simp [q] at e
      | some w =>
        cases w with
        | lst qs =>
          simp only [q, Option.some.injEq, Prod.mk.injEq] at e ⊢
          obtain ⟨e1, e2⟩ := e
          subst e1
          subst e2
          exact h
        | _ => simp [q] at e
  | _ => cases e)
theorem g_itF {F : List PV → Option (Nat × List PV) → Prop} (e : itemsOf O p = some (ps, none)) (k : F ps none) : ∃ ps g, itemsOf O p = some (ps, g) ∧ F ps g := ⟨ps, none, e, k⟩
theorem g_itL {F : List PV → Option (Nat × List PV) → Prop} (e : O[n]? = some (some (.lst ps))) (k : F ps (some (n, ps))) : ∃ ps g, itemsOf O (.loc n) = some (ps, g) ∧ F ps g := ⟨ps, some (n, ps), by simp [itemsOf, e], k⟩
/-! loops and comprehensions over things that are told by a list -/
theorem chk_grd {gd : Option (Nat × List PV)} {bad r : α} (h : grd gd O) : chk gd O bad r = r := by
  cases gd with
  | none => rfl
  | some w => obtain ⟨n, ps⟩ := w; unfold chk; simp only; rw [if_pos (show O[n]? = some (some (.lst ps)) from h)]
theorem go_loopP {tgt : GF} {body : SF} {gd : Option (Nat × List PV)} (f : α → PV) (J : List α → Slots → Sto → Prop) (rs : List α) (hg : ∀ d s O, J d s O → grd gd O) (h0 : J [] s O)
    (hs : ∀ d r t s O, rs = d ++ r :: t → J d s O → Go (tgt (f r) s O) fun s1 O1 => GoS { K with nx := J (d ++ [r]), bk := K.nx, ct := J (d ++ [r]) } (body s1 O1)) (hd : ∀ s O, J rs s O → K.nx s O) : GoS K (loopL gd tgt body (rs.map f) s O) := by
  have main : ∀ (t d : List α) (s : Slots) (O : Sto), rs = d ++ t → J d s O → GoS K (loopL gd tgt body (t.map f) s O) := fun t => by
    induction t with
    | nil =>
      intro d s O e h
      rw [List.append_nil] at e
      subst e
      unfold List.map loopL
      rw [chk_grd (hg _ _ _ h)]
      exact hd s O h
    | cons r t ih =>
      intro d s O e h
      unfold List.map loopL
      rw [chk_grd (hg _ _ _ h)]
      refine go_toS ((hs d r t s O e h).mono fun s1 O1 h1 => ?_)
      have again : ∀ s2 O2, J (d ++ [r]) s2 O2 → GoS K (loopL gd tgt body (t.map f) s2 O2) := fun s2 O2 h2 => ih (d ++ [r]) s2 O2 (by rw [e]; simp) h2
      show GoS K (match body s1 O1 with | .next s2 O2 => loopL gd tgt body (t.map f) s2 O2 | .cnt s2 O2 => loopL gd tgt body (t.map f) s2 O2 | .brk s2 O2 => .next s2 O2 | x => x)
      cases e : body s1 O1 <;> rw [e] at h1 <;> first | exact again _ _ h1 | exact h1
  exact main rs [] s O rfl h0
theorem comp_P {tgt : GF} {t : TF} {e : EF} {s0 : Slots} {gd : Option (Nat × List PV)} {F : List PV → Sto → Prop} (f : α → PV) (J : List α → List PV → Sto → Prop) (rs : List α) (hl : rs.length ≤ 100000) (hg : ∀ d ps O, J d ps O → grd gd O) (h0 : J [] [] O)
    (hs : ∀ d r t' acc O, rs = d ++ r :: t' → J d acc O → GoC tgt t e s0 (f r) O fun q O' => J (d ++ [r]) (acc ++ q.toList) O') (hd : ∀ ps O, J rs ps O → F ps O) : ∃ ps O2, compL gd tgt t e s0 (rs.map f) [] O = .ok ps O2 ∧ F ps O2 := by
  have main : ∀ (u d : List α) (acc : List PV) (O : Sto), rs = d ++ u → acc.length ≤ d.length → J d acc O → ∃ ps O2, compL gd tgt t e s0 (u.map f) acc O = .ok ps O2 ∧ F ps O2 := fun u => by
    induction u with
    | nil =>
      intro d acc O e' la h
      rw [List.append_nil] at e'
      subst e'
      unfold List.map compL
      rw [chk_grd (hg _ _ _ h)]
      exact ⟨_, _, rfl, hd _ _ h⟩
    | cons r u ih =>
      intro d acc O e' la h
      have h1 := hs d r u acc O e' h
      unfold GoC at h1
      obtain ⟨s1, O1, e1, h2⟩ := h1.ex
      obtain ⟨b, O2, e2, h3⟩ := h2.ex
      unfold List.map compL
      rw [chk_grd (hg _ _ _ h), e1]
      simp only [PR.bind]
      rw [e2]
      cases b with
      | true =>
        simp only [if_true] at h3 ⊢
        obtain ⟨q, O3, e3, h4⟩ := h3.ex
        rw [e3]
        simp only
        have : d.length ≤ rs.length := by rw [e', List.length_append]; omega
        rw [if_pos (szl_le (show acc.length ≤ 100000 by omega))]
        exact ih (d ++ [r]) _ _ (by rw [e']; simp) (by simp; omega) h4
      | false =>
        have h3 : J (d ++ [r]) (acc ++ []) O2 := h3
        rw [List.append_nil] at h3
        exact ih (d ++ [r]) _ _ (by rw [e']; simp) (by simp; omega) h3
  exact main rs [] [] O rfl (Nat.le_refl _) h0
theorem comp_M {tgt : GF} {e : EF} {s0 : Slots} {gd : Option (Nat × List PV)} {F : List PV → Sto → Prop} (f m : α → PV) (rs : List α) (hl : rs.length ≤ 100000) (hg : grd gd O) (hs : ∀ r, r ∈ rs → Go (tgt (f r) s0 O) fun s1 O1 => Go (e s1 O1) fun q O2 => q = m r ∧ O2 = O) (hd : F (rs.map m) O) : ∃ ps O2, compL gd tgt tYesP e s0 (rs.map f) [] O = .ok ps O2 ∧ F ps O2 :=
  comp_P f (fun d ps O' => ps = d.map m ∧ O' = O) rs hl (fun d ps O' h => by rw [h.2]; exact hg) ⟨rfl, rfl⟩ (fun d r t acc O' ed h => by
    obtain ⟨h1, h2⟩ := h
    subst h1
    subst h2
    refine goc1 ((hs r (by rw [ed]; simp)).mono fun s1 O1 k => k.mono fun q O2 z => ?_)
    exact ⟨by rw [z.1]; simp, z.2⟩) fun ps O' h => by rw [h.1, h.2]; exact hd
/-! things that change -/
def GMo (m : MF) (C : Str) (ps : List PV) (O : Sto) (QP : PV → Sto → Prop) : Prop := Go (m (.loc O.length :: ps) (O ++ [some (.ins C [] [])])) fun r O2 => r = .non ∧ QP (.loc O.length) O2
theorem g_mo {m : MF} {C : Str} {ps' : List PV} (e : ps = ps') (k : Go (m (.loc O.length :: ps') (O ++ [some (.ins C [] [])])) fun r O2 => r = .non ∧ QP (.loc O.length) O2) : GMo m C ps O QP := by subst e; exact k
theorem go_makeO {C : Str} {m : MF} {dps : List PV} (k : Go (f s O) fun ps O1 => GMo m C (ps ++ dps) O1 QP) : Go (eMakeO C m dps f s O) QP := go_bind (k.mono fun ps O1 h => go_bind (by
  unfold GMo at h
  obtain ⟨r, O2, e, rfl, h⟩ := h.ex
  rw [e]
  exact h))
def GFs (K : Ks) (C fl : Str) (p q : PV) (s : Slots) (O : Sto) : Prop := GoS K (fldP C fl p q s O)
theorem go_fldS {C fl : Str} (k : Go (b s O) fun q O1 => Go (a s O1) fun p O2 => GFs K C fl p q s O2) : GoS K (sFldP C fl a b s O) := go_toS (k.mono fun q O1 h => go_toS h)
theorem g_fs {C fl : Str} {ns ns' : List Str} (e : O[n]? = some (some (.ins C ns ps))) (e1 : ns.length ≤ 900) (e2 : putN fl ns = ns') (e3 : putW fl q ns ps = qs) (k : K.nx s (O.set n (some (.ins C ns' qs)))) : GFs K C fl (.loc n) q s O := by
  unfold GFs fldP
  simp only [e]
  rw [if_pos (show True ∧ ns.length ≤ 900 from ⟨trivial, e1⟩), e2, e3]
  exact k
theorem g_fsE {C fl : Str} {ns ns' : List Str} (e : O[n]? = some (some (.ins C ns ps))) (e1 : ns.length ≤ 900) (e2 : putN fl ns = ns') (e3 : putW fl q ns ps = qs) (k : ∀ O', O'[n]? = some (some (.ins C ns' qs)) → O'.length = O.length → (∀ m : Nat, m ≠ n → O'[m]? = O[m]?) → K.nx s O') : GFs K C fl (.loc n) q s O :=
  g_fs e e1 e2 e3 (k _ (get_set e) (by rw [List.length_set]) fun m hm => List.getElem?_set_ne (Ne.symm hm))
theorem go_frz (k : Go (a s O) fun p O1 => Go (frzP p O1) QP) : Go (eFrz a s O) QP := go_bind k
theorem go_appF (e : O[n]? = some (some (.lst ps))) (h : szLt ps.length = true) (k : ∀ O', O'[n]? = some (some (.lst (ps ++ [q]))) → O'.length = O.length → (∀ m : Nat, m ≠ n → O'[m]? = O[m]?) → QP .non O') : Go (appendP (.loc n) [q] O) QP :=
  go_append e h (k _ (get_set e) (by rw [List.length_set]) fun m hm => List.getElem?_set_ne (Ne.symm hm))
end
theorem go_isNb {O : Sto} {p : PV} {b : Bool} {QP : PV → Sto → Prop} (e : isNon p = b) (k : QP (.bl b) O) : Go (isN p .non O) QP := by subst e; exact k
theorem go_notNb {O : Sto} {p : PV} {b : Bool} {QP : PV → Sto → Prop} (e : isNon p = b) (k : QP (.bl (!b)) O) : Go (notN p .non O) QP := by subst e; exact k
/-! what a store keeps -/
structure Fr (O O' : Sto) : Prop where
  len : O.length ≤ O'.length
  at_ : ∀ m : Nat, m < O.length → O'[m]? = O[m]?
theorem Fr.refl {O : Sto} : Fr O O := ⟨Nat.le_refl _, fun _ _ => rfl⟩
theorem Fr.trans {O O' O'' : Sto} (a : Fr O O') (b : Fr O' O'') : Fr O O'' := ⟨Nat.le_trans a.len b.len, fun m h => (b.at_ m (Nat.lt_of_lt_of_le h a.len)).trans (a.at_ m h)⟩
theorem Fr.get {O O' : Sto} (a : Fr O O') {n : Nat} {x : Option PV} (h : O[n]? = some x) : O'[n]? = some x := (a.at_ n (List.getElem?_eq_some_iff.mp h).1).trans h
theorem Fr.app {O O' : Sto} (a : Fr O O') {x : Sto} : Fr O (O' ++ x) := ⟨Nat.le_trans a.len (by simp), fun m h => by rw [List.getElem?_append_left (Nat.lt_of_lt_of_le h a.len)]; exact a.at_ m h⟩
theorem Fr.pu {O O' : Sto} (a : Fr O O') {n : Nat} (h : Pu O n) : Pu O' n := by
  obtain ⟨x, y, z, e, h⟩ := h
  exact ⟨x, y, z, a.get e, h⟩
theorem Fr.put {O O' O'' : Sto} (a : Fr O O') {n : Nat} (hn : O.length ≤ n) (hl : O''.length = O'.length) (h : ∀ m : Nat, m ≠ n → O''[m]? = O'[m]?) : Fr O O'' := ⟨by rw [hl]; exact a.len, fun m hm => (h m (by omega)).trans (a.at_ m hm)⟩
theorem lt_of_get {O : Sto} {n : Nat} {x : Option PV} (h : O[n]? = some x) : n < O.length := (List.getElem?_eq_some_iff.mp h).1
end Qx

/-! Own layer Qs: the pure walk where something may be raised. -/
namespace Qx
open PySem PySem.Spec PyProof.Rows L2 Gx
def GoE {α : Type} (X : PExc → Sto → Prop) (r : PR α) (Q : α → Sto → Prop) : Prop := match r with
  | .ok a O => Q a O
  | .exc e O => X e O
  | .bad => False
section
variable {α β : Type} {X : PExc → Sto → Prop} {Q : α → Sto → Prop} {QP : PV → Sto → Prop} {s : Slots} {O O1 : Sto} {p q r : PV} {ps qs : List PV} {a b c : EF} {t u : TF} {f g : AF} {x y : SF} {K : Ks} {i j : Int} {n m : Nat} {mf : MF}
theorem GoE.exc {r : PR α} {e : PExc} (h : GoE (fun e' O' => e' = e ∧ O' = O) r fun _ _ => False) : r = .exc e O := by
  cases r with
  | exc e' O' => obtain ⟨rfl, rfl⟩ := h; rfl
  | ok a O' => exact h.elim
  | bad => exact h.elim
theorem goe_def {N : Nat} {body : SF} {s' : Slots} (e : ps.length = n) (e2 : ps.map some ++ List.replicate (N - n) none = s') (k : GoS { nx := fun _ O1 => QP .non O1, rt := QP, bk := fun _ _ => False, ct := fun _ _ => False, ex := fun e _ O1 => X e O1 } (body s' O)) : GoE X (mkDef n N body ps O) QP := by
  unfold mkDef
  rw [if_pos e, e2]
  cases q : body s' O <;> rw [q] at k <;> first | exact k | exact k.elim
/-! defs that don't raise -/
theorem go_noXM {m : List PV → Sto → PR α} (k : Go (m ps O) Q) : Go (noXM m ps O) Q := by
  unfold noXM
  cases e : m ps O <;> rw [e] at k <;> first | exact k | exact k.elim
theorem go_mkN {C : Str} {m : List PV → Sto → PR (List Str × List PV)} (k : Go (mkIns C (m ps O)) QP) : Go (mkIns C (noXM m ps O)) QP := by
  unfold noXM
  cases e : m ps O <;> rw [e] at k <;> first | exact k | exact k.elim
/-! isinstance and such -/
theorem go_dic0 (k : QP (.dic [] []) O) : Go (eDic0 s O) QP := k
/-! == of data -/
theorem go_neDd {d d' : PyData} (e : toD O p = some d) (e2 : toD O q = some d') (e3 : (SeqAt.shaped d && SeqAt.shaped d') = true) (k : QP (.bl (!PyData.eqv d d')) O) : Go (neD p q O) QP := by
  unfold neD
  simp only [e, e2, e3, if_true]
  exact k
end
end Qx

/-! Own layer Qt: the pure walk of what Xi brings. -/
namespace Qx
open PySem PySem.Spec PyProof.Rows L2 Gx
section
variable {X : PExc → Sto → Prop} {QP : PV → Sto → Prop} {s : Slots} {O O1 : Sto} {p q r : PV} {ps qs : List PV} {a : EF} {f : AF} {K : Ks}
end
end Qx

/-! Own layer Qu: walking texts, own str, repr, bool, == any, in of own things. -/
namespace Qx
open PySem PySem.Spec PyProof.Rows L2 Gx
section
variable {α : Type} {QP : PV → Sto → Prop} {s : Slots} {O O1 : Sto} {p q r : PV} {ps qs : List PV} {a b c : EF} {f g : AF} {C : Str} {m : MF} {z y i' j' : Str} {i j : Int}
theorem go_noX {r : PR α} {Q : α → Sto → Prop} (k : Go r Q) : Go (noX r) Q := by
  cases r <;> exact k
theorem go_otxt (e : insIs O C p = true) (k : Go (m [p] O) fun r O1 => ∃ z, r = .str z ∧ QP (.str z) O1) : Go (otxtP C m [p] O) QP := by
  unfold otxtP
  simp only
  rw [if_pos e]
  exact go_bind (go_noX (k.mono fun r O1 ⟨z, e, h⟩ => by subst e; exact h))
theorem go_fmtO (k : Go (a s O) fun p O1 => Go (otxtP C m [p] O1) QP) : Go (eFmtO C m a s O) QP := go_bind k
def GFmt (p : PV) (Q : Str → Prop) : Prop := match p with
  | .str z => z.length ≤ sizeLine ∧ Q z
  | .int i => i.natAbs.log2 < 1920 ∧ Q (toString i)
  | _ => False
theorem g_fmtS {Q : Str → Prop} (h : z.length ≤ sizeLine) (k : Q z) : GFmt (.str z) Q := ⟨h, k⟩
theorem g_fmtI {Q : Str → Prop} (h : i.natAbs.log2 < 1920) (k : Q (toString i)) : GFmt (.int i) Q := ⟨h, k⟩
theorem go_fmt (k : Go (a s O) fun p O1 => GFmt p fun z => QP (.str z) O1) : Go (eFmt a s O) QP := go_bind (k.mono fun p O1 h => by
  cases p <;> first | exact h.elim | (obtain ⟨h1, h2⟩ := h; simp only; rw [if_pos h1]; exact h2))
def GJ (fs : List EF) (acc : Str) (s : Slots) (O : Sto) (Q : Str → Sto → Prop) : Prop := Go (jsP fs acc s O) Q
theorem gj_nil {Q : Str → Sto → Prop} (k : Q z O) : GJ [] z s O Q := k
theorem gj_cons {Q : Str → Sto → Prop} {fs : List EF} (k : Go (a s O) fun p O1 => ∃ y, p = .str y ∧ (z ++ y).length ≤ sizeLine ∧ GJ fs (z ++ y) s O1 Q) : GJ (a :: fs) z s O Q := go_bind (k.mono fun p O1 ⟨y, e, h1, h2⟩ => by
  subst e
  simp only
  rw [if_pos h1]
  exact h2)
theorem go_js {fs : List EF} (k : GJ fs Str.empty s O fun z O1 => QP (.str z) O1) : Go (eJs fs s O) QP := go_bind k
theorem go_obool (e : insIs O C p = true) (k : Go (m [p] O) fun r O1 => ∃ n, r = .int n ∧ (0 ≤ n ∧ n < 2 ^ 63) ∧ QP (.bl (n != 0)) O1) : Go (oboolP C m [p] O) QP := by
  unfold oboolP
  simp only
  rw [if_pos e]
  exact go_bind (go_noX (k.mono fun r O1 ⟨n, e, h1, h2⟩ => by
    subst e
    simp only
    rw [if_pos (by rw [decide_eq_true h1.1, decide_eq_true h1.2]; rfl)]
    exact h2))
theorem go_boolR {n : Bool} {r : PR PV} (k : Go r fun p O1 => GB p fun b => QP (.bl (if n = true then !b else b)) O1) : Go (boolR n r) QP := go_bind (go_noX (k.mono fun p O1 ⟨b, e, h⟩ => by
  subst e
  cases n <;> exact h))
theorem go_oeqA {cs : List Str} {t : Sum String Str} (e : tyOf O q = some t) (e2 : (insIs O C p && (tyIn cs t && cs.contains C)) = true) (k : Go (m [p, q] O) fun r O1 => GB r fun b => QP (.bl b) O1) : Go (oeqA cs C m p q O) QP := by
  unfold oeqA
  simp only [e]
  rw [if_pos e2]
  exact go_boolR k
theorem go_oneA {cs : List Str} {t : Sum String Str} (e : tyOf O q = some t) (e2 : (insIs O C p && (tyIn cs t && cs.contains C)) = true) (k : Go (m [p, q] O) fun r O1 => GB r fun b => QP (.bl (!b)) O1) : Go (oneA cs C m p q O) QP := by
  unfold oneA
  simp only [e]
  rw [if_pos e2]
  exact go_boolR k
theorem go_strS (k : QP (.str z) O) : Go (bStrS [.str z] O) QP := k
theorem go_strI (h : i.natAbs.log2 < 1920) (k : QP (.str (toString i)) O) : Go (bStrI [.int i] O) QP := by
  unfold bStrI b1
  simp only
  rw [if_pos h]
  exact k
theorem go_addS (h : i'.length + j'.length ≤ 16777216) (k : QP (.str (i' ++ j')) O) : Go (addS (.str i') (.str j') O) QP := by
  unfold addS s2
  simp only
  rw [if_pos (show zOk _ = true from decide_eq_true h)]
  exact k
theorem nev_ints (ns ms : List Int) (O : Sto) : neD (.tup (ns.map .int)) (.tup (ms.map .int)) O = .ok (.bl (!decide (ns = ms))) O := by
  unfold neD toD
  simp only [toD0, toDL_ints, Option.map_some]
  rw [if_pos (by rw [shaped_ints, shaped_ints]; rfl)]
  congr 3
  exact eqvAll_ints ns ms
theorem go_neTI {ns ms : List Int} (e1 : ps = (ps.map unP).map .int) (e2 : qs = (qs.map unP).map .int) (e3 : ps.map unP = ns) (e4 : qs.map unP = ms) (k : QP (.bl (!decide (ns = ms))) O) : Go (neD (.tup ps) (.tup qs) O) QP := by
  subst e3
  subst e4
  have e := nev_ints (ps.map unP) (qs.map unP) O
  rw [← e1, ← e2] at e
  exact go_at e k
/-! the newest list of the store -/
theorem go_appN {ps' : List PV} (h : ps.length.ble 100000 = true) (e : ps ++ [q] = ps') (k : QP .non (O ++ [some (.lst ps')])) : Go (appendP (.loc O.length) [q] (O ++ [some (.lst ps)])) QP := by
  subst e
  refine go_append get_app (szl_le (Nat.le_of_ble_eq_true h)) ?_
  have e : (O ++ [some (PV.lst ps)]).set O.length (some (.lst (ps ++ [q]))) = O ++ [some (.lst (ps ++ [q]))] := by
    rw [List.set_append_right _ _ (Nat.le_refl _)]
    simp
  rw [e]
  exact k
theorem g_itN {F : List PV → Option (Nat × List PV) → Prop} (k : F ps (some (O.length, ps))) : ∃ ps' g, itemsOf (O ++ [some (.lst ps)]) (.loc O.length) = some (ps', g) ∧ F ps' g := ⟨ps, some (O.length, ps), by
  unfold itemsOf
  simp only [get_app], k⟩
theorem comp_nilg {gd : Option (Nat × List PV)} {tgt : GF} {t : TF} {e : EF} {s0 : Slots} {acc : List PV} {F : List PV → Sto → Prop} (hg : grd gd O) (k : F acc O) : ∃ ps O2, compL gd tgt t e s0 [] acc O = .ok ps O2 ∧ F ps O2 := ⟨acc, O, by unfold compL; rw [chk_grd hg], k⟩
theorem comp_one1g {gd : Option (Nat × List PV)} {tgt : GF} {e : EF} {s0 : Slots} {items acc : List PV} {F : List PV → Sto → Prop} (hg : grd gd O) (hl : acc.length.ble 100000 = true) (k : Go (tgt p s0 O) fun s1 O1 => Go (e s1 O1) fun q O' => GAcc (acc ++ [q]) fun acc' => ∃ ps O2, compL gd tgt tYesP e s0 items acc' O' = .ok ps O2 ∧ F ps O2) : ∃ ps O2, compL gd tgt tYesP e s0 (p :: items) acc O = .ok ps O2 ∧ F ps O2 := by
  obtain ⟨s1, O1, e1, h2⟩ := k.ex
  obtain ⟨q, O3, e3, h4⟩ := h2.ex
  obtain ⟨ps, O2, e5, h6⟩ := h4
  refine ⟨ps, O2, ?_, h6⟩
  unfold compL
  rw [chk_grd hg, e1]
  simp only [PR.bind, tYesP, if_true]
  rw [e3]
  simp only
  rw [if_pos (szl_le (Nat.le_of_ble_eq_true hl))]
  exact e5
theorem go_bms {h : PV → List PV → Sto → PR PV} (k : Go (a s O) fun p O1 => isStr p = true ∧ Go (f s O1) fun ps O2 => Go (h p ps O2) QP) : Go (eBms h a f s O) QP := go_bind (k.mono fun _ _ ⟨e, h⟩ => by rw [if_pos e]; exact go_bind h)
theorem go_bms0 {h : PV → List PV → Sto → PR PV} (k : Go (a s O) fun p O1 => isStr p = true ∧ Go (h p [] O1) QP) : Go (eBms0 h a s O) QP := go_bind (k.mono fun _ _ ⟨e, h⟩ => by rw [if_pos e]; exact h)
theorem g_str {F : Str → Prop} (k : F z) : ∃ y, PV.str z = .str y ∧ F y := ⟨z, rfl, k⟩
theorem go_join {ys : List Str} (e : (seqOf O p).bind strsOf = some ys) (h : (ys.map (·.length)).sum + ys.length * z.length ≤ 16777216) (k : QP (.str (Txt.join z ys)) O) : Go (joinP (.str z) [p] O) QP := by
  unfold joinP
  simp only [e]
  rw [if_pos (decide_eq_true h)]
  exact k
theorem seq_new {ps : List PV} : seqOf (O ++ [some (.lst ps)]) (.loc O.length) = some ps := by
  have e : lstOf (O ++ [some (PV.lst ps)]) (.loc O.length) = some ps := lst_loc get_app
  unfold seqOf
  rw [e]
theorem go_joinN {ps : List PV} {ys : List Str} (e : strsOf ps = some ys) (h : (ys.map (·.length)).sum + ys.length * z.length ≤ 16777216) (k : QP (.str (Txt.join z ys)) (O ++ [some (.lst ps)])) : Go (joinP (.str z) [.loc O.length] (O ++ [some (.lst ps)])) QP := go_join (by rw [seq_new]; exact e) h k
theorem Fr.tr {O O' O'' : Sto} (b : Fr O' O'') (a : Fr O O') : Fr O O'' := a.trans b
theorem zl_emp : Str.empty.length = 0 := rfl
theorem join_1 (z x : Str) : Txt.join z [x] = x := rfl
theorem join_2 (z x y : Str) : Txt.join z [x, y] = x ++ z ++ y := rfl
theorem zl_app (a b : Str) : (a ++ b).length = a.length + b.length := Array.size_append
theorem go_iZ {QI : ItP → Sto → Prop} (k : Go (f s O) fun ps O1 => ∃ p q xs ys, ps = [p, q] ∧ frL p = some xs ∧ frL q = some ys ∧ QI (zipP xs ys, none) O1) : Go (iZ f s O) QI := go_bind (k.mono fun ps O1 ⟨p, q, xs, ys, e, e1, e2, h⟩ => by
  subst e
  simp only [e1, e2]
  exact h)
theorem g_iz {F : List PV → List PV → Prop} {xs ys : List PV} (e1 : frL p = some xs) (e2 : frL q = some ys) (k : F xs ys) : ∃ p' q' xs ys, [p, q] = [p', q'] ∧ frL p' = some xs ∧ frL q' = some ys ∧ F xs ys := ⟨p, q, xs, ys, rfl, e1, e2, k⟩
/-! while -/
/-! x in a list of own things -/
theorem go_inOL {cs : List Str} {n : Bool} (k : Go (inOP cs C m n p qs O) QP) : Go (inOL cs C m n p (.lst qs) O) QP := k
end
end Qx

/-! Own layer Qv: walk rules of Xs; lists of pairs of whole numbers. -/
namespace Qx
open PySem PySem.Spec PyProof.Rows L2 Gx
section
variable {s : Slots} {O O1 : Sto} {p q r : PV} {ps qs : List PV} {a b : EF} {f g : AF} {QP : PV → Sto → Prop} {QA : List PV → Sto → Prop}
/-! what is walked: a list or a tuple -/
theorem go_iAt {QI : ItP → Sto → Prop} (k : Go (a s O) fun p O1 => ∃ ps g, (match tupOf p with | some ps => some (ps, none) | none => itemsOf O1 p) = some (ps, g) ∧ QI (ps, g) O1) : Go (iA a s O) QI := by
  refine go_bind (k.mono fun p O1 ⟨ps, g, e, h⟩ => ?_)
  cases e1 : tupOf p with
  | some qs =>
    simp only [e1, Option.some.injEq, Prod.mk.injEq] at e
    obtain ⟨rfl, rfl⟩ := e
    exact h
  | none =>
    simp only [e1] at e
    have k2 := go_iLx (a := fun _ O => .ok p O) (s := s) (O := O1) (QI := QI) ⟨ps, g, e, h⟩
    exact k2
theorem g_at {F : List PV → Option (Nat × List PV) → Prop} (k : F ps none) : ∃ qs g, (match tupOf (.tup ps) with | some qs => some (qs, none) | none => itemsOf O (.tup ps)) = some (qs, g) ∧ F qs g := ⟨ps, none, rfl, k⟩
theorem g_al {F : List PV → Option (Nat × List PV) → Prop} (k : F ps none) : ∃ qs g, (match tupOf (.lst ps) with | some qs => some (qs, none) | none => itemsOf O (.lst ps)) = some (qs, g) ∧ F qs g := ⟨ps, none, rfl, k⟩
/-! pairs -/
theorem prsOf_map : ∀ zs : List (Int × Int), prsOf (zs.map prP) = some zs
  | [] => rfl
  | z :: zs => by
    rw [List.map_cons]
    unfold prsOf
    rw [prsOf_map zs]
    rfl
theorem go_sort2 {zs : List (Int × Int)} (e : lstOf O p = some (zs.map prP)) (k : QP (.lst ((zs.mergeSort leP).map prP)) O) : Go (bSort2 [p] O) QP := by
  unfold bSort2 b1
  simp only [e, prsOf_map]
  exact k
theorem go_isBB {b c : Bool} (k : QP (.bl (decide (b = c))) O) : Go (isB (.bl b) (.bl c) O) QP := k
theorem go_notBB {b c : Bool} (k : QP (.bl (!decide (b = c))) O) : Go (notB (.bl b) (.bl c) O) QP := k
theorem go_makeKO {C : Str} {m : MF} {gP : List PV → List PV → List PV} {n k : Nat} (h : Go (f s O) fun ps O1 => Go (g s O1) fun zs O2 => (ps.length = n ∧ zs.length = k) ∧ GMo m C (gP ps zs) O2 QP) : Go (eMakeKO C m n k gP f g s O) QP := go_bind (h.mono fun ps O1 h => go_bind (h.mono fun zs O2 h => by
  rw [if_pos h.1]
  exact go_bind (go_noX (Go.mono h.2 fun r O3 ⟨e, h3⟩ => by subst e; exact h3))))
/-! a list of pairs as data -/
/-! the last item -/
/-! try with several clauses -/
end
end Qx

namespace Qx
open PySem PySem.Spec PyProof.Rows L2 Gx
/-! walk -/
end Qx

namespace Qx
open PySem PySem.Spec PyProof.Rows L2 Gx
theorem go_slTA {l v : Option Int} {O : Sto} {ps : List PV} {QP : PV → Sto → Prop} (k : QP (.tup (cutP ps l v)) O) : Go (slTA (.tup ps) l v O) QP := k
/-! min by a key -/
end Qx

namespace Hd
open PySem PySem.Spec PyProof.Rows L2

structure Tx (w : World) (K : PySem.W.Frag) (mg : Str → Option Value) : Prop where
  h : ∃ (h : Heap), K.In h ∧ h.Ns mainGlobals mg ∧ He.SaysX fa fn tabs [] ex w h K
section
variable {w : World} {K : PySem.W.Frag} {mg : Str → Option Value}
theorem Tx.g__law_cell (T : Tx w K mg) : mg "_law_cell" = some (.ref (He.fAd K d__law_cell.at_)) := by obtain ⟨h, X, G, c⟩ := T.h; exact He.glo_ok X G (c.t.d.fact 0 (f := .glo "_law_cell") rfl)
theorem Tx.g__law_purse (T : Tx w K mg) : mg "_law_purse" = some (.ref (He.fAd K d__law_purse.at_)) := by obtain ⟨h, X, G, c⟩ := T.h; exact He.glo_ok X G (c.t.d.fact 1 (f := .glo "_law_purse") rfl)
theorem Tx.g__law_take (T : Tx w K mg) : mg "_law_take" = some (.ref (He.fAd K d__law_take.at_)) := by obtain ⟨h, X, G, c⟩ := T.h; exact He.glo_ok X G (c.t.d.fact 2 (f := .glo "_law_take") rfl)
theorem Tx.g__law_some (T : Tx w K mg) : mg "_law_some" = some (.ref (He.fAd K d__law_some.at_)) := by obtain ⟨h, X, G, c⟩ := T.h; exact He.glo_ok X G (c.t.d.fact 3 (f := .glo "_law_some") rfl)
theorem Tx.g_is_measure (T : Tx w K mg) : mg "is_measure" = some (.ref (He.fAd K d_is_measure.at_)) := by obtain ⟨h, X, G, c⟩ := T.h; exact He.glo_ok X G (c.t.d.fact 4 (f := .glo "is_measure") rfl)
theorem Tx.g_check_measure (T : Tx w K mg) : mg "check_measure" = some (.ref (He.fAd K d_check_measure.at_)) := by obtain ⟨h, X, G, c⟩ := T.h; exact He.glo_ok X G (c.t.d.fact 5 (f := .glo "check_measure") rfl)
theorem Tx.g__law_tray (T : Tx w K mg) : mg "_law_tray" = some (.ref (He.fAd K d__law_tray.at_)) := by obtain ⟨h, X, G, c⟩ := T.h; exact He.glo_ok X G (c.t.d.fact 6 (f := .glo "_law_tray") rfl)
theorem Tx.g__law_limits (T : Tx w K mg) : mg "_law_limits" = some (.ref (He.fAd K d__law_limits.at_)) := by obtain ⟨h, X, G, c⟩ := T.h; exact He.glo_ok X G (c.t.d.fact 7 (f := .glo "_law_limits") rfl)
theorem Tx.g__law_word (T : Tx w K mg) : mg "_law_word" = some (.ref (He.fAd K d__law_word.at_)) := by obtain ⟨h, X, G, c⟩ := T.h; exact He.glo_ok X G (c.t.d.fact 8 (f := .glo "_law_word") rfl)
theorem Tx.g__law_goes (T : Tx w K mg) : mg "_law_goes" = some (.ref (He.fAd K d__law_goes.at_)) := by obtain ⟨h, X, G, c⟩ := T.h; exact He.glo_ok X G (c.t.d.fact 9 (f := .glo "_law_goes") rfl)
theorem Tx.g__law_word_by_all (T : Tx w K mg) : mg "_law_word_by_all" = some (.ref (He.fAd K d__law_word_by_all.at_)) := by obtain ⟨h, X, G, c⟩ := T.h; exact He.glo_ok X G (c.t.d.fact 10 (f := .glo "_law_word_by_all") rfl)
theorem Tx.g__law_due (T : Tx w K mg) : mg "_law_due" = some (.ref (He.fAd K d__law_due.at_)) := by obtain ⟨h, X, G, c⟩ := T.h; exact He.glo_ok X G (c.t.d.fact 11 (f := .glo "_law_due") rfl)
theorem Tx.g_check_tray (T : Tx w K mg) : mg "check_tray" = some (.ref (He.fAd K d_check_tray.at_)) := by obtain ⟨h, X, G, c⟩ := T.h; exact He.glo_ok X G (c.t.d.fact 12 (f := .glo "check_tray") rfl)
theorem Tx.g_check_width (T : Tx w K mg) : mg "check_width" = some (.ref (He.fAd K d_check_width.at_)) := by obtain ⟨h, X, G, c⟩ := T.h; exact He.glo_ok X G (c.t.d.fact 13 (f := .glo "check_width") rfl)
theorem Tx.g_check_limits (T : Tx w K mg) : mg "check_limits" = some (.ref (He.fAd K d_check_limits.at_)) := by obtain ⟨h, X, G, c⟩ := T.h; exact He.glo_ok X G (c.t.d.fact 14 (f := .glo "check_limits") rfl)
theorem Tx.g_class_of (T : Tx w K mg) : mg "class_of" = some (.ref (He.fAd K d_class_of.at_)) := by obtain ⟨h, X, G, c⟩ := T.h; exact He.glo_ok X G (c.t.d.fact 15 (f := .glo "class_of") rfl)
theorem Tx.g_check_allowance (T : Tx w K mg) : mg "check_allowance" = some (.ref (He.fAd K d_check_allowance.at_)) := by obtain ⟨h, X, G, c⟩ := T.h; exact He.glo_ok X G (c.t.d.fact 16 (f := .glo "check_allowance") rfl)
theorem Tx.g_class_span (T : Tx w K mg) : mg "class_span" = some (.ref (He.fAd K d_class_span.at_)) := by obtain ⟨h, X, G, c⟩ := T.h; exact He.glo_ok X G (c.t.d.fact 17 (f := .glo "class_span") rfl)
theorem Tx.g_check_span (T : Tx w K mg) : mg "check_span" = some (.ref (He.fAd K d_check_span.at_)) := by obtain ⟨h, X, G, c⟩ := T.h; exact He.glo_ok X G (c.t.d.fact 18 (f := .glo "check_span") rfl)
theorem Tx.g_with_gap (T : Tx w K mg) : mg "with_gap" = some (.ref (He.fAd K d_with_gap.at_)) := by obtain ⟨h, X, G, c⟩ := T.h; exact He.glo_ok X G (c.t.d.fact 19 (f := .glo "with_gap") rfl)
theorem Tx.g_fit (T : Tx w K mg) : mg "fit" = some (.ref (He.fAd K d_fit.at_)) := by obtain ⟨h, X, G, c⟩ := T.h; exact He.glo_ok X G (c.t.d.fact 20 (f := .glo "fit") rfl)
theorem Tx.g_class_pairs (T : Tx w K mg) : mg "class_pairs" = some (.ref (He.fAd K d_class_pairs.at_)) := by obtain ⟨h, X, G, c⟩ := T.h; exact He.glo_ok X G (c.t.d.fact 21 (f := .glo "class_pairs") rfl)
theorem Tx.g__law_pieces_right (T : Tx w K mg) : mg "_law_pieces_right" = some (.ref (He.fAd K d__law_pieces_right.at_)) := by obtain ⟨h, X, G, c⟩ := T.h; exact He.glo_ok X G (c.t.d.fact 22 (f := .glo "_law_pieces_right") rfl)
theorem Tx.g__law_pairs_right (T : Tx w K mg) : mg "_law_pairs_right" = some (.ref (He.fAd K d__law_pairs_right.at_)) := by obtain ⟨h, X, G, c⟩ := T.h; exact He.glo_ok X G (c.t.d.fact 23 (f := .glo "_law_pairs_right") rfl)
theorem Tx.g__law_asked_right (T : Tx w K mg) : mg "_law_asked_right" = some (.ref (He.fAd K d__law_asked_right.at_)) := by obtain ⟨h, X, G, c⟩ := T.h; exact He.glo_ok X G (c.t.d.fact 24 (f := .glo "_law_asked_right") rfl)
theorem Tx.g_widest (T : Tx w K mg) : mg "widest" = some (.ref (He.fAd K d_widest.at_)) := by obtain ⟨h, X, G, c⟩ := T.h; exact He.glo_ok X G (c.t.d.fact 25 (f := .glo "widest") rfl)
theorem Tx.g__law_whole (T : Tx w K mg) : mg "_law_whole" = some (.ref (He.fAd K d__law_whole.at_)) := by obtain ⟨h, X, G, c⟩ := T.h; exact He.glo_ok X G (c.t.d.fact 26 (f := .glo "_law_whole") rfl)
theorem Tx.g__law_always (T : Tx w K mg) : mg "_law_always" = some (.ref (He.fAd K d__law_always.at_)) := by obtain ⟨h, X, G, c⟩ := T.h; exact He.glo_ok X G (c.t.d.fact 27 (f := .glo "_law_always") rfl)
theorem Tx.g__law_widest_right (T : Tx w K mg) : mg "_law_widest_right" = some (.ref (He.fAd K d__law_widest_right.at_)) := by obtain ⟨h, X, G, c⟩ := T.h; exact He.glo_ok X G (c.t.d.fact 28 (f := .glo "_law_widest_right") rfl)
theorem Tx.g_law (T : Tx w K mg) : mg "law" = some (.ref (He.fAd K d_law.at_)) := by obtain ⟨h, X, G, c⟩ := T.h; exact He.glo_ok X G (c.t.d.fact 29 (f := .glo "law") rfl)
theorem Tx.g_Span (T : Tx w K mg) : mg "Span" = some (.ref (He.ga K "Span")) := by obtain ⟨h, X, G, c⟩ := T.h; exact He.glo_ok X G (c.t.d.fact 39 (f := .glo "Span") rfl)
theorem Tx.g_Fit (T : Tx w K mg) : mg "Fit" = some (.ref (He.ga K "Fit")) := by obtain ⟨h, X, G, c⟩ := T.h; exact He.glo_ok X G (c.t.d.fact 40 (f := .glo "Fit") rfl)
theorem Tx.g_Tray (T : Tx w K mg) : mg "Tray" = some (.ref (He.ga K "Tray")) := by obtain ⟨h, X, G, c⟩ := T.h; exact He.glo_ok X G (c.t.d.fact 41 (f := .glo "Tray") rfl)
theorem Tx.f_len (T : Tx w K mg) : mg "len" = none := by obtain ⟨h, X, G, c⟩ := T.h; exact He.free_ok X G (c.t.d.fact 42 (f := .free "len") rfl)
theorem Tx.f_sum (T : Tx w K mg) : mg "sum" = none := by obtain ⟨h, X, G, c⟩ := T.h; exact He.free_ok X G (c.t.d.fact 43 (f := .free "sum") rfl)
theorem Tx.f_abs (T : Tx w K mg) : mg "abs" = none := by obtain ⟨h, X, G, c⟩ := T.h; exact He.free_ok X G (c.t.d.fact 44 (f := .free "abs") rfl)
theorem Tx.f_range (T : Tx w K mg) : mg "range" = none := by obtain ⟨h, X, G, c⟩ := T.h; exact He.free_ok X G (c.t.d.fact 45 (f := .free "range") rfl)
theorem Tx.f_isinstance (T : Tx w K mg) : mg "isinstance" = none := by obtain ⟨h, X, G, c⟩ := T.h; exact He.free_ok X G (c.t.d.fact 46 (f := .free "isinstance") rfl)
theorem Tx.f_int (T : Tx w K mg) : mg "int" = none := by obtain ⟨h, X, G, c⟩ := T.h; exact He.free_ok X G (c.t.d.fact 47 (f := .free "int") rfl)
theorem Tx.f_bool (T : Tx w K mg) : mg "bool" = none := by obtain ⟨h, X, G, c⟩ := T.h; exact He.free_ok X G (c.t.d.fact 48 (f := .free "bool") rfl)
theorem Tx.f_any (T : Tx w K mg) : mg "any" = none := by obtain ⟨h, X, G, c⟩ := T.h; exact He.free_ok X G (c.t.d.fact 49 (f := .free "any") rfl)
theorem Tx.f_all (T : Tx w K mg) : mg "all" = none := by obtain ⟨h, X, G, c⟩ := T.h; exact He.free_ok X G (c.t.d.fact 50 (f := .free "all") rfl)
theorem Tx.f_sorted (T : Tx w K mg) : mg "sorted" = none := by obtain ⟨h, X, G, c⟩ := T.h; exact He.free_ok X G (c.t.d.fact 51 (f := .free "sorted") rfl)
theorem Tx.f_tuple (T : Tx w K mg) : mg "tuple" = none := by obtain ⟨h, X, G, c⟩ := T.h; exact He.free_ok X G (c.t.d.fact 52 (f := .free "tuple") rfl)
theorem Tx.f_set (T : Tx w K mg) : mg "set" = none := by obtain ⟨h, X, G, c⟩ := T.h; exact He.free_ok X G (c.t.d.fact 53 (f := .free "set") rfl)
theorem Tx.f_enumerate (T : Tx w K mg) : mg "enumerate" = none := by obtain ⟨h, X, G, c⟩ := T.h; exact He.free_ok X G (c.t.d.fact 54 (f := .free "enumerate") rfl)
theorem Tx.f_min (T : Tx w K mg) : mg "min" = none := by obtain ⟨h, X, G, c⟩ := T.h; exact He.free_ok X G (c.t.d.fact 55 (f := .free "min") rfl)
theorem Tx.f_max (T : Tx w K mg) : mg "max" = none := by obtain ⟨h, X, G, c⟩ := T.h; exact He.free_ok X G (c.t.d.fact 56 (f := .free "max") rfl)
theorem Tx.f_repr (T : Tx w K mg) : mg "repr" = none := by obtain ⟨h, X, G, c⟩ := T.h; exact He.free_ok X G (c.t.d.fact 57 (f := .free "repr") rfl)
theorem Tx.mt_Tray_put (T : Tx w K mg) : Meth K (He.ga K "Tray") "put" (He.fAd K d_Tray_put.at_) := by obtain ⟨h, X, G, c⟩ := T.h; exact He.meth_ok (c.t.d.fact 58 (f := .meth "Tray" "put") rfl)
theorem Tx.mt_Tray_classes (T : Tx w K mg) : Meth K (He.ga K "Tray") "classes" (He.fAd K d_Tray_classes.at_) := by obtain ⟨h, X, G, c⟩ := T.h; exact He.meth_ok (c.t.d.fact 59 (f := .meth "Tray" "classes") rfl)
theorem Tx.cls_Span (T : Tx w K mg) : Cls K (He.ga K "Span") := by obtain ⟨h, X, G, c⟩ := T.h; exact He.cls_ok (c.t.d.fact 60 (f := .cls "Span") rfl)
theorem Tx.mkr_Span (T : Tx w K mg) : Mk K (He.ga K "Span") (He.fAd K d_Span___init__.at_) := by obtain ⟨h, X, G, c⟩ := T.h; exact He.mkr_ok (c.t.d.fact 61 (f := .mkr "Span") rfl)
theorem Tx.no_Span_size (T : Tx w K mg) : NoAttr K (He.ga K "Span") "size" := by obtain ⟨h, X, G, c⟩ := T.h; exact He.noat_ok (c.t.d.fact 62 (f := .noat "Span" "size") rfl)
theorem Tx.no_Span_above (T : Tx w K mg) : NoAttr K (He.ga K "Span") "above" := by obtain ⟨h, X, G, c⟩ := T.h; exact He.noat_ok (c.t.d.fact 63 (f := .noat "Span" "above") rfl)
theorem Tx.no_Span_below (T : Tx w K mg) : NoAttr K (He.ga K "Span") "below" := by obtain ⟨h, X, G, c⟩ := T.h; exact He.noat_ok (c.t.d.fact 64 (f := .noat "Span" "below") rfl)
theorem Tx.no_Span_low (T : Tx w K mg) : NoAttr K (He.ga K "Span") "low" := by obtain ⟨h, X, G, c⟩ := T.h; exact He.noat_ok (c.t.d.fact 65 (f := .noat "Span" "low") rfl)
theorem Tx.no_Span_high (T : Tx w K mg) : NoAttr K (He.ga K "Span") "high" := by obtain ⟨h, X, G, c⟩ := T.h; exact He.noat_ok (c.t.d.fact 66 (f := .noat "Span" "high") rfl)
theorem Tx.cls_Fit (T : Tx w K mg) : Cls K (He.ga K "Fit") := by obtain ⟨h, X, G, c⟩ := T.h; exact He.cls_ok (c.t.d.fact 67 (f := .cls "Fit") rfl)
theorem Tx.mkr_Fit (T : Tx w K mg) : Mk K (He.ga K "Fit") (He.fAd K d_Fit___init__.at_) := by obtain ⟨h, X, G, c⟩ := T.h; exact He.mkr_ok (c.t.d.fact 68 (f := .mkr "Fit") rfl)
theorem Tx.no_Fit_word (T : Tx w K mg) : NoAttr K (He.ga K "Fit") "word" := by obtain ⟨h, X, G, c⟩ := T.h; exact He.noat_ok (c.t.d.fact 69 (f := .noat "Fit" "word") rfl)
theorem Tx.no_Fit_goes (T : Tx w K mg) : NoAttr K (He.ga K "Fit") "goes" := by obtain ⟨h, X, G, c⟩ := T.h; exact He.noat_ok (c.t.d.fact 70 (f := .noat "Fit" "goes") rfl)
theorem Tx.no_Fit_fails (T : Tx w K mg) : NoAttr K (He.ga K "Fit") "fails" := by obtain ⟨h, X, G, c⟩ := T.h; exact He.noat_ok (c.t.d.fact 71 (f := .noat "Fit" "fails") rfl)
theorem Tx.cls_Tray (T : Tx w K mg) : Cls K (He.ga K "Tray") := by obtain ⟨h, X, G, c⟩ := T.h; exact He.cls_ok (c.t.d.fact 72 (f := .cls "Tray") rfl)
theorem Tx.mkr_Tray (T : Tx w K mg) : Mk K (He.ga K "Tray") (He.fAd K d_Tray___init__.at_) := by obtain ⟨h, X, G, c⟩ := T.h; exact He.mkr_ok (c.t.d.fact 73 (f := .mkr "Tray") rfl)
theorem Tx.no_Tray_kept (T : Tx w K mg) : NoAttr K (He.ga K "Tray") "kept" := by obtain ⟨h, X, G, c⟩ := T.h; exact He.noat_ok (c.t.d.fact 74 (f := .noat "Tray" "kept") rfl)
theorem Tx.df__law_cell (T : Tx w K mg) : ∃ fd, FunD K d__law_cell.name d__law_cell.qual d__law_cell.params d__law_cell.body d__law_cell.scope (d__law_cell.dvs K) (d__law_cell.kws K) (He.fAd K d__law_cell.at_) fd := by obtain ⟨h, X, G, c⟩ := T.h; exact c.t.d.def_ 0 (d := d__law_cell) rfl
theorem Tx.df__law_purse (T : Tx w K mg) : ∃ fd, FunD K d__law_purse.name d__law_purse.qual d__law_purse.params d__law_purse.body d__law_purse.scope (d__law_purse.dvs K) (d__law_purse.kws K) (He.fAd K d__law_purse.at_) fd := by obtain ⟨h, X, G, c⟩ := T.h; exact c.t.d.def_ 1 (d := d__law_purse) rfl
theorem Tx.df__law_take (T : Tx w K mg) : ∃ fd, FunD K d__law_take.name d__law_take.qual d__law_take.params d__law_take.body d__law_take.scope (d__law_take.dvs K) (d__law_take.kws K) (He.fAd K d__law_take.at_) fd := by obtain ⟨h, X, G, c⟩ := T.h; exact c.t.d.def_ 2 (d := d__law_take) rfl
theorem Tx.df__law_some (T : Tx w K mg) : ∃ fd, FunD K d__law_some.name d__law_some.qual d__law_some.params d__law_some.body d__law_some.scope (d__law_some.dvs K) (d__law_some.kws K) (He.fAd K d__law_some.at_) fd := by obtain ⟨h, X, G, c⟩ := T.h; exact c.t.d.def_ 3 (d := d__law_some) rfl
theorem Tx.df_Tray___init__ (T : Tx w K mg) : ∃ fd, FunD K d_Tray___init__.name d_Tray___init__.qual d_Tray___init__.params d_Tray___init__.body d_Tray___init__.scope (d_Tray___init__.dvs K) (d_Tray___init__.kws K) (He.fAd K d_Tray___init__.at_) fd := by obtain ⟨h, X, G, c⟩ := T.h; exact c.t.d.def_ 4 (d := d_Tray___init__) rfl
theorem Tx.df_is_measure (T : Tx w K mg) : ∃ fd, FunD K d_is_measure.name d_is_measure.qual d_is_measure.params d_is_measure.body d_is_measure.scope (d_is_measure.dvs K) (d_is_measure.kws K) (He.fAd K d_is_measure.at_) fd := by obtain ⟨h, X, G, c⟩ := T.h; exact c.t.d.def_ 5 (d := d_is_measure) rfl
theorem Tx.df_check_measure (T : Tx w K mg) : ∃ fd, FunD K d_check_measure.name d_check_measure.qual d_check_measure.params d_check_measure.body d_check_measure.scope (d_check_measure.dvs K) (d_check_measure.kws K) (He.fAd K d_check_measure.at_) fd := by obtain ⟨h, X, G, c⟩ := T.h; exact c.t.d.def_ 6 (d := d_check_measure) rfl
theorem Tx.df_Tray_put (T : Tx w K mg) : ∃ fd, FunD K d_Tray_put.name d_Tray_put.qual d_Tray_put.params d_Tray_put.body d_Tray_put.scope (d_Tray_put.dvs K) (d_Tray_put.kws K) (He.fAd K d_Tray_put.at_) fd := by obtain ⟨h, X, G, c⟩ := T.h; exact c.t.d.def_ 7 (d := d_Tray_put) rfl
theorem Tx.df__law_tray (T : Tx w K mg) : ∃ fd, FunD K d__law_tray.name d__law_tray.qual d__law_tray.params d__law_tray.body d__law_tray.scope (d__law_tray.dvs K) (d__law_tray.kws K) (He.fAd K d__law_tray.at_) fd := by obtain ⟨h, X, G, c⟩ := T.h; exact c.t.d.def_ 8 (d := d__law_tray) rfl
theorem Tx.df__law_limits (T : Tx w K mg) : ∃ fd, FunD K d__law_limits.name d__law_limits.qual d__law_limits.params d__law_limits.body d__law_limits.scope (d__law_limits.dvs K) (d__law_limits.kws K) (He.fAd K d__law_limits.at_) fd := by obtain ⟨h, X, G, c⟩ := T.h; exact c.t.d.def_ 9 (d := d__law_limits) rfl
theorem Tx.df__law_word (T : Tx w K mg) : ∃ fd, FunD K d__law_word.name d__law_word.qual d__law_word.params d__law_word.body d__law_word.scope (d__law_word.dvs K) (d__law_word.kws K) (He.fAd K d__law_word.at_) fd := by obtain ⟨h, X, G, c⟩ := T.h; exact c.t.d.def_ 10 (d := d__law_word) rfl
theorem Tx.df__law_goes (T : Tx w K mg) : ∃ fd, FunD K d__law_goes.name d__law_goes.qual d__law_goes.params d__law_goes.body d__law_goes.scope (d__law_goes.dvs K) (d__law_goes.kws K) (He.fAd K d__law_goes.at_) fd := by obtain ⟨h, X, G, c⟩ := T.h; exact c.t.d.def_ 11 (d := d__law_goes) rfl
theorem Tx.df__law_word_by_all (T : Tx w K mg) : ∃ fd, FunD K d__law_word_by_all.name d__law_word_by_all.qual d__law_word_by_all.params d__law_word_by_all.body d__law_word_by_all.scope (d__law_word_by_all.dvs K) (d__law_word_by_all.kws K) (He.fAd K d__law_word_by_all.at_) fd := by obtain ⟨h, X, G, c⟩ := T.h; exact c.t.d.def_ 12 (d := d__law_word_by_all) rfl
theorem Tx.df__law_due (T : Tx w K mg) : ∃ fd, FunD K d__law_due.name d__law_due.qual d__law_due.params d__law_due.body d__law_due.scope (d__law_due.dvs K) (d__law_due.kws K) (He.fAd K d__law_due.at_) fd := by obtain ⟨h, X, G, c⟩ := T.h; exact c.t.d.def_ 13 (d := d__law_due) rfl
theorem Tx.df_check_tray (T : Tx w K mg) : ∃ fd, FunD K d_check_tray.name d_check_tray.qual d_check_tray.params d_check_tray.body d_check_tray.scope (d_check_tray.dvs K) (d_check_tray.kws K) (He.fAd K d_check_tray.at_) fd := by obtain ⟨h, X, G, c⟩ := T.h; exact c.t.d.def_ 14 (d := d_check_tray) rfl
theorem Tx.df_check_width (T : Tx w K mg) : ∃ fd, FunD K d_check_width.name d_check_width.qual d_check_width.params d_check_width.body d_check_width.scope (d_check_width.dvs K) (d_check_width.kws K) (He.fAd K d_check_width.at_) fd := by obtain ⟨h, X, G, c⟩ := T.h; exact c.t.d.def_ 15 (d := d_check_width) rfl
theorem Tx.df_check_limits (T : Tx w K mg) : ∃ fd, FunD K d_check_limits.name d_check_limits.qual d_check_limits.params d_check_limits.body d_check_limits.scope (d_check_limits.dvs K) (d_check_limits.kws K) (He.fAd K d_check_limits.at_) fd := by obtain ⟨h, X, G, c⟩ := T.h; exact c.t.d.def_ 16 (d := d_check_limits) rfl
theorem Tx.df_class_of (T : Tx w K mg) : ∃ fd, FunD K d_class_of.name d_class_of.qual d_class_of.params d_class_of.body d_class_of.scope (d_class_of.dvs K) (d_class_of.kws K) (He.fAd K d_class_of.at_) fd := by obtain ⟨h, X, G, c⟩ := T.h; exact c.t.d.def_ 17 (d := d_class_of) rfl
theorem Tx.df_Tray_classes (T : Tx w K mg) : ∃ fd, FunD K d_Tray_classes.name d_Tray_classes.qual d_Tray_classes.params d_Tray_classes.body d_Tray_classes.scope (d_Tray_classes.dvs K) (d_Tray_classes.kws K) (He.fAd K d_Tray_classes.at_) fd := by obtain ⟨h, X, G, c⟩ := T.h; exact c.t.d.def_ 18 (d := d_Tray_classes) rfl
theorem Tx.df_check_allowance (T : Tx w K mg) : ∃ fd, FunD K d_check_allowance.name d_check_allowance.qual d_check_allowance.params d_check_allowance.body d_check_allowance.scope (d_check_allowance.dvs K) (d_check_allowance.kws K) (He.fAd K d_check_allowance.at_) fd := by obtain ⟨h, X, G, c⟩ := T.h; exact c.t.d.def_ 19 (d := d_check_allowance) rfl
theorem Tx.df_Span___init__ (T : Tx w K mg) : ∃ fd, FunD K d_Span___init__.name d_Span___init__.qual d_Span___init__.params d_Span___init__.body d_Span___init__.scope (d_Span___init__.dvs K) (d_Span___init__.kws K) (He.fAd K d_Span___init__.at_) fd := by obtain ⟨h, X, G, c⟩ := T.h; exact c.t.d.def_ 20 (d := d_Span___init__) rfl
theorem Tx.df_class_span (T : Tx w K mg) : ∃ fd, FunD K d_class_span.name d_class_span.qual d_class_span.params d_class_span.body d_class_span.scope (d_class_span.dvs K) (d_class_span.kws K) (He.fAd K d_class_span.at_) fd := by obtain ⟨h, X, G, c⟩ := T.h; exact c.t.d.def_ 21 (d := d_class_span) rfl
theorem Tx.df_check_span (T : Tx w K mg) : ∃ fd, FunD K d_check_span.name d_check_span.qual d_check_span.params d_check_span.body d_check_span.scope (d_check_span.dvs K) (d_check_span.kws K) (He.fAd K d_check_span.at_) fd := by obtain ⟨h, X, G, c⟩ := T.h; exact c.t.d.def_ 22 (d := d_check_span) rfl
theorem Tx.df_with_gap (T : Tx w K mg) : ∃ fd, FunD K d_with_gap.name d_with_gap.qual d_with_gap.params d_with_gap.body d_with_gap.scope (d_with_gap.dvs K) (d_with_gap.kws K) (He.fAd K d_with_gap.at_) fd := by obtain ⟨h, X, G, c⟩ := T.h; exact c.t.d.def_ 23 (d := d_with_gap) rfl
theorem Tx.df_Fit___init__ (T : Tx w K mg) : ∃ fd, FunD K d_Fit___init__.name d_Fit___init__.qual d_Fit___init__.params d_Fit___init__.body d_Fit___init__.scope (d_Fit___init__.dvs K) (d_Fit___init__.kws K) (He.fAd K d_Fit___init__.at_) fd := by obtain ⟨h, X, G, c⟩ := T.h; exact c.t.d.def_ 24 (d := d_Fit___init__) rfl
theorem Tx.df_fit (T : Tx w K mg) : ∃ fd, FunD K d_fit.name d_fit.qual d_fit.params d_fit.body d_fit.scope (d_fit.dvs K) (d_fit.kws K) (He.fAd K d_fit.at_) fd := by obtain ⟨h, X, G, c⟩ := T.h; exact c.t.d.def_ 25 (d := d_fit) rfl
theorem Tx.df_class_pairs (T : Tx w K mg) : ∃ fd, FunD K d_class_pairs.name d_class_pairs.qual d_class_pairs.params d_class_pairs.body d_class_pairs.scope (d_class_pairs.dvs K) (d_class_pairs.kws K) (He.fAd K d_class_pairs.at_) fd := by obtain ⟨h, X, G, c⟩ := T.h; exact c.t.d.def_ 26 (d := d_class_pairs) rfl
theorem Tx.df__law_pieces_right (T : Tx w K mg) : ∃ fd, FunD K d__law_pieces_right.name d__law_pieces_right.qual d__law_pieces_right.params d__law_pieces_right.body d__law_pieces_right.scope (d__law_pieces_right.dvs K) (d__law_pieces_right.kws K) (He.fAd K d__law_pieces_right.at_) fd := by obtain ⟨h, X, G, c⟩ := T.h; exact c.t.d.def_ 27 (d := d__law_pieces_right) rfl
theorem Tx.df__law_pairs_right (T : Tx w K mg) : ∃ fd, FunD K d__law_pairs_right.name d__law_pairs_right.qual d__law_pairs_right.params d__law_pairs_right.body d__law_pairs_right.scope (d__law_pairs_right.dvs K) (d__law_pairs_right.kws K) (He.fAd K d__law_pairs_right.at_) fd := by obtain ⟨h, X, G, c⟩ := T.h; exact c.t.d.def_ 28 (d := d__law_pairs_right) rfl
theorem Tx.df__law_asked_right (T : Tx w K mg) : ∃ fd, FunD K d__law_asked_right.name d__law_asked_right.qual d__law_asked_right.params d__law_asked_right.body d__law_asked_right.scope (d__law_asked_right.dvs K) (d__law_asked_right.kws K) (He.fAd K d__law_asked_right.at_) fd := by obtain ⟨h, X, G, c⟩ := T.h; exact c.t.d.def_ 29 (d := d__law_asked_right) rfl
theorem Tx.df_widest (T : Tx w K mg) : ∃ fd, FunD K d_widest.name d_widest.qual d_widest.params d_widest.body d_widest.scope (d_widest.dvs K) (d_widest.kws K) (He.fAd K d_widest.at_) fd := by obtain ⟨h, X, G, c⟩ := T.h; exact c.t.d.def_ 30 (d := d_widest) rfl
theorem Tx.df__law_whole (T : Tx w K mg) : ∃ fd, FunD K d__law_whole.name d__law_whole.qual d__law_whole.params d__law_whole.body d__law_whole.scope (d__law_whole.dvs K) (d__law_whole.kws K) (He.fAd K d__law_whole.at_) fd := by obtain ⟨h, X, G, c⟩ := T.h; exact c.t.d.def_ 31 (d := d__law_whole) rfl
theorem Tx.df__law_always (T : Tx w K mg) : ∃ fd, FunD K d__law_always.name d__law_always.qual d__law_always.params d__law_always.body d__law_always.scope (d__law_always.dvs K) (d__law_always.kws K) (He.fAd K d__law_always.at_) fd := by obtain ⟨h, X, G, c⟩ := T.h; exact c.t.d.def_ 32 (d := d__law_always) rfl
theorem Tx.df__law_widest_right (T : Tx w K mg) : ∃ fd, FunD K d__law_widest_right.name d__law_widest_right.qual d__law_widest_right.params d__law_widest_right.body d__law_widest_right.scope (d__law_widest_right.dvs K) (d__law_widest_right.kws K) (He.fAd K d__law_widest_right.at_) fd := by obtain ⟨h, X, G, c⟩ := T.h; exact c.t.d.def_ 33 (d := d__law_widest_right) rfl
theorem Tx.df_law (T : Tx w K mg) : ∃ fd, FunD K d_law.name d_law.qual d_law.params d_law.body d_law.scope (d_law.dvs K) (d_law.kws K) (He.fAd K d_law.at_) fd := by obtain ⟨h, X, G, c⟩ := T.h; exact c.t.d.def_ 34 (d := d_law) rfl
theorem Tx.ex (T : Tx w K mg) : ex K = true := by obtain ⟨h, X, G, c⟩ := T.h; exact c.more
theorem Tx.clsK (T : Tx w K mg) : Qx.ClsK K ["Span", "Fit", "Tray"] := Qx.ClsK.of T.ex fun C h => by
  simp only [List.mem_cons, List.not_mem_nil, or_false] at h
  rcases h with rfl | rfl | rfl
  · exact T.cls_Span
  · exact T.cls_Fit
  · exact T.cls_Tray
end
theorem b__law_cell : Gx.BdN d__law_cell ["_law_script", "_law_k"] := ⟨rfl, fun _ _ _ _ _ _ us hl => match us, hl with | [_, _], _ => rfl⟩
theorem b__law_purse : Gx.BdN d__law_purse ["_law_cell_here"] := ⟨rfl, fun _ _ _ _ _ _ us hl => match us, hl with | [_], _ => rfl⟩
theorem b__law_take : Gx.BdN d__law_take ["_law_purse_here", "_law_many"] := ⟨rfl, fun _ _ _ _ _ _ us hl => match us, hl with | [_, _], _ => rfl⟩
theorem b__law_some : Gx.BdN d__law_some ["_law_purse_here", "_law_many", "_law_size"] := ⟨rfl, fun _ _ _ _ _ _ us hl => match us, hl with | [_, _, _], _ => rfl⟩
theorem b_Tray___init__ : Gx.BdN d_Tray___init__ ["self"] := ⟨rfl, fun _ _ _ _ _ _ us hl => match us, hl with | [_], _ => rfl⟩
theorem b_is_measure : Gx.BdN d_is_measure ["thing"] := ⟨rfl, fun _ _ _ _ _ _ us hl => match us, hl with | [_], _ => rfl⟩
theorem b_check_measure : Gx.BdN d_check_measure ["thing"] := ⟨rfl, fun _ _ _ _ _ _ us hl => match us, hl with | [_], _ => rfl⟩
theorem b_Tray_put : Gx.BdN d_Tray_put ["self", "measure"] := ⟨rfl, fun _ _ _ _ _ _ us hl => match us, hl with | [_, _], _ => rfl⟩
theorem b__law_tray : Gx.BdN d__law_tray ["_law_pieces"] := ⟨rfl, fun _ _ _ _ _ _ us hl => match us, hl with | [_], _ => rfl⟩
theorem b__law_limits : Gx.BdN d__law_limits ["_law_purse_here", "_law_size"] := ⟨rfl, fun _ _ _ _ _ _ us hl => match us, hl with | [_, _], _ => rfl⟩
theorem b__law_word : Gx.BdN d__law_word ["_law_low", "_law_high", "_law_floor", "_law_roof"] := ⟨rfl, fun _ _ _ _ _ _ us hl => match us, hl with | [_, _, _, _], _ => rfl⟩
theorem b__law_goes : Gx.BdN d__law_goes ["_law_gap", "_law_floor", "_law_roof"] := ⟨rfl, fun _ _ _ _ _ _ us hl => match us, hl with | [_, _, _], _ => rfl⟩
theorem b__law_word_by_all : Gx.BdN d__law_word_by_all ["_law_gaps", "_law_floor", "_law_roof"] := ⟨rfl, fun _ _ _ _ _ _ us hl => match us, hl with | [_, _, _], _ => rfl⟩
theorem b__law_due : Gx.BdN d__law_due ["_law_outers", "_law_inners", "_law_wide", "_law_limits_here", "_law_root"] := ⟨rfl, fun _ _ _ _ _ _ us hl => match us, hl with | [_, _, _, _, _], _ => rfl⟩
theorem b_check_tray : Gx.BdN d_check_tray ["thing"] := ⟨rfl, fun _ _ _ _ _ _ us hl => match us, hl with | [_], _ => rfl⟩
theorem b_check_width : Gx.BdN d_check_width ["thing"] := ⟨rfl, fun _ _ _ _ _ _ us hl => match us, hl with | [_], _ => rfl⟩
theorem b_check_limits : Gx.BdN d_check_limits ["least", "most", "endless"] := ⟨rfl, fun _ _ _ _ _ _ us hl => match us, hl with | [_, _, _], _ => rfl⟩
theorem b_class_of : Gx.BdN d_class_of ["measure", "width", "base"] := ⟨rfl, fun _ _ _ _ _ _ us hl => match us, hl with | [_, _, _], _ => rfl⟩
theorem b_check_allowance : Gx.BdN d_check_allowance ["above", "below"] := ⟨rfl, fun _ _ _ _ _ _ us hl => match us, hl with | [_, _], _ => rfl⟩
theorem b_check_span : Gx.BdN d_check_span ["thing"] := ⟨rfl, fun _ _ _ _ _ _ us hl => match us, hl with | [_], _ => rfl⟩
theorem b_with_gap : Gx.BdN d_with_gap ["hole", "peg", "gap"] := ⟨rfl, fun _ _ _ _ _ _ us hl => match us, hl with | [_, _, _], _ => rfl⟩
theorem b_Fit___init__ : Gx.BdN d_Fit___init__ ["self", "word", "goes", "fails"] := ⟨rfl, fun _ _ _ _ _ _ us hl => match us, hl with | [_, _, _, _], _ => rfl⟩
theorem b__law_pieces_right : Gx.BdN d__law_pieces_right ["_law_told", "_law_outers", "_law_inners", "_law_wide", "_law_limits_here", "_law_root"] := ⟨rfl, fun _ _ _ _ _ _ us hl => match us, hl with | [_, _, _, _, _, _], _ => rfl⟩
theorem b__law_pairs_right : Gx.BdN d__law_pairs_right ["_law_trays", "_law_outers", "_law_inners", "_law_wide", "_law_limits_here", "_law_root"] := ⟨rfl, fun _ _ _ _ _ _ us hl => match us, hl with | [_, _, _, _, _, _], _ => rfl⟩
theorem b__law_asked_right : Gx.BdN d__law_asked_right ["_law_trays", "_law_outers", "_law_inners", "_law_asked"] := ⟨rfl, fun _ _ _ _ _ _ us hl => match us, hl with | [_, _, _, _], _ => rfl⟩
theorem b_widest : Gx.BdN d_widest ["least", "most"] := ⟨rfl, fun _ _ _ _ _ _ us hl => match us, hl with | [_, _], _ => rfl⟩
theorem b__law_whole : Gx.BdN d__law_whole ["_law_thing"] := ⟨rfl, fun _ _ _ _ _ _ us hl => match us, hl with | [_], _ => rfl⟩
theorem b__law_always : Gx.BdN d__law_always ["_law_wide", "_law_root", "_law_floor", "_law_roof"] := ⟨rfl, fun _ _ _ _ _ _ us hl => match us, hl with | [_, _, _, _], _ => rfl⟩
theorem b__law_widest_right : Gx.BdN d__law_widest_right ["_law_floor", "_law_roof"] := ⟨rfl, fun _ _ _ _ _ _ us hl => match us, hl with | [_, _], _ => rfl⟩
end Hd
namespace Qe
open PySem PySem.Spec PyProof.Rows L2
theorem funD_uniq {K : PySem.W.Frag} {x qual : Str} {params : Arguments} {body : List Stmt} {scope : Scope} {dvs : List V} {kws : List (Str × V)} {f : Addr} {fd fd' : FuncData} (F : FunD K x qual params body scope dvs kws f fd) (F' : FunD K x qual params body scope dvs kws f fd') : fd = fd' := by
  obtain ⟨oc, od, dV, kV, doc, pm, an, cdv, ct, osl, _, lk, _⟩ := F.ex
  obtain ⟨oc', od', dV', kV', doc', pm', an', cdv', ct', osl', _, lk', _⟩ := F'.ex
  rw [lk] at lk'
  have e := Option.some.inj lk'
  injection e with e1 e2 e3 e4
  injection e3
end Qe
section
open PySem PySem.W PySem.Calls PyProof.Rows
set_option maxRecDepth 100000 in
set_option maxHeartbeats 0 in
theorem Qe.end_gen (m : Qx.MF) (ht : ∀ {ns : List Int}, ns.length ≤ 63 → Qx.Go (m [.rol (ns.map .int)] []) fun q _ => q = .bl true)
    (hok : ∀ {P : Program} {w : World} {K : PySem.W.Frag} {mg : PySem.Str → Option Value} {base : Heap}, Hd.Tx w K mg → Gx.DOkG P w K mg base Hd.d_law L2.CX0 9 ["_law_script"] (Qx.spM K false m)) : PySem.Challenge.rw_fitwords_k42_classes_that_go.Holds := by
  w_on; o_law
  refine HandSHeadRun.head_any (r := OpenLaw.row PySem.Challenge.rw_fitwords_k42_classes_that_go) (q := view (OpenLaw.row PySem.Challenge.rw_fitwords_k42_classes_that_go).prog [67]) (H := Hd.hk) (ob := Hd.ob) (M := 20000) (loose := Hd.loose) (d := HandSHeadRun.topDef (OpenLaw.row PySem.Challenge.rw_fitwords_k42_classes_that_go).prog 67) (kwd := []) Hd.ob_eq
    (by kernel_rfl) (fun s => by kernel_rfl) Hd.run (by kernel_rfl) (by kernel_rfl) (by kernel_rfl) (by rfl) (by first | assumption | decide +kernel) (by decide +kernel) ⟨rfl, rfl, rfl, rfl, rfl, by decide +kernel⟩ ?hw ?hc
  case hw => w_witness2
  case hc =>
    refine Gx.walk_ofG (l := PySem.Challenge.rw_fitwords_k42_classes_that_go) (n := 63) (k := 9) (x := "_law_script") (CX := L2.CX0) rfl (by decide) (by kernel_rfl) ⟨rfl, by decide, by decide⟩ ?F (fun _ _ _ _ z => z)
    intro w mg fa h Y G hmg0
    obtain ⟨K, KX, c⟩ := Y
    have hmg : mg ("law" : PySem.Str) = some (.ref fa) := by
      have e : (HandSHeadRun.topDef (OpenLaw.row PySem.Challenge.rw_fitwords_k42_classes_that_go).prog 67).name = ("law" : PySem.Str) := by kernel_rfl
      rw [← e]
      exact hmg0
    have T : Hd.Tx w K mg := ⟨h, KX, G, c⟩
    have e := hmg.symm.trans T.g_law
    cases e
    obtain ⟨fd, F⟩ := T.df_law
    refine ⟨K, fd, Qx.spM K false m, KX, fun s u => ?_, fun H a ns hl _ hS => Qx.law_sp (ht hl) hS fun _ => rfl, fun base _ _ => ?_⟩
    · have b := L2.FunD.bindsA (ps := ["_law_script"]) F fun _ _ _ _ _ _ us hl => match us, hl with | [_], _ => rfl
      exact b s [u] rfl
    · obtain ⟨fd', F', G'⟩ := hok (P := (PySem.Challenge.rw_fitwords_k42_classes_that_go).prog) (w := w) (base := base) T
      rw [Qe.funD_uniq F F']
      exact G'
end
namespace Qg
open PySem PySem.Spec PyProof.Rows L2 Gx Qx
def cs : List Str := ["Span", "Fit", "Tray"]
noncomputable def m__law_cell : MF := mkDef 2 2
    (sSeq (sIf (tTst (eOp ltI (eVar 1) (eCB bLen (aCons (eVar 0) aNil)))) (sRet (eOp ixL (eVar 0) (eVar 1))) sSkip)
    (sRet (eOp addI (eOp addI (eOp mulI (eCB bSum (aCons (eSl slL (eVar 0) oNo (oSo (eC (.int 3)))) aNil)) (eC (.int 6007))) (eOp mulI (eC (.int 130003)) (eOp addI (eVar 1) (eC (.int 1))))) (eC (.int 29)))))
noncomputable def m__law_purse : MF := mkDef 1 2
    (sSeq (sAsg (eC (.int 0)) (gNm 1))
    (sSeq (sIf (tOrP (tTst (eOp ltI (eVar 0) (eC (.int 0)))) (tTst (eOp geI (eVar 0) (eOp powI (eC (.int 10)) (eC (.int 18)))))) (sAsg (eCB bAbs (aCons (eVar 0) aNil)) (gNm 1)) sSkip)
    (sRet (eLstO (aCons (eOp modI (eVar 0) (eC (.int 2147483399))) (aCons (eVar 1) (aCons (eC (.int 0)) aNil)))))))
noncomputable def m__law_take : MF := mkDef 2 4
    (sSeq (sAsg (eOp addI (eOp ixL (eVar 0) (eC (.int 2))) (eC (.int 1))) (gSubL (eVar 0) (eC (.int 2))))
    (sSeq (sAsg (eOp ixL (eVar 0) (eC (.int 0))) (gNm 2))
    (sSeq (sAsg (eOp modI (eOp addI (eOp addI (eOp mulI (eVar 2) (eOp addI (eOp modI (eVar 2) (eC (.int 43591))) (eC (.int 17011)))) (eOp mulI (eC (.int 88811)) (eOp ixL (eVar 0) (eC (.int 2))))) (eC (.int 7))) (eC (.int 2147483399))) (gSubL (eVar 0) (eC (.int 0))))
    (sSeq (sIf (tTst (eOp gtI (eOp ixL (eVar 0) (eC (.int 1))) (eC (.int 0)))) (sSeq (sAsg (eOp modI (eOp ixL (eVar 0) (eC (.int 1))) (eVar 1)) (gNm 3))
    (sSeq (sAsg (eOp fdivI (eOp ixL (eVar 0) (eC (.int 1))) (eVar 1)) (gSubL (eVar 0) (eC (.int 1))))
    (sRet (eVar 3)))) sSkip)
    (sRet (eOp modI (eOp fdivI (eOp ixL (eVar 0) (eC (.int 0))) (eC (.int 32))) (eVar 1)))))))
noncomputable def m__law_some : MF := mkDef 3 4
    (sRet (eLc (iR1 (aCons (eCall m__law_take [] (aCons (eVar 0) (aCons (eOp addI (eVar 1) (eC (.int 1))) aNil))) aNil)) (gNm 3) tYesP (eOp subI (eCall m__law_take [] (aCons (eVar 0) (aCons (eOp addI (eOp mulI (eC (.int 2)) (eVar 2)) (eC (.int 1))) aNil))) (eVar 2)) [3]))
noncomputable def m_Tray___init__ : MF := mkDef 1 1
    (sFldP "Tray" "kept" (eVar 0) (eLstO aNil))
noncomputable def m_is_measure : MF := mkDef 1 1
    (sRet (eAnd (eCB (isiP cs) (aCons (eVar 0) (aCons (eC (.ty "int")) aNil))) (eNot (eCB (isiP cs) (aCons (eVar 0) (aCons (eC (.ty "bool")) aNil))))))
noncomputable def m_check_measure : MF := mkDef 1 1
    (sIf (tNotP (tTst (eCall m_is_measure [] (aCons (eVar 0) aNil)))) sBad sSkip)
noncomputable def m_Tray_put : MF := mkDef 2 2
    (sSeq (sExp (eCall m_check_measure [] (aCons (eVar 1) aNil)))
    (sSeq (sExp (eBml appendP (eFld "Tray" "kept" (eVar 0)) (aCons (eVar 1) aNil)))
    (sRet (eOp subI (eCB bLen (aCons (eFld "Tray" "kept" (eVar 0)) aNil)) (eC (.int 1))))))
noncomputable def m__law_tray : MF := mkDef 1 3
    (sSeq (sAsg (eMakeO "Tray" m_Tray___init__ [] aNil) (gNm 1))
    (sSeq (sFor (iL (eVar 0)) (gNm 2) (sExp (eMeth "Tray" "put" m_Tray_put [] (eVar 1) (aCons (eVar 2) aNil))))
    (sRet (eVar 1))))
noncomputable def m__law_limits : MF := mkDef 2 4
    (sSeq (sAsg (eOp subI (eCall m__law_take [] (aCons (eVar 0) (aCons (eOp addI (eOp mulI (eC (.int 2)) (eVar 1)) (eC (.int 1))) aNil))) (eVar 1)) (gNm 2))
    (sSeq (sAsg (eOp addI (eVar 2) (eOp ixL (eLst (aCons (eC (.int 0)) (aCons (eCall m__law_take [] (aCons (eVar 0) (aCons (eC (.int 4)) aNil))) (aCons (eCall m__law_take [] (aCons (eVar 0) (aCons (eOp addI (eVar 1) (eC (.int 1))) aNil))) aNil)))) (eCall m__law_take [] (aCons (eVar 0) (aCons (eC (.int 3)) aNil))))) (gNm 3))
    (sRet (eTup (aCons (eVar 2) (aCons (eOp ixL (eLst (aCons (eVar 3) (aCons (eVar 3) (aCons (eC .non) aNil)))) (eCall m__law_take [] (aCons (eVar 0) (aCons (eC (.int 3)) aNil)))) aNil))))))
noncomputable def m__law_word : MF := mkDef 4 4
    (sSeq (sIf (tAndP (tTst (eOp geI (eVar 0) (eVar 2))) (tOrP (tTst (eOp isN (eVar 3) (eC .non))) (tTst (eOp leI (eVar 1) (eVar 3))))) (sRet (eC (.str "sure"))) sSkip)
    (sRet (eOp ixL (eLst (aCons (eC (.str "may")) (aCons (eC (.str "never")) aNil))) (eCB bInt (aCons (eOr (eOp ltI (eVar 1) (eVar 2)) (eAnd (eOp notN (eVar 3) (eC .non)) (eOp gtI (eVar 0) (eVar 3)))) aNil)))))
noncomputable def m__law_goes : MF := mkDef 3 3
    (sRet (eAnd (eOp leI (eVar 1) (eVar 0)) (eOr (eOp isN (eVar 2) (eC .non)) (eOp leI (eVar 0) (eVar 2)))))
noncomputable def m__law_word_by_all : MF := mkDef 3 5
    (sSeq (sAsg (eLc (iL (eVar 0)) (gNm 4) tYesP (eCall m__law_goes [] (aCons (eVar 4) (aCons (eVar 1) (aCons (eVar 2) aNil)))) [4]) (gNm 3))
    (sRet (eOp ixL (eLst (aCons (eC (.str "never")) (aCons (eC (.str "may")) (aCons (eC (.str "sure")) aNil)))) (eOp addI (eCB bInt (aCons (eCB bAny (aCons (eVar 3) aNil)) aNil)) (eCB bInt (aCons (eCB bAll (aCons (eVar 3) aNil)) aNil))))))
noncomputable def m__law_due : MF := mkDef 5 13
    (sSeq (sAsg (eLstO aNil) (gNm 5))
    (sSeq (sFor (iL (eSortSet (eLc (iL (eVar 0)) (gNm 11) tYesP (eOp fdivI (eOp subI (eVar 11) (eVar 4)) (eVar 2)) [11]))) (gNm 6) (sFor (iL (eSortSet (eLc (iL (eVar 1)) (gNm 11) tYesP (eOp fdivI (eOp subI (eVar 11) (eVar 4)) (eVar 2)) [11]))) (gNm 7) (sSeq (sAsg (eOp subI (eOp mulI (eOp subI (eVar 6) (eVar 7)) (eVar 2)) (eOp subI (eVar 2) (eC (.int 1)))) (gNm 8))
    (sSeq (sAsg (eCall m__law_word [] (aCons (eVar 8) (aCons (eOp addI (eVar 8) (eOp mulI (eC (.int 2)) (eOp subI (eVar 2) (eC (.int 1))))) (aCons (eOp ixT (eVar 3) (eC (.int 0))) (aCons (eOp ixT (eVar 3) (eC (.int 1))) aNil))))) (gNm 9))
    (sSeq (sIf (tTst (eOp ltI (eVar 2) (eC (.int 7)))) (sSeq (sAsg (eLc (iR1 (aCons (eOp subI (eOp mulI (eC (.int 2)) (eVar 2)) (eC (.int 1))) aNil)) (gNm 12) tYesP (eOp addI (eVar 8) (eVar 12)) [12]) (gNm 10))
    (sIf (tTst (eOp neS (eVar 9) (eCall m__law_word_by_all [] (aCons (eVar 10) (aCons (eOp ixT (eVar 3) (eC (.int 0))) (aCons (eOp ixT (eVar 3) (eC (.int 1))) aNil)))))) (sRet (eC .non)) sSkip)) sSkip)
    (sIf (tTst (eOp neS (eVar 9) (eC (.str "never")))) (sExp (eBml appendP (eVar 5) (aCons (eTup (aCons (eVar 6) (aCons (eVar 7) (aCons (eVar 9) aNil)))) aNil))) sSkip))))))
    (sRet (eCB bTup (aCons (eVar 5) aNil)))))
noncomputable def m_check_tray : MF := mkDef 1 1
    (sIf (tNotP (tTst (eCB (isiP cs) (aCons (eVar 0) (aCons (eC (.cls "Tray")) aNil))))) sBad sSkip)
noncomputable def m_check_width : MF := mkDef 1 1
    (sIf (tOrP (tNotP (tTst (eCall m_is_measure [] (aCons (eVar 0) aNil)))) (tTst (eOp ltI (eVar 0) (eC (.int 1))))) sBad sSkip)
noncomputable def m_check_limits : MF := mkDef 3 3
    (sSeq (sIf (tNotP (tTst (eCall m_is_measure [] (aCons (eVar 0) aNil)))) sBad sSkip)
    (sSeq (sIf (tAndP (tTst (eOp isN (eVar 1) (eC .non))) (tTst (eVar 2))) sRetN sSkip)
    (sIf (tOrP (tNotP (tTst (eCall m_is_measure [] (aCons (eVar 1) aNil)))) (tTst (eOp ltI (eVar 1) (eVar 0)))) sBad sSkip)))
noncomputable def m_class_of : MF := mkDef 3 3
    (sRet (eOp fdivI (eOp subI (eVar 0) (eVar 2)) (eVar 1)))
noncomputable def m_Tray_classes : MF := mkDef 3 7
    (sSeq (sExp (eCall m_check_width [] (aCons (eVar 1) aNil)))
    (sSeq (sExp (eCall m_check_measure [] (aCons (eVar 2) aNil)))
    (sSeq (sAsg eDic0O (gNm 3))
    (sSeq (sFor (iEM (aCons (eFld "Tray" "kept" (eVar 0)) aNil)) (gTupP 2 (gConsP (gNm 4) (gConsP (gNm 5) gNilP))) (sExp (eBml appendP (eSetd (eVar 3) (eCall m_class_of [] (aCons (eVar 5) (aCons (eVar 1) (aCons (eVar 2) aNil)))) (eLstO aNil)) (aCons (eVar 4) aNil))))
    (sRet (eCB bTup (aCons (eLc (iL (eCB bSortDZ (aCons (eVar 3) aNil))) (gNm 6) tYesP (eTup (aCons (eVar 6) (aCons (eCB bTup (aCons (eOp ixDk (eVar 3) (eVar 6)) aNil)) aNil))) [6]) aNil)))))))
noncomputable def m_check_allowance : MF := mkDef 2 2
    (sIf (tOrP (tNotP (tTst (eCall m_is_measure [] (aCons (eVar 0) aNil)))) (tOrP (tNotP (tTst (eCall m_is_measure [] (aCons (eVar 1) aNil)))) (tTst (eOp ltI (eOp addI (eVar 0) (eVar 1)) (eC (.int 0)))))) sBad sSkip)
noncomputable def m_Span___init__ := mkInit 3 4
    (bSeq (bExp (eCall m_check_measure [] (aCons (eVar 1) aNil)))
    (bSeq (bExp (eCall m_check_allowance [] (aCons (eVar 2) (aCons (eVar 3) aNil))))
    (bSeq (bFld "size" (eVar 1))
    (bSeq (bFld "above" (eVar 2))
    (bSeq (bFld "below" (eVar 3))
    (bSeq (bFld "low" (eOp subI (eVar 1) (eVar 3)))
    (bFld "high" (eOp addI (eVar 1) (eVar 2)))))))))
noncomputable def m_class_span : MF := mkDef 3 3
    (sSeq (sExp (eCall m_check_measure [] (aCons (eVar 0) aNil)))
    (sSeq (sExp (eCall m_check_width [] (aCons (eVar 1) aNil)))
    (sSeq (sExp (eCall m_check_measure [] (aCons (eVar 2) aNil)))
    (sRet (eMakeK "Span" m_Span___init__ 1 2 (fun us ws => us ++ (ws.drop 0).take 1 ++ (ws.drop 1).take 1) (aCons (eOp addI (eVar 2) (eOp mulI (eVar 0) (eVar 1))) aNil) (aCons (eOp subI (eVar 1) (eC (.int 1))) (aCons (eC (.int 0)) aNil)))))))
noncomputable def m_check_span : MF := mkDef 1 1
    (sIf (tNotP (tTst (eCB (isiP cs) (aCons (eVar 0) (aCons (eC (.cls "Span")) aNil))))) sBad sSkip)
noncomputable def m_with_gap : MF := mkDef 3 5
    (sSeq (sAsg (eOp subI (eVar 2) (eOp subI (eFld "Span" "low" (eVar 0)) (eFld "Span" "high" (eVar 1)))) (gNm 3))
    (sSeq (sAsg (eCB bMin2 (aCons (eVar 3) (aCons (eOp subI (eFld "Span" "high" (eVar 0)) (eFld "Span" "low" (eVar 0))) aNil))) (gNm 4))
    (sRet (eTup (aCons (eOp addI (eFld "Span" "low" (eVar 0)) (eVar 4)) (aCons (eOp subI (eFld "Span" "high" (eVar 1)) (eOp subI (eVar 3) (eVar 4))) aNil))))))
noncomputable def m_Fit___init__ := mkInit 3 4
    (bSeq (bFld "word" (eVar 1))
    (bSeq (bFld "goes" (eVar 2))
    (bFld "fails" (eVar 3))))
noncomputable def m_fit : MF := mkDef 4 8
    (sSeq (sExp (eCall m_check_span [] (aCons (eVar 0) aNil)))
    (sSeq (sExp (eCall m_check_span [] (aCons (eVar 1) aNil)))
    (sSeq (sExp (eCall m_check_limits [] (aCons (eVar 2) (aCons (eVar 3) (aCons (eC (.bl true)) aNil)))))
    (sSeq (sPar 4 5 (aCons (eOp subI (eFld "Span" "low" (eVar 0)) (eFld "Span" "high" (eVar 1))) (aCons (eOp subI (eFld "Span" "high" (eVar 0)) (eFld "Span" "low" (eVar 1))) aNil)))
    (sSeq (sAsg (eTup (aCons (eC .non) (aCons (eC .non) aNil))) (gTupP 2 (gConsP (gNm 6) (gConsP (gNm 7) gNilP))))
    (sSeq (sIf (tAndP (tTst (eOp geI (eVar 5) (eVar 2))) (tOrP (tTst (eOp isN (eVar 3) (eC .non))) (tTst (eOp leI (eVar 4) (eVar 3))))) (sAsg (eCall m_with_gap [] (aCons (eVar 0) (aCons (eVar 1) (aCons (eCB bMax2 (aCons (eVar 4) (aCons (eVar 2) aNil))) aNil)))) (gNm 6)) sSkip)
    (sSeq (sIf (tTst (eOp ltI (eVar 4) (eVar 2))) (sAsg (eCall m_with_gap [] (aCons (eVar 0) (aCons (eVar 1) (aCons (eVar 4) aNil)))) (gNm 7)) (sIf (tAndP (tTst (eOp notN (eVar 3) (eC .non))) (tTst (eOp gtI (eVar 5) (eVar 3)))) (sAsg (eCall m_with_gap [] (aCons (eVar 0) (aCons (eVar 1) (aCons (eVar 5) aNil)))) (gNm 7)) sSkip))
    (sSeq (sIf (tTst (eOp isN (eVar 6) (eC .non))) (sRet (eMake "Fit" m_Fit___init__ [] (aCons (eC (.str "never")) (aCons (eVar 6) (aCons (eVar 7) aNil))))) sSkip)
    (sRet (eMake "Fit" m_Fit___init__ [] (aCons (eIf (tTst (eOp isN (eVar 7) (eC .non))) (eC (.str "sure")) (eC (.str "may"))) (aCons (eVar 6) (aCons (eVar 7) aNil)))))))))))))
noncomputable def m_class_pairs : MF := mkDef 6 13
    (sSeq (sExp (eCall m_check_tray [] (aCons (eVar 0) aNil)))
    (sSeq (sExp (eCall m_check_tray [] (aCons (eVar 1) aNil)))
    (sSeq (sExp (eCall m_check_width [] (aCons (eVar 2) aNil)))
    (sSeq (sExp (eCall m_check_limits [] (aCons (eVar 3) (aCons (eVar 4) (aCons (eC (.bl true)) aNil)))))
    (sSeq (sExp (eCall m_check_measure [] (aCons (eVar 5) aNil)))
    (sSeq (sAsg (eLstO aNil) (gNm 6))
    (sSeq (sFor (iT (eMethK "Tray" "classes" m_Tray_classes 2 1 (fun us ws => us ++ (ws.drop 0).take 1) (eVar 0) (aCons (eVar 2) aNil) (aCons (eVar 5) aNil))) (gTupP 2 (gConsP (gNm 7) (gConsP (gNm 8) gNilP))) (sSeq (sAsg (eCallK m_class_span 2 1 (fun us ws => us ++ (ws.drop 0).take 1) (aCons (eVar 7) (aCons (eVar 2) aNil)) (aCons (eVar 5) aNil)) (gNm 9))
    (sFor (iT (eMethK "Tray" "classes" m_Tray_classes 2 1 (fun us ws => us ++ (ws.drop 0).take 1) (eVar 1) (aCons (eVar 2) aNil) (aCons (eVar 5) aNil))) (gTupP 2 (gConsP (gNm 10) (gConsP (gNm 11) gNilP))) (sSeq (sAsg (eFld "Fit" "word" (eCallK m_fit 2 2 (fun us ws => us ++ (ws.drop 0).take 1 ++ (ws.drop 1).take 1) (aCons (eVar 9) (aCons (eCallK m_class_span 2 1 (fun us ws => us ++ (ws.drop 0).take 1) (aCons (eVar 10) (aCons (eVar 2) aNil)) (aCons (eVar 5) aNil)) aNil)) (aCons (eVar 3) (aCons (eVar 4) aNil)))) (gNm 12))
    (sIf (tTst (eOp neS (eVar 12) (eC (.str "never")))) (sExp (eBml appendP (eVar 6) (aCons (eTup (aCons (eVar 7) (aCons (eVar 10) (aCons (eVar 12) aNil)))) aNil))) sSkip)))))
    (sRet (eCB bTup (aCons (eVar 6) aNil))))))))))
noncomputable def m__law_pieces_right : MF := mkDef 6 13
    (sSeq (sAsg eDnewT (gNm 6))
    (sSeq (sFor (iT (eVar 0)) (gTupP 3 (gConsP (gNm 8) (gConsP (gNm 9) (gConsP (gNm 10) gNilP)))) (sDPutT (eVar 6) (aCons (eVar 8) (aCons (eVar 9) aNil)) (eVar 10)))
    (sSeq (sFor (iL (eVar 1)) (gNm 7) (sFor (iL (eVar 2)) (gNm 11) (sSeq (sAsg (eGet2T (eVar 6) (aCons (eOp fdivI (eOp subI (eVar 7) (eVar 5)) (eVar 3)) (aCons (eOp fdivI (eOp subI (eVar 11) (eVar 5)) (eVar 3)) aNil)) (eC (.str "never"))) (gNm 10))
    (sSeq (sAsg (eCall m__law_goes [] (aCons (eOp subI (eVar 7) (eVar 11)) (aCons (eOp ixT (eVar 4) (eC (.int 0))) (aCons (eOp ixT (eVar 4) (eC (.int 1))) aNil)))) (gNm 12))
    (sIf (tOrP (tAndP (tTst (eVar 12)) (tTst (eOp eqS (eVar 10) (eC (.str "never"))))) (tAndP (tTst (eOp eqS (eVar 10) (eC (.str "sure")))) (tNotP (tTst (eVar 12))))) (sRet (eC (.bl false))) sSkip)))))
    (sRet (eC (.bl true))))))
noncomputable def m__law_pairs_right : MF := mkDef 6 13
    (sSeq (sAsg (eVar 0) (gTupP 2 (gConsP (gNm 8) (gConsP (gNm 9) gNilP))))
    (sSeq (sAsg (eVar 4) (gTupP 2 (gConsP (gNm 10) (gConsP (gNm 11) gNilP))))
    (sSeq (sAsg (eCall m__law_due [] (aCons (eVar 1) (aCons (eVar 2) (aCons (eVar 3) (aCons (eVar 4) (aCons (eVar 5) aNil)))))) (gNm 6))
    (sSeq (sAsg (eLstO (aCons (eCall m_class_pairs [] (aCons (eVar 8) (aCons (eVar 9) (aCons (eVar 3) (aCons (eVar 10) (aCons (eVar 11) (aCons (eVar 5) aNil))))))) aNil)) (gNm 7))
    (sSeq (sExp (eBml appendP (eVar 7) (aCons (eCallK m_class_pairs 0 6 (fun us ws => us ++ (ws.drop 5).take 1 ++ (ws.drop 3).take 1 ++ (ws.drop 4).take 1 ++ (ws.drop 1).take 1 ++ (ws.drop 2).take 1 ++ (ws.drop 0).take 1) aNil (aCons (eVar 5) (aCons (eVar 10) (aCons (eVar 11) (aCons (eVar 9) (aCons (eVar 3) (aCons (eVar 8) aNil))))))) aNil)))
    (sSeq (sIf (tTst (eOp eqS (eVar 5) (eC (.int 0)))) (sExp (eBml appendP (eVar 7) (aCons (eCall m_class_pairs [.int (0)] (aCons (eVar 8) (aCons (eVar 9) (aCons (eVar 3) (aCons (eVar 10) (aCons (eVar 11) aNil)))))) aNil))) sSkip)
    (sSeq (sIf (tAndP (tTst (eOp eqS (eVar 5) (eC (.int 0)))) (tTst (eOp isN (eVar 11) (eC .non)))) (sSeq (sExp (eBml appendP (eVar 7) (aCons (eCallK m_class_pairs 3 1 (fun us ws => us ++ (ws.drop 0).take 1 ++ ([.non] : List PV) ++ ([.int (0)] : List PV)) (aCons (eVar 8) (aCons (eVar 9) (aCons (eVar 3) aNil))) (aCons (eVar 10) aNil)) aNil)))
    (sIf (tTst (eOp eqS (eVar 10) (eC (.int 0)))) (sExp (eBml appendP (eVar 7) (aCons (eCall m_class_pairs [.int (0), .non, .int (0)] (aCons (eVar 8) (aCons (eVar 9) (aCons (eVar 3) aNil)))) aNil))) sSkip)) sSkip)
    (sSeq (sIf (tTst (eCB bAny (aCons (eLc (iL (eVar 7)) (gNm 12) tYesP (eOr (eNot (eCB (isiP cs) (aCons (eVar 12) (aCons (eC (.ty "tuple")) aNil)))) (eOp neS (eCB bReprD (aCons (eVar 12) aNil)) (eCB bReprD (aCons (eVar 6) aNil)))) [12]) aNil))) (sRet (eC (.bl false))) sSkip)
    (sRet (eCall m__law_pieces_right [] (aCons (eOp ixL (eVar 7) (eC (.int 0))) (aCons (eVar 1) (aCons (eVar 2) (aCons (eVar 3) (aCons (eVar 4) (aCons (eVar 5) aNil))))))))))))))))
noncomputable def m__law_asked_right : MF := mkDef 4 7
    (sRet (eCB bAll (aCons (eLc (iL (eVar 3)) (gTupP 3 (gConsP (gNm 4) (gConsP (gNm 5) (gConsP (gNm 6) gNilP)))) tYesP (eCall m__law_pairs_right [] (aCons (eVar 0) (aCons (eVar 1) (aCons (eVar 2) (aCons (eVar 4) (aCons (eVar 5) (aCons (eVar 6) aNil))))))) [4, 5, 6]) aNil)))
noncomputable def m_widest : MF := mkDef 2 3
    (sSeq (sExp (eCall m_check_limits [] (aCons (eVar 0) (aCons (eVar 1) (aCons (eC (.bl false)) aNil)))))
    (sSeq (sAsg (eOp addI (eOp fdivI (eOp subI (eVar 1) (eVar 0)) (eC (.int 2))) (eC (.int 1))) (gNm 2))
    (sRet (eTup (aCons (eVar 2) (aCons (eOp subI (eOp addI (eVar 0) (eVar 2)) (eC (.int 1))) aNil))))))
noncomputable def m__law_whole : MF := mkDef 1 1
    (sRet (eAnd (eCB (isiP cs) (aCons (eVar 0) (aCons (eC (.ty "int")) aNil))) (eNot (eCB (isiP cs) (aCons (eVar 0) (aCons (eC (.ty "bool")) aNil))))))
noncomputable def m__law_always : MF := mkDef 4 4
    (sRet (eAnd (eOp leI (eVar 2) (eOp subI (eVar 1) (eOp subI (eVar 0) (eC (.int 1))))) (eOp leI (eOp subI (eOp addI (eVar 1) (eVar 0)) (eC (.int 1))) (eVar 3))))
noncomputable def m__law_widest_right : MF := mkDef 2 9
    (sSeq (sAsg (eCall m_widest [] (aCons (eVar 0) (aCons (eVar 1) aNil))) (gNm 2))
    (sSeq (sIf (tOrP (tNotP (tTst (eCB (isiP cs) (aCons (eVar 2) (aCons (eC (.ty "tuple")) aNil))))) (tOrP (tTst (eOp neS (eCB bLen (aCons (eVar 2) aNil)) (eC (.int 2)))) (tNotP (tTst (eCB bAll (aCons (eLc (iT (eVar 2)) (gNm 3) tYesP (eCall m__law_whole [] (aCons (eVar 3) aNil)) [3]) aNil)))))) (sRet (eC (.bl false))) sSkip)
    (sSeq (sIf (tTst (eOp neD (eVar 2) (eCallK m_widest 0 2 (fun us ws => us ++ (ws.drop 1).take 1 ++ (ws.drop 0).take 1) aNil (aCons (eVar 1) (aCons (eVar 0) aNil))))) (sRet (eC (.bl false))) sSkip)
    (sSeq (sAsg (eVar 2) (gTupP 2 (gConsP (gNm 5) (gConsP (gNm 6) gNilP))))
    (sSeq (sIf (tOrP (tNotP (tTst (eCall m__law_always [] (aCons (eVar 5) (aCons (eVar 6) (aCons (eVar 0) (aCons (eVar 1) aNil))))))) (tTst (eCall m__law_always [] (aCons (eVar 5) (aCons (eOp subI (eVar 6) (eC (.int 1))) (aCons (eVar 0) (aCons (eVar 1) aNil))))))) (sRet (eC (.bl false))) sSkip)
    (sSeq (sIf (tTst (eOp ltI (eOp subI (eVar 1) (eVar 0)) (eC (.int 30)))) (sFor (iR2 (aCons (eOp subI (eVar 0) (eC (.int 2))) (aCons (eOp addI (eVar 1) (eC (.int 3))) aNil))) (gNm 7) (sIf (tOrP (tTst (eCall m__law_always [] (aCons (eOp addI (eVar 5) (eC (.int 1))) (aCons (eVar 7) (aCons (eVar 0) (aCons (eVar 1) aNil)))))) (tAndP (tTst (eOp ltI (eVar 7) (eVar 6))) (tTst (eCall m__law_always [] (aCons (eVar 5) (aCons (eVar 7) (aCons (eVar 0) (aCons (eVar 1) aNil)))))))) (sRet (eC (.bl false))) sSkip)) sSkip)
    (sSeq (sIf (tTst (eOp gtI (eVar 5) (eC (.int 900)))) (sRet (eAnd (eOp gtI (eOp mulI (eC (.int 2)) (eVar 5)) (eOp subI (eVar 1) (eVar 0))) (eOp eqS (eVar 6) (eOp subI (eOp addI (eVar 0) (eVar 5)) (eC (.int 1)))))) sSkip)
    (sSeq (sAsg (eCall m_fit [] (aCons (eMake "Span" m_Span___init__ [.int (0)] (aCons (eVar 6) (aCons (eOp subI (eVar 5) (eC (.int 1))) aNil))) (aCons (eMake "Span" m_Span___init__ [.int (0)] (aCons (eC (.int 0)) (aCons (eOp subI (eVar 5) (eC (.int 1))) aNil))) (aCons (eVar 0) (aCons (eVar 1) aNil))))) (gNm 3))
    (sSeq (sAsg (eLc (iT (eTup (aCons (eVar 6) (aCons (eOp addI (eVar 6) (eC (.int 1))) (aCons (eOp addI (eVar 0) (eVar 5)) aNil))))) (gNm 8) tYesP (eFld "Fit" "word" (eCall m_fit [] (aCons (eMake "Span" m_Span___init__ [.int (0)] (aCons (eVar 8) (aCons (eVar 5) aNil))) (aCons (eMake "Span" m_Span___init__ [.int (0)] (aCons (eC (.int 0)) (aCons (eVar 5) aNil))) (aCons (eVar 0) (aCons (eVar 1) aNil)))))) [8]) (gNm 4))
    (sRet (eAnd (eOp eqS (eFld "Fit" "word" (eVar 3)) (eC (.str "sure"))) (eOp (inS true) (eC (.str "sure")) (eVar 4)))))))))))))
noncomputable def m_law : MF := mkDef 1 16
    (sSeq (sFor (iR1 (aCons (eCB bMax2 (aCons (eC (.int 2)) (aCons (eCB bMin2 (aCons (eCB bLen (aCons (eVar 0) aNil)) (aCons (eC (.int 6)) aNil))) aNil))) aNil)) (gNm 1) (sSeq (sAsg (eCall m__law_purse [] (aCons (eCall m__law_cell [] (aCons (eVar 0) (aCons (eVar 1) aNil))) aNil)) (gNm 2))
    (sSeq (sPar 8 9 (aCons (eCall m__law_some [] (aCons (eVar 2) (aCons (eC (.int 6)) (aCons (eC (.int 14)) aNil)))) (aCons (eCall m__law_some [] (aCons (eVar 2) (aCons (eC (.int 6)) (aCons (eC (.int 14)) aNil)))) aNil)))
    (sSeq (sAsg (eTup (aCons (eCall m__law_tray [] (aCons (eVar 8) aNil)) (aCons (eCall m__law_tray [] (aCons (eVar 9) aNil)) aNil))) (gNm 3))
    (sSeq (sAsg (eLstO (aCons (eTup (aCons (eC (.int 2)) (aCons (eTup (aCons (eC (.int 0)) (aCons (eC .non) aNil))) (aCons (eC (.int 0)) aNil)))) aNil)) (gNm 4))
    (sSeq (sFor (iR1 (aCons (eC (.int 2)) aNil)) (gNm 5) (sSeq (sPar 11 14 (aCons (eOp addI (eC (.int 1)) (eCall m__law_take [] (aCons (eVar 2) (aCons (eC (.int 6)) aNil)))) (aCons (eOp ixL (eLst (aCons (eC (.int 0)) (aCons (eOp subI (eCall m__law_take [] (aCons (eVar 2) (aCons (eC (.int 13)) aNil))) (eC (.int 6))) (aCons (eC (.int 40)) aNil)))) (eCall m__law_take [] (aCons (eVar 2) (aCons (eC (.int 3)) aNil)))) aNil)))
    (sExp (eBml appendP (eVar 4) (aCons (eTup (aCons (eVar 11) (aCons (eCall m__law_limits [] (aCons (eVar 2) (aCons (eC (.int 14)) aNil))) (aCons (eVar 14) aNil)))) aNil)))))
    (sSeq (sExp (eBml appendP (eVar 4) (aCons (eTup (aCons (eOp ixT (eOp ixL (eVar 4) (eC (.int 1))) (eC (.int 0))) (aCons (eOp ixT (eOp ixL (eVar 4) (eC (.int 2))) (eC (.int 1))) (aCons (eOp ixT (eOp ixL (eVar 4) (eC (.int 1))) (eC (.int 2))) aNil)))) aNil)))
    (sSeq (sIf (tNotP (tTst (eCall m__law_asked_right [] (aCons (eVar 3) (aCons (eVar 8) (aCons (eVar 9) (aCons (eOp catL (eVar 4) (eSl slL (eVar 4) (oSo (eC (.int 1))) (oSo (eC (.int 2))))) aNil))))))) (sRet (eC (.bl false))) sSkip)
    (sSeq (sExp (eMeth "Tray" "put" m_Tray_put [] (eOp ixT (eVar 3) (eC (.int 0))) (aCons (eC (.int 5)) aNil)))
    (sSeq (sExp (eMeth "Tray" "put" m_Tray_put [] (eOp ixT (eVar 3) (eC (.int 1))) (aCons (eOp subI (eC (.int 0)) (eC (.int 3))) aNil)))
    (sSeq (sIf (tNotP (tTst (eCall m__law_asked_right [] (aCons (eVar 3) (aCons (eOp catL (eVar 8) (eLst (aCons (eC (.int 5)) aNil))) (aCons (eOp catL (eVar 9) (eLst (aCons (eOp subI (eC (.int 0)) (eC (.int 3))) aNil))) (aCons (eVar 4) aNil))))))) (sRet (eC (.bl false))) sSkip)
    (sSeq (sAsg (eLc (iL (eVar 9)) (gNm 15) tYesP (eOp addI (eVar 15) (eC (.int 2))) [15]) (gNm 6))
    (sSeq (sIf (tNotP (tTst (eCall m__law_asked_right [] (aCons (eTup (aCons (eOp ixT (eVar 3) (eC (.int 0))) (aCons (eCall m__law_tray [] (aCons (eVar 6) aNil)) aNil))) (aCons (eOp catL (eVar 8) (eLst (aCons (eC (.int 5)) aNil))) (aCons (eVar 6) (aCons (eSl slL (eVar 4) oNo (oSo (eC (.int 2)))) aNil))))))) (sRet (eC (.bl false))) sSkip)
    (sSeq (sIf (tNotP (tTst (eCall m__law_asked_right [] (aCons (eVar 3) (aCons (eOp catL (eVar 8) (eLst (aCons (eC (.int 5)) aNil))) (aCons (eOp catL (eVar 9) (eLst (aCons (eOp subI (eC (.int 0)) (eC (.int 3))) aNil))) (aCons (eSl slL (eVar 4) oNo (oSo (eC (.int 2)))) aNil))))))) (sRet (eC (.bl false))) sSkip)
    (sSeq (sPar 8 9 (aCons (eCall m__law_some [] (aCons (eVar 2) (aCons (eC (.int 12)) (aCons (eC (.int 6399)) aNil)))) (aCons (eCall m__law_some [] (aCons (eVar 2) (aCons (eC (.int 12)) (aCons (eC (.int 6399)) aNil)))) aNil)))
    (sSeq (sPar 10 11 (aCons (eCall m__law_limits [] (aCons (eVar 2) (aCons (eC (.int 6399)) aNil))) (aCons (eOp addI (eC (.int 1)) (eCall m__law_take [] (aCons (eVar 2) (aCons (eOp ixL (eLst (aCons (eC (.int 999)) (aCons (eC (.int 99999)) aNil))) (eCB bInt (aCons (eOp eqS (eCall m__law_take [] (aCons (eVar 2) (aCons (eC (.int 8)) aNil))) (eC (.int 5))) aNil))) aNil)))) aNil)))
    (sSeq (sAsg (eTup (aCons (eCall m__law_tray [] (aCons (eVar 8) aNil)) (aCons (eCall m__law_tray [] (aCons (eVar 9) aNil)) aNil))) (gNm 3))
    (sSeq (sIf (tNotP (tTst (eCall m__law_pairs_right [] (aCons (eVar 3) (aCons (eVar 8) (aCons (eVar 9) (aCons (eVar 11) (aCons (eVar 10) (aCons (eOp ixL (eLst (aCons (eC (.int 0)) (aCons (eCall m__law_take [] (aCons (eVar 2) (aCons (eC (.int 999)) aNil))) aNil))) (eCall m__law_take [] (aCons (eVar 2) (aCons (eC (.int 2)) aNil)))) aNil))))))))) (sRet (eC (.bl false))) sSkip)
    (sFor (iL (eLst (aCons (eC (.int 6)) (aCons (eC (.int 900)) (aCons (eC (.int 99000)) aNil))))) (gNm 7) (sSeq (sAsg (eOp subI (eCall m__law_take [] (aCons (eVar 2) (aCons (eOp addI (eOp mulI (eC (.int 2)) (eVar 7)) (eC (.int 1))) aNil))) (eVar 7)) (gNm 12))
    (sSeq (sAsg (eOp ixL (eLst (aCons (eC (.int 0)) (aCons (eC (.int 1)) (aCons (eCall m__law_take [] (aCons (eVar 2) (aCons (eC (.int 25)) aNil))) (aCons (eCall m__law_take [] (aCons (eVar 2) (aCons (eVar 7) aNil))) aNil))))) (eCall m__law_take [] (aCons (eVar 2) (aCons (eC (.int 4)) aNil)))) (gNm 13))
    (sIf (tNotP (tTst (eCall m__law_widest_right [] (aCons (eVar 12) (aCons (eOp addI (eVar 12) (eVar 13)) aNil))))) (sRet (eC (.bl false))) sSkip))))))))))))))))))))))
    (sRet (eC (.bl true))))
/-! ### the walk of a mirror -/
local macro_rules | `(tactic| wtm_at "q.z0_0") => `(tactic| fail)
set_option hygiene false in
local macro_rules | `(tactic| wtm_at "q.z0_0") => `(tactic| first
  | ((with_reducible refine' go_var ?e ?_); (case e => exact rfl))
  | with_reducible refine go_c ?_
  | with_reducible refine go_op ?_
  | with_reducible refine go_cons ?_
  | with_reducible refine go_nil ?_
  | with_reducible refine go_call0 ?_
  | with_reducible refine go_call ?_
  | ((with_reducible refine' g_m ?e ?_); (case e => (simp only [List.drop_zero, List.drop_succ_cons, List.take_succ_cons, List.take_zero, List.take_nil, List.drop_nil, List.nil_append, List.cons_append, List.append_nil, List.singleton_append]; exact rfl)))
  | ((with_reducible refine' g_mk ?e ?_); (case e => (simp only [List.drop_zero, List.drop_succ_cons, List.take_succ_cons, List.take_zero, List.take_nil, List.drop_nil, List.nil_append, List.cons_append, List.append_nil, List.singleton_append]; exact rfl)))
  | with_reducible refine go_addI ?_
  | with_reducible refine go_subI ?_
  | with_reducible refine go_seq ?_
  | with_reducible refine go_asg ?_
  | ((with_reducible refine' go_nm ?e ?_); (case e => (simp only [List.set_cons_succ, List.set_cons_zero]; exact rfl)))
  | with_reducible refine go_ret ?_
  | with_reducible refine go_ifS ?_
  | with_reducible refine go_skip ?_
  | with_reducible refine go_tst ?_
  | with_reducible refine g_b ?_
  | with_reducible refine go_tnot ?_
  | with_reducible refine go_tor ?_
  | with_reducible refine go_tand ?_
  | with_reducible refine go_tup ?_
  | ((with_reducible refine' g_tup0 ?e ?_); (case e => exact rfl))
  | ((with_reducible refine' go_ixT ?e ?_); (case e => exact rfl))
  | ((with_reducible refine' go_ixL ?e ?e2 ?_); (case e => first | exact rfl | (apply lst_loc; assumption) | exact lst_loc get_app); (case e2 => exact rfl))
  | with_reducible refine go_fld ?_
  | ((with_reducible refine' g_fld ?e ?e2 ?_); (case e => first | exact rfl | (apply ins_loc; assumption)); (case e2 => exact rfl))
  | with_reducible refine go_meth ?_
  | with_reducible refine go_methK ?_
  | ((with_reducible refine' g_meth ?e ?e2 ?_); (case e => first | exact rfl | (apply ins_loc; assumption)); (case e2 => exact rfl))
  | with_reducible refine go_bind ?_
  | with_reducible refine go_make ?_
  | with_reducible refine go_makeO ?_
  | ((with_reducible refine' g_mo ?e ?_); (case e => (simp only [List.drop_zero, List.drop_succ_cons, List.take_succ_cons, List.take_zero, List.take_nil, List.drop_nil, List.nil_append, List.cons_append, List.append_nil, List.singleton_append]; exact rfl)))
  | with_reducible refine go_fldS ?_
  | with_reducible refine go_frz ?_
  | with_reducible refine go_bml ?_
  | ((with_reducible refine' g_and ?h ?_); (case h => (apply some_loc; assumption)))
  | with_reducible refine go_makeK ?_)
local macro_rules | `(tactic| wtm_at "q.z0_1") => `(tactic| fail)
set_option hygiene false in
local macro_rules | `(tactic| wtm_at "q.z0_1") => `(tactic| first
  | with_reducible refine go_callK ?_
  | ((with_reducible refine' g_and ?h ?_); (case h => exact ⟨rfl, rfl⟩))
  | ((with_reducible refine' g_and ?h ?_); (case h => exact (rfl : _ = true)))
  | ((with_reducible refine' go_ifp ?h ?_); (case h => exact ⟨rfl, rfl⟩))
  | with_reducible refine go_exp ?_
  | with_reducible refine go_cb ?_
  | with_reducible refine go_leI ?_
  | with_reducible refine go_ltI ?_
  | with_reducible refine go_gtI ?_
  | with_reducible refine go_geI ?_
  | with_reducible refine go_eqI ?_
  | with_reducible refine go_neI ?_
  | with_reducible refine go_eqB ?_
  | with_reducible refine go_neB ?_
  | with_reducible refine go_eqZ ?_
  | with_reducible refine go_neZ ?_
  | ((with_reducible refine' go_isNb (b := true) ?e ?_); (case e => exact rfl))
  | ((with_reducible refine' go_isNb (b := false) ?e ?_); (case e => exact rfl))
  | ((with_reducible refine' go_notNb (b := true) ?e ?_); (case e => exact rfl))
  | ((with_reducible refine' go_notNb (b := false) ?e ?_); (case e => exact rfl))
  | with_reducible refine go_isN ?_
  | with_reducible refine go_notN ?_
  | ((with_reducible refine' go_modI ?e ?_); (case e => first | decide | omega))
  | ((with_reducible refine' go_fdivI ?e ?_); (case e => first | rfl | (unfold divOk; exact decide_eq_true (by omega))))
  | ((with_reducible refine' go_mulI ?e ?_); (case e => first | rfl | (unfold mulOk; exact decide_eq_true (by omega))))
  | ((with_reducible refine' go_powI ?e ?_); (case e => first | rfl | decide))
  | with_reducible refine go_and ?_
  | with_reducible refine go_or ?_
  | with_reducible refine go_not ?_
  | with_reducible refine go_if ?_
  | with_reducible refine go_chain ?_
  | with_reducible refine go_lst ?_
  | with_reducible refine go_lstO ?_
  | ((with_reducible refine' g_lst0 ?e ?_); (case e => exact rfl))
  | ((with_reducible refine' g_lstO0 ?e ?_); (case e => exact rfl))
  | with_reducible refine go_sl ?_
  | with_reducible refine go_ono ?_
  | with_reducible refine go_oso ?_
  | with_reducible refine g_i ?_
  | with_reducible refine go_slTA ?_)
local macro_rules | `(tactic| wtm_at "q.z0_2") => `(tactic| fail)
set_option hygiene false in
local macro_rules | `(tactic| wtm_at "q.z0_2") => `(tactic| first
  | ((with_reducible refine' go_slT ?e ?e2 ?_); (case e => exact rfl); (case e2 => exact rfl))
  | ((with_reducible refine' go_slL ?e ?_); (case e => first | exact rfl | (apply lst_loc; assumption) | exact lst_loc get_app))
  | ((with_reducible refine' go_catT ?e ?e2 ?_); (case e => exact rfl); (case e2 => (simp only [List.cons_append, List.nil_append]; exact rfl)))
  | with_reducible refine go_par ?_
  | ((with_reducible refine' g_par ?e ?_); (case e => (simp only [List.set_cons_succ, List.set_cons_zero]; exact rfl)))
  | with_reducible refine go_par3 ?_
  | ((with_reducible refine' g_par3 ?e ?_); (case e => (simp only [List.set_cons_succ, List.set_cons_zero]; exact rfl)))
  | ((with_reducible refine' go_aug ?e ?_); (case e => exact rfl))
  | ((with_reducible refine' g_set ?e ?_); (case e => (simp only [List.set_cons_succ, List.set_cons_zero]; exact rfl)))
  | ((with_reducible refine' go_gtup ?e ?e2 ?_); (case e => exact rfl); (case e2 => exact rfl))
  | ((with_reducible refine' go_glst ?e ?e2 ?_); (case e => first | exact rfl | (apply lst_loc; assumption) | exact lst_loc get_app); (case e2 => exact rfl))
  | with_reducible refine go_gcons ?_
  | with_reducible refine go_gnil ?_
  | with_reducible refine go_gsub ?_
  | with_reducible refine go_retN ?_
  | with_reducible refine go_un ?_
  | with_reducible refine go_negI ?_
  | ((with_reducible refine' go_oeq ?e ?e2 ?_); (case e => exact rfl); (case e2 => exact rfl))
  | ((with_reducible refine' go_one ?e ?e2 ?_); (case e => exact rfl); (case e2 => exact rfl))
  | ((with_reducible refine' go_olen ?e ?_); (case e => exact rfl))
  | ((with_reducible refine' go_isi ?e ?e2 ?_); (case e => exact rfl); (case e2 => first | exact kit_same (by decide) | exact kit_ii | exact kit_ib | exact kit_bb | exact kit_bi | exact kit_ss | exact kit_tt | exact kit_nb | exact kit_ni | exact kit_nt | exact kit_si | exact rfl))
  | ((with_reducible refine' go_len ?e ?_); (case e => first | exact rfl | (apply seq_loc; assumption)))
  | with_reducible refine go_rng ?_
  | with_reducible refine go_max2 ?_
  | with_reducible refine go_min2 ?_
  | with_reducible refine go_abs ?_
  | with_reducible refine go_intI ?_
  | with_reducible refine go_intB ?_
  | ((with_reducible refine' go_divmod ?e ?_); (case e => first | rfl | (unfold divOk; exact decide_eq_true (by omega))))
  | ((with_reducible refine' go_bTupL ?e ?_); (case e => first | exact rfl | (apply lst_loc; assumption) | exact lst_loc get_app))
  | with_reducible refine go_bTupT ?_
  | with_reducible refine go_for ?_
  | ((with_reducible refine' go_lc ?e ?_); (case e => (simp only [wipeP, List.set_cons_succ, List.set_cons_zero]; exact rfl)))
  | ((with_reducible refine' go_lcO ?e ?_); (case e => (simp only [wipeP, List.set_cons_succ, List.set_cons_zero]; exact rfl)))
  | with_reducible refine go_yes ?_
  | with_reducible refine goc1 ?_
  | with_reducible refine go_iLx ?_
  | ((with_reducible refine' g_itF ?e ?_); (case e => exact rfl))
  | ((with_reducible refine' g_itL ?e ?_); (case e => assumption))
  | with_reducible refine g_itN ?_)
local macro_rules | `(tactic| wtm_at "q.z0_3") => `(tactic| fail)
set_option hygiene false in
local macro_rules | `(tactic| wtm_at "q.z0_3") => `(tactic| first
  | ((with_reducible refine' go_appN ?h ?e ?_); (case h => exact rfl); (case e => (simp only [List.nil_append, List.cons_append]; exact rfl)))
  | ((with_reducible refine' g_and ?h ?_); (case h => exact some_loc get_app))
  | with_reducible refine go_iT ?_
  | with_reducible refine go_iR1 ?_
  | with_reducible refine go_iR2 ?_
  | ((with_reducible refine' g_r1 ?h ?_); (case h => omega))
  | ((with_reducible refine' g_r2 ?h ?_); (case h => omega))
  | with_reducible refine Gx.s_iteT ?_
  | with_reducible refine Gx.s_iteF ?_
  | with_reducible refine Gx.s_iteNT ?_
  | with_reducible refine Gx.s_iteNF ?_
  | ((with_reducible refine' comp_one1 ?e ?_); (case e => exact rfl))
  | ((with_reducible refine' g_acc ?e ?_); (case e => (simp only [List.nil_append, List.cons_append]; exact rfl)))
  | with_reducible refine comp_nil ?_
  | ((with_reducible refine' comp_one1g ?hg ?e ?_); (case hg => first | exact get_app | assumption); (case e => exact rfl))
  | ((with_reducible refine' comp_nilg ?hg ?_); (case hg => first | exact get_app | assumption))
  | ((with_reducible refine' go_anyC (b := true) ?e ?e2 ?_); (case e => exact rfl); (case e2 => exact rfl))
  | ((with_reducible refine' go_anyC (b := false) ?e ?e2 ?_); (case e => exact rfl); (case e2 => exact rfl))
  | ((with_reducible refine' go_allC (b := true) ?e ?e2 ?_); (case e => exact rfl); (case e2 => exact rfl))
  | ((with_reducible refine' go_allC (b := false) ?e ?e2 ?_); (case e => exact rfl); (case e2 => exact rfl))
  | ((with_reducible refine' go_eqTI ?e ?e2 ?e3 ?e4 ?_); (case e => exact rfl); (case e2 => exact rfl); (case e3 => (simp only [List.map_append, List.map_cons, List.map_nil, unP, List.cons_append, List.nil_append]; exact rfl)); (case e4 => (simp only [List.map_append, List.map_cons, List.map_nil, unP, List.cons_append, List.nil_append]; exact rfl)))
  | ((with_reducible refine' go_neTI ?e ?e2 ?e3 ?e4 ?_); (case e => exact rfl); (case e2 => exact rfl); (case e3 => (simp only [List.map_append, List.map_cons, List.map_nil, unP, List.cons_append, List.nil_append]; exact rfl)); (case e4 => (simp only [List.map_append, List.map_cons, List.map_nil, unP, List.cons_append, List.nil_append]; exact rfl)))
  | ((with_reducible refine' g_ips ?e ?_); (case e => exact rfl))
  | ((with_reducible refine' g_ipt ?e ?_); (case e => exact rfl))
  | ((with_reducible refine' g_n ?e ?_); (case e => omega))
  | ((with_reducible refine' go_in0 ?e ?e2 ?e3 ?e4 ?_); (case e => exact rfl); (case e2 => exact rfl); (case e3 => (simp only [List.map_cons, List.map_nil, unP]; exact rfl)); (case e4 => (dsimp only [memD])))
  | ((with_reducible refine' go_in1 ?e ?e2 ?e3 ?e4 ?_); (case e => exact rfl); (case e2 => exact rfl); (case e3 => (simp only [List.map_cons, List.map_nil, unP]; exact rfl)); (case e4 => (dsimp only [memD])))
  | with_reducible refine go_bseq ?_
  | with_reducible refine go_bexp ?_
  | with_reducible refine go_bfld ?_
  | ((with_reducible refine' g_bf ?h ?_); (case h => decide))
  | ((with_reducible refine' g_subX h ?e ?_); (case e => exact rfl); clear h; intro O h; simp only [Int.reduceToNat, Int.toNat_zero, Int.toNat_one, List.set_cons_zero, List.set_cons_succ] at h)
  | ((with_reducible refine' go_ixX h ?e ?_); (case e => exact rfl))
  | with_reducible refine go_dic0 ?_
  | with_reducible refine go_bms ?_
  | with_reducible refine go_fmtO ?_
  | ((with_reducible refine' go_otxt ?e ?_); (case e => exact rfl))
  | ((with_reducible refine' go_obool ?e ?_); (case e => exact rfl))
  | ((with_reducible refine' go_oeqA ?e ?e2 ?_); (case e => exact rfl); (case e2 => exact rfl))
  | ((with_reducible refine' go_oneA ?e ?e2 ?_); (case e => exact rfl); (case e2 => exact rfl)))
local macro_rules | `(tactic| wtm_at "q.z0_4") => `(tactic| fail)
set_option hygiene false in
local macro_rules | `(tactic| wtm_at "q.z0_4") => `(tactic| first
  | with_reducible refine go_iZ ?_
  | ((with_reducible refine' g_iz ?e ?e2 ?_); (case e => exact rfl); (case e2 => exact rfl))
  | with_reducible refine go_inOL ?_
  | with_reducible refine go_bms0 ?_
  | with_reducible refine go_js ?_
  | with_reducible refine gj_cons ?_
  | with_reducible refine gj_nil ?_
  | with_reducible refine g_str ?_
  | with_reducible refine go_fmt ?_
  | with_reducible refine go_strS ?_
  | ((with_reducible refine' go_addS ?h ?_); (case h => (first | omega | (simp only [zl_app, zl_emp, join_1, join_2]; omega) | decide +kernel)))
  | ((with_reducible refine' g_and ?h ?_); (case h => ((first | unfold sizeLine | skip); (first | omega | (simp only [zl_app, zl_emp, join_1, join_2]; omega)))))
  | ((with_reducible refine' g_fmtS ?h ?_); (case h => ((first | unfold sizeLine | skip); (first | omega | (simp only [zl_app, zl_emp, join_1, join_2]; omega)))))
  | ((with_reducible refine' go_strI ?h ?_); (case h => (refine log_ok ?_; omega)))
  | ((with_reducible refine' g_fmtI ?h ?_); (case h => (refine log_ok ?_; omega)))
  | ((with_reducible refine' go_joinN ?e ?h ?_); (case e => exact rfl); (case h => (simp only [List.map_cons, List.map_nil, List.sum_cons, List.sum_nil, List.length_cons, List.length_nil, zl_app, zl_emp, join_1, join_2]; omega)))
  | ((with_reducible refine' go_rep01 ?h ?_); (case h => decide))
  | with_reducible refine go_iAt ?_
  | with_reducible refine g_at ?_
  | with_reducible refine g_al ?_
  | ((with_reducible refine' go_sort2 ?e ?_); (case e => exact rfl))
  | with_reducible refine go_isBB ?_
  | with_reducible refine go_notBB ?_
  | with_reducible refine go_makeKO ?_
  | dsimp only)
local macro_rules | `(tactic| wtm_at "q.c0") => `(tactic| fail)
set_option hygiene false in
local macro_rules | `(tactic| wtm_at "q.c0") => `(tactic| first
  | wtm_at "q.z0_0"
  | wtm_at "q.z0_1"
  | wtm_at "q.z0_2"
  | wtm_at "q.z0_3"
  | wtm_at "q.z0_4")
set_option hygiene false in
local macro_rules | `(tactic| wtm_at "q.c") => `(tactic| repeat wtm_at "q.c0")
set_option hygiene false in
local macro_rules | `(tactic| wtm_at "q.b") => `(tactic| first
  | ((with_reducible refine' bt ?h ?_); (case h => omega))
  | ((with_reducible refine' bf ?h ?_); (case h => omega))
  | ((with_reducible refine' bnt ?h ?_); (case h => omega))
  | ((with_reducible refine' bnf ?h ?_); (case h => omega))
  | ((with_reducible refine' bt ?h ?_); (case h => exact rfl))
  | ((with_reducible refine' bf ?h ?_); (case h => decide))
  | ((with_reducible refine' bnt ?h ?_); (case h => decide))
  | ((with_reducible refine' bnf ?h ?_); (case h => exact rfl)))
set_option hygiene false in
local macro_rules | `(tactic| wtm_at "q.ixi") => `(tactic| ((refine' go_ixI ?e ?ei ?h0 ?h1 ?_); (case e => exact rfl); (case ei => exact rfl); (case h0 => omega); (case h1 => (simp only [List.length_cons, List.length_nil]; omega)); intro z hz; simp only [List.map_cons, List.map_nil, unP, List.mem_cons, List.not_mem_nil, or_false] at hz))
set_option hygiene false in
local macro_rules | `(tactic| wtm_at "q.g") => `(tactic| repeat (first | wtm_at "q.c0" | wtm_at "q.b" | wtm_at "q.call" | wtm_at "q.ixi"))
set_option hygiene false in
local macro_rules | `(tactic| wtm_at "q.def") => `(tactic| ((refine' go_def ?e ?e2 ?_); (case e => exact rfl); (case e2 => (simp only [List.map_cons, List.map_nil, List.cons_append, List.nil_append, Nat.reduceSub, List.reduceReplicate]; exact rfl)); wtm_at "q.c"))
set_option hygiene false in
local macro_rules | `(tactic| wtm_at "q.init") => `(tactic| ((refine' go_init ?e ?e2 ?_); (case e => exact rfl); (case e2 => (simp only [List.map_cons, List.map_nil, List.cons_append, List.nil_append, List.append_nil, Nat.reduceSub, Nat.reduceAdd, List.reduceReplicate]; exact rfl)); wtm_at "q.g"))
set_option hygiene false in
local macro_rules | `(tactic| wtm_at "q.call") => `(tactic| fail)
set_option hygiene false in
local macro_rules | `(tactic| wtm_at "q.fr") => `(tactic| first
  | exact Qx.Fr.refl
  | assumption
  | ((refine Qx.Fr.app ?_); wtm_at "q.fr")
  | ((refine Qx.Fr.tr (by assumption) ?_); wtm_at "q.fr"))
set_option hygiene false in
local macro_rules | `(tactic| wtm_at "q.c0") => `(tactic| first
  | with_reducible refine go_noXM ?_
  | with_reducible refine go_mkN ?_
  | ((with_reducible refine' go_isx0 ?e ?e2 ?e3 ?e4 ?_); (case e => exact rfl); (case e2 => decide +kernel); (case e3 => exact rfl); (case e4 => decide +kernel))
  | ((with_reducible refine' go_isx1 ?e ?e2 ?e3 ?e4 ?_); (case e => exact rfl); (case e2 => decide +kernel); (case e3 => exact rfl); (case e4 => decide +kernel))
  | ((with_reducible refine' go_catL ?e ?e2 ?e3 ?_); (case e => first | exact rfl | exact lstT_loc get_app); (case e2 => first | exact rfl | exact lstT_loc get_app); (case e3 => exact rfl); (simp only [List.cons_append, List.nil_append]))
  | ((with_reducible refine' go_catLOn ?e ?e2 ?e3 ?_); (case e => first | exact lstT_loc get_app | exact rfl); (case e2 => first | exact rfl | exact lstT_loc get_app); (case e3 => exact rfl); (simp only [List.cons_append, List.nil_append])))
set_option hygiene false in
local macro_rules | `(tactic| wtm_at "q.xdef") => `(tactic| ((refine' GoE.exc (goe_def ?e ?e2 ?_)); (case e => exact rfl); (case e2 => (simp only [List.map_cons, List.map_nil, List.cons_append, List.nil_append, Nat.reduceSub, List.reduceReplicate]; exact rfl))))
theorem cutP_take3 {ns : List Int} : cutP (ns.map PV.int) none (some 3) = (ns.take 3).map PV.int := by
  have e1 : ∀ n, HT.sIx n 0 none = 0 := fun n => rfl
  unfold cutP
  rw [e1, List.drop_zero, List.map_take]
  show List.take (HT.sIx (ns.map PV.int).length (ns.map PV.int).length (some 3)) _ = _
  have e2 : HT.sIx (ns.map PV.int).length (ns.map PV.int).length (some 3) = min 3 (ns.map PV.int).length := by
    unfold HT.sIx
    simp
  rw [e2]
  by_cases h : 3 ≤ (ns.map PV.int).length
  · rw [Nat.min_eq_left h]
  · rw [Nat.min_eq_right (by omega), List.take_length, List.take_of_length_le (by omega)]
section
theorem g__law_cell {ns : List Int} {j : Int} {O : Sto} {Q : PV → Sto → Prop} (h0 : 0 ≤ j) (h1 : j < 1000) (k : ∀ z : Int, Q (.int z) O) : Go (m__law_cell [.rol (ns.map .int), .int j] O) Q := by
  wtm_at "q.def"
  refine qbr (fun h => ?_) (fun h => ?_)
  · wtm_at "q.c"
    refine go_ixR rfl h0 (by simpa using h) fun r hr => ?_
    obtain ⟨z, _, rfl⟩ := List.mem_map.mp hr
    exact k z
  · wtm_at "q.c"
    refine go_sum (ns := ns.take 3) ?_ ?_
    · show some (cutP (ns.map PV.int) none (some 3)) = _
      rw [cutP_take3]
    · wtm_at "q.c"
      exact k _
theorem g__law_purse {n : Int} {O : Sto} {Q : PV → Sto → Prop} (k : ∀ O', Pu O' O.length → O'.length = O.length + 1 → (∀ m : Nat, m < O.length → O'[m]? = O[m]?) → Q (.loc O.length) O') : Go (m__law_purse [.int n] O) Q := by
  have fin : ∀ b : Int, 0 ≤ b → Q (.loc O.length) (O ++ [some (.lst [.int (n % 2147483399), .int b, .int 0])]) := fun b hb => k _ ⟨_, b, 0, get_app, Int.emod_nonneg _ (by omega), Int.emod_lt_of_pos _ (by omega), hb⟩ (by simp) fun m hm => by rw [List.getElem?_append_left hm]
  wtm_at "q.def"
  refine qbr (fun h => ?_) (fun h => ?_)
  · wtm_at "q.c"
    exact fin _ (by split <;> omega)
  · wtm_at "q.c"
    generalize (10 : Int) ^ Int.toNat 18 = t
    refine qbr (fun h2 => ?_) (fun h2 => ?_)
    · wtm_at "q.c"
      exact fin _ (by split <;> omega)
    · wtm_at "q.c"
      exact fin _ (by omega)
theorem g__law_take {O0 O : Sto} {p : Nat} {n : Int} {Q : PV → Sto → Prop} (h : Ph O0 p O) (n0 : 0 < n) (n1 : n < 1073741824) (k : ∀ (r : Int) (O' : Sto), 0 ≤ r → r < n → Ph O0 p O' → Q (.int r) O') : Go (m__law_take [.loc p, .int n] O) Q := by
  obtain ⟨a, b, c, h, a0, a1, b0⟩ := h.open
  wtm_at "q.def"
  refine qbr (fun hh => ?_) (fun hh => ?_)
  · wtm_at "q.c"
    refine k _ _ ?_ ?_ (h.close ?_ ?_ ?_)
    · exact Int.emod_nonneg _ (by omega)
    · exact Int.emod_lt_of_pos _ n0
    · exact Int.emod_nonneg _ (by omega)
    · exact Int.emod_lt_of_pos _ (by omega)
    · exact Int.ediv_nonneg b0 (by omega)
  · wtm_at "q.c"
    refine k _ _ ?_ ?_ (h.close ?_ ?_ ?_)
    · exact Int.emod_nonneg _ (by omega)
    · exact Int.emod_lt_of_pos _ n0
    · exact Int.emod_nonneg _ (by omega)
    · exact Int.emod_lt_of_pos _ (by omega)
    · exact b0
set_option hygiene false in
local macro_rules | `(tactic| wtm_at "q.call") => `(tactic| ((with_reducible refine' g__law_take h ?n0 ?n1 ?_); (case n0 => omega); (case n1 => omega); clear h; intro r O r0 r1 h))
theorem e_is_measure {i : Int} {O : Sto} : m_is_measure [.int i] O = .ok (.bl true) O := Go.eq (by
  wtm_at "q.def"
  exact ⟨rfl, rfl⟩)
set_option hygiene false in
local macro_rules | `(tactic| wtm_at "q.call") => `(tactic| ((with_reducible refine' go_at e_is_measure ?_)))
theorem e_check_measure {i : Int} {O : Sto} : m_check_measure [.int i] O = .ok .non O := Go.eq (by
  wtm_at "q.def"
  wtm_at "q.g"
  exact ⟨rfl, rfl⟩)
set_option hygiene false in
local macro_rules | `(tactic| wtm_at "q.call") => `(tactic| ((with_reducible refine' go_at e_check_measure ?_)))
theorem e_check_allowance {i j : Int} {O : Sto} (h : 0 ≤ i + j) : m_check_allowance [.int i, .int j] O = .ok .non O := Go.eq (by
  wtm_at "q.def"
  wtm_at "q.g"
  exact ⟨rfl, rfl⟩)
set_option hygiene false in
local macro_rules | `(tactic| wtm_at "q.call") => `(tactic| ((with_reducible refine' go_at (e_check_allowance ?h0) ?_); (case h0 => omega)))
abbrev span (s u l : Int) : PV := .ins "Span" ["size", "above", "below", "low", "high"] [.int s, .int u, .int l, .int (s - l), .int (s + u)]
theorem e_Span {s u l : Int} {O : Sto} (h : 0 ≤ u + l) : mkIns "Span" (m_Span___init__ [.int s, .int u, .int l] O) = .ok (span s u l) O := by
  refine Go.eq ?_
  wtm_at "q.init"
  exact ⟨rfl, rfl⟩
set_option hygiene false in
local macro_rules | `(tactic| wtm_at "q.call") => `(tactic| ((with_reducible refine' go_at (e_Span ?h0) ?_); (case h0 => omega)))
theorem e_check_span {s u l : Int} {O : Sto} : m_check_span [span s u l] O = .ok .non O := Go.eq (by
  wtm_at "q.def"
  wtm_at "q.g"
  exact ⟨rfl, rfl⟩)
set_option hygiene false in
local macro_rules | `(tactic| wtm_at "q.call") => `(tactic| ((with_reducible refine' go_at e_check_span ?_)))
end
set_option hygiene false in
local macro_rules | `(tactic| wtm_at "q.call") => `(tactic| ((with_reducible refine' g__law_take h ?n0 ?n1 ?_); (case n0 => omega); (case n1 => omega); clear h; intro r O r0 r1 h))
set_option hygiene false in
local macro_rules | `(tactic| wtm_at "q.call") => `(tactic| ((with_reducible refine' go_at e_is_measure ?_)))
set_option hygiene false in
local macro_rules | `(tactic| wtm_at "q.call") => `(tactic| ((with_reducible refine' go_at e_check_measure ?_)))
set_option hygiene false in
local macro_rules | `(tactic| wtm_at "q.call") => `(tactic| ((with_reducible refine' go_at (e_check_allowance ?h0) ?_); (case h0 => omega)))
set_option hygiene false in
local macro_rules | `(tactic| wtm_at "q.call") => `(tactic| ((with_reducible refine' go_at (e_Span ?h0) ?_); (case h0 => omega)))
set_option hygiene false in
local macro_rules | `(tactic| wtm_at "q.call") => `(tactic| ((with_reducible refine' go_at e_check_span ?_)))
section
theorem go_ixDk {p q r : PV} {k : Key} {kvs : Kvs} {O : Sto} {Q : PV → Sto → Prop} (e : kvOf O p = some kvs) (e2 : keyP q = some k) (e3 : valP kvs k = some r) (h : Q r O) : Go (ixDk p q O) Q := by
  unfold ixDk
  simp only [e, e2, e3]
  exact h
theorem items_lst {O : Sto} {p : PV} {ps : List PV} (e : lstOf O p = some ps) : ∃ g, itemsOf O p = some (ps, g) ∧ grd g O := by
  cases p with
  | lst qs => cases e; exact ⟨none, rfl, trivial⟩
  | rol qs => cases e; exact ⟨none, rfl, trivial⟩
  | loc n =>
    unfold lstOf at e
    simp only at e
    split at e
    · rename_i qs q
      cases e
      exact ⟨some (n, ps), by simp only [itemsOf, q], q⟩
    · cases e
  | _ => cases e
theorem itemsOf_loc {O : Sto} {n : Nat} {ps : List PV} (e : O[n]? = some (some (.lst ps))) : itemsOf O (.loc n) = some (ps, some (n, ps)) := by simp only [itemsOf, e]
theorem grd_fr {g : Option (Nat × List PV)} {O O' : Sto} (h : grd g O) (f : Fr O O') : grd g O' := by
  cases g with
  | none => trivial
  | some w => exact f.get h
theorem lst_fr {O O' : Sto} {p : PV} {ps : List PV} (h : lstOf O p = some ps) (f : Fr O O') : lstOf O' p = some ps := by
  cases p with
  | loc n =>
    unfold lstOf at h ⊢
    simp only at h ⊢
    split at h
    · rename_i e
      rw [f.get e]
      exact h
    · cases h
  | _ => exact h
theorem pig {α : Type} [DecidableEq α] : ∀ {xs ys : List α}, xs.Nodup → (∀ x ∈ xs, x ∈ ys) → xs.length ≤ ys.length
  | [], _, _, _ => Nat.zero_le _
  | x :: xs, ys, nd, h => by
    obtain ⟨h1, h2⟩ := List.nodup_cons.mp nd
    have hx := h x List.mem_cons_self
    have i := pig (xs := xs) (ys := ys.erase x) h2 fun y hy => (List.mem_erase_of_ne fun c : y = x => h1 (c ▸ hy)).mpr (h y (List.mem_cons_of_mem _ hy))
    rw [List.length_erase_of_mem hx] at i
    have := List.length_pos_of_mem hx
    rw [List.length_cons]
    omega
theorem nodup_mapOn {α β : Type} {f : α → β} : ∀ {xs : List α}, xs.Nodup → (∀ x ∈ xs, ∀ y ∈ xs, f x = f y → x = y) → (xs.map f).Nodup
  | [], _, _ => List.nodup_nil
  | x :: xs, nd, h => by
    obtain ⟨h1, h2⟩ := List.nodup_cons.mp nd
    rw [List.map_cons]
    refine List.nodup_cons.mpr ⟨fun hm => ?_, nodup_mapOn h2 fun a ha b hb => h a (List.mem_cons_of_mem _ ha) b (List.mem_cons_of_mem _ hb)⟩
    obtain ⟨y, hy, e⟩ := List.mem_map.mp hm
    have := h y (List.mem_cons_of_mem _ hy) x List.mem_cons_self e
    exact h1 (this ▸ hy)
theorem nodup_of_map {α β : Type} {f : α → β} : ∀ {xs : List α}, (xs.map f).Nodup → xs.Nodup
  | [], _ => List.nodup_nil
  | x :: xs, nd => by
    rw [List.map_cons] at nd
    obtain ⟨h1, h2⟩ := List.nodup_cons.mp nd
    exact List.nodup_cons.mpr ⟨fun h => h1 (List.mem_map.mpr ⟨x, h, rfl⟩), nodup_of_map h2⟩
theorem inj_of_map {α β : Type} {f : α → β} : ∀ {xs : List α}, (xs.map f).Nodup → ∀ x ∈ xs, ∀ y ∈ xs, f x = f y → x = y
  | [], _ => fun _ h => nomatch h
  | a :: xs, nd => fun x hx y hy e => by
    rw [List.map_cons] at nd
    obtain ⟨h1, h2⟩ := List.nodup_cons.mp nd
    rcases List.mem_cons.mp hx with c | c
    · rcases List.mem_cons.mp hy with c' | c'
      · rw [c, c']
      · exact absurd (List.mem_map.mpr ⟨y, c', by rw [← e, c]⟩) h1
    · rcases List.mem_cons.mp hy with c' | c'
      · exact absurd (List.mem_map.mpr ⟨x, c, by rw [e, c']⟩) h1
      · exact inj_of_map h2 x c y c' e
abbrev Pr2 := Nat × Nat
structure Mtc (E : Nat → Nat → Prop) (n m : Nat) (L : List Pr2) : Prop where
  n1 : (L.map (·.1)).Nodup
  n2 : (L.map (·.2)).Nodup
  e : ∀ q ∈ L, q.1 < n ∧ q.2 < m ∧ E q.1 q.2
structure IsMx (E : Nat → Nat → Prop) (n m s : Nat) : Prop where
  ex : ∃ L, Mtc E n m L ∧ L.length = s
  le : ∀ L, Mtc E n m L → L.length ≤ s
theorem IsMx.eq {E : Nat → Nat → Prop} {n m s s' : Nat} (h : IsMx E n m s) (h' : IsMx E n m s') : s = s' := by
  obtain ⟨L, h1, h2⟩ := h.ex
  obtain ⟨L', h1', h2'⟩ := h'.ex
  have := h.le L' h1'
  have := h'.le L h1
  omega
theorem Mtc.map {E E' : Nat → Nat → Prop} {n m n' m' : Nat} {L : List Pr2} (h : Mtc E n m L) (f g : Nat → Nat) (hf : ∀ i, i < n → f i < n') (hg : ∀ k, k < m → g k < m') (jf : ∀ i, i < n → ∀ j, j < n → f i = f j → i = j) (jg : ∀ i, i < m → ∀ j, j < m → g i = g j → i = j) (he : ∀ i, i < n → ∀ k, k < m → E i k → E' (f i) (g k)) : Mtc E' n' m' (L.map fun q => (f q.1, g q.2)) where
  n1 := by
    rw [List.map_map]
    exact nodup_mapOn (nodup_of_map h.n1) fun x hx y hy e => inj_of_map h.n1 x hx y hy (jf _ (h.e x hx).1 _ (h.e y hy).1 e)
  n2 := by
    rw [List.map_map]
    exact nodup_mapOn (nodup_of_map h.n2) fun x hx y hy e => inj_of_map h.n2 x hx y hy (jg _ (h.e x hx).2.1 _ (h.e y hy).2.1 e)
  e := fun q hq => by
    obtain ⟨x, hx, rfl⟩ := List.mem_map.mp hq
    obtain ⟨h1, h2, h3⟩ := h.e x hx
    exact ⟨hf _ h1, hg _ h2, he _ h1 _ h2 h3⟩
theorem IsMx.mono {E E' : Nat → Nat → Prop} {n m n' m' s s' : Nat} (h : IsMx E n m s) (h' : IsMx E' n' m' s') (f g : Nat → Nat) (hf : ∀ i, i < n → f i < n') (hg : ∀ k, k < m → g k < m') (jf : ∀ i, i < n → ∀ j, j < n → f i = f j → i = j) (jg : ∀ i, i < m → ∀ j, j < m → g i = g j → i = j) (he : ∀ i, i < n → ∀ k, k < m → E i k → E' (f i) (g k)) : s ≤ s' := by
  obtain ⟨L, h1, h2⟩ := h.ex
  have := h'.le _ (h1.map f g hf hg jf jg he)
  rw [List.length_map] at this
  omega
theorem Mtc.swap {E : Nat → Nat → Prop} {n m : Nat} {L : List Pr2} (h : Mtc E n m L) : Mtc (fun k i => E i k) m n (L.map fun q => (q.2, q.1)) where
  n1 := by rw [List.map_map]; exact h.n2
  n2 := by rw [List.map_map]; exact h.n1
  e := fun q hq => by
    obtain ⟨x, hx, rfl⟩ := List.mem_map.mp hq
    obtain ⟨h1, h2, h3⟩ := h.e x hx
    exact ⟨h2, h1, h3⟩
theorem IsMx.swap {E : Nat → Nat → Prop} {n m s : Nat} (h : IsMx E n m s) : IsMx (fun k i => E i k) m n s where
  ex := by
    obtain ⟨L, h1, h2⟩ := h.ex
    exact ⟨_, h1.swap, by rw [List.length_map, h2]⟩
  le := fun L hL => by
    have := h.le _ hL.swap
    rwa [List.length_map] at this
theorem fil_ne {L : List Pr2} {n : Nat} (nd : (L.map (·.1)).Nodup) : L.length ≤ (L.filter fun q => decide (q.1 ≠ n)).length + 1 := by
  induction L with
  | nil => simp
  | cons q L ih =>
    rw [List.map_cons] at nd
    obtain ⟨h1, h2⟩ := List.nodup_cons.mp nd
    by_cases c : q.1 = n
    · have e0 : L.filter (fun q => decide (q.1 ≠ n)) = L := List.filter_eq_self.mpr fun x hx => decide_eq_true fun e => h1 (List.mem_map.mpr ⟨x, hx, by rw [e, c]⟩)
      rw [List.filter_cons_of_neg (by simp [c]), e0]
      simp
    · rw [List.filter_cons_of_pos (by simp [c]), List.length_cons, List.length_cons]
      have := ih h2
      omega
theorem Mtc.filt {E : Nat → Nat → Prop} {n m : Nat} {L : List Pr2} (h : Mtc E n m L) (p : Pr2 → Bool) : Mtc E n m (L.filter p) where
  n1 := h.n1.sublist (List.filter_sublist.map _)
  n2 := h.n2.sublist (List.filter_sublist.map _)
  e := fun q hq => h.e q (List.mem_filter.mp hq).1
theorem IsMx.more {E : Nat → Nat → Prop} {n m s s' : Nat} (h : IsMx E n m s) (h' : IsMx E (n + 1) m s') : s' = s ∨ s' = s + 1 := by
  obtain ⟨L, h1, h2⟩ := h'.ex
  have a : s ≤ s' := h.mono h' id id (fun i hi => by show i < n + 1; omega) (fun k hk => hk) (fun _ _ _ _ e => e) (fun _ _ _ _ e => e) fun _ _ _ _ e => e
  have b := fil_ne (n := n) h1.n1
  have c : Mtc E n m (L.filter fun q => decide (q.1 ≠ n)) := by
    have c := h1.filt fun q => decide (q.1 ≠ n)
    refine ⟨c.n1, c.n2, fun q hq => ?_⟩
    obtain ⟨g1, g2, g3⟩ := c.e q hq
    have := of_decide_eq_true (List.mem_filter.mp hq).2
    exact ⟨by omega, g2, g3⟩
  have := h.le _ c
  omega
theorem Mtc.cons {E : Nat → Nat → Prop} {n m : Nat} {L : List Pr2} (h : Mtc E n m L) {i k : Nat} (hi : i < n) (hk : k < m) (e : E i k) (f1 : ∀ q ∈ L, q.1 ≠ i) (f2 : ∀ q ∈ L, q.2 ≠ k) : Mtc E n m ((i, k) :: L) where
  n1 := List.nodup_cons.mpr ⟨fun hm => by obtain ⟨q, hq, e⟩ := List.mem_map.mp hm; exact f1 q hq e, h.n1⟩
  n2 := List.nodup_cons.mpr ⟨fun hm => by obtain ⟨q, hq, e⟩ := List.mem_map.mp hm; exact f2 q hq e, h.n2⟩
  e := fun q hq => by
    rcases List.mem_cons.mp hq with rfl | c
    · exact ⟨hi, hk, e⟩
    · exact h.e q c
open Classical in
/-- where what is left over is closed, no pairing has more -/
abbrev gN (l : List Pr2) (h : Nat) : Option Nat := (l.find? fun q => decide (q.1 = h)).map (·.2)
abbrev hasN (l : List Pr2) (h : Nat) : Bool := l.any fun q => decide (q.1 = h)
def pN (l : List Pr2) (h p : Nat) : List Pr2 := if hasN l h = true then l.map fun q => if q.1 = h then (h, p) else q else l ++ [(h, p)]
theorem gN_none {l : List Pr2} {h : Nat} : gN l h = none ↔ h ∉ l.map (·.1) := by
  induction l with
  | nil => simp [gN]
  | cons q l ih =>
    unfold gN at ih ⊢
    rw [List.find?_cons]
    by_cases c : q.1 = h
    · simp [c]
    · simp only [decide_eq_false c, List.map_cons, List.mem_cons, not_or]
      rw [ih]
      exact ⟨fun g => ⟨fun e => c e.symm, g⟩, fun g => g.2⟩
theorem gN_mem {l : List Pr2} {h p : Nat} (e : gN l h = some p) : (h, p) ∈ l := by
  obtain ⟨q, h1, h2⟩ := Option.map_eq_some_iff.mp e
  have := of_decide_eq_true (List.find?_some (p := fun q : Pr2 => decide (q.1 = h)) h1)
  have hm := List.mem_of_find?_eq_some h1
  rw [← this, ← h2]
  exact hm
theorem gN_of {l : List Pr2} (nd : (l.map (·.1)).Nodup) {h p : Nat} (hm : (h, p) ∈ l) : gN l h = some p := by
  cases e : gN l h with
  | none => exact absurd (List.mem_map.mpr ⟨_, hm, rfl⟩) (gN_none.mp e)
  | some p' =>
    have := inj_of_map nd _ (gN_mem e) _ hm rfl
    rw [Prod.mk.injEq] at this
    rw [this.2]
theorem has_iff {l : List Pr2} {h : Nat} : hasN l h = true ↔ h ∈ l.map (·.1) := by
  simp [hasN, List.any_eq_true]
theorem keys_pN {l : List Pr2} {h p : Nat} : (pN l h p).map (·.1) = if hasN l h = true then l.map (·.1) else l.map (·.1) ++ [h] := by
  unfold pN
  by_cases c : hasN l h = true
  · rw [if_pos c, if_pos c, List.map_map]
    refine List.map_congr_left fun q _ => ?_
    show (if q.1 = h then (h, p) else q).1 = q.1
    split
    · rename_i e; exact e.symm
    · rfl
  · rw [if_neg c, if_neg c, List.map_append]
    rfl
theorem nd_pN {l : List Pr2} {h p : Nat} (nd : (l.map (·.1)).Nodup) : ((pN l h p).map (·.1)).Nodup := by
  rw [keys_pN]
  by_cases c : hasN l h = true
  · rw [if_pos c]; exact nd
  · rw [if_neg c]
    refine List.nodup_append.mpr ⟨nd, List.nodup_cons.mpr ⟨(fun h => nomatch h), List.nodup_nil⟩, fun a ha b hb => ?_⟩
    rw [List.mem_singleton.mp hb]
    exact fun e => c (has_iff.mpr (e ▸ ha))
theorem mem_pN {l : List Pr2} {h p : Nat} {q : Pr2} : q ∈ pN l h p ↔ q = (h, p) ∨ (q ∈ l ∧ q.1 ≠ h) := by
  unfold pN
  by_cases c : hasN l h = true
  · rw [if_pos c, List.mem_map]
    constructor
    · rintro ⟨x, hx, e⟩
      by_cases d : x.1 = h
      · rw [if_pos d] at e; exact .inl e.symm
      · rw [if_neg d] at e; rw [← e]; exact .inr ⟨hx, d⟩
    · rintro (rfl | ⟨h1, h2⟩)
      · obtain ⟨x, hx, e⟩ := List.mem_map.mp (has_iff.mp c)
        exact ⟨x, hx, if_pos e⟩
      · exact ⟨q, h1, if_neg h2⟩
  · rw [if_neg c, List.mem_append, List.mem_singleton]
    have : ∀ x ∈ l, x.1 ≠ h := fun x hx e => c (has_iff.mpr (List.mem_map.mpr ⟨x, hx, e⟩))
    constructor
    · rintro (h1 | h1)
      · exact .inr ⟨h1, this q h1⟩
      · exact .inl h1
    · rintro (h1 | ⟨h1, _⟩)
      · exact .inr h1
      · exact .inl h1
theorem gN_pN {l : List Pr2} (nd : (l.map (·.1)).Nodup) {h p h' : Nat} : gN (pN l h p) h' = if h' = h then some p else gN l h' := by
  have nd2 := nd_pN (h := h) (p := p) nd
  by_cases c : h' = h
  · rw [if_pos c, c]
    exact gN_of nd2 (mem_pN.mpr (.inl rfl))
  · rw [if_neg c]
    cases e : gN l h' with
    | none =>
      refine gN_none.mpr fun hm => ?_
      obtain ⟨q, hq, e2⟩ := List.mem_map.mp hm
      rcases mem_pN.mp hq with rfl | ⟨h1, _⟩
      · exact c e2.symm
      · exact gN_none.mp e (List.mem_map.mpr ⟨q, h1, e2⟩)
    | some p' => exact gN_of nd2 (mem_pN.mpr (.inr ⟨gN_mem e, c⟩))
structure MOk (n m : Nat) (E : Nat → Nat → Prop) (oh op : List Pr2) : Prop where
  kh : (oh.map (·.1)).Nodup
  kp : (op.map (·.1)).Nodup
  e : ∀ h p, gN oh h = some p → h < n ∧ p < m ∧ E h p
  io : ∀ h p, gN oh h = some p ↔ gN op p = some h
theorem MOk.inj {n m : Nat} {E : Nat → Nat → Prop} {oh op : List Pr2} (M : MOk n m E oh op) {h h' p : Nat} (e : gN oh h = some p) (e' : gN oh h' = some p) : h = h' := by
  have a := (M.io h p).mp e
  rw [(M.io h' p).mp e'] at a
  exact (Option.some.inj a).symm
theorem MOk.mtc {n m : Nat} {E : Nat → Nat → Prop} {oh op : List Pr2} (M : MOk n m E oh op) : Mtc E n m oh where
  n1 := M.kh
  n2 := nodup_mapOn (nodup_of_map M.kh) fun x hx y hy e => by
    have a := gN_of M.kh (h := x.1) (p := x.2) hx
    have b := gN_of M.kh (h := y.1) (p := y.2) hy
    have e : x.2 = y.2 := e
    rw [e] at a
    exact Prod.ext (M.inj a b) e
  e := fun q hq => M.e q.1 q.2 (gN_of M.kh hq)
theorem MOk.len {n m : Nat} {E : Nat → Nat → Prop} {oh op : List Pr2} (M : MOk n m E oh op) : oh.length ≤ n := by
  have := pig M.kh (ys := List.range n) fun h hh => by
    obtain ⟨q, hq, rfl⟩ := List.mem_map.mp hh
    exact List.mem_range.mpr (M.mtc.e q hq).1
  rwa [List.length_map, List.length_range] at this
structure BW (n m : Nat) (E : Nat → Nat → Prop) (oh op : List Pr2) (st : List Nat) (W : List Nat) (A : List Pr2) (at_ : Nat) : Prop where
  w1 : ∀ h ∈ W, h < n
  wn : W.Nodup
  ka : (A.map (·.1)).Nodup
  a1 : ∀ (p h : Nat), gN A p = some h → p < m ∧ E h p ∧ ∃ i : Nat, i ≤ at_ ∧ W[i]? = some h
  w2 : ∀ (i h : Nat), W[i]? = some h → h ∈ st ∨ ∃ p h' j : Nat, gN oh h = some p ∧ gN A p = some h' ∧ W[j]? = some h' ∧ j < i
  sw : ∀ h ∈ st, h ∈ W
abbrev BA (op : List Pr2) (W : List Nat) (A : List Pr2) : Prop := ∀ p h', gN A p = some h' → ∃ h, gN op p = some h ∧ h ∈ W
abbrev BP (m : Nat) (E : Nat → Nat → Prop) (W : List Nat) (A : List Pr2) (at_ : Nat) : Prop := ∀ i h : Nat, i < at_ → W[i]? = some h → ∀ p, p < m → E h p → ∃ h', gN A p = some h'
theorem lt_of_at {α : Type} {l : List α} {i : Nat} {x : α} (e : l[i]? = some x) : i < l.length := (List.getElem?_eq_some_iff.mp e).1
theorem at_app {α : Type} {l : List α} {i : Nat} {x y : α} (e : l[i]? = some x) : (l ++ [y])[i]? = some x := by rw [List.getElem?_append_left (lt_of_at e)]; exact e
theorem BW.len {n m : Nat} {E : Nat → Nat → Prop} {oh op : List Pr2} {st W : List Nat} {A : List Pr2} {a : Nat} (b : BW n m E oh op st W A a) : W.length ≤ n := by
  have := pig b.wn (ys := List.range n) fun h hh => List.mem_range.mpr (b.w1 h hh)
  rwa [List.length_range] at this
theorem BW.put {n m : Nat} {E : Nat → Nat → Prop} {oh op : List Pr2} {st W : List Nat} {A : List Pr2} {a : Nat} (b : BW n m E oh op st W A a) {p h : Nat} (hp : gN A p = none) (hw : W[a]? = some h) (hm : p < m) (he : E h p) : BW n m E oh op st W (pN A p h) a where
  w1 := b.w1
  wn := b.wn
  ka := nd_pN b.ka
  a1 := fun q x e => by
    rw [gN_pN b.ka] at e
    by_cases c : q = p
    · rw [if_pos c] at e
      cases e
      rw [c]
      exact ⟨hm, he, a, Nat.le_refl _, hw⟩
    · rw [if_neg c] at e
      exact b.a1 q x e
  w2 := fun i x e => by
    rcases b.w2 i x e with c | ⟨q, h', j, e1, e2, e3, e4⟩
    · exact .inl c
    · refine .inr ⟨q, h', j, e1, ?_, e3, e4⟩
      rw [gN_pN b.ka, if_neg fun c => by rw [c, hp] at e2; cases e2]
      exact e2
  sw := b.sw
theorem BW.app {n m : Nat} {E : Nat → Nat → Prop} {oh op : List Pr2} {st W : List Nat} {A : List Pr2} {a : Nat} (M : MOk n m E oh op) (hst : ∀ h ∈ st, gN oh h = none) (b : BW n m E oh op st W A a) {p h h2 : Nat} (hp : gN A p = none) (hw : W[a]? = some h) (hm : p < m) (he : E h p) (e2 : gN op p = some h2) : BW n m E oh op st (W ++ [h2]) (pN A p h) a where
  w1 := fun x hx => by
    rcases List.mem_append.mp hx with c | c
    · exact b.w1 x c
    · rw [List.mem_singleton.mp c]
      exact (M.e h2 p ((M.io h2 p).mpr e2)).1
  wn := by
    refine List.nodup_append.mpr ⟨b.wn, List.nodup_cons.mpr ⟨(fun h => nomatch h), List.nodup_nil⟩, fun x hx y hy => ?_⟩
    rw [List.mem_singleton.mp hy]
    intro e
    subst e
    have o := (M.io x p).mpr e2
    obtain ⟨i, hi, ei⟩ := List.getElem_of_mem hx
    rcases b.w2 i x (by rw [List.getElem?_eq_getElem hi, ei]) with c | ⟨q, h', j, e1, e3, _, _⟩
    · rw [hst x c] at o; cases o
    · rw [o] at e1
      cases e1
      rw [hp] at e3
      cases e3
  ka := nd_pN b.ka
  a1 := fun q x e => by
    obtain ⟨g1, g2, i, g3, g4⟩ := (b.put hp hw hm he).a1 q x e
    exact ⟨g1, g2, i, g3, at_app g4⟩
  w2 := fun i x e => by
    have B := b.put hp hw hm he
    by_cases c : i < W.length
    · rw [List.getElem?_append_left c] at e
      rcases B.w2 i x e with g | ⟨q, h', j, e1, e3, e4, e5⟩
      · exact .inl g
      · exact .inr ⟨q, h', j, e1, e3, at_app e4, e5⟩
    · have ei : i = W.length := by have := lt_of_at e; rw [List.length_append, List.length_singleton] at this; omega
      subst ei
      rw [List.getElem?_append_right (Nat.le_refl _), Nat.sub_self] at e
      cases e
      refine .inr ⟨p, h, a, (M.io h2 p).mpr e2, ?_, at_app hw, lt_of_at hw⟩
      rw [gN_pN b.ka, if_pos rfl]
  sw := fun x hx => List.mem_append_left _ (b.sw x hx)
theorem BA.app {n m : Nat} {E : Nat → Nat → Prop} {oh op : List Pr2} {st W : List Nat} {A : List Pr2} {a : Nat} (b : BW n m E oh op st W A a) (ba : BA op W A) {p h h2 : Nat} (e2 : gN op p = some h2) : BA op (W ++ [h2]) (pN A p h) := fun q h' e => by
  rw [gN_pN b.ka] at e
  by_cases c : q = p
  · rw [c]
    exact ⟨h2, e2, List.mem_append_right _ List.mem_cons_self⟩
  · rw [if_neg c] at e
    obtain ⟨x, g1, g2⟩ := ba q h' e
    exact ⟨x, g1, List.mem_append_left _ g2⟩
theorem BP.put {n m : Nat} {E : Nat → Nat → Prop} {oh op : List Pr2} {st W : List Nat} {A : List Pr2} {a : Nat} (b : BW n m E oh op st W A a) {i : Nat} (hi : i ≤ W.length) (bp : BP m E W A i) {p h h2 : Nat} : BP m E (W ++ [h2]) (pN A p h) i := fun j x hj e q hq he => by
  rw [List.getElem?_append_left (by omega)] at e
  obtain ⟨h', g⟩ := bp j x hj e q hq he
  rw [gN_pN b.ka]
  by_cases c : q = p
  · exact ⟨h, if_pos c⟩
  · exact ⟨h', by rw [if_neg c]; exact g⟩
abbrev Clo (m : Nat) (E : Nat → Nat → Prop) (op : List Pr2) (F : Nat → Prop) : Prop := ∀ h, F h → ∀ p, p < m → E h p → ∃ h2, F h2 ∧ gN op p = some h2
structure PI (n m : Nat) (E : Nat → Nat → Prop) (oh0 op0 : List Pr2) (W : List Nat) (A : List Pr2) (F : Nat → Prop) (p : Nat) (oh op : List Pr2) : Prop where
  kh : (oh.map (·.1)).Nodup
  kp : (op.map (·.1)).Nodup
  e : ∀ h q, gN oh h = some q → h < n ∧ q < m ∧ E h q
  inj : ∀ h h' q, gN oh h = some q → gN oh h' = some q → h = h'
  fr : ∀ h, gN oh h ≠ some p
  io : ∀ q, q ≠ p → ∀ h, gN op q = some h ↔ gN oh h = some q
  dom : ∀ h, (gN oh h).isSome = (gN oh0 h).isSome
  f : ∀ h, F h → gN oh h = gN oh0 h
  nf : ∀ h, F h → ¬ E h p
  tr : ∃ h i : Nat, gN A p = some h ∧ W[i]? = some h ∧ E h p ∧ p < m ∧ ∀ j h' : Nat, j ≤ i → W[j]? = some h' → gN oh h' = gN oh0 h'
structure PE (n m : Nat) (E : Nat → Nat → Prop) (oh0 : List Pr2) (st : List Nat) (F : Nat → Prop) (oh op : List Pr2) : Prop where
  ok : MOk n m E oh op
  f : ∀ h, F h → gN oh h = gN oh0 h
  dom : ∃ s ∈ st, ∀ h, (gN oh h).isSome = ((gN oh0 h).isSome || decide (h = s))
theorem PI.start {n m : Nat} {E : Nat → Nat → Prop} {oh op : List Pr2} {st W : List Nat} {A : List Pr2} {a : Nat} {F : Nat → Prop} (M : MOk n m E oh op) (b : BW n m E oh op st W A a) (cl : Clo m E op F) {p h : Nat} (e1 : gN A p = some h) (e2 : gN op p = none) : PI n m E oh op W A F p oh op where
  kh := M.kh
  kp := M.kp
  e := M.e
  inj := fun h h' q => M.inj
  fr := fun h c => by rw [M.io, e2] at c; cases c
  io := fun q _ h => (M.io h q).symm
  dom := fun _ => rfl
  f := fun _ _ => rfl
  nf := fun x hx he => by
    obtain ⟨h2, _, g⟩ := cl x hx p (b.a1 p h e1).1 he
    rw [e2] at g
    cases g
  tr := by
    obtain ⟨g1, g2, i, _, g4⟩ := b.a1 p h e1
    exact ⟨h, i, e1, g4, g2, g1, fun _ _ _ _ => rfl⟩
theorem bT {A B : Prop} {b : Bool} (h : b = true) (k : A) : if b = true then A else B := by rw [if_pos h]; exact k
theorem bF {A B : Prop} {b : Bool} (h : b = false) (k : B) : if b = true then A else B := by rw [if_neg (by rw [h]; exact Bool.false_ne_true)]; exact k
abbrev nI (k : Nat) : PV := .int (k : Int)
abbrev kvN (l : List Pr2) : Kvs := l.map fun q => ((.inl (q.1 : Int) : Key), nI q.2)
abbrev insPr (d1 d2 d3 d4 : Nat) : PV := .ins "Pairs" ["ahead", "of_hole", "of_peg", "takes"] [.loc d1, .loc d2, .loc d3, .loc d4]
abbrev tkP (t : List Nat) : PV := .lst (t.map nI)
structure PB (O0 O : Sto) (a d1 d2 d3 d4 : Nat) (A oh op : List Pr2) (ts : List (List Nat)) : Prop where
  fr : Fr O0 O
  ins : O[a]? = some (some (insPr d1 d2 d3 d4))
  da : O[d1]? = some (some (dicP (kvN A)))
  dh : O[d2]? = some (some (dicP (kvN oh)))
  dp : O[d3]? = some (some (dicP (kvN op)))
  dt : O[d4]? = some (some (.lst (ts.map tkP)))
  g0 : O0.length ≤ a
  g1 : O0.length ≤ d1
  g2 : O0.length ≤ d2
  g3 : O0.length ≤ d3
  n12 : d1 ≠ d2
  n13 : d1 ≠ d3
  n23 : d2 ≠ d3
theorem ne_of_at {O : Sto} {m n : Nat} {p q : PV} (e1 : O[m]? = some (some p)) (e2 : O[n]? = some (some q)) (h : p ≠ q) : m ≠ n := fun c => by
  rw [c, e2] at e1
  exact h (Option.some.inj (Option.some.inj e1)).symm
theorem PB.frr {O0 O O' : Sto} {a d1 d2 d3 d4 : Nat} {A oh op : List Pr2} {ts : List (List Nat)} (h : PB O0 O a d1 d2 d3 d4 A oh op ts) (f : Fr O O') : PB O0 O' a d1 d2 d3 d4 A oh op ts := ⟨h.fr.trans f, f.get h.ins, f.get h.da, f.get h.dh, f.get h.dp, f.get h.dt, h.g0, h.g1, h.g2, h.g3, h.n12, h.n13, h.n23⟩
theorem PB.oth {O0 O O' : Sto} {a d1 d2 d3 d4 : Nat} {A oh op : List Pr2} {ts : List (List Nat)} (h : PB O0 O a d1 d2 d3 d4 A oh op ts) {w : Nat} {xs : List PV} (e : O[w]? = some (some (.lst xs))) (hw : O0.length ≤ w) (h4 : w ≠ d4) (hl : O'.length = O.length) (ho : ∀ m : Nat, m ≠ w → O'[m]? = O[m]?) : PB O0 O' a d1 d2 d3 d4 A oh op ts :=
  ⟨h.fr.put hw hl ho, by rw [ho a (ne_of_at h.ins e (fun c => by cases c))]; exact h.ins, by rw [ho d1 (ne_of_at h.da e (fun c => by cases c))]; exact h.da, by rw [ho d2 (ne_of_at h.dh e (fun c => by cases c))]; exact h.dh, by rw [ho d3 (ne_of_at h.dp e (fun c => by cases c))]; exact h.dp, by rw [ho d4 (Ne.symm h4)]; exact h.dt, h.g0, h.g1, h.g2, h.g3, h.n12, h.n13, h.n23⟩
end
section
structure TB (O : Sto) (t l : Nat) (zs : List Int) : Prop where
  tn : O[t]? = some (some (.ins "Tray" ["kept"] [.loc l]))
  tl : O[l]? = some (some (.lst (zs.map .int)))
theorem TB.fr {O O' : Sto} {t l : Nat} {zs : List Int} (h : TB O t l zs) (f : Fr O O') : TB O' t l zs := ⟨f.get h.tn, f.get h.tl⟩
theorem g_Tray {O : Sto} {Q : PV → Sto → Prop} (k : ∀ O', TB O' O.length (O.length + 1) [] → Fr O O' → O'.length = O.length + 2 → Q .non O') : Go (m_Tray___init__ [.loc O.length] (O ++ [some (.ins "Tray" [] [])])) Q := by
  wtm_at "q.def"
  refine g_fsE (ns := []) (ps := []) (ns' := ["kept"]) (qs := [.loc (O ++ [some (PV.ins "Tray" [] [])]).length]) ?_ (by decide) rfl rfl fun O' h1 h2 h3 => ?_
  · rw [List.getElem?_append_left (by simp)]
    exact get_app
  · rw [List.length_append, List.length_singleton] at h1
    refine k O' ⟨h1, ?_⟩ ⟨by rw [h2]; simp, fun m hm => ?_⟩ (by rw [h2]; simp)
    · rw [h3 _ (by omega), List.getElem?_append_right (by simp)]
      simp
    · rw [h3 m (by omega), List.append_assoc, List.getElem?_append_left hm]
theorem TB.ne {O : Sto} {t l : Nat} {zs : List Int} (h : TB O t l zs) : t ≠ l := fun e => by
  have h1 := h.tn
  rw [e, h.tl] at h1
  cases h1
theorem g_put {O : Sto} {t l : Nat} {zs : List Int} {z : Int} {Q : PV → Sto → Prop} (h : TB O t l zs) (hl : zs.length ≤ 10000) (kk : ∀ O', TB O' t l (zs ++ [z]) → O'.length = O.length → (∀ m : Nat, m ≠ l → O'[m]? = O[m]?) → Q (.int zs.length) O') : Go (m_Tray_put [.loc t, .int z] O) Q := by
  have hn := h.tn
  have hk := h.tl
  have ne := h.ne
  wtm_at "q.def"
  wtm_at "q.g"
  refine go_appF hk (szl_le (by rw [List.length_map]; omega)) fun O' h1 h2 h3 => ?_
  have hn' : O'[t]? = some (some (.ins "Tray" ["kept"] [.loc l])) := by rw [h3 t ne]; exact hn
  wtm_at "q.g"
  rw [List.length_append, List.length_map, List.length_singleton]
  rw [show (((zs.length + 1 : Nat) : Int)) - 1 = zs.length by omega]
  refine kk O' ⟨hn', ?_⟩ h2 h3
  rw [h1, List.map_append]
  rfl
theorem g__law_tray {O : Sto} {p : PV} {zs : List Int} {Q : PV → Sto → Prop} (e : lstOf O p = some (zs.map .int)) (hl : zs.length ≤ 1000) (kk : ∀ t l O', TB O' t l zs → Fr O O' → O.length ≤ t → O.length ≤ l → Q (.loc t) O') : Go (m__law_tray [p] O) Q := by
  wtm_at "q.def"
  wtm_at "q.c"
  refine g_Tray fun O1 c1 f1 _ => ⟨rfl, ?_⟩
  wtm_at "q.c"
  obtain ⟨g, e1, hg⟩ := items_lst (lst_fr e f1)
  refine ⟨_, g, e1, ?_⟩
  refine go_loopP PV.int (fun d s O' => TB O' O.length (O.length + 1) d ∧ Fr O O' ∧ Fr O O' ∧ ∃ y, s = [some p, some (.loc O.length), y]) zs (fun d s O' hJ => ?_) ⟨c1, f1, f1, none, rfl⟩ (fun d z t s O' ez h => ?_) fun s O' h => ?_
  · obtain ⟨g2, e2, hg2⟩ := items_lst (lst_fr e hJ.2.1)
    have : g2 = g := by
      cases p with
      | lst qs => cases e1; cases e2; rfl
      | rol qs => cases e1; cases e2; rfl
      | loc n =>
        obtain ⟨qs, w⟩ : ∃ qs, O[n]? = some (some (.lst qs)) := by
          unfold lstOf at e
          simp only at e
          split at e
          · rename_i qs w
            exact ⟨qs, w⟩
          · cases e
        simp only [itemsOf, f1.get w] at e1
        simp only [itemsOf, hJ.2.1.get w] at e2
        cases e1
        cases e2
        rfl
      | _ => cases e
    rw [← this]
    exact hg2
  · obtain ⟨c, f, _, y, rfl⟩ := h
    have hn := c.tn
    have dl : d.length ≤ 1000 := by rw [ez, List.length_append] at hl; omega
    wtm_at "q.c"
    refine g_put c (by omega) fun O2 c2 l2 m2 => ?_
    have f2 := f.put (by omega) l2 m2
    wtm_at "q.c"
    exact ⟨_, rfl⟩
  · obtain ⟨c, f, _, y, rfl⟩ := h
    wtm_at "q.c"
    exact kk _ _ O' c f (Nat.le_refl _) (by omega)
theorem e_check_tray {O : Sto} {t l : Nat} {zs : List Int} (b : TB O t l zs) : m_check_tray [.loc t] O = .ok .non O := Go.eq (by
  wtm_at "q.def"
  refine go_isi (t := .inr "Tray") (b := true) ?_ (by decide) ?_
  · unfold tyOf
    simp only [b.tn]
  wtm_at "q.g"
  exact ⟨rfl, rfl⟩)
theorem e_check_limits {lo hi : Int} {O : Sto} (h : lo ≤ hi) : m_check_limits [.int lo, .int hi, .bl false] O = .ok .non O := Go.eq (by
  wtm_at "q.def"
  wtm_at "q.g"
  exact ⟨rfl, rfl⟩)
theorem comp_allK {tgt : GF} {e : EF} {s0 : Slots} {items : List PV} {O : Sto} {F : List PV → Sto → Prop} (I : Sto → Prop) (P : PV → Prop) (hl : items.length ≤ 100000) (hI : I O) (h : ∀ p, p ∈ items → ∀ O', I O' → Go (tgt p s0 O') fun s1 O1 => Go (e s1 O1) fun q O2 => P q ∧ I O2) (k : ∀ acc O', acc.length = items.length → (∀ q ∈ acc, P q) → I O' → F acc O') : ∃ ps O2, compL none tgt tYesP e s0 items [] O = .ok ps O2 ∧ F ps O2 := by
  obtain ⟨acc, O', e1, e2, e3, e4⟩ := comp_all I P hl hI h
  exact ⟨acc, O', e1, k acc O' e2 e3 e4⟩
end
section
theorem toDL_map {α : Type} {f : α → PV} {g : α → PyData} (h : ∀ x, toD0 (f x) = some (g x)) : ∀ xs : List α, toDL (xs.map f) = some (xs.map g)
  | [] => rfl
  | x :: xs => by simp only [List.map_cons, toDL, h x, toDL_map h xs]
theorem canLay_map {α : Type} {g : α → PyData} : ∀ xs : List α, (∀ x ∈ xs, PyData.canLay0 (g x) = true) → PyData.canLayAll0 (xs.map g) = true
  | [], _ => rfl
  | x :: xs, h => by
    show (PyData.canLay0 (g x) && PyData.canLayAll0 (xs.map g)) = true
    rw [h x List.mem_cons_self, canLay_map xs fun y hy => h y (List.mem_cons_of_mem _ hy)]
    rfl
theorem depth_map {α : Type} {g : α → PyData} {n : Nat} (hn : 2 ≤ n) (h : ∀ x, (g x).depth + 1 ≤ n) : ∀ xs : List α, PyData.depthAll (xs.map g) ≤ n
  | [] => by simp [PyData.depthAll]
  | x :: xs => by
    have h1 := depth_map hn h xs
    have h2 := h x
    simp only [List.map_cons, PyData.depthAll]
    omega
theorem shaped_ints (ns : List Int) : SeqAt.shaped (.list (ns.map .int)) = true := by
  unfold SeqAt.shaped
  have h1 := depth_map (g := PyData.int) (n := 2) (by decide) (fun x => by simp [PyData.depth]) ns
  rw [decide_eq_true (by simp only [PyData.depth]; omega), Bool.and_true]
  exact canLay_map ns fun _ _ => rfl
theorem eqv_ints : ∀ ns : List Int, PyData.eqvAll (ns.map PyData.int) (ns.map PyData.int) = true
  | [] => rfl
  | n :: ns => by
    show (PyData.eqv (.int n) (.int n) && PyData.eqvAll (ns.map PyData.int) (ns.map PyData.int)) = true
    rw [eqv_ints ns, Bool.and_true]
    simp [PyData.eqv]
end
section
theorem e_check_width {w : Int} {O : Sto} (h : 0 < w) : m_check_width [.int w] O = .ok .non O := Go.eq (by
  wtm_at "q.def"
  wtm_at "q.g"
  exact ⟨rfl, rfl⟩)
theorem e_check_limT {lo hi : Int} {O : Sto} (h : lo ≤ hi) : m_check_limits [.int lo, .int hi, .bl true] O = .ok .non O := Go.eq (by
  wtm_at "q.def"
  wtm_at "q.g"
  exact ⟨rfl, rfl⟩)
abbrev clI (w b z : Int) : Int := (z - b) / w
theorem e_class_of {z w b : Int} {O : Sto} (h : 0 < w) (h2 : w < 1073741824) : m_class_of [.int z, .int w, .int b] O = .ok (.int (clI w b z)) O := Go.eq (by
  wtm_at "q.def"
  wtm_at "q.g"
  exact ⟨rfl, rfl⟩)
theorem e_class_span {c w b : Int} {O : Sto} (h : 0 < w) (h2 : w < 1073741824) : m_class_span [.int c, .int w, .int b] O = .ok (span (b + c * w) (w - 1) 0) O := Go.eq (by
  wtm_at "q.def"
  wtm_at "q.g"
  refine go_at (e_check_width h) ?_
  wtm_at "q.g"
  exact ⟨rfl, rfl⟩)
def wdF (low high lo hi : Int) : Str := if lo ≤ high ∧ low ≤ hi then (if low < lo ∨ hi < high then "may" else "sure") else "never"
theorem wd_never {low high lo hi : Int} (h : ¬ (lo ≤ high ∧ low ≤ hi)) : wdF low high lo hi = "never" := if_neg h
theorem wd_may {low high lo hi : Int} (h : lo ≤ high ∧ low ≤ hi) (h2 : low < lo ∨ hi < high) : wdF low high lo hi = "may" := by unfold wdF; rw [if_pos h, if_pos h2]
theorem wd_sure {low high lo hi : Int} (h : lo ≤ high ∧ low ≤ hi) (h2 : ¬ (low < lo ∨ hi < high)) : wdF low high lo hi = "sure" := by unfold wdF; rw [if_pos h, if_neg h2]
abbrev fitP (w : Str) (g f : PV) : PV := .ins "Fit" ["word", "goes", "fails"] [.str w, g, f]
theorem g_with_gap {s u l s' u' l' g : Int} {O : Sto} {Q : PV → Sto → Prop} (k : ∀ a b : Int, Q (.tup [.int a, .int b]) O) : Go (m_with_gap [span s u l, span s' u' l', .int g] O) Q := by
  wtm_at "q.def"
  wtm_at "q.g"
  exact k _ _
theorem e_Fit {w g f : PV} {O : Sto} : mkIns "Fit" (m_Fit___init__ [w, g, f] O) = .ok (.ins "Fit" ["word", "goes", "fails"] [w, g, f]) O := by
  refine Go.eq ?_
  wtm_at "q.init"
  exact ⟨rfl, rfl⟩
def Lm (lim : PV) (lo hi : Int) : Prop := (lim = .int hi ∧ lo ≤ hi) ∨ (lim = .non ∧ hi = 1000000000)
theorem e_check_limO {lo hi : Int} {lim : PV} {O : Sto} (L : Lm lim lo hi) : m_check_limits [.int lo, lim, .bl true] O = .ok .non O := by
  rcases L with ⟨rfl, h⟩ | ⟨rfl, h⟩
  · exact e_check_limT h
  · exact Go.eq (by
      wtm_at "q.def"
      wtm_at "q.g"
      exact ⟨rfl, rfl⟩)
set_option hygiene false in
local macro_rules | `(tactic| wtm_at "q.call") => `(tactic| (with_reducible refine' g_with_gap ?_; intro ga gb))
set_option hygiene false in
local macro_rules | `(tactic| wtm_at "q.call") => `(tactic| with_reducible refine' go_at e_Fit ?_)
set_option hygiene false in
local macro_rules | `(tactic| wtm_at "q.call") => `(tactic| (with_reducible refine' go_at (e_check_limT ?h0) ?_; (case h0 => assumption)))
theorem g_fitI {s u l s' u' l' lo hi : Int} {O : Sto} {Q : PV → Sto → Prop} (hl : lo ≤ hi) (hp : 0 ≤ u + l) (hp' : 0 ≤ u' + l') (k : ∀ g f, Q (fitP (wdF (s - l - (s' + u')) (s + u - (s' - l')) lo hi) g f) O) : Go (m_fit [span s u l, span s' u' l', .int lo, .int hi] O) Q := by
  have fin : ∀ w g f, wdF (s - l - (s' + u')) (s + u - (s' - l')) lo hi = w → Q (fitP w g f) O := fun w g f e => by subst e; exact k g f
  wtm_at "q.def"
  repeat' (first | (wtm_at "q.c0") | (wtm_at "q.b") | (wtm_at "q.call") | refine qbr (fun c => ?_) (fun c => ?_))
  all_goals first
    | exact fin "may" _ _ (wd_may ⟨by omega, by omega⟩ (.inl (by omega)))
    | exact fin "may" _ _ (wd_may ⟨by omega, by omega⟩ (.inr (by omega)))
    | exact fin "sure" _ _ (wd_sure ⟨by omega, by omega⟩ (fun z => z.elim (fun z => by omega) fun z => by omega))
    | exact fin "never" _ _ (wd_never (fun z => by have := z.1; have := z.2; omega))
theorem g_fitN {s u l s' u' l' lo hi : Int} {O : Sto} {Q : PV → Sto → Prop} (h1 : s + u - (s' - l') ≤ hi) (hp : 0 ≤ u + l) (hp' : 0 ≤ u' + l') (k : ∀ g f, Q (fitP (wdF (s - l - (s' + u')) (s + u - (s' - l')) lo hi) g f) O) : Go (m_fit [span s u l, span s' u' l', .int lo, .non] O) Q := by
  have fin : ∀ w g f, wdF (s - l - (s' + u')) (s + u - (s' - l')) lo hi = w → Q (fitP w g f) O := fun w g f e => by subst e; exact k g f
  have ec : m_check_limits [.int lo, .non, .bl true] O = .ok .non O := Go.eq (by
    wtm_at "q.def"
    wtm_at "q.g"
    exact ⟨rfl, rfl⟩)
  wtm_at "q.def"
  repeat' (first | (with_reducible refine go_at ec ?_) | (wtm_at "q.c0") | (wtm_at "q.b") | (wtm_at "q.call") | refine qbr (fun c => ?_) (fun c => ?_))
  all_goals first
    | exact fin "may" _ _ (wd_may ⟨by omega, by omega⟩ (.inl (by omega)))
    | exact fin "may" _ _ (wd_may ⟨by omega, by omega⟩ (.inr (by omega)))
    | exact fin "sure" _ _ (wd_sure ⟨by omega, by omega⟩ (fun z => z.elim (fun z => by omega) fun z => by omega))
    | exact fin "never" _ _ (wd_never (fun z => by have := z.1; have := z.2; omega))
theorem g_fit {s u l s' u' l' lo hi : Int} {lim : PV} {O : Sto} {Q : PV → Sto → Prop} (L : Lm lim lo hi) (hb : s + u - (s' - l') ≤ 1000000000) (hp : 0 ≤ u + l) (hp' : 0 ≤ u' + l') (k : ∀ g f, Q (fitP (wdF (s - l - (s' + u')) (s + u - (s' - l')) lo hi) g f) O) : Go (m_fit [span s u l, span s' u' l', .int lo, lim] O) Q := by
  rcases L with ⟨rfl, h⟩ | ⟨rfl, h⟩
  · exact g_fitI h hp hp' k
  · exact g_fitN (by omega) hp hp' k
end
set_option hygiene false in
local macro_rules | `(tactic| wtm_at "q.call") => `(tactic| (with_reducible refine' g_with_gap ?_; intro ga gb))
set_option hygiene false in
local macro_rules | `(tactic| wtm_at "q.call") => `(tactic| with_reducible refine' go_at e_Fit ?_)
set_option hygiene false in
local macro_rules | `(tactic| wtm_at "q.call") => `(tactic| (with_reducible refine' go_at (e_check_limT ?h0) ?_; (case h0 => assumption)))
section
theorem valI {α : Type} {k : α → Int} {F : α → PV} {c : Int} : ∀ G : List α, valP (G.map fun g => ((.inl (k g) : Key), F g)) (.inl c) = (G.find? fun g => decide (k g = c)).map F
  | [] => rfl
  | g :: G => by
    have ih := valI (k := k) (F := F) (c := c) G
    unfold valP at ih ⊢
    rw [List.map_cons]
    by_cases e : k g = c
    · rw [List.find?_cons_of_pos (by rw [e]; exact decide_eq_true rfl), List.find?_cons_of_pos (p := fun g => decide (k g = c)) (decide_eq_true e)]
      rfl
    · rw [List.find?_cons_of_neg (by
        simp only [decide_eq_true_eq]
        intro e2
        exact e (Sum.inl.inj e2)), List.find?_cons_of_neg (p := fun g => decide (k g = c)) (by simp only [decide_eq_true_eq]; exact e)]
      exact ih
theorem putI_new {α : Type} {k : α → Int} {F : α → PV} {c : Int} {v : PV} {G : List α} (h : valP (G.map fun g => ((.inl (k g) : Key), F g)) (.inl c) = none) : putP (G.map fun g => ((.inl (k g) : Key), F g)) (.inl c) v = (G.map fun g => ((.inl (k g) : Key), F g)) ++ [(.inl c, v)] := by
  unfold putP
  rw [if_neg]
  intro e
  obtain ⟨x, hx, e⟩ := List.any_eq_true.mp e
  unfold valP at h
  rw [Option.map_eq_none_iff, List.find?_eq_none] at h
  exact h x hx e
theorem keysIm {α : Type} {k : α → Int} {F : α → PV} : ∀ G : List α, keysI (G.map fun g => ((.inl (k g) : Key), F g)) = some (G.map k)
  | [] => rfl
  | g :: G => by
    show (keysI (G.map fun g => ((.inl (k g) : Key), F g))).map (k g :: ·) = _
    rw [keysIm G]
    rfl
def clL (w b : Int) (zs : List Int) : List Int := riseI (zs.map (clI w b))
theorem mem_clL {w b c : Int} {zs : List Int} : c ∈ clL w b zs ↔ ∃ z ∈ zs, clI w b z = c := by
  unfold clL
  rw [riseI_mem, List.mem_map]
theorem nodup_snoc {α : Type} {xs : List α} {y : α} (h : xs.Nodup) (h2 : y ∉ xs) : (xs ++ [y]).Nodup := by
  rw [List.nodup_append]
  refine ⟨h, List.nodup_cons.mpr ⟨fun h => (nomatch h), List.nodup_nil⟩, fun a ha b hb e => ?_⟩
  rw [List.mem_singleton] at hb
  rw [e, hb] at ha
  exact h2 ha
structure CLs (O O' : Sto) (dn : Nat) (w b : Int) (zs : List Int) (d : List Nat) (G : List (Int × Nat)) : Prop where
  fr : Fr O O'
  dd : O'[dn]? = some (some (dicP (G.map fun g => ((.inl g.1 : Key), PV.loc g.2))))
  hd : O.length ≤ dn
  nd : (G.map (·.1)).Nodup
  v : ∀ g ∈ G, O.length ≤ g.2 ∧ ∃ ns : List Nat, ns.length ≤ d.length ∧ O'[g.2]? = some (some (.lst (ns.map nI)))
  m : ∀ c, c ∈ G.map (·.1) ↔ ∃ i ∈ d, clI w b (zs.getD i 0) = c
  ln : G.length ≤ d.length
theorem CLs.put {O O1 O2 : Sto} {dn n i : Nat} {w b : Int} {zs : List Int} {d : List Nat} {G : List (Int × Nat)} {ns : List Nat} (C : CLs O O1 dn w b zs d G) (hn : O.length ≤ n) (hc : clI w b (zs.getD i 0) ∈ G.map (·.1)) (e0 : O1[n]? = some (some (.lst (ns.map nI)))) (e1 : O2[n]? = some (some (.lst (ns.map nI ++ [nI i])))) (e2 : O2.length = O1.length) (e3 : ∀ m : Nat, m ≠ n → O2[m]? = O1[m]?) (ln : ns.length ≤ d.length) : CLs O O2 dn w b zs (d ++ [i]) G where
  fr := C.fr.put hn e2 e3
  dd := by
    rw [e3 dn (ne_of_at C.dd e0 (fun c => by cases c))]
    exact C.dd
  hd := C.hd
  nd := C.nd
  v := fun g hg => by
    obtain ⟨h1, ms, h2, h3⟩ := C.v g hg
    refine ⟨h1, ?_⟩
    by_cases c : g.2 = n
    · refine ⟨ns ++ [i], by rw [List.length_append, List.length_append]; simp only [List.length_singleton]; omega, ?_⟩
      rw [c, e1, List.map_append]
      rfl
    · exact ⟨ms, by rw [List.length_append]; omega, by rw [e3 _ c]; exact h3⟩
  m := fun c => by
    rw [C.m]
    constructor
    · rintro ⟨j, hj, e⟩
      exact ⟨j, List.mem_append_left _ hj, e⟩
    · rintro ⟨j, hj, e⟩
      rcases List.mem_append.mp hj with hj | hj
      · exact ⟨j, hj, e⟩
      · rw [List.mem_singleton] at hj
        subst hj
        rw [← e]
        exact (C.m _).mp hc
  ln := by
    have := C.ln
    rw [List.length_append]
    omega
abbrev nwO (O1 : Sto) (dn : Nat) (G : List (Int × Nat)) (c : Int) : Sto := (O1 ++ [some (PV.lst [])]).set dn (some (dicP ((G.map fun g => ((.inl g.1 : Key), PV.loc g.2)) ++ [((.inl c : Key), PV.loc O1.length)])))
theorem CLs.new {O O1 : Sto} {dn i : Nat} {w b : Int} {zs : List Int} {d : List Nat} {G : List (Int × Nat)} (C : CLs O O1 dn w b zs d G) (hc : clI w b (zs.getD i 0) ∉ G.map (·.1)) : CLs O (nwO O1 dn G (clI w b (zs.getD i 0))) dn w b zs (d ++ [i]) (G ++ [(clI w b (zs.getD i 0), O1.length)]) := by
  have l1 := lt_of_get C.dd
  have e0 : (O1 ++ [some (PV.lst [])])[dn]? = some (some (dicP (G.map fun g => ((.inl g.1 : Key), PV.loc g.2)))) := (Fr.refl.app).get C.dd
  have e3 : ∀ m : Nat, m ≠ dn → (nwO O1 dn G (clI w b (zs.getD i 0)))[m]? = (O1 ++ [some (PV.lst [])])[m]? := fun m hm => List.getElem?_set_ne (Ne.symm hm)
  refine ⟨(C.fr.trans Fr.refl.app).put C.hd List.length_set e3, ?_, C.hd, ?_, fun g hg => ?_, fun c => ?_, ?_⟩
  · rw [List.getElem?_set_self (lt_of_get e0), List.map_append]
    rfl
  · rw [List.map_append]
    exact nodup_snoc C.nd hc
  · rcases List.mem_append.mp hg with hg | hg
    · obtain ⟨h1, ms, h2, h3⟩ := C.v g hg
      refine ⟨h1, ms, by rw [List.length_append]; omega, ?_⟩
      rw [e3 _ (ne_of_at h3 C.dd (fun c => by cases c))]
      exact (Fr.refl.app).get h3
    · rw [List.mem_singleton] at hg
      subst hg
      refine ⟨C.fr.len, [], Nat.zero_le _, ?_⟩
      show (nwO O1 dn G (clI w b (zs.getD i 0)))[O1.length]? = _
      rw [e3 _ (by omega)]
      exact get_app
  · rw [List.map_append, List.mem_append, C.m]
    constructor
    · rintro (⟨j, hj, e⟩ | h)
      · exact ⟨j, List.mem_append_left _ hj, e⟩
      · exact ⟨i, by simp, (List.mem_singleton.mp h).symm⟩
    · rintro ⟨j, hj, e⟩
      rcases List.mem_append.mp hj with hj | hj
      · exact .inl ⟨j, hj, e⟩
      · rw [List.mem_singleton] at hj
        subst hj
        exact .inr (List.mem_singleton.mpr e.symm)
  · have := C.ln
    rw [List.length_append, List.length_append]
    simp only [List.length_singleton]
    omega
theorem sort_rise {xs ys : List Int} (nd : xs.Nodup) (h : ∀ k, k ∈ xs ↔ k ∈ ys) : sortZ xs = riseI ys := by
  have hp : (sortZ xs).Perm xs := List.mergeSort_perm _ _
  have hw := sortZ_pw xs
  refine Gx.rise_eq ?_ (riseI_rise ys) fun k => by rw [hp.mem_iff, h, riseI_mem]
  have hn : (sortZ xs).Nodup := hp.nodup_iff.mpr nd
  refine (hw.and hn).imp fun {a b} h => ?_
  have h1 := h.1
  have h2 := h.2
  omega
theorem go_dic0O {s : Slots} {O : Sto} {Q : PV → Sto → Prop} (k : Q (.loc O.length) (O ++ [some (dicP [])])) : Go (eDic0O s O) Q := k
def tupAt (O : Sto) (n : Nat) : PV := match O[n]? with
  | some (some (.lst ps)) => .tup ps
  | _ => .non
theorem g_classes {O : Sto} {t l : Nat} {zs : List Int} {w b : Int} {Q : PV → Sto → Prop} (T : TB O t l zs) (hl : zs.length < 64) (hw : 0 < w) (hw2 : w < 1073741824) (k : ∀ (f : Int → PV) O', Fr O O' → Q (.tup ((clL w b zs).map fun c => .tup [.int c, f c])) O') : Go (m_Tray_classes [.loc t, .int w, .int b] O) Q := by
  have hn := T.tn
  wtm_at "q.def"
  refine go_at (e_check_width hw) ?_
  wtm_at "q.g"
  refine go_dic0O ?_
  have C0 : CLs O (O ++ [some (dicP [])]) O.length w b zs [] [] := ⟨Fr.refl.app, get_app, Nat.le_refl _, List.nodup_nil, fun _ h => (nomatch h), fun c => ⟨fun h => (nomatch h), fun ⟨_, h, _⟩ => (nomatch h)⟩, Nat.le_refl _⟩
  have f0 : Fr O (O ++ [some (dicP [])]) := Fr.refl.app
  have T1 := T.fr f0
  have hk1 := T1.tl
  have hn1 := T1.tn
  generalize (O ++ [some (dicP [])]) = O1 at *
  wtm_at "q.c"
  refine go_iEM ?_
  wtm_at "q.c"
  refine ⟨_, zs.map .int, some (l, zs.map .int), rfl, by simp only [itemsOf, hk1], ?_⟩
  rw [show enumP 0 (zs.map PV.int) = (List.range zs.length).map fun i => .tup [nI i, .int (zs.getD i 0)] by
    rw [enumP_map, List.length_map]
    refine List.map_congr_left fun i hi => ?_
    rw [Nat.zero_add, List.getD_eq_getElem?_getD, List.getElem?_map, List.getD_eq_getElem?_getD, List.getElem?_eq_getElem (List.mem_range.mp hi)]
    rfl]
  refine go_loopP (fun i : Nat => .tup [nI i, .int (zs.getD i 0)]) (fun d s1 O' => ∃ (x4 x5 : Option PV) (G : List (Int × Nat)), s1 = [some (.loc t), some (.int w), some (.int b), some (.loc O.length), x4, x5, none] ∧ CLs O O' O.length w b zs d G) (List.range zs.length) (fun d s1 O' hJ => by
    obtain ⟨_, _, _, _, C⟩ := hJ
    exact (T.fr C.fr).tl) ⟨_, _, _, rfl, C0⟩ (fun d i tl s1 O' ed hJ => ?_) fun s1 O' hJ => ?_
  · clear C0 f0 T1 hk1 hn1
    obtain ⟨x4, x5, G, rfl, C⟩ := hJ
    have dl : d.length ≤ 63 := by
      have := congrArg List.length ed
      rw [List.length_range, List.length_append] at this
      omega
    have C1 := C.ln
    wtm_at "q.c"
    refine go_setd ?_
    wtm_at "q.c"
    refine ⟨⟨_, kv_loc C.dd⟩, ?_⟩
    wtm_at "q.c"
    refine go_at (e_class_of hw hw2) ?_
    wtm_at "q.c"
    refine ⟨_, _, .inl (clI w b (zs.getD i 0)), rfl, kv_loc ((Fr.refl.app).get C.dd), rfl, szl_le (by rw [List.length_map]; omega), fun v ev => ?_, fun ev => ?_⟩
    · rw [valI (k := fun g : Int × Nat => g.1) (F := fun g => PV.loc g.2)] at ev
      obtain ⟨g, eg, rfl⟩ := Option.map_eq_some_iff.mp ev
      have hg := List.mem_of_find?_eq_some eg
      have eg0 := List.find?_some eg
      have eg2 : g.1 = clI w b (zs.getD i 0) := of_decide_eq_true eg0
      have C2 : CLs O (O' ++ [some (PV.lst [])]) O.length w b zs d G := ⟨C.fr.trans Fr.refl.app, (Fr.refl.app).get C.dd, C.hd, C.nd, fun g hg => by
        obtain ⟨h1, ms, h2, h3⟩ := C.v g hg
        exact ⟨h1, ms, h2, (Fr.refl.app).get h3⟩, C.m, C.ln⟩
      obtain ⟨h1, ms, h2, h3⟩ := C2.v g hg
      refine ⟨some_loc h3, ?_⟩
      wtm_at "q.c"
      refine go_appF h3 (szl_le (by rw [List.length_map]; omega)) fun O5 e1 e2 e3 => ?_
      wtm_at "q.c"
      exact ⟨_, _, G, rfl, C2.put h1 (List.mem_map.mpr ⟨g, hg, eg2⟩) h3 e1 e2 e3 h2⟩
    · rw [putI_new (k := fun g : Int × Nat => g.1) (F := fun g => PV.loc g.2) ev]
      have hc : clI w b (zs.getD i 0) ∉ G.map (·.1) := fun h => by
        obtain ⟨g, hg, e⟩ := List.mem_map.mp h
        rw [valI (k := fun g : Int × Nat => g.1) (F := fun g => PV.loc g.2), Option.map_eq_none_iff, List.find?_eq_none] at ev
        exact ev g hg (decide_eq_true e)
      have C2 := C.new hc
      obtain ⟨h1, ms, h2, h3⟩ := C2.v (clI w b (zs.getD i 0), O'.length) (by simp)
      have l1 := lt_of_get C.dd
      have h3' : (nwO O' O.length G (clI w b (zs.getD i 0)))[O'.length]? = some (some (.lst (([] : List Nat).map nI))) := by
        rw [List.getElem?_set_ne (by omega)]
        exact get_app
      refine ⟨some_loc h3', ?_⟩
      wtm_at "q.c"
      refine go_appF h3' (szl_le (by simp)) fun O5 e1 e2 e3 => ?_
      wtm_at "q.c"
      refine ⟨_, _, G ++ [(clI w b (zs.getD i 0), O'.length)], rfl, ?_⟩
      have C3 := C2.put (i := i) (ns := []) h1 (by rw [List.map_append]; simp) h3' e1 e2 e3 (Nat.zero_le _)
      refine ⟨C3.fr, C3.dd, C3.hd, C3.nd, fun g hg => ?_, fun c => ?_, ?_⟩
      · obtain ⟨a1, ns, a2, a3⟩ := C3.v g hg
        by_cases c : g.2 = O'.length
        · refine ⟨a1, [i], by simp, ?_⟩
          rw [c, e1]
          rfl
        · rcases List.mem_append.mp hg with hg | hg
          · obtain ⟨b1, ms, b2, b3⟩ := C.v g hg
            refine ⟨b1, ms, by rw [List.length_append]; omega, ?_⟩
            rw [e3 _ c, List.getElem?_set_ne (Ne.symm (ne_of_at b3 C.dd (fun c => by cases c)))]
            exact (Fr.refl.app).get b3
          · rw [List.mem_singleton] at hg
            subst hg
            exact absurd rfl c
      · rw [C3.m]
        simp
      · have := C.ln
        rw [List.length_append, List.length_append]
        simp only [List.length_singleton]
        omega
  · clear C0 f0 T1 hk1 hn1
    obtain ⟨x4, x5, G, rfl, C⟩ := hJ
    have C1 := C.ln
    rw [List.length_range] at C1
    have es : sortZ (G.map (·.1)) = clL w b zs := sort_rise C.nd fun k => by
      rw [C.m, List.mem_map]
      constructor
      · rintro ⟨i, hi, e⟩
        refine ⟨zs.getD i 0, ?_, e⟩
        rw [List.getD_eq_getElem?_getD, List.getElem?_eq_getElem (List.mem_range.mp hi)]
        exact List.getElem_mem _
      · rintro ⟨z, hz, e⟩
        obtain ⟨i, hi⟩ := List.getElem?_of_mem hz
        refine ⟨i, List.mem_range.mpr (lt_of_at hi), ?_⟩
        rw [List.getD_eq_getElem?_getD, hi]
        exact e
    wtm_at "q.c"
    refine go_sortDZ (kv_loc C.dd) (keysIm (k := fun g : Int × Nat => g.1) (F := fun g => PV.loc g.2) G) (by rw [List.length_map]; omega) ?_
    rw [es]
    refine ⟨_, _, rfl, ?_⟩
    have ml : (clL w b zs).length ≤ 100000 := by
      have pe : (sortZ (G.map (·.1))).Perm (G.map (·.1)) := List.mergeSort_perm _ _
      have pl := pe.length_eq
      rw [es, List.length_map] at pl
      omega
    refine comp_M PV.int (fun c => .tup [.int c, tupAt O' (((G.find? fun g => decide (g.1 = c)).map (·.2)).getD 0)]) (clL w b zs) ml trivial (fun c hc => ?_) ?_
    · have hc2 : c ∈ G.map (·.1) := by
        rw [← es] at hc
        exact (List.mergeSort_perm _ _ : (sortZ (G.map (·.1))).Perm (G.map (·.1))).mem_iff.mp hc
      obtain ⟨g0, hg0, e0⟩ := List.mem_map.mp hc2
      obtain ⟨g, eg⟩ : ∃ g, G.find? (fun g => decide (g.1 = c)) = some g := by
        cases e : G.find? (fun g => decide (g.1 = c)) with
        | some g => exact ⟨g, rfl⟩
        | none => exact absurd (decide_eq_true e0) (List.find?_eq_none.mp e g0 hg0)
      obtain ⟨h1, ns, h2, h3⟩ := C.v g (List.mem_of_find?_eq_some eg)
      wtm_at "q.c"
      refine go_ixDk (r := .loc g.2) (k := .inl c) (kv_loc C.dd) rfl (by rw [valI (k := fun g : Int × Nat => g.1) (F := fun g => PV.loc g.2), eg]; rfl) ?_
      wtm_at "q.c"
      rw [eg]
      refine ⟨?_, rfl⟩
      unfold tupAt
      simp only [Option.map_some, Option.getD_some, h3]
    · wtm_at "q.c"
      exact k (fun c => tupAt O' (((G.find? fun g => decide (g.1 = c)).map (·.2)).getD 0)) _ C.fr
end
section
theorem scVs_strs : ∀ l : List Str, scVs (l.map PV.str) = some (l.map V.str)
  | [] => rfl
  | y :: l => by simp only [List.map_cons, scVs, scV, scVs_strs l]
theorem go_inZ {neg : Bool} {z : Str} {zs : List Str} {q : PV} {O : Sto} {Q : PV → Sto → Prop} (e : seqOf O q = some (zs.map .str)) (k : Q (.bl (if neg then !decide (z ∈ zs) else decide (z ∈ zs))) O) : Go (inS neg (.str z) q O) Q := by
  unfold inS
  rw [e]
  simp only [scV, Option.bind_some, scVs_strs]
  have e2 : (flatV (V.str z) && (zs.map V.str).all flatV) = true := by
    rw [Bool.and_eq_true]
    exact ⟨rfl, by rw [List.all_map]; exact List.all_eq_true.mpr fun _ _ => rfl⟩
  rw [if_pos e2]
  have e3 : inV (V.str z) (zs.map V.str) = decide (z ∈ zs) := by
    unfold inV
    rw [Bool.eq_iff_iff]
    simp only [List.any_map, List.any_eq_true, decide_eq_true_eq, Function.comp]
    constructor
    · rintro ⟨y, hy, hh⟩
      have : y = z := by simpa [eqV] using hh
      exact this ▸ hy
    · intro h
      exact ⟨z, h, by simp [eqV]⟩
  rw [e3]
  exact k
theorem flat_len {α β : Type} {g : α → List β} {n : Nat} : ∀ {rs : List α}, (∀ r ∈ rs, (g r).length ≤ n) → (rs.flatMap g).length ≤ rs.length * n
  | [], _ => by simp
  | r :: rs, h => by
    have ih := flat_len (g := g) (rs := rs) fun q hq => h q (by simp [hq])
    have := h r (by simp)
    rw [List.flatMap_cons, List.length_append, List.length_cons, Nat.add_mul]
    omega
abbrev cpP (r : Int × Int × Str) : PV := .tup [.int r.1, .int r.2.1, .str r.2.2]
def cwF (w b lo hi x y : Int) : Str := wdF (b + x * w - 0 - (b + y * w + (w - 1))) (b + x * w + (w - 1) - (b + y * w - 0)) lo hi
def cpI (w b lo hi : Int) (ys : List Int) (x : Int) : List (Int × Int × Str) := (ys.filter fun y => !decide (cwF w b lo hi x y = "never")).map fun y => (x, y, cwF w b lo hi x y)
def cpL (w b lo hi : Int) (hs ps : List Int) : List (Int × Int × Str) := (clL w b hs).flatMap (cpI w b lo hi (clL w b ps))
theorem clL_nd {w b : Int} {zs : List Int} : (clL w b zs).Nodup := (riseI_rise _).imp fun {a b} h => by omega
theorem clL_len {w b : Int} {zs : List Int} : (clL w b zs).length ≤ zs.length := by
  have := pig (clL_nd (w := w) (b := b) (zs := zs)) (ys := zs.map (clI w b)) fun x hx => riseI_mem.mp hx
  rwa [List.length_map] at this
theorem cpI_len {w b lo hi x : Int} {ys : List Int} : (cpI w b lo hi ys x).length ≤ ys.length := by
  unfold cpI
  rw [List.length_map]
  exact List.length_filter_le _ _
theorem cpI_snoc {w b lo hi x y : Int} {ys : List Int} : cpI w b lo hi (ys ++ [y]) x = cpI w b lo hi ys x ++ (if cwF w b lo hi x y = "never" then [] else [(x, y, cwF w b lo hi x y)]) := by
  unfold cpI
  rw [List.filter_append, List.map_append]
  congr 1
  by_cases c : cwF w b lo hi x y = "never"
  · rw [if_pos c, List.filter_cons_of_neg (by rw [decide_eq_true c]; decide)]
    rfl
  · rw [if_neg c, List.filter_cons_of_pos (by rw [decide_eq_false c]; rfl)]
    rfl
structure CP (O O' : Sto) (fo : Nat) (rs : List (Int × Int × Str)) : Prop where
  fr : Fr O O'
  l : O'[fo]? = some (some (.lst (rs.map cpP)))
  h : O.length ≤ fo
theorem CP.frr {O O1 O2 : Sto} {fo : Nat} {rs : List (Int × Int × Str)} (C : CP O O1 fo rs) (f : Fr O1 O2) : CP O O2 fo rs := ⟨C.fr.trans f, f.get C.l, C.h⟩
theorem g_class_pairs {O : Sto} {t1 l1 t2 l2 : Nat} {hs ps : List Int} {w b lo hi : Int} {lim : PV} {Q : PV → Sto → Prop} (T1 : TB O t1 l1 hs) (T2 : TB O t2 l2 ps) (h1 : hs.length < 64) (h2 : ps.length < 64) (hw : 0 < w) (hw2 : w < 1073741824) (hl : Lm lim lo hi) (hB : ∀ x ∈ clL w b hs, ∀ y ∈ clL w b ps, b + x * w + (w - 1) - (b + y * w - 0) ≤ 1000000000) (k : ∀ O', Fr O O' → Q (.tup ((cpL w b lo hi hs ps).map cpP)) O') : Go (m_class_pairs [.loc t1, .loc t2, .int w, .int lo, lim, .int b] O) Q := by
  have lc1 := clL_len (w := w) (b := b) (zs := hs)
  have lc2 := clL_len (w := w) (b := b) (zs := ps)
  wtm_at "q.def"
  refine go_at (e_check_tray T1) ?_
  wtm_at "q.c"
  refine go_at (e_check_tray T2) ?_
  wtm_at "q.c"
  refine go_at (e_check_width hw) ?_
  wtm_at "q.c"
  refine go_at (e_check_limO hl) ?_
  wtm_at "q.g"
  have C0 : CP O (O ++ [some (.lst [])]) O.length ([] : List (Int × Int × Str)) := ⟨Fr.refl.app, get_app, Nat.le_refl _⟩
  generalize (O ++ [some (.lst [])]) = O1 at *
  have hn1 := (T1.fr C0.fr).tn
  wtm_at "q.c"
  refine g_classes (T1.fr C0.fr) h1 hw hw2 fun f O3 f3 => ?_
  have C3 := C0.frr f3
  clear hn1 C0
  wtm_at "q.c"
  refine go_loopP (fun c => .tup [.int c, f c]) (fun d s1 O' => ∃ (x7 x8 x9 x10 x11 x12 : Option PV), s1 = [some (.loc t1), some (.loc t2), some (.int w), some (.int lo), some lim, some (.int b), some (.loc O.length), x7, x8, x9, x10, x11, x12] ∧ CP O O' O.length (d.flatMap (cpI w b lo hi (clL w b ps)))) (clL w b hs) (fun _ _ _ _ => trivial) ⟨_, _, _, _, _, _, rfl, C3⟩ (fun d x tl s1 O' ed hJ => ?_) fun s1 O' hJ => ?_
  · clear C3 f3
    obtain ⟨x7, x8, x9, x10, x11, x12, rfl, C⟩ := hJ
    have dl : d.length ≤ 63 := by
      have := congrArg List.length ed
      rw [List.length_append, List.length_cons] at this
      omega
    have fl := flat_len (rs := d) (g := cpI w b lo hi (clL w b ps)) (n := 63) fun r _ => Nat.le_trans cpI_len (by omega)
    wtm_at "q.c"
    refine go_at (e_class_span hw hw2) ?_
    have hn2 := (T2.fr C.fr).tn
    wtm_at "q.c"
    refine g_classes (T2.fr C.fr) h2 hw hw2 fun f2 O4 f4 => ?_
    have C4 := C.frr f4
    clear hn2
    wtm_at "q.c"
    refine go_loopP (fun c => .tup [.int c, f2 c]) (fun d2 s1 O' => ∃ (x10 x11 x12 : Option PV), s1 = [some (.loc t1), some (.loc t2), some (.int w), some (.int lo), some lim, some (.int b), some (.loc O.length), some (.int x), some (f x), some (span (b + x * w) (w - 1) 0), x10, x11, x12] ∧ CP O O' O.length (d.flatMap (cpI w b lo hi (clL w b ps)) ++ cpI w b lo hi d2 x)) (clL w b ps) (fun _ _ _ _ => trivial) ⟨_, _, _, rfl, by rw [show cpI w b lo hi [] x = [] from rfl, List.append_nil]; exact C4⟩ (fun d2 y tl2 s2 O5 ed2 hJ => ?_) fun s2 O5 hJ => ?_
    · clear C4 f4 C
      obtain ⟨x10, x11, x12, rfl, C⟩ := hJ
      have dl2 : d2.length ≤ 63 := by
        have := congrArg List.length ed2
        rw [List.length_append, List.length_cons] at this
        omega
      have fl2 := cpI_len (w := w) (b := b) (lo := lo) (hi := hi) (x := x) (ys := d2)
      wtm_at "q.c"
      refine go_at (e_class_span hw hw2) ?_
      wtm_at "q.c"
      refine g_fit hl (hB x (by rw [ed]; simp) y (by rw [ed2]; simp)) (by omega) (by omega) fun g3 f3 => ?_
      rw [show wdF (b + x * w - 0 - (b + y * w + (w - 1))) (b + x * w + (w - 1) - (b + y * w - 0)) lo hi = cwF w b lo hi x y from rfl]
      wtm_at "q.c"
      refine qbrn (fun c => ?_) (fun c => ?_)
      · wtm_at "q.c"
        refine ⟨some_loc C.l, ?_⟩
        wtm_at "q.c"
        refine go_appF C.l (szl_le (by rw [List.length_map, List.length_append]; omega)) fun O6 e1 e2 e3 => ?_
        wtm_at "q.c"
        refine ⟨_, _, _, rfl, C.fr.put C.h e2 e3, ?_, C.h⟩
        rw [e1, cpI_snoc, if_neg c, ← List.append_assoc, List.map_append (l₂ := [(x, y, cwF w b lo hi x y)])]
        rfl
      · wtm_at "q.c"
        refine ⟨_, _, _, rfl, ?_⟩
        rw [cpI_snoc, if_pos c, List.append_nil]
        exact C
    · obtain ⟨x10, x11, x12, rfl, C⟩ := hJ
      refine ⟨_, _, _, _, _, _, rfl, ?_⟩
      rw [List.flatMap_append, List.flatMap_singleton]
      exact C
  · obtain ⟨x7, x8, x9, x10, x11, x12, rfl, C⟩ := hJ
    wtm_at "q.c"
    refine go_bTupL (lst_loc C.l) ?_
    wtm_at "q.c"
    exact k _ C.fr
end
section
theorem tk_ints {P : Int → Prop} {qs : List PV} (h : ∀ q ∈ qs, ∃ x : Int, P x ∧ q = .int x) : ∃ hs : List Int, qs = hs.map .int ∧ ∀ x ∈ hs, P x := by
  induction qs with
  | nil => exact ⟨[], rfl, fun _ h => nomatch h⟩
  | cons q qs ih =>
    obtain ⟨ls, e, h2⟩ := ih fun q hq => h q (List.mem_cons_of_mem _ hq)
    obtain ⟨l, h3, rfl⟩ := h q List.mem_cons_self
    refine ⟨l :: ls, by rw [e]; rfl, fun x hx => ?_⟩
    rcases List.mem_cons.mp hx with rfl | hx
    · exact h3
    · exact h2 x hx
theorem g__law_some {O0 O : Sto} {p : Nat} {n z : Int} {Q : PV → Sto → Prop} (h : Ph O0 p O) (n0 : 0 ≤ n ∧ n ≤ 100) (z0 : 0 ≤ z ∧ z ≤ 10000) (k : ∀ (zs : List Int) O', (zs.length : Int) ≤ n → (∀ x ∈ zs, -z ≤ x ∧ x ≤ z) → Ph O0 p O' → Q (.lst (zs.map .int)) O') : Go (m__law_some [.loc p, .int n, .int z] O) Q := by
  wtm_at "q.def"
  wtm_at "q.c"
  refine g__law_take h (by omega) (by omega) fun r O1 r0 r1 h => ?_
  wtm_at "q.c"
  refine comp_allK (fun O' => Ph O0 p O') (fun q => ∃ x : Int, (-z ≤ x ∧ x ≤ z) ∧ q = .int x) (by rw [rgL_len]; omega) h (fun q hq O' h => ?_) fun qs O2 hl hq h => ?_
  · wtm_at "q.c"
    refine g__law_take h (by omega) (by omega) fun x O4 x0 x1 h => ?_
    wtm_at "q.c"
    exact ⟨⟨_, ⟨by omega, by omega⟩, rfl⟩, h⟩
  rw [rgL_len] at hl
  obtain ⟨zs, rfl, hz⟩ := tk_ints hq
  rw [List.length_map] at hl
  exact k zs O2 (by omega) hz h
theorem g__law_limits {O0 O : Sto} {p : Nat} {z : Int} {Q : PV → Sto → Prop} (h : Ph O0 p O) (z0 : 3 ≤ z ∧ z ≤ 100000) (k : ∀ (lo hi : Int) (lim : PV) O', (-z ≤ lo ∧ lo ≤ z) → Lm lim lo hi → (lim = .non ∨ hi ≤ lo + z) → Ph O0 p O' → Q (.tup [.int lo, lim]) O') : Go (m__law_limits [.loc p, .int z] O) Q := by
  wtm_at "q.def"
  wtm_at "q.c"
  refine g__law_take h (by omega) (by omega) fun a O1 a0 a1 h => ?_
  wtm_at "q.c"
  refine g__law_take h (by omega) (by omega) fun b O2 b0 b1 h => ?_
  wtm_at "q.c"
  refine g__law_take h (by omega) (by omega) fun c O3 c0 c1 h => ?_
  wtm_at "q.c"
  refine g__law_take h (by omega) (by omega) fun d O4 d0 d1 h => ?_
  have hm : ∃ m : Int, atI [PV.int 0, .int b, .int c] d = some (.int m) ∧ 0 ≤ m ∧ m ≤ z := by
    by_cases e0 : d = 0
    · exact ⟨0, by rw [e0]; rfl, by omega, by omega⟩
    · by_cases e1 : d = 1
      · exact ⟨b, by rw [e1]; rfl, by omega, by omega⟩
      · have e2 : d = 2 := by omega
        exact ⟨c, by rw [e2]; rfl, by omega, by omega⟩
  obtain ⟨m, em, m0, m1⟩ := hm
  wtm_at "q.c"
  refine go_ixL rfl em ?_
  wtm_at "q.c"
  refine g__law_take h (by omega) (by omega) fun e O5 e0 e1 h => ?_
  wtm_at "q.c"
  by_cases c2 : e = 2
  · refine go_ixL (r := .non) rfl (by rw [c2]; rfl) ?_
    wtm_at "q.c"
    exact k _ 1000000000 .non _ ⟨by omega, by omega⟩ (.inr ⟨rfl, rfl⟩) (.inl rfl) h
  · refine go_ixL (r := .int (a - z + m)) rfl (by
      by_cases c0 : e = 0
      · rw [c0]; rfl
      · have c1 : e = 1 := by omega
        rw [c1]; rfl) ?_
    wtm_at "q.c"
    exact k _ (a - z + m) _ _ ⟨by omega, by omega⟩ (.inl ⟨rfl, by omega⟩) (.inr (by omega)) h
theorem e__law_goes {g lo hi : Int} {lim : PV} {O : Sto} (L : Lm lim lo hi) (hb : g ≤ 1000000000) : m__law_goes [.int g, .int lo, lim] O = .ok (.bl (decide (lo ≤ g ∧ g ≤ hi))) O := Go.eq (by
  have fin : ∀ b : Bool, (b = true ↔ lo ≤ g ∧ g ≤ hi) → b = decide (lo ≤ g ∧ g ≤ hi) := fun b h => by
    rw [Bool.eq_iff_iff, decide_eq_true_iff]
    exact h
  rcases L with ⟨rfl, h⟩ | ⟨rfl, h⟩
  · wtm_at "q.def"
    wtm_at "q.c"
    refine qbr (fun c => ?_) (fun c => ?_)
    · wtm_at "q.c"
      exact ⟨congrArg PV.bl (fin _ (by rw [decide_eq_true_iff]; exact ⟨fun h => ⟨c, h⟩, fun h => h.2⟩)), rfl⟩
    · exact ⟨congrArg PV.bl (fin _ ⟨(fun h => nomatch h), fun h => absurd h.1 c⟩), rfl⟩
  · wtm_at "q.def"
    wtm_at "q.c"
    refine qbr (fun c => ?_) (fun c => ?_)
    · wtm_at "q.c"
      exact ⟨congrArg PV.bl (fin _ ⟨fun _ => ⟨c, by omega⟩, fun _ => rfl⟩), rfl⟩
    · exact ⟨congrArg PV.bl (fin _ ⟨(fun h => nomatch h), fun h => absurd h.1 c⟩), rfl⟩)
theorem e__law_word {low high lo hi : Int} {lim : PV} {O : Sto} (L : Lm lim lo hi) (hb : high ≤ 1000000000) (hlh : low ≤ high) : m__law_word [.int low, .int high, .int lo, lim] O = .ok (.str (wdF low high lo hi)) O := Go.eq (by
  have fin : ∀ w : Str, wdF low high lo hi = w → PV.str w = .str (wdF low high lo hi) := fun w e => by rw [e]
  have sure : low ≥ lo → high ≤ hi → wdF low high lo hi = "sure" := fun h1 h2 => wd_sure ⟨by omega, by omega⟩ (by omega)
  by_cases c1 : lo ≤ low <;> by_cases c2 : high ≤ hi <;> by_cases c3 : high < lo <;> by_cases c4 : hi < low <;> first | (exfalso; omega) | skip
  all_goals
    rcases L with ⟨rfl, h⟩ | ⟨rfl, h⟩
    all_goals
      first
      | (exfalso; omega)
      | (wtm_at "q.def"
         wtm_at "q.c"
         repeat' (first | (refine bT (decide_eq_true c1) ?_) | (refine bF (decide_eq_false c1) ?_) | (refine bT (decide_eq_true c2) ?_) | (refine bF (decide_eq_false c2) ?_) | (refine bT (decide_eq_true c3) ?_) | (refine bF (decide_eq_false c3) ?_) | (wtm_at "q.c0") | (wtm_at "q.b") | (rw [show decide (hi < low) = true from decide_eq_true c4]) | (rw [show decide (hi < low) = false from decide_eq_false c4]))
         first
         | exact ⟨fin _ (wd_sure ⟨by omega, by omega⟩ (by omega)), rfl⟩
         | exact ⟨fin _ (wd_may ⟨by omega, by omega⟩ (by omega)), rfl⟩
         | exact ⟨fin _ (wd_never (by omega)), rfl⟩))
theorem wall_c {low n lo hi : Int} (hn : 0 < n) : (if ((List.range n.toNat).map fun i : Nat => decide (lo ≤ low + (i : Int) ∧ low + (i : Int) ≤ hi)).any id = true then (if ((List.range n.toNat).map fun i : Nat => decide (lo ≤ low + (i : Int) ∧ low + (i : Int) ≤ hi)).all id = true then ("sure" : Str) else "may") else "never") = if lo ≤ hi then wdF low (low + (n - 1)) lo hi else "never" := by
  rw [List.any_map, List.all_map]
  by_cases ch : lo ≤ hi
  · rw [if_pos ch]
    by_cases c1 : lo ≤ low + (n - 1) ∧ low ≤ hi
    · have ha : (List.range n.toNat).any (id ∘ fun i : Nat => decide (lo ≤ low + (i : Int) ∧ low + (i : Int) ≤ hi)) = true := by
        refine List.any_eq_true.mpr ⟨(max lo low - low).toNat, List.mem_range.mpr (by omega), ?_⟩
        show decide _ = true
        rw [decide_eq_true_iff]
        omega
      rw [if_pos ha]
      by_cases c2 : low < lo ∨ hi < low + (n - 1)
      · rw [wd_may c1 c2, if_neg]
        intro h
        have h1 := List.all_eq_true.mp h 0 (List.mem_range.mpr (by omega))
        have h2 := List.all_eq_true.mp h (n.toNat - 1) (List.mem_range.mpr (by omega))
        have h1 := of_decide_eq_true (show decide (lo ≤ low + ((0 : Nat) : Int) ∧ low + ((0 : Nat) : Int) ≤ hi) = true from h1)
        have h2 := of_decide_eq_true (show decide (lo ≤ low + ((n.toNat - 1 : Nat) : Int) ∧ low + ((n.toNat - 1 : Nat) : Int) ≤ hi) = true from h2)
        omega
      · rw [wd_sure c1 c2, if_pos]
        refine List.all_eq_true.mpr fun i hi => ?_
        have := List.mem_range.mp hi
        show decide _ = true
        rw [decide_eq_true_iff]
        omega
    · rw [wd_never c1, if_neg]
      intro h
      obtain ⟨i, h1, h2⟩ := List.any_eq_true.mp h
      have h1 := List.mem_range.mp h1
      have h2 := of_decide_eq_true (show decide (lo ≤ low + (i : Int) ∧ low + (i : Int) ≤ hi) = true from h2)
      omega
  · rw [if_neg ch, if_neg]
    intro h
    obtain ⟨i, h1, h2⟩ := List.any_eq_true.mp h
    have h2 := of_decide_eq_true (show decide (lo ≤ low + (i : Int) ∧ low + (i : Int) ≤ hi) = true from h2)
    omega
theorem Lm.le {lim : PV} {lo hi : Int} (L : Lm lim lo hi) (h : lo ≤ 1000000000) : lo ≤ hi := by
  rcases L with ⟨_, h1⟩ | ⟨_, h1⟩
  · exact h1
  · omega
theorem e__law_word_by_all {low n lo hi : Int} {lim : PV} {O : Sto} (L : Lm lim lo hi) (hl : lo ≤ 1000000000) (hn : 0 < n ∧ n ≤ 100) (hb : low + n ≤ 1000000000) : m__law_word_by_all [.lst ((List.range n.toNat).map fun i : Nat => PV.int (low + (i : Int))), .int lo, lim] O = .ok (.str (wdF low (low + (n - 1)) lo hi)) O := Go.eq (by
  have e := wall_c (low := low) (lo := lo) (hi := hi) hn.1
  rw [if_pos (L.le hl)] at e
  wtm_at "q.def"
  wtm_at "q.c"
  refine comp_M (fun i : Nat => PV.int (low + (i : Int))) (fun i : Nat => .bl (decide (lo ≤ low + (i : Int) ∧ low + (i : Int) ≤ hi))) (List.range n.toNat) (by rw [List.length_range]; omega) trivial (fun i hi => ?_) ?_
  · have := List.mem_range.mp hi
    wtm_at "q.c"
    exact go_at (e__law_goes L (by omega)) ⟨rfl, rfl⟩
  wtm_at "q.c"
  refine go_any (ns := (List.range n.toNat).map fun i : Nat => decide (lo ≤ low + (i : Int) ∧ low + (i : Int) ≤ hi)) (by rw [List.map_map]; rfl) ?_
  wtm_at "q.c"
  refine go_all (ns := (List.range n.toNat).map fun i : Nat => decide (lo ≤ low + (i : Int) ∧ low + (i : Int) ≤ hi)) (by rw [List.map_map]; rfl) ?_
  generalize hA : ((List.range n.toNat).map fun i : Nat => decide (lo ≤ low + (i : Int) ∧ low + (i : Int) ≤ hi)).any id = A at *
  generalize hB : ((List.range n.toNat).map fun i : Nat => decide (lo ≤ low + (i : Int) ∧ low + (i : Int) ≤ hi)).all id = B at *
  have hAB : B = true → A = true := fun h => by
    rw [← hB] at h
    rw [← hA]
    have h1 := List.all_eq_true.mp h (decide (lo ≤ low + ((0 : Nat) : Int) ∧ low + ((0 : Nat) : Int) ≤ hi)) (List.mem_map.mpr ⟨0, List.mem_range.mpr (by omega), rfl⟩)
    exact List.any_eq_true.mpr ⟨_, List.mem_map.mpr ⟨0, List.mem_range.mpr (by omega), rfl⟩, h1⟩
  cases A <;> cases B
  · wtm_at "q.c"
    exact ⟨by rw [← e]; rfl, rfl⟩
  · cases hAB rfl
  · wtm_at "q.c"
    exact ⟨by rw [← e]; rfl, rfl⟩
  · wtm_at "q.c"
    exact ⟨by rw [← e]; rfl, rfl⟩)
end
section
structure Ask (w b : Int) (hs ps : List Int) : Prop where
  w0 : 0 < w
  w1 : w ≤ 200000
  b : -200000 ≤ b ∧ b ≤ 200000
  h : ∀ z ∈ hs, -200000 ≤ z ∧ z ≤ 200000
  p : ∀ z ∈ ps, -200000 ≤ z ∧ z ≤ 200000
  hl : hs.length < 64
  pl : ps.length < 64
theorem cl_bd {w b z : Int} (hw : 0 < w) : b + clI w b z * w ≤ z ∧ z < b + clI w b z * w + w := by
  unfold clI
  have h1 := Int.emod_add_mul_ediv (z - b) w
  have h2 := Int.emod_nonneg (z - b) (show w ≠ 0 by omega)
  have h3 := Int.emod_lt_of_pos (z - b) hw
  rw [Int.mul_comm] at h1
  omega
theorem Ask.gap {w b : Int} {hs ps : List Int} (A : Ask w b hs ps) {x y : Int} (hx : x ∈ clL w b hs) (hy : y ∈ clL w b ps) : b + x * w + (w - 1) - (b + y * w - 0) ≤ 1000000 ∧ -1000000 ≤ b + x * w - 0 - (b + y * w + (w - 1)) := by
  obtain ⟨z, hz, rfl⟩ := mem_clL.mp hx
  obtain ⟨q, hq, rfl⟩ := mem_clL.mp hy
  have a1 := A.h z hz
  have a2 := A.p q hq
  have a3 := A.w1
  have b1 := cl_bd (b := b) (z := z) A.w0
  have b2 := cl_bd (b := b) (z := q) A.w0
  omega
theorem g__law_due {O : Sto} {hs ps : List Int} {w b lo hi : Int} {lim : PV} {Q : PV → Sto → Prop} (A : Ask w b hs ps) (L : Lm lim lo hi) (hlo : -200000 ≤ lo ∧ lo ≤ 200000) (k : ∀ O', Fr O O' → Q (.tup ((cpL w b lo hi hs ps).map cpP)) O') : Go (m__law_due [.lst (hs.map .int), .lst (ps.map .int), .int w, .tup [.int lo, lim], .int b] O) Q := by
  have lc1 := clL_len (w := w) (b := b) (zs := hs)
  have lc2 := clL_len (w := w) (b := b) (zs := ps)
  have h1 := A.hl
  have h2 := A.pl
  have w0 := A.w0
  have w1 := A.w1
  wtm_at "q.def"
  wtm_at "q.c"
  have C0 : CP O (O ++ [some (.lst [])]) O.length ([] : List (Int × Int × Str)) := ⟨Fr.refl.app, get_app, Nat.le_refl _⟩
  generalize (O ++ [some (.lst [])]) = O1 at *
  refine go_sortSet ?_
  wtm_at "q.c"
  refine comp_M PV.int (fun z => PV.int (clI w b z)) hs (by omega) trivial (fun z _ => ?_) ?_
  · wtm_at "q.g"
    exact ⟨rfl, rfl⟩
  refine ⟨hs.map (clI w b), by rw [List.map_map]; rfl, by rw [List.length_map]; omega, Nat.lt_of_le_of_lt lc1 h1, ?_⟩
  rw [show riseI (hs.map (clI w b)) = clL w b hs from rfl]
  wtm_at "q.c"
  refine go_loopP PV.int (fun d s1 O' => ∃ (x6 x7 x8 x9 x10 x11 x12 : Option PV), s1 = [some (.lst (hs.map .int)), some (.lst (ps.map .int)), some (.int w), some (.tup [.int lo, lim]), some (.int b), some (.loc O.length), x6, x7, x8, x9, x10, x11, x12] ∧ CP O O' O.length (d.flatMap (cpI w b lo hi (clL w b ps)))) (clL w b hs) (fun _ _ _ _ => trivial) ⟨_, _, _, _, _, _, _, rfl, C0⟩ (fun d x tl s1 O' ed hJ => ?_) fun s1 O' hJ => ?_
  · obtain ⟨x6, x7, x8, x9, x10, x11, x12, rfl, C⟩ := hJ
    have hx : x ∈ clL w b hs := by rw [ed]; simp
    have dl : d.length ≤ 63 := by
      have := congrArg List.length ed
      rw [List.length_append, List.length_cons] at this
      omega
    have fl := flat_len (rs := d) (g := cpI w b lo hi (clL w b ps)) (n := 63) fun r _ => Nat.le_trans cpI_len (by omega)
    wtm_at "q.c"
    refine go_sortSet ?_
    wtm_at "q.c"
    refine comp_M PV.int (fun z => PV.int (clI w b z)) ps (by omega) trivial (fun z _ => ?_) ?_
    · wtm_at "q.g"
      exact ⟨rfl, rfl⟩
    refine ⟨ps.map (clI w b), by rw [List.map_map]; rfl, by rw [List.length_map]; omega, Nat.lt_of_le_of_lt lc2 h2, ?_⟩
    rw [show riseI (ps.map (clI w b)) = clL w b ps from rfl]
    wtm_at "q.c"
    refine go_loopP PV.int (fun d2 s1 O' => ∃ (x7 x8 x9 x10 x11 x12 : Option PV), s1 = [some (.lst (hs.map .int)), some (.lst (ps.map .int)), some (.int w), some (.tup [.int lo, lim]), some (.int b), some (.loc O.length), some (.int x), x7, x8, x9, x10, x11, x12] ∧ CP O O' O.length (d.flatMap (cpI w b lo hi (clL w b ps)) ++ cpI w b lo hi d2 x)) (clL w b ps) (fun _ _ _ _ => trivial) ⟨_, _, _, _, _, _, rfl, by rw [show cpI w b lo hi [] x = [] from rfl, List.append_nil]; exact C⟩ (fun d2 y tl2 s2 O5 ed2 hJ => ?_) fun s2 O5 hJ => ?_
    · clear C
      obtain ⟨x7, x8, x9, x10, x11, x12, rfl, C⟩ := hJ
      have hy : y ∈ clL w b ps := by rw [ed2]; simp
      have hgap := A.gap hx hy
      have dl2 : d2.length ≤ 63 := by
        have := congrArg List.length ed2
        rw [List.length_append, List.length_cons] at this
        omega
      have fl2 := cpI_len (w := w) (b := b) (lo := lo) (hi := hi) (x := x) (ys := d2)
      have elow : b + x * w - 0 - (b + y * w + (w - 1)) = (x - y) * w - (w - 1) := by rw [Int.sub_mul]; omega
      have ehigh : b + x * w + (w - 1) - (b + y * w - 0) = (x - y) * w - (w - 1) + 2 * (w - 1) := by rw [Int.sub_mul]; omega
      have ecw : cwF w b lo hi x y = wdF ((x - y) * w - (w - 1)) ((x - y) * w - (w - 1) + 2 * (w - 1)) lo hi := by
        unfold cwF
        rw [elow, ehigh]
      rw [elow, ehigh] at hgap
      wtm_at "q.c"
      obtain ⟨low, elo⟩ : ∃ low : Int, low = (x - y) * w - (w - 1) := ⟨_, rfl⟩
      rw [← elo] at hgap ecw ⊢
      clear elow ehigh elo
      refine go_at (e__law_word L (by omega) (by omega)) ?_
      rw [← ecw]
      wtm_at "q.c"
      by_cases c7 : w < 7
      case' pos =>
        refine bT (decide_eq_true c7) ?_
        wtm_at "q.c"
        rw [show rgL 0 (2 * w - 1).toNat = (List.range (2 * w - 1).toNat).map fun i : Nat => PV.int (i : Int) by unfold rgL; simp only [Int.zero_add]]
        refine comp_M (fun i : Nat => PV.int (i : Int)) (fun i : Nat => PV.int (low + (i : Int))) (List.range (2 * w - 1).toNat) (by rw [List.length_range]; omega) trivial (fun i _ => ?_) ?_
        · wtm_at "q.c"
          exact ⟨rfl, rfl⟩
        wtm_at "q.c"
        refine go_at (e__law_word_by_all L (by omega) (by omega) (by omega)) ?_
        rw [show low + (2 * w - 1 - 1) = low + 2 * (w - 1) by omega, ← ecw]
        wtm_at "q.c"
        refine bF (by simp) ?_
      case' neg =>
        refine bF (decide_eq_false c7) ?_
      all_goals
        wtm_at "q.c"
        refine qbrn (fun c => ?_) (fun c => ?_)
        · wtm_at "q.c"
          refine ⟨some_loc C.l, ?_⟩
          wtm_at "q.c"
          refine go_appF C.l (szl_le (by rw [List.length_map, List.length_append]; omega)) fun O6 e1 e2 e3 => ?_
          wtm_at "q.c"
          refine ⟨_, _, _, _, _, _, rfl, C.fr.put C.h e2 e3, ?_, C.h⟩
          rw [e1, cpI_snoc, if_neg c, ← List.append_assoc, List.map_append (l₂ := [(x, y, cwF w b lo hi x y)])]
          rfl
        · wtm_at "q.c"
          refine ⟨_, _, _, _, _, _, rfl, ?_⟩
          rw [cpI_snoc, if_pos c, List.append_nil]
          exact C
    · obtain ⟨x7, x8, x9, x10, x11, x12, rfl, C⟩ := hJ
      refine ⟨_, _, _, _, _, _, _, rfl, ?_⟩
      rw [List.flatMap_append, List.flatMap_singleton]
      exact C
  · obtain ⟨x6, x7, x8, x9, x10, x11, x12, rfl, C⟩ := hJ
    wtm_at "q.c"
    refine go_bTupL (lst_loc C.l) ?_
    exact k _ C.fr
end
section
theorem cl_in {w b z : Int} (hw : 0 < w) : b + clI w b z * w ≤ z ∧ z ≤ b + clI w b z * w + (w - 1) := by
  have h1 := Int.emod_nonneg (z - b) (by omega : w ≠ 0)
  have h2 := Int.emod_lt_of_pos (z - b) hw
  have h3 := Int.mul_ediv_add_emod (z - b) w
  rw [Int.mul_comm] at h3
  unfold clI
  omega
theorem wd_cases {low high lo hi : Int} : wdF low high lo hi = "sure" ∨ wdF low high lo hi = "may" ∨ wdF low high lo hi = "never" := by
  unfold wdF
  split
  · split
    · exact .inr (.inl rfl)
    · exact .inl rfl
  · exact .inr (.inr rfl)
theorem wd_of_sure {low high lo hi : Int} (h : wdF low high lo hi = "sure") : lo ≤ low ∧ high ≤ hi := by
  unfold wdF at h
  split at h
  · split at h
    · exact absurd h (by decide)
    · omega
  · exact absurd h (by decide)
theorem wd_go {low high lo hi : Int} (h1 : lo ≤ high) (h2 : low ≤ hi) : wdF low high lo hi ≠ "never" := by
  unfold wdF
  rw [if_pos ⟨h1, h2⟩]
  split <;> decide
theorem cw_all {w b lo hi z q : Int} (hw : 0 < w) (h : cwF w b lo hi (clI w b z) (clI w b q) = "sure") : lo ≤ z - q ∧ z - q ≤ hi := by
  have := wd_of_sure h
  have h1 := cl_in (b := b) (z := z) hw
  have h2 := cl_in (b := b) (z := q) hw
  omega
theorem cw_go {w b lo hi z q : Int} (hw : 0 < w) (h1 : lo ≤ z - q) (h2 : z - q ≤ hi) : cwF w b lo hi (clI w b z) (clI w b q) ≠ "never" := by
  have h3 := cl_in (b := b) (z := z) hw
  have h4 := cl_in (b := b) (z := q) hw
  exact wd_go (by omega) (by omega)
theorem mem_cpL {w b lo hi : Int} {hs ps : List Int} {r : Int × Int × Str} : r ∈ cpL w b lo hi hs ps ↔ r.1 ∈ clL w b hs ∧ r.2.1 ∈ clL w b ps ∧ cwF w b lo hi r.1 r.2.1 ≠ "never" ∧ r.2.2 = cwF w b lo hi r.1 r.2.1 := by
  obtain ⟨x, y, z⟩ := r
  unfold cpL
  rw [List.mem_flatMap]
  constructor
  · rintro ⟨x', hx, h⟩
    unfold cpI at h
    obtain ⟨y', hy, e⟩ := List.mem_map.mp h
    obtain ⟨hy2, c⟩ := List.mem_filter.mp hy
    cases e
    refine ⟨hx, hy2, fun e => ?_, rfl⟩
    rw [show cwF w b lo hi x y = "never" from e, decide_eq_true rfl] at c
    cases c
  · rintro ⟨hx, hy, c, e⟩
    refine ⟨x, hx, ?_⟩
    unfold cpI
    refine List.mem_map.mpr ⟨y, List.mem_filter.mpr ⟨hy, by rw [decide_eq_false c]; rfl⟩, ?_⟩
    rw [show z = cwF w b lo hi x y from e]
theorem cpL_len {w b lo hi : Int} {hs ps : List Int} (h1 : hs.length < 64) (h2 : ps.length < 64) : (cpL w b lo hi hs ps).length ≤ 63 * 63 := by
  have l1 := clL_len (w := w) (b := b) (zs := hs)
  have l2 := clL_len (w := w) (b := b) (zs := ps)
  have := flat_len (rs := clL w b hs) (g := cpI w b lo hi (clL w b ps)) (n := 63) fun r _ => Nat.le_trans cpI_len (by omega)
  unfold cpL
  omega
theorem go_dnew50 {s : Slots} {O : Sto} {Q : PV → Sto → Prop} (k : Q (.loc O.length) (O ++ [some (dtP [])])) : Go (eDnewT s O) Q := k
abbrev kyT (r : Int × Int × Str) : List Key := [.inl r.1, .inl r.2.1]
structure Kn (kvs : KvsT) (dn : List (Int × Int × Str)) : Prop where
  v : ∀ k v, valT kvs k = some v → ∃ r ∈ dn, k = kyT r ∧ v = .str r.2.2
  i : ∀ r ∈ dn, (valT kvs (kyT r)).isSome = true
  l : kvs.length ≤ dn.length
theorem putT_len {kvs : KvsT} {k : List Key} {v : PV} : (putT kvs k v).length ≤ kvs.length + 1 := by
  unfold putT
  split
  · rw [List.length_map]; omega
  · rw [List.length_append, List.length_singleton]
    omega
theorem Kn.nil : Kn [] [] where
  v := fun k v e => by cases e
  i := fun r h => nomatch h
  l := Nat.le_refl _
theorem Kn.put {kvs : KvsT} {dn : List (Int × Int × Str)} (h : Kn kvs dn) (r : Int × Int × Str) : Kn (putT kvs (kyT r) (.str r.2.2)) (dn ++ [r]) where
  v := fun k v e => by
    rw [valT_put] at e
    split at e
    · rename_i c
      cases e
      exact ⟨r, by simp, c, rfl⟩
    · obtain ⟨r', h1, h2⟩ := h.v k v e
      exact ⟨r', List.mem_append_left _ h1, h2⟩
  i := fun r' hr => by
    rw [valT_put]
    split
    · rfl
    · rename_i c
      rcases List.mem_append.mp hr with hr | hr
      · exact h.i r' hr
      · rw [List.mem_singleton.mp hr] at c
        exact absurd rfl c
  l := by
    have := putT_len (kvs := kvs) (k := kyT r) (v := .str r.2.2)
    have := h.l
    rw [List.length_append, List.length_singleton]
    omega
theorem Kn.get {kvs : KvsT} {w b lo hi x y : Int} {hs ps : List Int} (h : Kn kvs (cpL w b lo hi hs ps)) (hx : x ∈ clL w b hs) (hy : y ∈ clL w b ps) : (valT kvs [.inl x, .inl y]).getD (.str "never") = .str (cwF w b lo hi x y) := by
  cases e : valT kvs [.inl x, .inl y] with
  | some v =>
    obtain ⟨r, h1, h2, h3⟩ := h.v _ _ e
    obtain ⟨_, _, _, h4⟩ := mem_cpL.mp h1
    injection h2 with e1 e2
    injection e2 with e2 _
    have e1 : x = r.1 := by injection e1
    have e2 : y = r.2.1 := by injection e2
    rw [h3, h4, e1, e2]
    rfl
  | none =>
    by_cases c : cwF w b lo hi x y = "never"
    · rw [c]; rfl
    · have := h.i (x, y, cwF w b lo hi x y) (mem_cpL.mpr ⟨hx, hy, c, rfl⟩)
      have : (valT kvs [.inl x, .inl y]).isSome = true := this
      rw [e] at this
      cases this
theorem g__law_pieces_right {O : Sto} {hs ps : List Int} {w b lo hi : Int} {lim : PV} {Q : PV → Sto → Prop} (A : Ask w b hs ps) (L : Lm lim lo hi) (k : ∀ O', Fr O O' → Q (.bl true) O') : Go (m__law_pieces_right [.tup ((cpL w b lo hi hs ps).map cpP), .lst (hs.map .int), .lst (ps.map .int), .int w, .tup [.int lo, lim], .int b] O) Q := by
  have hcl := cpL_len (w := w) (b := b) (lo := lo) (hi := hi) A.hl A.pl
  have w0 := A.w0
  have w1 := A.w1
  have h1 := A.hl
  have h2 := A.pl
  wtm_at "q.def"
  wtm_at "q.c"
  refine go_dnew50 ?_
  have d1 : (O ++ [some (dtP [])])[O.length]? = some (some (dtP [])) := get_app
  have f1 : Fr O (O ++ [some (dtP [])]) := Fr.refl.app
  generalize (O ++ [some (dtP [])]) = O1 at *
  wtm_at "q.c"
  refine go_loopP cpP (fun d s1 O' => Fr O O' ∧ ∃ kvs, ∃ (x8 x9 x10 : Option PV), O'[O.length]? = some (some (dtP kvs)) ∧ Kn kvs d ∧ s1 = [some (.tup ((cpL w b lo hi hs ps).map cpP)), some (.lst (hs.map .int)), some (.lst (ps.map .int)), some (.int w), some (.tup [.int lo, lim]), some (.int b), some (.loc O.length), none, x8, x9, x10, none, none]) (cpL w b lo hi hs ps) (fun _ _ _ _ => trivial) ⟨f1, [], _, _, _, d1, Kn.nil, rfl⟩ (fun d r tl s1 O' ed hJ => ?_) fun s1 O' hJ => ?_
  · obtain ⟨f2, kvs, x8, x9, x10, d2, hk, rfl⟩ := hJ
    have hd : d.length ≤ 63 * 63 := by rw [ed, List.length_append] at hcl; omega
    have hkl := hk.l
    wtm_at "q.c"
    refine gos_dputT ?_
    wtm_at "q.c"
    refine ⟨O.length, kvs, kyT r, rfl, kvT_loc d2, rfl, szl_le (by omega), rfl, ?_⟩
    exact ⟨f2.put (Nat.le_refl _) (by simp) fun m hm => List.getElem?_set_ne (Ne.symm hm), _, _, _, _, get_set d2, hk.put r, rfl⟩
  · obtain ⟨f2, kvs, x8, x9, x10, d2, hk, rfl⟩ := hJ
    wtm_at "q.c"
    refine go_loopP PV.int (fun d s1 O3 => O3 = O' ∧ ∃ (x7 x10 x11 x12 : Option PV), s1 = [some (.tup ((cpL w b lo hi hs ps).map cpP)), some (.lst (hs.map .int)), some (.lst (ps.map .int)), some (.int w), some (.tup [.int lo, lim]), some (.int b), some (.loc O.length), x7, x8, x9, x10, x11, x12]) hs (fun _ _ _ _ => trivial) ⟨rfl, _, _, _, _, rfl⟩ (fun d z tl s1 O3 ed hJ => ?_) fun s1 O3 hJ => ?_
    · obtain ⟨rfl, x7, x10, x11, x12, rfl⟩ := hJ
      have hz : z ∈ hs := by rw [ed]; simp
      wtm_at "q.c"
      refine go_loopP PV.int (fun d s1 O4 => O4 = O3 ∧ ∃ (x10 x11 x12 : Option PV), s1 = [some (.tup ((cpL w b lo hi hs ps).map cpP)), some (.lst (hs.map .int)), some (.lst (ps.map .int)), some (.int w), some (.tup [.int lo, lim]), some (.int b), some (.loc O.length), some (.int z), x8, x9, x10, x11, x12]) ps (fun _ _ _ _ => trivial) ⟨rfl, _, _, _, rfl⟩ (fun d2 q tl2 s1 O4 ed2 hJ => ?_) fun s1 O4 hJ => ?_
      · obtain ⟨rfl, x10, x11, x12, rfl⟩ := hJ
        have hq : q ∈ ps := by rw [ed2]; simp
        have hg := hk.get (mem_clL.mpr ⟨z, hz, rfl⟩) (mem_clL.mpr ⟨q, hq, rfl⟩)
        have b1 := A.h z hz
        have b2 := A.p q hq
        wtm_at "q.c"
        refine go_get2T ?_
        wtm_at "q.c"
        refine ⟨O.length, rfl, ⟨kvs, kvT_loc d2⟩, ?_⟩
        wtm_at "q.g"
        refine ⟨kvs, [.inl (clI w b z), .inl (clI w b q)], kvT_loc d2, rfl, ?_⟩
        rw [hg]
        wtm_at "q.c"
        refine go_at (e__law_goes L (by omega)) ?_
        by_cases cg : lo ≤ z - q ∧ z - q ≤ hi
        · have hn := cw_go (b := b) w0 cg.1 cg.2
          rw [show decide (lo ≤ z - q ∧ z - q ≤ hi) = true from decide_eq_true cg]
          generalize cwF w b lo hi (clI w b z) (clI w b q) = wd at *
          wtm_at "q.c"
          refine bF (decide_eq_false hn) ?_
          wtm_at "q.c"
          by_cases cs : wd = "sure"
          · refine bT (decide_eq_true cs) ?_
            wtm_at "q.c"
            first | exact ⟨rfl, _, _, _, rfl⟩ | exact ⟨_, _, _, rfl⟩
          · refine bF (decide_eq_false cs) ?_
            wtm_at "q.c"
            first | exact ⟨rfl, _, _, _, rfl⟩ | exact ⟨_, _, _, rfl⟩
        · have hn : cwF w b lo hi (clI w b z) (clI w b q) ≠ "sure" := fun e => cg (cw_all w0 e)
          rw [show decide (lo ≤ z - q ∧ z - q ≤ hi) = false from decide_eq_false cg]
          generalize cwF w b lo hi (clI w b z) (clI w b q) = wd at *
          wtm_at "q.c"
          refine bF (decide_eq_false hn) ?_
          wtm_at "q.c"
          first | exact ⟨rfl, _, _, _, rfl⟩ | exact ⟨_, _, _, rfl⟩
      · obtain ⟨rfl, x10, x11, x12, rfl⟩ := hJ
        exact ⟨rfl, _, _, _, _, rfl⟩
    · obtain ⟨rfl, x7, x10, x11, x12, rfl⟩ := hJ
      wtm_at "q.c"
      exact k _ f2
end
section
theorem comp_Mid {tgt : GF} {e : EF} {s0 : Slots} {O : Sto} {gd : Option (Nat × List PV)} {F : List PV → Sto → Prop} (m : PV → PV) (ps : List PV) (hl : ps.length ≤ 100000) (hg : grd gd O) (hs : ∀ r, r ∈ ps → Go (tgt r s0 O) fun s1 O1 => Go (e s1 O1) fun q O2 => q = m r ∧ O2 = O) (hd : F (ps.map m) O) : ∃ qs O2, compL gd tgt tYesP e s0 ps [] O = .ok qs O2 ∧ F qs O2 := by
  have := comp_M (F := F) (fun p => p) m ps hl hg hs hd
  rwa [List.map_id'] at this
theorem go_loopId {K : Ks} {s : Slots} {O : Sto} {tgt : GF} {body : SF} {gd : Option (Nat × List PV)} (J : List PV → Slots → Sto → Prop) (qs : List PV) (hg : ∀ d s O, J d s O → grd gd O) (h0 : J [] s O) (hs : ∀ d r t s O, qs = d ++ r :: t → J d s O → Go (tgt r s O) fun s1 O1 => GoS { K with nx := J (d ++ [r]), bk := K.nx, ct := J (d ++ [r]) } (body s1 O1)) (hd : ∀ s O, J qs s O → K.nx s O) : GoS K (loopL gd tgt body qs s O) := by
  have := go_loopP (fun p : PV => p) J qs hg h0 hs hd
  rwa [List.map_id'] at this
abbrev tz (i : Int) : Str := Str.ofString (toString i)
theorem log_ok {i : Int} (h : -1000000000000 ≤ i ∧ i ≤ 1000000000000) : i.natAbs.log2 < 1920 := by
  by_cases c : i.natAbs = 0
  · rw [c]; decide
  · rw [Nat.log2_lt c]
    exact Nat.lt_of_le_of_lt (show i.natAbs ≤ 1000000000000 by omega) (Nat.lt_of_lt_of_le (show 1000000000000 < 2 ^ 40 by decide) (Nat.pow_le_pow_right (by decide) (by decide)))
theorem zl_str (s : String) : (Str.ofString s).length = s.toList.length := by
  rw [Str.ofString_eq_toList]
  show (List.map _ _).toArray.size = _
  simp
theorem mul_1 (z : Str) : Txt.mul z 1 = z := rfl
theorem mul_0 (z : Str) : Txt.mul z 0 = Str.empty := rfl
theorem go_rep01 {z : Str} {b : Bool} {O : Sto} {Q : PV → Sto → Prop} (hz : z.length ≤ 1000) (k : Q (.str (if b = true then z else Str.empty)) O) : Go (repS (.str z) (.int (if b then 1 else 0)) O) Q := by
  unfold repS
  simp only
  have : mulOkS z (if b = true then 1 else 0) = true := by
    unfold mulOkS
    refine decide_eq_true ⟨by split <;> decide, by split <;> decide, ?_⟩
    cases b
    · simp
    · simp; omega
  rw [if_pos this]
  cases b
  · show Q (.str (Txt.mul z 0)) O
    rw [mul_0]; exact k
  · show Q (.str (Txt.mul z 1)) O
    rw [mul_1]; exact k
abbrev SOk (z : Str) : Prop := PyData.strOk z = true
theorem sok_iff {z : Str} : SOk z ↔ ∀ c ∈ TL.tl z, c < 0x110000 := by
  show (z.cps.all (· < 0x110000)) = true ↔ _
  rw [← Array.all_toList, List.all_eq_true]
  simp
theorem sok_of (s : String) : SOk (Str.ofString s) := by
  rw [sok_iff, TL.tl_ofString]
  intro c hc
  obtain ⟨x, _, rfl⟩ := List.mem_map.mp hc
  have h := x.valid
  unfold UInt32.isValidChar Nat.isValidChar at h
  show x.val.toNat < _
  omega
theorem tz_len2 {i : Int} (h : -9999999 ≤ i ∧ i ≤ 9999999) : (tz i).length ≤ 8 := by
  rw [zl_str]
  have h0 : ∀ n : Nat, n < 10 ^ 7 → (toString n).toList.length ≤ 7 := fun n hn => by
    show (Nat.repr n).toList.length ≤ 7
    rw [String.length_toList]
    exact (Nat.length_repr_le_iff (by decide)).mpr hn
  have e : (10 : Nat) ^ 7 = 10000000 := by decide
  cases i with
  | ofNat n =>
    have h2 : (n : Int) ≤ 9999999 := h.2
    have := h0 n (by rw [e]; omega)
    show (toString n).toList.length ≤ 8
    omega
  | negSucc n =>
    have h2 := h.1
    rw [Int.negSucc_eq] at h2
    have := h0 (n + 1) (by rw [e]; omega)
    show ("-" ++ toString (n + 1)).toList.length ≤ 8
    rw [String.toList_append, List.length_append]
    show 1 + _ ≤ 8
    omega
theorem w_int {i : Int} (h : -9999999 ≤ i ∧ i ≤ 9999999) : (PyData.int i).weight ≤ 30 := by
  show (if i == 0 then 0 else i.natAbs.log2 + 1) ≤ 30
  split
  · decide
  · have : i.natAbs.log2 < 29 := by
      by_cases c : i.natAbs = 0
      · rw [c]; decide
      · exact (Nat.log2_lt c).mpr (Nat.lt_of_le_of_lt (show i.natAbs ≤ 9999999 by omega) (by decide))
    omega
theorem i_int {i : Int} (h : -9999999 ≤ i ∧ i ≤ 9999999) : PyData.intsShort 13 (.int i) = true := by
  have := tz_len2 h
  exact decide_eq_true (show (tz i).length ≤ 13 by omega)
structure Rp (d : PyData) (m w : Nat) : Prop where
  c : PyData.canLay0 d = true
  dp : PyData.depth d ≤ m
  wt : PyData.weight d ≤ w
  is : PyData.intsShort 13 d = true
  sh : PyData.showable d = true
  hd : PyData.hasDict d = false
structure RpL (ds : List PyData) (m w : Nat) : Prop where
  c : PyData.canLayAll0 ds = true
  dp : PyData.depthAll ds ≤ m
  wt : PyData.weightAll ds ≤ w
  is : PyData.intsShortAll 13 ds = true
  sh : PyData.showableAll ds = true
  hd : PyData.hasDictAll ds = false
theorem Rp.non {m : Nat} : Rp .none m 0 := ⟨rfl, Nat.zero_le _, Nat.le_refl _, rfl, rfl, rfl⟩
theorem Rp.bl {b : Bool} {m : Nat} : Rp (.bool b) m 0 := ⟨rfl, Nat.zero_le _, Nat.le_refl _, rfl, rfl, rfl⟩
theorem Rp.int {i : Int} {m : Nat} (h : -9999999 ≤ i ∧ i ≤ 9999999) : Rp (.int i) m 30 := ⟨rfl, Nat.zero_le _, w_int h, i_int h, decide_eq_true (by
  by_cases c : i.natAbs = 0
  · rw [c]; decide
  · have : i.natAbs.log2 < 29 := (Nat.log2_lt c).mpr (Nat.lt_of_le_of_lt (show i.natAbs ≤ 9999999 by omega) (by decide))
    omega), rfl⟩
theorem Rp.str {z : Str} {m w : Nat} (h : SOk z) (hl : z.length ≤ w) : Rp (.str z) m w := ⟨h, Nat.zero_le _, hl, rfl, rfl, rfl⟩
theorem RpL.nil {m : Nat} : RpL [] m 0 := ⟨rfl, Nat.zero_le _, Nat.le_refl _, rfl, rfl, rfl⟩
theorem RpL.cons {d : PyData} {ds : List PyData} {m w v : Nat} (h : Rp d m w) (h2 : RpL ds m v) : RpL (d :: ds) m (w + 1 + v) := by
  refine ⟨?_, ?_, ?_, ?_, ?_, ?_⟩
  · show (PyData.canLay0 d && PyData.canLayAll0 ds) = true
    rw [h.c, h2.c]; rfl
  · exact Nat.max_le.mpr ⟨h.dp, h2.dp⟩
  · show PyData.weight d + 1 + PyData.weightAll ds ≤ w + 1 + v
    have := h.wt
    have := h2.wt
    omega
  · show (PyData.intsShort 13 d && PyData.intsShortAll 13 ds) = true
    rw [h.is, h2.is]; rfl
  · show (PyData.showable d && PyData.showableAll ds) = true
    rw [h.sh, h2.sh]; rfl
  · show (PyData.hasDict d || PyData.hasDictAll ds) = false
    rw [h.hd, h2.hd]; rfl
theorem Rp.tup {ds : List PyData} {m w : Nat} (h : RpL ds m w) : Rp (.tuple ds) (m + 1) w := ⟨h.c, Nat.succ_le_succ h.dp, h.wt, h.is, h.sh, h.hd⟩
theorem Rp.lst {ds : List PyData} {m w : Nat} (h : RpL ds m w) : Rp (.list ds) (m + 1) w := ⟨h.c, Nat.succ_le_succ h.dp, h.wt, h.is, h.sh, h.hd⟩
theorem Rp.ok {ds : List PyData} {m w : Nat} (h : Rp (.list ds) m w) (hm : m ≤ 64) (hw : w ≤ 1048576) : rpOk (.list ds) = true := by
  have e : (2 : Nat) ^ 20 = 1048576 := by decide
  have h1 := h.dp
  have h2 := h.wt
  unfold rpOk
  show (true && ((PyData.canLay0 (.list ds) && decide (PyData.depth (.list ds) ≤ 64) && decide (PyData.weight (.list ds) ≤ 2 ^ 20)) && _)) = true
  rw [h.c, h.is, h.sh, h.hd, decide_eq_true (by omega), decide_eq_true (by omega)]
  rfl
abbrev cpD (r : Int × Int × Str) : PyData := .tuple [.int r.1, .int r.2.1, .str r.2.2]
theorem toD_cps {O : Sto} {R : List (Int × Int × Str)} : toD O (.tup (R.map cpP)) = some (.tuple (R.map cpD)) := by
  have e2 : toDL (R.map cpP) = some (R.map cpD) := toDL_map (fun _ => rfl) R
  show (toDL (R.map cpP)).map PyData.tuple = _
  rw [e2]
  rfl
theorem cp_words {w b lo hi : Int} {hs ps : List Int} {r : Int × Int × Str} (h : r ∈ cpL w b lo hi hs ps) : SOk r.2.2 := by
  obtain ⟨_, _, _, e⟩ := mem_cpL.mp h
  rw [e]
  rcases wd_cases (low := b + r.1 * w - 0 - (b + r.2.1 * w + (w - 1))) (high := b + r.1 * w + (w - 1) - (b + r.2.1 * w - 0)) (lo := lo) (hi := hi) with h | h | h <;> (unfold cwF; rw [h]; exact sok_of _)
theorem Rp.okT {ds : List PyData} {m w : Nat} (h : Rp (.tuple ds) m w) (hm : m ≤ 64) (hw : w ≤ 1048576) : rpOk (.tuple ds) = true := by
  have e : (2 : Nat) ^ 20 = 1048576 := by decide
  have h1 := h.dp
  have h2 := h.wt
  unfold rpOk
  show (true && ((PyData.canLay0 (.tuple ds) && decide (PyData.depth (.tuple ds) ≤ 64) && decide (PyData.weight (.tuple ds) ≤ 2 ^ 20)) && _)) = true
  rw [h.c, h.is, h.sh, h.hd, decide_eq_true (by omega), decide_eq_true (by omega)]
  rfl
theorem rp_cps : ∀ {R : List (Int × Int × Str)}, (∀ r ∈ R, (-9999999 ≤ r.1 ∧ r.1 ≤ 9999999) ∧ (-9999999 ≤ r.2.1 ∧ r.2.1 ≤ 9999999) ∧ SOk r.2.2 ∧ r.2.2.length ≤ 10) → RpL (R.map cpD) 1 (R.length * 100)
  | [], _ => RpL.nil
  | r :: R, h => by
    obtain ⟨a, b, c, d⟩ := h r List.mem_cons_self
    have h2 := rp_cps (R := R) fun x hx => h x (List.mem_cons_of_mem _ hx)
    have h1 : Rp (cpD r) 1 (30 + 1 + (30 + 1 + (10 + 1 + 0))) := Rp.tup (RpL.cons (Rp.int a) (RpL.cons (Rp.int b) (RpL.cons (Rp.str c d) RpL.nil)))
    have h3 := RpL.cons h1 h2
    exact ⟨h3.c, h3.dp, Nat.le_trans h3.wt (by rw [List.length_cons]; omega), h3.is, h3.sh, h3.hd⟩
theorem cl_abs {w b z : Int} (hw : 0 < w) (h1 : -200000 ≤ z ∧ z ≤ 200000) (h2 : -200000 ≤ b ∧ b ≤ 200000) : -9999999 ≤ clI w b z ∧ clI w b z ≤ 9999999 := by
  have h := Int.natAbs_ediv_le_natAbs (z - b) w
  unfold clI
  omega
theorem ok_cps {w b lo hi : Int} {hs ps : List Int} (A : Ask w b hs ps) : rpOk (.tuple ((cpL w b lo hi hs ps).map cpD)) = true := by
  have hl := cpL_len (w := w) (b := b) (lo := lo) (hi := hi) A.hl A.pl
  refine Rp.okT (Rp.tup (rp_cps fun r hr => ?_)) (by decide) (by omega)
  obtain ⟨h1, h2, _, e⟩ := mem_cpL.mp hr
  obtain ⟨z, hz, e1⟩ := mem_clL.mp h1
  obtain ⟨q, hq, e2⟩ := mem_clL.mp h2
  refine ⟨by rw [← e1]; exact cl_abs A.w0 (A.h z hz) A.b, by rw [← e2]; exact cl_abs A.w0 (A.p q hq) A.b, cp_words hr, ?_⟩
  rw [e]
  rcases wd_cases (low := b + r.1 * w - 0 - (b + r.2.1 * w + (w - 1))) (high := b + r.1 * w + (w - 1) - (b + r.2.1 * w - 0)) (lo := lo) (hi := hi) with h | h | h <;> (unfold cwF; rw [h]; decide)
theorem g__law_pairs_right {O : Sto} {t1 l1 t2 l2 : Nat} {hs ps : List Int} {w b lo hi : Int} {lim : PV} {Q : PV → Sto → Prop} (T1 : TB O t1 l1 hs) (T2 : TB O t2 l2 ps) (A : Ask w b hs ps) (L : Lm lim lo hi) (hlo : -200000 ≤ lo ∧ lo ≤ 200000) (k : ∀ O', Fr O O' → Q (.bl true) O') : Go (m__law_pairs_right [.tup [.loc t1, .loc t2], .lst (hs.map .int), .lst (ps.map .int), .int w, .tup [.int lo, lim], .int b] O) Q := by
  have w0 := A.w0
  have w1 := A.w1
  have hB : ∀ x ∈ clL w b hs, ∀ y ∈ clL w b ps, b + x * w + (w - 1) - (b + y * w - 0) ≤ 1000000000 := fun x hx y hy => by
    have := A.gap hx hy
    omega
  wtm_at "q.def"
  wtm_at "q.c"
  refine g__law_due A L hlo fun O1 f1 => ?_
  wtm_at "q.c"
  refine g_class_pairs (T1.fr f1) (T2.fr f1) A.hl A.pl w0 (by omega) L hB fun O2 f2 => ?_
  have f2 := f1.trans f2
  clear f1
  wtm_at "q.c"
  have d2 : (O2 ++ [some (PV.lst [PV.tup ((cpL w b lo hi hs ps).map cpP)])])[O2.length]? = some (some (.lst [PV.tup ((cpL w b lo hi hs ps).map cpP)])) := get_app
  have f3 : Fr O (O2 ++ [some (PV.lst [PV.tup ((cpL w b lo hi hs ps).map cpP)])]) := f2.app
  have hd : O.length ≤ O2.length := f2.len
  generalize O2 ++ [some (PV.lst [PV.tup ((cpL w b lo hi hs ps).map cpP)])] = O3 at *
  generalize O2.length = d at *
  clear f2
  refine g_class_pairs (T1.fr f3) (T2.fr f3) A.hl A.pl w0 (by omega) L hB fun O4 f4 => ?_
  have d4 := f4.get d2
  have f4 := f3.trans f4
  wtm_at "q.c"
  refine go_appF d4 rfl fun O5 e1 e2 e3 => ?_
  have f5 := f4.put hd e2 e3
  have d5 := e1
  clear e1 e2 e3 d4 f4 d2 f3
  wtm_at "q.c"
  by_cases cb : b = 0
  case neg =>
    refine bF (decide_eq_false cb) ?_
    wtm_at "q.c"
    try (refine bF (decide_eq_false cb) ?_)
    have fz := f5
    have dz := d5
    wtm_at "q.c"
    refine comp_Mid (fun _ => PV.bl false) _ (by simp) dz (fun x hx => ?_) ?_
    · have hx : x = PV.tup ((cpL w b lo hi hs ps).map cpP) := by simpa using hx
      rw [hx]
      wtm_at "q.c"
      refine go_reprD toD_cps (ok_cps A) ?_
      wtm_at "q.c"
      refine go_reprD toD_cps (ok_cps A) ?_
      wtm_at "q.c"
      exact ⟨by simp, rfl⟩
    wtm_at "q.c"
    exact g__law_pieces_right A L fun O9 f9 => k _ (fz.trans f9)
  case pos =>
    subst cb
    refine bT rfl ?_
    wtm_at "q.c"
    have fz := f5
    have dz := d5
    clear f5 d5
    refine g_class_pairs (T1.fr fz) (T2.fr fz) A.hl A.pl w0 (by omega) L hB fun O4 f4 => ?_
    have d4 := f4.get dz
    have f4 := fz.trans f4
    wtm_at "q.c"
    refine go_appF d4 rfl fun O5 e1 e2 e3 => ?_
    have f5 := f4.put hd e2 e3
    have d5 := e1
    clear e1 e2 e3 d4 f4 dz fz
    have fz := f5
    have dz := d5
    clear f5 d5
    wtm_at "q.c"
    have L2 := L
    rcases L2 with ⟨rfl, _⟩ | ⟨rfl, _⟩
    · try (refine bT rfl ?_; wtm_at "q.c")
      wtm_at "q.c"
      refine comp_Mid (fun _ => PV.bl false) _ (by simp) dz (fun x hx => ?_) ?_
      · have hx : x = PV.tup ((cpL w 0 lo hi hs ps).map cpP) := by simpa using hx
        rw [hx]
        wtm_at "q.c"
        refine go_reprD toD_cps (ok_cps A) ?_
        wtm_at "q.c"
        refine go_reprD toD_cps (ok_cps A) ?_
        wtm_at "q.c"
        exact ⟨by simp, rfl⟩
      wtm_at "q.c"
      exact g__law_pieces_right A L fun O9 f9 => k _ (fz.trans f9)
    · try (refine bT rfl ?_; wtm_at "q.c")
      refine ⟨⟨rfl, rfl⟩, ?_⟩
      refine g_m rfl ?_
      refine g_class_pairs (T1.fr fz) (T2.fr fz) A.hl A.pl w0 (by omega) L hB fun O4 f4 => ?_
      have d4 := f4.get dz
      have f4 := fz.trans f4
      wtm_at "q.c"
      refine go_appF d4 rfl fun O5 e1 e2 e3 => ?_
      have f5 := f4.put hd e2 e3
      have d5 := e1
      clear e1 e2 e3 d4 f4 dz fz
      have fz := f5
      have dz := d5
      clear f5 d5
      wtm_at "q.c"
      by_cases cl : lo = 0
      case neg =>
        refine bF (decide_eq_false cl) ?_
        wtm_at "q.c"
        refine comp_Mid (fun _ => PV.bl false) _ (by simp) dz (fun x hx => ?_) ?_
        · have hx : x = PV.tup ((cpL w 0 lo hi hs ps).map cpP) := by simpa using hx
          rw [hx]
          wtm_at "q.c"
          refine go_reprD toD_cps (ok_cps A) ?_
          wtm_at "q.c"
          refine go_reprD toD_cps (ok_cps A) ?_
          wtm_at "q.c"
          exact ⟨by simp, rfl⟩
        wtm_at "q.c"
        exact g__law_pieces_right A L fun O9 f9 => k _ (fz.trans f9)
      case pos =>
        subst cl
        refine bT rfl ?_
        wtm_at "q.c"
        refine g_class_pairs (T1.fr fz) (T2.fr fz) A.hl A.pl w0 (by omega) L hB fun O4 f4 => ?_
        have d4 := f4.get dz
        have f4 := fz.trans f4
        wtm_at "q.c"
        refine go_appF d4 rfl fun O5 e1 e2 e3 => ?_
        have f5 := f4.put hd e2 e3
        have d5 := e1
        clear e1 e2 e3 d4 f4 dz fz
        have fz := f5
        have dz := d5
        clear f5 d5
        wtm_at "q.c"
        wtm_at "q.c"
        refine comp_Mid (fun _ => PV.bl false) _ (by simp) dz (fun x hx => ?_) ?_
        · have hx : x = PV.tup ((cpL w 0 0 hi hs ps).map cpP) := by simpa using hx
          rw [hx]
          wtm_at "q.c"
          refine go_reprD toD_cps (ok_cps A) ?_
          wtm_at "q.c"
          refine go_reprD toD_cps (ok_cps A) ?_
          wtm_at "q.c"
          exact ⟨by simp, rfl⟩
        wtm_at "q.c"
        exact g__law_pieces_right A L fun O9 f9 => k _ (fz.trans f9)
end
section
abbrev AR := Int × (Int × PV) × Int
abbrev arP (r : AR) : PV := .tup [.int r.1, .tup [.int r.2.1.1, r.2.1.2], .int r.2.2]
def ArOk (hs ps : List Int) (r : AR) : Prop := Ask r.1 r.2.2 hs ps ∧ (∃ hi, Lm r.2.1.2 r.2.1.1 hi) ∧ -200000 ≤ r.2.1.1 ∧ r.2.1.1 ≤ 200000
theorem all_rep50 : ∀ n : Nat, (List.replicate n true).all id = true := fun n => by
  induction n with
  | zero => rfl
  | succ n ih => rw [List.replicate_succ, List.all_cons, ih]; rfl
theorem g__law_asked_right {O : Sto} {t1 l1 t2 l2 : Nat} {hs ps : List Int} {q : PV} {rows : List AR} {gd : Option (Nat × List PV)} {Q : PV → Sto → Prop} (T1 : TB O t1 l1 hs) (T2 : TB O t2 l2 ps) (eq : itemsOf O q = some (rows.map arP, gd)) (hg : grd gd O) (hl : rows.length ≤ 50) (hr : ∀ r ∈ rows, ArOk hs ps r) (k : ∀ O', Fr O O' → Q (.bl true) O') : Go (m__law_asked_right [.tup [.loc t1, .loc t2], .lst (hs.map .int), .lst (ps.map .int), q] O) Q := by
  wtm_at "q.def"
  wtm_at "q.c"
  refine ⟨_, _, eq, ?_⟩
  refine comp_P arP (fun d acc O' => Fr O O' ∧ acc = (List.replicate d.length true).map PV.bl) rows (by omega) (fun d acc O' h => grd_fr hg h.1) ⟨Fr.refl, rfl⟩ (fun d r t' acc O' ed h => ?_) fun acc O' h => ?_
  · obtain ⟨f, rfl⟩ := h
    obtain ⟨A, ⟨hi, L⟩, b1, b2⟩ := hr r (by rw [ed]; simp)
    unfold GoC
    wtm_at "q.c"
    refine g__law_pairs_right (T1.fr f) (T2.fr f) A L ⟨b1, b2⟩ fun O9 f9 => ?_
    refine ⟨f.trans f9, ?_⟩
    rw [List.length_append, List.length_singleton, List.replicate_succ', List.map_append]
    rfl
  · obtain ⟨f, rfl⟩ := h
    wtm_at "q.c"
    refine go_all (ns := List.replicate rows.length true) rfl ?_
    rw [all_rep50]
    exact k _ f
end
section
theorem e_widest {lo hi : Int} {O : Sto} (hl : lo ≤ hi) : m_widest [.int lo, .int hi] O = .ok (.tup [.int ((hi - lo) / 2 + 1), .int (lo + ((hi - lo) / 2 + 1) - 1)]) O := Go.eq (by
  wtm_at "q.def"
  refine go_at (e_check_limits hl) ?_
  wtm_at "q.c"
  exact ⟨rfl, rfl⟩)
theorem shaped_2 (a c : Int) : SeqAt.shaped (.tuple [.int a, .int c]) = true := by
  unfold SeqAt.shaped
  simp [PyData.canLay0, PyData.canLayAll0, PyData.depth, PyData.depthAll]
theorem e__law_always {w r lo hi : Int} {O : Sto} : m__law_always [.int w, .int r, .int lo, .int hi] O = .ok (.bl (decide (lo ≤ r - (w - 1) ∧ r + w - 1 ≤ hi))) O := Go.eq (by
  wtm_at "q.def"
  wtm_at "q.c"
  refine qbr (fun c => ?_) (fun c => ?_)
  · wtm_at "q.c"
    refine ⟨congrArg PV.bl ?_, rfl⟩
    rw [Bool.eq_iff_iff, decide_eq_true_iff, decide_eq_true_iff]
    exact ⟨fun h => ⟨c, h⟩, fun h => h.2⟩
  · refine ⟨congrArg PV.bl ?_, rfl⟩
    exact (decide_eq_false fun h => c h.1).symm)
theorem e__law_whole {i : Int} {O : Sto} : m__law_whole [.int i] O = .ok (.bl true) O := Go.eq (by
  wtm_at "q.def"
  wtm_at "q.c"
  exact ⟨rfl, rfl⟩)
theorem g__law_widest_right {lo hi : Int} {O : Sto} {Q : PV → Sto → Prop} (hl : lo ≤ hi) (h1 : -200000 ≤ lo ∧ lo ≤ 200000) (h2 : hi ≤ 400000) (k : Q (.bl true) O) : Go (m__law_widest_right [.int lo, .int hi] O) Q := by
  have hW : ∃ W : Int, W = (hi - lo) / 2 + 1 ∧ 1 ≤ W ∧ 2 * W - 2 ≤ hi - lo ∧ hi - lo < 2 * W := ⟨_, rfl, by omega, by omega, by omega⟩
  obtain ⟨W, eW, w1, w2, w3⟩ := hW
  have ew : ∀ O, m_widest [.int lo, .int hi] O = .ok (.tup [.int W, .int (lo + W - 1)]) O := fun O => by rw [eW]; exact e_widest hl
  wtm_at "q.def"
  wtm_at "q.c"
  refine go_at (ew _) ?_
  wtm_at "q.c"
  refine bF rfl ?_
  wtm_at "q.c"
  refine go_at e__law_whole ?_
  wtm_at "q.c"
  refine go_at e__law_whole ?_
  wtm_at "q.c"
  try (refine bF rfl ?_; wtm_at "q.c")
  refine go_at (ew _) ?_
  refine go_neDd (d := .tuple [.int W, .int (lo + W - 1)]) (d' := .tuple [.int W, .int (lo + W - 1)]) rfl rfl (by rw [shaped_2]; rfl) ?_
  rw [show PyData.eqv (.tuple [.int W, .int (lo + W - 1)]) (.tuple [.int W, .int (lo + W - 1)]) = true by simp [PyData.eqv, PyData.eqvAll]]
  wtm_at "q.c"
  try (refine bF rfl ?_; wtm_at "q.c")
  refine go_at e__law_always ?_
  rw [show decide (lo ≤ lo + W - 1 - (W - 1) ∧ lo + W - 1 + W - 1 ≤ hi) = true from decide_eq_true ⟨by omega, by omega⟩]
  wtm_at "q.c"
  try (refine bF rfl ?_; wtm_at "q.c")
  refine go_at e__law_always ?_
  rw [show decide (lo ≤ lo + W - 1 - 1 - (W - 1) ∧ lo + W - 1 - 1 + W - 1 ≤ hi) = false from decide_eq_false fun h => by have := h.1; omega]
  wtm_at "q.c"
  try (refine bF rfl ?_; wtm_at "q.c")
  by_cases c30 : hi - lo < 30
  case' pos =>
    refine bT (decide_eq_true c30) ?_
    wtm_at "q.c"
    rw [show rgL (lo - 2) (hi + 3 - (lo - 2)).toNat = (List.range (hi + 3 - (lo - 2)).toNat).map fun i : Nat => PV.int (lo - 2 + (i : Int)) from rfl]
    refine go_loopP (fun i : Nat => PV.int (lo - 2 + (i : Int))) (fun d s1 O' => O' = O ∧ ∃ x7, s1 = [some (.int lo), some (.int hi), some (.tup [.int W, .int (lo + W - 1)]), none, none, some (.int W), some (.int (lo + W - 1)), x7, none]) (List.range (hi + 3 - (lo - 2)).toNat) (fun _ _ _ _ => trivial) ⟨rfl, _, rfl⟩ (fun d i tl s1 O' ed hJ => ?_) (fun s1 O' hJ => ?_)
    · obtain ⟨rfl, x7, rfl⟩ := hJ
      generalize lo - 2 + (i : Int) = tn
      wtm_at "q.c"
      refine go_at e__law_always ?_
      rw [show decide (lo ≤ tn - (W + 1 - 1) ∧ tn + (W + 1) - 1 ≤ hi) = false from decide_eq_false fun h => by omega]
      wtm_at "q.c"
      by_cases ct : tn < lo + W - 1
      · refine bT (decide_eq_true ct) ?_
        wtm_at "q.c"
        refine go_at e__law_always ?_
        rw [show decide (lo ≤ tn - (W - 1) ∧ tn + W - 1 ≤ hi) = false from decide_eq_false fun h => by omega]
        wtm_at "q.c"
        first | exact ⟨rfl, _, rfl⟩ | exact ⟨_, rfl⟩
      · refine bF (decide_eq_false ct) ?_
        wtm_at "q.c"
        first | exact ⟨rfl, _, rfl⟩ | exact ⟨_, rfl⟩
    obtain ⟨rfl, x7, rfl⟩ := hJ
  case' neg =>
    refine bF (decide_eq_false c30) ?_
  all_goals
    wtm_at "q.c"
    by_cases c9 : W > 900
    · refine bT (decide_eq_true c9) ?_
      wtm_at "q.c"
      refine bT (decide_eq_true (by omega)) ?_
      wtm_at "q.c"
      simpa using k
    · refine bF (decide_eq_false c9) ?_
      wtm_at "q.c"
      have hs : wdF (lo + W - 1 - 0 - (0 + (W - 1))) (lo + W - 1 + (W - 1) - (0 - 0)) lo hi = "sure" := wd_sure ⟨by omega, by omega⟩ (by omega)
      have hn : ∀ x : Int, wdF (x - 0 - (0 + W)) (x + W - (0 - 0)) lo hi ≠ "sure" := fun x e => by
        have := wd_of_sure e
        omega
      refine go_at (e_Span (by omega)) ?_
      wtm_at "q.c"
      refine go_at (e_Span (by omega)) ?_
      wtm_at "q.c"
      refine g_fitI hl (by omega) (by omega) fun g1 f1 => ?_
      rw [hs]
      wtm_at "q.c"
      refine go_at (e_Span (by omega)) ?_
      wtm_at "q.c"
      refine go_at (e_Span (by omega)) ?_
      wtm_at "q.c"
      refine g_fitI hl (by omega) (by omega) fun g2 f2 => ?_
      have hn1 := hn (lo + W - 1)
      generalize wdF (lo + W - 1 - 0 - (0 + W)) (lo + W - 1 + W - (0 - 0)) lo hi = wa at *
      wtm_at "q.c"
      refine go_at (e_Span (by omega)) ?_
      wtm_at "q.c"
      refine go_at (e_Span (by omega)) ?_
      wtm_at "q.c"
      refine g_fitI hl (by omega) (by omega) fun g3 f3 => ?_
      have hn2 := hn (lo + W - 1 + 1)
      generalize wdF (lo + W - 1 + 1 - 0 - (0 + W)) (lo + W - 1 + 1 + W - (0 - 0)) lo hi = wb at *
      wtm_at "q.c"
      refine go_at (e_Span (by omega)) ?_
      wtm_at "q.c"
      refine go_at (e_Span (by omega)) ?_
      wtm_at "q.c"
      refine g_fitI hl (by omega) (by omega) fun g4 f4 => ?_
      have hn3 := hn (lo + W)
      generalize wdF (lo + W - 0 - (0 + W)) (lo + W + W - (0 - 0)) lo hi = wc at *
      wtm_at "q.c"
      try (refine bT rfl ?_; wtm_at "q.c")
      refine go_inZ (zs := [wa, wb, wc]) rfl ?_
      rw [show (if true = true then !decide ((Str.ofString "sure") ∈ [wa, wb, wc]) else decide ((Str.ofString "sure") ∈ [wa, wb, wc])) = true by
        rw [if_pos rfl, decide_eq_false]
        · rfl
        · simp only [List.mem_cons, List.not_mem_nil, or_false]
          rintro (h | h | h)
          · exact hn1 h.symm
          · exact hn2 h.symm
          · exact hn3 h.symm]
      exact k
end
section
theorem tb_ph {O0 O : Sto} {p t l : Nat} {zs : List Int} (T : TB O0 t l zs) (h : Ph O0 p O) (ht : t ≠ p) (hl : l ≠ p) : TB O t l zs := ⟨(h.oth _ ht).trans T.tn, (h.oth _ hl).trans T.tl⟩
theorem tb_oth {O0 O : Sto} {n t l : Nat} {zs : List Int} (T : TB O0 t l zs) (h : ∀ m : Nat, m ≠ n → O[m]? = O0[m]?) (ht : t ≠ n) (hl : l ≠ n) : TB O t l zs := ⟨(h _ ht).trans T.tn, (h _ hl).trans T.tl⟩
theorem pu_oth42 {O O' : Sto} {p n : Nat} (h : Pu O p) (hn : p ≠ n) (e : ∀ m : Nat, m ≠ n → O'[m]? = O[m]?) : Pu O' p := by
  obtain ⟨a, b, c, e1, e2⟩ := h
  exact ⟨a, b, c, by rw [e p hn]; exact e1, e2⟩
theorem pu_lt42 {O : Sto} {p : Nat} (h : Pu O p) : p < O.length := by
  obtain ⟨a, b, c, e, _⟩ := h
  exact lt_of_get e
theorem Ask.more {w b : Int} {hs ps : List Int} (A : Ask w b hs ps) (h1 : hs.length < 63) (h2 : ps.length < 63) {x y : Int} (hx : -200000 ≤ x ∧ x ≤ 200000) (hy : -200000 ≤ y ∧ y ≤ 200000) : Ask w b (hs ++ [x]) (ps ++ [y]) where
  w0 := A.w0
  w1 := A.w1
  b := A.b
  h := fun z hz => by
    rcases List.mem_append.mp hz with hz | hz
    · exact A.h z hz
    · rw [List.mem_singleton.mp hz]; exact hx
  p := fun z hz => by
    rcases List.mem_append.mp hz with hz | hz
    · exact A.p z hz
    · rw [List.mem_singleton.mp hz]; exact hy
  hl := by rw [List.length_append, List.length_singleton]; omega
  pl := by rw [List.length_append, List.length_singleton]; omega
theorem law_true {ns : List Int} (hn : ns.length ≤ 63) : Go (m_law [.rol (ns.map .int)] []) fun q _ => q = .bl true := by
  wtm_at "q.def"
  wtm_at "q.g"
  rw [List.length_map]
  wtm_at "q.g"
  refine go_loopId (fun _ s1 _ => ∃ x1 x2 x3 x4 x5 x6 x7 x8 x9 x10 x11 x12 x13 x14 x15, s1 = [some (.rol (ns.map .int)), x1, x2, x3, x4, x5, x6, x7, x8, x9, x10, x11, x12, x13, x14, x15]) _ (fun _ _ _ _ => trivial) ⟨_, _, _, _, _, _, _, _, _, _, _, _, _, _, _, rfl⟩ (fun d q t s1 O' ed hJ => ?_) (fun s1 O' hJ => ?_)
  · obtain ⟨x1, x2, x3, x4, x5, x6, x7, x8, x9, x10, x11, x12, x13, x14, x15, rfl⟩ := hJ
    have hq : q ∈ rgL 0 (max 2 (min (ns.length : Int) 6)).toNat := by rw [ed]; simp
    have hqi := List.getElem?_of_mem hq
    obtain ⟨i, hi⟩ := hqi
    have hrg := rgL_get hi
    obtain ⟨hp1, rfl⟩ := hrg
    clear hq ed
    wtm_at "q.g"
    refine g__law_cell (by omega) (by omega) fun z => ?_
    wtm_at "q.g"
    refine g__law_purse fun O2 pu2 _ _ => ?_
    generalize O'.length = p at *
    wtm_at "q.g"
    refine g__law_some (Ph.start pu2) (by decide) (by decide) fun hs O3 l1 b1 h => ?_
    wtm_at "q.c"
    refine g__law_some h (by decide) (by decide) fun ps O4 l2 b2 h => ?_
    wtm_at "q.c"
    have pu4 := h.pu
    clear h pu2
    refine g__law_tray rfl (by omega) fun t1 m1 O5 T1 f5 a1 a2 => ?_
    wtm_at "q.c"
    refine g__law_tray rfl (by omega) fun t2 m2 O6 T2 f6 a3 a4 => ?_
    have hp4 := pu_lt42 pu4
    have ht1 := lt_of_get T1.tn
    have hm1 := lt_of_get T1.tl
    have ht2 := lt_of_get T2.tn
    have hm2 := lt_of_get T2.tl
    have T1 := T1.fr f6
    have pu6 := (f5.trans f6).pu pu4
    wtm_at "q.c"
    have d6 : (O6 ++ [some (PV.lst [PV.tup [.int 2, .tup [.int 0, .non], .int 0]])])[O6.length]? = some (some (.lst ([((2, (0, .non), 0) : AR)].map arP))) := get_app
    have T1 := T1.fr (Fr.refl.app (x := [some (PV.lst [PV.tup [.int 2, .tup [.int 0, .non], .int 0]])]))
    have T2 := T2.fr (Fr.refl.app (x := [some (PV.lst [PV.tup [.int 2, .tup [.int 0, .non], .int 0]])]))
    have pu6 := (Fr.refl.app (x := [some (PV.lst [PV.tup [.int 2, .tup [.int 0, .non], .int 0]])])).pu pu6
    have hl6 : O4.length ≤ O5.length ∧ O5.length ≤ O6.length := ⟨f5.len, f6.len⟩
    generalize O6 ++ [some (PV.lst [PV.tup [.int 2, .tup [.int 0, .non], .int 0]])] = O7 at *
    generalize O6.length = dd at *
    clear f5 f6
    have askOk : ∀ w b : Int, (1 ≤ w ∧ w ≤ 200000) → (-200000 ≤ b ∧ b ≤ 200000) → Ask w b hs ps := fun w b hw hb => ⟨by omega, by omega, hb, fun z hz => by have := b1 z hz; omega, fun z hz => by have := b2 z hz; omega, by omega, by omega⟩
    have hdp : dd ≠ p := by omega
    refine go_loopId (fun d s1 O' => Pu O' p ∧ TB O' t1 m1 hs ∧ TB O' t2 m2 ps ∧ ∃ (rows : List AR) (y1 y5 y11 y14 : Option PV), O'[dd]? = some (some (.lst (rows.map arP))) ∧ (∀ r ∈ rows, ArOk hs ps r) ∧ rows.length = d.length + 1 ∧ s1 = [some (.rol (ns.map .int)), y1, some (.loc p), some (.tup [.loc t1, .loc t2]), some (.loc dd), y5, x6, x7, some (.lst (hs.map .int)), some (.lst (ps.map .int)), x10, y11, x12, x13, y14, x15]) _ (fun _ _ _ _ => trivial) ⟨pu6, T1, T2, _, _, _, _, _, d6, fun r hr => by
        rw [List.mem_singleton.mp hr]
        exact ⟨askOk _ _ (by decide) (by decide), ⟨1000000000, .inr ⟨rfl, rfl⟩⟩, by decide, by decide⟩, rfl, rfl⟩ (fun d q t s1 O' ed hJ => ?_) (fun s1 O' hJ => ?_)
    · obtain ⟨pu7, T1, T2, rows, y1, y5, y11, y14, d7, hr, hrl, rfl⟩ := hJ
      have hdl : d.length ≤ 2 := by
        have := congrArg List.length ed
        rw [rgL_len, List.length_append, List.length_cons] at this
        omega
      have pq := pu_lt42 pu7
      wtm_at "q.c"
      refine g__law_take (Ph.start pu7) (by decide) (by decide) fun a O8 a0 a1 h => ?_
      wtm_at "q.c"
      refine g__law_take h (by decide) (by decide) fun b O9 b0 b1 h => ?_
      wtm_at "q.c"
      refine g__law_take h (by decide) (by decide) fun c O10 c0 c1 h => ?_
      have hm : ∃ m : Int, atI [PV.int 0, .int (b - 6), .int 40] c = some (.int m) ∧ -6 ≤ m ∧ m ≤ 40 := by
        by_cases e0 : c = 0
        · exact ⟨0, by rw [e0]; rfl, by omega, by omega⟩
        · by_cases e1 : c = 1
          · exact ⟨b - 6, by rw [e1]; rfl, by omega, by omega⟩
          · have e2 : c = 2 := by omega
            exact ⟨40, by rw [e2]; rfl, by omega, by omega⟩
      obtain ⟨m, em, m0, m1'⟩ := hm
      wtm_at "q.c"
      refine go_ixL rfl em ?_
      wtm_at "q.c"
      have d10 := (h.oth _ hdp).trans d7
      refine ⟨by rw [lst_loc d10]; rfl, ?_⟩
      wtm_at "q.c"
      refine g__law_limits h (by decide) fun lo hi lim O11 c1 L c2 h => ?_
      have d11 := (h.oth _ hdp).trans d7
      wtm_at "q.c"
      refine go_appF d11 (szl_le (by rw [List.length_map]; omega)) fun O12 e1 e2 e3 => ?_
      refine ⟨pu_oth42 h.pu (Ne.symm hdp) e3, tb_oth (tb_ph T1 h (by omega) (by omega)) e3 (by omega) (by omega), tb_oth (tb_ph T2 h (by omega) (by omega)) e3 (by omega) (by omega), rows ++ [((1 + a, (lo, lim), m) : AR)], _, _, _, _, ?_, ?_, ?_, rfl⟩
      · rw [e1, List.map_append]
        rfl
      · intro r hr1
        rcases List.mem_append.mp hr1 with hr1 | hr1
        · exact hr r hr1
        · rw [List.mem_singleton.mp hr1]
          exact ⟨askOk _ _ (by dsimp only; omega) (by dsimp only; omega), ⟨hi, L⟩, by dsimp only; omega, by dsimp only; omega⟩
      · rw [List.length_append, List.length_append, hrl]
        rfl
    · obtain ⟨pu7, T1, T2, rows, y1, y5, y11, y14, d7, hr, hrl, rfl⟩ := hJ
      rw [rgL_len] at hrl
      have h3 : ∃ r0 r1 r2, rows = [r0, r1, r2] := by
        match rows, hrl with
        | [a, b, c], _ => exact ⟨a, b, c, rfl⟩
      obtain ⟨r0, r1, r2, h3⟩ := h3
      subst h3
      have o0 := hr r0 (by simp)
      have o1 := hr r1 (by simp)
      have o2 := hr r2 (by simp)
      have o3 : ArOk hs ps ((r1.1, r2.2.1, r1.2.2) : AR) := ⟨o1.1, o2.2⟩
      clear hr hrl
      wtm_at "q.c"
      refine go_appF d7 rfl fun O8 e1 e2 e3 => ?_
      have d8 : O8[dd]? = some (some (.lst ([r0, r1, r2, ((r1.1, r2.2.1, r1.2.2) : AR)].map arP))) := e1
      have T1 := tb_oth T1 e3 (by omega) (by omega)
      have T2 := tb_oth T2 e3 (by omega) (by omega)
      have pu8 := pu_oth42 pu7 (Ne.symm hdp) e3
      generalize ((r1.1, r2.2.1, r1.2.2) : AR) = r3 at *
      clear e1 e2 e3 d7 pu7
      wtm_at "q.c"
      refine go_catL (by exact lst_loc d8) rfl rfl ?_
      wtm_at "q.c"
      refine g__law_asked_right T1 T2 (rows := [r0, r1, r2, r3, r1]) rfl trivial (by show 5 ≤ 50; decide) (fun r hr => by
        simp only [List.mem_cons, List.not_mem_nil, or_false] at hr
        rcases hr with e | e | e | e | e <;> rw [e] <;> assumption) fun O9 f9 => ?_
      have T1 := T1.fr f9
      have T2 := T2.fr f9
      have pu9 := f9.pu pu8
      have d9 := f9.get d8
      clear d8 pu8 f9
      have tn1 := T1.tn
      wtm_at "q.c"
      try (refine bF rfl ?_; wtm_at "q.c")
      refine g_put T1 (by omega) fun O10 T1 e2 e3 => ?_
      have T2 := tb_oth T2 e3 (by omega) (by omega)
      have pu10 := pu_oth42 pu9 (by omega) e3
      have d10 := (e3 dd (by omega)).trans d9
      clear e2 e3 d9 pu9 tn1
      have tn2 := T2.tn
      wtm_at "q.c"
      refine g_put T2 (by omega) fun O11 T2 e2 e3 => ?_
      have T1 := tb_oth T1 e3 (by omega) (by omega)
      have pu11 := pu_oth42 pu10 (by omega) e3
      have d11 := (e3 dd (by omega)).trans d10
      clear e2 e3 d10 pu10 tn2
      wtm_at "q.c"
      have lcat : ∀ (zs : List Int) (z : Int), zs.map PV.int ++ [PV.int z] = (zs ++ [z]).map PV.int := fun zs z => by rw [List.map_append]; rfl
      have more : ∀ r, ArOk hs ps r → ArOk (hs ++ [5]) (ps ++ [0 - 3]) r := fun r h => ⟨h.1.more (by omega) (by omega) (by decide) (by decide), h.2⟩
      have T2' := T2
      refine go_catL rfl rfl (sz_le (by simp only [List.length_cons, List.length_nil, List.length_map]; omega)) ?_
      rw [lcat]
      wtm_at "q.c"
      refine go_catL rfl rfl (sz_le (by simp only [List.length_cons, List.length_nil, List.length_map]; omega)) ?_
      rw [lcat]
      wtm_at "q.c"
      refine g__law_asked_right T1 T2 (rows := [r0, r1, r2, r3]) (itemsOf_loc d11) d11 (by show 4 ≤ 50; decide) (fun r hr => by
        simp only [List.mem_cons, List.not_mem_nil, or_false] at hr
        rcases hr with e | e | e | e <;> rw [e] <;> (refine more _ ?_; assumption)) fun O12 f12 => ?_
      have T1 := T1.fr f12
      have T2 := T2.fr f12
      have pu12 := f12.pu pu11
      have d12 := f12.get d11
      clear d11 pu11 f12 T2'
      wtm_at "q.c"
      try (refine bF rfl ?_; wtm_at "q.c")
      refine comp_M PV.int (fun z => PV.int (z + 2)) ps (by omega) trivial (fun z _ => ?_) ?_
      · wtm_at "q.c"
        exact ⟨rfl, rfl⟩
      rw [show (ps.map fun z => PV.int (z + 2)) = (ps.map fun z => z + 2).map PV.int by rw [List.map_map]; rfl]
      wtm_at "q.c"
      refine g__law_tray rfl (by rw [List.length_map]; omega) fun t3 m3 O13 T3 f13 _ _ => ?_
      have T1 := T1.fr f13
      have T2 := T2.fr f13
      have pu13 := f13.pu pu12
      have d13 := f13.get d12
      clear d12 pu12 f13
      wtm_at "q.c"
      refine go_catL rfl rfl (sz_le (by simp only [List.length_cons, List.length_nil, List.length_map]; omega)) ?_
      rw [lcat]
      wtm_at "q.c"
      have okO : ∀ r, ArOk hs ps r → ArOk (hs ++ [5]) (ps.map fun z => z + 2) r := fun r h => ⟨⟨h.1.w0, h.1.w1, h.1.b, (more r h).1.h, fun z hz => by
        obtain ⟨y, hy, rfl⟩ := List.mem_map.mp hz
        have := b2 y hy
        omega, (more r h).1.hl, by rw [List.length_map]; exact h.1.pl⟩, h.2⟩
      refine g__law_asked_right T1 T3 (rows := [r0, r1]) rfl trivial (by show 2 ≤ 50; decide) (fun r hr => by
        simp only [List.mem_cons, List.not_mem_nil, or_false] at hr
        rcases hr with e | e <;> rw [e] <;> (refine okO _ ?_; assumption)) fun O14 f14 => ?_
      have T1 := T1.fr f14
      have T2 := T2.fr f14
      have pu14 := f14.pu pu13
      have d14 := f14.get d13
      clear d13 pu13 f14 T3
      wtm_at "q.c"
      try (refine bF rfl ?_; wtm_at "q.c")
      refine go_catL rfl rfl (sz_le (by simp only [List.length_cons, List.length_nil, List.length_map]; omega)) ?_
      rw [lcat]
      wtm_at "q.c"
      refine go_catL rfl rfl (sz_le (by simp only [List.length_cons, List.length_nil, List.length_map]; omega)) ?_
      rw [lcat]
      wtm_at "q.c"
      refine g__law_asked_right T1 T2 (rows := [r0, r1]) rfl trivial (by show 2 ≤ 50; decide) (fun r hr => by
        simp only [List.mem_cons, List.not_mem_nil, or_false] at hr
        rcases hr with e | e <;> rw [e] <;> (refine more _ ?_; assumption)) fun O15 f15 => ?_
      have pu15 := f15.pu pu14
      clear d14 pu14 f15 T1 T2 o0 o1 o2 o3 okO more askOk
      wtm_at "q.c"
      try (refine bF rfl ?_; wtm_at "q.c")
      refine g__law_some (Ph.start pu15) (by decide) (by decide) fun hs O3 l1 b1 h => ?_
      wtm_at "q.c"
      refine g__law_some h (by decide) (by decide) fun ps O4 l2 b2 h => ?_
      wtm_at "q.c"
      refine g__law_limits h (by decide) fun lo hi lim O11 c1 L c2 h => ?_
      wtm_at "q.c"
      refine g__law_take h (by decide) (by decide) fun e O5 e0 e1 h => ?_
      wtm_at "q.c"
      refine go_ixR rfl (by split <;> decide) (by split <;> decide) fun r hr => ?_
      have hmx : ∃ mx : Int, r = .int mx ∧ 999 ≤ mx ∧ mx ≤ 99999 := by
        simp only [List.mem_cons, List.not_mem_nil, or_false] at hr
        rcases hr with e | e
        · exact ⟨999, e, by decide, by decide⟩
        · exact ⟨99999, e, by decide, by decide⟩
      obtain ⟨mx, rfl, hmx1, hmx2⟩ := hmx
      wtm_at "q.c"
      refine g__law_take h (by omega) (by omega) fun ww O6 ww0 ww1 h => ?_
      have pu6 := h.pu
      clear h hr
      wtm_at "q.c"
      refine g__law_tray rfl (by omega) fun t4 m4 O7 T4 f7 a5 a6 => ?_
      wtm_at "q.c"
      refine g__law_tray rfl (by omega) fun t5 m5 O8 T5 f8 a7 a8 => ?_
      have T4 := T4.fr f8
      have pu8 := (f7.trans f8).pu pu6
      have q4 := T4.tn
      have q4l := T4.tl
      have q5 := T5.tn
      have q5l := T5.tl
      wtm_at "q.c"
      refine g__law_take (Ph.start pu8) (by decide) (by decide) fun ra O9 ra0 ra1 h => ?_
      wtm_at "q.c"
      refine g__law_take h (by decide) (by decide) fun rb O10 rb0 rb1 h => ?_
      wtm_at "q.c"
      refine go_ixR rfl (by omega) (by show rb < ((2 : Nat) : Int); omega) fun r hr => ?_
      have hro : ∃ ro : Int, r = .int ro ∧ 0 ≤ ro ∧ ro ≤ 999 := by
        simp only [List.mem_cons, List.not_mem_nil, or_false] at hr
        rcases hr with e | e
        · exact ⟨0, e, by decide, by decide⟩
        · exact ⟨ra, e, by omega, by omega⟩
      obtain ⟨ro, rfl, hro1, hro2⟩ := hro
      have hpl6 := pu_lt42 pu6
      have h7 := f7.len
      have T4 := tb_ph T4 h (by omega) (by omega)
      have T5 := tb_ph T5 h (by omega) (by omega)
      clear q4 q4l q5 q5l
      wtm_at "q.c"
      refine g__law_pairs_right T4 T5 ⟨by omega, by omega, by omega, fun z hz => by have := b1 z hz; omega, fun z hz => by have := b2 z hz; omega, by omega, by omega⟩ L (by omega) fun O12 f12 => ?_
      have pu12 := f12.pu h.pu
      clear h f12 T4 T5 f7 f8 pu8 hr L b1 b2
      wtm_at "q.c"
      try (refine bF rfl ?_; wtm_at "q.c")
      refine go_loopId (fun d s1 O' => Pu O' p ∧ ∃ x1 x3 x4 x5 x6 x7 x8 x9 x10 x11 x12 x13 x14 x15, s1 = [some (.rol (ns.map .int)), x1, some (.loc p), x3, x4, x5, x6, x7, x8, x9, x10, x11, x12, x13, x14, x15]) _ (fun _ _ _ _ => trivial) ⟨pu12, _, _, _, _, _, _, _, _, _, _, _, _, _, _, rfl⟩ (fun d q t s1 O' ed hJ => ?_) (fun s1 O' hJ => ?_)
      · obtain ⟨pu, x1, x3, x4, x5, x6, x7, x8, x9, x10, x11, x12, x13, x14, x15, rfl⟩ := hJ
        have hq : ∃ sz : Int, q = .int sz ∧ 6 ≤ sz ∧ sz ≤ 99000 := by
          have hq : q ∈ [PV.int 6, .int 900, .int 99000] := by rw [ed]; simp
          simp only [List.mem_cons, List.not_mem_nil, or_false] at hq
          rcases hq with e | e | e
          · exact ⟨6, e, by decide, by decide⟩
          · exact ⟨900, e, by decide, by decide⟩
          · exact ⟨99000, e, by decide, by decide⟩
        obtain ⟨sz, rfl, sz1, sz2⟩ := hq
        clear ed
        wtm_at "q.c"
        refine g__law_take (Ph.start pu) (by omega) (by omega) fun a O2 a0 a1 h => ?_
        wtm_at "q.c"
        refine g__law_take h (by decide) (by decide) fun b O3 b0 b1 h => ?_
        wtm_at "q.c"
        refine g__law_take h (by omega) (by omega) fun c O4 c0 c1 h => ?_
        wtm_at "q.c"
        refine g__law_take h (by decide) (by decide) fun e O5 e0 e1 h => ?_
        wtm_at "q.c"
        refine go_ixR rfl (by omega) (by show e < ((4 : Nat) : Int); omega) fun r hr => ?_
        have hro : ∃ mo : Int, r = .int mo ∧ 0 ≤ mo ∧ mo ≤ 100000 := by
          simp only [List.mem_cons, List.not_mem_nil, or_false] at hr
          rcases hr with e | e | e | e
          · exact ⟨0, e, by decide, by decide⟩
          · exact ⟨1, e, by decide, by decide⟩
          · exact ⟨b, e, by omega, by omega⟩
          · exact ⟨c, e, by omega, by omega⟩
        obtain ⟨mo, rfl, mo1, mo2⟩ := hro
        wtm_at "q.c"
        refine g__law_widest_right (by omega) (by omega) (by omega) ?_
        have pu9 := h.pu
        wtm_at "q.c"
        try (refine bF rfl ?_; try wtm_at "q.c")
        first | exact ⟨pu9, _, _, _, _, _, _, _, _, _, _, _, _, _, _, rfl⟩ | exact ⟨_, _, _, _, _, _, _, _, _, _, _, _, _, _, rfl⟩
      · obtain ⟨pu, x1, x3, x4, x5, x6, x7, x8, x9, x10, x11, x12, x13, x14, x15, rfl⟩ := hJ
        exact ⟨_, _, _, _, _, _, _, _, _, _, _, _, _, _, _, rfl⟩
  · obtain ⟨x1, x2, x3, x4, x5, x6, x7, x8, x9, x10, x11, x12, x13, x14, x15, rfl⟩ := hJ
    wtm_at "q.g"
    try rfl
end
end Qg
namespace Qg
open PySem PySem.Spec PyProof.Rows L2 Gx Qx Hd
section
variable {K : PySem.W.Frag}
theorem bd_Fit___init___4 : Gx.BdD K d_Fit___init__ ["self", "word", "goes", "fails"] [] := fun fd F => ⟨[], .nil, Gx.FunD.bdN F b_Fit___init__⟩
theorem bd_Span___init___3 : Gx.BdD K d_Span___init__ ["self", "size", "above", "below"] [.int (0)] := fun fd F => F.binds1 3 1 (List.cons_ne_nil _ _) (by rfl) fun _ _ _ _ _ _ _ us its h1 h2 => match us, its, h1, h2 with | [_, _, _], [_, _], _, _ => ⟨_, rfl, rfl⟩
theorem bd_Tray___init___1 : Gx.BdD K d_Tray___init__ ["self"] [] := fun fd F => ⟨[], .nil, Gx.FunD.bdN F b_Tray___init__⟩
theorem bd_class_pairs_3 : Gx.BdD K d_class_pairs ["holes", "pegs", "width", "least", "most", "base"] [.int (0), .non, .int (0)] := fun fd F => F.binds1 3 0 (List.cons_ne_nil _ _) (by rfl) fun _ _ _ _ _ _ _ us its h1 h2 => match us, its, h1, h2 with | [_, _, _], [_, _, _], _, _ => ⟨_, rfl, rfl⟩
theorem bd_class_pairs_5 : Gx.BdD K d_class_pairs ["holes", "pegs", "width", "least", "most", "base"] [.int (0)] := fun fd F => F.binds1 5 2 (List.cons_ne_nil _ _) (by rfl) fun _ _ _ _ _ _ _ us its h1 h2 => match us, its, h1, h2 with | [_, _, _, _, _], [_, _, _], _, _ => ⟨_, rfl, rfl⟩
theorem bd_class_pairs_6 : Gx.BdD K d_class_pairs ["holes", "pegs", "width", "least", "most", "base"] [] := fun fd F => F.binds1 6 3 (List.cons_ne_nil _ _) (by rfl) fun _ _ _ _ _ _ _ us its h1 h2 => match us, its, h1, h2 with | [_, _, _, _, _, _], [_, _, _], _, _ => ⟨_, rfl, rfl⟩
theorem bd_fit_4 : Gx.BdD K d_fit ["hole", "peg", "least", "most"] [] := fun fd F => F.binds1 4 2 (List.cons_ne_nil _ _) (by rfl) fun _ _ _ _ _ _ _ us its h1 h2 => match us, its, h1, h2 with | [_, _, _, _], [_, _], _, _ => ⟨_, rfl, rfl⟩
theorem bk_Span___init___2_above_below : Gx.BdK K d_Span___init__ ["self", "size", "above", "below"] 2 ["above", "below"] (fun us ws => (fun its => us ++ (ws.drop 0).take 1 ++ (ws.drop 1).take 1) ([.int (0), .int (0)] : List V)) := fun fd F => by
  have e : (d_Span___init__).dvs K = ([.int (0), .int (0)] : List V) := by rfl
  rw [← e]
  obtain ⟨its, h⟩ := F.kbindsD (ps := ["self", "size", "above", "below"]) 2 ["above", "below"] (fun us its ws => us ++ (ws.drop 0).take 1 ++ (ws.drop 1).take 1) (List.cons_ne_nil _ _) (fun r1 r2 r3 => ((r1.append ((r3.drop 0).take 1)).append ((r3.drop 1).take 1))) (fun _ _ _ _ _ _ _ us its ws h1 h2 h3 => match us, its, ws, h1, h2, h3 with | [_, _], [_, _], [_, _], _, _, _ => ⟨_, rfl, rfl⟩)
  exact ⟨_, h⟩
theorem bk_Tray_classes_2_base : Gx.BdK K d_Tray_classes ["self", "width", "base"] 2 ["base"] (fun us ws => (fun its => us ++ (ws.drop 0).take 1) ([.int (0)] : List V)) := fun fd F => by
  have e : (d_Tray_classes).dvs K = ([.int (0)] : List V) := by rfl
  rw [← e]
  obtain ⟨its, h⟩ := F.kbindsD (ps := ["self", "width", "base"]) 2 ["base"] (fun us its ws => us ++ (ws.drop 0).take 1) (List.cons_ne_nil _ _) (fun r1 r2 r3 => (r1.append ((r3.drop 0).take 1))) (fun _ _ _ _ _ _ _ us its ws h1 h2 h3 => match us, its, ws, h1, h2, h3 with | [_, _], [_], [_], _, _, _ => ⟨_, rfl, rfl⟩)
  exact ⟨_, h⟩
theorem bk_class_pairs_0_base_least_most_pegs_width_holes : Gx.BdK K d_class_pairs ["holes", "pegs", "width", "least", "most", "base"] 0 ["base", "least", "most", "pegs", "width", "holes"] (fun us ws => (fun its => us ++ (ws.drop 5).take 1 ++ (ws.drop 3).take 1 ++ (ws.drop 4).take 1 ++ (ws.drop 1).take 1 ++ (ws.drop 2).take 1 ++ (ws.drop 0).take 1) ([.int (0), .non, .int (0)] : List V)) := fun fd F => by
  have e : (d_class_pairs).dvs K = ([.int (0), .non, .int (0)] : List V) := by rfl
  rw [← e]
  obtain ⟨its, h⟩ := F.kbindsD (ps := ["holes", "pegs", "width", "least", "most", "base"]) 0 ["base", "least", "most", "pegs", "width", "holes"] (fun us its ws => us ++ (ws.drop 5).take 1 ++ (ws.drop 3).take 1 ++ (ws.drop 4).take 1 ++ (ws.drop 1).take 1 ++ (ws.drop 2).take 1 ++ (ws.drop 0).take 1) (List.cons_ne_nil _ _) (fun r1 r2 r3 => ((((((r1.append ((r3.drop 5).take 1)).append ((r3.drop 3).take 1)).append ((r3.drop 4).take 1)).append ((r3.drop 1).take 1)).append ((r3.drop 2).take 1)).append ((r3.drop 0).take 1))) (fun _ _ _ _ _ _ _ us its ws h1 h2 h3 => match us, its, ws, h1, h2, h3 with | [], [_, _, _], [_, _, _, _, _, _], _, _, _ => ⟨_, rfl, rfl⟩)
  exact ⟨_, h⟩
theorem bk_class_pairs_3_least : Gx.BdK K d_class_pairs ["holes", "pegs", "width", "least", "most", "base"] 3 ["least"] (fun us ws => (fun its => us ++ (ws.drop 0).take 1 ++ (its.drop 1).take 1 ++ (its.drop 2).take 1) ([.int (0), .non, .int (0)] : List V)) := fun fd F => by
  have e : (d_class_pairs).dvs K = ([.int (0), .non, .int (0)] : List V) := by rfl
  rw [← e]
  obtain ⟨its, h⟩ := F.kbindsD (ps := ["holes", "pegs", "width", "least", "most", "base"]) 3 ["least"] (fun us its ws => us ++ (ws.drop 0).take 1 ++ (its.drop 1).take 1 ++ (its.drop 2).take 1) (List.cons_ne_nil _ _) (fun r1 r2 r3 => (((r1.append ((r3.drop 0).take 1)).append ((r2.drop 1).take 1)).append ((r2.drop 2).take 1))) (fun _ _ _ _ _ _ _ us its ws h1 h2 h3 => match us, its, ws, h1, h2, h3 with | [_, _, _], [_, _, _], [_], _, _, _ => ⟨_, rfl, rfl⟩)
  exact ⟨_, h⟩
theorem bk_class_span_2_base : Gx.BdK K d_class_span ["number", "width", "base"] 2 ["base"] (fun us ws => (fun its => us ++ (ws.drop 0).take 1) ([.int (0)] : List V)) := fun fd F => by
  have e : (d_class_span).dvs K = ([.int (0)] : List V) := by rfl
  rw [← e]
  obtain ⟨its, h⟩ := F.kbindsD (ps := ["number", "width", "base"]) 2 ["base"] (fun us its ws => us ++ (ws.drop 0).take 1) (List.cons_ne_nil _ _) (fun r1 r2 r3 => (r1.append ((r3.drop 0).take 1))) (fun _ _ _ _ _ _ _ us its ws h1 h2 h3 => match us, its, ws, h1, h2, h3 with | [_, _], [_], [_], _, _, _ => ⟨_, rfl, rfl⟩)
  exact ⟨_, h⟩
theorem bk_fit_2_least_most : Gx.BdK K d_fit ["hole", "peg", "least", "most"] 2 ["least", "most"] (fun us ws => (fun its => us ++ (ws.drop 0).take 1 ++ (ws.drop 1).take 1) ([.int (0), .non] : List V)) := fun fd F => by
  have e : (d_fit).dvs K = ([.int (0), .non] : List V) := by rfl
  rw [← e]
  obtain ⟨its, h⟩ := F.kbindsD (ps := ["hole", "peg", "least", "most"]) 2 ["least", "most"] (fun us its ws => us ++ (ws.drop 0).take 1 ++ (ws.drop 1).take 1) (List.cons_ne_nil _ _) (fun r1 r2 r3 => ((r1.append ((r3.drop 0).take 1)).append ((r3.drop 1).take 1))) (fun _ _ _ _ _ _ _ us its ws h1 h2 h3 => match us, its, ws, h1, h2, h3 with | [_, _], [_, _], [_, _], _, _, _ => ⟨_, rfl, rfl⟩)
  exact ⟨_, h⟩
theorem bk_widest_0_most_least : Gx.BdK K d_widest ["least", "most"] 0 ["most", "least"] (fun us ws => us ++ (ws.drop 1).take 1 ++ (ws.drop 0).take 1) := fun fd F => ⟨_, Gx.kbN F 0 ["most", "least"] (fun us ws => us ++ (ws.drop 1).take 1 ++ (ws.drop 0).take 1) (fun r1 r3 => ((r1.append ((r3.drop 1).take 1)).append ((r3.drop 0).take 1))) fun _ _ _ _ _ _ us ws h1 h2 => match us, ws, h1, h2 with | [], [_, _], _, _ => rfl⟩
end
section
variable {P : Program} {w : World} {K : PySem.W.Frag} {mg : Str → Option Value} {base : Heap}
theorem sc__law_cell : FnScope ["_law_script", "_law_k"] ["_law_script", "_law_k"] (defScope s__law_cell) := ⟨rfl, rfl, rfl, by decide +kernel, rfl, by decide +kernel, by decide +kernel⟩
theorem ok__law_cell (T : Tx w K mg) : DOk P w K mg base d__law_cell CX0 1 ["_law_script", "_law_k"] (spM K false m__law_cell) := by
  obtain ⟨fd, F⟩ := T.df__law_cell
  exact ⟨fd, F, F.ok sc__law_cell (fun vs H Q E h => spM_len h) (fun cdv A outer s H vs Q E hr h => ⟨_, PSs.nox (pss_cons (ps_if (pt_cmpR op_lt (pv 1) (pe_callB (call_len_seq) (by rfl) T.f_len (by decide +kernel) (pa_cons (pv 0) pa_nil)) (nomark _)) (pss_one (ps_ret (pe_ix ix_list (pv 0) (pv 1) (fun _ _ => rfl)))) pss_nil)
      (pss_one (ps_ret (pe_op op_add (pe_op op_add (pe_op op_mul (pe_callB (x_sum (K := K) rfl rfl) (by rfl) T.f_sum (by decide +kernel) (pa_cons (pe_slice sl_list (pv 0) po_none (po_some pe_int)) pa_nil)) pe_int) (pe_op op_mul pe_int (pe_op op_add (pv 1) pe_int))) pe_int)))), spM_run (n := 2) (N := ["_law_script", "_law_k"]) (sim_seq (sim_ifS (sim_test (sim_op os_lt sim_var (sim_cb cb_len (sim_cons sim_var sim_nil)))) (sim_ret (sim_op os_ixL sim_var sim_var)) sim_next)
      (sim_ret (sim_op os_add (sim_op os_add (sim_op os_mul (sim_cb cb_sum (sim_cons (sim_sl ss_L sim_var sim_noP (sim_part sim_int)) sim_nil)) sim_int) (sim_op os_mul sim_int (sim_op os_add sim_var sim_int))) sim_int))) h⟩)⟩
theorem sc__law_purse : FnScope ["_law_cell_here", "_law_digits"] ["_law_cell_here"] (defScope s__law_purse) := ⟨rfl, rfl, rfl, by decide +kernel, rfl, by decide +kernel, by decide +kernel⟩
theorem ok__law_purse (T : Tx w K mg) : DOk P w K mg base d__law_purse CX0 1 ["_law_cell_here"] (spM K false m__law_purse) := by
  obtain ⟨fd, F⟩ := T.df__law_purse
  exact ⟨fd, F, F.ok sc__law_purse (fun vs H Q E h => spM_len h) (fun cdv A outer s H vs Q E hr h => ⟨_, PSs.nox (pss_cons (ps_set (i := 1) sc__law_purse.nd rfl (Or.inl rfl) pe_int)
      (pss_cons (ps_if (PW.pt (pw_or (pt_cmpR op_lt (pv 0) pe_int (nomark _)) (pw_or1 (pt_cmpR op_ge (pv 0) (pe_op op_pow pe_int pe_int) (nomark _))))) (pss_one (ps_set (i := 1) sc__law_purse.nd rfl (Or.inl rfl) (pe_callB (call_abs) (by rfl) T.f_abs (by decide +kernel) (pa_cons (pv 0) pa_nil)))) pss_nil)
      (pss_one (ps_ret (pe_lst (pa_cons (pe_op op_mod (pv 0) pe_int) (pa_cons (pv 1) (pa_cons pe_int pa_nil)))))))), spM_run (n := 1) (N := ["_law_cell_here", "_law_digits"]) (sim_seq (sim_asg sim_int sim_nm)
      (sim_seq (sim_ifS (sim_or (sim_test (sim_op os_lt sim_var sim_int)) (sim_test (sim_op os_ge sim_var (sim_op os_pow sim_int sim_int)))) (sim_asg (sim_cb cb_abs (sim_cons sim_var sim_nil)) sim_nm) sim_next)
      (sim_ret (sim_lstO (sim_cons (sim_op os_mod sim_var sim_int) (sim_cons sim_var (sim_cons sim_int sim_nil))))))) h⟩)⟩
theorem sc__law_take : FnScope ["_law_purse_here", "_law_many", "_law_old", "_law_taken"] ["_law_purse_here", "_law_many"] (defScope s__law_take) := ⟨rfl, rfl, rfl, by decide +kernel, rfl, by decide +kernel, by decide +kernel⟩
theorem ok__law_take (T : Tx w K mg) : DOk P w K mg base d__law_take CX0 1 ["_law_purse_here", "_law_many"] (spM K false m__law_take) := by
  obtain ⟨fd, F⟩ := T.df__law_take
  exact ⟨fd, F, F.ok sc__law_take (fun vs H Q E h => spM_len h) (fun cdv A outer s H vs Q E hr h => ⟨_, PSs.nox (pss_cons (ps_asg (pe_op op_add (pe_ix ix_list (pv 0) pe_int (fun _ _ => rfl)) pe_int) (pg_sub (pv 0) pe_int set_list))
      (pss_cons (ps_set (i := 2) sc__law_take.nd rfl (Or.inl rfl) (pe_ix ix_list (pv 0) pe_int (fun _ _ => rfl)))
      (pss_cons (ps_asg (pe_op op_mod (pe_op op_add (pe_op op_add (pe_op op_mul (pv 2) (pe_op op_add (pe_op op_mod (pv 2) pe_int) pe_int)) (pe_op op_mul pe_int (pe_ix ix_list (pv 0) pe_int (fun _ _ => rfl)))) pe_int) pe_int) (pg_sub (pv 0) pe_int set_list))
      (pss_cons (ps_if (pt_cmpR op_gt (pe_ix ix_list (pv 0) pe_int (fun _ _ => rfl)) pe_int (nomark _)) (pss_cons (ps_set (i := 3) sc__law_take.nd rfl (Or.inl rfl) (pe_op op_mod (pe_ix ix_list (pv 0) pe_int (fun _ _ => rfl)) (pv 1)))
      (pss_cons (ps_asg (pe_op op_fdiv (pe_ix ix_list (pv 0) pe_int (fun _ _ => rfl)) (pv 1)) (pg_sub (pv 0) pe_int set_list))
      (pss_one (ps_ret (pv 3))))) pss_nil)
      (pss_one (ps_ret (pe_op op_mod (pe_op op_fdiv (pe_ix ix_list (pv 0) pe_int (fun _ _ => rfl)) pe_int) (pv 1)))))))), spM_run (n := 2) (N := ["_law_purse_here", "_law_many", "_law_old", "_law_taken"]) (sim_seq (sim_asg (sim_op os_add (sim_op os_ixL sim_var sim_int) sim_int) (sim_gSubL sim_var sim_int))
      (sim_seq (sim_asg (sim_op os_ixL sim_var sim_int) sim_nm)
      (sim_seq (sim_asg (sim_op os_mod (sim_op os_add (sim_op os_add (sim_op os_mul sim_var (sim_op os_add (sim_op os_mod sim_var sim_int) sim_int)) (sim_op os_mul sim_int (sim_op os_ixL sim_var sim_int))) sim_int) sim_int) (sim_gSubL sim_var sim_int))
      (sim_seq (sim_ifS (sim_test (sim_op os_gt (sim_op os_ixL sim_var sim_int) sim_int)) (sim_seq (sim_asg (sim_op os_mod (sim_op os_ixL sim_var sim_int) sim_var) sim_nm)
      (sim_seq (sim_asg (sim_op os_fdiv (sim_op os_ixL sim_var sim_int) sim_var) (sim_gSubL sim_var sim_int))
      (sim_ret sim_var))) sim_next)
      (sim_ret (sim_op os_mod (sim_op os_fdiv (sim_op os_ixL sim_var sim_int) sim_int) sim_var)))))) h⟩)⟩
theorem sc__law_some : FnScope ["_law_purse_here", "_law_many", "_law_size", "_law_turn"] ["_law_purse_here", "_law_many", "_law_size"] (defScope s__law_some) := ⟨rfl, rfl, rfl, by decide +kernel, rfl, by decide +kernel, by decide +kernel⟩
theorem ok__law_some (T : Tx w K mg) : DOk P w K mg base d__law_some CX0 2 ["_law_purse_here", "_law_many", "_law_size"] (spM K false m__law_some) := by
  have o__law_take := ok__law_take (P := P) (w := w) (base := base) T
  obtain ⟨fd, F⟩ := T.df__law_some
  exact ⟨fd, F, F.ok sc__law_some (fun vs H Q E h => spM_len h) (fun cdv A outer s H vs Q E hr h => ⟨_, PSs.nox (pss_one (ps_ret (pe_lc (own := [("_law_turn", 3)]) (g := gName 3) (tt := tYes) rfl sc__law_some.nd (pi_range1 (by rfl) T.f_range (pa_cons (pc o__law_take T.g__law_take b__law_take hr (by decide) (pa_cons (pv 0) (pa_cons (pe_op op_add (pv 1) pe_int) pa_nil))) pa_nil)) (blkOk_by (N := ["_law_purse_here", "_law_many", "_law_size", "_law_turn"]) (sc := defScope s__law_some) (own := [("_law_turn", 3)]) (by decide +kernel)) (fun _ _ _ _ _ => (pg_name (i := 3) sc__law_some.nd rfl (Or.inl rfl))) (fun _ _ _ _ _ => pts_nil) (fun _ _ _ _ _ => (pe_op op_sub (pc o__law_take T.g__law_take b__law_take hr (by decide) (pa_cons (pv 0) (pa_cons (pe_op op_add (pe_op op_mul pe_int (pv 2)) pe_int) pa_nil))) (pv 2)))))), spM_run (n := 3) (N := ["_law_purse_here", "_law_many", "_law_size", "_law_turn"]) (sim_ret (sim_lc (gw_nm (by decide)) mg_nm (sim_iR1 (sim_cons (sim_call (sim_cons sim_var (sim_cons (sim_op os_add sim_var sim_int) sim_nil)) (fun _ _ => RepL.nilR)) sim_nil)) g0_nm sim_yesP (sim_op os_sub (sim_call (sim_cons sim_var (sim_cons (sim_op os_add (sim_op os_mul sim_int sim_var) sim_int) sim_nil)) (fun _ _ => RepL.nilR)) sim_var))) h⟩)⟩
theorem sc_Tray___init__ : FnScope ["self"] ["self"] (defScope s_Tray___init__) := ⟨rfl, rfl, rfl, by decide +kernel, rfl, by decide +kernel, by decide +kernel⟩
theorem ok_Tray___init__ (T : Tx w K mg) : DOk P w K mg base d_Tray___init__ CX0 1 ["self"] (spM K false m_Tray___init__) := by
  obtain ⟨fd, F⟩ := T.df_Tray___init__
  exact ⟨fd, F, F.ok sc_Tray___init__ (fun vs H Q E h => spM_len h) (fun cdv A outer s H vs Q E hr h => ⟨_, PSs.nox (pss_one (ps_fld (pv 0) (pe_lst pa_nil) rfl)), spM_run (n := 1) (N := ["self"]) (sim_fldS T.cls_Tray T.no_Tray_kept (sim_lstO sim_nil) sim_var) h⟩)⟩
theorem sc_is_measure : FnScope ["thing"] ["thing"] (defScope s_is_measure) := ⟨rfl, rfl, rfl, by decide +kernel, rfl, by decide +kernel, by decide +kernel⟩
theorem ok_is_measure (T : Tx w K mg) : DOk P w K mg base d_is_measure CX0 1 ["thing"] (spM K false m_is_measure) := by
  obtain ⟨fd, F⟩ := T.df_is_measure
  exact ⟨fd, F, F.ok sc_is_measure (fun vs H Q E h => spM_len h) (fun cdv A outer s H vs Q E hr h => ⟨_, PSs.nox (pss_one (ps_ret (pe_and (pe_callB (x_isi (K := K) rfl) (by rfl) T.f_isinstance (by decide +kernel) (pa_cons (pv 0) (pa_cons (pe_bltn (v := .ty "int") (u := .type "int") (by rfl) T.f_int (by decide +kernel) rfl) pa_nil))) (pe_one (pe_not (pe_callB (x_isi (K := K) rfl) (by rfl) T.f_isinstance (by decide +kernel) (pa_cons (pv 0) (pa_cons (pe_bltn (v := .ty "bool") (u := .type "bool") (by rfl) T.f_bool (by decide +kernel) rfl) pa_nil)))))))), spM_run (n := 1) (N := ["thing"]) (sim_ret (sim_andV (sim_cb (cb_isi T.clsK) (sim_cons sim_var (sim_cons sim_ty sim_nil))) (sim_notV (sim_cb (cb_isi T.clsK) (sim_cons sim_var (sim_cons sim_ty sim_nil)))))) h⟩)⟩
theorem sc_check_measure : FnScope ["thing"] ["thing"] (defScope s_check_measure) := ⟨rfl, rfl, rfl, by decide +kernel, rfl, by decide +kernel, by decide +kernel⟩
theorem ok_check_measure (T : Tx w K mg) : DOk P w K mg base d_check_measure CX0 2 ["thing"] (spM K false m_check_measure) := by
  have o_is_measure := ok_is_measure (P := P) (w := w) (base := base) T
  obtain ⟨fd, F⟩ := T.df_check_measure
  exact ⟨fd, F, F.ok sc_check_measure (fun vs H Q E h => spM_len h) (fun cdv A outer s H vs Q E hr h => ⟨_, PSs.nox (pss_one (ps_if (pt_not (pt_val (pc o_is_measure T.g_is_measure b_is_measure hr (by decide) (pa_cons (pv 0) pa_nil)))) (pss_one ps_never) pss_nil)), spM_run (n := 1) (N := ["thing"]) (sim_ifS (sim_not (sim_B (sim_call (sim_cons sim_var sim_nil) (fun _ _ => RepL.nilR)))) sim_bad sim_next) h⟩)⟩
theorem sc_Tray_put : FnScope ["self", "measure"] ["self", "measure"] (defScope s_Tray_put) := ⟨rfl, rfl, rfl, by decide +kernel, rfl, by decide +kernel, by decide +kernel⟩
theorem ok_Tray_put (T : Tx w K mg) : DOk P w K mg base d_Tray_put CX0 3 ["self", "measure"] (spM K false m_Tray_put) := by
  have o_check_measure := ok_check_measure (P := P) (w := w) (base := base) T
  obtain ⟨fd, F⟩ := T.df_Tray_put
  exact ⟨fd, F, F.ok sc_Tray_put (fun vs H Q E h => spM_len h) (fun cdv A outer s H vs Q E hr h => ⟨_, PSs.nox (pss_cons (ps_expr (pc o_check_measure T.g_check_measure b_check_measure hr (by decide) (pa_cons (pv 1) pa_nil)))
      (pss_cons (ps_expr (pe_bm PySem.F.plainAttrs_list PySem.F.slot_list_append PySem.F.type_list_append mt_append (pe_fld (pv 0) rfl) (pa_cons (pv 1) pa_nil)))
      (pss_one (ps_ret (pe_op op_sub (pe_callB (call_len_seq) (by rfl) T.f_len (by decide +kernel) (pa_cons (pe_fld (pv 0) rfl) pa_nil)) pe_int))))), spM_run (n := 2) (N := ["self", "measure"]) (sim_seq (sim_exp (sim_call (sim_cons sim_var sim_nil) (fun _ _ => RepL.nilR)))
      (sim_seq (sim_exp (sim_bml ml_append (sim_fld T.cls_Tray T.no_Tray_kept sim_var) (sim_cons sim_var sim_nil)))
      (sim_ret (sim_op os_sub (sim_cb cb_len (sim_cons (sim_fld T.cls_Tray T.no_Tray_kept sim_var) sim_nil)) sim_int)))) h⟩)⟩
theorem sc__law_tray : FnScope ["_law_pieces", "_law_tray_here", "_law_reach"] ["_law_pieces"] (defScope s__law_tray) := ⟨rfl, rfl, rfl, by decide +kernel, rfl, by decide +kernel, by decide +kernel⟩
theorem ok__law_tray (T : Tx w K mg) : DOk P w K mg base d__law_tray CX0 4 ["_law_pieces"] (spM K false m__law_tray) := by
  have o_Tray___init__ := ok_Tray___init__ (P := P) (w := w) (base := base) T
  have o_Tray_put := ok_Tray_put (P := P) (w := w) (base := base) T
  obtain ⟨fd, F⟩ := T.df__law_tray
  exact ⟨fd, F, F.ok sc__law_tray (fun vs H Q E h => spM_len h) (fun cdv A outer s H vs Q E hr h => ⟨_, PSs.nox (pss_cons (ps_set (i := 1) sc__law_tray.nd rfl (Or.inl rfl) (pmk0 o_Tray___init__ T.mkr_Tray T.g_Tray bd_Tray___init___1 hr (by decide)))
      (pss_cons (ps_for PassesOwn.never rfl (pi_list (pv 0)) (pg_name (i := 2) sc__law_tray.nd rfl (Or.inl rfl))
      (pss_one (ps_expr (pm o_Tray_put T.cls_Tray T.mt_Tray_put b_Tray_put hr (by decide) (pv 1) (pa_cons (pv 2) pa_nil)))))
      (pss_one (ps_ret (pv 1))))), spM_run (n := 1) (N := ["_law_pieces", "_law_tray_here", "_law_reach"]) (sim_seq (sim_asg (sim_makeO sim_nil (fun _ _ => RepL.nilR)) sim_nm)
      (sim_seq (sim_for (sim_iL sim_var) (sim_g0 g0_nm) (sim_exp (sim_meth sim_var (sim_cons sim_var sim_nil) (fun _ _ => RepL.nilR))))
      (sim_ret sim_var))) h⟩)⟩
theorem sc__law_limits : FnScope ["_law_purse_here", "_law_size", "_law_floor", "_law_roof"] ["_law_purse_here", "_law_size"] (defScope s__law_limits) := ⟨rfl, rfl, rfl, by decide +kernel, rfl, by decide +kernel, by decide +kernel⟩
theorem ok__law_limits (T : Tx w K mg) : DOk P w K mg base d__law_limits CX0 2 ["_law_purse_here", "_law_size"] (spM K false m__law_limits) := by
  have o__law_take := ok__law_take (P := P) (w := w) (base := base) T
  obtain ⟨fd, F⟩ := T.df__law_limits
  exact ⟨fd, F, F.ok sc__law_limits (fun vs H Q E h => spM_len h) (fun cdv A outer s H vs Q E hr h => ⟨_, PSs.nox (pss_cons (ps_set (i := 2) sc__law_limits.nd rfl (Or.inl rfl) (pe_op op_sub (pc o__law_take T.g__law_take b__law_take hr (by decide) (pa_cons (pv 0) (pa_cons (pe_op op_add (pe_op op_mul pe_int (pv 1)) pe_int) pa_nil))) (pv 1)))
      (pss_cons (ps_set (i := 3) sc__law_limits.nd rfl (Or.inl rfl) (pe_op op_add (pv 2) (pe_ix ix_list (pe_lst (pa_cons pe_int (pa_cons (pc o__law_take T.g__law_take b__law_take hr (by decide) (pa_cons (pv 0) (pa_cons pe_int pa_nil))) (pa_cons (pc o__law_take T.g__law_take b__law_take hr (by decide) (pa_cons (pv 0) (pa_cons (pe_op op_add (pv 1) pe_int) pa_nil))) pa_nil)))) (pc o__law_take T.g__law_take b__law_take hr (by decide) (pa_cons (pv 0) (pa_cons pe_int pa_nil))) (fun _ _ => rfl))))
      (pss_one (ps_ret (pe_tup (pa_cons (pv 2) (pa_cons (pe_ix ix_list (pe_lst (pa_cons (pv 3) (pa_cons (pv 3) (pa_cons pe_non pa_nil)))) (pc o__law_take T.g__law_take b__law_take hr (by decide) (pa_cons (pv 0) (pa_cons pe_int pa_nil))) (fun _ _ => rfl)) pa_nil))))))), spM_run (n := 2) (N := ["_law_purse_here", "_law_size", "_law_floor", "_law_roof"]) (sim_seq (sim_asg (sim_op os_sub (sim_call (sim_cons sim_var (sim_cons (sim_op os_add (sim_op os_mul sim_int sim_var) sim_int) sim_nil)) (fun _ _ => RepL.nilR)) sim_var) sim_nm)
      (sim_seq (sim_asg (sim_op os_add sim_var (sim_op os_ixL (sim_lst (sim_cons sim_int (sim_cons (sim_call (sim_cons sim_var (sim_cons sim_int sim_nil)) (fun _ _ => RepL.nilR)) (sim_cons (sim_call (sim_cons sim_var (sim_cons (sim_op os_add sim_var sim_int) sim_nil)) (fun _ _ => RepL.nilR)) sim_nil)))) (sim_call (sim_cons sim_var (sim_cons sim_int sim_nil)) (fun _ _ => RepL.nilR)))) sim_nm)
      (sim_ret (sim_tup (sim_cons sim_var (sim_cons (sim_op os_ixL (sim_lst (sim_cons sim_var (sim_cons sim_var (sim_cons sim_non sim_nil)))) (sim_call (sim_cons sim_var (sim_cons sim_int sim_nil)) (fun _ _ => RepL.nilR))) sim_nil)))))) h⟩)⟩
theorem sc__law_word : FnScope ["_law_low", "_law_high", "_law_floor", "_law_roof"] ["_law_low", "_law_high", "_law_floor", "_law_roof"] (defScope s__law_word) := ⟨rfl, rfl, rfl, by decide +kernel, rfl, by decide +kernel, by decide +kernel⟩
theorem ok__law_word (T : Tx w K mg) : DOk P w K mg base d__law_word CX0 1 ["_law_low", "_law_high", "_law_floor", "_law_roof"] (spM K false m__law_word) := by
  obtain ⟨fd, F⟩ := T.df__law_word
  exact ⟨fd, F, F.ok sc__law_word (fun vs H Q E h => spM_len h) (fun cdv A outer s H vs Q E hr h => ⟨_, PSs.nox (pss_cons (ps_if (PW.pt (pw_and (pt_cmpR op_ge (pv 0) (pv 2) (nomark _)) (pw_and1 (PW.pt (pw_or (pt_cmpR op_isN (pv 3) pe_non (nomark _)) (pw_or1 (pt_cmpR op_le (pv 1) (pv 3) (nomark _)))))))) (pss_one (ps_ret pe_str)) pss_nil)
      (pss_one (ps_ret (pe_ix ix_list (pe_lst (pa_cons pe_str (pa_cons pe_str pa_nil))) (pe_callTy (call_int1) (by rfl) T.f_int (by decide +kernel) (pa_cons (pe_or (pe_cmpR op_lt (pv 1) (pv 2) (nomark _)) (pe_one (pe_and (pe_cmpR op_notN (pv 3) pe_non (nomark _)) (pe_one (pe_cmpR op_gt (pv 0) (pv 3) (nomark _)))))) pa_nil)) (fun _ _ => rfl))))), spM_run (n := 4) (N := ["_law_low", "_law_high", "_law_floor", "_law_roof"]) (sim_seq (sim_ifS (sim_and (sim_test (sim_op os_ge sim_var sim_var)) (sim_or (sim_test (sim_op os_isN sim_var sim_non)) (sim_test (sim_op os_le sim_var sim_var)))) (sim_ret sim_str) sim_next)
      (sim_ret (sim_op os_ixL (sim_lst (sim_cons sim_str (sim_cons sim_str sim_nil))) (sim_cb cb_int (sim_cons (sim_orV (sim_op os_lt sim_var sim_var) (sim_andV (sim_op os_notN sim_var sim_non) (sim_op os_gt sim_var sim_var))) sim_nil))))) h⟩)⟩
theorem sc__law_goes : FnScope ["_law_gap", "_law_floor", "_law_roof"] ["_law_gap", "_law_floor", "_law_roof"] (defScope s__law_goes) := ⟨rfl, rfl, rfl, by decide +kernel, rfl, by decide +kernel, by decide +kernel⟩
theorem ok__law_goes (T : Tx w K mg) : DOk P w K mg base d__law_goes CX0 1 ["_law_gap", "_law_floor", "_law_roof"] (spM K false m__law_goes) := by
  obtain ⟨fd, F⟩ := T.df__law_goes
  exact ⟨fd, F, F.ok sc__law_goes (fun vs H Q E h => spM_len h) (fun cdv A outer s H vs Q E hr h => ⟨_, PSs.nox (pss_one (ps_ret (pe_and (pe_cmpR op_le (pv 1) (pv 0) (nomark _)) (pe_one (pe_or (pe_cmpR op_isN (pv 2) pe_non (nomark _)) (pe_one (pe_cmpR op_le (pv 0) (pv 2) (nomark _)))))))), spM_run (n := 3) (N := ["_law_gap", "_law_floor", "_law_roof"]) (sim_ret (sim_andV (sim_op os_le sim_var sim_var) (sim_orV (sim_op os_isN sim_var sim_non) (sim_op os_le sim_var sim_var)))) h⟩)⟩
theorem sc__law_word_by_all : FnScope ["_law_gaps", "_law_floor", "_law_roof", "_law_some_here", "_law_gap"] ["_law_gaps", "_law_floor", "_law_roof"] (defScope s__law_word_by_all) := ⟨rfl, rfl, rfl, by decide +kernel, rfl, by decide +kernel, by decide +kernel⟩
theorem ok__law_word_by_all (T : Tx w K mg) : DOk P w K mg base d__law_word_by_all CX0 2 ["_law_gaps", "_law_floor", "_law_roof"] (spM K false m__law_word_by_all) := by
  have o__law_goes := ok__law_goes (P := P) (w := w) (base := base) T
  obtain ⟨fd, F⟩ := T.df__law_word_by_all
  exact ⟨fd, F, F.ok sc__law_word_by_all (fun vs H Q E h => spM_len h) (fun cdv A outer s H vs Q E hr h => ⟨_, PSs.nox (pss_cons (ps_setLc (i := 3) (own := [("_law_gap", 4)]) (g := gName 4) (tt := tYes) rfl sc__law_word_by_all.nd rfl rfl (sw_true rfl rfl rfl (by decide +kernel)) (pi_list (pv 0)) (blkOk_by (N := ["_law_gaps", "_law_floor", "_law_roof", "_law_some_here", "_law_gap"]) (sc := defScope s__law_word_by_all) (own := [("_law_gap", 4)]) (by decide +kernel)) (fun _ _ _ _ _ => (pg_name (i := 4) sc__law_word_by_all.nd rfl (Or.inl rfl))) (fun _ _ _ _ _ => pts_nil) (fun _ _ _ _ _ => (pc o__law_goes T.g__law_goes b__law_goes hr (by decide) (pa_cons (pv 4) (pa_cons (pv 1) (pa_cons (pv 2) pa_nil))))))
      (pss_one (ps_ret (pe_ix ix_list (pe_lst (pa_cons pe_str (pa_cons pe_str (pa_cons pe_str pa_nil)))) (pe_op op_add (pe_callTy (call_int1) (by rfl) T.f_int (by decide +kernel) (pa_cons (pe_callB (x_any (K := K) rfl rfl) (by rfl) T.f_any (by decide +kernel) (pa_cons (pv 3) pa_nil)) pa_nil)) (pe_callTy (call_int1) (by rfl) T.f_int (by decide +kernel) (pa_cons (pe_callB (x_all (K := K) rfl rfl) (by rfl) T.f_all (by decide +kernel) (pa_cons (pv 3) pa_nil)) pa_nil))) (fun _ _ => rfl))))), spM_run (n := 3) (N := ["_law_gaps", "_law_floor", "_law_roof", "_law_some_here", "_law_gap"]) (sim_seq (sim_asg (sim_lc (gw_nm (by decide)) mg_nm (sim_iL sim_var) g0_nm sim_yesP (sim_call (sim_cons sim_var (sim_cons sim_var (sim_cons sim_var sim_nil))) (fun _ _ => RepL.nilR))) sim_nm)
      (sim_ret (sim_op os_ixL (sim_lst (sim_cons sim_str (sim_cons sim_str (sim_cons sim_str sim_nil)))) (sim_op os_add (sim_cb cb_int (sim_cons (sim_cb cb_any (sim_cons sim_var sim_nil)) sim_nil)) (sim_cb cb_int (sim_cons (sim_cb cb_all (sim_cons sim_var sim_nil)) sim_nil)))))) h⟩)⟩
theorem sc__law_due : FnScope ["_law_outers", "_law_inners", "_law_wide", "_law_limits_here", "_law_root", "_law_rows", "_law_one", "_law_other", "_law_low", "_law_word_here", "_law_gaps", "_law_reach", "_law_k"] ["_law_outers", "_law_inners", "_law_wide", "_law_limits_here", "_law_root"] (defScope s__law_due) := ⟨rfl, rfl, rfl, by decide +kernel, rfl, by decide +kernel, by decide +kernel⟩
theorem ok__law_due (T : Tx w K mg) : DOk P w K mg base d__law_due CX0 3 ["_law_outers", "_law_inners", "_law_wide", "_law_limits_here", "_law_root"] (spM K false m__law_due) := by
  have o__law_word := ok__law_word (P := P) (w := w) (base := base) T
  have o__law_word_by_all := ok__law_word_by_all (P := P) (w := w) (base := base) T
  obtain ⟨fd, F⟩ := T.df__law_due
  exact ⟨fd, F, F.ok sc__law_due (fun vs H Q E h => spM_len h) (fun cdv A outer s H vs Q E hr h => ⟨_, PSs.nox (pss_cons (ps_set (i := 5) sc__law_due.nd rfl (Or.inl rfl) (pe_lst pa_nil))
      (pss_cons (ps_for PassesOwn.never rfl (pi_list (pe_callB (x_sortedSet (w := w) rfl rfl) (by rfl) T.f_sorted (by decide +kernel) (pa_cons (pe_callTy (x_setI (K := K) (w := w) rfl rfl rfl) (by rfl) T.f_set (by decide +kernel) (pa_cons (pe_lc (own := [("_law_reach", 11)]) (g := gName 11) (tt := tYes) rfl sc__law_due.nd (pi_list (pv 0)) (blkOk_by (N := ["_law_outers", "_law_inners", "_law_wide", "_law_limits_here", "_law_root", "_law_rows", "_law_one", "_law_other", "_law_low", "_law_word_here", "_law_gaps", "_law_reach", "_law_k"]) (sc := defScope s__law_due) (own := [("_law_reach", 11)]) (by decide +kernel)) (fun _ _ _ _ _ => (pg_name (i := 11) sc__law_due.nd rfl (Or.inl rfl))) (fun _ _ _ _ _ => pts_nil) (fun _ _ _ _ _ => (pe_op op_fdiv (pe_op op_sub (pv 11) (pv 4)) (pv 2)))) pa_nil)) pa_nil))) (pg_name (i := 6) sc__law_due.nd rfl (Or.inl rfl))
      (pss_one (ps_for PassesOwn.never rfl (pi_list (pe_callB (x_sortedSet (w := w) rfl rfl) (by rfl) T.f_sorted (by decide +kernel) (pa_cons (pe_callTy (x_setI (K := K) (w := w) rfl rfl rfl) (by rfl) T.f_set (by decide +kernel) (pa_cons (pe_lc (own := [("_law_reach", 11)]) (g := gName 11) (tt := tYes) rfl sc__law_due.nd (pi_list (pv 1)) (blkOk_by (N := ["_law_outers", "_law_inners", "_law_wide", "_law_limits_here", "_law_root", "_law_rows", "_law_one", "_law_other", "_law_low", "_law_word_here", "_law_gaps", "_law_reach", "_law_k"]) (sc := defScope s__law_due) (own := [("_law_reach", 11)]) (by decide +kernel)) (fun _ _ _ _ _ => (pg_name (i := 11) sc__law_due.nd rfl (Or.inl rfl))) (fun _ _ _ _ _ => pts_nil) (fun _ _ _ _ _ => (pe_op op_fdiv (pe_op op_sub (pv 11) (pv 4)) (pv 2)))) pa_nil)) pa_nil))) (pg_name (i := 7) sc__law_due.nd rfl (Or.inl rfl))
      (pss_cons (ps_set (i := 8) sc__law_due.nd rfl (Or.inr rfl) (pe_op op_sub (pe_op op_mul (pe_op op_sub (pv 6) (pv 7)) (pv 2)) (pe_op op_sub (pv 2) pe_int)))
      (pss_cons (ps_set (i := 9) sc__law_due.nd rfl (Or.inl rfl) (pc o__law_word T.g__law_word b__law_word hr (by decide) (pa_cons (pv 8) (pa_cons (pe_op op_add (pv 8) (pe_op op_mul pe_int (pe_op op_sub (pv 2) pe_int))) (pa_cons (pe_ix ix_tup (pv 3) pe_int (fun _ _ => rfl)) (pa_cons (pe_ix ix_tup (pv 3) pe_int (fun _ _ => rfl)) pa_nil))))))
      (pss_cons (ps_if (pt_cmpR op_lt (pv 2) pe_int (nomark _)) (pss_cons (ps_setLc (i := 10) (own := [("_law_k", 12)]) (g := gName 12) (tt := tYes) rfl sc__law_due.nd rfl rfl (sw_true rfl rfl rfl (by decide +kernel)) (pi_range1 (by rfl) T.f_range (pa_cons (pe_op op_sub (pe_op op_mul pe_int (pv 2)) pe_int) pa_nil)) (blkOk_by (N := ["_law_outers", "_law_inners", "_law_wide", "_law_limits_here", "_law_root", "_law_rows", "_law_one", "_law_other", "_law_low", "_law_word_here", "_law_gaps", "_law_reach", "_law_k"]) (sc := defScope s__law_due) (own := [("_law_k", 12)]) (by decide +kernel)) (fun _ _ _ _ _ => (pg_name (i := 12) sc__law_due.nd rfl (Or.inl rfl))) (fun _ _ _ _ _ => pts_nil) (fun _ _ _ _ _ => (pe_op op_add (pv 8) (pv 12))))
      (pss_one (ps_if (pt_cmpR op_ne (pv 9) (pc o__law_word_by_all T.g__law_word_by_all b__law_word_by_all hr (by decide) (pa_cons (pv 10) (pa_cons (pe_ix ix_tup (pv 3) pe_int (fun _ _ => rfl)) (pa_cons (pe_ix ix_tup (pv 3) pe_int (fun _ _ => rfl)) pa_nil)))) (nomark _)) (pss_one (ps_ret pe_non)) pss_nil))) pss_nil)
      (pss_one (ps_if (pt_cmpR op_ne (pv 9) pe_str (nomark _)) (pss_one (ps_expr (pe_bm PySem.F.plainAttrs_list PySem.F.slot_list_append PySem.F.type_list_append mt_append (pv 5) (pa_cons (pe_tup (pa_cons (pv 6) (pa_cons (pv 7) (pa_cons (pv 9) pa_nil)))) pa_nil)))) pss_nil))))))))
      (pss_one (ps_ret (pe_callTy (x_tup (K := K) rfl) (by rfl) T.f_tuple (by decide +kernel) (pa_cons (pv 5) pa_nil)))))), spM_run (n := 5) (N := ["_law_outers", "_law_inners", "_law_wide", "_law_limits_here", "_law_root", "_law_rows", "_law_one", "_law_other", "_law_low", "_law_word_here", "_law_gaps", "_law_reach", "_law_k"]) (sim_seq (sim_asg (sim_lstO sim_nil) sim_nm)
      (sim_seq (sim_for (sim_iL (sim_sortSet (sim_lc (gw_nm (by decide)) mg_nm (sim_iL sim_var) g0_nm sim_yesP (sim_op os_fdiv (sim_op os_sub sim_var sim_var) sim_var)))) (sim_g0 g0_nm) (sim_for (sim_iL (sim_sortSet (sim_lc (gw_nm (by decide)) mg_nm (sim_iL sim_var) g0_nm sim_yesP (sim_op os_fdiv (sim_op os_sub sim_var sim_var) sim_var)))) (sim_g0 g0_nm) (sim_seq (sim_asg (sim_op os_sub (sim_op os_mul (sim_op os_sub sim_var sim_var) sim_var) (sim_op os_sub sim_var sim_int)) sim_nm)
      (sim_seq (sim_asg (sim_call (sim_cons sim_var (sim_cons (sim_op os_add sim_var (sim_op os_mul sim_int (sim_op os_sub sim_var sim_int))) (sim_cons (sim_op os_ixT sim_var sim_int) (sim_cons (sim_op os_ixT sim_var sim_int) sim_nil)))) (fun _ _ => RepL.nilR)) sim_nm)
      (sim_seq (sim_ifS (sim_test (sim_op os_lt sim_var sim_int)) (sim_seq (sim_asg (sim_lc (gw_nm (by decide)) mg_nm (sim_iR1 (sim_cons (sim_op os_sub (sim_op os_mul sim_int sim_var) sim_int) sim_nil)) g0_nm sim_yesP (sim_op os_add sim_var sim_var)) sim_nm)
      (sim_ifS (sim_test (sim_op os_neS sim_var (sim_call (sim_cons sim_var (sim_cons (sim_op os_ixT sim_var sim_int) (sim_cons (sim_op os_ixT sim_var sim_int) sim_nil))) (fun _ _ => RepL.nilR)))) (sim_ret sim_non) sim_next)) sim_next)
      (sim_ifS (sim_test (sim_op os_neS sim_var sim_str)) (sim_exp (sim_bml ml_append sim_var (sim_cons (sim_tup (sim_cons sim_var (sim_cons sim_var (sim_cons sim_var sim_nil)))) sim_nil))) sim_next))))))
      (sim_ret (sim_cb cb_tup (sim_cons sim_var sim_nil))))) h⟩)⟩
theorem sc_check_tray : FnScope ["thing"] ["thing"] (defScope s_check_tray) := ⟨rfl, rfl, rfl, by decide +kernel, rfl, by decide +kernel, by decide +kernel⟩
theorem ok_check_tray (T : Tx w K mg) : DOk P w K mg base d_check_tray CX0 1 ["thing"] (spM K false m_check_tray) := by
  obtain ⟨fd, F⟩ := T.df_check_tray
  exact ⟨fd, F, F.ok sc_check_tray (fun vs H Q E h => spM_len h) (fun cdv A outer s H vs Q E hr h => ⟨_, PSs.nox (pss_one (ps_if (pt_not (pt_val (pe_callB (x_isi (K := K) rfl) (by rfl) T.f_isinstance (by decide +kernel) (pa_cons (pv 0) (pa_cons (pe_glob (v := .ref (He.ga K "Tray")) rfl T.g_Tray rfl) pa_nil))))) (pss_one ps_never) pss_nil)), spM_run (n := 1) (N := ["thing"]) (sim_ifS (sim_not (sim_B (sim_cb (cb_isi T.clsK) (sim_cons sim_var (sim_cons sim_cls sim_nil))))) sim_bad sim_next) h⟩)⟩
theorem sc_check_width : FnScope ["thing"] ["thing"] (defScope s_check_width) := ⟨rfl, rfl, rfl, by decide +kernel, rfl, by decide +kernel, by decide +kernel⟩
theorem ok_check_width (T : Tx w K mg) : DOk P w K mg base d_check_width CX0 2 ["thing"] (spM K false m_check_width) := by
  have o_is_measure := ok_is_measure (P := P) (w := w) (base := base) T
  obtain ⟨fd, F⟩ := T.df_check_width
  exact ⟨fd, F, F.ok sc_check_width (fun vs H Q E h => spM_len h) (fun cdv A outer s H vs Q E hr h => ⟨_, PSs.nox (pss_one (ps_if (PW.pt (pw_or (pt_not (pt_val (pc o_is_measure T.g_is_measure b_is_measure hr (by decide) (pa_cons (pv 0) pa_nil)))) (pw_or1 (pt_cmpR op_lt (pv 0) pe_int (nomark _))))) (pss_one ps_never) pss_nil)), spM_run (n := 1) (N := ["thing"]) (sim_ifS (sim_or (sim_not (sim_B (sim_call (sim_cons sim_var sim_nil) (fun _ _ => RepL.nilR)))) (sim_test (sim_op os_lt sim_var sim_int))) sim_bad sim_next) h⟩)⟩
theorem sc_check_limits : FnScope ["least", "most", "endless"] ["least", "most", "endless"] (defScope s_check_limits) := ⟨rfl, rfl, rfl, by decide +kernel, rfl, by decide +kernel, by decide +kernel⟩
theorem ok_check_limits (T : Tx w K mg) : DOk P w K mg base d_check_limits CX0 2 ["least", "most", "endless"] (spM K false m_check_limits) := by
  have o_is_measure := ok_is_measure (P := P) (w := w) (base := base) T
  obtain ⟨fd, F⟩ := T.df_check_limits
  exact ⟨fd, F, F.ok sc_check_limits (fun vs H Q E h => spM_len h) (fun cdv A outer s H vs Q E hr h => ⟨_, PSs.nox (pss_cons (ps_if (pt_not (pt_val (pc o_is_measure T.g_is_measure b_is_measure hr (by decide) (pa_cons (pv 0) pa_nil)))) (pss_one ps_never) pss_nil)
      (pss_cons (ps_if (PW.pt (pw_and (pt_cmpR op_isN (pv 1) pe_non (nomark _)) (pw_and1 (pt_val (pv 2))))) (pss_one ps_retN) pss_nil)
      (pss_one (ps_if (PW.pt (pw_or (pt_not (pt_val (pc o_is_measure T.g_is_measure b_is_measure hr (by decide) (pa_cons (pv 1) pa_nil)))) (pw_or1 (pt_cmpR op_lt (pv 1) (pv 0) (nomark _))))) (pss_one ps_never) pss_nil)))), spM_run (n := 3) (N := ["least", "most", "endless"]) (sim_seq (sim_ifS (sim_not (sim_B (sim_call (sim_cons sim_var sim_nil) (fun _ _ => RepL.nilR)))) sim_bad sim_next)
      (sim_seq (sim_ifS (sim_and (sim_test (sim_op os_isN sim_var sim_non)) (sim_B sim_var)) sim_retN sim_next)
      (sim_ifS (sim_or (sim_not (sim_B (sim_call (sim_cons sim_var sim_nil) (fun _ _ => RepL.nilR)))) (sim_test (sim_op os_lt sim_var sim_var))) sim_bad sim_next))) h⟩)⟩
theorem sc_class_of : FnScope ["measure", "width", "base"] ["measure", "width", "base"] (defScope s_class_of) := ⟨rfl, rfl, rfl, by decide +kernel, rfl, by decide +kernel, by decide +kernel⟩
theorem ok_class_of (T : Tx w K mg) : DOk P w K mg base d_class_of CX0 1 ["measure", "width", "base"] (spM K false m_class_of) := by
  obtain ⟨fd, F⟩ := T.df_class_of
  exact ⟨fd, F, F.ok sc_class_of (fun vs H Q E h => spM_len h) (fun cdv A outer s H vs Q E hr h => ⟨_, PSs.nox (pss_one (ps_ret (pe_op op_fdiv (pe_op op_sub (pv 0) (pv 2)) (pv 1)))), spM_run (n := 3) (N := ["measure", "width", "base"]) (sim_ret (sim_op os_fdiv (sim_op os_sub sim_var sim_var) sim_var)) h⟩)⟩
theorem sc_Tray_classes : FnScope ["self", "width", "base", "found", "number", "measure", "one"] ["self", "width", "base"] (defScope s_Tray_classes) := ⟨rfl, rfl, rfl, by decide +kernel, rfl, by decide +kernel, by decide +kernel⟩
theorem ok_Tray_classes (T : Tx w K mg) : DOk P w K mg base d_Tray_classes CX0 3 ["self", "width", "base"] (spM K false m_Tray_classes) := by
  have o_check_width := ok_check_width (P := P) (w := w) (base := base) T
  have o_check_measure := ok_check_measure (P := P) (w := w) (base := base) T
  have o_class_of := ok_class_of (P := P) (w := w) (base := base) T
  obtain ⟨fd, F⟩ := T.df_Tray_classes
  exact ⟨fd, F, F.ok sc_Tray_classes (fun vs H Q E h => spM_len h) (fun cdv A outer s H vs Q E hr h => ⟨_, PSs.nox (pss_cons (ps_expr (pc o_check_width T.g_check_width b_check_width hr (by decide) (pa_cons (pv 1) pa_nil)))
      (pss_cons (ps_expr (pc o_check_measure T.g_check_measure b_check_measure hr (by decide) (pa_cons (pv 2) pa_nil)))
      (pss_cons (ps_set (i := 3) sc_Tray_classes.nd rfl (Or.inr rfl) pe_dnewK)
      (pss_cons (ps_for PassesOwn.never rfl (pi_enum (by rfl) T.f_enumerate (pa_cons (pe_fld (pv 0) rfl) pa_nil)) (pg_tup rfl (pgs_cons (pg_name (i := 4) sc_Tray_classes.nd rfl (Or.inl rfl)) (pgs_cons (pg_name (i := 5) sc_Tray_classes.nd rfl (Or.inl rfl)) pgs_nil)))
      (pss_one (ps_expr (pe_bm PySem.F.plainAttrs_list PySem.F.slot_list_append PySem.F.type_list_append mt_append (pe_dsetd (pv 3) (pc o_class_of T.g_class_of b_class_of hr (by decide) (pa_cons (pv 5) (pa_cons (pv 1) (pa_cons (pv 2) pa_nil)))) (pe_lst pa_nil) ⟨rfl, rfl, rfl, rfl⟩) (pa_cons (pv 4) pa_nil)))))
      (pss_one (ps_ret (pe_callTy (x_tup (K := K) rfl) (by rfl) T.f_tuple (by decide +kernel) (pa_cons (pe_lc (own := [("one", 6)]) (g := gName 6) (tt := tYes) rfl sc_Tray_classes.nd (pi_list (pe_callB (call_sortedDI rfl) (by rfl) T.f_sorted (by decide +kernel) (pa_cons (pv 3) pa_nil))) (blkOk_by (N := ["self", "width", "base", "found", "number", "measure", "one"]) (sc := defScope s_Tray_classes) (own := [("one", 6)]) (by decide +kernel)) (fun _ _ _ _ _ => (pg_name (i := 6) sc_Tray_classes.nd rfl (Or.inl rfl))) (fun _ _ _ _ _ => pts_nil) (fun _ _ _ _ _ => (pe_tup (pa_cons (pv 6) (pa_cons (pe_callTy (x_tup (K := K) rfl) (by rfl) T.f_tuple (by decide +kernel) (pa_cons (pe_dget (L2.hu_of hr) (pv 3) (pv 6) (fun _ _ => rfl)) pa_nil)) pa_nil))))) pa_nil)))))))), spM_run (n := 3) (N := ["self", "width", "base", "found", "number", "measure", "one"]) (sim_seq (sim_exp (sim_call (sim_cons sim_var sim_nil) (fun _ _ => RepL.nilR)))
      (sim_seq (sim_exp (sim_call (sim_cons sim_var sim_nil) (fun _ _ => RepL.nilR)))
      (sim_seq (sim_asg sim_dic0O sim_nm)
      (sim_seq (sim_for (sim_iEM (sim_cons (sim_fld T.cls_Tray T.no_Tray_kept sim_var) sim_nil)) (sim_g0 (g0_tup (E := none) (g0_cons g0_nm (g0_cons g0_nm g0_nil)))) (sim_exp (sim_bml ml_append (sim_setd sim_var (sim_call (sim_cons sim_var (sim_cons sim_var (sim_cons sim_var sim_nil))) (fun _ _ => RepL.nilR)) (sim_lstO sim_nil)) (sim_cons sim_var sim_nil))))
      (sim_ret (sim_cb cb_tup (sim_cons (sim_lc (gw_nm (by decide)) mg_nm (sim_iL (sim_cb cb_sortDZ (sim_cons sim_var sim_nil))) g0_nm sim_yesP (sim_tup (sim_cons sim_var (sim_cons (sim_cb cb_tup (sim_cons (sim_ixDk sim_var sim_var) sim_nil)) sim_nil)))) sim_nil))))))) h⟩)⟩
theorem sc_check_allowance : FnScope ["above", "below"] ["above", "below"] (defScope s_check_allowance) := ⟨rfl, rfl, rfl, by decide +kernel, rfl, by decide +kernel, by decide +kernel⟩
theorem ok_check_allowance (T : Tx w K mg) : DOk P w K mg base d_check_allowance CX0 2 ["above", "below"] (spM K false m_check_allowance) := by
  have o_is_measure := ok_is_measure (P := P) (w := w) (base := base) T
  obtain ⟨fd, F⟩ := T.df_check_allowance
  exact ⟨fd, F, F.ok sc_check_allowance (fun vs H Q E h => spM_len h) (fun cdv A outer s H vs Q E hr h => ⟨_, PSs.nox (pss_one (ps_if (PW.pt (pw_or (pt_not (pt_val (pc o_is_measure T.g_is_measure b_is_measure hr (by decide) (pa_cons (pv 0) pa_nil)))) (pw_or (pt_not (pt_val (pc o_is_measure T.g_is_measure b_is_measure hr (by decide) (pa_cons (pv 1) pa_nil)))) (pw_or1 (pt_cmpR op_lt (pe_op op_add (pv 0) (pv 1)) pe_int (nomark _)))))) (pss_one ps_never) pss_nil)), spM_run (n := 2) (N := ["above", "below"]) (sim_ifS (sim_or (sim_not (sim_B (sim_call (sim_cons sim_var sim_nil) (fun _ _ => RepL.nilR)))) (sim_or (sim_not (sim_B (sim_call (sim_cons sim_var sim_nil) (fun _ _ => RepL.nilR)))) (sim_test (sim_op os_lt (sim_op os_add sim_var sim_var) sim_int)))) sim_bad sim_next) h⟩)⟩
theorem sc_Span___init__ : FnScope ["self", "size", "above", "below"] ["self", "size", "above", "below"] (defScope s_Span___init__) := ⟨rfl, rfl, rfl, by decide +kernel, rfl, by decide +kernel, by decide +kernel⟩
theorem ok_Span___init__ (T : Tx w K mg) : DOk P w K mg base d_Span___init__ CX0 3 ["self", "size", "above", "below"] (spI K "Span" m_Span___init__) := by
  have o_check_measure := ok_check_measure (P := P) (w := w) (base := base) T
  have o_check_allowance := ok_check_allowance (P := P) (w := w) (base := base) T
  obtain ⟨fd, F⟩ := T.df_Span___init__
  exact ⟨fd, F, F.ok sc_Span___init__ (fun vs H Q E h => spI_len h) (fun cdv A outer s H vs Q E hr h => ⟨_, PSs.nox (pss_cons (ps_expr (pc o_check_measure T.g_check_measure b_check_measure hr (by decide) (pa_cons (pv 1) pa_nil)))
      (pss_cons (ps_expr (pc o_check_allowance T.g_check_allowance b_check_allowance hr (by decide) (pa_cons (pv 2) (pa_cons (pv 3) pa_nil))))
      (pss_cons (ps_fld (pv 0) (pv 1) rfl)
      (pss_cons (ps_fld (pv 0) (pv 2) rfl)
      (pss_cons (ps_fld (pv 0) (pv 3) rfl)
      (pss_cons (ps_fld (pv 0) (pe_op op_sub (pv 1) (pv 3)) rfl)
      (pss_one (ps_fld (pv 0) (pe_op op_add (pv 1) (pv 2)) rfl)))))))), spI_run (n := 3) (N := ["self", "size", "above", "below"]) (sb_seq (sb_exp (sim_call (sim_cons sim_var sim_nil) (fun _ _ => RepL.nilR)))
      (sb_seq (sb_exp (sim_call (sim_cons sim_var (sim_cons sim_var sim_nil)) (fun _ _ => RepL.nilR)))
      (sb_seq (sb_fld T.cls_Span T.no_Span_size sim_var)
      (sb_seq (sb_fld T.cls_Span T.no_Span_above sim_var)
      (sb_seq (sb_fld T.cls_Span T.no_Span_below sim_var)
      (sb_seq (sb_fld T.cls_Span T.no_Span_low (sim_op os_sub sim_var sim_var))
      (sb_fld T.cls_Span T.no_Span_high (sim_op os_add sim_var sim_var)))))))) h⟩)⟩
theorem sc_class_span : FnScope ["number", "width", "base"] ["number", "width", "base"] (defScope s_class_span) := ⟨rfl, rfl, rfl, by decide +kernel, rfl, by decide +kernel, by decide +kernel⟩
theorem ok_class_span (T : Tx w K mg) : DOk P w K mg base d_class_span CX0 5 ["number", "width", "base"] (spM K false m_class_span) := by
  have o_check_measure := ok_check_measure (P := P) (w := w) (base := base) T
  have o_check_width := ok_check_width (P := P) (w := w) (base := base) T
  have o_Span___init__ := ok_Span___init__ (P := P) (w := w) (base := base) T
  obtain ⟨fd, F⟩ := T.df_class_span
  exact ⟨fd, F, F.ok sc_class_span (fun vs H Q E h => spM_len h) (fun cdv A outer s H vs Q E hr h => ⟨_, PSs.nox (pss_cons (ps_expr (pc o_check_measure T.g_check_measure b_check_measure hr (by decide) (pa_cons (pv 0) pa_nil)))
      (pss_cons (ps_expr (pc o_check_width T.g_check_width b_check_width hr (by decide) (pa_cons (pv 1) pa_nil)))
      (pss_cons (ps_expr (pc o_check_measure T.g_check_measure b_check_measure hr (by decide) (pa_cons (pv 2) pa_nil)))
      (pss_one (ps_ret (pmkK o_Span___init__ T.mkr_Span T.g_Span bk_Span___init___2_above_below hr (by decide) (pa_cons (pe_op op_add (pv 2) (pe_op op_mul (pv 0) (pv 1))) pa_nil) (pk_cons (pe_op op_sub (pv 1) pe_int) (pk_cons pe_int pk_nil)))))))), spM_run (n := 3) (N := ["number", "width", "base"]) (sim_seq (sim_exp (sim_call (sim_cons sim_var sim_nil) (fun _ _ => RepL.nilR)))
      (sim_seq (sim_exp (sim_call (sim_cons sim_var sim_nil) (fun _ _ => RepL.nilR)))
      (sim_seq (sim_exp (sim_call (sim_cons sim_var sim_nil) (fun _ _ => RepL.nilR)))
      (sim_ret (sim_makeK (sim_cons (sim_op os_add sim_var (sim_op os_mul sim_var sim_var)) sim_nil) (sim_cons (sim_op os_sub sim_var sim_int) (sim_cons sim_int sim_nil)) (fun x ι G ps vs zs ws r1 r2 => ⟨_, rfl, ((r1.app ((r2.drop 0).take 1)).app ((r2.drop 1).take 1))⟩)))))) h⟩)⟩
theorem sc_check_span : FnScope ["thing"] ["thing"] (defScope s_check_span) := ⟨rfl, rfl, rfl, by decide +kernel, rfl, by decide +kernel, by decide +kernel⟩
theorem ok_check_span (T : Tx w K mg) : DOk P w K mg base d_check_span CX0 1 ["thing"] (spM K false m_check_span) := by
  obtain ⟨fd, F⟩ := T.df_check_span
  exact ⟨fd, F, F.ok sc_check_span (fun vs H Q E h => spM_len h) (fun cdv A outer s H vs Q E hr h => ⟨_, PSs.nox (pss_one (ps_if (pt_not (pt_val (pe_callB (x_isi (K := K) rfl) (by rfl) T.f_isinstance (by decide +kernel) (pa_cons (pv 0) (pa_cons (pe_glob (v := .ref (He.ga K "Span")) rfl T.g_Span rfl) pa_nil))))) (pss_one ps_never) pss_nil)), spM_run (n := 1) (N := ["thing"]) (sim_ifS (sim_not (sim_B (sim_cb (cb_isi T.clsK) (sim_cons sim_var (sim_cons sim_cls sim_nil))))) sim_bad sim_next) h⟩)⟩
theorem sc_with_gap : FnScope ["hole", "peg", "gap", "more", "raised"] ["hole", "peg", "gap"] (defScope s_with_gap) := ⟨rfl, rfl, rfl, by decide +kernel, rfl, by decide +kernel, by decide +kernel⟩
theorem ok_with_gap (T : Tx w K mg) : DOk P w K mg base d_with_gap CX0 1 ["hole", "peg", "gap"] (spM K false m_with_gap) := by
  obtain ⟨fd, F⟩ := T.df_with_gap
  exact ⟨fd, F, F.ok sc_with_gap (fun vs H Q E h => spM_len h) (fun cdv A outer s H vs Q E hr h => ⟨_, PSs.nox (pss_cons (ps_set (i := 3) sc_with_gap.nd rfl (Or.inl rfl) (pe_op op_sub (pv 2) (pe_op op_sub (pe_fld (pv 0) rfl) (pe_fld (pv 1) rfl))))
      (pss_cons (ps_set (i := 4) sc_with_gap.nd rfl (Or.inl rfl) (pe_callB (c_min rfl) (by rfl) T.f_min (by decide +kernel) (pa_cons (pv 3) (pa_cons (pe_op op_sub (pe_fld (pv 0) rfl) (pe_fld (pv 0) rfl)) pa_nil))))
      (pss_one (ps_ret (pe_tup (pa_cons (pe_op op_add (pe_fld (pv 0) rfl) (pv 4)) (pa_cons (pe_op op_sub (pe_fld (pv 1) rfl) (pe_op op_sub (pv 3) (pv 4))) pa_nil))))))), spM_run (n := 3) (N := ["hole", "peg", "gap", "more", "raised"]) (sim_seq (sim_asg (sim_op os_sub sim_var (sim_op os_sub (sim_fld T.cls_Span T.no_Span_low sim_var) (sim_fld T.cls_Span T.no_Span_high sim_var))) sim_nm)
      (sim_seq (sim_asg (sim_cb cb_min2 (sim_cons sim_var (sim_cons (sim_op os_sub (sim_fld T.cls_Span T.no_Span_high sim_var) (sim_fld T.cls_Span T.no_Span_low sim_var)) sim_nil))) sim_nm)
      (sim_ret (sim_tup (sim_cons (sim_op os_add (sim_fld T.cls_Span T.no_Span_low sim_var) sim_var) (sim_cons (sim_op os_sub (sim_fld T.cls_Span T.no_Span_high sim_var) (sim_op os_sub sim_var sim_var)) sim_nil)))))) h⟩)⟩
theorem sc_Fit___init__ : FnScope ["self", "word", "goes", "fails"] ["self", "word", "goes", "fails"] (defScope s_Fit___init__) := ⟨rfl, rfl, rfl, by decide +kernel, rfl, by decide +kernel, by decide +kernel⟩
theorem ok_Fit___init__ (T : Tx w K mg) : DOk P w K mg base d_Fit___init__ CX0 1 ["self", "word", "goes", "fails"] (spI K "Fit" m_Fit___init__) := by
  obtain ⟨fd, F⟩ := T.df_Fit___init__
  exact ⟨fd, F, F.ok sc_Fit___init__ (fun vs H Q E h => spI_len h) (fun cdv A outer s H vs Q E hr h => ⟨_, PSs.nox (pss_cons (ps_fld (pv 0) (pv 1) rfl)
      (pss_cons (ps_fld (pv 0) (pv 2) rfl)
      (pss_one (ps_fld (pv 0) (pv 3) rfl)))), spI_run (n := 3) (N := ["self", "word", "goes", "fails"]) (sb_seq (sb_fld T.cls_Fit T.no_Fit_word sim_var)
      (sb_seq (sb_fld T.cls_Fit T.no_Fit_goes sim_var)
      (sb_fld T.cls_Fit T.no_Fit_fails sim_var))) h⟩)⟩
theorem sc_fit : FnScope ["hole", "peg", "least", "most", "low", "high", "goes", "fails"] ["hole", "peg", "least", "most"] (defScope s_fit) := ⟨rfl, rfl, rfl, by decide +kernel, rfl, by decide +kernel, by decide +kernel⟩
theorem ok_fit (T : Tx w K mg) : DOk P w K mg base d_fit CX0 3 ["hole", "peg", "least", "most"] (spM K false m_fit) := by
  have o_check_span := ok_check_span (P := P) (w := w) (base := base) T
  have o_check_limits := ok_check_limits (P := P) (w := w) (base := base) T
  have o_with_gap := ok_with_gap (P := P) (w := w) (base := base) T
  have o_Fit___init__ := ok_Fit___init__ (P := P) (w := w) (base := base) T
  obtain ⟨fd, F⟩ := T.df_fit
  exact ⟨fd, F, F.ok sc_fit (fun vs H Q E h => spM_len h) (fun cdv A outer s H vs Q E hr h => ⟨_, PSs.nox (pss_cons (ps_expr (pc o_check_span T.g_check_span b_check_span hr (by decide) (pa_cons (pv 0) pa_nil)))
      (pss_cons (ps_expr (pc o_check_span T.g_check_span b_check_span hr (by decide) (pa_cons (pv 1) pa_nil)))
      (pss_cons (ps_expr (pc o_check_limits T.g_check_limits b_check_limits hr (by decide) (pa_cons (pv 2) (pa_cons (pv 3) (pa_cons pe_bl pa_nil)))))
      (pss_cons (ps_par (i := 4) (j := 5) (by rfl) sc_fit.nd rfl rfl (by decide) rfl rfl (pa_cons (pe_op op_sub (pe_fld (pv 0) rfl) (pe_fld (pv 1) rfl)) (pa_cons (pe_op op_sub (pe_fld (pv 0) rfl) (pe_fld (pv 1) rfl)) pa_nil)) (by rfl))
      (pss_cons (ps_asg (pe_tup (pa_cons pe_non (pa_cons pe_non pa_nil))) (pg_tup rfl (pgs_cons (pg_name (i := 6) sc_fit.nd rfl (Or.inl rfl)) (pgs_cons (pg_name (i := 7) sc_fit.nd rfl (Or.inl rfl)) pgs_nil))))
      (pss_cons (ps_if (PW.pt (pw_and (pt_cmpR op_ge (pv 5) (pv 2) (nomark _)) (pw_and1 (PW.pt (pw_or (pt_cmpR op_isN (pv 3) pe_non (nomark _)) (pw_or1 (pt_cmpR op_le (pv 4) (pv 3) (nomark _)))))))) (pss_one (ps_set (i := 6) sc_fit.nd rfl (Or.inl rfl) (pc o_with_gap T.g_with_gap b_with_gap hr (by decide) (pa_cons (pv 0) (pa_cons (pv 1) (pa_cons (pe_callB (c_max rfl) (by rfl) T.f_max (by decide +kernel) (pa_cons (pv 4) (pa_cons (pv 2) pa_nil))) pa_nil)))))) pss_nil)
      (pss_cons (ps_if (pt_cmpR op_lt (pv 4) (pv 2) (nomark _)) (pss_one (ps_set (i := 7) sc_fit.nd rfl (Or.inl rfl) (pc o_with_gap T.g_with_gap b_with_gap hr (by decide) (pa_cons (pv 0) (pa_cons (pv 1) (pa_cons (pv 4) pa_nil)))))) (pss_one (ps_if (PW.pt (pw_and (pt_cmpR op_notN (pv 3) pe_non (nomark _)) (pw_and1 (pt_cmpR op_gt (pv 5) (pv 3) (nomark _))))) (pss_one (ps_set (i := 7) sc_fit.nd rfl (Or.inl rfl) (pc o_with_gap T.g_with_gap b_with_gap hr (by decide) (pa_cons (pv 0) (pa_cons (pv 1) (pa_cons (pv 5) pa_nil)))))) pss_nil)))
      (pss_cons (ps_if (pt_cmpR op_isN (pv 6) pe_non (nomark _)) (pss_one (ps_ret (pmk o_Fit___init__ T.mkr_Fit T.g_Fit bd_Fit___init___4 hr (by decide) (pa_cons pe_str (pa_cons (pv 6) (pa_cons (pv 7) pa_nil)))))) pss_nil)
      (pss_one (ps_ret (pmk o_Fit___init__ T.mkr_Fit T.g_Fit bd_Fit___init___4 hr (by decide) (pa_cons (pe_ifExp (pt_cmpR op_isN (pv 7) pe_non (nomark _)) pe_str pe_str) (pa_cons (pv 6) (pa_cons (pv 7) pa_nil)))))))))))))), spM_run (n := 4) (N := ["hole", "peg", "least", "most", "low", "high", "goes", "fails"]) (sim_seq (sim_exp (sim_call (sim_cons sim_var sim_nil) (fun _ _ => RepL.nilR)))
      (sim_seq (sim_exp (sim_call (sim_cons sim_var sim_nil) (fun _ _ => RepL.nilR)))
      (sim_seq (sim_exp (sim_call (sim_cons sim_var (sim_cons sim_var (sim_cons sim_bl sim_nil))) (fun _ _ => RepL.nilR)))
      (sim_seq (sim_par (sim_cons (sim_op os_sub (sim_fld T.cls_Span T.no_Span_low sim_var) (sim_fld T.cls_Span T.no_Span_high sim_var)) (sim_cons (sim_op os_sub (sim_fld T.cls_Span T.no_Span_high sim_var) (sim_fld T.cls_Span T.no_Span_low sim_var)) sim_nil)))
      (sim_seq (sim_asg (sim_tup (sim_cons sim_non (sim_cons sim_non sim_nil))) (sim_g0 (g0_tup (E := none) (g0_cons g0_nm (g0_cons g0_nm g0_nil)))))
      (sim_seq (sim_ifS (sim_and (sim_test (sim_op os_ge sim_var sim_var)) (sim_or (sim_test (sim_op os_isN sim_var sim_non)) (sim_test (sim_op os_le sim_var sim_var)))) (sim_asg (sim_call (sim_cons sim_var (sim_cons sim_var (sim_cons (sim_cb cb_max2 (sim_cons sim_var (sim_cons sim_var sim_nil))) sim_nil))) (fun _ _ => RepL.nilR)) sim_nm) sim_next)
      (sim_seq (sim_ifS (sim_test (sim_op os_lt sim_var sim_var)) (sim_asg (sim_call (sim_cons sim_var (sim_cons sim_var (sim_cons sim_var sim_nil))) (fun _ _ => RepL.nilR)) sim_nm) (sim_ifS (sim_and (sim_test (sim_op os_notN sim_var sim_non)) (sim_test (sim_op os_gt sim_var sim_var))) (sim_asg (sim_call (sim_cons sim_var (sim_cons sim_var (sim_cons sim_var sim_nil))) (fun _ _ => RepL.nilR)) sim_nm) sim_next))
      (sim_seq (sim_ifS (sim_test (sim_op os_isN sim_var sim_non)) (sim_ret (sim_make (sim_cons sim_str (sim_cons sim_var (sim_cons sim_var sim_nil))) (fun _ _ => RepL.nilR))) sim_next)
      (sim_ret (sim_make (sim_cons (sim_if (sim_test (sim_op os_isN sim_var sim_non)) sim_str sim_str) (sim_cons sim_var (sim_cons sim_var sim_nil))) (fun _ _ => RepL.nilR))))))))))) h⟩)⟩
theorem sc_class_pairs : FnScope ["holes", "pegs", "width", "least", "most", "base", "found", "one", "numbers", "hole", "other", "others", "word"] ["holes", "pegs", "width", "least", "most", "base"] (defScope s_class_pairs) := ⟨rfl, rfl, rfl, by decide +kernel, rfl, by decide +kernel, by decide +kernel⟩
theorem ok_class_pairs (T : Tx w K mg) : DOk P w K mg base d_class_pairs CX0 6 ["holes", "pegs", "width", "least", "most", "base"] (spM K false m_class_pairs) := by
  have o_check_tray := ok_check_tray (P := P) (w := w) (base := base) T
  have o_check_width := ok_check_width (P := P) (w := w) (base := base) T
  have o_check_limits := ok_check_limits (P := P) (w := w) (base := base) T
  have o_check_measure := ok_check_measure (P := P) (w := w) (base := base) T
  have o_Tray_classes := ok_Tray_classes (P := P) (w := w) (base := base) T
  have o_class_span := ok_class_span (P := P) (w := w) (base := base) T
  have o_fit := ok_fit (P := P) (w := w) (base := base) T
  obtain ⟨fd, F⟩ := T.df_class_pairs
  exact ⟨fd, F, F.ok sc_class_pairs (fun vs H Q E h => spM_len h) (fun cdv A outer s H vs Q E hr h => ⟨_, PSs.nox (pss_cons (ps_expr (pc o_check_tray T.g_check_tray b_check_tray hr (by decide) (pa_cons (pv 0) pa_nil)))
      (pss_cons (ps_expr (pc o_check_tray T.g_check_tray b_check_tray hr (by decide) (pa_cons (pv 1) pa_nil)))
      (pss_cons (ps_expr (pc o_check_width T.g_check_width b_check_width hr (by decide) (pa_cons (pv 2) pa_nil)))
      (pss_cons (ps_expr (pc o_check_limits T.g_check_limits b_check_limits hr (by decide) (pa_cons (pv 3) (pa_cons (pv 4) (pa_cons pe_bl pa_nil)))))
      (pss_cons (ps_expr (pc o_check_measure T.g_check_measure b_check_measure hr (by decide) (pa_cons (pv 5) pa_nil)))
      (pss_cons (ps_set (i := 6) sc_class_pairs.nd rfl (Or.inl rfl) (pe_lst pa_nil))
      (pss_cons (ps_for PassesOwn.never rfl (pi_tup (pmK o_Tray_classes T.cls_Tray T.mt_Tray_classes bk_Tray_classes_2_base hr (by decide) (pv 0) (pa_cons (pv 2) pa_nil) (pk_cons (pv 5) pk_nil))) (pg_tup rfl (pgs_cons (pg_name (i := 7) sc_class_pairs.nd rfl (Or.inl rfl)) (pgs_cons (pg_name (i := 8) sc_class_pairs.nd rfl (Or.inl rfl)) pgs_nil)))
      (pss_cons (ps_set (i := 9) sc_class_pairs.nd rfl (Or.inl rfl) (pcK o_class_span T.g_class_span bk_class_span_2_base hr (by decide) (pa_cons (pv 7) (pa_cons (pv 2) pa_nil)) (pk_cons (pv 5) pk_nil)))
      (pss_one (ps_for PassesOwn.never rfl (pi_tup (pmK o_Tray_classes T.cls_Tray T.mt_Tray_classes bk_Tray_classes_2_base hr (by decide) (pv 1) (pa_cons (pv 2) pa_nil) (pk_cons (pv 5) pk_nil))) (pg_tup rfl (pgs_cons (pg_name (i := 10) sc_class_pairs.nd rfl (Or.inl rfl)) (pgs_cons (pg_name (i := 11) sc_class_pairs.nd rfl (Or.inl rfl)) pgs_nil)))
      (pss_cons (ps_set (i := 12) sc_class_pairs.nd rfl (Or.inl rfl) (pe_fld (pcK o_fit T.g_fit bk_fit_2_least_most hr (by decide) (pa_cons (pv 9) (pa_cons (pcK o_class_span T.g_class_span bk_class_span_2_base hr (by decide) (pa_cons (pv 10) (pa_cons (pv 2) pa_nil)) (pk_cons (pv 5) pk_nil)) pa_nil)) (pk_cons (pv 3) (pk_cons (pv 4) pk_nil))) rfl))
      (pss_one (ps_if (pt_cmpR op_ne (pv 12) pe_str (nomark _)) (pss_one (ps_expr (pe_bm PySem.F.plainAttrs_list PySem.F.slot_list_append PySem.F.type_list_append mt_append (pv 6) (pa_cons (pe_tup (pa_cons (pv 7) (pa_cons (pv 10) (pa_cons (pv 12) pa_nil)))) pa_nil)))) pss_nil)))))))
      (pss_one (ps_ret (pe_callTy (x_tup (K := K) rfl) (by rfl) T.f_tuple (by decide +kernel) (pa_cons (pv 6) pa_nil))))))))))), spM_run (n := 6) (N := ["holes", "pegs", "width", "least", "most", "base", "found", "one", "numbers", "hole", "other", "others", "word"]) (sim_seq (sim_exp (sim_call (sim_cons sim_var sim_nil) (fun _ _ => RepL.nilR)))
      (sim_seq (sim_exp (sim_call (sim_cons sim_var sim_nil) (fun _ _ => RepL.nilR)))
      (sim_seq (sim_exp (sim_call (sim_cons sim_var sim_nil) (fun _ _ => RepL.nilR)))
      (sim_seq (sim_exp (sim_call (sim_cons sim_var (sim_cons sim_var (sim_cons sim_bl sim_nil))) (fun _ _ => RepL.nilR)))
      (sim_seq (sim_exp (sim_call (sim_cons sim_var sim_nil) (fun _ _ => RepL.nilR)))
      (sim_seq (sim_asg (sim_lstO sim_nil) sim_nm)
      (sim_seq (sim_for (sim_iT (sim_methK sim_var (sim_cons sim_var sim_nil) (sim_cons sim_var sim_nil) (fun ι G ps vs zs ws r1 r2 => (r1.app ((r2.drop 0).take 1))))) (sim_g0 (g0_tup (E := none) (g0_cons g0_nm (g0_cons g0_nm g0_nil)))) (sim_seq (sim_asg (sim_callK (sim_cons sim_var (sim_cons sim_var sim_nil)) (sim_cons sim_var sim_nil) (fun ι G ps vs zs ws r1 r2 => (r1.app ((r2.drop 0).take 1)))) sim_nm)
      (sim_for (sim_iT (sim_methK sim_var (sim_cons sim_var sim_nil) (sim_cons sim_var sim_nil) (fun ι G ps vs zs ws r1 r2 => (r1.app ((r2.drop 0).take 1))))) (sim_g0 (g0_tup (E := none) (g0_cons g0_nm (g0_cons g0_nm g0_nil)))) (sim_seq (sim_asg (sim_fld T.cls_Fit T.no_Fit_word (sim_callK (sim_cons sim_var (sim_cons (sim_callK (sim_cons sim_var (sim_cons sim_var sim_nil)) (sim_cons sim_var sim_nil) (fun ι G ps vs zs ws r1 r2 => (r1.app ((r2.drop 0).take 1)))) sim_nil)) (sim_cons sim_var (sim_cons sim_var sim_nil)) (fun ι G ps vs zs ws r1 r2 => ((r1.app ((r2.drop 0).take 1)).app ((r2.drop 1).take 1))))) sim_nm)
      (sim_ifS (sim_test (sim_op os_neS sim_var sim_str)) (sim_exp (sim_bml ml_append sim_var (sim_cons (sim_tup (sim_cons sim_var (sim_cons sim_var (sim_cons sim_var sim_nil)))) sim_nil))) sim_next)))))
      (sim_ret (sim_cb cb_tup (sim_cons sim_var sim_nil)))))))))) h⟩)⟩
theorem sc__law_pieces_right : FnScope ["_law_told", "_law_outers", "_law_inners", "_law_wide", "_law_limits_here", "_law_root", "_law_known", "_law_first", "_law_one", "_law_other", "_law_word_here", "_law_second", "_law_good"] ["_law_told", "_law_outers", "_law_inners", "_law_wide", "_law_limits_here", "_law_root"] (defScope s__law_pieces_right) := ⟨rfl, rfl, rfl, by decide +kernel, rfl, by decide +kernel, by decide +kernel⟩
theorem ok__law_pieces_right (T : Tx w K mg) : DOk P w K mg base d__law_pieces_right CX0 2 ["_law_told", "_law_outers", "_law_inners", "_law_wide", "_law_limits_here", "_law_root"] (spM K false m__law_pieces_right) := by
  have o__law_goes := ok__law_goes (P := P) (w := w) (base := base) T
  obtain ⟨fd, F⟩ := T.df__law_pieces_right
  exact ⟨fd, F, F.ok sc__law_pieces_right (fun vs H Q E h => spM_len h) (fun cdv A outer s H vs Q E hr h => ⟨_, PSs.nox (pss_cons (ps_set (i := 6) sc__law_pieces_right.nd rfl (Or.inl rfl) pe_dnewT)
      (pss_cons (ps_for PassesOwn.never rfl (pi_tup (pv 0)) (pg_tup rfl (pgs_cons (pg_name (i := 8) sc__law_pieces_right.nd rfl (Or.inl rfl)) (pgs_cons (pg_name (i := 9) sc__law_pieces_right.nd rfl (Or.inl rfl)) (pgs_cons (pg_name (i := 10) sc__law_pieces_right.nd rfl (Or.inl rfl)) pgs_nil))))
      (pss_one (ps_dput (L2.hu_of hr) (pv 6) (pe_tup (pa_cons (pv 8) (pa_cons (pv 9) pa_nil))) (pv 10) rfl)))
      (pss_cons (ps_for PassesOwn.never rfl (pi_list (pv 1)) (pg_name (i := 7) sc__law_pieces_right.nd rfl (Or.inl rfl))
      (pss_one (ps_for PassesOwn.never rfl (pi_list (pv 2)) (pg_name (i := 11) sc__law_pieces_right.nd rfl (Or.inl rfl))
      (pss_cons (ps_set (i := 10) sc__law_pieces_right.nd rfl (Or.inl rfl) (pe_dget2 (L2.hu_of hr) (pv 6) (pe_tup (pa_cons (pe_op op_fdiv (pe_op op_sub (pv 7) (pv 5)) (pv 3)) (pa_cons (pe_op op_fdiv (pe_op op_sub (pv 11) (pv 5)) (pv 3)) pa_nil))) pe_str ⟨rfl, rfl, rfl, rfl⟩))
      (pss_cons (ps_set (i := 12) sc__law_pieces_right.nd rfl (Or.inl rfl) (pc o__law_goes T.g__law_goes b__law_goes hr (by decide) (pa_cons (pe_op op_sub (pv 7) (pv 11)) (pa_cons (pe_ix ix_tup (pv 4) pe_int (fun _ _ => rfl)) (pa_cons (pe_ix ix_tup (pv 4) pe_int (fun _ _ => rfl)) pa_nil)))))
      (pss_one (ps_if (PW.pt (pw_or (PW.pt (pw_and (pt_val (pv 12)) (pw_and1 (pt_cmpR op_eq (pv 10) pe_str (nomark _))))) (pw_or1 (PW.pt (pw_and (pt_cmpR op_eq (pv 10) pe_str (nomark _)) (pw_and1 (pt_not (pt_val (pv 12))))))))) (pss_one (ps_ret pe_bl)) pss_nil)))))))
      (pss_one (ps_ret pe_bl))))), spM_run (n := 6) (N := ["_law_told", "_law_outers", "_law_inners", "_law_wide", "_law_limits_here", "_law_root", "_law_known", "_law_first", "_law_one", "_law_other", "_law_word_here", "_law_second", "_law_good"]) (sim_seq (sim_asg sim_dnewT sim_nm)
      (sim_seq (sim_for (sim_iT sim_var) (sim_g0 (g0_tup (E := none) (g0_cons g0_nm (g0_cons g0_nm (g0_cons g0_nm g0_nil))))) (sim_dputT sim_var (sim_cons sim_var (sim_cons sim_var sim_nil)) sim_var))
      (sim_seq (sim_for (sim_iL sim_var) (sim_g0 g0_nm) (sim_for (sim_iL sim_var) (sim_g0 g0_nm) (sim_seq (sim_asg (sim_get2T sim_var (sim_cons (sim_op os_fdiv (sim_op os_sub sim_var sim_var) sim_var) (sim_cons (sim_op os_fdiv (sim_op os_sub sim_var sim_var) sim_var) sim_nil)) sim_str) sim_nm)
      (sim_seq (sim_asg (sim_call (sim_cons (sim_op os_sub sim_var sim_var) (sim_cons (sim_op os_ixT sim_var sim_int) (sim_cons (sim_op os_ixT sim_var sim_int) sim_nil))) (fun _ _ => RepL.nilR)) sim_nm)
      (sim_ifS (sim_or (sim_and (sim_B sim_var) (sim_test (sim_op os_eqS sim_var sim_str))) (sim_and (sim_test (sim_op os_eqS sim_var sim_str)) (sim_not (sim_B sim_var)))) (sim_ret sim_bl) sim_next)))))
      (sim_ret sim_bl)))) h⟩)⟩
theorem sc__law_pairs_right : FnScope ["_law_trays", "_law_outers", "_law_inners", "_law_wide", "_law_limits_here", "_law_root", "_law_due_here", "_law_told", "_law_first", "_law_second", "_law_floor", "_law_roof", "_law_one"] ["_law_trays", "_law_outers", "_law_inners", "_law_wide", "_law_limits_here", "_law_root"] (defScope s__law_pairs_right) := ⟨rfl, rfl, rfl, by decide +kernel, rfl, by decide +kernel, by decide +kernel⟩
theorem ok__law_pairs_right (T : Tx w K mg) : DOkG P w K mg base d__law_pairs_right CX0 7 ["_law_trays", "_law_outers", "_law_inners", "_law_wide", "_law_limits_here", "_law_root"] (spM K false m__law_pairs_right) := by
  have o__law_due := ok__law_due (P := P) (w := w) (base := base) T
  have o_class_pairs := ok_class_pairs (P := P) (w := w) (base := base) T
  have o__law_pieces_right := ok__law_pieces_right (P := P) (w := w) (base := base) T
  obtain ⟨fd, F⟩ := T.df__law_pairs_right
  exact ⟨fd, F, okG F sc__law_pairs_right (fun vs H Q E h => spM_len h) (fun cdv A outer s H vs Q E hr hg h => ⟨_, PSs.nox (pss_cons (ps_asg (pv 0) (pg_tup rfl (pgs_cons (pg_name (i := 8) sc__law_pairs_right.nd rfl (Or.inl rfl)) (pgs_cons (pg_name (i := 9) sc__law_pairs_right.nd rfl (Or.inl rfl)) pgs_nil))))
      (pss_cons (ps_asg (pv 4) (pg_tup rfl (pgs_cons (pg_name (i := 10) sc__law_pairs_right.nd rfl (Or.inl rfl)) (pgs_cons (pg_name (i := 11) sc__law_pairs_right.nd rfl (Or.inl rfl)) pgs_nil))))
      (pss_cons (ps_set (i := 6) sc__law_pairs_right.nd rfl (Or.inr rfl) (pc o__law_due T.g__law_due b__law_due hr (by decide) (pa_cons (pv 1) (pa_cons (pv 2) (pa_cons (pv 3) (pa_cons (pv 4) (pa_cons (pv 5) pa_nil)))))))
      (pss_cons (ps_set (i := 7) sc__law_pairs_right.nd rfl (Or.inl rfl) (pe_lst (pa_cons (pcD o_class_pairs T.g_class_pairs bd_class_pairs_6 hr (by decide) (pa_cons (pv 8) (pa_cons (pv 9) (pa_cons (pv 3) (pa_cons (pv 10) (pa_cons (pv 11) (pa_cons (pv 5) pa_nil))))))) pa_nil)))
      (pss_cons (ps_expr (pe_bm PySem.F.plainAttrs_list PySem.F.slot_list_append PySem.F.type_list_append mt_append (pv 7) (pa_cons (pcK0 o_class_pairs T.g_class_pairs bk_class_pairs_0_base_least_most_pegs_width_holes hr (by decide) (pk_cons (pv 5) (pk_cons (pv 10) (pk_cons (pv 11) (pk_cons (pv 9) (pk_cons (pv 3) (pk_cons (pv 8) pk_nil))))))) pa_nil)))
      (pss_cons (ps_if (pt_cmpR op_eq (pv 5) pe_int (nomark _)) (pss_one (ps_expr (pe_bm PySem.F.plainAttrs_list PySem.F.slot_list_append PySem.F.type_list_append mt_append (pv 7) (pa_cons (pcD o_class_pairs T.g_class_pairs bd_class_pairs_5 hr (by decide) (pa_cons (pv 8) (pa_cons (pv 9) (pa_cons (pv 3) (pa_cons (pv 10) (pa_cons (pv 11) pa_nil)))))) pa_nil)))) pss_nil)
      (pss_cons (ps_if (PW.pt (pw_and (pt_cmpR op_eq (pv 5) pe_int (nomark _)) (pw_and1 (pt_cmpR op_isN (pv 11) pe_non (nomark _))))) (pss_cons (ps_expr (pe_bm PySem.F.plainAttrs_list PySem.F.slot_list_append PySem.F.type_list_append mt_append (pv 7) (pa_cons (pcK o_class_pairs T.g_class_pairs bk_class_pairs_3_least hr (by decide) (pa_cons (pv 8) (pa_cons (pv 9) (pa_cons (pv 3) pa_nil))) (pk_cons (pv 10) pk_nil)) pa_nil)))
      (pss_one (ps_if (pt_cmpR op_eq (pv 10) pe_int (nomark _)) (pss_one (ps_expr (pe_bm PySem.F.plainAttrs_list PySem.F.slot_list_append PySem.F.type_list_append mt_append (pv 7) (pa_cons (pcD o_class_pairs T.g_class_pairs bd_class_pairs_3 hr (by decide) (pa_cons (pv 8) (pa_cons (pv 9) (pa_cons (pv 3) pa_nil)))) pa_nil)))) pss_nil))) pss_nil)
      (pss_cons (ps_if (pt_val (pe_callB (x_any (K := K) rfl rfl) (by rfl) T.f_any (by decide +kernel) (pa_cons (pe_lc (own := [("_law_one", 12)]) (g := gName 12) (tt := tYes) rfl sc__law_pairs_right.nd (pi_list (pv 7)) (blkOk_by (N := ["_law_trays", "_law_outers", "_law_inners", "_law_wide", "_law_limits_here", "_law_root", "_law_due_here", "_law_told", "_law_first", "_law_second", "_law_floor", "_law_roof", "_law_one"]) (sc := defScope s__law_pairs_right) (own := [("_law_one", 12)]) (by decide +kernel)) (fun _ _ _ _ _ => (pg_name (i := 12) sc__law_pairs_right.nd rfl (Or.inl rfl))) (fun _ _ _ _ _ => pts_nil) (fun _ _ _ _ _ => (pe_or (pe_not (pe_callB (x_isi (K := K) rfl) (by rfl) T.f_isinstance (by decide +kernel) (pa_cons (pv 12) (pa_cons (pe_bltn (v := .ty "tuple") (u := .type "tuple") (by rfl) T.f_tuple (by decide +kernel) rfl) pa_nil)))) (pe_one (pe_cmpR op_ne (pe_callB (call_reprD hg hr) (by rfl) T.f_repr (by decide +kernel) (pa_cons (pv 12) pa_nil)) (pe_callB (call_reprD hg hr) (by rfl) T.f_repr (by decide +kernel) (pa_cons (pv 6) pa_nil)) (nomark _)))))) pa_nil))) (pss_one (ps_ret pe_bl)) pss_nil)
      (pss_one (ps_ret (pc o__law_pieces_right T.g__law_pieces_right b__law_pieces_right hr (by decide) (pa_cons (pe_ix ix_list (pv 7) pe_int (fun _ _ => rfl)) (pa_cons (pv 1) (pa_cons (pv 2) (pa_cons (pv 3) (pa_cons (pv 4) (pa_cons (pv 5) pa_nil))))))))))))))))), spM_run (n := 6) (N := ["_law_trays", "_law_outers", "_law_inners", "_law_wide", "_law_limits_here", "_law_root", "_law_due_here", "_law_told", "_law_first", "_law_second", "_law_floor", "_law_roof", "_law_one"]) (sim_seq (sim_asg sim_var (sim_g0 (g0_tup (E := none) (g0_cons g0_nm (g0_cons g0_nm g0_nil)))))
      (sim_seq (sim_asg sim_var (sim_g0 (g0_tup (E := none) (g0_cons g0_nm (g0_cons g0_nm g0_nil)))))
      (sim_seq (sim_asg (sim_call (sim_cons sim_var (sim_cons sim_var (sim_cons sim_var (sim_cons sim_var (sim_cons sim_var sim_nil))))) (fun _ _ => RepL.nilR)) sim_nm)
      (sim_seq (sim_asg (sim_lstO (sim_cons (sim_call (sim_cons sim_var (sim_cons sim_var (sim_cons sim_var (sim_cons sim_var (sim_cons sim_var (sim_cons sim_var sim_nil)))))) (fun _ _ => RepL.nilR)) sim_nil)) sim_nm)
      (sim_seq (sim_exp (sim_bml ml_append sim_var (sim_cons (sim_callK sim_nil (sim_cons sim_var (sim_cons sim_var (sim_cons sim_var (sim_cons sim_var (sim_cons sim_var (sim_cons sim_var sim_nil)))))) (fun ι G ps vs zs ws r1 r2 => ((((((r1.app ((r2.drop 5).take 1)).app ((r2.drop 3).take 1)).app ((r2.drop 4).take 1)).app ((r2.drop 1).take 1)).app ((r2.drop 2).take 1)).app ((r2.drop 0).take 1)))) sim_nil)))
      (sim_seq (sim_ifS (sim_test (sim_op os_eqS sim_var sim_int)) (sim_exp (sim_bml ml_append sim_var (sim_cons (sim_call (sim_cons sim_var (sim_cons sim_var (sim_cons sim_var (sim_cons sim_var (sim_cons sim_var sim_nil))))) (fun _ _ => (RepL.consR rp_int RepL.nilR))) sim_nil))) sim_next)
      (sim_seq (sim_ifS (sim_and (sim_test (sim_op os_eqS sim_var sim_int)) (sim_test (sim_op os_isN sim_var sim_non))) (sim_seq (sim_exp (sim_bml ml_append sim_var (sim_cons (sim_callK (sim_cons sim_var (sim_cons sim_var (sim_cons sim_var sim_nil))) (sim_cons sim_var sim_nil) (fun ι G ps vs zs ws r1 r2 => (((r1.app ((r2.drop 0).take 1)).app (RepL.one rp_non)).app (RepL.one rp_int)))) sim_nil)))
      (sim_ifS (sim_test (sim_op os_eqS sim_var sim_int)) (sim_exp (sim_bml ml_append sim_var (sim_cons (sim_call (sim_cons sim_var (sim_cons sim_var (sim_cons sim_var sim_nil))) (fun _ _ => (RepL.consR rp_int (RepL.consR rp_non (RepL.consR rp_int RepL.nilR))))) sim_nil))) sim_next)) sim_next)
      (sim_seq (sim_ifS (sim_B (sim_cb cb_any (sim_cons (sim_lc (gw_nm (by decide)) mg_nm (sim_iL sim_var) g0_nm sim_yesP (sim_orV (sim_notV (sim_cb (cb_isi T.clsK) (sim_cons sim_var (sim_cons sim_ty sim_nil)))) (sim_op os_neS (sim_cb cb_reprD (sim_cons sim_var sim_nil)) (sim_cb cb_reprD (sim_cons sim_var sim_nil))))) sim_nil))) (sim_ret sim_bl) sim_next)
      (sim_ret (sim_call (sim_cons (sim_op os_ixL sim_var sim_int) (sim_cons sim_var (sim_cons sim_var (sim_cons sim_var (sim_cons sim_var (sim_cons sim_var sim_nil)))))) (fun _ _ => RepL.nilR))))))))))) h⟩)⟩
theorem sc__law_asked_right : FnScope ["_law_trays", "_law_outers", "_law_inners", "_law_asked", "_law_wide", "_law_limits_here", "_law_root"] ["_law_trays", "_law_outers", "_law_inners", "_law_asked"] (defScope s__law_asked_right) := ⟨rfl, rfl, rfl, by decide +kernel, rfl, by decide +kernel, by decide +kernel⟩
theorem ok__law_asked_right (T : Tx w K mg) : DOkG P w K mg base d__law_asked_right CX0 8 ["_law_trays", "_law_outers", "_law_inners", "_law_asked"] (spM K false m__law_asked_right) := by
  have o__law_pairs_right := ok__law_pairs_right (P := P) (w := w) (base := base) T
  obtain ⟨fd, F⟩ := T.df__law_asked_right
  exact ⟨fd, F, okG F sc__law_asked_right (fun vs H Q E h => spM_len h) (fun cdv A outer s H vs Q E hr hg h => ⟨_, PSs.nox (pss_one (ps_ret (pe_callB (x_all (K := K) rfl rfl) (by rfl) T.f_all (by decide +kernel) (pa_cons (pe_lc (own := [("_law_wide", 4), ("_law_limits_here", 5), ("_law_root", 6)]) (g := gTup K 3 (gCons (gName 4) (gCons (gName 5) (gCons (gName 6) gNil)))) (tt := tYes) rfl sc__law_asked_right.nd (pi_list (pv 3)) (blkOk_by (N := ["_law_trays", "_law_outers", "_law_inners", "_law_asked", "_law_wide", "_law_limits_here", "_law_root"]) (sc := defScope s__law_asked_right) (own := [("_law_wide", 4), ("_law_limits_here", 5), ("_law_root", 6)]) (by decide +kernel)) (fun _ _ _ _ _ => (pg_tup rfl (pgs_cons (pg_name (i := 4) sc__law_asked_right.nd rfl (Or.inl rfl)) (pgs_cons (pg_name (i := 5) sc__law_asked_right.nd rfl (Or.inl rfl)) (pgs_cons (pg_name (i := 6) sc__law_asked_right.nd rfl (Or.inl rfl)) pgs_nil))))) (fun _ _ _ _ _ => pts_nil) (fun _ _ _ _ _ => (pcG o__law_pairs_right T.g__law_pairs_right b__law_pairs_right hr hg (by decide) (pa_cons (pv 0) (pa_cons (pv 1) (pa_cons (pv 2) (pa_cons (pv 4) (pa_cons (pv 5) (pa_cons (pv 6) pa_nil))))))))) pa_nil)))), spM_run (n := 4) (N := ["_law_trays", "_law_outers", "_law_inners", "_law_asked", "_law_wide", "_law_limits_here", "_law_root"]) (sim_ret (sim_cb cb_all (sim_cons (sim_lc (gw_tup (gw_cons (gw_nm (by decide)) (gw_cons (gw_nm (by decide)) (gw_cons (gw_nm (by decide)) gw_nil mg_nm mgs_nil) mg_nm (mgs_cons mg_nm mgs_nil)) mg_nm (mgs_cons mg_nm (mgs_cons mg_nm mgs_nil)))) (mg_tup (mgs_cons mg_nm (mgs_cons mg_nm (mgs_cons mg_nm mgs_nil)))) (sim_iL sim_var) (g0_tup (E := none) (g0_cons g0_nm (g0_cons g0_nm (g0_cons g0_nm g0_nil)))) sim_yesP (sim_call (sim_cons sim_var (sim_cons sim_var (sim_cons sim_var (sim_cons sim_var (sim_cons sim_var (sim_cons sim_var sim_nil)))))) (fun _ _ => RepL.nilR))) sim_nil))) h⟩)⟩
theorem sc_widest : FnScope ["least", "most", "width"] ["least", "most"] (defScope s_widest) := ⟨rfl, rfl, rfl, by decide +kernel, rfl, by decide +kernel, by decide +kernel⟩
theorem ok_widest (T : Tx w K mg) : DOk P w K mg base d_widest CX0 3 ["least", "most"] (spM K false m_widest) := by
  have o_check_limits := ok_check_limits (P := P) (w := w) (base := base) T
  obtain ⟨fd, F⟩ := T.df_widest
  exact ⟨fd, F, F.ok sc_widest (fun vs H Q E h => spM_len h) (fun cdv A outer s H vs Q E hr h => ⟨_, PSs.nox (pss_cons (ps_expr (pc o_check_limits T.g_check_limits b_check_limits hr (by decide) (pa_cons (pv 0) (pa_cons (pv 1) (pa_cons pe_bl pa_nil)))))
      (pss_cons (ps_set (i := 2) sc_widest.nd rfl (Or.inl rfl) (pe_op op_add (pe_op op_fdiv (pe_op op_sub (pv 1) (pv 0)) pe_int) pe_int))
      (pss_one (ps_ret (pe_tup (pa_cons (pv 2) (pa_cons (pe_op op_sub (pe_op op_add (pv 0) (pv 2)) pe_int) pa_nil))))))), spM_run (n := 2) (N := ["least", "most", "width"]) (sim_seq (sim_exp (sim_call (sim_cons sim_var (sim_cons sim_var (sim_cons sim_bl sim_nil))) (fun _ _ => RepL.nilR)))
      (sim_seq (sim_asg (sim_op os_add (sim_op os_fdiv (sim_op os_sub sim_var sim_var) sim_int) sim_int) sim_nm)
      (sim_ret (sim_tup (sim_cons sim_var (sim_cons (sim_op os_sub (sim_op os_add sim_var sim_var) sim_int) sim_nil)))))) h⟩)⟩
theorem sc__law_whole : FnScope ["_law_thing"] ["_law_thing"] (defScope s__law_whole) := ⟨rfl, rfl, rfl, by decide +kernel, rfl, by decide +kernel, by decide +kernel⟩
theorem ok__law_whole (T : Tx w K mg) : DOk P w K mg base d__law_whole CX0 1 ["_law_thing"] (spM K false m__law_whole) := by
  obtain ⟨fd, F⟩ := T.df__law_whole
  exact ⟨fd, F, F.ok sc__law_whole (fun vs H Q E h => spM_len h) (fun cdv A outer s H vs Q E hr h => ⟨_, PSs.nox (pss_one (ps_ret (pe_and (pe_callB (x_isi (K := K) rfl) (by rfl) T.f_isinstance (by decide +kernel) (pa_cons (pv 0) (pa_cons (pe_bltn (v := .ty "int") (u := .type "int") (by rfl) T.f_int (by decide +kernel) rfl) pa_nil))) (pe_one (pe_not (pe_callB (x_isi (K := K) rfl) (by rfl) T.f_isinstance (by decide +kernel) (pa_cons (pv 0) (pa_cons (pe_bltn (v := .ty "bool") (u := .type "bool") (by rfl) T.f_bool (by decide +kernel) rfl) pa_nil)))))))), spM_run (n := 1) (N := ["_law_thing"]) (sim_ret (sim_andV (sim_cb (cb_isi T.clsK) (sim_cons sim_var (sim_cons sim_ty sim_nil))) (sim_notV (sim_cb (cb_isi T.clsK) (sim_cons sim_var (sim_cons sim_ty sim_nil)))))) h⟩)⟩
theorem sc__law_always : FnScope ["_law_wide", "_law_root", "_law_floor", "_law_roof"] ["_law_wide", "_law_root", "_law_floor", "_law_roof"] (defScope s__law_always) := ⟨rfl, rfl, rfl, by decide +kernel, rfl, by decide +kernel, by decide +kernel⟩
theorem ok__law_always (T : Tx w K mg) : DOk P w K mg base d__law_always CX0 1 ["_law_wide", "_law_root", "_law_floor", "_law_roof"] (spM K false m__law_always) := by
  obtain ⟨fd, F⟩ := T.df__law_always
  exact ⟨fd, F, F.ok sc__law_always (fun vs H Q E h => spM_len h) (fun cdv A outer s H vs Q E hr h => ⟨_, PSs.nox (pss_one (ps_ret (pe_and (pe_cmpR op_le (pv 2) (pe_op op_sub (pv 1) (pe_op op_sub (pv 0) pe_int)) (nomark _)) (pe_one (pe_cmpR op_le (pe_op op_sub (pe_op op_add (pv 1) (pv 0)) pe_int) (pv 3) (nomark _)))))), spM_run (n := 4) (N := ["_law_wide", "_law_root", "_law_floor", "_law_roof"]) (sim_ret (sim_andV (sim_op os_le sim_var (sim_op os_sub sim_var (sim_op os_sub sim_var sim_int))) (sim_op os_le (sim_op os_sub (sim_op os_add sim_var sim_var) sim_int) sim_var))) h⟩)⟩
theorem sc__law_widest_right : FnScope ["_law_floor", "_law_roof", "_law_told", "_law_one", "_law_more", "_law_wide", "_law_root", "_law_turn", "_law_by"] ["_law_floor", "_law_roof"] (defScope s__law_widest_right) := ⟨rfl, rfl, rfl, by decide +kernel, rfl, by decide +kernel, by decide +kernel⟩
theorem ok__law_widest_right (T : Tx w K mg) : DOk P w K mg base d__law_widest_right CX0 5 ["_law_floor", "_law_roof"] (spM K false m__law_widest_right) := by
  have o_widest := ok_widest (P := P) (w := w) (base := base) T
  have o__law_whole := ok__law_whole (P := P) (w := w) (base := base) T
  have o__law_always := ok__law_always (P := P) (w := w) (base := base) T
  have o_Span___init__ := ok_Span___init__ (P := P) (w := w) (base := base) T
  have o_fit := ok_fit (P := P) (w := w) (base := base) T
  obtain ⟨fd, F⟩ := T.df__law_widest_right
  exact ⟨fd, F, F.ok sc__law_widest_right (fun vs H Q E h => spM_len h) (fun cdv A outer s H vs Q E hr h => ⟨_, PSs.nox (pss_cons (ps_set (i := 2) sc__law_widest_right.nd rfl (Or.inl rfl) (pc o_widest T.g_widest b_widest hr (by decide) (pa_cons (pv 0) (pa_cons (pv 1) pa_nil))))
      (pss_cons (ps_if (PW.pt (pw_or (pt_not (pt_val (pe_callB (x_isi (K := K) rfl) (by rfl) T.f_isinstance (by decide +kernel) (pa_cons (pv 2) (pa_cons (pe_bltn (v := .ty "tuple") (u := .type "tuple") (by rfl) T.f_tuple (by decide +kernel) rfl) pa_nil))))) (pw_or (pt_cmpR op_ne (pe_callB (call_len_seq) (by rfl) T.f_len (by decide +kernel) (pa_cons (pv 2) pa_nil)) pe_int (nomark _)) (pw_or1 (pt_not (pt_val (pe_callB (x_all (K := K) rfl rfl) (by rfl) T.f_all (by decide +kernel) (pa_cons (pe_lc (own := [("_law_one", 3)]) (g := gName 3) (tt := tYes) rfl sc__law_widest_right.nd (pi_tup (pv 2)) (blkOk_by (N := ["_law_floor", "_law_roof", "_law_told", "_law_one", "_law_more", "_law_wide", "_law_root", "_law_turn", "_law_by"]) (sc := defScope s__law_widest_right) (own := [("_law_one", 3)]) (by decide +kernel)) (fun _ _ _ _ _ => (pg_name (i := 3) sc__law_widest_right.nd rfl (Or.inl rfl))) (fun _ _ _ _ _ => pts_nil) (fun _ _ _ _ _ => (pc o__law_whole T.g__law_whole b__law_whole hr (by decide) (pa_cons (pv 3) pa_nil)))) pa_nil)))))))) (pss_one (ps_ret pe_bl)) pss_nil)
      (pss_cons (ps_if (pt_cmpR (op_neD hr.units) (pv 2) (pcK0 o_widest T.g_widest bk_widest_0_most_least hr (by decide) (pk_cons (pv 1) (pk_cons (pv 0) pk_nil))) (nomark _)) (pss_one (ps_ret pe_bl)) pss_nil)
      (pss_cons (ps_asg (pv 2) (pg_tup rfl (pgs_cons (pg_name (i := 5) sc__law_widest_right.nd rfl (Or.inr rfl)) (pgs_cons (pg_name (i := 6) sc__law_widest_right.nd rfl (Or.inl rfl)) pgs_nil))))
      (pss_cons (ps_if (PW.pt (pw_or (pt_not (pt_val (pc o__law_always T.g__law_always b__law_always hr (by decide) (pa_cons (pv 5) (pa_cons (pv 6) (pa_cons (pv 0) (pa_cons (pv 1) pa_nil))))))) (pw_or1 (pt_val (pc o__law_always T.g__law_always b__law_always hr (by decide) (pa_cons (pv 5) (pa_cons (pe_op op_sub (pv 6) pe_int) (pa_cons (pv 0) (pa_cons (pv 1) pa_nil))))))))) (pss_one (ps_ret pe_bl)) pss_nil)
      (pss_cons (ps_if (pt_cmpR op_lt (pe_op op_sub (pv 1) (pv 0)) pe_int (nomark _)) (pss_one (ps_for PassesOwn.never rfl (pi_range2 (by rfl) T.f_range (pa_cons (pe_op op_sub (pv 0) pe_int) (pa_cons (pe_op op_add (pv 1) pe_int) pa_nil))) (pg_name (i := 7) sc__law_widest_right.nd rfl (Or.inl rfl))
      (pss_one (ps_if (PW.pt (pw_or (pt_val (pc o__law_always T.g__law_always b__law_always hr (by decide) (pa_cons (pe_op op_add (pv 5) pe_int) (pa_cons (pv 7) (pa_cons (pv 0) (pa_cons (pv 1) pa_nil)))))) (pw_or1 (PW.pt (pw_and (pt_cmpR op_lt (pv 7) (pv 6) (nomark _)) (pw_and1 (pt_val (pc o__law_always T.g__law_always b__law_always hr (by decide) (pa_cons (pv 5) (pa_cons (pv 7) (pa_cons (pv 0) (pa_cons (pv 1) pa_nil)))))))))))) (pss_one (ps_ret pe_bl)) pss_nil)))) pss_nil)
      (pss_cons (ps_if (pt_cmpR op_gt (pv 5) pe_int (nomark _)) (pss_one (ps_ret (pe_and (pe_cmpR op_gt (pe_op op_mul pe_int (pv 5)) (pe_op op_sub (pv 1) (pv 0)) (nomark _)) (pe_one (pe_cmpR op_eq (pv 6) (pe_op op_sub (pe_op op_add (pv 0) (pv 5)) pe_int) (nomark _)))))) pss_nil)
      (pss_cons (ps_set (i := 3) sc__law_widest_right.nd rfl (Or.inl rfl) (pcD o_fit T.g_fit bd_fit_4 hr (by decide) (pa_cons (pmk o_Span___init__ T.mkr_Span T.g_Span bd_Span___init___3 hr (by decide) (pa_cons (pv 6) (pa_cons (pe_op op_sub (pv 5) pe_int) pa_nil))) (pa_cons (pmk o_Span___init__ T.mkr_Span T.g_Span bd_Span___init___3 hr (by decide) (pa_cons pe_int (pa_cons (pe_op op_sub (pv 5) pe_int) pa_nil))) (pa_cons (pv 0) (pa_cons (pv 1) pa_nil))))))
      (pss_cons (ps_setLc (i := 4) (own := [("_law_by", 8)]) (g := gName 8) (tt := tYes) rfl sc__law_widest_right.nd rfl rfl (sw_true rfl rfl rfl (by decide +kernel)) (pi_tup (pe_tup (pa_cons (pv 6) (pa_cons (pe_op op_add (pv 6) pe_int) (pa_cons (pe_op op_add (pv 0) (pv 5)) pa_nil))))) (blkOk_by (N := ["_law_floor", "_law_roof", "_law_told", "_law_one", "_law_more", "_law_wide", "_law_root", "_law_turn", "_law_by"]) (sc := defScope s__law_widest_right) (own := [("_law_by", 8)]) (by decide +kernel)) (fun _ _ _ _ _ => (pg_name (i := 8) sc__law_widest_right.nd rfl (Or.inl rfl))) (fun _ _ _ _ _ => pts_nil) (fun _ _ _ _ _ => (pe_fld (pcD o_fit T.g_fit bd_fit_4 hr (by decide) (pa_cons (pmk o_Span___init__ T.mkr_Span T.g_Span bd_Span___init___3 hr (by decide) (pa_cons (pv 8) (pa_cons (pv 5) pa_nil))) (pa_cons (pmk o_Span___init__ T.mkr_Span T.g_Span bd_Span___init___3 hr (by decide) (pa_cons pe_int (pa_cons (pv 5) pa_nil))) (pa_cons (pv 0) (pa_cons (pv 1) pa_nil))))) rfl)))
      (pss_one (ps_ret (pe_and (pe_cmpR op_eq (pe_fld (pv 3) rfl) pe_str (nomark _)) (pe_one (pe_cmpR op_notIn_seq pe_str (pv 4) rfl)))))))))))))), spM_run (n := 2) (N := ["_law_floor", "_law_roof", "_law_told", "_law_one", "_law_more", "_law_wide", "_law_root", "_law_turn", "_law_by"]) (sim_seq (sim_asg (sim_call (sim_cons sim_var (sim_cons sim_var sim_nil)) (fun _ _ => RepL.nilR)) sim_nm)
      (sim_seq (sim_ifS (sim_or (sim_not (sim_B (sim_cb (cb_isi T.clsK) (sim_cons sim_var (sim_cons sim_ty sim_nil))))) (sim_or (sim_test (sim_op os_neS (sim_cb cb_len (sim_cons sim_var sim_nil)) sim_int)) (sim_not (sim_B (sim_cb cb_all (sim_cons (sim_lc (gw_nm (by decide)) mg_nm (sim_iT sim_var) g0_nm sim_yesP (sim_call (sim_cons sim_var sim_nil) (fun _ _ => RepL.nilR))) sim_nil)))))) (sim_ret sim_bl) sim_next)
      (sim_seq (sim_ifS (sim_test (sim_op os_neD sim_var (sim_callK sim_nil (sim_cons sim_var (sim_cons sim_var sim_nil)) (fun ι G ps vs zs ws r1 r2 => ((r1.app ((r2.drop 1).take 1)).app ((r2.drop 0).take 1)))))) (sim_ret sim_bl) sim_next)
      (sim_seq (sim_asg sim_var (sim_g0 (g0_tup (E := none) (g0_cons g0_nm (g0_cons g0_nm g0_nil)))))
      (sim_seq (sim_ifS (sim_or (sim_not (sim_B (sim_call (sim_cons sim_var (sim_cons sim_var (sim_cons sim_var (sim_cons sim_var sim_nil)))) (fun _ _ => RepL.nilR)))) (sim_B (sim_call (sim_cons sim_var (sim_cons (sim_op os_sub sim_var sim_int) (sim_cons sim_var (sim_cons sim_var sim_nil)))) (fun _ _ => RepL.nilR)))) (sim_ret sim_bl) sim_next)
      (sim_seq (sim_ifS (sim_test (sim_op os_lt (sim_op os_sub sim_var sim_var) sim_int)) (sim_for (sim_iR2 (sim_cons (sim_op os_sub sim_var sim_int) (sim_cons (sim_op os_add sim_var sim_int) sim_nil))) (sim_g0 g0_nm) (sim_ifS (sim_or (sim_B (sim_call (sim_cons (sim_op os_add sim_var sim_int) (sim_cons sim_var (sim_cons sim_var (sim_cons sim_var sim_nil)))) (fun _ _ => RepL.nilR))) (sim_and (sim_test (sim_op os_lt sim_var sim_var)) (sim_B (sim_call (sim_cons sim_var (sim_cons sim_var (sim_cons sim_var (sim_cons sim_var sim_nil)))) (fun _ _ => RepL.nilR))))) (sim_ret sim_bl) sim_next)) sim_next)
      (sim_seq (sim_ifS (sim_test (sim_op os_gt sim_var sim_int)) (sim_ret (sim_andV (sim_op os_gt (sim_op os_mul sim_int sim_var) (sim_op os_sub sim_var sim_var)) (sim_op os_eqS sim_var (sim_op os_sub (sim_op os_add sim_var sim_var) sim_int)))) sim_next)
      (sim_seq (sim_asg (sim_call (sim_cons (sim_make (sim_cons sim_var (sim_cons (sim_op os_sub sim_var sim_int) sim_nil)) (fun _ _ => (RepL.consR rp_int RepL.nilR))) (sim_cons (sim_make (sim_cons sim_int (sim_cons (sim_op os_sub sim_var sim_int) sim_nil)) (fun _ _ => (RepL.consR rp_int RepL.nilR))) (sim_cons sim_var (sim_cons sim_var sim_nil)))) (fun _ _ => RepL.nilR)) sim_nm)
      (sim_seq (sim_asg (sim_lc (gw_nm (by decide)) mg_nm (sim_iT (sim_tup (sim_cons sim_var (sim_cons (sim_op os_add sim_var sim_int) (sim_cons (sim_op os_add sim_var sim_var) sim_nil))))) g0_nm sim_yesP (sim_fld T.cls_Fit T.no_Fit_word (sim_call (sim_cons (sim_make (sim_cons sim_var (sim_cons sim_var sim_nil)) (fun _ _ => (RepL.consR rp_int RepL.nilR))) (sim_cons (sim_make (sim_cons sim_int (sim_cons sim_var sim_nil)) (fun _ _ => (RepL.consR rp_int RepL.nilR))) (sim_cons sim_var (sim_cons sim_var sim_nil)))) (fun _ _ => RepL.nilR)))) sim_nm)
      (sim_ret (sim_andV (sim_op os_eqS (sim_fld T.cls_Fit T.no_Fit_word sim_var) sim_str) (sim_op os_inS sim_str sim_var)))))))))))) h⟩)⟩
theorem sc_law : FnScope ["_law_script", "_law_k", "_law_purse_here", "_law_trays", "_law_asked", "_law_turn", "_law_others", "_law_size", "_law_outers", "_law_inners", "_law_limits_here", "_law_wide", "_law_floor", "_law_more", "_law_root", "_law_piece"] ["_law_script"] (defScope s_law) := ⟨rfl, rfl, rfl, by decide +kernel, rfl, by decide +kernel, by decide +kernel⟩
theorem ok_law (T : Tx w K mg) : DOkG P w K mg base d_law CX0 9 ["_law_script"] (spM K false m_law) := by
  have o__law_cell := ok__law_cell (P := P) (w := w) (base := base) T
  have o__law_purse := ok__law_purse (P := P) (w := w) (base := base) T
  have o__law_some := ok__law_some (P := P) (w := w) (base := base) T
  have o__law_tray := ok__law_tray (P := P) (w := w) (base := base) T
  have o__law_take := ok__law_take (P := P) (w := w) (base := base) T
  have o__law_limits := ok__law_limits (P := P) (w := w) (base := base) T
  have o__law_asked_right := ok__law_asked_right (P := P) (w := w) (base := base) T
  have o_Tray_put := ok_Tray_put (P := P) (w := w) (base := base) T
  have o__law_pairs_right := ok__law_pairs_right (P := P) (w := w) (base := base) T
  have o__law_widest_right := ok__law_widest_right (P := P) (w := w) (base := base) T
  obtain ⟨fd, F⟩ := T.df_law
  exact ⟨fd, F, okG F sc_law (fun vs H Q E h => spM_len h) (fun cdv A outer s H vs Q E hr hg h => ⟨_, PSs.nox (pss_cons (ps_for PassesOwn.never rfl (pi_range1 (by rfl) T.f_range (pa_cons (pe_callB (c_max rfl) (by rfl) T.f_max (by decide +kernel) (pa_cons pe_int (pa_cons (pe_callB (c_min rfl) (by rfl) T.f_min (by decide +kernel) (pa_cons (pe_callB (call_len_seq) (by rfl) T.f_len (by decide +kernel) (pa_cons (pv 0) pa_nil)) (pa_cons pe_int pa_nil))) pa_nil))) pa_nil)) (pg_name (i := 1) sc_law.nd rfl (Or.inl rfl))
      (pss_cons (ps_set (i := 2) sc_law.nd rfl (Or.inl rfl) (pc o__law_purse T.g__law_purse b__law_purse hr (by decide) (pa_cons (pc o__law_cell T.g__law_cell b__law_cell hr (by decide) (pa_cons (pv 0) (pa_cons (pv 1) pa_nil))) pa_nil)))
      (pss_cons (ps_par (i := 8) (j := 9) (by rfl) sc_law.nd rfl rfl (by decide) rfl rfl (pa_cons (pc o__law_some T.g__law_some b__law_some hr (by decide) (pa_cons (pv 2) (pa_cons pe_int (pa_cons pe_int pa_nil)))) (pa_cons (pc o__law_some T.g__law_some b__law_some hr (by decide) (pa_cons (pv 2) (pa_cons pe_int (pa_cons pe_int pa_nil)))) pa_nil)) (by rfl))
      (pss_cons (ps_set (i := 3) sc_law.nd rfl (Or.inl rfl) (pe_tup (pa_cons (pc o__law_tray T.g__law_tray b__law_tray hr (by decide) (pa_cons (pv 8) pa_nil)) (pa_cons (pc o__law_tray T.g__law_tray b__law_tray hr (by decide) (pa_cons (pv 9) pa_nil)) pa_nil))))
      (pss_cons (ps_set (i := 4) sc_law.nd rfl (Or.inl rfl) (pe_lst (pa_cons (pe_tup (pa_cons pe_int (pa_cons (pe_tup (pa_cons pe_int (pa_cons pe_non pa_nil))) (pa_cons pe_int pa_nil)))) pa_nil)))
      (pss_cons (ps_for PassesOwn.never rfl (pi_range1 (by rfl) T.f_range (pa_cons pe_int pa_nil)) (pg_name (i := 5) sc_law.nd rfl (Or.inl rfl))
      (pss_cons (ps_par (i := 11) (j := 14) (by rfl) sc_law.nd rfl rfl (by decide) rfl rfl (pa_cons (pe_op op_add pe_int (pc o__law_take T.g__law_take b__law_take hr (by decide) (pa_cons (pv 2) (pa_cons pe_int pa_nil)))) (pa_cons (pe_ix ix_list (pe_lst (pa_cons pe_int (pa_cons (pe_op op_sub (pc o__law_take T.g__law_take b__law_take hr (by decide) (pa_cons (pv 2) (pa_cons pe_int pa_nil))) pe_int) (pa_cons pe_int pa_nil)))) (pc o__law_take T.g__law_take b__law_take hr (by decide) (pa_cons (pv 2) (pa_cons pe_int pa_nil))) (fun _ _ => rfl)) pa_nil)) (by rfl))
      (pss_one (ps_expr (pe_bm PySem.F.plainAttrs_list PySem.F.slot_list_append PySem.F.type_list_append mt_append (pv 4) (pa_cons (pe_tup (pa_cons (pv 11) (pa_cons (pc o__law_limits T.g__law_limits b__law_limits hr (by decide) (pa_cons (pv 2) (pa_cons pe_int pa_nil))) (pa_cons (pv 14) pa_nil)))) pa_nil))))))
      (pss_cons (ps_expr (pe_bm PySem.F.plainAttrs_list PySem.F.slot_list_append PySem.F.type_list_append mt_append (pv 4) (pa_cons (pe_tup (pa_cons (pe_ix ix_tup (pe_ix ix_list (pv 4) pe_int (fun _ _ => rfl)) pe_int (fun _ _ => rfl)) (pa_cons (pe_ix ix_tup (pe_ix ix_list (pv 4) pe_int (fun _ _ => rfl)) pe_int (fun _ _ => rfl)) (pa_cons (pe_ix ix_tup (pe_ix ix_list (pv 4) pe_int (fun _ _ => rfl)) pe_int (fun _ _ => rfl)) pa_nil)))) pa_nil)))
      (pss_cons (ps_if (pt_not (pt_val (pcG o__law_asked_right T.g__law_asked_right b__law_asked_right hr hg (by decide) (pa_cons (pv 3) (pa_cons (pv 8) (pa_cons (pv 9) (pa_cons (pe_op op_cat (pv 4) (pe_slice sl_list (pv 4) (po_some pe_int) (po_some pe_int))) pa_nil))))))) (pss_one (ps_ret pe_bl)) pss_nil)
      (pss_cons (ps_expr (pm o_Tray_put T.cls_Tray T.mt_Tray_put b_Tray_put hr (by decide) (pe_ix ix_tup (pv 3) pe_int (fun _ _ => rfl)) (pa_cons pe_int pa_nil)))
      (pss_cons (ps_expr (pm o_Tray_put T.cls_Tray T.mt_Tray_put b_Tray_put hr (by decide) (pe_ix ix_tup (pv 3) pe_int (fun _ _ => rfl)) (pa_cons (pe_op op_sub pe_int pe_int) pa_nil)))
      (pss_cons (ps_if (pt_not (pt_val (pcG o__law_asked_right T.g__law_asked_right b__law_asked_right hr hg (by decide) (pa_cons (pv 3) (pa_cons (pe_op op_cat (pv 8) (pe_lst (pa_cons pe_int pa_nil))) (pa_cons (pe_op op_cat (pv 9) (pe_lst (pa_cons (pe_op op_sub pe_int pe_int) pa_nil))) (pa_cons (pv 4) pa_nil))))))) (pss_one (ps_ret pe_bl)) pss_nil)
      (pss_cons (ps_setLc (i := 6) (own := [("_law_piece", 15)]) (g := gName 15) (tt := tYes) rfl sc_law.nd rfl rfl (sw_true rfl rfl rfl (by decide +kernel)) (pi_list (pv 9)) (blkOk_by (N := ["_law_script", "_law_k", "_law_purse_here", "_law_trays", "_law_asked", "_law_turn", "_law_others", "_law_size", "_law_outers", "_law_inners", "_law_limits_here", "_law_wide", "_law_floor", "_law_more", "_law_root", "_law_piece"]) (sc := defScope s_law) (own := [("_law_piece", 15)]) (by decide +kernel)) (fun _ _ _ _ _ => (pg_name (i := 15) sc_law.nd rfl (Or.inl rfl))) (fun _ _ _ _ _ => pts_nil) (fun _ _ _ _ _ => (pe_op op_add (pv 15) pe_int)))
      (pss_cons (ps_if (pt_not (pt_val (pcG o__law_asked_right T.g__law_asked_right b__law_asked_right hr hg (by decide) (pa_cons (pe_tup (pa_cons (pe_ix ix_tup (pv 3) pe_int (fun _ _ => rfl)) (pa_cons (pc o__law_tray T.g__law_tray b__law_tray hr (by decide) (pa_cons (pv 6) pa_nil)) pa_nil))) (pa_cons (pe_op op_cat (pv 8) (pe_lst (pa_cons pe_int pa_nil))) (pa_cons (pv 6) (pa_cons (pe_slice sl_list (pv 4) po_none (po_some pe_int)) pa_nil))))))) (pss_one (ps_ret pe_bl)) pss_nil)
      (pss_cons (ps_if (pt_not (pt_val (pcG o__law_asked_right T.g__law_asked_right b__law_asked_right hr hg (by decide) (pa_cons (pv 3) (pa_cons (pe_op op_cat (pv 8) (pe_lst (pa_cons pe_int pa_nil))) (pa_cons (pe_op op_cat (pv 9) (pe_lst (pa_cons (pe_op op_sub pe_int pe_int) pa_nil))) (pa_cons (pe_slice sl_list (pv 4) po_none (po_some pe_int)) pa_nil))))))) (pss_one (ps_ret pe_bl)) pss_nil)
      (pss_cons (ps_par (i := 8) (j := 9) (by rfl) sc_law.nd rfl rfl (by decide) rfl rfl (pa_cons (pc o__law_some T.g__law_some b__law_some hr (by decide) (pa_cons (pv 2) (pa_cons pe_int (pa_cons pe_int pa_nil)))) (pa_cons (pc o__law_some T.g__law_some b__law_some hr (by decide) (pa_cons (pv 2) (pa_cons pe_int (pa_cons pe_int pa_nil)))) pa_nil)) (by rfl))
      (pss_cons (ps_par (i := 10) (j := 11) (by rfl) sc_law.nd rfl rfl (by decide) rfl rfl (pa_cons (pc o__law_limits T.g__law_limits b__law_limits hr (by decide) (pa_cons (pv 2) (pa_cons pe_int pa_nil))) (pa_cons (pe_op op_add pe_int (pc o__law_take T.g__law_take b__law_take hr (by decide) (pa_cons (pv 2) (pa_cons (pe_ix ix_list (pe_lst (pa_cons pe_int (pa_cons pe_int pa_nil))) (pe_callTy (call_int1) (by rfl) T.f_int (by decide +kernel) (pa_cons (pe_cmpR op_eq (pc o__law_take T.g__law_take b__law_take hr (by decide) (pa_cons (pv 2) (pa_cons pe_int pa_nil))) pe_int (nomark _)) pa_nil)) (fun _ _ => rfl)) pa_nil)))) pa_nil)) (by rfl))
      (pss_cons (ps_set (i := 3) sc_law.nd rfl (Or.inl rfl) (pe_tup (pa_cons (pc o__law_tray T.g__law_tray b__law_tray hr (by decide) (pa_cons (pv 8) pa_nil)) (pa_cons (pc o__law_tray T.g__law_tray b__law_tray hr (by decide) (pa_cons (pv 9) pa_nil)) pa_nil))))
      (pss_cons (ps_if (pt_not (pt_val (pcG o__law_pairs_right T.g__law_pairs_right b__law_pairs_right hr hg (by decide) (pa_cons (pv 3) (pa_cons (pv 8) (pa_cons (pv 9) (pa_cons (pv 11) (pa_cons (pv 10) (pa_cons (pe_ix ix_list (pe_lst (pa_cons pe_int (pa_cons (pc o__law_take T.g__law_take b__law_take hr (by decide) (pa_cons (pv 2) (pa_cons pe_int pa_nil))) pa_nil))) (pc o__law_take T.g__law_take b__law_take hr (by decide) (pa_cons (pv 2) (pa_cons pe_int pa_nil))) (fun _ _ => rfl)) pa_nil))))))))) (pss_one (ps_ret pe_bl)) pss_nil)
      (pss_one (ps_for PassesOwn.never rfl (pi_list (pe_lst (pa_cons pe_int (pa_cons pe_int (pa_cons pe_int pa_nil))))) (pg_name (i := 7) sc_law.nd rfl (Or.inl rfl))
      (pss_cons (ps_set (i := 12) sc_law.nd rfl (Or.inl rfl) (pe_op op_sub (pc o__law_take T.g__law_take b__law_take hr (by decide) (pa_cons (pv 2) (pa_cons (pe_op op_add (pe_op op_mul pe_int (pv 7)) pe_int) pa_nil))) (pv 7)))
      (pss_cons (ps_set (i := 13) sc_law.nd rfl (Or.inl rfl) (pe_ix ix_list (pe_lst (pa_cons pe_int (pa_cons pe_int (pa_cons (pc o__law_take T.g__law_take b__law_take hr (by decide) (pa_cons (pv 2) (pa_cons pe_int pa_nil))) (pa_cons (pc o__law_take T.g__law_take b__law_take hr (by decide) (pa_cons (pv 2) (pa_cons (pv 7) pa_nil))) pa_nil))))) (pc o__law_take T.g__law_take b__law_take hr (by decide) (pa_cons (pv 2) (pa_cons pe_int pa_nil))) (fun _ _ => rfl)))
      (pss_one (ps_if (pt_not (pt_val (pc o__law_widest_right T.g__law_widest_right b__law_widest_right hr (by decide) (pa_cons (pv 12) (pa_cons (pe_op op_add (pv 12) (pv 13)) pa_nil))))) (pss_one (ps_ret pe_bl)) pss_nil))))))))))))))))))))))))
      (pss_one (ps_ret pe_bl))), spM_run (n := 1) (N := ["_law_script", "_law_k", "_law_purse_here", "_law_trays", "_law_asked", "_law_turn", "_law_others", "_law_size", "_law_outers", "_law_inners", "_law_limits_here", "_law_wide", "_law_floor", "_law_more", "_law_root", "_law_piece"]) (sim_seq (sim_for (sim_iR1 (sim_cons (sim_cb cb_max2 (sim_cons sim_int (sim_cons (sim_cb cb_min2 (sim_cons (sim_cb cb_len (sim_cons sim_var sim_nil)) (sim_cons sim_int sim_nil))) sim_nil))) sim_nil)) (sim_g0 g0_nm) (sim_seq (sim_asg (sim_call (sim_cons (sim_call (sim_cons sim_var (sim_cons sim_var sim_nil)) (fun _ _ => RepL.nilR)) sim_nil) (fun _ _ => RepL.nilR)) sim_nm)
      (sim_seq (sim_par (sim_cons (sim_call (sim_cons sim_var (sim_cons sim_int (sim_cons sim_int sim_nil))) (fun _ _ => RepL.nilR)) (sim_cons (sim_call (sim_cons sim_var (sim_cons sim_int (sim_cons sim_int sim_nil))) (fun _ _ => RepL.nilR)) sim_nil)))
      (sim_seq (sim_asg (sim_tup (sim_cons (sim_call (sim_cons sim_var sim_nil) (fun _ _ => RepL.nilR)) (sim_cons (sim_call (sim_cons sim_var sim_nil) (fun _ _ => RepL.nilR)) sim_nil))) sim_nm)
      (sim_seq (sim_asg (sim_lstO (sim_cons (sim_tup (sim_cons sim_int (sim_cons (sim_tup (sim_cons sim_int (sim_cons sim_non sim_nil))) (sim_cons sim_int sim_nil)))) sim_nil)) sim_nm)
      (sim_seq (sim_for (sim_iR1 (sim_cons sim_int sim_nil)) (sim_g0 g0_nm) (sim_seq (sim_par (sim_cons (sim_op os_add sim_int (sim_call (sim_cons sim_var (sim_cons sim_int sim_nil)) (fun _ _ => RepL.nilR))) (sim_cons (sim_op os_ixL (sim_lst (sim_cons sim_int (sim_cons (sim_op os_sub (sim_call (sim_cons sim_var (sim_cons sim_int sim_nil)) (fun _ _ => RepL.nilR)) sim_int) (sim_cons sim_int sim_nil)))) (sim_call (sim_cons sim_var (sim_cons sim_int sim_nil)) (fun _ _ => RepL.nilR))) sim_nil)))
      (sim_exp (sim_bml ml_append sim_var (sim_cons (sim_tup (sim_cons sim_var (sim_cons (sim_call (sim_cons sim_var (sim_cons sim_int sim_nil)) (fun _ _ => RepL.nilR)) (sim_cons sim_var sim_nil)))) sim_nil)))))
      (sim_seq (sim_exp (sim_bml ml_append sim_var (sim_cons (sim_tup (sim_cons (sim_op os_ixT (sim_op os_ixL sim_var sim_int) sim_int) (sim_cons (sim_op os_ixT (sim_op os_ixL sim_var sim_int) sim_int) (sim_cons (sim_op os_ixT (sim_op os_ixL sim_var sim_int) sim_int) sim_nil)))) sim_nil)))
      (sim_seq (sim_ifS (sim_not (sim_B (sim_call (sim_cons sim_var (sim_cons sim_var (sim_cons sim_var (sim_cons (sim_op os_catL sim_var (sim_sl ss_L sim_var (sim_part sim_int) (sim_part sim_int))) sim_nil)))) (fun _ _ => RepL.nilR)))) (sim_ret sim_bl) sim_next)
      (sim_seq (sim_exp (sim_meth (sim_op os_ixT sim_var sim_int) (sim_cons sim_int sim_nil) (fun _ _ => RepL.nilR)))
      (sim_seq (sim_exp (sim_meth (sim_op os_ixT sim_var sim_int) (sim_cons (sim_op os_sub sim_int sim_int) sim_nil) (fun _ _ => RepL.nilR)))
      (sim_seq (sim_ifS (sim_not (sim_B (sim_call (sim_cons sim_var (sim_cons (sim_op os_catL sim_var (sim_lst (sim_cons sim_int sim_nil))) (sim_cons (sim_op os_catL sim_var (sim_lst (sim_cons (sim_op os_sub sim_int sim_int) sim_nil))) (sim_cons sim_var sim_nil)))) (fun _ _ => RepL.nilR)))) (sim_ret sim_bl) sim_next)
      (sim_seq (sim_asg (sim_lc (gw_nm (by decide)) mg_nm (sim_iL sim_var) g0_nm sim_yesP (sim_op os_add sim_var sim_int)) sim_nm)
      (sim_seq (sim_ifS (sim_not (sim_B (sim_call (sim_cons (sim_tup (sim_cons (sim_op os_ixT sim_var sim_int) (sim_cons (sim_call (sim_cons sim_var sim_nil) (fun _ _ => RepL.nilR)) sim_nil))) (sim_cons (sim_op os_catL sim_var (sim_lst (sim_cons sim_int sim_nil))) (sim_cons sim_var (sim_cons (sim_sl ss_L sim_var sim_noP (sim_part sim_int)) sim_nil)))) (fun _ _ => RepL.nilR)))) (sim_ret sim_bl) sim_next)
      (sim_seq (sim_ifS (sim_not (sim_B (sim_call (sim_cons sim_var (sim_cons (sim_op os_catL sim_var (sim_lst (sim_cons sim_int sim_nil))) (sim_cons (sim_op os_catL sim_var (sim_lst (sim_cons (sim_op os_sub sim_int sim_int) sim_nil))) (sim_cons (sim_sl ss_L sim_var sim_noP (sim_part sim_int)) sim_nil)))) (fun _ _ => RepL.nilR)))) (sim_ret sim_bl) sim_next)
      (sim_seq (sim_par (sim_cons (sim_call (sim_cons sim_var (sim_cons sim_int (sim_cons sim_int sim_nil))) (fun _ _ => RepL.nilR)) (sim_cons (sim_call (sim_cons sim_var (sim_cons sim_int (sim_cons sim_int sim_nil))) (fun _ _ => RepL.nilR)) sim_nil)))
      (sim_seq (sim_par (sim_cons (sim_call (sim_cons sim_var (sim_cons sim_int sim_nil)) (fun _ _ => RepL.nilR)) (sim_cons (sim_op os_add sim_int (sim_call (sim_cons sim_var (sim_cons (sim_op os_ixL (sim_lst (sim_cons sim_int (sim_cons sim_int sim_nil))) (sim_cb cb_int (sim_cons (sim_op os_eqS (sim_call (sim_cons sim_var (sim_cons sim_int sim_nil)) (fun _ _ => RepL.nilR)) sim_int) sim_nil))) sim_nil)) (fun _ _ => RepL.nilR))) sim_nil)))
      (sim_seq (sim_asg (sim_tup (sim_cons (sim_call (sim_cons sim_var sim_nil) (fun _ _ => RepL.nilR)) (sim_cons (sim_call (sim_cons sim_var sim_nil) (fun _ _ => RepL.nilR)) sim_nil))) sim_nm)
      (sim_seq (sim_ifS (sim_not (sim_B (sim_call (sim_cons sim_var (sim_cons sim_var (sim_cons sim_var (sim_cons sim_var (sim_cons sim_var (sim_cons (sim_op os_ixL (sim_lst (sim_cons sim_int (sim_cons (sim_call (sim_cons sim_var (sim_cons sim_int sim_nil)) (fun _ _ => RepL.nilR)) sim_nil))) (sim_call (sim_cons sim_var (sim_cons sim_int sim_nil)) (fun _ _ => RepL.nilR))) sim_nil)))))) (fun _ _ => RepL.nilR)))) (sim_ret sim_bl) sim_next)
      (sim_for (sim_iL (sim_lst (sim_cons sim_int (sim_cons sim_int (sim_cons sim_int sim_nil))))) (sim_g0 g0_nm) (sim_seq (sim_asg (sim_op os_sub (sim_call (sim_cons sim_var (sim_cons (sim_op os_add (sim_op os_mul sim_int sim_var) sim_int) sim_nil)) (fun _ _ => RepL.nilR)) sim_var) sim_nm)
      (sim_seq (sim_asg (sim_op os_ixL (sim_lst (sim_cons sim_int (sim_cons sim_int (sim_cons (sim_call (sim_cons sim_var (sim_cons sim_int sim_nil)) (fun _ _ => RepL.nilR)) (sim_cons (sim_call (sim_cons sim_var (sim_cons sim_var sim_nil)) (fun _ _ => RepL.nilR)) sim_nil))))) (sim_call (sim_cons sim_var (sim_cons sim_int sim_nil)) (fun _ _ => RepL.nilR))) sim_nm)
      (sim_ifS (sim_not (sim_B (sim_call (sim_cons sim_var (sim_cons (sim_op os_add sim_var sim_var) sim_nil)) (fun _ _ => RepL.nilR)))) (sim_ret sim_bl) sim_next))))))))))))))))))))))
      (sim_ret sim_bl)) h⟩)⟩
end
end Qg
theorem PySem.Challenge.cw_fitwords_k42_classes_that_go_holds : PySem.Challenge.rw_fitwords_k42_classes_that_go.Holds :=
  Qe.end_gen Qg.m_law Qg.law_true Qg.ok_law
#print axioms PySem.Challenge.cw_fitwords_k42_classes_that_go_holds
