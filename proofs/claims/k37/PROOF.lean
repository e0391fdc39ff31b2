import PyProof.Rows.All
import Wide.All
import OpenK.AllK
import Wide.FinOn
import HandS.ForMost
import HandS.ForExc
import HandS.IsInst
import HandS.Defaults
import HandS.MakeKw
import HandS.Conv
import HandS.Wide
import HandS.WideMore
import HandS.Flow
import HandS.Style
import HandS.Head0
import HandS.Head1
import HandS.Head2
import HandS.HeadEnd
import HandS.HeadHook1
import HandS.HeadHook2
import HandS.HeadHook3
import HandS.HeadHook4
import HandS.EndBits
import HandS.SetFor
import HandS.Sort
import HandS.Strs
import HandS.TryOnly
import HandS.Zip
import OpenK.KOps
import PyProof.InstNe
import HandS.CallSlots
import HandS.Exc
import HandS.ExcOwn
import HandS.HotCalls
import KE.KExcIs
import HandS.ExcIs
import HandS.ExcField
import HandS.ExcInit
import HandS.TupAny
import KE.KRevSl
import KE.KFmtOwn
import HandS.OwnEq
import HandS.More
import PyProof.Rows.StrMeet
import PyProof.Conv_bool
import HandS.RaiseMore
import PyProof.StrBlock2
import HandS.Text
import HandS.StrMore
import HandS.FStr
import HandS.CallLocal
import HandS.MakeKwOnly
import KE.SortData
import KE.KTryMore
import KE.KExcInit
import KE.KIntText
import HandS.Flt
import HandS.Dict
import HandS.Iter
import HandS.SetKeys
import HandS.WordsDict
import HandS.Lambda
import HandS.HeadWalk
import KE.DataMinKey
import HandS.SortInts
import KE.KDictSum
import HandS.ListItems
import KE.KDictPairs
import KE.GoesEnum
import KE.KTupSum
import KE.KEqNest
import PyProof.ReprRoads
import PyProof.Rows.RegFStrParts
import PySem.Challenge.RW_fitwords_k37_sieves_refused
set_option Elab.async false
set_option linter.all false
set_option maxRecDepth 100000
set_option maxHeartbeats 4000000
namespace Qx
open PySem PySem.Spec PyProof.Rows L2
def refB {α : Type} : List Addr → Nat → List Addr → (Nat → List Addr → α) → α
  | [], vis, nx, k => k vis nx
  | r :: rs, vis, nx, k => match Nat.testBit vis r with
    | true => refB rs vis nx k
    | false => HandSHeadRun.frNat (Nat.lor vis (Nat.shiftLeft 1 r)) fun v => refB rs v (r :: nx) k
def frontB {α : Type} (g : Addr → Option Obj) : List Addr → Nat → List Addr → (Nat → List Addr → α) → α
  | [], vis, nx, k => k vis nx
  | a :: as, vis, nx, k => match g a with
    | some o => refB (He.refsD o) vis nx fun v n => frontB g as v n k
    | none => frontB g as vis nx k
def lvB (g : Addr → Option Obj) : Nat → Nat → List Addr → List Addr → List Addr
  | 0, _, fr, acc => acc ++ fr
  | d + 1, vis, fr, acc => frontB g fr vis [] fun v n => lvB g d v n (acc ++ fr)
def asB (g : Addr → Option Obj) (n : Nat) (xs : List Addr) : List Addr := lvB g n (Nat.shiftLeft 1 mainGlobals) [mainGlobals] xs
def obsC (n : Nat) (xs : List Addr) (fa : List He.Fa) (fn : List He.DefD) (ts : List He.Tab) (tf : List He.Defn) (ex : PySem.W.Frag → Bool) (g : Addr → Option Obj) : He.AlX := (He.obsT fa fn ts (He.frT g (asB g n xs)), ex (He.frT g (asB g n xs)) && He.tabsB g tf (He.frT g (asB g n xs)))
theorem saysC_of {as : List Addr} {fa : List He.Fa} {fn : List He.DefD} {ts : List He.Tab} {tf : List He.Defn} {ex : PySem.W.Frag → Bool} {w : World} {h : Heap} (e : ((He.obsT fa fn ts (He.frT h.get? as), ex (He.frT h.get? as) && He.tabsB h.get? tf (He.frT h.get? as)) : He.AlX) = He.valX fn ts w) : He.SaysX fa fn ts tf ex w h (He.frT h.get? as) := by
  have e1 : He.obsT fa fn ts (He.frT h.get? as) = He.valT fn ts w := congrArg (fun z : He.AlX => z.1) e
  have e2 : (ex (He.frT h.get? as) && He.tabsB h.get? tf (He.frT h.get? as)) = true := congrArg (fun z : He.AlX => z.2) e
  have b := Bool.and_eq_true_iff.mp e2
  have one : ∀ p ∈ tf, PySem.W.codeHdIn (He.frT h.get? as) (He.cT (He.frT h.get? as) p).1 (He.cT (He.frT h.get? as) p).2 = true ∧ ∃ o, h.get? (He.cT (He.frT h.get? as) p).2 = some o ∧ He.emptyTab o = true := fun p hp => by
    have z := Bool.and_eq_true_iff.mp (List.all_eq_true.mp b.2 p hp)
    refine ⟨z.1, ?_⟩
    have y := z.2
    split at y
    · exact ⟨_, by assumption, y⟩
    · cases y
  refine ⟨e1, b.1, fun p hp => (one p hp).1, fun p hp => ?_, fun p hp => ?_⟩
  · obtain ⟨o, g1, g2⟩ := (one p hp).2
    exact He.frT_none g1 g2
  · obtain ⟨o, g1, g2⟩ := (one p hp).2
    rw [g1, He.emptyTab_eq g2]
def hookC (n : Nat) (xs : List Addr) (fa : List He.Fa) (fn : List He.DefD) (ts : List He.Tab) (tf : List He.Defn) (ex : PySem.W.Frag → Bool) : PySem.W.Hook where
  α := He.AlX
  obs := fun s => obsC n xs fa fn ts tf ex s.heap.get?
  val := fun w => He.valX fn ts w
  says := fun w h => ∃ K : PySem.W.Frag, K.In h ∧ He.SaysX fa fn ts tf ex w h K
  of := fun _ _ e => ⟨_, He.frT_in, saysC_of e⟩
  keeps := fun _ _ _ ⟨K, hK, c⟩ k => ⟨K, PySem.W.Frag.In.keeps hK k, ⟨c.t, c.more, c.hd, c.out, fun p hp => k _ _ (c.empty p hp)⟩⟩
theorem obsC_eq {n : Nat} {xs : List Addr} {fa : List He.Fa} {fn : List He.DefD} {ts : List He.Tab} {tf : List He.Defn} {ex : PySem.W.Frag → Bool} {g : Addr → Option Obj} {s : Shared} (h : ∀ a, g a = s.heap.get? a) : obsC n xs fa fn ts tf ex g = (hookC n xs fa fn ts tf ex).obs s := by
  have e : g = s.heap.get? := funext h
  rw [e] <;> rfl
def KT : List String := ["NoneType", "int", "bool", "str", "list", "tuple", "dict"]
def exOne (K : PySem.W.Frag) (cs : List Str) (C : Str) : Bool :=
  He.eqO (PySem.W.findIn K (.ref (He.ga K C)) "__class__") (some (some (.builtin "object.__class__"))) && (decide (PySem.W.mroIn K (He.ga K C) (.type "object") = some true) &&
  (KT.all (fun t => decide (PySem.W.kitOne K (.type t) (.ref (He.ga K C)) = some false)) && (KT.all (fun t => decide (PySem.W.kitOne K (.ref (He.ga K C)) (.type t) = some false)) &&
  (cs.all (fun D => decide (C = D) || decide (PySem.W.kitOne K (.ref (He.ga K C)) (.ref (He.ga K D)) = some false)) && He.eqO (PySem.W.findIn K (.ref (He.ga K C)) "__ne__") (some (some (.builtin "object.__ne__")))))))
def exAll (K : PySem.W.Frag) (cs : List Str) : Bool :=
  He.eqO (PySem.W.specialIn K (.builtin "object.__class__") "__get__") (some (some (.builtin "getset_descriptor.__get__"))) && (decide (PySem.W.takesIn K (.builtin "object.__class__") = some true) && cs.all (exOne K cs))
inductive XN where
  | own (C : Str) | blt (n : String)
  deriving DecidableEq
def xv (K : PySem.W.Frag) : XN → Value
  | .own C => .ref (He.ga K C)
  | .blt n => .type n
def xcOne (K : PySem.W.Frag) (C : Str) : Bool :=
  He.eqO (PySem.W.findIn K (.ref (He.ga K C)) "__getattribute__") (some (some (.builtin "BaseException.__getattribute__"))) && (He.eqO (PySem.W.findIn K (.ref (He.ga K C)) "__getattr__") (some none) &&
  (decide (PySem.W.subIn K (.ref (He.ga K C)) (.type "BaseException") = some true) && (PySem.W.hasDictIn K (He.ga K C) && (He.eqO (PySem.W.findIn K (.ref (He.ga K C)) "__class__") (some (some (.builtin "object.__class__"))) &&
  (He.eqO (PySem.W.specialIn K (.builtin "object.__class__") "__get__") (some (some (.builtin "getset_descriptor.__get__"))) && (decide (PySem.W.takesIn K (.builtin "object.__class__") = some true) && (decide (PySem.W.mroIn K (He.ga K C) (.type "object") = some true) &&
  (PySem.W.keepIn K (.ref (He.ga K C)) && decide (PySem.W.typeIn K (.ref (He.ga K C)) = some (.type "type"))))))))))
def xkOne (K : PySem.W.Frag) (xa xm : List XN) (w : Str × List XN) : Bool :=
  xcOne K w.1 && (xa.all (fun q => decide (PySem.W.kitOne K (.ref (He.ga K w.1)) (xv K q) = some (decide (q ∈ w.2)))) && xm.all (fun q => decide (PySem.W.exmOne K (.ref (He.ga K w.1)) (xv K q) = some (decide (q ∈ w.2)))))
def xkAll (K : PySem.W.Frag) (xt : List (Str × List XN)) (xa xm : List XN) : Bool :=
  xt.all (xkOne K xa xm) && xa.all (fun q => decide (PySem.W.kitOne K (.type "NoneType") (xv K q) = some false))
structure EB where
  B : String
  nw : String
  ini : String
  tail : List Value
def nfAll (K : PySem.W.Frag) (cs : List Str) : Bool := cs.all fun C => KT.all (fun T => PySem.W.notFirst K (He.ga K C) (.type T)) && cs.all fun D => PySem.W.notFirst K (He.ga K C) (.ref (He.ga K D))
def shB (K : PySem.W.Frag) (cs : List Str) : Bool := cs.all fun C => He.eqO (PySem.W.findIn K (.ref (He.ga K C)) "__bool__") (some none) && He.eqO (PySem.W.findIn K (.ref (He.ga K C)) "__format__") (some (some (.builtin "object.__format__")))
def noneB (K : PySem.W.Frag) (cs : List Str) : Bool := cs.all fun C => PySem.W.subIn K (.ref (He.ga K C)) (.type "NoneType") == some false
inductive KV where
  | non | bl (b : Bool) | int (i : Int) | str (z : Str) | tup (l : List KV) | fn (C : Str)
mutual
def kRep (K : PySem.W.Frag) : KV → Value → Bool
  | .non, .none => true
  | .bl b, .bool c => b == c
  | .int i, .int j _ => decide (i = j)
  | .str z, .str y _ => decide (z = y)
  | .fn C, .ref a => decide (a = He.ga K C)
  | .tup l, .ref a => match K.lookup a with
    | some ⟨.type c, _, .seq its _, _⟩ => decide (c = "tuple") && (decide (its.size ≤ sizeLine) && kRepL K l its.toList)
    | _ => false
  | _, _ => false
def kRepL (K : PySem.W.Frag) : List KV → List Value → Bool
  | [], [] => true
  | k :: ks, u :: us => kRep K k u && kRepL K ks us
  | _, _ => false
end
def kdB (K : PySem.W.Frag) (x : Str) (kvs : List (Str × KV)) : Bool := kvs.all fun q => match PySem.W.nsIn K (He.ga K x) q.1 with
  | some (some u) => kRep K q.2 u
  | _ => false
end Qx
namespace Hd
open PySem PySem.Spec PyProof.Rows L2
/-! ### the text by places -/
def top (i : Nat) : Stmt := PySem.Challenge.pw_fitwords_k37_sieves_refused.main.body.getD i (.Pass ⟨0, 0, 0, 0⟩)
abbrev s_check_span : Stmt := top 47
abbrev s_check_row : Stmt := top 48
abbrev s_joined : Stmt := top 50
abbrev s_Sieve___init__ : Stmt := inClass (top 56) 0
abbrev s_Chain___init__ : Stmt := inClass (top 60) 0
abbrev s_Sieve___eq__ : Stmt := inClass (top 56) 1
abbrev s_Tray___init__ : Stmt := inClass (top 62) 0
abbrev s_Chain___eq__ : Stmt := inClass (top 60) 2
abbrev s_Tray___eq__ : Stmt := inClass (top 62) 2
abbrev s__law_cell : Stmt := top 64
abbrev s__law_purse : Stmt := top 65
abbrev s__law_take : Stmt := top 66
abbrev s__law_measure : Stmt := top 67
abbrev s__law_allowed : Stmt := top 68
abbrev s__law_row : Stmt := top 69
abbrev s_is_measure : Stmt := top 32
abbrev s_check_measure : Stmt := top 33
abbrev s_check_allowance : Stmt := top 45
abbrev s_Span___init__ : Stmt := inClass (top 46) 0
abbrev s__law_odd : Stmt := top 72
abbrev s_check_sieve : Stmt := top 58
abbrev s_either_of : Stmt := top 51
abbrev s_sieve_of : Stmt := top 57
abbrev s_Sieve_either : Stmt := inClass (top 56) 7
abbrev s_both_of : Stmt := top 52
abbrev s_Sieve_both : Stmt := inClass (top 56) 8
abbrev s_but_of : Stmt := top 53
abbrev s_Sieve_but : Stmt := inClass (top 56) 9
abbrev s_Sieve_unlike : Stmt := inClass (top 56) 10
abbrev s_Sieve_lets : Stmt := inClass (top 56) 4
abbrev s__law_kind_of : Stmt := top 70
abbrev s__law_asked : Stmt := top 71
abbrev s__law_refused : Stmt := top 73
abbrev s_Span___repr__ : Stmt := inClass (top 46) 3
abbrev s_Sieve_stretches : Stmt := inClass (top 56) 6
abbrev s_Sieve___len__ : Stmt := inClass (top 56) 2
abbrev s__law_stays : Stmt := top 74
abbrev s_law : Stmt := top 75
def d_check_span : He.DefD := ⟨("check_span", none), "check_span", "check_span", defArgs s_check_span, defBody s_check_span, defScope s_check_span, [], []⟩
def d_check_row : He.DefD := ⟨("check_row", none), "check_row", "check_row", defArgs s_check_row, defBody s_check_row, defScope s_check_row, [], []⟩
def d_joined : He.DefD := ⟨("joined", none), "joined", "joined", defArgs s_joined, defBody s_joined, defScope s_joined, [], []⟩
def d_Sieve___init__ : He.DefD := ⟨("Sieve", some "__init__"), "__init__", "Sieve.__init__", defArgs s_Sieve___init__, defBody s_Sieve___init__, defScope s_Sieve___init__, [.non], []⟩
def d_Chain___init__ : He.DefD := ⟨("Chain", some "__init__"), "__init__", "Chain.__init__", defArgs s_Chain___init__, defBody s_Chain___init__, defScope s_Chain___init__, [], []⟩
def d_Sieve___eq__ : He.DefD := ⟨("Sieve", some "__eq__"), "__eq__", "Sieve.__eq__", defArgs s_Sieve___eq__, defBody s_Sieve___eq__, defScope s_Sieve___eq__, [], []⟩
def d_Tray___init__ : He.DefD := ⟨("Tray", some "__init__"), "__init__", "Tray.__init__", defArgs s_Tray___init__, defBody s_Tray___init__, defScope s_Tray___init__, [], []⟩
def d_Chain___eq__ : He.DefD := ⟨("Chain", some "__eq__"), "__eq__", "Chain.__eq__", defArgs s_Chain___eq__, defBody s_Chain___eq__, defScope s_Chain___eq__, [], []⟩
def d_Tray___eq__ : He.DefD := ⟨("Tray", some "__eq__"), "__eq__", "Tray.__eq__", defArgs s_Tray___eq__, defBody s_Tray___eq__, defScope s_Tray___eq__, [], []⟩
def d__law_cell : He.DefD := ⟨("_law_cell", none), "_law_cell", "_law_cell", defArgs s__law_cell, defBody s__law_cell, defScope s__law_cell, [], []⟩
def d__law_purse : He.DefD := ⟨("_law_purse", none), "_law_purse", "_law_purse", defArgs s__law_purse, defBody s__law_purse, defScope s__law_purse, [], []⟩
def d__law_take : He.DefD := ⟨("_law_take", none), "_law_take", "_law_take", defArgs s__law_take, defBody s__law_take, defScope s__law_take, [], []⟩
def d__law_measure : He.DefD := ⟨("_law_measure", none), "_law_measure", "_law_measure", defArgs s__law_measure, defBody s__law_measure, defScope s__law_measure, [], []⟩
def d__law_allowed : He.DefD := ⟨("_law_allowed", none), "_law_allowed", "_law_allowed", defArgs s__law_allowed, defBody s__law_allowed, defScope s__law_allowed, [], []⟩
def d__law_row : He.DefD := ⟨("_law_row", none), "_law_row", "_law_row", defArgs s__law_row, defBody s__law_row, defScope s__law_row, [], []⟩
def d_is_measure : He.DefD := ⟨("is_measure", none), "is_measure", "is_measure", defArgs s_is_measure, defBody s_is_measure, defScope s_is_measure, [], []⟩
def d_check_measure : He.DefD := ⟨("check_measure", none), "check_measure", "check_measure", defArgs s_check_measure, defBody s_check_measure, defScope s_check_measure, [], []⟩
def d_check_allowance : He.DefD := ⟨("check_allowance", none), "check_allowance", "check_allowance", defArgs s_check_allowance, defBody s_check_allowance, defScope s_check_allowance, [], []⟩
def d_Span___init__ : He.DefD := ⟨("Span", some "__init__"), "__init__", "Span.__init__", defArgs s_Span___init__, defBody s_Span___init__, defScope s_Span___init__, [.int (0), .int (0)], []⟩
def d__law_odd : He.DefD := ⟨("_law_odd", none), "_law_odd", "_law_odd", defArgs s__law_odd, defBody s__law_odd, defScope s__law_odd, [], []⟩
def d_check_sieve : He.DefD := ⟨("check_sieve", none), "check_sieve", "check_sieve", defArgs s_check_sieve, defBody s_check_sieve, defScope s_check_sieve, [], []⟩
def d_either_of : He.DefD := ⟨("either_of", none), "either_of", "either_of", defArgs s_either_of, defBody s_either_of, defScope s_either_of, [], []⟩
def d_sieve_of : He.DefD := ⟨("sieve_of", none), "sieve_of", "sieve_of", defArgs s_sieve_of, defBody s_sieve_of, defScope s_sieve_of, [], []⟩
def d_Sieve_either : He.DefD := ⟨("Sieve", some "either"), "either", "Sieve.either", defArgs s_Sieve_either, defBody s_Sieve_either, defScope s_Sieve_either, [], []⟩
def d_both_of : He.DefD := ⟨("both_of", none), "both_of", "both_of", defArgs s_both_of, defBody s_both_of, defScope s_both_of, [], []⟩
def d_Sieve_both : He.DefD := ⟨("Sieve", some "both"), "both", "Sieve.both", defArgs s_Sieve_both, defBody s_Sieve_both, defScope s_Sieve_both, [], []⟩
def d_but_of : He.DefD := ⟨("but_of", none), "but_of", "but_of", defArgs s_but_of, defBody s_but_of, defScope s_but_of, [], []⟩
def d_Sieve_but : He.DefD := ⟨("Sieve", some "but"), "but", "Sieve.but", defArgs s_Sieve_but, defBody s_Sieve_but, defScope s_Sieve_but, [], []⟩
def d_Sieve_unlike : He.DefD := ⟨("Sieve", some "unlike"), "unlike", "Sieve.unlike", defArgs s_Sieve_unlike, defBody s_Sieve_unlike, defScope s_Sieve_unlike, [], []⟩
def d_Sieve_lets : He.DefD := ⟨("Sieve", some "lets"), "lets", "Sieve.lets", defArgs s_Sieve_lets, defBody s_Sieve_lets, defScope s_Sieve_lets, [], []⟩
def d__law_kind_of : He.DefD := ⟨("_law_kind_of", none), "_law_kind_of", "_law_kind_of", defArgs s__law_kind_of, defBody s__law_kind_of, defScope s__law_kind_of, [], []⟩
def d__law_asked : He.DefD := ⟨("_law_asked", none), "_law_asked", "_law_asked", defArgs s__law_asked, defBody s__law_asked, defScope s__law_asked, [], []⟩
def d__law_refused : He.DefD := ⟨("_law_refused", none), "_law_refused", "_law_refused", defArgs s__law_refused, defBody s__law_refused, defScope s__law_refused, [], []⟩
def d_Span___repr__ : He.DefD := ⟨("Span", some "__repr__"), "__repr__", "Span.__repr__", defArgs s_Span___repr__, defBody s_Span___repr__, defScope s_Span___repr__, [], []⟩
def d_Sieve_stretches : He.DefD := ⟨("Sieve", some "stretches"), "stretches", "Sieve.stretches", defArgs s_Sieve_stretches, defBody s_Sieve_stretches, defScope s_Sieve_stretches, [], []⟩
def d_Sieve___len__ : He.DefD := ⟨("Sieve", some "__len__"), "__len__", "Sieve.__len__", defArgs s_Sieve___len__, defBody s_Sieve___len__, defScope s_Sieve___len__, [], []⟩
def d__law_stays : He.DefD := ⟨("_law_stays", none), "_law_stays", "_law_stays", defArgs s__law_stays, defBody s__law_stays, defScope s__law_stays, [], []⟩
def d_law : He.DefD := ⟨("law", none), "law", "law", defArgs s_law, defBody s_law, defScope s_law, [], []⟩
def fn : List He.DefD := [d_check_span, d_check_row, d_joined, d_Sieve___init__, d_Chain___init__, d_Sieve___eq__, d_Tray___init__, d_Chain___eq__, d_Tray___eq__, d__law_cell, d__law_purse, d__law_take, d__law_measure, d__law_allowed, d__law_row, d_is_measure, d_check_measure, d_check_allowance, d_Span___init__, d__law_odd, d_check_sieve, d_either_of, d_sieve_of, d_Sieve_either, d_both_of, d_Sieve_both, d_but_of, d_Sieve_but, d_Sieve_unlike, d_Sieve_lets, d__law_kind_of, d__law_asked, d__law_refused, d_Span___repr__, d_Sieve_stretches, d_Sieve___len__, d__law_stays, d_law]
def fa : List He.Fa := [.glo "check_span", .glo "check_row", .glo "joined", .glo "_law_cell", .glo "_law_purse", .glo "_law_take", .glo "_law_measure", .glo "_law_allowed", .glo "_law_row", .glo "is_measure", .glo "check_measure", .glo "check_allowance", .glo "_law_odd", .glo "check_sieve", .glo "either_of", .glo "sieve_of", .glo "both_of", .glo "but_of", .glo "_law_kind_of", .glo "_law_asked", .glo "_law_refused", .glo "_law_stays", .glo "law", .glo "FitError", .glo "NoMeasure", .glo "NoAllowance", .glo "NoSpan", .glo "NoLimits", .glo "NoOption", .glo "NoNew", .glo "NoDrawing", .glo "NoWants", .glo "NoZeros", .glo "NoSieve", .glo "NoTray", .glo "NoRow", .glo "ReadError", .glo "NoWord", .glo "NoLine", .glo "MissError", .glo "NoName", .glo "NoPlace", .glo "RoomError", .glo "TooLong", .glo "Span", .glo "Sieve", .glo "Chain", .glo "Tray", .free "isinstance", .free "list", .free "tuple", .free "sorted", .free "max", .free "len", .free "sum", .free "abs", .free "range", .free "int", .free "bool", .free "min", .free "any", .free "ValueError", .free "repr", .meth "Sieve" "__eq__", .meth "Chain" "__eq__", .meth "Tray" "__eq__", .meth "Sieve" "either", .meth "Sieve" "both", .meth "Sieve" "but", .meth "Sieve" "unlike", .meth "Sieve" "lets", .meth "Span" "__repr__", .meth "Sieve" "stretches", .meth "Sieve" "__len__", .cls "Span", .mkr "Span", .noat "Span" "size", .noat "Span" "above", .noat "Span" "below", .noat "Span" "low", .noat "Span" "high", .cls "Sieve", .mkr "Sieve", .noat "Sieve" "runs", .cls "Chain", .mkr "Chain", .noat "Chain" "kept", .cls "Tray", .mkr "Tray", .noat "Tray" "kept"]
def tf : List He.Defn := [d_Sieve_unlike.at_]
def ex (K : PySem.W.Frag) : Bool := Qx.exAll K ["Span", "Sieve", "Chain", "Tray"] && (Qx.xkAll K [("NoAllowance", [.own "NoAllowance", .own "FitError", .blt "ValueError", .blt "Exception", .blt "BaseException"]), ("NoMeasure", [.own "NoMeasure", .own "FitError", .blt "ValueError", .blt "Exception", .blt "BaseException"]), ("NoSieve", [.own "NoSieve", .own "FitError", .blt "ValueError", .blt "Exception", .blt "BaseException"]), ("NoSpan", [.own "NoSpan", .own "FitError", .blt "ValueError", .blt "Exception", .blt "BaseException"])] [.blt "ValueError", .own "FitError", .own "MissError", .own "NoAllowance", .own "NoDrawing", .own "NoLimits", .own "NoLine", .own "NoMeasure", .own "NoName", .own "NoNew", .own "NoOption", .own "NoPlace", .own "NoRow", .own "NoSieve", .own "NoSpan", .own "NoTray", .own "NoWants", .own "NoWord", .own "NoZeros", .own "ReadError", .own "RoomError", .own "TooLong"] [.own "FitError"] && (PySem.W.excIn K (He.ga K "NoAllowance") [.type "ValueError", .type "Exception", .type "BaseException", .type "object"] "ValueError.__new__" && (PySem.W.excIn K (He.ga K "NoMeasure") [.type "ValueError", .type "Exception", .type "BaseException", .type "object"] "ValueError.__new__" && (PySem.W.excIn K (He.ga K "NoSieve") [.type "ValueError", .type "Exception", .type "BaseException", .type "object"] "ValueError.__new__" && (PySem.W.excIn K (He.ga K "NoSpan") [.type "ValueError", .type "Exception", .type "BaseException", .type "object"] "ValueError.__new__" && (Qx.nfAll K ["Span", "Sieve", "Chain", "Tray"] && (Qx.shB K ["Span", "Sieve", "Chain", "Tray"] && (Qx.noneB K ["Span", "Sieve", "Chain", "Tray"]))))))))
abbrev R : PySem.W.OpenRow := PySem.W.OpenLaw.row PySem.Challenge.rw_fitwords_k37_sieves_refused
def loose0 : List Str := ["_wall", "FitError", "NoMeasure", "NoAllowance", "NoSpan", "NoLimits", "NoOption", "NoNew", "NoDrawing", "NoWants", "NoZeros", "NoSieve", "NoTray", "NoRow", "ReadError", "NoWord", "NoLine", "MissError", "NoName", "NoPlace", "RoomError", "TooLong", "INCH", "MOST_BY_WORDS", "ONES", "TEENS", "COUNTS", "TENS", "GREAT_SHARES", "SHARES"]
def loose1 : List Str := ["is_measure", "check_measure", "minus_of", "by_parts", "by_inches", "doubled", "by_halves", "counted", "by_words", "TELLERS", "shown", "shown_span", "check_allowance", "Span", "check_span", "check_row", "joined", "either_of", "both_of", "but_of", "shown_run", "shown_runs", "Sieve", "sieve_of", "check_sieve", "Chain", "Tray", "_law_cell", "_law_purse", "_law_take"]
def loose2 : List Str := ["_law_measure", "_law_allowed", "_law_row", "_law_kind_of", "_law_asked", "_law_odd", "_law_refused", "_law_stays"]
def loose : List Str := loose0 ++ loose1 ++ loose2
def tabs : List He.Tab := []
abbrev hk : PySem.W.Hook := Qx.hookC 5 [] fa fn tabs tf ex
def ob (s : PySem.W.SharedT) : He.AlX := Qx.obsC 5 [] fa fn tabs tf ex (HandSHeadRun.getT s)
theorem ob_eq (s : PySem.W.SharedT) : ob s = hk.obs s.abs := Qx.obsC_eq (HandSHeadRun.getT_eq s)
abbrev RunAt (w : World) : Prop := HandSHeadRun.RunEq R (PySem.W.view R.prog [75]) hk ob 20000 loose w
theorem runF (w : World) : RunAt (w.withFollow "special-get-raises" false) := by
  intro os
  kernel_rfl
theorem runT (w : World) : RunAt (w.withFollow "special-get-raises" true) := by
  intro os
  kernel_rfl
theorem run (w : World) : RunAt w := PySem.W.byRow2 (P := RunAt) "special-get-raises" runF runT w
end Hd
namespace Gx
open PySem PySem.Spec PyProof.Rows L2
/-! ### what is known of a heap: the cells that may change, and facts that stay -/
abbrev Fact := Hp → Prop
def Mn (f : Fact) : Prop := ∀ H H', Same H H' → f H → f H'
def ers (m : List Addr) (H : Hp) : Hp := fun a => if a ∈ m then none else H a
theorem ers_sub (m : List Addr) (H : Hp) : Same (ers m H) H := fun b o e => by
  unfold ers at e
  by_cases h : b ∈ m
  · rw [if_pos h] at e; cases e
  · rw [if_neg h] at e; exact e
theorem ers_out {m : List Addr} {H : Hp} {a : Addr} (h : a ∉ m) : ers m H a = H a := if_neg h
theorem ers_mono {m : List Addr} {H H' : Hp} (e : Same H H') : Same (ers m H) (ers m H') := fun b o q => by
  have hb : b ∉ m := fun h => by unfold ers at q; rw [if_pos h] at q; cases q
  rw [ers_out hb] at q ⊢
  exact e b o q
theorem ers_less {m m' : List Addr} {H : Hp} (h : ∀ a ∈ m', a ∈ m) : Same (ers m H) (ers m' H) := fun b o q => by
  have hb : b ∉ m := fun h => by unfold ers at q; rw [if_pos h] at q; cases q
  rw [ers_out hb] at q
  rw [ers_out fun z => hb (h b z)]
  exact q
abbrev Cell := Addr × (HO → Prop)
structure Kn (M : List Cell) (fs : List Fact) (H : Hp) : Prop where
  cel : ∀ x ∈ M, ∃ o, H x.1 = some o ∧ x.2 o
  nd : (M.map (·.1)).Nodup
  fac : ∀ f ∈ fs, Mn f ∧ f (ers (M.map (·.1)) H)
section
variable {M : List Cell} {fs fs' : List Fact} {f : Fact} {H H' : Hp} {p : Addr} {o : HO} {P P' : HO → Prop} {x y : Cell}
theorem Kn.get (k : Kn M fs H) (h : f ∈ fs) : f H := (k.fac f h).1 _ _ (ers_sub _ _) (k.fac f h).2
theorem Kn.same (k : Kn M fs H) (e : Same H H') : Kn M fs H' :=
  ⟨fun x hx => let ⟨o, h1, h2⟩ := k.cel x hx; ⟨o, e _ _ h1, h2⟩, k.nd, fun f hf => ⟨(k.fac f hf).1, (k.fac f hf).1 _ _ (ers_mono e) (k.fac f hf).2⟩⟩
theorem Kn.sub (k : Kn M fs H) (h : ∀ f ∈ fs', f ∈ fs) : Kn M fs' H := ⟨k.cel, k.nd, fun f hf => k.fac f (h f hf)⟩
theorem Kn.hd {gs : List Fact} (k : Kn M (f :: gs) H) (h : ∀ g ∈ fs, g ∈ gs) : Kn M (f :: fs) H := k.sub fun g hg => by
  rcases List.mem_cons.mp hg with e | e
  · rw [e]; exact List.mem_cons_self
  · exact List.mem_cons_of_mem _ (h g e)
theorem Kn.tl (k : Kn M (f :: fs) H) : Kn M fs H := k.sub fun _ h => List.mem_cons_of_mem _ h
theorem Kn.notin (k : Kn M fs H) (hp : H p = none) : p ∉ M.map (·.1) := fun h => by
  obtain ⟨x, hx, e⟩ := List.mem_map.mp h
  obtain ⟨o, h1, _⟩ := k.cel x hx
  rw [e, hp] at h1
  cases h1
theorem same_new (hp : H p = none) : Same H (upd H p o) := fun b u e => by
  rw [upd_ne (ne_of_none e hp)]
  exact e
theorem Kn.new (k : Kn M fs H) (hp : H p = none) (mn : Mn f) (h : ∀ G : Hp, G p = some o → f G) : Kn M (f :: fs) (upd H p o) := by
  have k2 := k.same (same_new (o := o) hp)
  refine ⟨k2.cel, k2.nd, fun g hg => ?_⟩
  rcases List.mem_cons.mp hg with rfl | hg
  · exact ⟨mn, h _ (by rw [ers_out (k.notin hp)]; exact upd_same)⟩
  · exact k2.fac g hg
theorem Kn.set (k : Kn ((p, P) :: M) fs H) (h : P' o) : Kn ((p, P') :: M) fs (upd H p o) := by
  have nd := List.nodup_cons.mp k.nd
  refine ⟨fun x hx => ?_, k.nd, fun g hg => ?_⟩
  · rcases List.mem_cons.mp hx with rfl | hx
    · exact ⟨o, upd_same, h⟩
    · obtain ⟨u, h1, h2⟩ := k.cel x (List.mem_cons_of_mem _ hx)
      refine ⟨u, ?_, h2⟩
      rw [upd_ne fun e => nd.1 (List.mem_map.mpr ⟨x, hx, e⟩)]
      exact h1
  · refine ⟨(k.fac g hg).1, (k.fac g hg).1 _ _ (fun b u e => ?_) (k.fac g hg).2⟩
    have hb : b ∉ ((p, P) :: M).map (·.1) := fun h => by unfold ers at e; rw [if_pos h] at e; cases e
    rw [ers_out hb] at e
    have hb2 : b ∉ ((p, P') :: M).map (·.1) := hb
    rw [ers_out hb2, upd_ne fun z => hb (by rw [z]; exact List.mem_cons_self)]
    exact e
theorem Kn.freeze (k : Kn ((p, P) :: M) fs H) (mn : Mn f) (h : ∀ (G : Hp) o, G p = some o → P o → f G) : Kn M (f :: fs) H := by
  have nd := List.nodup_cons.mp k.nd
  refine ⟨fun x hx => k.cel x (List.mem_cons_of_mem _ hx), nd.2, fun g hg => ?_⟩
  rcases List.mem_cons.mp hg with rfl | hg
  · obtain ⟨o, h1, h2⟩ := k.cel _ List.mem_cons_self
    exact ⟨mn, h _ o (by rw [ers_out nd.1]; exact h1) h2⟩
  · exact ⟨(k.fac g hg).1, (k.fac g hg).1 _ _ (ers_less fun a ha => List.mem_cons_of_mem _ ha) (k.fac g hg).2⟩
theorem Kn.drop (k : Kn ((p, P) :: M) fs H) : Kn M fs H :=
  ⟨fun x hx => k.cel x (List.mem_cons_of_mem _ hx), (List.nodup_cons.mp k.nd).2, fun g hg => ⟨(k.fac g hg).1, (k.fac g hg).1 _ _ (ers_less fun a ha => List.mem_cons_of_mem _ ha) (k.fac g hg).2⟩⟩
theorem Kn.swap (k : Kn (x :: y :: M) fs H) : Kn (y :: x :: M) fs H := by
  have n1 := List.nodup_cons.mp k.nd
  have n2 := List.nodup_cons.mp n1.2
  refine ⟨fun z hz => k.cel z ?_, ?_, fun g hg => ⟨(k.fac g hg).1, (k.fac g hg).1 _ _ (ers_less ?_) (k.fac g hg).2⟩⟩
  · rcases List.mem_cons.mp hz with rfl | hz
    · exact List.mem_cons_of_mem _ List.mem_cons_self
    · rcases List.mem_cons.mp hz with rfl | hz
      · exact List.mem_cons_self
      · exact List.mem_cons_of_mem _ (List.mem_cons_of_mem _ hz)
  · refine List.nodup_cons.mpr ⟨fun z => ?_, List.nodup_cons.mpr ⟨fun z => n1.1 (List.mem_cons_of_mem _ z), n2.2⟩⟩
    rcases List.mem_cons.mp z with z | z
    · exact n1.1 (by rw [← z]; exact List.mem_cons_self)
    · exact n2.1 z
  · intro a ha
    rcases List.mem_cons.mp ha with rfl | ha
    · exact List.mem_cons_of_mem _ List.mem_cons_self
    · rcases List.mem_cons.mp ha with rfl | ha
      · exact List.mem_cons_self
      · exact List.mem_cons_of_mem _ (List.mem_cons_of_mem _ ha)
theorem Kn.cell (k : Kn ((p, P) :: M) fs H) : ∃ o, H p = some o ∧ P o := k.cel _ List.mem_cons_self
end
/-! ### the usual facts -/
section
variable {K : PySem.W.Frag} {H H' : Hp} {a p : Addr} {xs : List V} {M : List Cell} {fs : List Fact} {C : Addr}
theorem rd_same {u : HO} (e : Same H H') (h : Rd H a u) : Rd H' a u := by
  rcases h with h | ⟨o, h⟩
  · exact .inl (e _ _ h)
  · exact .inr ⟨o, e _ _ h⟩
theorem sqt_same (e : Same H H') (h : SqT K H a xs) : SqT K H' a xs := by
  rcases h with h | h
  · exact .inl (rd_same e h)
  · exact .inr h
def fL (K : PySem.W.Frag) (a : Addr) (xs : List V) : Fact := fun H => SqL K H a xs
def fO (a : Addr) (o : HO) : Fact := fun H => H a = some o
theorem mn_L : Mn (fL K a xs) := fun _ _ e h => e.seq h
theorem Kn.obj {o : HO} (k : Kn M fs H) (h : fO a o ∈ fs) : H a = some o := k.get h
def isL (xs : List V) : HO → Prop := fun o => o = .lst xs
theorem Kn.lst (k : Kn ((p, isL xs) :: M) fs H) : H p = some (.lst xs) := by
  obtain ⟨o, h1, h2⟩ := k.cell
  rw [h2] at h1
  exact h1
end
theorem sl {n : Nat} (h : n.ble 1000 = true) : n ≤ sizeLine := Nat.le_trans (Nat.le_of_ble_eq_true h) (by decide)
/-! ### answers to what a reading asks -/
section
variable {K : PySem.W.Frag} {H H' : Hp} {a p : Addr} {xs : List V} {M : List Cell} {fs : List Fact} {C : Addr} {G : Addr → Prop} {A B : Prop}
theorem br {c : Prop} [Decidable c] (h1 : c → A) (h2 : ¬ c → B) : if decide c = true then A else B := by
  by_cases h : c
  · rw [if_pos (decide_eq_true h)]; exact h1 h
  · rw [if_neg (by rw [decide_eq_false h]; exact Bool.false_ne_true)]; exact h2 h
end
/-! ### a def of the text, with its promise -/
section
variable {X : Cx} {P : Program} {w : World} {K : PySem.W.Frag} {mg : Str → Option Value} {base : Heap} {d : He.DefD} {CX : CXT} {k j : Nat} {ps : List Str} {sp : Sp}
structure DOk (P : Program) (w : World) (K : PySem.W.Frag) (mg : Str → Option Value) (base : Heap) (d : He.DefD) (CX : CXT) (k : Nat) (ps : List Str) (sp : Sp) : Prop where
  ex : ∃ fd, FunD K d.name d.qual d.params d.body d.scope (d.dvs K) (d.kws K) (He.fAd K d.at_) fd ∧ FnOk P w K mg base CX k (He.fAd K d.at_) fd ps sp
def BdN (d : He.DefD) (ps : List Str) : Prop := d.dfl = [] ∧ ∀ (kV doc pm : Value) (an : Option Addr) (cdv ct : Value) (us : List Value), us.length = ps.length → bindArgs (PySem.W.fnOf d.name d.qual d.params d.body d.scope .none kV doc pm an cdv ct) ⟨us, []⟩ = pure (ps.zip us)
theorem FunD.bdN {fd : FuncData} (F : FunD K d.name d.qual d.params d.body d.scope (d.dvs K) (d.kws K) (He.fAd K d.at_) fd) (h : BdN d ps) : Binds K fd ps [] := by
  have e : d.dvs K = [] := by unfold He.DefD.dvs; rw [h.1]; rfl
  rw [e] at F
  exact F.bindsN h.2
theorem pc {x : Str} {p pos : Pos} {e : Expr} {es : List Expr} {t : TA} (D : DOk X.prog X.w X.K X.mg X.base d CX0 k ps sp) (hm : X.mg x = some (.ref (He.fAd X.K d.at_))) (hb : BdN d ps) (hr : Room j X.A) (hj : k ≤ j) (ha : PA X (e :: es) t) (hg : Gl X x := by rfl)
    (hdb : (x == ("__debug__" : Str)) = false := by decide) (he : starEach (e :: es) X.env = (false, eval e X.env) :: starEach es X.env := by rfl) (hpl : (backTo pos (starEach es X.env)).any (·.1) = false := by rfl) :
    PE X (.Call (.Name x p) (e :: es) [] pos) (tCall sp [] E0 t) := by
  obtain ⟨fd, F, G⟩ := D.ex
  exact pe_call G (hr.mono hj) hg hm F.kp (FunD.bdN F hb) .nil pass0 ha hdb he hpl
def BdD (K : PySem.W.Frag) (d : He.DefD) (ps : List Str) (dv : List V) : Prop := ∀ fd, FunD K d.name d.qual d.params d.body d.scope (d.dvs K) (d.kws K) (He.fAd K d.at_) fd → ∃ ds, Vals dv ds ∧ Binds K fd ps ds
def BdK (K : PySem.W.Frag) (d : He.DefD) (ps : List Str) (n : Nat) (ks : List Str) (gV : List V → List V → List V) : Prop := ∀ fd, FunD K d.name d.qual d.params d.body d.scope (d.dvs K) (d.kws K) (He.fAd K d.at_) fd → ∃ g, KBn K fd ps n ks g gV
section
variable {x : Str} {p pos : Pos} {e : Expr} {es : List Expr} {kws : List Keyword} {t tk : TA} {n : Nat} {ks : List Str} {gV : List V → List V → List V} {C : Addr}
end
end
end Gx

namespace Gx
open PySem PySem.Spec PyProof.Rows L2
/-! ### steps: what a reading asks, construct by construct -/
section
variable {K : PySem.W.Frag} {H : Hp} {σ : L2.St} {Q : VK} {QT : Bool → Hp → Prop} {QA : List V → Hp → Prop} {v x y : V} {i j : Int} {n : Nat} {ta tb te tc : TE} {t u : TT} {tA tR : TA} {r r' : R2} {tS uS : TS} {nx : L2.St → Hp → Prop} {rt : VK} {bk ct : L2.St → Hp → Prop} {a p C : Addr} {xs : List V} {M : List Cell} {fs : List Fact}
-- operators by values
theorem dec_int : decide (V.int i = V.int j) = decide (i = j) := by
  by_cases e : i = j
  · rw [decide_eq_true e, decide_eq_true (congrArg V.int e)]
  · rw [decide_eq_false e, decide_eq_false fun z => e (V.int.inj z)]
theorem dec_bl {b c : Bool} : decide (V.bl b = V.bl c) = decide (b = c) := by
  cases b <;> cases c <;> decide
theorem dec_str {b c : Str} : decide (V.str b = V.str c) = decide (b = c) := by
  by_cases e : b = c
  · rw [decide_eq_true e, decide_eq_true (congrArg V.str e)]
  · rw [decide_eq_false e, decide_eq_false fun z => e (V.str.inj z)]
theorem g_sub {to ti : TE} {s : TSet} {w : L2.St → Hp → Prop} (k : to σ H fun o H1 => ti σ H1 fun i H2 => s o i v H2 fun H3 => w σ H3) : gSub to ti s v σ H w := k
-- isinstance
theorem kB1 : kitB "int" "int" = some true := by decide +kernel
theorem kB2 : kitB "int" "bool" = some false := by decide +kernel
theorem kB3 : kitB "bool" "bool" = some true := by decide +kernel
theorem kB4 : kitB "bool" "int" = some true := by decide +kernel
theorem kB5 : kitB "str" "str" = some true := by decide +kernel
theorem kB6 : kitB "tuple" "tuple" = some true := by decide +kernel
theorem kB7 : kitB "NoneType" "bool" = some false := by decide +kernel
theorem kB8 : kitB "NoneType" "int" = some false := by decide +kernel
theorem kB9 : kitB "NoneType" "tuple" = some false := by decide +kernel
theorem kB10 : kitB "str" "int" = some false := by decide +kernel
structure InsK (K : PySem.W.Frag) (C : Addr) : Prop where
  cl : Cls K C
  ha : PySem.W.findIn K (.ref C) "__class__" = some (some (.builtin "object.__class__"))
  hn : PySem.W.specialIn K (.builtin "object.__class__") "__get__" = some (some (.builtin "getset_descriptor.__get__"))
  htk : PySem.W.takesIn K (.builtin "object.__class__") = some true
  hm : PySem.W.mroIn K C (.type "object") = some true
end
end Gx

namespace Gx
open PySem PySem.Spec PyProof.Rows L2
theorem Kn.exact {p : Addr} {Pr : HO → Prop} {M : List Cell} {fs : List Fact} {H : Hp} (k : Kn ((p, Pr) :: M) fs H) : ∃ o, Pr o ∧ Kn ((p, fun u => u = o) :: M) fs H := by
  obtain ⟨o, h1, h2⟩ := k.cell
  refine ⟨o, h2, fun x hx => ?_, k.nd, k.fac⟩
  rcases List.mem_cons.mp hx with rfl | hx
  · exact ⟨o, h1, rfl⟩
  · exact k.cel x (List.mem_cons_of_mem _ hx)
theorem Kn.cons {M : List Cell} {fs gs : List Fact} {H : Hp} (k : Kn M (gs ++ fs) H) : Kn M fs H := k.sub fun _ h => List.mem_append_right _ h
/-! ### fields, new instances -/
section
variable {K : PySem.W.Frag} {H : Hp} {σ : L2.St} {Q : VK} {E : XK} {v x y : V} {i j : Int} {n m : Nat} {ta tb te tc : TE} {tA tK : TA} {nx : L2.St → Hp → Prop} {rt : VK} {bk ct : L2.St → Hp → Prop} {a p C : Addr} {xs : List V} {M : List Cell} {fs : List Fact} {f : Str} {sp : Sp}
end
/-! ### loops -/
section
variable {K : PySem.W.Frag} {H : Hp} {σ : L2.St} {Q : VK} {v x : V} {tl : TE} {tA : TA} {g : TG} {tb : TS} {nx : L2.St → Hp → Prop} {rt : VK} {bk ct : L2.St → Hp → Prop} {a p : Addr} {xs : List V} {M : List Cell} {fs : List Fact}
theorem drop_get {α : Type} {xs : List α} {i : Nat} {x : α} (h : xs[i]? = some x) : xs.drop i = x :: xs.drop (i + 1) := by
  have hl := (List.getElem?_eq_some_iff.mp h).1
  have e := (List.getElem?_eq_some_iff.mp h).2
  rw [List.drop_eq_getElem_cons hl, e]
end
/-! ### slices, comprehensions -/
section
variable {K : PySem.W.Frag} {H : Hp} {σ : L2.St} {Q : VK} {v x : V} {te tl : TE} {t : TT} {tA : TA} {g : TG} {a p : Addr} {xs : List V} {M : List Cell} {fs : List Fact} {vs : List Nat}
theorem s_iteT {A B : Prop} (k : A) : if true = true then A else B := by rw [if_pos rfl]; exact k
theorem s_iteF {A B : Prop} (k : B) : if false = true then A else B := by rw [if_neg Bool.false_ne_true]; exact k
theorem s_iteNT {A B : Prop} (k : B) : if (!true) = true then A else B := by rw [if_neg (by decide)]; exact k
theorem s_iteNF {A B : Prop} (k : A) : if (!false) = true then A else B := by rw [if_pos (by decide)]; exact k
-- slices
end
/-! ### spans -/
section
variable {K : PySem.W.Frag} {H : Hp} {σ : L2.St} {Q : VK} {E : XK} {v x y : V} {a p C : Addr} {xs : List V} {M : List Cell} {fs : List Fact} {f : Str} {s u l s' u' l' : Int}
end
end Gx
namespace Gx
open PySem PySem.Spec PyProof.Rows L2
theorem kbN {K : PySem.W.Frag} {d : He.DefD} {fd : FuncData} {ps : List Str} (F : FunD K d.name d.qual d.params d.body d.scope (d.dvs K) (d.kws K) (He.fAd K d.at_) fd) (n : Nat) (ks : List Str) (g : {α : Type} → List α → List α → List α)
    (hrel : ∀ {vs zs : List V} {us ws : List Value}, Vals vs us → Vals zs ws → Vals (g vs zs) (g us ws))
    (h : ∀ (kV doc pm : Value) (an : Option Addr) (cdv ct : Value) (us ws : List Value), us.length = n → ws.length = ks.length → bindArgs (PySem.W.fnOf d.name d.qual d.params d.body d.scope .none kV doc pm an cdv ct) ⟨us, ks.zip ws⟩ = pure (ps.zip (g us ws))) (hd : d.dfl = [] := by rfl) :
    KBn K fd ps n ks (fun us ws => g us ws) (fun vs zs => g vs zs) := by
  have e : d.dvs K = [] := by unfold He.DefD.dvs; rw [hd]; rfl
  rw [e] at F
  obtain ⟨oc, od, dV, kV, doc, pm, an, cdv, ct, osl, rfl, lk, hcd, hD, hK⟩ := F.ex
  rcases hD with ⟨_, rfl⟩ | ⟨e, _⟩
  · exact ⟨fun s us ws X l1 l2 => BindsTo.of_eq (h kV doc pm an cdv ct us ws l1 l2), fun r1 r2 => hrel r1 r2⟩
  · exact absurd rfl e
end Gx

namespace Gx
open PySem PySem.Spec PyProof.Rows L2
section
variable {X : Cx}
theorem c_max (hc : X.calm = true) : CallR X (.builtin "max") (fun xs H Q => ∃ i j, xs = [.int i, .int j] ∧ Q (.int (max i j)) H) := by
  intro pins s σ H xs us Q I r h
  refine call_max2 hc pins s σ H xs us Q I r ?_
  obtain ⟨i, j, e, q⟩ := h
  refine ⟨i, j, e, ?_⟩
  have e2 : (if j > i then j else i) = max i j := by split <;> omega
  rw [e2]
  exact q
theorem c_min (hc : X.calm = true) : CallR X (.builtin "min") (fun xs H Q => ∃ i j, xs = [.int i, .int j] ∧ Q (.int (min i j)) H) := by
  intro pins s σ H xs us Q I r h
  refine call_min2 hc pins s σ H xs us Q I r ?_
  obtain ⟨i, j, e, q⟩ := h
  refine ⟨i, j, e, ?_⟩
  have e2 : (if j < i then j else i) = min i j := by split <;> omega
  rw [e2]
  exact q
end
section
variable {K : PySem.W.Frag} {H : Hp} {σ : L2.St} {Q : VK} {te tb : TE} {tS uS : TS} {nx : L2.St → Hp → Prop} {rt : VK} {bk ct : L2.St → Hp → Prop} {p q : Addr} {xs ys : List V} {M : List Cell} {fs : List Fact}
theorem eqvAll_ints : ∀ ns ms : List Int, PyData.eqvAll (ns.map PyData.int) (ms.map PyData.int) = decide (ns = ms)
  | [], [] => rfl
  | [], _ :: _ => rfl
  | _ :: _, [] => rfl
  | n :: ns, m :: ms => by
    show (PyData.eqv (.int n) (.int m) && PyData.eqvAll (ns.map PyData.int) (ms.map PyData.int)) = _
    rw [eqvAll_ints ns ms]
    show ((n == m) && decide (ns = ms)) = _
    by_cases h1 : n = m
    · by_cases h2 : ns = ms
      · rw [h1, h2]; simp
      · simp [h1, h2]
    · simp [h1]
theorem Kn.init {a : Addr} {ns : List Int} (h : SqL K H a (ns.map V.int)) : Kn [] [fL K a (ns.map V.int)] H := by
  refine ⟨fun x hx => (nomatch hx), List.nodup_nil, fun f hf => ?_⟩
  rcases List.mem_cons.mp hf with rfl | hf
  · refine ⟨mn_L, ?_⟩
    have e : ers ([].map fun x : Cell => x.1) H = H := funext fun b => ers_out (by simp)
    rw [e]
    exact h
  · exact nomatch hf
end
end Gx

namespace Gx
open PySem PySem.Spec PyProof.Rows L2
/-! ### instances of any class, by their fields -/
section
variable {K : PySem.W.Frag} {H : Hp} {σ : L2.St} {Q : VK} {E : XK} {v x y : V} {a p C : Addr} {xs : List V} {M : List Cell} {fs : List Fact} {f : Str} {fl : List (Str × V)} {g : Fact}
theorem Kn.more (k : Kn M fs H) (mn : Mn g) (h : g (ers (M.map (·.1)) H)) : Kn M (g :: fs) H := ⟨k.cel, k.nd, fun f hf => by
  rcases List.mem_cons.mp hf with rfl | hf
  · exact ⟨mn, h⟩
  · exact k.fac f hf⟩
end
/-! ### gaps and limits -/
def goB (g f : Int) (o : Option Int) : Bool := decide (f ≤ g) && (match o with | none => true | some r => decide (g ≤ r))
def sureB (lo hi f : Int) (o : Option Int) : Bool := decide (f ≤ lo) && (match o with | none => true | some r => decide (hi ≤ r))
def neverB (lo hi f : Int) (o : Option Int) : Bool := decide (hi < f) || (match o with | none => false | some r => decide (r < lo))
def In2 (hl hh pl ph a b : Int) : Prop := hl ≤ a ∧ a ≤ hh ∧ pl ≤ b ∧ b ≤ ph
structure GoesOk (hl hh pl ph f : Int) (o : Option Int) (g : Option (Addr × Int × Int)) : Prop where
  non : g = none ↔ neverB (hl - ph) (hh - pl) f o = true
  som : ∀ t a b, g = some (t, a, b) → In2 hl hh pl ph a b ∧ goB (a - b) f o = true
structure FailsOk (hl hh pl ph f : Int) (o : Option Int) (g : Option (Addr × Int × Int)) : Prop where
  non : g = none ↔ sureB (hl - ph) (hh - pl) f o = true
  som : ∀ t a b, g = some (t, a, b) → In2 hl hh pl ph a b ∧ goB (a - b) f o = false
def TupOf (H : Hp) (g : Option (Addr × Int × Int)) : Prop := ∀ t a b, g = some (t, a, b) → H t = some (.tup [.int a, .int b])
theorem TupOf.none {H : Hp} : TupOf H none := fun _ _ _ e => nomatch e
theorem TupOf.some {H : Hp} {t : Addr} {a b : Int} (h : H t = .some (.tup [.int a, .int b])) : TupOf H (.some (t, a, b)) := fun _ _ _ e => by cases e; exact h
end Gx

namespace Gx
open PySem PySem.Spec PyProof.Rows L2
section
variable {K : PySem.W.Frag} {H : Hp} {σ : L2.St} {Q : VK} {v x : V} {te tl : TE} {t : TT} {tA : TA} {g : TG} {tb : TS} {nx : L2.St → Hp → Prop} {rt : VK} {bk ct : L2.St → Hp → Prop} {a p q : Addr} {xs ys : List V} {M : List Cell} {fs : List Fact} {vs : List Nat} {i : Int}
/-! ### comprehensions that keep facts of what they make -/
/-! ### loops by an invariant -/
/-! ### zip of two tuples of two -/
/-! ### items, sums of lists, growing lists -/
theorem x_sum {X : Cx} {K : PySem.W.Frag} (hk : X.K = K) (hc : X.calm = true) : CallR X (.builtin "sum") (rSum K) := by
  subst hk
  exact cr_sum hc
theorem x_any {X : Cx} {K : PySem.W.Frag} (hk : X.K = K) (hc : X.calm = true) : CallR X (.builtin "any") (rAny K) := by
  subst hk
  exact cr_any hc
end
end Gx

namespace Gx
open PySem PySem.Spec PyProof.Rows L2
/-! ### methods, own ==, !=, len -/
section
variable {X : Cx} {K : PySem.W.Frag} {d : He.DefD} {k j n : Nat} {ps : List Str} {sp : Sp} {C : Addr} {m : Str} {o : Expr} {ta : TE} {apos pos : Pos} {pl : Sem Bool}
theorem pm {e : Expr} {es : List Expr} {t : TA} (D : DOk X.prog X.w X.K X.mg X.base d CX0 k ps sp) (c : Cls X.K C) (hm : Meth X.K C m (He.fAd X.K d.at_)) (hb : BdN d ps) (hr : Room j X.A) (hj : k ≤ j) (he : PE X o ta) (ha : PA X (e :: es) t)
    (hst : starEach (e :: es) X.env = (false, eval e X.env) :: starEach es X.env := by rfl) (hpl : (backTo pos (starEach es X.env)).any (·.1) = false := by rfl)
    (ht : eval (.Call (.Attribute o m apos) (e :: es) [] pos) X.env = (do
      let ov ← eval o X.env
      standAt apos.atName
      let (f, first) ← holding [ov] (getMethod ov m pl)
      callWith pos f first (backTo pos (starEach (e :: es) X.env)) (backToKw pos (keywordEach [] X.env))) := by rfl) :
    PE X (.Call (.Attribute o m apos) (e :: es) [] pos) (tMeth C m sp [] E0 ta t) := by
  obtain ⟨fd, F, G⟩ := D.ex
  exact pe_meth he c hm G (hr.mono hj) (FunD.bdN F hb) .nil pass0 ha hst hpl ht
theorem pm0 (D : DOk X.prog X.w X.K X.mg X.base d CX0 k ps sp) (c : Cls X.K C) (hm : Meth X.K C m (He.fAd X.K d.at_)) (hb : BdN d ps) (hr : Room j X.A) (hj : k ≤ j) (he : PE X o ta)
    (ht : eval (.Call (.Attribute o m apos) [] [] pos) X.env = (do
      let ov ← eval o X.env
      standAt apos.atName
      let (f, first) ← holding [ov] (getMethod ov m pl)
      callWith pos f first (backTo pos (starEach [] X.env)) (backToKw pos (keywordEach [] X.env))) := by rfl) :
    PE X (.Call (.Attribute o m apos) [] [] pos) (tMeth C m sp [] E0 ta tNil) := by
  obtain ⟨fd, F, G⟩ := D.ex
  exact pe_meth0 he c hm G (hr.mono hj) (FunD.bdN F hb) .nil pass0 ht
theorem run_fnA {CX : CXT} {f : Addr} {fd : FuncData} {dvs : List V} {ds : List Value} {E : XK} {A : Around} {pins : List (Addr × Obj)} {σ : L2.St} {H : Hp} {s : Shared} {Q : VK} {us : List Value} {vs : List V} (F : FnOk X.prog X.w X.K X.mg X.base CX k f fd ps sp) (hr : Room k A) (hf : A.frames = X.A.frames) (hb : Binds X.K fd ps ds) (hd : Vals dvs ds) (hx : Passes CX X E)
    (I : Inv X pins σ H s) (r : Vals vs us) (h : sp (vs ++ dvs) H Q E) : wpAny (model X.prog X.w) A (call (.ref f) us) (EP X pins σ Q) X.xe s := by
  have r2 : Vals (vs ++ dvs) (us ++ ds) := r.append hd
  have hl : (us ++ ds).length = ps.length := by rw [← r2.length]; exact F.len _ _ _ _ h
  have e0 : Env0 X.prog X.w X.K X.mg X.base A X.stack s H := by
    have e := I.env0
    exact ⟨by rw [hf]; exact e.frames, e.mod, e.bs, e.bsz, e.funs, e.frf, e.hok, e.bare⟩
  refine wpAny_call (codeAny_mono (F.run A X.stack s H ⟨us, []⟩ (us ++ ds) (vs ++ dvs) Q E hr e0 (hb s us I.kIn hl) r2 h) fun r s' hq => ?_)
  cases r with
  | error e => exact hx pins σ H s e s' I hq
  | ok fl =>
    cases fl with
    | ret u => exact I.after hq
    | next => exact False.elim hq
    | brk => exact False.elim hq
    | cont => exact False.elim hq
def InsAt (C : Addr) (H : Hp) (x : V) : Prop := ∃ a dx fl, x = .ref a ∧ H a = some (.ins C dx fl)
def rOEq (C : Addr) (sp : Sp) : R2 := fun x y H Q => InsAt C H x ∧ InsAt C H y ∧ sp [x, y] H (fun v H' => ∃ b, v = .bl b ∧ Q (.bl b) H') E0
theorem op_oeq (D : DOk X.prog X.w X.K X.mg X.base d CX0 k ps sp) (hm : Meth X.K C "__eq__" (He.fAd X.K d.at_)) (hb : BdN d ps) (hr : Room j X.A) (hj : k ≤ j) : OpR X (compareOp .Eq) (rOEq C sp) := by
  obtain ⟨fd, F, G⟩ := D.ex
  intro pins s σ H x y v u Q I rx ry hq
  obtain ⟨⟨a, dx, fl, rfl, ha⟩, ⟨b, dy, gl, rfl, hb'⟩, h⟩ := hq
  cases rx
  cases ry
  show wpAny (model X.prog X.w) X.A (richCompare .Eq (.ref a) (.ref b)) (EP X pins σ Q) X.xe s
  obtain ⟨mA, J, _⟩ := ins_get I.hok ha
  obtain ⟨mB, J', _⟩ := ins_get I.hok hb'
  obtain ⟨od, J, _⟩ := J.look
  obtain ⟨od', J', _⟩ := J'.look
  obtain ⟨m, hF⟩ := I.fr
  have hr := hr.mono hj
  refine PySem.W.cmp_K (op := .Eq) (tb := .ref C) hr.units0 hF I.ok.mod.kin J J'.type (by simp [PySem.W.notFirst]) hm.at_ hm.fn ?_
  refine wpAny_mono (run_fnA (us := [.ref a, .ref b]) (vs := [.ref a, .ref b]) (dvs := []) (ds := []) G hr rfl (FunD.bdN F hb) .nil pass0 I (.cons rfl (.cons rfl .nil)) h) (fun r s' z => ?_) fun _ _ x => x
  obtain ⟨w, H', I', rw_, bb, rfl, q⟩ := z
  cases rw_
  exact ⟨.bl bb, H', I', rfl, q⟩
theorem ifBound_objNe {M : Model} {A : Around} {E : Value → Shared → Prop} {s : Shared} {x : Addr} {ox : Obj} {od : Option Obj} {args : List Value} {Q : Option Value → Shared → Prop} (X : K.In s.heap) (I : PySem.W.InstAt s.heap x ox C od) (hs : PySem.W.findIn K (.ref C) "__ne__" = some (some (.builtin "object.__ne__")))
    (h : wpAny M A (call (.builtin "object.__ne__") (.ref x :: args)) (fun v => Q (some v)) E s) : wpAny M A (callSpecialIfBound? (.ref x) "__ne__" args) Q E s := by
  simp only [callSpecialIfBound?, bindSpecialIfBound?]
  refine wpAny_holding (wpAny_bind (wpAny_bind (wpAny_bind (I.type.here ((PySem.W.looks_findIn X hs).here ?_)))))
  refine wpAny_bind (wpAny_askSetting (wpAny_ite ?_))
  have fin : wpAny M A (call (.builtin "object.__ne__") ([.ref x] ++ args) >>= fun v => pure (some v)) Q E s := wpAny_bind (wpAny_mono h (fun v s' h' => wpAny_pure h') fun _ _ h' => h')
  split
  · exact wpAny_bind (wpAny_of_eq (F.cmp_object.ne.bind _) (wpAny_pure (by exact fin)))
  · exact wpAny_tryCatch (wpAny_bind (wpAny_of_eq (F.cmp_object.ne.bind _) (wpAny_pure (by exact fin))))
theorem objNe_entry {prog : Program} {w : World} {A : Around} {E : Value → Shared → Prop} {s : Shared} {x f : Addr} {b : Value} {ox : Obj} {od : Option Obj} {Q : Fin → Shared → Prop} (X : K.In s.heap) (I : PySem.W.InstAt s.heap x ox C od) (hu : A.units < cLine)
    (hs : PySem.W.findIn K (.ref C) "__eq__" = some (some (.ref f))) (hf : PySem.W.isFn K (.ref f) = true)
    (hcall : wpAny (model prog w) A (call (.ref f) [.ref x, b]) (fun v s' => ∃ b, v = .bool b ∧ Q (.done (.ret (.bool (!b)))) s') E s) :
    wpAny (model prog w) A (Builtin.«object.__ne__» ⟨[.ref x, b], []⟩) Q E s := by
  unfold Builtin.«object.__ne__»
  repeat (first
    | with_reducible refine wpAny_cRoomFor hu ?_
    | (refine wpAny_bind (m := callSpecialIfBound? (.ref x) (Str.ofString "__eq__") [b])
        (PySem.W.ifBound_K X I hs hf (wpAny_mono hcall (fun r s' hr => by
          obtain ⟨b, rfl, hq⟩ := hr
          repeat (first | exact hq | exact wpAny_pure hq | exact wpAny_truthy_bool hq | (refine wpAny_bind (m := truthy (.bool _)) (wpAny_truthy_bool ?_)) | wp_step)) fun _ _ e => e)))
    | wp_step)
theorem ne_own {prog : Program} {w : World} {A : Around} {E : Value → Shared → Prop} {s : Shared} {x f : Addr} {b tb : Value} {ox : Obj} {od : Option Obj} {Q : Value → Shared → Prop} (hu : A.units + 1 < cLine) (X : K.In s.heap) (I : PySem.W.InstAt s.heap x ox C od) (hb : PySem.W.Looks (model prog w) s.heap (typeOf b) tb) (hn : PySem.W.notFirst K C tb = true)
    (hm : PySem.W.mroIn K C (.type "object") = some true) (hne : PySem.W.findIn K (.ref C) "__ne__" = some (some (.builtin "object.__ne__"))) (hs : PySem.W.findIn K (.ref C) "__eq__" = some (some (.ref f))) (hf : PySem.W.isFn K (.ref f) = true)
    (hcall : wpAny (model prog w) A.in1 (call (.ref f) [.ref x, b]) (fun v s' => ∃ b, v = .bool b ∧ Q (.bool (!b)) s') E s) : wpAny (model prog w) A (richCompare .NotEq (.ref x) b) Q E s := by
  have one : wpAny (model prog w) A (tryCompare (.ref x) "__ne__" b) (fun r s' => ∃ v, r = some v ∧ Q v s') E s := by
    unfold tryCompare
    refine wpAny_bind (ifBound_objNe X I hne (wpAny_call (codeAny_call_builtin F.cmp_object.ne.plain F.cmpEntry_ne (PySem.W.check_slot F.cmpKind_ne F.cmpSplit_ne (I.type.andThen (PySem.W.looks_mroIn X hm)) (F.cmpArgs_ne _ _) (objNe_entry (A := A.in1) X I hu hs hf (wpAny_mono hcall (fun v s' hv => ?_) fun _ _ e => e))))))
    obtain ⟨bb, rfl, hq⟩ := hv
    first | exact ⟨bb, rfl, wpAny_pure ⟨_, rfl, hq⟩⟩ | exact ⟨bb, rfl, ⟨_, rfl, hq⟩⟩ | exact ⟨bb, rfl, wpAny_pure (wpAny_pure ⟨_, rfl, hq⟩)⟩
  unfold richCompare
  simp only [oneThing_ref, PySem.cmpInfo_NotEq]
  refine wpAny_holding (wpAny_bind (wpAny_cRoomFor (Nat.lt_of_succ_lt hu) ?_))
  refine wpAny_bind (I.type.here (wpAny_bind (hb.here ?_)))
  split
  · rename_i q
    have e : PySem.W.subIn K tb (.ref C) = some false := by
      rcases Bool.or_eq_true_iff.mp hn with e | e
      · rw [beq_iff_eq.mp e] at q; simp at q
      · exact beq_iff_eq.mp e
    refine wpAny_bind ((PySem.W.looks_subIn X e).here ?_)
    simp only [Bool.false_eq_true, if_false]
    refine wpAny_bind (wpAny_mono one (fun r s' z => ?_) fun _ _ e => e)
    obtain ⟨v, rfl, hq⟩ := z
    exact wpAny_pure hq
  · refine wpAny_bind (wpAny_pure ?_)
    simp only [Bool.false_eq_true, if_false]
    refine wpAny_bind (wpAny_mono one (fun r s' z => ?_) fun _ _ e => e)
    obtain ⟨v, rfl, hq⟩ := z
    exact wpAny_pure hq
def rONe (C : Addr) (sp : Sp) : R2 := fun x y H Q => InsAt C H x ∧ InsAt C H y ∧ sp [x, y] H (fun v H' => ∃ b, v = .bl b ∧ Q (.bl (!b)) H') E0
theorem op_one (D : DOk X.prog X.w X.K X.mg X.base d CX0 k ps sp) (hm : Meth X.K C "__eq__" (He.fAd X.K d.at_)) (hmo : PySem.W.mroIn X.K C (.type "object") = some true) (hne : PySem.W.findIn X.K (.ref C) "__ne__" = some (some (.builtin "object.__ne__"))) (hb : BdN d ps) (hr : Room j X.A) (hj : k + 1 ≤ j) : OpR X (compareOp .NotEq) (rONe C sp) := by
  obtain ⟨fd, F, G⟩ := D.ex
  intro pins s σ H x y v u Q I rx ry hq
  obtain ⟨⟨a, dx, fl, rfl, ha⟩, ⟨b, dy, gl, rfl, hb'⟩, h⟩ := hq
  cases rx
  cases ry
  show wpAny (model X.prog X.w) X.A (richCompare .NotEq (.ref a) (.ref b)) (EP X pins σ Q) X.xe s
  obtain ⟨mA, J, _⟩ := ins_get I.hok ha
  obtain ⟨mB, J', _⟩ := ins_get I.hok hb'
  obtain ⟨od, J, _⟩ := J.look
  obtain ⟨od', J', _⟩ := J'.look
  have hr := hr.mono hj
  refine ne_own (by have := hr.units; omega) I.kIn J J'.type (by simp [PySem.W.notFirst]) hmo hne hm.at_ hm.fn ?_
  refine wpAny_mono (run_fnA (us := [.ref a, .ref b]) (vs := [.ref a, .ref b]) (dvs := []) (ds := []) G hr.in1 rfl (FunD.bdN F hb) .nil pass0 I (.cons rfl (.cons rfl .nil)) h) (fun r s' z => ?_) fun _ _ x => x
  obtain ⟨w, H', I', rw_, bb, rfl, q⟩ := z
  cases rw_
  exact ⟨bb, rfl, .bl (!bb), H', I', rfl, q⟩
def rOLen (C : Addr) (sp : Sp) (xs : List V) (H : Hp) (Q : VK) : Prop := ∃ x, xs = [x] ∧ InsAt C H x ∧ sp [x] H (fun v H' => ∃ n : Int, v = .int n ∧ (0 ≤ n ∧ n < 2 ^ 63) ∧ Q (.int n) H') E0
theorem call_olen (D : DOk X.prog X.w X.K X.mg X.base d CX0 k ps sp) (hm : Meth X.K C "__len__" (He.fAd X.K d.at_)) (hb : BdN d ps) (hr : Room j X.A) (hj : k + 1 ≤ j) : CallR X (.builtin "len") (rOLen C sp) := by
  obtain ⟨fd, F, G⟩ := D.ex
  intro pins s σ H xs us Q I r h
  obtain ⟨x, rfl, ⟨a, dx, fl, rfl, ha⟩, h⟩ := h
  obtain ⟨u, rfl, rx⟩ := vals1 r
  cases rx
  obtain ⟨mA, J, _⟩ := ins_get I.hok ha
  obtain ⟨od, J, _⟩ := J.look
  obtain ⟨m, hF⟩ := I.fr
  have hr := hr.mono hj
  refine PySem.W.len_K hF I.ok.mod.kin J hm.at_ hm.fn ?_
  refine wpAny_mono (run_fnA (us := [.ref a]) (vs := [.ref a]) (dvs := []) (ds := []) G hr.in1 rfl (FunD.bdN F hb) .nil pass0 I (.cons rfl .nil) h) (fun r s' z => ?_) fun _ _ x => x
  obtain ⟨w, H', I', rw_, n, rfl, hn, q⟩ := z
  obtain ⟨t, rfl⟩ := rw_
  exact ⟨hn, .int n, H', I'.tok _, ⟨_, rfl⟩, q⟩
/-! ### readings of these, by what is known -/
section
variable {M : List Cell} {fs : List Fact} {H : Hp} {σ : L2.St} {Q : VK} {a b : Addr} {s u l s' u' l' : Int} {fl gl : List (Str × V)} {E : XK} {t tk : TA} {dvs : List V} {mk : Nat} {gV : List V → List V → List V}
end
def rTupOf (K : PySem.W.Frag) (xs : List V) (H : Hp) (Q : VK) : Prop := ∃ p ys, xs = [.ref p] ∧ ((SqL K H p ys ∧ ∀ l, H l = none → Q (.ref l) (upd H l (.tup ys))) ∨ (SqT K H p ys ∧ Q (.ref p) H))
theorem x_tup {X : Cx} {K : PySem.W.Frag} (hk : X.K = K) : CallR X (.type "tuple") (rTupOf K) := by
  subst hk
  exact call_tuple_of
theorem x_isi {X : Cx} {K : PySem.W.Frag} (hk : X.K = K) : CallR X (.builtin "isinstance") (rIsi K) := by
  subst hk
  exact call_isi
end
end Gx

namespace Gx
open PySem PySem.Spec PyProof.Rows L2
/-! ### set and sorted of a list of whole numbers -/
section
variable {P : Program} {w : World} {A : Around} {E : Value → Shared → Prop} {s : Shared} {l : Addr} {items : Array Value} {ns : List Int}
end
section
variable {X : Cx} {K : PySem.W.Frag} {w : World}
section
variable {H : Hp} {Q : VK} {p q : Addr} {ns ms : List Int} {S : Int → Bool} {n : Nat} {M : List Cell} {fs : List Fact}
end
end
end Gx

/-! Own layer Q1: values without addresses (PV), a store of things that change, and how both stand in a heap. -/
namespace Gx
open PySem PySem.Spec PyProof.Rows L2
def XO (a : Addr) (oe : Obj) : HO := .ext fun h => h.get? a = some oe
end Gx
namespace Qx
open PySem PySem.Spec PyProof.Rows L2 Gx
structure TabI where
  d : Str
  x : Option Str
  q : Str
  deriving DecidableEq
inductive PV where
  | non | bl (b : Bool) | int (i : Int) | str (z : Str) | ty (n : String) | cls (C : Str)
  | tup (ps : List PV) | xtp (ps : List PV) | lst (ps : List PV) | rol (ps : List PV) | ins (C : Str) (ns : List Str) (ps : List PV)
  | rng (a b : Int) | loc (n : Nat) | dic (ks vs : List PV) | tbl (t : TabI) | xc (C : Str) (ns : List Str) (ps : List PV)
def keyP : PV → Option Key
  | .int i => some (.inl i)
  | .str z => some (.inr z)
  | _ => none
def XD (G : Hp) (d : Option Addr) (ns : List Str) (xs : List V) : Prop := (d = none ∧ ns = []) ∨ ∃ dd, d = some dd ∧ G dd = some (.xd (ns.zip xs))
theorem XD.mono {G G' : Hp} {d : Option Addr} {ns : List Str} {xs : List V} (e : Same G G') (h : XD G d ns xs) : XD G' d ns xs := h.elim .inl fun ⟨dd, h1, h2⟩ => .inr ⟨dd, h1, e _ _ h2⟩
def TabO (K : PySem.W.Frag) (G : Hp) (t : TabI) (a : Addr) (o : HO) : Prop := a = (He.cT K (t.d, t.x)).2 ∧ ∃ ps : Array Value, o = .tbl ps ∧ TriplesOk ps.toList ∧ ∀ (pos : Pos) (cv : Value), codeAmong pos ps.toList = some cv → ∃ c, cv = .ref c ∧ G c = some (LamX.CodeO c t.q)
theorem TabO.mono {K : PySem.W.Frag} {G G' : Hp} {t : TabI} {a : Addr} {o : HO} (e : Same G G') (h : TabO K G t a o) : TabO K G' t a o := by
  obtain ⟨h1, ps, h2, h3, h4⟩ := h
  exact ⟨h1, ps, h2, h3, fun pos cv hc => (h4 pos cv hc).imp fun c z => ⟨z.1, e _ _ z.2⟩⟩
abbrev Sto := List (Option PV)
abbrev Slots := List (Option PV)
def Pre (ι ι' : List Addr) : Prop := ∀ (n : Nat) (a : Addr), ι[n]? = some a → ι'[n]? = some a
theorem Pre.refl {ι : List Addr} : Pre ι ι := fun _ _ h => h
theorem Pre.trans {ι ι' ι'' : List Addr} (a : Pre ι ι') (b : Pre ι' ι'') : Pre ι ι'' := fun n x h => b n x (a n x h)
theorem Pre.app {ι t : List Addr} : Pre ι (ι ++ t) := fun n a h => by
  rw [List.getElem?_append_left (List.getElem?_eq_some_iff.mp h).1]; exact h
theorem same_refl {H : Hp} : Same H H := fun _ _ h => h
theorem same_trans {H H' H'' : Hp} (a : Same H H') (b : Same H' H'') : Same H H'' := fun x o h => b x o (a x o h)
def ExT (G : Hp) (v : V) : Prop := ∃ a ob u, v = .ref a ∧ G a = some (.frz ob u) ∧ ob.cls = .type "tuple" ∧ ob.dict = none
theorem ExT.mono {G G' : Hp} {v : V} (e : Same G G') (h : ExT G v) : ExT G' v := by
  obtain ⟨a, ob, u, h1, h2, h3⟩ := h
  exact ⟨a, ob, u, h1, e _ _ h2, h3⟩
mutual
def Rep (K : PySem.W.Frag) (ι : List Addr) (G : Hp) : PV → V → Prop
  | .non, v => v = .non
  | .bl b, v => v = .bl b
  | .int i, v => v = .int i
  | .str z, v => v = .str z
  | .ty n, v => v = .ty n
  | .cls C, v => v = .ref (He.ga K C)
  | .tup ps, v => ∃ a xs, v = .ref a ∧ SqT K G a xs ∧ RepL K ι G ps xs
  | .xtp ps, v => (∃ a xs, v = .ref a ∧ SqT K G a xs ∧ RepL K ι G ps xs) ∧ ExT G v
  | .lst ps, v => ∃ a xs, v = .ref a ∧ G a = some (.lst xs) ∧ RepL K ι G ps xs
  | .rol ps, v => ∃ a xs, v = .ref a ∧ SqL K G a xs ∧ RepL K ι G ps xs
  | .ins C ns ps, v => ∃ a dx xs, v = .ref a ∧ G a = some (.ins (He.ga K C) dx (ns.zip xs)) ∧ ns.length = ps.length ∧ RepL K ι G ps xs
  | .rng i j, v => ∃ a, v = .ref a ∧ G a = some (.rng i j)
  | .loc n, v => ∃ a, v = .ref a ∧ ι[n]? = some a
  | .dic ks vs, v => ∃ a kvs, v = .ref a ∧ G a = some (.dK kvs) ∧ ks.map keyP = kvs.map (fun w => some w.1) ∧ RepL K ι G vs (kvs.map (·.2))
  | .tbl t, v => ∃ a, v = .ref a ∧ ∃ o, G a = some o ∧ TabO K G t a o
  | .xc C ns ps, v => ∃ a oe xs, v = .ref a ∧ G a = some (Gx.XO a oe) ∧ oe.cls = .ref (He.ga K C) ∧ (∃ w, oe.data = .fields w) ∧ XD G oe.dict ns xs ∧ ns.length = ps.length ∧ RepL K ι G ps xs
def RepL (K : PySem.W.Frag) (ι : List Addr) (G : Hp) : List PV → List V → Prop
  | [], xs => xs = []
  | p :: ps, xs => ∃ x r, xs = x :: r ∧ Rep K ι G p x ∧ RepL K ι G ps r
end
section
variable {K : PySem.W.Frag} {ι ι' : List Addr} {G G' : Hp}
mutual
theorem Rep.mono (hp : Pre ι ι') (e : Same G G') : ∀ (p : PV) (v : V), Rep K ι G p v → Rep K ι' G' p v
  | .non, _, h => h
  | .bl _, _, h => h
  | .int _, _, h => h
  | .str _, _, h => h
  | .ty _, _, h => h
  | .cls _, _, h => h
  | .tup ps, _, ⟨a, xs, h1, h2, h3⟩ => ⟨a, xs, h1, sqt_same e h2, RepL.mono hp e ps xs h3⟩
  | .xtp ps, _, ⟨⟨a, xs, h1, h2, h3⟩, h4⟩ => ⟨⟨a, xs, h1, sqt_same e h2, RepL.mono hp e ps xs h3⟩, h4.mono e⟩
  | .lst ps, _, ⟨a, xs, h1, h2, h3⟩ => ⟨a, xs, h1, e _ _ h2, RepL.mono hp e ps xs h3⟩
  | .rol ps, _, ⟨a, xs, h1, h2, h3⟩ => ⟨a, xs, h1, e.seq h2, RepL.mono hp e ps xs h3⟩
  | .ins _ _ ps, _, ⟨a, dx, xs, h1, h2, h3, h4⟩ => ⟨a, dx, xs, h1, e _ _ h2, h3, RepL.mono hp e ps xs h4⟩
  | .rng _ _, _, ⟨a, h1, h2⟩ => ⟨a, h1, e _ _ h2⟩
  | .loc _, _, ⟨a, h1, h2⟩ => ⟨a, h1, hp _ _ h2⟩
  | .dic _ vs, _, ⟨a, kvs, h1, h2, h3, h4⟩ => ⟨a, kvs, h1, e _ _ h2, h3, RepL.mono hp e vs _ h4⟩
  | .tbl _, _, ⟨a, h1, o, h2, h3⟩ => ⟨a, h1, o, e _ _ h2, h3.mono e⟩
  | .xc _ _ ps, _, ⟨a, oe, xs, h1, h2, h3, h4, h5, h6, h7⟩ => ⟨a, oe, xs, h1, e _ _ h2, h3, h4, h5.mono e, h6, RepL.mono hp e ps xs h7⟩
theorem RepL.mono (hp : Pre ι ι') (e : Same G G') : ∀ (ps : List PV) (xs : List V), RepL K ι G ps xs → RepL K ι' G' ps xs
  | [], _, h => h
  | p :: ps, _, ⟨x, r, h1, h2, h3⟩ => ⟨x, r, h1, Rep.mono hp e p x h2, RepL.mono hp e ps r h3⟩
end
theorem RepL.len : ∀ {ps : List PV} {xs : List V}, RepL K ι G ps xs → xs.length = ps.length
  | [], _, h => by rw [show _ = [] from h]; rfl
  | _ :: ps, _, ⟨x, r, h1, _, h3⟩ => by rw [h1, List.length_cons, List.length_cons, RepL.len h3]
theorem RepL.get : ∀ {ps : List PV} {xs : List V} {i : Nat} {p : PV}, RepL K ι G ps xs → ps[i]? = some p → ∃ x, xs[i]? = some x ∧ Rep K ι G p x
  | [], _, _, _, _, e => by simp at e
  | q :: ps, _, 0, p, ⟨x, r, h1, h2, _⟩, e => by
    subst h1
    simp only [List.getElem?_cons_zero, Option.some.injEq] at e
    subst e
    exact ⟨x, rfl, h2⟩
  | q :: ps, _, i + 1, p, ⟨x, r, h1, _, h3⟩, e => by
    subst h1
    simp only [List.getElem?_cons_succ] at e ⊢
    exact RepL.get h3 e
theorem RepL.of : ∀ {ps : List PV} {xs : List V}, xs.length = ps.length → (∀ (i : Nat) p, ps[i]? = some p → ∃ x, xs[i]? = some x ∧ Rep K ι G p x) → RepL K ι G ps xs
  | [], xs, hl, _ => by
    have : xs = [] := List.length_eq_zero_iff.mp hl
    exact this
  | p :: ps, [], hl, _ => by simp at hl
  | p :: ps, x :: xs, hl, h => by
    obtain ⟨y, e, hy⟩ := h 0 p rfl
    simp only [List.getElem?_cons_zero, Option.some.injEq] at e
    subst e
    refine ⟨x, xs, rfl, hy, RepL.of (by simpa using hl) fun i q hq => ?_⟩
    obtain ⟨z, e, hz⟩ := h (i + 1) q (by simpa using hq)
    exact ⟨z, by simpa using e, hz⟩
theorem RepL.app {ps qs : List PV} {xs ys : List V} (h : RepL K ι G ps xs) (h' : RepL K ι G qs ys) : RepL K ι G (ps ++ qs) (xs ++ ys) := by
  induction ps generalizing xs with
  | nil =>
    have e : xs = [] := h
    subst e
    exact h'
  | cons p ps ih =>
    obtain ⟨x, r, e, h2, h3⟩ := h
    subst e
    exact ⟨x, r ++ ys, rfl, h2, ih h3⟩
theorem RepL.one {p : PV} {x : V} (h : Rep K ι G p x) : RepL K ι G [p] [x] := ⟨x, [], rfl, h, rfl⟩
theorem RepL.nilR : RepL K ι G [] [] := rfl
theorem RepL.consR {p : PV} {x : V} {ps : List PV} {xs : List V} (h : Rep K ι G p x) (t : RepL K ι G ps xs) : RepL K ι G (p :: ps) (x :: xs) := ⟨x, xs, rfl, h, t⟩
theorem RepL.drop {ps : List PV} {xs : List V} (n : Nat) (h : RepL K ι G ps xs) : RepL K ι G (ps.drop n) (xs.drop n) := by
  refine RepL.of (by rw [List.length_drop, List.length_drop, h.len]) fun i p e => ?_
  rw [List.getElem?_drop] at e ⊢
  exact h.get e
theorem RepL.take {ps : List PV} {xs : List V} (n : Nat) (h : RepL K ι G ps xs) : RepL K ι G (ps.take n) (xs.take n) := by
  refine RepL.of (by rw [List.length_take, List.length_take, h.len]) fun i p e => ?_
  rw [List.getElem?_take] at e ⊢
  by_cases c : i < n
  · rw [if_pos c] at e ⊢; exact h.get e
  · rw [if_neg c] at e; cases e
theorem RepL.set {ps : List PV} {xs : List V} {n : Nat} {p : PV} {x : V} (h : RepL K ι G ps xs) (hp : Rep K ι G p x) : RepL K ι G (ps.set n p) (xs.set n x) := by
  refine RepL.of (by rw [List.length_set, List.length_set, h.len]) fun i q e => ?_
  rw [List.getElem?_set] at e ⊢
  by_cases c : n = i
  · rw [if_pos c] at e ⊢
    rw [h.len]
    by_cases d : n < ps.length
    · rw [if_pos d] at e ⊢
      cases e
      exact ⟨x, rfl, hp⟩
    · rw [if_neg d] at e; cases e
  · rw [if_neg c] at e ⊢
    exact h.get e
theorem RepL.rev {ps : List PV} {xs : List V} (h : RepL K ι G ps xs) : RepL K ι G ps.reverse xs.reverse := by
  induction ps generalizing xs with
  | nil => rw [show xs = [] from h]; rfl
  | cons p ps ih =>
    obtain ⟨x, r, e, h2, h3⟩ := h
    subst e
    rw [List.reverse_cons, List.reverse_cons]
    exact (ih h3).app (.one h2)
theorem RepL.mapV {α : Type} {f : α → PV} {g : α → V} (hf : ∀ a, Rep K ι G (f a) (g a)) : ∀ as : List α, RepL K ι G (as.map f) (as.map g)
  | [] => rfl
  | a :: as => ⟨g a, as.map g, rfl, hf a, RepL.mapV hf as⟩
theorem RepL.split : ∀ {ps qs : List PV} {xs : List V}, RepL K ι G (ps ++ qs) xs → ∃ ys zs, xs = ys ++ zs ∧ RepL K ι G ps ys ∧ RepL K ι G qs zs
  | [], qs, xs, h => ⟨[], xs, rfl, rfl, h⟩
  | p :: ps, qs, xs, ⟨x, r, e, h2, h3⟩ => by
    obtain ⟨ys, zs, e2, h4, h5⟩ := RepL.split h3
    exact ⟨x :: ys, zs, by rw [e, e2]; rfl, ⟨x, ys, rfl, h2, h4⟩, h5⟩
end
def RepO (K : PySem.W.Frag) (ι : List Addr) (G : Hp) (a : Addr) : PV → HO → Prop
  | .lst ps, o => ∃ xs, o = .lst xs ∧ RepL K ι G ps xs
  | .ins C ns ps, o => ∃ dx xs, o = .ins (He.ga K C) dx (ns.zip xs) ∧ ns.length = ps.length ∧ RepL K ι G ps xs
  | .dic ks vs, o => ∃ kvs, o = .dK kvs ∧ ks.map keyP = kvs.map (fun w => some w.1) ∧ RepL K ι G vs (kvs.map (·.2))
  | .tbl t, o => TabO K G t a o
  | _, _ => False
theorem RepO.mono {K : PySem.W.Frag} {ι ι' : List Addr} {G G' : Hp} (hp : Pre ι ι') (e : Same G G') {p : PV} {o : HO} {a : Addr} (h : RepO K ι G a p o) : RepO K ι' G' a p o := by
  cases p with
  | lst ps => obtain ⟨xs, h1, h2⟩ := h; exact ⟨xs, h1, h2.mono hp e⟩
  | ins C ns ps => obtain ⟨dx, xs, h1, h2, h3⟩ := h; exact ⟨dx, xs, h1, h2, h3.mono hp e⟩
  | dic ks vs => obtain ⟨kvs, h1, h2, h3⟩ := h; exact ⟨kvs, h1, h2, h3.mono hp e⟩
  | tbl t => exact TabO.mono e h
  | _ => exact h.elim
theorem RepO.rep {K : PySem.W.Frag} {ι : List Addr} {G : Hp} {p : PV} {o : HO} {a : Addr} (h : RepO K ι G a p o) (e : G a = some o) : Rep K ι G p (.ref a) := by
  cases p with
  | lst ps => obtain ⟨xs, h1, h2⟩ := h; subst h1; exact ⟨a, xs, rfl, e, h2⟩
  | ins C ns ps => obtain ⟨dx, xs, h1, h2, h3⟩ := h; subst h1; exact ⟨a, dx, xs, rfl, e, h2, h3⟩
  | dic ks vs => obtain ⟨kvs, h1, h2, h3⟩ := h; subst h1; exact ⟨a, kvs, rfl, e, h2, h3⟩
  | tbl t => exact ⟨a, rfl, o, e, h⟩
  | _ => exact h.elim
/-! ### the live addresses of a store -/
def lv : List Addr → Sto → List Addr
  | a :: ι, some _ :: O => a :: lv ι O
  | _ :: ι, none :: O => lv ι O
  | _, _ => []
theorem lv_mem : ∀ {ι : List Addr} {O : Sto} {a : Addr}, a ∈ lv ι O → ∃ (n : Nat) (p : PV), ι[n]? = some a ∧ O[n]? = some (some p)
  | [], O, a, h => by simp [lv] at h
  | b :: ι, [], a, h => by simp [lv] at h
  | b :: ι, some p :: O, a, h => by
    simp only [lv, List.mem_cons] at h
    rcases h with rfl | h
    · exact ⟨0, p, rfl, rfl⟩
    · obtain ⟨n, q, h1, h2⟩ := lv_mem h
      exact ⟨n + 1, q, by simpa using h1, by simpa using h2⟩
  | b :: ι, none :: O, a, h => by
    simp only [lv] at h
    obtain ⟨n, q, h1, h2⟩ := lv_mem h
    exact ⟨n + 1, q, by simpa using h1, by simpa using h2⟩
theorem lv_in : ∀ {ι : List Addr} {O : Sto} {n : Nat} {a : Addr} {p : PV}, ι[n]? = some a → O[n]? = some (some p) → a ∈ lv ι O
  | [], _, _, _, _, h, _ => by simp at h
  | b :: ι, [], _, _, _, _, h => by simp at h
  | b :: ι, some q :: O, 0, a, p, h, _ => by
    simp only [List.getElem?_cons_zero, Option.some.injEq] at h
    subst h
    exact List.mem_cons_self
  | b :: ι, none :: O, 0, a, p, _, h => by simp at h
  | b :: ι, some q :: O, n + 1, a, p, h, h' => List.mem_cons_of_mem _ (lv_in (n := n) (p := p) (by simpa using h) (by simpa using h'))
  | b :: ι, none :: O, n + 1, a, p, h, h' => by
    simp only [lv]
    exact lv_in (n := n) (p := p) (by simpa using h) (by simpa using h')
theorem lv_app : ∀ {ι : List Addr} {O : Sto} {a : Addr} {p : PV}, ι.length = O.length → lv (ι ++ [a]) (O ++ [some p]) = lv ι O ++ [a]
  | [], [], _, _, _ => rfl
  | [], _ :: _, _, _, h => by simp at h
  | _ :: _, [], _, _, h => by simp at h
  | b :: ι, some q :: O, a, p, h => by
    simp only [List.cons_append, lv]
    rw [lv_app (by simpa using h)]
  | b :: ι, none :: O, a, p, h => by
    simp only [List.cons_append, lv]
    rw [lv_app (by simpa using h)]
theorem lv_out : ∀ {ι : List Addr} {O : Sto} {n : Nat} {a : Addr} {p : PV}, ι[n]? = some a → O[n]? = some (some p) → (lv ι O).Perm (a :: lv ι (O.set n none))
  | [], _, _, _, _, h, _ => by simp at h
  | b :: ι, [], _, _, _, _, h => by simp at h
  | b :: ι, some q :: O, 0, a, p, h, _ => by
    simp only [List.getElem?_cons_zero, Option.some.injEq] at h
    subst h
    simp only [List.set_cons_zero, lv]
    exact .refl _
  | b :: ι, none :: O, 0, a, p, _, h => by simp at h
  | b :: ι, some q :: O, n + 1, a, p, h, h' => by
    simp only [List.set_cons_succ, lv]
    exact ((lv_out (n := n) (p := p) (by simpa using h) (by simpa using h')).cons b).trans (.swap a b _)
  | b :: ι, none :: O, n + 1, a, p, h, h' => by
    simp only [List.set_cons_succ, lv]
    exact lv_out (n := n) (p := p) (by simpa using h) (by simpa using h')
theorem set_back {O : Sto} {n : Nat} {x : Option PV} (h : O[n]? = some x) : O.set n x = O := by
  apply List.ext_getElem?
  intro i
  rw [List.getElem?_set]
  split
  · rename_i e
    subst e
    rw [h, if_pos (List.getElem?_eq_some_iff.mp h).1]
  · rfl
theorem lv_put {ι : List Addr} {O : Sto} {n : Nat} {a : Addr} {p : PV} (h : ι[n]? = some a) (h' : O[n]? = some none) : (lv ι (O.set n (some p))).Perm (a :: lv ι O) := by
  have hl := (List.getElem?_eq_some_iff.mp h').1
  have e := lv_out (ι := ι) (O := O.set n (some p)) (n := n) (a := a) (p := p) h (by rw [List.getElem?_set_self hl])
  rw [List.set_set, set_back h'] at e
  exact e
/-! ### a store in a heap -/
def fz (R : List (Addr × HO)) (ι : List Addr) (O : Sto) (H : Hp) : Hp := ers (R.map (·.1) ++ lv ι O) H
structure Sim (K : PySem.W.Frag) (R : List (Addr × HO)) (ι : List Addr) (O : Sto) (H : Hp) : Prop where
  len : ι.length = O.length
  nd : (R.map (·.1) ++ lv ι O).Nodup
  hid : ∀ x ∈ R, H x.1 = some x.2
  thr : ∀ a ∈ ι, H a ≠ none
  obj : ∀ (n : Nat) a p, ι[n]? = some a → O[n]? = some (some p) → ∃ o, H a = some o ∧ RepO K ι (fz R ι O H) a p o
structure Ext (R : List (Addr × HO)) (ι : List Addr) (O : Sto) (H : Hp) (ι' : List Addr) (O' : Sto) (H' : Hp) : Prop where
  pre : Pre ι ι'
  same : Same (fz R ι O H) (fz R ι' O' H')
section
variable {K : PySem.W.Frag} {R : List (Addr × HO)} {ι ι' ι'' : List Addr} {O O' O'' : Sto} {H H' H'' : Hp} {D a : Addr} {o o' : HO} {n : Nat} {p p' : PV}
theorem Ext.refl : Ext R ι O H ι O H := ⟨.refl, same_refl⟩
theorem Ext.trans (x : Ext R ι O H ι' O' H') (y : Ext R ι' O' H' ι'' O'' H'') : Ext R ι O H ι'' O'' H'' := ⟨x.pre.trans y.pre, same_trans x.same y.same⟩
theorem Ext.rep (x : Ext R ι O H ι' O' H') {v : V} (h : Rep K ι (fz R ι O H) p v) : Rep K ι' (fz R ι' O' H') p v := h.mono x.pre x.same
theorem Ext.repL (x : Ext R ι O H ι' O' H') {ps : List PV} {vs : List V} (h : RepL K ι (fz R ι O H) ps vs) : RepL K ι' (fz R ι' O' H') ps vs := h.mono x.pre x.same
theorem ers_eq {m m' : List Addr} (h : ∀ b, b ∈ m ↔ b ∈ m') : ers m H = ers m' H := by
  funext b
  unfold ers
  by_cases c : b ∈ m
  · rw [if_pos c, if_pos ((h b).mp c)]
  · rw [if_neg c, if_neg fun z => c ((h b).mpr z)]
theorem ers_upd {m : List Addr} (h : D ∈ m) : ers m (upd H D o) = ers m H := by
  funext b
  unfold ers
  by_cases c : b ∈ m
  · rw [if_pos c, if_pos c]
  · rw [if_neg c, if_neg c, upd_ne fun z => c (by rw [z]; exact h)]
theorem Sim.frozen (S : Sim K R ι O H) : Same (fz R ι O H) H := ers_sub _ _
theorem Sim.fresh (S : Sim K R ι O H) (h : H D = none) : D ∉ R.map (·.1) ++ lv ι O := fun z => by
  rcases List.mem_append.mp z with z | z
  · obtain ⟨x, hx, e⟩ := List.mem_map.mp z
    have := S.hid x hx
    rw [e, h] at this
    cases this
  · obtain ⟨n, q, h1, h2⟩ := lv_mem z
    obtain ⟨o, h3, _⟩ := S.obj n D q h1 h2
    rw [h] at h3
    cases h3
theorem Sim.hide_new (S : Sim K R ι O H) (h : H D = none) (o : HO) : Sim K ((D, o) :: R) ι O (upd H D o) ∧ fz ((D, o) :: R) ι O (upd H D o) = fz R ι O H := by
  have hf := S.fresh h
  have e : fz ((D, o) :: R) ι O (upd H D o) = fz R ι O H := by
    show ers (D :: (R.map (·.1) ++ lv ι O)) (upd H D o) = ers (R.map (·.1) ++ lv ι O) H
    rw [ers_upd List.mem_cons_self]
    funext b
    unfold ers
    by_cases c : b ∈ R.map (·.1) ++ lv ι O
    · rw [if_pos c, if_pos (List.mem_cons_of_mem _ c)]
    · rw [if_neg c]
      by_cases d : b = D
      · rw [d, if_pos List.mem_cons_self, h]
      · rw [if_neg fun z => (List.mem_cons.mp z).elim d c]
  have hs : Same H (upd H D o) := same_new h
  refine ⟨⟨S.len, List.nodup_cons.mpr ⟨hf, S.nd⟩, fun x hx => ?_, fun b hb z => ?_, fun n b q h1 h2 => ?_⟩, e⟩
  · rcases List.mem_cons.mp hx with rfl | hx
    · exact upd_same
    · exact hs _ _ (S.hid x hx)
  · cases q : H b with
    | none => exact S.thr b hb q
    | some u => rw [hs _ _ q] at z; cases z
  · obtain ⟨u, h3, h4⟩ := S.obj n b q h1 h2
    rw [e]
    exact ⟨u, hs _ _ h3, h4⟩
theorem Sim.hid_set (S : Sim K ((D, o) :: R) ι O H) (o' : HO) : Sim K ((D, o') :: R) ι O (upd H D o') ∧ fz ((D, o') :: R) ι O (upd H D o') = fz ((D, o) :: R) ι O H := by
  have nd := List.nodup_cons.mp (show (D :: (R.map (·.1) ++ lv ι O)).Nodup from S.nd)
  have e : fz ((D, o') :: R) ι O (upd H D o') = fz ((D, o) :: R) ι O H := by
    show ers (D :: (R.map (·.1) ++ lv ι O)) (upd H D o') = ers (D :: (R.map (·.1) ++ lv ι O)) H
    exact ers_upd List.mem_cons_self
  refine ⟨⟨S.len, S.nd, fun x hx => ?_, fun b hb z => ?_, fun n b q h1 h2 => ?_⟩, e⟩
  · rcases List.mem_cons.mp hx with rfl | hx
    · exact upd_same
    · rw [upd_ne fun z => nd.1 (List.mem_append_left _ (List.mem_map.mpr ⟨x, hx, z⟩))]
      exact S.hid x (List.mem_cons_of_mem _ hx)
  · by_cases c : b = D
    · rw [c, upd_same] at z; cases z
    · rw [upd_ne c] at z; exact S.thr b hb z
  · obtain ⟨u, h3, h4⟩ := S.obj n b q h1 h2
    rw [e]
    exact ⟨u, by rw [upd_ne fun z => nd.1 (List.mem_append_right _ (by rw [← z]; exact lv_in h1 h2))]; exact h3, h4⟩
theorem Sim.unhide (S : Sim K ((D, o) :: R) ι O H) : Sim K R ι O H ∧ Same (fz ((D, o) :: R) ι O H) (fz R ι O H) ∧ fz R ι O H D = some o := by
  have nd := List.nodup_cons.mp (show (D :: (R.map (·.1) ++ lv ι O)).Nodup from S.nd)
  have e : Same (fz ((D, o) :: R) ι O H) (fz R ι O H) := ers_less fun b hb => List.mem_cons_of_mem _ hb
  refine ⟨⟨S.len, nd.2, fun x hx => S.hid x (List.mem_cons_of_mem _ hx), S.thr, fun n b q h1 h2 => ?_⟩, e, ?_⟩
  · obtain ⟨u, h3, h4⟩ := S.obj n b q h1 h2
    exact ⟨u, h3, h4.mono .refl e⟩
  · show ers _ H D = _
    rw [ers_out nd.1]
    exact S.hid (D, o) List.mem_cons_self
theorem Sim.own (S : Sim K ((D, o) :: R) ι O H) (r : RepO K ι (fz ((D, o) :: R) ι O H) D p o) : Sim K R (ι ++ [D]) (O ++ [some p]) H ∧ fz R (ι ++ [D]) (O ++ [some p]) H = fz ((D, o) :: R) ι O H := by
  have hm : ∀ b, b ∈ R.map (·.1) ++ lv (ι ++ [D]) (O ++ [some p]) ↔ b ∈ D :: (R.map (·.1) ++ lv ι O) := fun b => by
    rw [lv_app S.len]
    simp only [List.mem_append, List.mem_cons, List.not_mem_nil, or_false]
    constructor
    · rintro (h | h | h)
      · exact .inr (.inl h)
      · exact .inr (.inr h)
      · exact .inl h
    · rintro (h | h | h)
      · exact .inr (.inr h)
      · exact .inl h
      · exact .inr (.inl h)
  have e : fz R (ι ++ [D]) (O ++ [some p]) H = fz ((D, o) :: R) ι O H := ers_eq hm
  have hD := S.hid (D, o) List.mem_cons_self
  refine ⟨⟨by simp [S.len], ?_, fun x hx => S.hid x (List.mem_cons_of_mem _ hx), fun b hb z => ?_, fun n b q h1 h2 => ?_⟩, e⟩
  · rw [lv_app S.len, ← List.append_assoc]
    exact (List.perm_append_singleton D _).nodup_iff.mpr S.nd
  · rcases List.mem_append.mp hb with hb | hb
    · exact S.thr b hb z
    · rw [List.mem_singleton.mp hb] at z
      rw [show H D = some o from hD] at z
      cases z
  · rw [e]
    by_cases c : n < O.length
    · rw [List.getElem?_append_left (by rw [S.len]; exact c)] at h1
      rw [List.getElem?_append_left c] at h2
      obtain ⟨u, h3, h4⟩ := S.obj n b q h1 h2
      exact ⟨u, h3, h4.mono .app same_refl⟩
    · have hn := (List.getElem?_eq_some_iff.mp h2).1
      simp only [List.length_append, List.length_cons, List.length_nil] at hn
      have en : n = O.length := by omega
      rw [en, List.getElem?_append_right (Nat.le_refl _)] at h2
      rw [en, List.getElem?_append_right (by rw [S.len]; exact Nat.le_refl _)] at h1
      simp [S.len] at h1 h2
      subst h1
      subst h2
      exact ⟨o, hD, r.mono .app same_refl⟩
theorem Sim.out (S : Sim K R ι O H) (hn : ι[n]? = some a) (ho : O[n]? = some (some p)) : ∃ o, H a = some o ∧ Sim K ((a, o) :: R) ι (O.set n none) H ∧ fz ((a, o) :: R) ι (O.set n none) H = fz R ι O H ∧ RepO K ι (fz R ι O H) a p o := by
  obtain ⟨o, h1, h2⟩ := S.obj n a p hn ho
  have pm := lv_out hn ho
  have hm : ∀ b, b ∈ a :: (R.map (·.1) ++ lv ι (O.set n none)) ↔ b ∈ R.map (·.1) ++ lv ι O := fun b => by
    have := pm.mem_iff (a := b)
    simp only [List.mem_append, List.mem_cons] at this ⊢
    rw [this]
    constructor
    · rintro (h | h | h)
      · exact .inr (.inl h)
      · exact .inl h
      · exact .inr (.inr h)
    · rintro (h | h | h)
      · exact .inr (.inl h)
      · exact .inl h
      · exact .inr (.inr h)
  have e : fz ((a, o) :: R) ι (O.set n none) H = fz R ι O H := ers_eq hm
  refine ⟨o, h1, ⟨by rw [List.length_set]; exact S.len, ?_, fun x hx => ?_, S.thr, fun m b q h3 h4 => ?_⟩, e, h2⟩
  · show (a :: (R.map (·.1) ++ lv ι (O.set n none))).Nodup
    exact ((pm.append_left (R.map (·.1))).trans List.perm_middle).nodup_iff.mp S.nd
  · rcases List.mem_cons.mp hx with rfl | hx
    · exact h1
    · exact S.hid x hx
  · rw [e]
    rw [List.getElem?_set] at h4
    split at h4
    · split at h4
      · cases h4
      · cases h4
    · exact S.obj m b q h3 h4
theorem Sim.put (S : Sim K ((a, o) :: R) ι O H) (hn : ι[n]? = some a) (ho : O[n]? = some none) (r : RepO K ι (fz ((a, o) :: R) ι O H) a p o) : Sim K R ι (O.set n (some p)) H ∧ fz R ι (O.set n (some p)) H = fz ((a, o) :: R) ι O H := by
  have pm := lv_put (p := p) hn ho
  have hm : ∀ b, b ∈ R.map (·.1) ++ lv ι (O.set n (some p)) ↔ b ∈ a :: (R.map (·.1) ++ lv ι O) := fun b => by
    have := pm.mem_iff (a := b)
    simp only [List.mem_append, List.mem_cons] at this ⊢
    rw [this]
    constructor
    · rintro (h | h | h)
      · exact .inr (.inl h)
      · exact .inl h
      · exact .inr (.inr h)
    · rintro (h | h | h)
      · exact .inr (.inl h)
      · exact .inl h
      · exact .inr (.inr h)
  have e : fz R ι (O.set n (some p)) H = fz ((a, o) :: R) ι O H := ers_eq hm
  have ha := S.hid (a, o) List.mem_cons_self
  refine ⟨⟨by rw [List.length_set]; exact S.len, ?_, fun x hx => S.hid x (List.mem_cons_of_mem _ hx), S.thr, fun m b q h3 h4 => ?_⟩, e⟩
  · have q : (a :: (R.map (·.1) ++ lv ι O)).Nodup := S.nd
    exact ((pm.append_left (R.map (·.1))).trans List.perm_middle).nodup_iff.mpr q
  · rw [e]
    rw [List.getElem?_set] at h4
    split at h4
    · rename_i c
      subst c
      split at h4
      · cases h4
        rw [hn] at h3
        cases h3
        exact ⟨o, ha, r⟩
      · cases h4
    · exact S.obj m b q h3 h4
/-! what follows: a new frozen thing, a new thing that changes, a change, a freezing -/
theorem Sim.newF (S : Sim K R ι O H) (h : H D = none) (o : HO) : Sim K R ι O (upd H D o) ∧ Ext R ι O H ι O (upd H D o) ∧ fz R ι O (upd H D o) D = some o := by
  obtain ⟨S1, e1⟩ := S.hide_new h o
  obtain ⟨S2, e2, e3⟩ := S1.unhide
  exact ⟨S2, ⟨.refl, by rw [← e1]; exact e2⟩, e3⟩
theorem Sim.newO (S : Sim K R ι O H) (h : H D = none) {o : HO} (r : RepO K ι (fz R ι O H) D p o) : Sim K R (ι ++ [D]) (O ++ [some p]) (upd H D o) ∧ Ext R ι O H (ι ++ [D]) (O ++ [some p]) (upd H D o) := by
  obtain ⟨S1, e1⟩ := S.hide_new h o
  obtain ⟨S2, e2⟩ := S1.own (p := p) (by rw [e1]; exact r)
  exact ⟨S2, ⟨.app, by rw [e2, e1]; exact same_refl⟩⟩
theorem Sim.change (S : Sim K R ι O H) (hn : ι[n]? = some a) (ho : O[n]? = some (some p)) {o' : HO} (r : RepO K ι (fz R ι O H) a p' o') : Sim K R ι (O.set n (some p')) (upd H a o') ∧ Ext R ι O H ι (O.set n (some p')) (upd H a o') := by
  obtain ⟨o, _, S1, e1, _⟩ := S.out hn ho
  obtain ⟨S2, e2⟩ := S1.hid_set o'
  have hl := (List.getElem?_eq_some_iff.mp ho).1
  obtain ⟨S3, e3⟩ := S2.put (n := n) (p := p') hn (by rw [List.getElem?_set_self hl]) (by rw [e2, e1]; exact r)
  rw [List.set_set] at S3 e3
  exact ⟨S3, ⟨.refl, by rw [e3, e2, e1]; exact same_refl⟩⟩
theorem Sim.freeze (S : Sim K R ι O H) (hn : ι[n]? = some a) (ho : O[n]? = some (some p)) : Sim K R ι (O.set n none) H ∧ Ext R ι O H ι (O.set n none) H ∧ Rep K ι (fz R ι (O.set n none) H) p (.ref a) := by
  obtain ⟨o, _, S1, e1, r⟩ := S.out hn ho
  obtain ⟨S2, e2, e3⟩ := S1.unhide
  have x : Ext R ι O H ι (O.set n none) H := ⟨.refl, by rw [← e1]; exact e2⟩
  exact ⟨S2, x, (r.mono x.pre x.same).rep e3⟩
end
end Qx

/-! Own layer Q2: what an expression, a test, a statement computes on PVs, and that a reading follows from it. -/
namespace Qx
open PySem PySem.Spec PyProof.Rows L2 Gx
structure PExc where
  cls : PV
  ns : List Str
  ps : List PV
inductive PR (α : Type) where
  | ok (a : α) (O : Sto) | exc (e : PExc) (O : Sto) | bad
def PR.bind {α β : Type} (x : PR α) (g : α → Sto → PR β) : PR β := match x with
  | .ok a O => g a O
  | .exc e O => .exc e O
  | .bad => .bad
def RepX (K : PySem.W.Frag) (ι : List Addr) (G : Hp) (e : PExc) (c : Value) (d : Option Addr) : Prop :=
  (match e.cls with | .cls C => c = .ref (He.ga K C) | .ty n => c = .type n | _ => False) ∧
  ∃ xs, XD G d e.ns xs ∧ e.ns.length = e.ps.length ∧ RepL K ι G e.ps xs
abbrev EF := Slots → Sto → PR PV
abbrev TF := Slots → Sto → PR Bool
abbrev AF := Slots → Sto → PR (List PV)
def SlR (K : PySem.W.Frag) (ι : List Addr) (G : Hp) (σ : L2.St) (s : Slots) : Prop := s.length = σ.length ∧ ∀ (i : Nat) p, s[i]? = some (some p) → ∃ v, σ[i]? = some (some v) ∧ Rep K ι G p v
section
variable {K : PySem.W.Frag} {R : List (Addr × HO)} {ι ι1 : List Addr} {O O1 : Sto} {H H1 : Hp} {σ : L2.St} {s : Slots}
theorem SlR.ext (X : Ext R ι O H ι1 O1 H1) (L : SlR K ι (fz R ι O H) σ s) : SlR K ι1 (fz R ι1 O1 H1) σ s := ⟨L.1, fun i p e => let ⟨v, h1, h2⟩ := L.2 i p e; ⟨v, h1, X.rep h2⟩⟩
theorem SlR.set {G : Hp} {p : PV} {v : V} (n : Nat) (L : SlR K ι G σ s) (r : Rep K ι G p v) : SlR K ι G (σ.set n (some v)) (s.set n (some p)) := by
  refine ⟨by rw [List.length_set, List.length_set]; exact L.1, fun i q e => ?_⟩
  rw [List.getElem?_set] at e ⊢
  by_cases c : n = i
  · rw [if_pos c] at e ⊢
    rw [← L.1]
    by_cases d : n < s.length
    · rw [if_pos d] at e ⊢
      cases e
      exact ⟨v, rfl, r⟩
    · rw [if_neg d] at e; cases e
  · rw [if_neg c] at e ⊢
    exact L.2 i q e
theorem SlR.set0 {G : Hp} {x : Option V} (n : Nat) (L : SlR K ι G σ s) : SlR K ι G (σ.set n x) (s.set n none) := by
  refine ⟨by rw [List.length_set, List.length_set]; exact L.1, fun i q e => ?_⟩
  rw [List.getElem?_set] at e ⊢
  by_cases c : n = i
  · rw [if_pos c] at e
    split at e <;> cases e
  · rw [if_neg c] at e ⊢
    exact L.2 i q e
theorem SlR.start {G : Hp} {ps : List PV} {vs : List V} (h : RepL K ι G ps vs) (n : Nat) : SlR K ι G (vs.map some ++ List.replicate n none) (ps.map some ++ List.replicate n none) := by
  refine ⟨by simp [h.len], fun i p e => ?_⟩
  by_cases c : i < ps.length
  · rw [List.getElem?_append_left (by rw [List.length_map]; exact c), List.getElem?_map] at e
    rw [List.getElem?_append_left (by rw [List.length_map, h.len]; exact c), List.getElem?_map]
    cases q : ps[i]? with
    | none => rw [q] at e; cases e
    | some p' =>
      rw [q] at e
      cases e
      obtain ⟨v, h1, h2⟩ := h.get q
      exact ⟨v, by rw [h1]; rfl, h2⟩
  · rw [List.getElem?_append_right (by rw [List.length_map]; omega), List.getElem?_replicate] at e
    split at e <;> cases e
end
def Post {α β : Type} (K : PySem.W.Frag) (R : List (Addr × HO)) (E : Option XK) (rp : List Addr → Hp → α → β → Prop) (ι : List Addr) (O : Sto) (H : Hp) (Q : β → Hp → Prop) : PR α → Prop
  | .ok a O' => ∀ b ι' H', Sim K R ι' O' H' → Ext R ι O H ι' O' H' → rp ι' (fz R ι' O' H') a b → Q b H'
  | .exc e O' => ∃ E', E = some E' ∧ ∀ c d ι' H', Sim K R ι' O' H' → Ext R ι O H ι' O' H' → RepX K ι' (fz R ι' O' H') e c d → E' c d H'
  | .bad => False
section
variable {α β γ δ : Type} {K : PySem.W.Frag} {R : List (Addr × HO)} {E : Option XK} {rp : List Addr → Hp → α → β → Prop} {rp' : List Addr → Hp → γ → δ → Prop} {ι ι1 : List Addr} {O O1 : Sto} {H H1 : Hp} {Q : β → Hp → Prop}
theorem Post.of (X : Ext R ι O H ι1 O1 H1) {r : PR α} (h : Post K R E rp ι O H Q r) : Post K R E rp ι1 O1 H1 Q r := by
  cases r with
  | ok a O' => exact fun b ι' H' S Y q => h b ι' H' S (X.trans Y) q
  | exc e O' => obtain ⟨E', e1, h⟩ := h; exact ⟨E', e1, fun c d ι' H' S Y q => h c d ι' H' S (X.trans Y) q⟩
  | bad => exact h
theorem Post.bind {x : PR α} {g : α → Sto → PR γ} {Q' : δ → Hp → Prop} (h : Post K R E rp' ι O H Q' (x.bind g)) (k : ∀ a O1 b ι1 H1, Sim K R ι1 O1 H1 → Ext R ι O H ι1 O1 H1 → rp ι1 (fz R ι1 O1 H1) a b → Post K R E rp' ι1 O1 H1 Q' (g a O1) → Q b H1) : Post K R E rp ι O H Q x := by
  cases x with
  | ok a O' => exact fun b ι' H' S Y q => k a O' b ι' H' S Y q (Post.of Y h)
  | exc e O' => exact h
  | bad => exact h
theorem Post.here {a : α} {b : β} (h : Post K R E rp ι O H Q (.ok a O)) (S : Sim K R ι O H) (r : rp ι (fz R ι O H) a b) : Q b H := h b ι H S .refl r
theorem Post.at {a : α} {b : β} (h : Post K R E rp ι O H Q (.ok a O1)) (S : Sim K R ι1 O1 H1) (X : Ext R ι O H ι1 O1 H1) (r : rp ι1 (fz R ι1 O1 H1) a b) : Q b H1 := h b ι1 H1 S X r
end
abbrev XM := Option (L2.St → XK)
def xat (E : XM) (σ : L2.St) : Option XK := E.map fun e => e σ
/-! ### judgements -/
def SimE (K : PySem.W.Frag) (E : XM) (t : TE) (f : EF) : Prop := ∀ R ι O H σ s Q, Sim K R ι O H → SlR K ι (fz R ι O H) σ s → Post K R (xat E σ) (Rep K) ι O H Q (f s O) → t σ H Q
def SimT (K : PySem.W.Frag) (E : XM) (t : TT) (f : TF) : Prop := ∀ R ι O H σ s Q, Sim K R ι O H → SlR K ι (fz R ι O H) σ s → Post K R (xat E σ) (fun _ _ a b => a = b) ι O H Q (f s O) → t σ H Q
def SimA (K : PySem.W.Frag) (E : XM) (t : TA) (f : AF) : Prop := ∀ R ι O H σ s Q, Sim K R ι O H → SlR K ι (fz R ι O H) σ s → Post K R (xat E σ) (RepL K) ι O H Q (f s O) → t σ H Q
def OpS (K : PySem.W.Frag) (r : R2) (op : PV → PV → Sto → PR PV) : Prop := ∀ R ι O H p q x y E Q, Sim K R ι O H → Rep K ι (fz R ι O H) p x → Rep K ι (fz R ι O H) q y → Post K R E (Rep K) ι O H Q (op p q O) → r x y H Q
def UnS (K : PySem.W.Frag) (r : V → Hp → VK → Prop) (op : PV → Sto → PR PV) : Prop := ∀ R ι O H p x E Q, Sim K R ι O H → Rep K ι (fz R ι O H) p x → Post K R E (Rep K) ι O H Q (op p O) → r x H Q
def CbS (K : PySem.W.Frag) (r : List V → Hp → VK → Prop) (f : List PV → Sto → PR PV) : Prop := ∀ R ι O H ps xs E Q, Sim K R ι O H → RepL K ι (fz R ι O H) ps xs → Post K R E (Rep K) ι O H Q (f ps O) → r xs H Q
/-! ### expressions -/
def eVar (i : Nat) : EF := fun s O => match s[i]? with
  | some (some p) => .ok p O
  | _ => .bad
def eC (p : PV) : EF := fun _ O => .ok p O
def eOp (op : PV → PV → Sto → PR PV) (a b : EF) : EF := fun s O => (a s O).bind fun p O1 => (b s O1).bind fun q O2 => op p q O2
def eUn (op : PV → Sto → PR PV) (a : EF) : EF := fun s O => (a s O).bind op
def aNil : AF := fun _ O => .ok [] O
def aCons (a : EF) (r : AF) : AF := fun s O => (a s O).bind fun p O1 => (r s O1).bind fun ps O2 => .ok (p :: ps) O2
def eCB (f : List PV → Sto → PR PV) (a : AF) : EF := fun s O => (a s O).bind f
def szOk (n : Nat) : Bool := decide (n ≤ sizeLine)
def szLt (n : Nat) : Bool := decide (n < sizeLine)
def eTup (a : AF) : EF := fun s O => (a s O).bind fun ps O1 => if szOk ps.length = true then .ok (.tup ps) O1 else .bad
def eLst (a : AF) : EF := fun s O => (a s O).bind fun ps O1 => if szOk ps.length = true then .ok (.lst ps) O1 else .bad
def eLstO (a : AF) : EF := fun s O => (a s O).bind fun ps O1 => if szOk ps.length = true then .ok (.loc O1.length) (O1 ++ [some (.lst ps)]) else .bad
def tTst (a : EF) : TF := fun s O => (a s O).bind fun p O1 => match p with
  | .bl b => .ok b O1
  | _ => .bad
def tAndP (a b : TF) : TF := fun s O => (a s O).bind fun c O1 => if c = true then b s O1 else .ok false O1
def tOrP (a b : TF) : TF := fun s O => (a s O).bind fun c O1 => if c = true then .ok true O1 else b s O1
def tNotP (a : TF) : TF := fun s O => (a s O).bind fun c O1 => .ok (!c) O1
def eAnd (a b : EF) : EF := fun s O => (a s O).bind fun p O1 => match p with
  | .bl c => if c = true then b s O1 else .ok (.bl false) O1
  | _ => .bad
def eOr (a b : EF) : EF := fun s O => (a s O).bind fun p O1 => match p with
  | .bl c => if c = true then .ok (.bl true) O1 else b s O1
  | _ => .bad
def eNot (a : EF) : EF := fun s O => (a s O).bind fun p O1 => match p with
  | .bl c => .ok (.bl (!c)) O1
  | _ => .bad
def eIf (c : TF) (a b : EF) : EF := fun s O => (c s O).bind fun k O1 => if k = true then a s O1 else b s O1
def eChain (o1 o2 : PV → PV → Sto → PR PV) (a b c : EF) : EF := fun s O => (a s O).bind fun p O1 => (b s O1).bind fun q O2 => (o1 p q O2).bind fun z O3 => match z with
  | .bl k => if k = true then (c s O3).bind fun r O4 => o2 q r O4 else .ok (.bl false) O3
  | _ => .bad
section
variable {K : PySem.W.Frag} {E : XM} {ta tb tc : TE} {fa fb fc : EF} {tA tB' : TA} {gA gB : AF} {t u : TT} {f g : TF} {r r' : R2} {op op' : PV → PV → Sto → PR PV}
theorem sim_var {i : Nat} : SimE K E (tVar i) (eVar i) := by
  intro R ι O H σ s Q S L h
  unfold eVar at h
  cases e : s[i]? with
  | none => rw [e] at h; exact h.elim
  | some x =>
    cases x with
    | none => rw [e] at h; exact h.elim
    | some p =>
      rw [e] at h
      obtain ⟨v, h1, h2⟩ := L.2 i p e
      exact ⟨v, h1, h.here S h2⟩
theorem sim_c {v : V} {p : PV} (hr : ∀ ι G, Rep K ι G p v) : SimE K E (tC v) (eC p) := fun R ι O H σ s Q S L h => h.here S (hr _ _)
theorem sim_int {i : Int} : SimE K E (tC (.int i)) (eC (.int i)) := sim_c fun _ _ => rfl
theorem sim_bl {b : Bool} : SimE K E (tC (.bl b)) (eC (.bl b)) := sim_c fun _ _ => rfl
theorem sim_non : SimE K E (tC .non) (eC .non) := sim_c fun _ _ => rfl
theorem sim_str {z : Str} : SimE K E (tC (.str z)) (eC (.str z)) := sim_c fun _ _ => rfl
theorem sim_ty {n : String} : SimE K E (tC (.ty n)) (eC (.ty n)) := sim_c fun _ _ => rfl
theorem sim_cls {C : Str} : SimE K E (tC (.ref (He.ga K C))) (eC (.cls C)) := sim_c fun _ _ => rfl
theorem sim_op (ho : OpS K r op) (ha : SimE K E ta fa) (hb : SimE K E tb fb) : SimE K E (tOp r ta tb) (eOp op fa fb) := fun R ι O H σ s Q S L h =>
  ha R ι O H σ s _ S L (h.bind fun p O1 x ι1 H1 S1 X1 r1 h1 => hb R ι1 O1 H1 σ s _ S1 (L.ext X1) (h1.bind fun q O2 y ι2 H2 S2 X2 r2 h2 => ho R ι2 O2 H2 p q x y _ _ S2 (X2.rep r1) r2 h2))
theorem sim_un {r : V → Hp → VK → Prop} {op : PV → Sto → PR PV} (ho : UnS K r op) (ha : SimE K E ta fa) : SimE K E (tUn r ta) (eUn op fa) := fun R ι O H σ s Q S L h =>
  ha R ι O H σ s _ S L (h.bind fun p O1 x ι1 H1 S1 X1 r1 h1 => ho R ι1 O1 H1 p x _ _ S1 r1 h1)
theorem sim_nil : SimA K E tNil aNil := fun R ι O H σ s Q S L h => h.here S rfl
theorem sim_cons (ha : SimE K E ta fa) (hA : SimA K E tA gA) : SimA K E (tCons ta tA) (aCons fa gA) := fun R ι O H σ s Q S L h =>
  ha R ι O H σ s _ S L (h.bind fun p O1 x ι1 H1 S1 X1 r1 h1 => hA R ι1 O1 H1 σ s _ S1 (L.ext X1) (h1.bind fun ps O2 xs ι2 H2 S2 X2 r2 h2 => h2.here S2 (RepL.consR (X2.rep r1) r2)))
theorem sim_cb {r : List V → Hp → VK → Prop} {c : List PV → Sto → PR PV} (hc : CbS K r c) (hA : SimA K E tA gA) : SimE K E (tCB r tA) (eCB c gA) := fun R ι O H σ s Q S L h =>
  hA R ι O H σ s _ S L (h.bind fun ps O1 xs ι1 H1 S1 X1 r1 h1 => hc R ι1 O1 H1 ps xs _ _ S1 r1 h1)
theorem szOk_le {n : Nat} (h : szOk n = true) : n ≤ sizeLine := of_decide_eq_true h
theorem szLt_lt {n : Nat} (h : szLt n = true) : n < sizeLine := of_decide_eq_true h
theorem sim_tup (hA : SimA K E tA gA) : SimE K E (tTup tA) (eTup gA) := fun R ι O H σ s Q S L h =>
  hA R ι O H σ s _ S L (h.bind fun ps O1 xs ι1 H1 S1 X1 r1 h1 => by
    split at h1
    · rename_i c
      refine ⟨by rw [r1.len]; exact szOk_le c, fun p hp => ?_⟩
      obtain ⟨S2, X2, e2⟩ := S1.newF hp (.tup xs)
      exact h1.at S2 X2 ⟨p, xs, rfl, SqT.of e2, X2.repL r1⟩
    · exact h1.elim)
theorem sim_lst (hA : SimA K E tA gA) : SimE K E (tLst tA) (eLst gA) := fun R ι O H σ s Q S L h =>
  hA R ι O H σ s _ S L (h.bind fun ps O1 xs ι1 H1 S1 X1 r1 h1 => by
    split at h1
    · rename_i c
      refine ⟨by rw [r1.len]; exact szOk_le c, fun p hp => ?_⟩
      obtain ⟨S2, X2, e2⟩ := S1.newF hp (.lst xs)
      exact h1.at S2 X2 ⟨p, xs, rfl, e2, X2.repL r1⟩
    · exact h1.elim)
theorem new_at {ι : List Addr} {O : Sto} {D : Addr} (h : ι.length = O.length) : (ι ++ [D])[O.length]? = some D := by
  rw [List.getElem?_append_right (by omega), h]
  simp
theorem sim_lstO (hA : SimA K E tA gA) : SimE K E (tLst tA) (eLstO gA) := fun R ι O H σ s Q S L h =>
  hA R ι O H σ s _ S L (h.bind fun ps O1 xs ι1 H1 S1 X1 r1 h1 => by
    split at h1
    · rename_i c
      refine ⟨by rw [r1.len]; exact szOk_le c, fun p hp => ?_⟩
      obtain ⟨S2, X2⟩ := S1.newO (p := .lst ps) hp (o := .lst xs) ⟨xs, rfl, r1⟩
      exact h1.at S2 X2 ⟨p, rfl, new_at S1.len⟩
    · exact h1.elim)
theorem sim_test (ha : SimE K E ta fa) : SimT K E (tTest ta) (tTst fa) := fun R ι O H σ s Q S L h =>
  ha R ι O H σ s _ S L (h.bind fun p O1 x ι1 H1 S1 X1 r1 h1 => by
    cases p with
    | bl b => exact ⟨b, r1, h1.here S1 rfl⟩
    | _ => exact h1.elim)
theorem sim_B (ha : SimE K E ta fa) : SimT K E (tB ta) (tTst fa) := fun R ι O H σ s Q S L h => sim_test ha R ι O H σ s Q S L h
theorem sim_and (ha : SimT K E t f) (hb : SimT K E u g) : SimT K E (tAnd t u) (tAndP f g) := fun R ι O H σ s Q S L h =>
  ha R ι O H σ s _ S L (h.bind fun c O1 c' ι1 H1 S1 X1 e h1 => by
    subst e
    cases c with
    | true => exact hb R ι1 O1 H1 σ s _ S1 (L.ext X1) h1
    | false => exact h1.here S1 rfl)
theorem sim_or (ha : SimT K E t f) (hb : SimT K E u g) : SimT K E (tOr t u) (tOrP f g) := fun R ι O H σ s Q S L h =>
  ha R ι O H σ s _ S L (h.bind fun c O1 c' ι1 H1 S1 X1 e h1 => by
    subst e
    cases c with
    | false => exact hb R ι1 O1 H1 σ s _ S1 (L.ext X1) h1
    | true => exact h1.here S1 rfl)
theorem sim_not (ha : SimT K E t f) : SimT K E (tNot t) (tNotP f) := fun R ι O H σ s Q S L h =>
  ha R ι O H σ s _ S L (h.bind fun c O1 c' ι1 H1 S1 X1 e h1 => by
    subst e
    exact h1.here S1 rfl)
theorem sim_yes : SimT K E tYes (fun _ O => .ok true O) := fun R ι O H σ s Q S L h => h.here S rfl
theorem sim_andV (ha : SimE K E ta fa) (hb : SimE K E tb fb) : SimE K E (tAndV ta tb) (eAnd fa fb) := fun R ι O H σ s Q S L h =>
  ha R ι O H σ s _ S L (h.bind fun p O1 x ι1 H1 S1 X1 r1 h1 => by
    cases p with
    | bl c =>
      refine ⟨c, r1, ?_⟩
      cases c with
      | true => exact hb R ι1 O1 H1 σ s _ S1 (L.ext X1) h1
      | false => exact h1.here S1 rfl
    | _ => exact h1.elim)
theorem sim_notV (ha : SimE K E ta fa) : SimE K E (tNotV ta) (eNot fa) := fun R ι O H σ s Q S L h =>
  ha R ι O H σ s _ S L (h.bind fun p O1 x ι1 H1 S1 X1 r1 h1 => by
    cases p with
    | bl c => exact ⟨c, r1, h1.here S1 rfl⟩
    | _ => exact h1.elim)
theorem sim_chain (h1 : OpS K r op) (h2 : OpS K r' op') (ha : SimE K E ta fa) (hb : SimE K E tb fb) (hc : SimE K E tc fc) : SimE K E (tChain r r' ta tb tc) (eChain op op' fa fb fc) := fun R ι O H σ s Q S L h => by
  unfold tChain
  refine ha R ι O H σ s _ S L (h.bind fun p O1 x ι1 H1 S1 X1 r1 k1 => hb R ι1 O1 H1 σ s _ S1 (L.ext X1) (k1.bind fun q O2 y ι2 H2 S2 X2 r2 k2 => h1 R ι2 O2 H2 p q x y _ _ S2 (X2.rep r1) r2 (k2.bind fun z O3 z' ι3 H3 S3 X3 r3 k3 => ?_)))
  cases z with
  | bl k =>
    refine ⟨k, r3, ?_⟩
    cases k with
    | true => exact hc R ι3 O3 H3 σ s _ S3 (L.ext (X1.trans (X2.trans X3))) (k3.bind fun w O4 w' ι4 H4 S4 X4 r4 k4 => h2 R ι4 O4 H4 q w y w' _ _ S4 ((X3.trans X4).rep r2) r4 k4)
    | false => exact k3.here S3 rfl
  | _ => exact k3.elim
end
/-! ### statements -/
inductive SR where
  | next (s : Slots) (O : Sto) | ret (p : PV) (O : Sto) | brk (s : Slots) (O : Sto) | cnt (s : Slots) (O : Sto) | exc (e : PExc) (s : Slots) (O : Sto) | bad
abbrev SF := Slots → Sto → SR
def PR.toS {α : Type} (r : PR α) (s : Slots) (k : α → Sto → SR) : SR := match r with
  | .ok a O => k a O
  | .exc e O => .exc e s O
  | .bad => .bad
def SR.bind (r : SR) (k : SF) : SR := match r with
  | .next s O => k s O
  | r => r
def PostS (K : PySem.W.Frag) (R : List (Addr × HO)) (E : XM) (ι : List Addr) (O : Sto) (H : Hp) (D : Ends) : SR → Prop
  | .next s O' => ∀ σ' ι' H', Sim K R ι' O' H' → Ext R ι O H ι' O' H' → SlR K ι' (fz R ι' O' H') σ' s → D.nx σ' H'
  | .ret p O' => ∀ v ι' H', Sim K R ι' O' H' → Ext R ι O H ι' O' H' → Rep K ι' (fz R ι' O' H') p v → D.rt v H'
  | .brk s O' => ∀ σ' ι' H', Sim K R ι' O' H' → Ext R ι O H ι' O' H' → SlR K ι' (fz R ι' O' H') σ' s → D.bk σ' H'
  | .cnt s O' => ∀ σ' ι' H', Sim K R ι' O' H' → Ext R ι O H ι' O' H' → SlR K ι' (fz R ι' O' H') σ' s → D.ct σ' H'
  | .exc e s O' => ∃ E', E = some E' ∧ ∀ σ' c d ι' H', Sim K R ι' O' H' → Ext R ι O H ι' O' H' → SlR K ι' (fz R ι' O' H') σ' s → RepX K ι' (fz R ι' O' H') e c d → E' σ' c d H'
  | .bad => False
def SimS (K : PySem.W.Frag) (E : XM) (t : TS) (g : SF) : Prop := ∀ R ι O H σ s D, Sim K R ι O H → SlR K ι (fz R ι O H) σ s → PostS K R E ι O H D (g s O) → t D σ H
abbrev GF := PV → Slots → Sto → PR Slots
def SimG (K : PySem.W.Frag) (E : XM) (g : TG) (f : GF) : Prop := ∀ R ι O H σ s p x Q, Sim K R ι O H → SlR K ι (fz R ι O H) σ s → Rep K ι (fz R ι O H) p x → Post K R (xat E σ) (fun ι G s σ => SlR K ι G σ s) ι O H Q (f p s O) → g x σ H Q
section
variable {α β : Type} {K : PySem.W.Frag} {R : List (Addr × HO)} {E : XM} {rp : List Addr → Hp → α → β → Prop} {ι ι1 : List Addr} {O O1 : Sto} {H H1 : Hp} {D : Ends} {σ : L2.St} {s : Slots}
theorem PostS.of (X : Ext R ι O H ι1 O1 H1) {r : SR} (h : PostS K R E ι O H D r) : PostS K R E ι1 O1 H1 D r := by
  cases r with
  | next s O' => exact fun σ' ι' H' S Y q => h σ' ι' H' S (X.trans Y) q
  | ret p O' => exact fun v ι' H' S Y q => h v ι' H' S (X.trans Y) q
  | brk s O' => exact fun σ' ι' H' S Y q => h σ' ι' H' S (X.trans Y) q
  | cnt s O' => exact fun σ' ι' H' S Y q => h σ' ι' H' S (X.trans Y) q
  | exc e s O' => obtain ⟨E', e1, h⟩ := h; exact ⟨E', e1, fun σ' c d ι' H' S Y l q => h σ' c d ι' H' S (X.trans Y) l q⟩
  | bad => exact h
theorem PostS.lift {r : PR α} {k : α → Sto → SR} {Q : β → Hp → Prop} (h : PostS K R E ι O H D (r.toS s k)) (L : SlR K ι (fz R ι O H) σ s) (kk : ∀ a O1 b ι1 H1, Sim K R ι1 O1 H1 → Ext R ι O H ι1 O1 H1 → rp ι1 (fz R ι1 O1 H1) a b → PostS K R E ι1 O1 H1 D (k a O1) → Q b H1) : Post K R (xat E σ) rp ι O H Q r := by
  cases r with
  | ok a O' => exact fun b ι' H' S Y q => kk a O' b ι' H' S Y q (PostS.of Y h)
  | exc e O' =>
    obtain ⟨E', e1, h⟩ := h
    exact ⟨E' σ, by rw [e1]; rfl, fun c d ι' H' S Y q => h σ c d ι' H' S Y (L.ext Y) q⟩
  | bad => exact h
theorem PostS.bind {r : SR} {k : SF} {nx : L2.St → Hp → Prop} (h : PostS K R E ι O H D (r.bind k)) (kk : ∀ s1 O1 σ1 ι1 H1, Sim K R ι1 O1 H1 → Ext R ι O H ι1 O1 H1 → SlR K ι1 (fz R ι1 O1 H1) σ1 s1 → PostS K R E ι1 O1 H1 D (k s1 O1) → nx σ1 H1) : PostS K R E ι O H { D with nx := nx } r := by
  cases r with
  | next s O' => exact fun σ' ι' H' S Y q => kk s O' σ' ι' H' S Y q (PostS.of Y h)
  | ret p O' => exact h
  | brk s O' => exact h
  | cnt s O' => exact h
  | exc e s O' => exact h
  | bad => exact h
end
def sSkip : SF := fun s O => .next s O
def sSeq (a b : SF) : SF := fun s O => (a s O).bind b
def sRet (f : EF) : SF := fun s O => (f s O).toS s fun p O1 => .ret p O1
def sRetN : SF := fun s O => .ret .non O
def sExp (f : EF) : SF := fun s O => (f s O).toS s fun _ O1 => .next s O1
def sIf (c : TF) (a b : SF) : SF := fun s O => (c s O).toS s fun k O1 => if k = true then a s O1 else b s O1
def sAsg (f : EF) (g : GF) : SF := fun s O => (f s O).toS s fun p O1 => (g p s O1).toS s fun s' O2 => .next s' O2
def gNm (i : Nat) : GF := fun p s O => .ok (s.set i (some p)) O
section
variable {K : PySem.W.Frag} {E : XM} {ta tb tc : TE} {fa fb fc : EF} {t : TT} {c : TF} {tS uS : TS} {f g : SF} {G : TG} {gf : GF}
theorem sim_next : SimS K E tNext sSkip := fun R ι O H σ s D S L h => h σ ι H S .refl L
theorem sim_seq (ha : SimS K E tS f) (hb : SimS K E uS g) : SimS K E (tSeq tS uS) (sSeq f g) := fun R ι O H σ s D S L h =>
  ha R ι O H σ s _ S L (h.bind fun s1 O1 σ1 ι1 H1 S1 X1 L1 h1 => hb R ι1 O1 H1 σ1 s1 D S1 L1 h1)
theorem sim_ret (ha : SimE K E ta fa) : SimS K E (tRet ta) (sRet fa) := fun R ι O H σ s D S L h =>
  ha R ι O H σ s _ S L (h.lift L fun p O1 v ι1 H1 S1 X1 r1 h1 => h1 v ι1 H1 S1 .refl r1)
theorem sim_exp (ha : SimE K E ta fa) : SimS K E (tDrop ta) (sExp fa) := fun R ι O H σ s D S L h =>
  ha R ι O H σ s _ S L (h.lift L fun p O1 v ι1 H1 S1 X1 r1 h1 => h1 σ ι1 H1 S1 .refl (L.ext X1))
theorem sim_ifS (hc : SimT K E t c) (ha : SimS K E tS f) (hb : SimS K E uS g) : SimS K E (tIfS t tS uS) (sIf c f g) := fun R ι O H σ s D S L h =>
  hc R ι O H σ s _ S L (h.lift L fun k O1 k' ι1 H1 S1 X1 e h1 => by
    subst e
    cases k with
    | true => exact ha R ι1 O1 H1 σ s D S1 (L.ext X1) h1
    | false => exact hb R ι1 O1 H1 σ s D S1 (L.ext X1) h1)
theorem sim_asg (ha : SimE K E ta fa) (hg : SimG K E G gf) : SimS K E (tAsg ta G) (sAsg fa gf) := fun R ι O H σ s D S L h =>
  ha R ι O H σ s _ S L (h.lift L fun p O1 v ι1 H1 S1 X1 r1 h1 => hg R ι1 O1 H1 σ s p v _ S1 (L.ext X1) r1 (h1.lift (L.ext X1) fun s2 O2 σ2 ι2 H2 S2 X2 L2 h2 => h2 σ2 ι2 H2 S2 .refl L2))
theorem sim_nm {i : Nat} : SimG K E (gName i) (gNm i) := fun R ι O H σ s p x Q S L r h => h.here S (L.set i r)
end
/-! ### defs -/
def mkDef (n N : Nat) (body : SF) (ps : List PV) (O : Sto) : PR PV :=
  if ps.length = n then match body (ps.map some ++ List.replicate (N - n) none) O with
    | .ret p O' => .ok p O'
    | .next _ O' => .ok .non O'
    | .exc e _ O' => .exc e O'
    | _ => .bad
  else .bad
abbrev MF := List PV → Sto → PR PV
def spM (K : PySem.W.Frag) (x : Bool) (m : MF) : Sp := fun vs H Q E => ∃ R ι O ps, Sim K R ι O H ∧ RepL K ι (fz R ι O H) ps vs ∧ Post K R (if x = true then some E else none) (Rep K) ι O H Q (m ps O)
theorem spM_len {K : PySem.W.Frag} {x : Bool} {n N : Nat} {body : SF} {vs : List V} {H : Hp} {Q : VK} {E : XK} (h : spM K x (mkDef n N body) vs H Q E) : vs.length = n := by
  obtain ⟨R, ι, O, ps, S, r, h⟩ := h
  unfold mkDef at h
  by_cases c : ps.length = n
  · rw [r.len]; exact c
  · rw [if_neg c] at h; exact h.elim
theorem spM_run {K : PySem.W.Frag} {n : Nat} {N : List Str} {body : SF} {vs : List V} {H : Hp} {Q : VK} {E : XK} {t : TS} (hs : SimS K none t body) (h : spM K false (mkDef n N.length body) vs H Q E) : t { nx := fun _ H => Q .non H, rt := Q } (L2.start N vs) H := by
  have hl := spM_len h
  obtain ⟨R, ι, O, ps, S, r, h⟩ := h
  unfold mkDef at h
  have hp : ps.length = n := by rw [← r.len]; exact hl
  rw [if_pos hp] at h
  have e : L2.start N vs = vs.map some ++ List.replicate (N.length - n) none := by unfold L2.start; rw [hl]
  rw [e]
  refine hs R ι O H _ (ps.map some ++ List.replicate (N.length - n) none) _ S (SlR.start r _) ?_
  cases q : body (ps.map some ++ List.replicate (N.length - n) none) O with
  | next s O' => rw [q] at h; exact fun σ' ι' H' S' X' L' => h .non ι' H' S' X' rfl
  | ret p O' => rw [q] at h; exact h
  | exc e s O' => rw [q] at h; obtain ⟨E', e1, _⟩ := h; cases e1
  | _ => rw [q] at h; exact h.elim
def eCall (m : MF) (dps : List PV) (a : AF) : EF := fun s O => (a s O).bind fun ps O1 => m (ps ++ dps) O1
def eCallK (m : MF) (n k : Nat) (gP : List PV → List PV → List PV) (a z : AF) : EF := fun s O => (a s O).bind fun ps O1 => (z s O1).bind fun zs O2 => if ps.length = n ∧ zs.length = k then m (gP ps zs) O2 else .bad
section
variable {K : PySem.W.Frag} {E : XM} {tA tZ : TA} {fA fZ : AF} {m : MF} {dps : List PV} {dvs : List V}
theorem sim_call (hA : SimA K none tA fA) (hd : ∀ ι G, RepL K ι G dps dvs) : SimE K none (tCall (spM K false m) dvs E0 tA) (eCall m dps fA) := fun R ι O H σ s Q S L h =>
  hA R ι O H σ s _ S L (h.bind fun ps O1 xs ι1 H1 S1 X1 r1 h1 => ⟨R, ι1, O1, ps ++ dps, S1, r1.app (hd _ _), h1⟩)
end
end Qx

/-! Own layer Q3: operators, lists, tuples, fields, methods, new instances. -/
namespace Qx
open PySem PySem.Spec PyProof.Rows L2 Gx
/-! ### what a PV is, with the store -/
def lstOf (O : Sto) : PV → Option (List PV)
  | .lst ps => some ps
  | .rol ps => some ps
  | .loc n => match O[n]? with
    | some (some (.lst ps)) => some ps
    | _ => none
  | _ => none
def lstT (O : Sto) : PV → Option (List PV)
  | .lst ps => some ps
  | .loc n => match O[n]? with
    | some (some (.lst ps)) => some ps
    | _ => none
  | _ => none
def tupOf : PV → Option (List PV)
  | .tup ps => some ps
  | .xtp ps => some ps
  | _ => none
def insOf (O : Sto) : PV → Option (Str × List Str × List PV)
  | .ins C ns ps => some (C, ns, ps)
  | .loc n => match O[n]? with
    | some (some (.ins C ns ps)) => some (C, ns, ps)
    | _ => none
  | _ => none
section
variable {K : PySem.W.Frag} {R : List (Addr × HO)} {ι : List Addr} {O : Sto} {H : Hp} {p : PV} {x : V} {ps : List PV}
theorem lstT_read (S : Sim K R ι O H) (r : Rep K ι (fz R ι O H) p x) (e : lstT O p = some ps) : ∃ a xs, x = .ref a ∧ H a = some (.lst xs) ∧ RepL K ι (fz R ι O H) ps xs := by
  cases p with
  | lst qs =>
    obtain ⟨a, xs, h1, h2, h3⟩ := r
    cases e
    exact ⟨a, xs, h1, S.frozen _ _ h2, h3⟩
  | loc n =>
    obtain ⟨a, h1, h2⟩ := r
    unfold lstT at e
    cases q : O[n]? with
    | none => simp [q] at e
    | some y =>
      cases y with
      | none => simp [q] at e
      | some z =>
        cases z with
        | lst qs =>
          simp only [q, Option.some.injEq] at e
          subst e
          obtain ⟨o, h3, xs, h4, h5⟩ := S.obj n a _ h2 q
          subst h4
          exact ⟨a, xs, h1, h3, h5⟩
        | _ => simp [q] at e
  | _ => cases e
theorem lst_read (S : Sim K R ι O H) (r : Rep K ι (fz R ι O H) p x) (e : lstOf O p = some ps) : ∃ a xs, x = .ref a ∧ SqL K H a xs ∧ RepL K ι (fz R ι O H) ps xs := by
  cases p with
  | rol qs =>
    obtain ⟨a, xs, h1, h2, h3⟩ := r
    cases e
    exact ⟨a, xs, h1, S.frozen.seq h2, h3⟩
  | lst qs =>
    obtain ⟨a, xs, h1, h2, h3⟩ := lstT_read S r (ps := ps) e
    exact ⟨a, xs, h1, SqL.of h2, h3⟩
  | loc n =>
    obtain ⟨a, xs, h1, h2, h3⟩ := lstT_read S r (ps := ps) e
    exact ⟨a, xs, h1, SqL.of h2, h3⟩
  | _ => cases e
theorem tup_read (S : Sim K R ι O H) (r : Rep K ι (fz R ι O H) p x) (e : tupOf p = some ps) : ∃ a xs, x = .ref a ∧ SqT K H a xs ∧ RepL K ι (fz R ι O H) ps xs := by
  cases p with
  | tup qs =>
    obtain ⟨a, xs, h1, h2, h3⟩ := r
    cases e
    exact ⟨a, xs, h1, sqt_same S.frozen h2, h3⟩
  | xtp qs =>
    obtain ⟨⟨a, xs, h1, h2, h3⟩, _⟩ := r
    cases e
    exact ⟨a, xs, h1, sqt_same S.frozen h2, h3⟩
  | _ => cases e
theorem ins_read {C : Str} {ns : List Str} (S : Sim K R ι O H) (r : Rep K ι (fz R ι O H) p x) (e : insOf O p = some (C, ns, ps)) : ∃ a dx xs, x = .ref a ∧ H a = some (.ins (He.ga K C) dx (ns.zip xs)) ∧ ns.length = ps.length ∧ RepL K ι (fz R ι O H) ps xs := by
  cases p with
  | ins C' ns' qs =>
    obtain ⟨a, dx, xs, h1, h2, h3, h4⟩ := r
    cases e
    exact ⟨a, dx, xs, h1, S.frozen _ _ h2, h3, h4⟩
  | loc n =>
    obtain ⟨a, h1, h2⟩ := r
    unfold insOf at e
    cases q : O[n]? with
    | none => simp [q] at e
    | some y =>
      cases y with
      | none => simp [q] at e
      | some z =>
        cases z with
        | ins C' ns' qs =>
          simp only [q, Option.some.injEq, Prod.mk.injEq] at e
          obtain ⟨rfl, rfl, rfl⟩ := e
          obtain ⟨o, h3, dx, xs, h4, h5, h6⟩ := S.obj n a _ h2 q
          subst h4
          exact ⟨a, dx, xs, h1, h3, h5, h6⟩
        | _ => simp [q] at e
  | _ => cases e
end
theorem zip_lookup {K : PySem.W.Frag} {ι : List Addr} {G : Hp} {f : Str} : ∀ {ns : List Str} {ps : List PV} {xs : List V}, RepL K ι G ps xs → (∀ p, (ns.zip ps).lookup f = some p → ∃ x, (ns.zip xs).lookup f = some x ∧ Rep K ι G p x) ∧ ((ns.zip ps).lookup f = none → (ns.zip xs).lookup f = none)
  | [], _, _, _ => ⟨fun p e => by simp at e, fun _ => rfl⟩
  | _ :: _, [], xs, h => by rw [show xs = [] from h]; exact ⟨fun p e => by simp at e, fun _ => by simp⟩
  | n :: ns, p :: ps, _, ⟨x, r, e, h2, h3⟩ => by
    subst e
    simp only [List.zip_cons_cons, List.lookup_cons]
    cases c : (f == n) with
    | true => exact ⟨fun q e => by cases e; exact ⟨x, rfl, h2⟩, fun e => by cases e⟩
    | false => exact zip_lookup h3
/-! ### whole numbers -/
def i2 (c : Int → Int → Bool) (g : Int → Int → PV) (p q : PV) (O : Sto) : PR PV := match p, q with
  | .int i, .int j => if c i j = true then .ok (g i j) O else .bad
  | _, _ => .bad
def i20 (g : Int → Int → PV) (p q : PV) (O : Sto) : PR PV := match p, q with
  | .int i, .int j => .ok (g i j) O
  | _, _ => .bad
theorem os_i0 {K : PySem.W.Frag} {g : Int → Int → PV} {g' : Int → Int → V} (h : ∀ i j ι G, Rep K ι G (g i j) (g' i j)) : OpS K (rI0 g') (i20 g) := by
  intro R ι O H p q x y E Q S r1 r2 h1
  cases p <;> cases q <;> first | exact h1.elim | skip
  rename_i i j
  exact ⟨i, j, r1, r2, h1.here S (h _ _ _ _)⟩
theorem os_i {K : PySem.W.Frag} {c : Int → Int → Bool} {C : Int → Int → Prop} {g : Int → Int → PV} {g' : Int → Int → V} (hc : ∀ i j, c i j = true → C i j) (h : ∀ i j ι G, Rep K ι G (g i j) (g' i j)) : OpS K (rI C g') (i2 c g) := by
  intro R ι O H p q x y E Q S r1 r2 h1
  cases p <;> cases q <;> first | exact h1.elim | skip
  rename_i i j
  unfold i2 at h1
  by_cases e : c i j = true
  · simp only [e, if_true] at h1
    exact ⟨i, j, r1, r2, hc _ _ e, h1.here S (h _ _ _ _)⟩
  · simp only [e] at h1
    exact h1.elim
def mulOk (i j : Int) : Bool := decide ((-(2 ^ 64) < i ∧ i < 2 ^ 64) ∨ (-(2 ^ 64) < j ∧ j < 2 ^ 64))
def divOk (i j : Int) : Bool := decide (0 < j ∧ j < 1073741824)
def powOk (i j : Int) : Bool := decide (0 ≤ j ∧ j ≤ 1000000 ∧ i.natAbs < 2 ^ 64)
def addI := i20 fun i j => .int (i + j)
def subI := i20 fun i j => .int (i - j)
def mulI := i2 mulOk fun i j => .int (i * j)
def fdivI := i2 divOk fun i j => .int (i / j)
def modI := i2 (fun _ j => decide (0 < j)) fun i j => .int (i % j)
def powI := i2 powOk fun i j => .int (i ^ j.toNat)
def ltI := i20 fun i j => .bl (decide (i < j))
def leI := i20 fun i j => .bl (decide (i ≤ j))
def gtI := i20 fun i j => .bl (decide (j < i))
def geI := i20 fun i j => .bl (decide (j ≤ i))
def negI (p : PV) (O : Sto) : PR PV := match p with
  | .int i => .ok (.int (-i)) O
  | _ => .bad
section
variable {K : PySem.W.Frag}
theorem os_add : OpS K (rI0 fun i j => .int (i + j)) addI := os_i0 fun _ _ _ _ => rfl
theorem os_sub : OpS K (rI0 fun i j => .int (i - j)) subI := os_i0 fun _ _ _ _ => rfl
theorem os_mul : OpS K (rI CMul fun i j => .int (i * j)) mulI := os_i (fun _ _ h => by unfold mulOk at h; have e := of_decide_eq_true h; exact e) fun _ _ _ _ => rfl
theorem os_fdiv : OpS K (rI CDiv fun i j => .int (i / j)) fdivI := os_i (fun _ _ h => by unfold divOk at h; have e := of_decide_eq_true h; exact e) fun _ _ _ _ => rfl
theorem os_mod : OpS K (rI (fun _ j => 0 < j) fun i j => .int (i % j)) modI := os_i (fun _ _ h => of_decide_eq_true h) fun _ _ _ _ => rfl
theorem os_pow : OpS K (rI CPow fun i j => .int (i ^ j.toNat)) powI := os_i (fun _ _ h => by unfold powOk at h; have e := of_decide_eq_true h; exact e) fun _ _ _ _ => rfl
theorem os_lt : OpS K (rI0 fun i j => .bl (decide (i < j))) ltI := os_i0 fun _ _ _ _ => rfl
theorem os_le : OpS K (rI0 fun i j => .bl (decide (i ≤ j))) leI := os_i0 fun _ _ _ _ => rfl
theorem os_gt : OpS K (rI0 fun i j => .bl (decide (j < i))) gtI := os_i0 fun _ _ _ _ => rfl
theorem os_ge : OpS K (rI0 fun i j => .bl (decide (j ≤ i))) geI := os_i0 fun _ _ _ _ => rfl
theorem us_neg : UnS K (rU fun i => .int (-i)) negI := by
  intro R ι O H p x E Q S r h
  cases p <;> first | exact h.elim | skip
  rename_i i
  exact ⟨i, r, h.here S rfl⟩
end
/-! ### equality of scalars, is None -/
def scV : PV → Option V
  | .non => some .non
  | .bl b => some (.bl b)
  | .int i => some (.int i)
  | .str z => some (.str z)
  | _ => none
theorem scV_rep {K : PySem.W.Frag} {ι : List Addr} {G : Hp} {p : PV} {v x : V} (e : scV p = some v) (r : Rep K ι G p x) : x = v := by
  cases p <;> first | (cases e; exact r) | cases e
def scB (p q : PV) : Bool := match scV p, scV q with
  | some v, some w => scal v w
  | _, _ => false
def scD (p q : PV) : Bool := match scV p, scV q with
  | some v, some w => decide (v = w)
  | _, _ => false
def eqS (p q : PV) (O : Sto) : PR PV := if scB p q = true then .ok (.bl (scD p q)) O else .bad
def neS (p q : PV) (O : Sto) : PR PV := if scB p q = true then .ok (.bl (!scD p q)) O else .bad
def isNon : PV → Bool
  | .non => true
  | _ => false
def isN (p q : PV) (O : Sto) : PR PV := match q with
  | .non => .ok (.bl (isNon p)) O
  | _ => .bad
def notN (p q : PV) (O : Sto) : PR PV := match q with
  | .non => .ok (.bl (!isNon p)) O
  | _ => .bad
section
variable {K : PySem.W.Frag}
theorem sc_two {ι : List Addr} {G : Hp} {p q : PV} {x y : V} (c : scB p q = true) (r1 : Rep K ι G p x) (r2 : Rep K ι G q y) : scal x y = true ∧ decide (x = y) = scD p q := by
  unfold scB at c
  unfold scD
  cases e1 : scV p with
  | none => simp [e1] at c
  | some v =>
    cases e2 : scV q with
    | none => simp [e1, e2] at c
    | some w =>
      simp only [e1, e2] at c ⊢
      rw [scV_rep e1 r1, scV_rep e2 r2]
      exact ⟨c, rfl⟩
theorem os_eqS : OpS K rEq eqS := by
  intro R ι O H p q x y E Q S r1 r2 h
  unfold eqS at h
  split at h
  · rename_i c
    obtain ⟨h1, h2⟩ := sc_two c r1 r2
    exact ⟨h1, by rw [h2]; exact h.here S rfl⟩
  · exact h.elim
theorem os_neS : OpS K rNe neS := by
  intro R ι O H p q x y E Q S r1 r2 h
  unfold neS at h
  split at h
  · rename_i c
    obtain ⟨h1, h2⟩ := sc_two c r1 r2
    exact ⟨h1, by rw [h2]; exact h.here S rfl⟩
  · exact h.elim
theorem isNon_rep {ι : List Addr} {G : Hp} {p : PV} {x : V} (r : Rep K ι G p x) : decide (x = .non) = isNon p := by
  cases p with
  | non => rw [show x = .non from r]; rfl
  | bl b => rw [show x = .bl b from r]; rfl
  | int b => rw [show x = .int b from r]; rfl
  | str b => rw [show x = .str b from r]; rfl
  | ty b => rw [show x = .ty b from r]; rfl
  | cls b => rw [show x = .ref _ from r]; rfl
  | tup b => obtain ⟨a, xs, e, _⟩ := r; rw [e]; rfl
  | xtp b => obtain ⟨⟨a, xs, e, _⟩, _⟩ := r; rw [e]; rfl
  | lst b => obtain ⟨a, xs, e, _⟩ := r; rw [e]; rfl
  | rol b => obtain ⟨a, xs, e, _⟩ := r; rw [e]; rfl
  | ins b c d => obtain ⟨a, dx, xs, e, _⟩ := r; rw [e]; rfl
  | rng b c => obtain ⟨a, e, _⟩ := r; rw [e]; rfl
  | loc b => obtain ⟨a, e, _⟩ := r; rw [e]; rfl
  | dic _ _ => obtain ⟨a, kvs, e, _⟩ := r; rw [e]; rfl
  | tbl _ => obtain ⟨a, e, _⟩ := r; rw [e]; rfl
  | xc _ _ _ => obtain ⟨a, oe, xs, e, _⟩ := r; rw [e]; rfl
theorem os_isN : OpS K (fun x y H Q => y = .non ∧ Q (.bl (decide (x = .non))) H) isN := by
  intro R ι O H p q x y E Q S r1 r2 h
  cases q <;> first | exact h.elim | skip
  exact ⟨r2, by rw [isNon_rep r1]; exact h.here S rfl⟩
theorem os_notN : OpS K (fun x y H Q => y = .non ∧ Q (.bl (!decide (x = .non))) H) notN := by
  intro R ι O H p q x y E Q S r1 r2 h
  cases q <;> first | exact h.elim | skip
  exact ⟨r2, by rw [isNon_rep r1]; exact h.here S rfl⟩
end
/-! ### deep equality -/
mutual
def toD0 : PV → Option PyData
  | .non => some .none
  | .bl b => some (.bool b)
  | .int i => some (.int i)
  | .str z => some (.str z)
  | .tup ps => (toDL ps).map .tuple
  | .xtp ps => (toDL ps).map .tuple
  | .lst ps => (toDL ps).map .list
  | .rol ps => (toDL ps).map .list
  | _ => none
def toDL : List PV → Option (List PyData)
  | [] => some []
  | p :: ps => match toD0 p, toDL ps with
    | some d, some ds => some (d :: ds)
    | _, _ => none
end
def toD (O : Sto) : PV → Option PyData
  | .loc n => match O[n]? with
    | some (some (.lst ps)) => (toDL ps).map .list
    | _ => none
  | p => toD0 p
section
variable {K : PySem.W.Frag} {ι : List Addr} {G H : Hp}
mutual
theorem toD0_dp (e : Same G H) : ∀ (p : PV) (x : V) (d : PyData), Rep K ι G p x → toD0 p = some d → Dp K H x d
  | .non, _, _, r, h => by cases r; cases h; exact .non
  | .bl _, _, _, r, h => by cases r; cases h; exact .bl _
  | .int _, _, _, r, h => by cases r; cases h; exact .int _
  | .str _, _, _, r, h => by cases r; cases h; exact .str _
  | .tup ps, _, _, ⟨a, xs, h1, h2, h3⟩, h => by
    subst h1
    obtain ⟨ds, h4, h5⟩ := Option.map_eq_some_iff.mp (show (toDL ps).map PyData.tuple = some _ by unfold toD0 at h; exact h)
    subst h5
    exact .tup (sqt_same e h2) (toDL_dp e ps xs ds h3 h4)
  | .xtp ps, _, _, ⟨⟨a, xs, h1, h2, h3⟩, _⟩, h => by
    subst h1
    obtain ⟨ds, h4, h5⟩ := Option.map_eq_some_iff.mp (show (toDL ps).map PyData.tuple = some _ by unfold toD0 at h; exact h)
    subst h5
    exact .tup (sqt_same e h2) (toDL_dp e ps xs ds h3 h4)
  | .lst ps, _, _, ⟨a, xs, h1, h2, h3⟩, h => by
    subst h1
    obtain ⟨ds, h4, h5⟩ := Option.map_eq_some_iff.mp (show (toDL ps).map PyData.list = some _ by unfold toD0 at h; exact h)
    subst h5
    exact .lst (SqL.of (e _ _ h2)) (toDL_dp e ps xs ds h3 h4)
  | .rol ps, _, _, ⟨a, xs, h1, h2, h3⟩, h => by
    subst h1
    obtain ⟨ds, h4, h5⟩ := Option.map_eq_some_iff.mp (show (toDL ps).map PyData.list = some _ by unfold toD0 at h; exact h)
    subst h5
    exact .lst (e.seq h2) (toDL_dp e ps xs ds h3 h4)
  | .ty _, _, _, _, h => by cases h
  | .cls _, _, _, _, h => by cases h
  | .ins _ _ _, _, _, _, h => by cases h
  | .rng _ _, _, _, _, h => by cases h
  | .loc _, _, _, _, h => by cases h
  | .dic _ _, _, _, _, h => by cases h
  | .tbl _, _, _, _, h => by cases h
  | .xc _ _ _, _, _, _, h => by cases h
theorem toDL_dp (e : Same G H) : ∀ (ps : List PV) (xs : List V) (ds : List PyData), RepL K ι G ps xs → toDL ps = some ds → DpAll K H xs ds
  | [], _, _, r, h => by cases r; cases h; exact .nil
  | p :: ps, _, ds, ⟨x, r, h1, h2, h3⟩, h => by
    subst h1
    unfold toDL at h
    cases e1 : toD0 p with
    | none => simp [e1] at h
    | some d =>
      cases e2 : toDL ps with
      | none => simp [e1, e2] at h
      | some ds' =>
        simp only [e1, e2, Option.some.injEq] at h
        subst h
        exact .cons (toD0_dp e p x d h2 e1) (toDL_dp e ps r ds' h3 e2)
end
end
theorem toD_dp {K : PySem.W.Frag} {R : List (Addr × HO)} {ι : List Addr} {O : Sto} {H : Hp} {p : PV} {x : V} {d : PyData} (S : Sim K R ι O H) (r : Rep K ι (fz R ι O H) p x) (e : toD O p = some d) : Dp K H x d := by
  cases p with
  | loc n =>
    unfold toD at e
    obtain ⟨a, xs, h1, h2, h3⟩ : ∃ (a : Addr) (qs : List PV), lstT O (.loc n) = some qs ∧ (toDL qs).map PyData.list = some d ∧ True := by
      cases q : O[n]? with
      | none => simp [q] at e
      | some y =>
        cases y with
        | none => simp [q] at e
        | some z =>
          cases z with
          | lst qs => simp only [q] at e; exact ⟨0, qs, by simp [lstT, q], e, trivial⟩
          | _ => simp [q] at e
    obtain ⟨b, ys, h5, h6, h7⟩ := lstT_read S r h1
    obtain ⟨ds, h8, h9⟩ := Option.map_eq_some_iff.mp h2
    subst h5
    subst h9
    exact .lst (SqL.of h6) (toDL_dp S.frozen xs ys ds h7 h8)
  | _ => exact toD0_dp S.frozen _ x d r e
def eqD (p q : PV) (O : Sto) : PR PV := match toD O p, toD O q with
  | some d, some e => if (SeqAt.shaped d && SeqAt.shaped e) = true then .ok (.bl (PyData.eqv d e)) O else .bad
  | _, _ => .bad
def neD (p q : PV) (O : Sto) : PR PV := match toD O p, toD O q with
  | some d, some e => if (SeqAt.shaped d && SeqAt.shaped e) = true then .ok (.bl (!PyData.eqv d e)) O else .bad
  | _, _ => .bad
section
variable {K : PySem.W.Frag}
theorem os_eqD : OpS K (rEqD K) eqD := by
  intro R ι O H p q x y E Q S r1 r2 h
  unfold eqD at h
  cases e1 : toD O p with
  | none => simp [e1] at h; exact h.elim
  | some d =>
    cases e2 : toD O q with
    | none => simp [e1, e2] at h; exact h.elim
    | some e =>
      simp only [e1, e2] at h
      split at h
      · rename_i c
        obtain ⟨c1, c2⟩ := Bool.and_eq_true_iff.mp c
        exact ⟨d, e, toD_dp S r1 e1, toD_dp S r2 e2, c1, c2, h.here S rfl⟩
      · exact h.elim
theorem os_neD : OpS K (rNeD K) neD := by
  intro R ι O H p q x y E Q S r1 r2 h
  unfold neD at h
  cases e1 : toD O p with
  | none => simp [e1] at h; exact h.elim
  | some d =>
    cases e2 : toD O q with
    | none => simp [e1, e2] at h; exact h.elim
    | some e =>
      simp only [e1, e2] at h
      split at h
      · rename_i c
        obtain ⟨c1, c2⟩ := Bool.and_eq_true_iff.mp c
        exact ⟨d, e, toD_dp S r1 e1, toD_dp S r2 e2, c1, c2, h.here S rfl⟩
      · exact h.elim
end
/-! ### items, slices, sums of sequences, in -/
def ixL (p q : PV) (O : Sto) : PR PV := match lstOf O p, q with
  | some ps, .int i => match atI ps i with
    | some r => .ok r O
    | none => .bad
  | _, _ => .bad
def ixT (p q : PV) (O : Sto) : PR PV := match tupOf p, q with
  | some ps, .int i => match atI ps i with
    | some r => .ok r O
    | none => .bad
  | _, _ => .bad
theorem atI_rep {K : PySem.W.Frag} {ι : List Addr} {G : Hp} {ps : List PV} {xs : List V} {i : Int} {r : PV} (h : RepL K ι G ps xs) (e : atI ps i = some r) : ∃ v, atI xs i = some v ∧ Rep K ι G r v := by
  unfold atI at e ⊢
  rw [h.len]
  obtain ⟨j, h1, h2⟩ := Option.bind_eq_some_iff.mp e
  obtain ⟨v, h3, h4⟩ := h.get h2
  exact ⟨v, by rw [h1]; exact h3, h4⟩
def cutP (ps : List PV) (lo hi : Option Int) : List PV := (ps.drop (HT.sIx ps.length 0 lo)).take (HT.sIx ps.length ps.length hi - HT.sIx ps.length 0 lo)
theorem cut_rep {K : PySem.W.Frag} {ι : List Addr} {G : Hp} {ps : List PV} {xs : List V} {lo hi : Option Int} (h : RepL K ι G ps xs) : RepL K ι G (cutP ps lo hi) (cutV xs lo hi) := by
  unfold cutP cutV
  rw [h.len]
  exact (h.drop _).take _
abbrev OF := Slots → Sto → PR (Option Int)
def SimO (K : PySem.W.Frag) (E : XM) (t : TO) (f : OF) : Prop := ∀ R ι O H σ s Q, Sim K R ι O H → SlR K ι (fz R ι O H) σ s → Post K R (xat E σ) (fun _ _ a b => a = b) ι O H Q (f s O) → t σ H Q
def oNo : OF := fun _ O => .ok none O
def oSo (f : EF) : OF := fun s O => (f s O).bind fun p O1 => match p with
  | .int i => .ok (some i) O1
  | _ => .bad
def eSl (g : PV → Option Int → Option Int → Sto → PR PV) (f : EF) (l h : OF) : EF := fun s O => (f s O).bind fun p O1 => (l s O1).bind fun i O2 => (h s O2).bind fun j O3 => g p i j O3
def SlS (K : PySem.W.Frag) (r : V → Option Int → Option Int → Hp → VK → Prop) (g : PV → Option Int → Option Int → Sto → PR PV) : Prop := ∀ R ι O H p x i j E Q, Sim K R ι O H → Rep K ι (fz R ι O H) p x → Post K R E (Rep K) ι O H Q (g p i j O) → r x i j H Q
def slL (p : PV) (i j : Option Int) (O : Sto) : PR PV := match lstOf O p with
  | some ps => .ok (.lst (cutP ps i j)) O
  | none => .bad
def slT (p : PV) (i j : Option Int) (O : Sto) : PR PV := match tupOf p with
  | some ps => if (HT.sIx ps.length 0 i == 0 && HT.sIx ps.length ps.length j == ps.length) = true then .bad else .ok (.tup (cutP ps i j)) O
  | none => .bad
def catT (p q : PV) (O : Sto) : PR PV := match tupOf p, tupOf q with
  | some ps, some qs => if (!ps.isEmpty && !qs.isEmpty && szOk (ps.length + qs.length)) = true then .ok (.tup (ps ++ qs)) O else .bad
  | _, _ => .bad
def catL (p q : PV) (O : Sto) : PR PV := match lstT O p, lstT O q with
  | some ps, some qs => if szOk (ps.length + qs.length) = true then .ok (.lst (ps ++ qs)) O else .bad
  | _, _ => .bad
section
variable {K : PySem.W.Frag} {E : XM} {te : TE} {fe : EF} {tl th : TO} {fl fh : OF}
theorem os_ixL : OpS K (rIxL K) ixL := by
  intro R ι O H p q x y E Q S r1 r2 h
  unfold ixL at h
  cases e1 : lstOf O p with
  | none => simp [e1] at h; exact h.elim
  | some ps =>
    cases q with
    | int i =>
      simp only [e1] at h
      cases e2 : atI ps i with
      | none => simp [e2] at h; exact h.elim
      | some r =>
        simp only [e2] at h
        obtain ⟨a, xs, h1, h2, h3⟩ := lst_read S r1 e1
        obtain ⟨v, h4, h5⟩ := atI_rep h3 e2
        exact ⟨a, xs, i, v, h1, r2, h2, h4, h.here S h5⟩
    | _ => simp [e1] at h; exact h.elim
theorem os_ixT : OpS K (rIxT K) ixT := by
  intro R ι O H p q x y E Q S r1 r2 h
  unfold ixT at h
  cases e1 : tupOf p with
  | none => simp [e1] at h; exact h.elim
  | some ps =>
    cases q with
    | int i =>
      simp only [e1] at h
      cases e2 : atI ps i with
      | none => simp [e2] at h; exact h.elim
      | some r =>
        simp only [e2] at h
        obtain ⟨a, xs, h1, h2, h3⟩ := tup_read S r1 e1
        obtain ⟨v, h4, h5⟩ := atI_rep h3 e2
        exact ⟨a, xs, i, v, h1, r2, h2, h4, h.here S h5⟩
    | _ => simp [e1] at h; exact h.elim
theorem sim_noP : SimO K E tNoPart oNo := fun R ι O H σ s Q S L h => h.here S rfl
theorem sim_part (he : SimE K E te fe) : SimO K E (tPart te) (oSo fe) := fun R ι O H σ s Q S L h =>
  he R ι O H σ s _ S L (h.bind fun p O1 x ι1 H1 S1 X1 r1 h1 => by
    cases p with
    | int i => exact ⟨i, r1, h1.here S1 rfl⟩
    | _ => exact h1.elim)
theorem sim_sl {r : V → Option Int → Option Int → Hp → VK → Prop} {g : PV → Option Int → Option Int → Sto → PR PV} (hg : SlS K r g) (he : SimE K E te fe) (hl : SimO K E tl fl) (hh : SimO K E th fh) : SimE K E (tSl r te tl th) (eSl g fe fl fh) := fun R ι O H σ s Q S L h =>
  he R ι O H σ s _ S L (h.bind fun p O1 x ι1 H1 S1 X1 r1 h1 => hl R ι1 O1 H1 σ s _ S1 (L.ext X1) (h1.bind fun i O2 i' ι2 H2 S2 X2 r2 h2 => by
    subst r2
    exact hh R ι2 O2 H2 σ s _ S2 (L.ext (X1.trans X2)) (h2.bind fun j O3 j' ι3 H3 S3 X3 r3 h3 => by
      subst r3
      exact hg R ι3 O3 H3 p x i j _ _ S3 ((X2.trans X3).rep r1) h3)))
theorem ss_L : SlS K (rSlL K) slL := by
  intro R ι O H p x i j E Q S r h
  unfold slL at h
  cases e : lstOf O p with
  | none => simp [e] at h; exact h.elim
  | some ps =>
    simp only [e] at h
    obtain ⟨a, xs, h1, h2, h3⟩ := lst_read S r e
    refine ⟨a, xs, h1, h2, fun q hq => ?_⟩
    obtain ⟨S2, X2, e2⟩ := S.newF hq (.lst (cutV xs i j))
    exact h.at S2 X2 ⟨q, _, rfl, e2, X2.repL (cut_rep h3)⟩
theorem os_catL : OpS K rCat catL := by
  intro R ι O H p q x y E Q S r1 r2 h
  unfold catL at h
  cases e1 : lstT O p with
  | none => simp [e1] at h; exact h.elim
  | some ps =>
    cases e2 : lstT O q with
    | none => simp [e1, e2] at h; exact h.elim
    | some qs =>
      simp only [e1, e2] at h
      split at h
      · rename_i c
        obtain ⟨a, xs, h1, h2, h3⟩ := lstT_read S r1 e1
        obtain ⟨b, ys, h4, h5, h6⟩ := lstT_read S r2 e2
        refine ⟨a, b, xs, ys, h1, h4, h2, h5, by rw [h3.len, h6.len]; exact szOk_le c, fun o ho => ?_⟩
        obtain ⟨S2, X2, e2⟩ := S.newF ho (.lst (xs ++ ys))
        exact h.at S2 X2 ⟨o, _, rfl, e2, X2.repL (h3.app h6)⟩
      · exact h.elim
end
/-! ### targets -/
def gTupP (n : Nat) (gs : List PV → Slots → Sto → PR Slots) : GF := fun p s O => match tupOf p with
  | some ps => if ps.length = n then gs ps s O else .bad
  | none => .bad
def gNilP (ps : List PV) (s : Slots) (O : Sto) : PR Slots := match ps with
  | [] => .ok s O
  | _ => .bad
def gConsP (g : GF) (gs : List PV → Slots → Sto → PR Slots) (ps : List PV) (s : Slots) (O : Sto) : PR Slots := match ps with
  | p :: r => (g p s O).bind fun s1 O1 => gs r s1 O1
  | [] => .bad
def SimGs (K : PySem.W.Frag) (E : XM) (g : TGs) (f : List PV → Slots → Sto → PR Slots) : Prop := ∀ R ι O H σ s ps xs E' Q, Sim K R ι O H → SlR K ι (fz R ι O H) σ s → RepL K ι (fz R ι O H) ps xs → Post K R E' (fun ι G s σ => SlR K ι G σ s) ι O H Q (f ps s O) → g xs σ H Q
def SimG0 (K : PySem.W.Frag) (g : TG) (f : GF) : Prop := ∀ R ι O H σ s p x E Q, Sim K R ι O H → SlR K ι (fz R ι O H) σ s → Rep K ι (fz R ι O H) p x → Post K R E (fun ι G s σ => SlR K ι G σ s) ι O H Q (f p s O) → g x σ H Q
section
variable {K : PySem.W.Frag} {E : XM} {g : TG} {f : GF} {gs : TGs} {fs : List PV → Slots → Sto → PR Slots}
theorem sim_g0 (h : SimG0 K g f) : SimG K E g f := fun R ι O H σ s p x Q S L r q => h R ι O H σ s p x _ Q S L r q
theorem g0_nm {i : Nat} : SimG0 K (gName i) (gNm i) := fun R ι O H σ s p x E Q S L r h => h.here S (L.set i r)
theorem g0_nil : SimGs K E gNil gNilP := by
  intro R ι O H σ s ps xs E' Q S L r h
  cases ps with
  | nil => exact ⟨r, h.here S L⟩
  | cons p ps => exact h.elim
theorem g0_cons (h1 : SimG0 K g f) (h2 : SimGs K E gs fs) : SimGs K E (gCons g gs) (gConsP f fs) := by
  intro R ι O H σ s ps xs E' Q S L r h
  cases ps with
  | nil => exact h.elim
  | cons p ps =>
    obtain ⟨x, r', e, r1, r2⟩ := r
    refine ⟨x, r', e, h1 R ι O H σ s p x E' _ S L r1 (Post.bind (rp' := fun ι G s σ => SlR K ι G σ s) h fun s1 O1 σ1 ι1 H1 S1 X1 L1 k => h2 R ι1 O1 H1 σ1 s1 ps r' E' Q S1 L1 (X1.repL r2) k)⟩
theorem g0_tup {n : Nat} (h : SimGs K E gs fs) : SimG0 K (gTup K n gs) (gTupP n fs) := by
  intro R ι O H σ s p x E' Q S L r k
  unfold gTupP at k
  cases e : tupOf p with
  | none => simp [e] at k; exact k.elim
  | some ps =>
    simp only [e] at k
    split at k
    · rename_i c
      obtain ⟨a, xs, h1, h2, h3⟩ := tup_read S r e
      exact ⟨a, xs, h1, h2, by rw [h3.len]; exact c, h R ι O H σ s ps xs E' Q S L h3 k⟩
    · exact k.elim
end
def gSubL (fo fi : EF) : GF := fun v s O => (fo s O).bind fun p O1 => (fi s O1).bind fun q O2 => match p, q with
  | .loc n, .int k => match O2[n]? with
    | some (some (.lst ps)) => match ixN ps.length k with
      | some j => .ok s (O2.set n (some (.lst (ps.set j v))))
      | none => .bad
    | _ => .bad
  | _, _ => .bad
section
variable {K : PySem.W.Frag} {E : XM} {to ti : TE} {fo fi : EF}
theorem sim_gSubL (ho : SimE K E to fo) (hi : SimE K E ti fi) : SimG K E (gSub to ti rSetL) (gSubL fo fi) := by
  intro R ι O H σ s v x Q S L rv h
  refine ho R ι O H σ s _ S L (Post.bind (rp' := fun ι G s σ => SlR K ι G σ s) h fun p O1 y ι1 H1 S1 X1 r1 h1 => hi R ι1 O1 H1 σ s _ S1 (L.ext X1) (Post.bind (rp' := fun ι G s σ => SlR K ι G σ s) h1 fun q O2 z ι2 H2 S2 X2 r2 h2 => ?_))
  cases p with
  | loc n =>
    cases q with
    | int k =>
      simp only at h2
      cases e : O2[n]? with
      | none => simp [e] at h2; exact h2.elim
      | some w =>
        cases w with
        | none => simp [e] at h2; exact h2.elim
        | some w =>
          cases w with
          | lst ps =>
            simp only [e] at h2
            cases e2 : ixN ps.length k with
            | none => simp [e2] at h2; exact h2.elim
            | some j =>
              simp only [e2] at h2
              obtain ⟨a, h3, h4⟩ := X2.rep r1
              obtain ⟨o, h5, xs, h6, h7⟩ := S2.obj n a _ h4 e
              subst h6
              obtain ⟨S3, X3⟩ := S2.change h4 e (p' := .lst (ps.set j v)) (o' := .lst (xs.set j x)) ⟨_, rfl, h7.set ((X1.trans X2).rep rv)⟩
              exact ⟨a, xs, k, j, h3, r2, h5, by rw [h7.len]; exact e2, h2.at S3 X3 (L.ext ((X1.trans X2).trans X3))⟩
          | _ => simp [e] at h2; exact h2.elim
    | _ => exact h2.elim
  | _ => exact h2.elim
end
end Qx

/-! Own layer Q4: fields, methods, new instances, isinstance, built-ins, loops, comprehensions. -/
namespace Qx
open PySem PySem.Spec PyProof.Rows L2 Gx
def noX {α : Type} (r : PR α) : PR α := match r with
  | .exc _ _ => .bad
  | r => r
theorem Post.noX {α β : Type} {K : PySem.W.Frag} {R : List (Addr × HO)} {E E' : Option XK} {rp : List Addr → Hp → α → β → Prop} {ι : List Addr} {O : Sto} {H : Hp} {Q : β → Hp → Prop} {r : PR α} (h : Post K R E rp ι O H Q (Qx.noX r)) : Post K R E' rp ι O H Q r := by
  cases r with
  | ok a O' => exact h
  | exc e O' => exact h.elim
  | bad => exact h
/-! ### fields and methods -/
def eFld (C f : Str) (a : EF) : EF := fun s O => (a s O).bind fun p O1 => match insOf O1 p with
  | some (C', ns, ps) => if C' = C then match (ns.zip ps).lookup f with
    | some q => .ok q O1
    | none => .bad else .bad
  | none => .bad
def eMeth (C m : Str) (mf : MF) (dps : List PV) (a : EF) (b : AF) : EF := fun s O => (a s O).bind fun p O1 => match insOf O1 p with
  | some (C', ns, qs) => if C' = C ∧ ((ns.zip qs).lookup m).isNone = true then (b s O1).bind fun ps O2 => mf (p :: (ps ++ dps)) O2 else .bad
  | none => .bad
def eMethK (C m : Str) (mf : MF) (n k : Nat) (gP : List PV → List PV → List PV) (a : EF) (b z : AF) : EF := fun s O => (a s O).bind fun p O1 => match insOf O1 p with
  | some (C', ns, qs) => if C' = C ∧ ((ns.zip qs).lookup m).isNone = true then (b s O1).bind fun ps O2 => (z s O2).bind fun zs O3 => if ps.length + 1 = n ∧ zs.length = k then mf (gP (p :: ps) zs) O3 else .bad else .bad
  | none => .bad
section
variable {K : PySem.W.Frag} {E : XM} {ta : TE} {fa : EF} {tA tZ : TA} {fA fZ : AF} {C f m : Str} {mf : MF} {dps : List PV} {dvs : List V}
theorem sim_fld (c : Cls K (He.ga K C)) (no : NoAttr K (He.ga K C) f) (ha : SimE K E ta fa) : SimE K E (tFld K ta f) (eFld C f fa) := fun R ι O H σ s Q S L h =>
  ha R ι O H σ s _ S L (h.bind fun p O1 x ι1 H1 S1 X1 r1 h1 => by
    cases e : insOf O1 p with
    | none => simp [e] at h1; exact h1.elim
    | some w =>
      obtain ⟨C', ns, ps⟩ := w
      simp only [e] at h1
      split at h1
      · rename_i ec
        subst ec
        obtain ⟨a, dx, xs, h2, h3, h4, h5⟩ := ins_read S1 r1 e
        cases e2 : (ns.zip ps).lookup f with
        | none => simp [e2] at h1; exact h1.elim
        | some q =>
          simp only [e2] at h1
          obtain ⟨v, h6, h7⟩ := (zip_lookup h5).1 q e2
          exact ⟨a, _, dx, _, v, h2, h3, c, no, h6, h1.here S1 h7⟩
      · exact h1.elim)
theorem sim_meth (ha : SimE K none ta fa) (hA : SimA K none tA fA) (hd : ∀ ι G, RepL K ι G dps dvs) : SimE K none (tMeth (He.ga K C) m (spM K false mf) dvs E0 ta tA) (eMeth C m mf dps fa fA) := fun R ι O H σ s Q S L h =>
  ha R ι O H σ s _ S L (h.bind fun p O1 x ι1 H1 S1 X1 r1 h1 => by
    cases e : insOf O1 p with
    | none => simp [e] at h1; exact h1.elim
    | some w =>
      obtain ⟨C', ns, ps⟩ := w
      simp only [e] at h1
      split at h1
      · rename_i ec
        obtain ⟨ec, en⟩ := ec
        subst ec
        obtain ⟨a, dx, xs, h2, h3, h4, h5⟩ := ins_read S1 r1 e
        exact ⟨a, dx, _, h2, h3, (zip_lookup h5).2 (Option.isNone_iff_eq_none.mp en), hA R ι1 O1 H1 σ s _ S1 (L.ext X1) (h1.bind fun qs O2 ys ι2 H2 S2 X2 r2 h6 => ⟨R, ι2, O2, _, S2, RepL.consR (X2.rep r1) (r2.app (hd _ _)), h6⟩)⟩
      · exact h1.elim)
/-! ### own ==, !=, len -/
def insIs (O : Sto) (C : Str) (p : PV) : Bool := match insOf O p with
  | some (C', _, _) => decide (C' = C)
  | none => false
theorem insIs_read {R : List (Addr × HO)} {ι : List Addr} {O : Sto} {H : Hp} {p : PV} {x : V} (S : Sim K R ι O H) (r : Rep K ι (fz R ι O H) p x) (e : insIs O C p = true) : InsAt (He.ga K C) H x := by
  unfold insIs at e
  cases q : insOf O p with
  | none => simp [q] at e
  | some w =>
    obtain ⟨C', ns, ps⟩ := w
    simp only [q, decide_eq_true_eq] at e
    subst e
    obtain ⟨a, dx, xs, h2, h3, _⟩ := ins_read S r q
    exact ⟨a, dx, _, h2, h3⟩
def boolR (neg : Bool) (r : PR PV) : PR PV := (noX r).bind fun p O => match p with
  | .bl b => .ok (.bl (if neg then !b else b)) O
  | _ => .bad
def oeqP (C : Str) (m : MF) (p q : PV) (O : Sto) : PR PV := if (insIs O C p && insIs O C q) = true then boolR false (m [p, q] O) else .bad
def oneP (C : Str) (m : MF) (p q : PV) (O : Sto) : PR PV := if (insIs O C p && insIs O C q) = true then boolR true (m [p, q] O) else .bad
theorem os_oeq : OpS K (rOEq (He.ga K C) (spM K false mf)) (oeqP C mf) := by
  intro R ι O H p q x y E Q S r1 r2 h
  unfold oeqP at h
  split at h
  · rename_i c
    obtain ⟨c1, c2⟩ := Bool.and_eq_true_iff.mp c
    exact ⟨insIs_read S r1 c1, insIs_read S r2 c2, R, ι, O, [p, q], S, .consR r1 (.one r2), Post.noX (E := E) (Post.bind h fun r O1 v ι1 H1 S1 X1 r3 h1 => by
      cases r with
      | bl b => exact ⟨b, r3, h1.here S1 rfl⟩
      | _ => exact h1.elim)⟩
  · exact h.elim
theorem os_one : OpS K (rONe (He.ga K C) (spM K false mf)) (oneP C mf) := by
  intro R ι O H p q x y E Q S r1 r2 h
  unfold oneP at h
  split at h
  · rename_i c
    obtain ⟨c1, c2⟩ := Bool.and_eq_true_iff.mp c
    exact ⟨insIs_read S r1 c1, insIs_read S r2 c2, R, ι, O, [p, q], S, .consR r1 (.one r2), Post.noX (E := E) (Post.bind h fun r O1 v ι1 H1 S1 X1 r3 h1 => by
      cases r with
      | bl b => exact ⟨b, r3, h1.here S1 rfl⟩
      | _ => exact h1.elim)⟩
  · exact h.elim
def olenP (C : Str) (m : MF) (ps : List PV) (O : Sto) : PR PV := match ps with
  | [p] => if insIs O C p = true then (noX (m [p] O)).bind fun r O1 => match r with
    | .int n => if (decide (0 ≤ n) && decide (n < 2 ^ 63)) = true then .ok (.int n) O1 else .bad
    | _ => .bad else .bad
  | _ => .bad
theorem cb_olen : CbS K (rOLen (He.ga K C) (spM K false mf)) (olenP C mf) := by
  intro R ι O H ps xs E Q S r h
  match ps, h with
  | [], h => exact h.elim
  | _ :: _ :: _, h => exact h.elim
  | [p], h =>
    obtain ⟨x, t, e, r1, e2⟩ := r
    cases e2
    subst e
    unfold olenP at h
    simp only at h
    split at h
    · rename_i c
      exact ⟨x, rfl, insIs_read S r1 c, R, ι, O, [p], S, .one r1, Post.noX (E := E) (Post.bind h fun r O1 v ι1 H1 S1 X1 r3 h1 => by
        cases r with
        | int n =>
          simp only at h1
          split at h1
          · rename_i cc
            obtain ⟨c1, c2⟩ := Bool.and_eq_true_iff.mp cc
            exact ⟨n, r3, ⟨of_decide_eq_true c1, of_decide_eq_true c2⟩, h1.here S1 rfl⟩
          · exact h1.elim
        | _ => exact h1.elim)⟩
    · exact h.elim
end
/-! ### new instances: frozen ones, by a builder -/
inductive BR where
  | next (ns : List Str) (ps : List PV) (s : Slots) (O : Sto) | exc (e : PExc) (O : Sto) | bad
abbrev BF := List Str → List PV → Slots → Sto → BR
def BR.bind (r : BR) (k : BF) : BR := match r with
  | .next ns ps s O => k ns ps s O
  | r => r
def hdI (K : PySem.W.Frag) (C : Str) (x dx : Addr) (ns : List Str) (xs : List V) : Addr × HO := (x, .ins (He.ga K C) dx (ns.zip xs))
structure SimI (K : PySem.W.Frag) (C : Str) (R : List (Addr × HO)) (ι : List Addr) (O : Sto) (H : Hp) (x dx : Addr) (ns : List Str) (ps : List PV) (xs : List V) (σ : L2.St) (s : Slots) : Prop where
  S : Sim K (hdI K C x dx ns xs :: R) ι O H
  ln : ns.length = ps.length
  r : RepL K ι (fz (hdI K C x dx ns xs :: R) ι O H) ps xs
  s0 : σ[0]? = some (some (.ref x))
  n0 : ∀ p, s[0]? ≠ some (some p)
  L : SlR K ι (fz (hdI K C x dx ns xs :: R) ι O H) σ s
structure ExtI (K : PySem.W.Frag) (C : Str) (R : List (Addr × HO)) (x dx : Addr) (ι : List Addr) (O : Sto) (H : Hp) (ns : List Str) (xs : List V) (ι' : List Addr) (O' : Sto) (H' : Hp) (ns' : List Str) (xs' : List V) : Prop where
  pre : Pre ι ι'
  same : Same (fz (hdI K C x dx ns xs :: R) ι O H) (fz (hdI K C x dx ns' xs' :: R) ι' O' H')
def PostB (K : PySem.W.Frag) (C : Str) (R : List (Addr × HO)) (x dx : Addr) (ι : List Addr) (O : Sto) (H : Hp) (ns : List Str) (xs : List V) (nx : L2.St → Hp → Prop) : BR → Prop
  | .next ns' ps' s' O' => ∀ σ' ι' H' xs', SimI K C R ι' O' H' x dx ns' ps' xs' σ' s' → ExtI K C R x dx ι O H ns xs ι' O' H' ns' xs' → nx σ' H'
  | _ => False
def SimB (K : PySem.W.Frag) (C : Str) (t : TS) (g : BF) : Prop := ∀ R ι O H x dx ns ps xs σ s (D : Ends), SimI K C R ι O H x dx ns ps xs σ s → PostB K C R x dx ι O H ns xs D.nx (g ns ps s O) → t D σ H
def bSeq (a b : BF) : BF := fun ns ps s O => (a ns ps s O).bind b
def bExp (f : EF) : BF := fun ns ps s O => match f s O with
  | .ok _ O1 => .next ns ps s O1
  | .exc e O1 => .exc e O1
  | .bad => .bad
def bFld (f : Str) (e : EF) : BF := fun ns ps s O => match e s O with
  | .ok p O1 => if f ∈ ns ∨ 900 < ns.length then .bad else .next (ns ++ [f]) (ps ++ [p]) s O1
  | .exc e O1 => .exc e O1
  | .bad => .bad
theorem putF_new {f : Str} {v : V} : ∀ {ns : List Str} {xs : List V}, ns.length = xs.length → f ∉ ns → putF f v (ns.zip xs) = (ns ++ [f]).zip (xs ++ [v])
  | [], [], _, _ => rfl
  | [], _ :: _, h, _ => by simp at h
  | _ :: _, [], h, _ => by simp at h
  | n :: ns, x :: xs, h, hn => by
    have e : n ≠ f := fun z => hn (by rw [z]; exact List.mem_cons_self)
    show (if n = f then (n, v) :: ns.zip xs else (n, x) :: putF f v (ns.zip xs)) = _
    rw [if_neg e, putF_new (by simpa using h) fun z => hn (List.mem_cons_of_mem _ z)]
    rfl
section
variable {K : PySem.W.Frag} {C : Str} {ta : TE} {fa : EF} {tS uS : TS} {f g : BF}
theorem ExtI.trans {R : List (Addr × HO)} {x dx : Addr} {ι ι' ι'' : List Addr} {O O' O'' : Sto} {H H' H'' : Hp} {ns ns' ns'' : List Str} {xs xs' xs'' : List V} (a : ExtI K C R x dx ι O H ns xs ι' O' H' ns' xs') (b : ExtI K C R x dx ι' O' H' ns' xs' ι'' O'' H'' ns'' xs'') : ExtI K C R x dx ι O H ns xs ι'' O'' H'' ns'' xs'' := ⟨a.pre.trans b.pre, same_trans a.same b.same⟩
theorem sb_fld {f : Str} (c : Cls K (He.ga K C)) (no : NoAttr K (He.ga K C) f) (ha : SimE K none ta fa) : SimB K C (sFld K (tVar 0) ta f) (bFld f fa) := fun R ι O H x dx ns ps xs σ s D I h => ha _ ι O H σ s _ I.S I.L (by
  unfold bFld at h
  cases e : fa s O with
  | ok p O1 =>
    rw [e] at h
    simp only at h
    split at h
    · exact h.elim
    · rename_i cc
      have c1 : f ∉ ns := fun z => cc (.inl z)
      have c2 : ns.length ≤ 900 := Nat.le_of_not_lt fun z => cc (.inr z)
      intro v ι' H' S' X' r'
      have hx := S'.hid _ List.mem_cons_self
      have hlen : ns.length = xs.length := by rw [I.r.len]; exact I.ln
      refine ⟨.ref x, I.s0, x, _, dx, _, rfl, hx, c, no, ?_, ?_⟩
      · rw [List.length_zip]; omega
      · obtain ⟨S2, e2⟩ := S'.hid_set (.ins (He.ga K C) dx ((ns ++ [f]).zip (xs ++ [v])))
        have e2 : fz (hdI K C x dx (ns ++ [f]) (xs ++ [v]) :: R) ι' O1 (upd H' x (.ins (He.ga K C) dx ((ns ++ [f]).zip (xs ++ [v])))) = fz (hdI K C x dx ns xs :: R) ι' O1 H' := e2
        rw [putF_new hlen c1]
        have er : RepL K ι' (fz (hdI K C x dx (ns ++ [f]) (xs ++ [v]) :: R) ι' O1 (upd H' x (.ins (He.ga K C) dx ((ns ++ [f]).zip (xs ++ [v]))))) (ps ++ [p]) (xs ++ [v]) := by
          have q := (X'.repL I.r).app (.one r')
          rw [← e2] at q
          exact q
        refine h σ ι' _ (xs ++ [v]) ⟨S2, by rw [List.length_append, List.length_append, I.ln]; rfl, er, I.s0, I.n0, ?_⟩ ⟨X'.pre, ?_⟩
        · have q := I.L.ext X'
          rw [← e2] at q
          exact q
        · have q := X'.same
          rw [← e2] at q
          exact q
  | _ => rw [e] at h; exact h.elim)
def mkInit (n N : Nat) (body : BF) (ps : List PV) (O : Sto) : PR (List Str × List PV) :=
  if ps.length = n then match body [] [] (none :: ps.map some ++ List.replicate (N - (n + 1)) none) O with
    | .next ns qs _ O' => .ok (ns, qs) O'
    | .exc e O' => .exc e O'
    | .bad => .bad
  else .bad
def spI (K : PySem.W.Frag) (C : Str) (m : List PV → Sto → PR (List Str × List PV)) : Sp := fun vs H Q _ => ∃ (x dx : Addr) (us : List V) (R : List (Addr × HO)) (ι : List Addr) (O : Sto) (ps : List PV), vs = .ref x :: us ∧ Sim K (hdI K C x dx [] [] :: R) ι O H ∧ RepL K ι (fz (hdI K C x dx [] [] :: R) ι O H) ps us ∧
  match m ps O with
  | .ok (ns, qs) O' => ∀ ι' H' xs, Sim K (hdI K C x dx ns xs :: R) ι' O' H' → Pre ι ι' → Same (fz (hdI K C x dx [] [] :: R) ι O H) (fz (hdI K C x dx ns xs :: R) ι' O' H') → ns.length = qs.length → RepL K ι' (fz (hdI K C x dx ns xs :: R) ι' O' H') qs xs → Q .non H'
  | _ => False
theorem spI_len {n N : Nat} {body : BF} {vs : List V} {H : Hp} {Q : VK} {E : XK} (h : spI K C (mkInit n N body) vs H Q E) : vs.length = n + 1 := by
  obtain ⟨x, dx, us, R, ι, O, ps, e, S, r, h⟩ := h
  unfold mkInit at h
  by_cases c : ps.length = n
  · rw [e, List.length_cons, r.len, c]
  · rw [if_neg c] at h; exact h.elim
theorem spI_run {n : Nat} {N : List Str} {body : BF} {vs : List V} {H : Hp} {Q : VK} {E : XK} {t : TS} (hs : SimB K C t body) (h : spI K C (mkInit n N.length body) vs H Q E) : t { nx := fun _ H => Q .non H, rt := Q } (L2.start N vs) H := by
  have hl := spI_len h
  obtain ⟨x, dx, us, R, ι, O, ps, e, S, r, h⟩ := h
  have hp : ps.length = n := by rw [e, List.length_cons, r.len] at hl; omega
  unfold mkInit at h
  rw [if_pos hp] at h
  have e2 : L2.start N vs = some (.ref x) :: (us.map some ++ List.replicate (N.length - (n + 1)) none) := by
    unfold L2.start
    rw [hl, e]
    rfl
  rw [e2]
  refine hs R ι O H x dx [] [] [] _ (none :: ps.map some ++ List.replicate (N.length - (n + 1)) none) _ ⟨S, rfl, rfl, rfl, fun p z => ?_, ?_⟩ ?_
  · simp at z
  · have L := SlR.start (K := K) r (N.length - (n + 1))
    refine ⟨by simp [r.len], fun i p e => ?_⟩
    cases i with
    | zero => simp at e
    | succ i =>
      rw [List.cons_append, List.getElem?_cons_succ] at e
      rw [List.getElem?_cons_succ]
      exact L.2 i p e
  · cases q : body [] [] (none :: ps.map some ++ List.replicate (N.length - (n + 1)) none) O with
    | next ns qs s O' =>
      rw [q] at h
      exact fun σ' ι' H' xs' I' X' => h ι' H' xs' I'.S X'.pre X'.same I'.ln I'.r
    | _ => rw [q] at h; exact h.elim
end
def mkIns (C : Str) (r : PR (List Str × List PV)) : PR PV := match r with
  | .ok (ns, qs) O => .ok (.ins C ns qs) O
  | .exc e O => .exc e O
  | .bad => .bad
def eMake (C : Str) (m : List PV → Sto → PR (List Str × List PV)) (dps : List PV) (a : AF) : EF := fun s O => (a s O).bind fun ps O1 => mkIns C (m (ps ++ dps) O1)
def eMakeK (C : Str) (m : List PV → Sto → PR (List Str × List PV)) (n k : Nat) (gP : List PV → List PV → List PV) (a z : AF) : EF := fun s O => (a s O).bind fun ps O1 => (z s O1).bind fun zs O2 => if ps.length = n ∧ zs.length = k then mkIns C (m (gP ps zs) O2) else .bad
section
variable {K : PySem.W.Frag} {C : Str} {tA tZ : TA} {fA fZ : AF} {m : List PV → Sto → PR (List Str × List PV)} {dps : List PV} {dvs : List V}
theorem mk_core {R : List (Addr × HO)} {ι : List Addr} {O : Sto} {H : Hp} {ps : List PV} {us : List V} {Q : VK} {E : XK} {x dx : Addr} (S : Sim K R ι O H) (r : RepL K ι (fz R ι O H) ps us) (h : Post K R none (Rep K) ι O H Q (mkIns C (m ps O))) (hx : H x = none) (hdx : H dx = none) (ne : dx ≠ x) :
    spI K C m (.ref x :: us) (upd (upd H dx (.own x)) x (.ins (He.ga K C) dx [])) (fun v H2 => v = .non ∧ Q (.ref x) H2) E := by
  obtain ⟨S1, X1, _⟩ := S.newF hdx (.own x)
  obtain ⟨S2, e2⟩ := S1.hide_new (D := x) (by rw [upd_ne fun e => ne e.symm]; exact hx) (.ins (He.ga K C) dx [])
  have sm : Same (fz R ι O H) (fz (hdI K C x dx [] [] :: R) ι O (upd (upd H dx (.own x)) x (.ins (He.ga K C) dx []))) := by
    have q := X1.same
    rw [← e2] at q
    exact q
  refine ⟨x, dx, us, R, ι, O, ps, rfl, S2, r.mono .refl sm, ?_⟩
  cases e : m ps O with
  | bad => rw [e] at h; exact h.elim
  | exc e O' => rw [e] at h; obtain ⟨_, z, _⟩ := h; cases z
  | ok w O' =>
    obtain ⟨ns, qs⟩ := w
    rw [e] at h
    intro ι' H' xs S' pre sm' ln r'
    obtain ⟨S3, sm3, e3⟩ := S'.unhide
    refine ⟨rfl, h (.ref x) ι' H' S3 ⟨pre, same_trans sm (same_trans sm' sm3)⟩ ⟨x, dx, xs, rfl, e3, ln, r'.mono .refl sm3⟩⟩
theorem sim_make (hA : SimA K none tA fA) (hd : ∀ ι G, RepL K ι G dps dvs) : SimE K none (tMake (He.ga K C) (spI K C m) dvs E0 tA) (eMake C m dps fA) := fun R ι O H σ s Q S L h =>
  hA R ι O H σ s _ S L (h.bind fun ps O1 xs ι1 H1 S1 X1 r1 h1 => fun x dx hx hdx ne => mk_core S1 (r1.app (hd _ _)) h1 hx hdx ne)
end
end Qx

/-! Own layer Q5: loops, comprehensions, methods of lists, built-ins, isinstance. -/
namespace Qx
open PySem PySem.Spec PyProof.Rows L2 Gx
theorem PR.bind_ok {α β : Type} {x : PR α} {g : α → Sto → PR β} {a : β} {O : Sto} (h : x.bind g = .ok a O) : ∃ b O1, x = .ok b O1 ∧ g b O1 = .ok a O := by
  cases x with
  | ok b O1 => exact ⟨b, O1, rfl, h⟩
  | exc e O1 => cases h
  | bad => cases h
/-! ### what is walked -/
abbrev ItP := List PV × Option (Nat × List PV)
abbrev IF := Slots → Sto → PR ItP
def grd (g : Option (Nat × List PV)) (O : Sto) : Prop := match g with
  | none => True
  | some (n, ps) => O[n]? = some (some (.lst ps))
open Classical in
noncomputable def chk {α : Type} (g : Option (Nat × List PV)) (O : Sto) (bad r : α) : α := match g with
  | none => r
  | some (n, ps) => if O[n]? = some (some (.lst ps)) then r else bad
theorem chk_or {α : Type} (g : Option (Nat × List PV)) (O : Sto) (bad r : α) : (grd g O ∧ chk g O bad r = r) ∨ chk g O bad r = bad := by
  cases g with
  | none => exact .inl ⟨trivial, rfl⟩
  | some w =>
    obtain ⟨n, ps⟩ := w
    by_cases c : O[n]? = some (some (.lst ps))
    · exact .inl ⟨c, by unfold chk; simp only; rw [if_pos c]⟩
    · exact .inr (by unfold chk; simp only; rw [if_neg c])
def ItOk (K : PySem.W.Frag) (J : It) (items : List PV) (g : Option (Nat × List PV)) (ι0 : List Addr) (G0 : Hp) : Prop := ∀ R ι O H, Sim K R ι O H → Pre ι0 ι → Same G0 (fz R ι O H) → grd g O → ∀ i : Nat,
  (∀ p, items[i]? = some p → J.go i H ∧ ∀ x H', J.yld i H x H' → ∃ ι', Sim K R ι' O H' ∧ Ext R ι O H ι' O H' ∧ Rep K ι' (fz R ι' O H') p x) ∧ (items.length ≤ i → J.stop i H)
def rpI (K : PySem.W.Frag) (ι : List Addr) (G : Hp) (a : ItP) (J : It) : Prop := ItOk K J a.1 a.2 ι G
def SimIt (K : PySem.W.Frag) (E : XM) (wi : TI) (f : IF) : Prop := ∀ R ι O H σ s Q, Sim K R ι O H → SlR K ι (fz R ι O H) σ s → Post K R (xat E σ) (rpI K) ι O H Q (f s O) → wi σ H Q
/-! ### for -/
noncomputable def loopL (g : Option (Nat × List PV)) (tgt : GF) (body : SF) : List PV → SF
  | [], s, O => chk g O .bad (.next s O)
  | p :: r, s, O => chk g O .bad ((tgt p s O).toS s fun s1 O1 => match body s1 O1 with
    | .next s2 O2 => loopL g tgt body r s2 O2
    | .cnt s2 O2 => loopL g tgt body r s2 O2
    | .brk s2 O2 => .next s2 O2
    | x => x)
noncomputable def sFor (f : IF) (tgt : GF) (body : SF) : SF := fun s O => (f s O).toS s fun it O1 => loopL it.2 tgt body it.1 s O1
theorem sim_for {K : PySem.W.Frag} {E : XM} {wi : TI} {fI : IF} {g : TG} {tgt : GF} {tb : TS} {body : SF} (hi : SimIt K E wi fI) (hg : SimG K E g tgt) (hb : SimS K E tb body) : SimS K E (tFor wi g tb) (sFor fI tgt body) := by
  intro R ι O H σ s D S L h
  refine hi R ι O H σ s _ S L (h.lift L fun it O1 J ι1 H1 S1 X1 ok h1 => ?_)
  obtain ⟨items, gd⟩ := it
  have ok : ItOk K J items gd ι1 (fz R ι1 O1 H1) := ok
  refine ⟨fun i m σ' H' => m = items.length - i ∧ i ≤ items.length ∧ ∃ s' ι' O', Sim K R ι' O' H' ∧ Ext R ι1 O1 H1 ι' O' H' ∧ SlR K ι' (fz R ι' O' H') σ' s' ∧ PostS K R E ι' O' H' D (loopL gd tgt body (items.drop i) s' O'), ⟨_, rfl, Nat.zero_le _, s, ι1, O1, S1, .refl, L.ext X1, h1⟩, ?_⟩
  rintro i m σ' H' ⟨rfl, hi', s', ι', O', S', X', L', h'⟩
  by_cases hlt : i < items.length
  · have ep : items[i]? = some items[i] := List.getElem?_eq_getElem hlt
    rw [drop_get ep] at h'
    unfold loopL at h'
    rcases chk_or gd O' SR.bad ((tgt items[i] s' O').toS s' fun s1 O1 => match body s1 O1 with
      | .next s2 O2 => loopL gd tgt body (items.drop (i + 1)) s2 O2
      | .cnt s2 O2 => loopL gd tgt body (items.drop (i + 1)) s2 O2
      | .brk s2 O2 => .next s2 O2
      | x => x) with ⟨gok, e⟩ | e
    · rw [e] at h'
      obtain ⟨go, yl⟩ := (ok R ι' O' H' S' X'.pre X'.same gok i).1 _ ep
      refine .inr ⟨go, fun σ2 H2 => ∃ m', m' < items.length - i ∧ (m' = items.length - (i + 1) ∧ i + 1 ≤ items.length ∧ ∃ s2 ι2 O2, Sim K R ι2 O2 H2 ∧ Ext R ι1 O1 H1 ι2 O2 H2 ∧ SlR K ι2 (fz R ι2 O2 H2) σ2 s2 ∧ PostS K R E ι2 O2 H2 D (loopL gd tgt body (items.drop (i + 1)) s2 O2)), fun σ2 H2 z => z, fun x H2 y => ?_⟩
      obtain ⟨ι2, S2, X2, r2⟩ := yl x H2 y
      refine hg R ι2 O' H2 σ' s' _ x _ S2 (L'.ext X2) r2 ((PostS.of X2 h').lift (L'.ext X2) fun s3 O3 σ3 ι3 H3 S3 X3 L3 h3 => ?_)
      refine hb R ι3 O3 H3 σ3 s3 _ S3 L3 ?_
      have X13 := X'.trans (X2.trans X3)
      cases e3 : body s3 O3 with
      | next s4 O4 => rw [e3] at h3; exact fun σ4 ι4 H4 S4 X4 L4 => ⟨_, by omega, rfl, by omega, s4, ι4, O4, S4, X13.trans X4, L4, PostS.of X4 h3⟩
      | cnt s4 O4 => rw [e3] at h3; exact fun σ4 ι4 H4 S4 X4 L4 => ⟨_, by omega, rfl, by omega, s4, ι4, O4, S4, X13.trans X4, L4, PostS.of X4 h3⟩
      | brk s4 O4 => rw [e3] at h3; exact fun σ4 ι4 H4 S4 X4 L4 => h3 σ4 ι4 H4 S4 X4 L4
      | ret p O4 => rw [e3] at h3; exact h3
      | exc x s4 O4 => rw [e3] at h3; exact h3
      | bad => rw [e3] at h3; exact h3
    · rw [e] at h'; exact h'.elim
  · have e0 : items.drop i = [] := List.drop_eq_nil_of_le (Nat.le_of_not_lt hlt)
    rw [e0] at h'
    unfold loopL at h'
    rcases chk_or gd O' SR.bad (.next s' O') with ⟨gok, e⟩ | e
    · rw [e] at h'
      exact .inl ⟨(ok R ι' O' H' S' X'.pre X'.same gok i).2 (Nat.le_of_not_lt hlt), h' σ' ι' H' S' .refl L'⟩
    · rw [e] at h'; exact h'.elim
/-! ### what is walked: lists, tuples, ranges, zip, enumerate, texts -/
def iL (f : EF) : IF := fun s O => (f s O).bind fun p O1 => match p with
  | .lst ps => .ok (ps, none) O1
  | .rol ps => .ok (ps, none) O1
  | .loc n => match O1[n]? with
    | some (some (.lst ps)) => .ok (ps, some (n, ps)) O1
    | _ => .bad
  | _ => .bad
def iT (f : EF) : IF := fun s O => (f s O).bind fun p O1 => match tupOf p with
  | some ps => .ok (ps, none) O1
  | none => .bad
def rgOk (j : Int) : Bool := decide (-(2 ^ 62) ≤ j ∧ j < 2 ^ 62)
def rgL (lo : Int) (n : Nat) : List PV := (List.range n).map fun i => .int (lo + (i : Nat))
def iR1 (a : AF) : IF := fun s O => (a s O).bind fun ps O1 => match ps with
  | [.int j] => if rgOk j = true then .ok (rgL 0 j.toNat, none) O1 else .bad
  | _ => .bad
def iR2 (a : AF) : IF := fun s O => (a s O).bind fun ps O1 => match ps with
  | [.int i, .int j] => if (rgOk i && rgOk j) = true then .ok (rgL i (j - i).toNat, none) O1 else .bad
  | _ => .bad
def frL : PV → Option (List PV)
  | .lst ps => some ps
  | .rol ps => some ps
  | _ => none
def zipP (ps qs : List PV) : List PV := (ps.zip qs).map fun w => .tup [w.1, w.2]
def iZ (a : AF) : IF := fun s O => (a s O).bind fun ps O1 => match ps with
  | [p, q] => match frL p, frL q with
    | some xs, some ys => .ok (zipP xs ys, none) O1
    | _, _ => match tupOf p, tupOf q with
      | some xs, some ys => .ok (zipP xs ys, none) O1
      | _, _ => .bad
  | _ => .bad
theorem rgL_get {lo : Int} {n i : Nat} {p : PV} (h : (rgL lo n)[i]? = some p) : i < n ∧ p = .int (lo + (i : Nat)) := by
  unfold rgL at h
  rw [List.getElem?_map] at h
  obtain ⟨j, h1, h2⟩ := Option.map_eq_some_iff.mp h
  obtain ⟨h3, h4⟩ := List.getElem?_eq_some_iff.mp h1
  simp only [List.getElem_range] at h4
  simp only [List.length_range] at h3
  subst h4
  exact ⟨h3, h2.symm⟩
theorem rgL_len {lo : Int} {n : Nat} : (rgL lo n).length = n := by unfold rgL; simp
section
variable {K : PySem.W.Frag} {E : XM} {te : TE} {fe : EF} {tA : TA} {fA : AF}
theorem sim_iR1 (hA : SimA K E tA fA) : SimIt K E (iRng1 tA) (iR1 fA) := fun R ι O H σ s Q S L h =>
  hA R ι O H σ s _ S L (h.bind fun ps O1 xs ι1 H1 S1 X1 r1 h1 => by
    match ps, h1, r1 with
    | [.int j], h1, ⟨x, t, e, r2, e2⟩ =>
      cases e2
      subst e
      simp only at h1
      split at h1
      · rename_i c
        have c' := of_decide_eq_true c
        refine ⟨j, by rw [show x = .int j from r2], c'.1, c'.2, h1.here S1 fun R' ι' O' H' S' _ _ _ i => ⟨fun p ep => ?_, fun hl => ?_⟩⟩
        · obtain ⟨h3, h4⟩ := rgL_get ep
          exact ⟨h3, fun x H'' y => ⟨ι', by rw [y.1]; exact S', by rw [y.1]; exact .refl, by rw [h4, y.2]; rfl⟩⟩
        · rw [rgL_len] at hl; exact hl
      · exact h1.elim)
theorem itl_ok {ι0 : List Addr} {G0 : Hp} {a : Addr} {items : List PV} {g : Option (Nat × List PV)} (rd : ∀ R ι O H, Sim K R ι O H → Pre ι0 ι → Same G0 (fz R ι O H) → grd g O → ∃ xs, SqL K H a xs ∧ RepL K ι (fz R ι O H) items xs) : ItOk K (Itl K a) items g ι0 G0 := by
  intro R ι O H S p1 sm gd i
  obtain ⟨xs, h1, h2⟩ := rd R ι O H S p1 sm gd
  refine ⟨fun p ep => ?_, fun hl => ⟨xs, h1, by rw [h2.len]; exact hl⟩⟩
  obtain ⟨x, h3, h4⟩ := h2.get ep
  refine ⟨⟨xs, x, h1, h3⟩, fun y H' z => ⟨ι, by rw [z.1]; exact S, by rw [z.1]; exact .refl, ?_⟩⟩
  have e := z.2 xs h1
  rw [h3] at e
  cases e
  rw [z.1]
  exact h4
theorem itt_ok {ι0 : List Addr} {G0 : Hp} {a : Addr} {items : List PV} {xs : List V} (h1 : SqT K G0 a xs) (h2 : RepL K ι0 G0 items xs) : ItOk K (Itt K a) items none ι0 G0 := by
  intro R ι O H S p1 sm gd i
  have h1 : SqT K H a xs := sqt_same (same_trans sm S.frozen) h1
  have h2 := h2.mono p1 sm
  refine ⟨fun p ep => ?_, fun hl => ⟨xs, h1, by rw [h2.len]; exact hl⟩⟩
  obtain ⟨x, h3, h4⟩ := h2.get ep
  refine ⟨⟨xs, x, h1, h3⟩, fun y H' z => ⟨ι, by rw [z.1]; exact S, by rw [z.1]; exact .refl, ?_⟩⟩
  have e := z.2 xs h1
  rw [h3] at e
  cases e
  rw [z.1]
  exact h4
theorem frL_read {ι : List Addr} {G : Hp} {p : PV} {x : V} {ps : List PV} (r : Rep K ι G p x) (e : frL p = some ps) : ∃ a xs, x = .ref a ∧ SqL K G a xs ∧ RepL K ι G ps xs := by
  cases p with
  | lst qs => obtain ⟨a, xs, h1, h2, h3⟩ := r; cases e; exact ⟨a, xs, h1, SqL.of h2, h3⟩
  | rol qs => obtain ⟨a, xs, h1, h2, h3⟩ := r; cases e; exact ⟨a, xs, h1, h2, h3⟩
  | _ => cases e
theorem sim_iL (he : SimE K E te fe) : SimIt K E (iList K te) (iL fe) := fun R ι O H σ s Q S L h =>
  he R ι O H σ s _ S L (h.bind fun p O1 x ι1 H1 S1 X1 r1 h1 => by
    have fr : ∀ ps, frL p = some ps → Post K R (xat E σ) (rpI K) ι1 O1 H1 Q (.ok (ps, none) O1) → ∃ a, x = .ref a ∧ (∃ xs, SqL K H1 a xs) ∧ Q (Itl K a) H1 := fun ps e h1 => by
      obtain ⟨a, xs, e1, h3, h4⟩ := frL_read r1 e
      exact ⟨a, e1, ⟨xs, S1.frozen.seq h3⟩, h1.here S1 (itl_ok fun R' ι' O' H' S' p1 sm _ => ⟨xs, S'.frozen.seq (sm.seq h3), h4.mono p1 sm⟩)⟩
    cases p with
    | lst ps => exact fr ps rfl h1
    | rol ps => exact fr ps rfl h1
    | loc n =>
      obtain ⟨a, e1, e2⟩ := r1
      simp only at h1
      cases q : O1[n]? with
      | none => simp [q] at h1; exact h1.elim
      | some w =>
        cases w with
        | none => simp [q] at h1; exact h1.elim
        | some w =>
          cases w with
          | lst ps =>
            simp only [q] at h1
            obtain ⟨o, h3, xs, h4, h5⟩ := S1.obj n a _ e2 q
            subst h4
            refine ⟨a, e1, ⟨xs, SqL.of h3⟩, h1.here S1 (itl_ok fun R' ι' O' H' S' p1 sm gd => ?_)⟩
            obtain ⟨o, h3, xs, h4, h5⟩ := S'.obj n a _ (p1 _ _ e2) (show O'[n]? = some (some (.lst ps)) from gd)
            subst h4
            exact ⟨xs, SqL.of h3, h5⟩
          | _ => simp [q] at h1; exact h1.elim
    | _ => exact h1.elim)
theorem sim_iT (he : SimE K E te fe) : SimIt K E (iTup K te) (iT fe) := fun R ι O H σ s Q S L h =>
  he R ι O H σ s _ S L (h.bind fun p O1 x ι1 H1 S1 X1 r1 h1 => by
    cases p with
    | tup ps =>
      obtain ⟨a, xs, e1, h3, h4⟩ := r1
      exact ⟨a, e1, ⟨xs, sqt_same S1.frozen h3⟩, h1.here S1 (itt_ok h3 h4)⟩
    | xtp ps =>
      obtain ⟨⟨a, xs, e1, h3, h4⟩, _⟩ := r1
      exact ⟨a, e1, ⟨xs, sqt_same S1.frozen h3⟩, h1.here S1 (itt_ok h3 h4)⟩
    | _ => exact h1.elim)
end
end Qx

/-! Own layer Q6: comprehensions, methods of lists, built-ins, isinstance. -/
namespace Qx
open PySem PySem.Spec PyProof.Rows L2 Gx
/-! ### comprehensions -/
def wipeP (s : Slots) : List Nat → Slots
  | [] => s
  | v :: vs => (wipeP s vs).set v none
theorem wipe_get (σ : L2.St) : ∀ (vs : List Nat) (i : Nat), (wipe σ vs)[i]? = if i ∈ vs then σ[i]?.map (fun _ => none) else σ[i]?
  | [], i => by simp [wipe]
  | v :: vs, i => by
    show ((wipe σ vs).set v none)[i]? = _
    rw [List.getElem?_set, wipe_length]
    by_cases c : v = i
    · subst c
      rw [if_pos rfl, if_pos List.mem_cons_self]
      by_cases d : v < σ.length
      · rw [if_pos d, List.getElem?_eq_getElem d]; rfl
      · rw [if_neg d, List.getElem?_eq_none (Nat.le_of_not_lt d)]; rfl
    · rw [if_neg c, wipe_get σ vs i]
      have e : i ∈ v :: vs ↔ i ∈ vs := by
        simp only [List.mem_cons]
        constructor
        · rintro (h | h)
          · exact absurd h.symm c
          · exact h
        · exact .inr
      simp only [e]
theorem wipe_wipe {σ : L2.St} {vs : List Nat} : wipe (wipe σ vs) vs = wipe σ vs := by
  apply List.ext_getElem?
  intro i
  rw [wipe_get, wipe_get]
  by_cases c : i ∈ vs
  · simp only [c, if_true, Option.map_map]; rfl
  · simp only [c, if_false]
theorem wipe_set {σ : L2.St} {vs : List Nat} {n : Nat} {x : Option V} (h : n ∈ vs) : wipe (σ.set n x) vs = wipe σ vs := by
  apply List.ext_getElem?
  intro i
  rw [wipe_get, wipe_get, List.getElem?_set]
  by_cases c : i ∈ vs
  · simp only [c, if_true]
    by_cases d : n = i
    · subst d
      by_cases e : n < σ.length
      · simp [e, List.getElem?_eq_getElem e]
      · simp [e, List.getElem?_eq_none (Nat.le_of_not_lt e)]
    · simp [d]
  · simp only [c, if_false]
    rw [if_neg fun e => c (by rw [← e]; exact h)]
theorem SlR.wipe {K : PySem.W.Frag} {ι : List Addr} {G : Hp} {σ : L2.St} {s : Slots} (L : SlR K ι G σ s) : ∀ vs : List Nat, SlR K ι G (L2.wipe σ vs) (wipeP s vs)
  | [] => L
  | v :: vs => (SlR.wipe L vs).set0 v
def GW (g : TG) (vs : List Nat) : Prop := ∀ v σ H Q, g v σ H Q → g v σ H fun σ2 H2 => L2.wipe σ2 vs = L2.wipe σ vs ∧ Q σ2 H2
def GWs (g : TGs) (vs : List Nat) : Prop := ∀ xs σ H Q, g xs σ H Q → g xs σ H fun σ2 H2 => L2.wipe σ2 vs = L2.wipe σ vs ∧ Q σ2 H2
theorem gw_nm {n : Nat} {vs : List Nat} (h : n ∈ vs) : GW (gName n) vs := fun v σ H Q q => ⟨wipe_set h, q⟩
theorem gw_nil {vs : List Nat} : GWs gNil vs := fun xs σ H Q q => ⟨q.1, rfl, q.2⟩
theorem gw_cons {g : TG} {gs : TGs} {vs : List Nat} (h1 : GW g vs) (h2 : GWs gs vs) (mg : ∀ v σ H (Q Q' : L2.St → Hp → Prop), (∀ σ H, Q σ H → Q' σ H) → g v σ H Q → g v σ H Q') (mgs : ∀ v σ H (Q Q' : L2.St → Hp → Prop), (∀ σ H, Q σ H → Q' σ H) → gs v σ H Q → gs v σ H Q') : GWs (gCons g gs) vs := by
  rintro xs σ H Q ⟨v, r, e, q⟩
  refine ⟨v, r, e, mg _ _ _ _ _ (fun σ2 H2 z => ?_) (h1 v σ H _ q)⟩
  exact mgs _ _ _ _ _ (fun σ3 H3 w => ⟨w.1.trans z.1, w.2⟩) (h2 r σ2 H2 Q z.2)
theorem gw_tup {K : PySem.W.Frag} {n : Nat} {gs : TGs} {vs : List Nat} (h : GWs gs vs) : GW (gTup K n gs) vs := by
  rintro v σ H Q ⟨a, xs, e, h1, h2, q⟩
  exact ⟨a, xs, e, h1, h2, h xs σ H Q q⟩
theorem mg_nm {n : Nat} : ∀ v σ H (Q Q' : L2.St → Hp → Prop), (∀ σ H, Q σ H → Q' σ H) → gName n v σ H Q → gName n v σ H Q' := fun _ _ _ _ _ h q => h _ _ q
theorem mgs_nil : ∀ v σ H (Q Q' : L2.St → Hp → Prop), (∀ σ H, Q σ H → Q' σ H) → gNil v σ H Q → gNil v σ H Q' := fun _ _ _ _ _ h q => ⟨q.1, h _ _ q.2⟩
theorem mgs_cons {g : TG} {gs : TGs} (mg : ∀ v σ H (Q Q' : L2.St → Hp → Prop), (∀ σ H, Q σ H → Q' σ H) → g v σ H Q → g v σ H Q') (mgs : ∀ v σ H (Q Q' : L2.St → Hp → Prop), (∀ σ H, Q σ H → Q' σ H) → gs v σ H Q → gs v σ H Q') : ∀ v σ H (Q Q' : L2.St → Hp → Prop), (∀ σ H, Q σ H → Q' σ H) → gCons g gs v σ H Q → gCons g gs v σ H Q' := by
  rintro v σ H Q Q' h ⟨x, r, e, q⟩
  exact ⟨x, r, e, mg _ _ _ _ _ (fun σ2 H2 z => mgs _ _ _ _ _ h z) q⟩
theorem mg_tup {K : PySem.W.Frag} {n : Nat} {gs : TGs} (mgs : ∀ v σ H (Q Q' : L2.St → Hp → Prop), (∀ σ H, Q σ H → Q' σ H) → gs v σ H Q → gs v σ H Q') : ∀ v σ H (Q Q' : L2.St → Hp → Prop), (∀ σ H, Q σ H → Q' σ H) → gTup K n gs v σ H Q → gTup K n gs v σ H Q' := by
  rintro v σ H Q Q' h ⟨a, xs, e, h1, h2, q⟩
  exact ⟨a, xs, e, h1, h2, mgs _ _ _ _ _ h q⟩
noncomputable def compL (g : Option (Nat × List PV)) (tgt : GF) (t : TF) (e : EF) (s0 : Slots) : List PV → List PV → Sto → PR (List PV)
  | [], acc, O => chk g O .bad (.ok acc O)
  | p :: r, acc, O => chk g O .bad ((tgt p s0 O).bind fun s1 O1 => (t s1 O1).bind fun b O2 => if b = true then (e s1 O2).bind fun q O3 => if szLt acc.length = true then compL g tgt t e s0 r (acc ++ [q]) O3 else .bad else compL g tgt t e s0 r acc O2)
noncomputable def lcC (f : IF) (tgt : GF) (t : TF) (e : EF) (vs : List Nat) : AF := fun s O => (f s O).bind fun it O1 => noX (compL it.2 tgt t e (wipeP s vs) it.1 [] O1)
noncomputable def eLc (f : IF) (tgt : GF) (t : TF) (e : EF) (vs : List Nat) : EF := fun s O => (lcC f tgt t e vs s O).bind fun ps O1 => .ok (.lst ps) O1
noncomputable def eLcO (f : IF) (tgt : GF) (t : TF) (e : EF) (vs : List Nat) : EF := fun s O => (lcC f tgt t e vs s O).bind fun ps O1 => .ok (.loc O1.length) (O1 ++ [some (.lst ps)])
section
variable {K : PySem.W.Frag} {E : XM} {wi : TI} {fI : IF} {g : TG} {tgt : GF} {tt : TT} {ft : TF} {te : TE} {fe : EF} {vs : List Nat}
theorem lc_core {R : List (Addr × HO)} {ι : List Addr} {O : Sto} {H : Hp} {σ : L2.St} {s : Slots} {Q : VK} {k : List PV → Sto → PR PV} (hw : GW g vs) (mg : ∀ v σ H (Q Q' : L2.St → Hp → Prop), (∀ σ H, Q σ H → Q' σ H) → g v σ H Q → g v σ H Q') (hi : SimIt K E wi fI) (hg : SimG0 K g tgt) (ht : SimT K none tt ft) (he : SimE K none te fe)
    (S : Sim K R ι O H) (L : SlR K ι (fz R ι O H) σ s) (h : Post K R (xat E σ) (Rep K) ι O H Q ((lcC fI tgt ft fe vs s O).bind k))
    (fin : ∀ D ps xs ι' O' H', Sim K ((D, .lst xs) :: R) ι' O' H' → Pre ι ι' → Same (fz R ι O H) (fz ((D, .lst xs) :: R) ι' O' H') → RepL K ι' (fz ((D, .lst xs) :: R) ι' O' H') ps xs → Post K R (xat E σ) (Rep K) ι O H Q (k ps O') → Q (.ref D) H') : tLc wi g tt te vs σ H Q := by
  unfold lcC at h
  have h0 : Post K R (xat E σ) (Rep K) ι O H Q ((fI s O).bind fun it O1 => (noX (compL it.2 tgt ft fe (wipeP s vs) it.1 [] O1)).bind k) := by
    cases e : fI s O with
    | ok it O1 => rw [e] at h; exact h
    | exc x O1 => rw [e] at h; exact h
    | bad => rw [e] at h; exact h
  refine hi R ι O H σ s _ S L ?_
  cases e0 : fI s O with
  | exc x O1 => rw [e0] at h0; exact h0
  | bad => rw [e0] at h0; exact h0
  | ok it O1 =>
    rw [e0] at h0
    intro J ι1 H1 S1 X1 ok D hD
    obtain ⟨items, gd⟩ := it
    have ok : ItOk K J items gd ι1 (fz R ι1 O1 H1) := ok
    cases ec : compL gd tgt ft fe (wipeP s vs) items [] O1 with
    | exc x O2 => rw [show ((PR.ok (items, gd) O1).bind fun it O1 => (noX (compL it.2 tgt ft fe (wipeP s vs) it.1 [] O1)).bind k) = (noX (compL gd tgt ft fe (wipeP s vs) items [] O1)).bind k from rfl, ec] at h0; exact h0.elim
    | bad => rw [show ((PR.ok (items, gd) O1).bind fun it O1 => (noX (compL it.2 tgt ft fe (wipeP s vs) it.1 [] O1)).bind k) = (noX (compL gd tgt ft fe (wipeP s vs) items [] O1)).bind k from rfl, ec] at h0; exact h0.elim
    | ok ps Of =>
      rw [show ((PR.ok (items, gd) O1).bind fun it O1 => (noX (compL it.2 tgt ft fe (wipeP s vs) it.1 [] O1)).bind k) = (noX (compL gd tgt ft fe (wipeP s vs) items [] O1)).bind k from rfl, ec] at h0
      have h0 : Post K R (xat E σ) (Rep K) ι O H Q (k ps Of) := h0
      refine ⟨fun i m H' => m = items.length - i ∧ i ≤ items.length ∧ ∃ acc xs ι' O', Sim K ((D, .lst xs) :: R) ι' O' H' ∧ Pre ι1 ι' ∧ Same (fz R ι1 O1 H1) (fz ((D, .lst xs) :: R) ι' O' H') ∧ RepL K ι' (fz ((D, .lst xs) :: R) ι' O' H') acc xs ∧ compL gd tgt ft fe (wipeP s vs) (items.drop i) acc O' = .ok ps Of, ?_, ?_⟩
      · obtain ⟨S2, e2⟩ := S1.hide_new hD (.lst [])
        exact ⟨_, rfl, Nat.zero_le _, [], [], ι1, O1, S2, .refl, by rw [e2]; exact same_refl, rfl, ec⟩
      · rintro i m H' ⟨rfl, hi', acc, xs, ι', O', S', P', M', r', c'⟩
        by_cases hlt : i < items.length
        · have ep : items[i]? = some items[i] := List.getElem?_eq_getElem hlt
          rw [drop_get ep] at c'
          unfold compL at c'
          rcases chk_or gd O' (PR.bad) ((tgt items[i] (wipeP s vs) O').bind fun s1 O1 => (ft s1 O1).bind fun b O2 => if b = true then (fe s1 O2).bind fun q O3 => if szLt acc.length = true then compL gd tgt ft fe (wipeP s vs) (items.drop (i + 1)) (acc ++ [q]) O3 else .bad else compL gd tgt ft fe (wipeP s vs) (items.drop (i + 1)) acc O2) with ⟨gok, e⟩ | e
          · rw [e] at c'
            obtain ⟨go, yl⟩ := (ok _ ι' O' H' S' P' M' gok i).1 _ ep
            refine .inr ⟨go, fun H2 => ∃ m', m' < items.length - i ∧ (m' = items.length - (i + 1) ∧ i + 1 ≤ items.length ∧ ∃ acc xs ι' O', Sim K ((D, .lst xs) :: R) ι' O' H2 ∧ Pre ι1 ι' ∧ Same (fz R ι1 O1 H1) (fz ((D, .lst xs) :: R) ι' O' H2) ∧ RepL K ι' (fz ((D, .lst xs) :: R) ι' O' H2) acc xs ∧ compL gd tgt ft fe (wipeP s vs) (items.drop (i + 1)) acc O' = .ok ps Of), fun H2 z => z, fun x H2 y => ?_⟩
            obtain ⟨ι2, S2, X2, r2⟩ := yl x H2 y
            have M2 := same_trans M' X2.same
            have Lw : SlR K ι2 (fz ((D, .lst xs) :: R) ι2 O' H2) (L2.wipe σ vs) (wipeP s vs) := by
              have q := (L.ext X1).wipe vs
              exact ⟨q.1, fun i p e => let ⟨v, h1, h2⟩ := q.2 i p e; ⟨v, h1, h2.mono (P'.trans X2.pre) M2⟩⟩
            obtain ⟨s3, O3, e3, c3⟩ := PR.bind_ok c'
            obtain ⟨b, O4, e4, c4⟩ := PR.bind_ok c3
            have hgo : g x (L2.wipe σ vs) H2 fun σ2 H2 => tt σ2 H2 fun b H3 => if b = true then te σ2 H3 fun y H4 => ∃ acc, H4 D = some (.lst acc) ∧ acc.length < sizeLine ∧ (∃ m', m' < items.length - i ∧ (m' = items.length - (i + 1) ∧ i + 1 ≤ items.length ∧ ∃ acc' xs ι' O', Sim K ((D, .lst xs) :: R) ι' O' (upd H4 D (.lst (acc ++ [y]))) ∧ Pre ι1 ι' ∧ Same (fz R ι1 O1 H1) (fz ((D, .lst xs) :: R) ι' O' (upd H4 D (.lst (acc ++ [y])))) ∧ RepL K ι' (fz ((D, .lst xs) :: R) ι' O' (upd H4 D (.lst (acc ++ [y])))) acc' xs ∧ compL gd tgt ft fe (wipeP s vs) (items.drop (i + 1)) acc' O' = .ok ps Of)) else (∃ m', m' < items.length - i ∧ (m' = items.length - (i + 1) ∧ i + 1 ≤ items.length ∧ ∃ acc xs ι' O', Sim K ((D, .lst xs) :: R) ι' O' H3 ∧ Pre ι1 ι' ∧ Same (fz R ι1 O1 H1) (fz ((D, .lst xs) :: R) ι' O' H3) ∧ RepL K ι' (fz ((D, .lst xs) :: R) ι' O' H3) acc xs ∧ compL gd tgt ft fe (wipeP s vs) (items.drop (i + 1)) acc O' = .ok ps Of)) := by
              refine hg _ ι2 O' H2 _ (wipeP s vs) _ x none _ S2 Lw r2 ?_
              rw [e3]
              intro σ3 ι3 H3 S3 X3 L3
              refine ht _ ι3 O3 H3 σ3 s3 _ S3 L3 ?_
              rw [e4]
              intro b' ι4 H4 S4 X4 eb
              subst eb
              have M4 := same_trans M2 (same_trans X3.same X4.same)
              have P4 := P'.trans (X2.pre.trans (X3.pre.trans X4.pre))
              cases b with
              | false => exact ⟨_, by omega, rfl, by omega, acc, xs, ι4, O4, S4, P4, M4, r'.mono (X2.pre.trans (X3.pre.trans X4.pre)) (same_trans X2.same (same_trans X3.same X4.same)), c4⟩
              | true =>
                simp only [if_true] at c4
                obtain ⟨q, O5, e5, c5⟩ := PR.bind_ok c4
                refine he _ ι4 O4 H4 σ3 s3 _ S4 (L3.ext X4) ?_
                rw [e5]
                intro y ι5 H5 S5 X5 r5
                by_cases cz : szLt acc.length = true
                · rw [if_pos cz] at c5
                  have hD5 := S5.hid (D, .lst xs) List.mem_cons_self
                  obtain ⟨S6, e6⟩ := S5.hid_set (.lst (xs ++ [y]))
                  have M5 := same_trans M4 X5.same
                  have rr := r'.mono (X2.pre.trans (X3.pre.trans (X4.pre.trans X5.pre))) (same_trans X2.same (same_trans X3.same (same_trans X4.same X5.same)))
                  refine ⟨xs, hD5, by rw [r'.len]; exact szLt_lt cz, _, by omega, rfl, by omega, acc ++ [q], xs ++ [y], ι5, O5, S6, P4.trans X5.pre, by rw [e6]; exact M5, by rw [e6]; exact rr.app (.one r5), c5⟩
                · rw [if_neg cz] at c5; cases c5
            have q := hw x _ _ _ hgo
            refine mg _ _ _ _ _ ?_ q
            intro σ2 H2 z
            exact ⟨z.1.trans wipe_wipe, z.2⟩
          · rw [e] at c'; cases c'
        · have e0 : items.drop i = [] := List.drop_eq_nil_of_le (Nat.le_of_not_lt hlt)
          rw [e0] at c'
          unfold compL at c'
          rcases chk_or gd O' PR.bad (.ok acc O') with ⟨gok, e⟩ | e
          · rw [e] at c'
            cases c'
            exact .inl ⟨(ok _ ι' _ H' S' P' M' gok i).2 (Nat.le_of_not_lt hlt), fin D _ xs ι' _ H' S' (X1.pre.trans P') (same_trans X1.same M') r' h0⟩
          · rw [e] at c'; cases c'
theorem sim_lc (hw : GW g vs) (mg : ∀ v σ H (Q Q' : L2.St → Hp → Prop), (∀ σ H, Q σ H → Q' σ H) → g v σ H Q → g v σ H Q') (hi : SimIt K E wi fI) (hg : SimG0 K g tgt) (ht : SimT K none tt ft) (he : SimE K none te fe) : SimE K E (tLc wi g tt te vs) (eLc fI tgt ft fe vs) := fun R ι O H σ s Q S L h =>
  lc_core hw mg hi hg ht he S L h fun D ps xs ι' O' H' S' P M r h' => by
    obtain ⟨S2, M2, e2⟩ := S'.unhide
    exact h'.at S2 ⟨P, same_trans M M2⟩ ⟨D, xs, rfl, e2, r.mono .refl M2⟩
theorem sim_lcO (hw : GW g vs) (mg : ∀ v σ H (Q Q' : L2.St → Hp → Prop), (∀ σ H, Q σ H → Q' σ H) → g v σ H Q → g v σ H Q') (hi : SimIt K E wi fI) (hg : SimG0 K g tgt) (ht : SimT K none tt ft) (he : SimE K none te fe) : SimE K E (tLc wi g tt te vs) (eLcO fI tgt ft fe vs) := fun R ι O H σ s Q S L h =>
  lc_core hw mg hi hg ht he S L h fun D ps xs ι' O' H' S' P M r h' => by
    obtain ⟨S2, e2⟩ := S'.own (p := .lst ps) ⟨xs, rfl, r⟩
    exact h'.at S2 ⟨P.trans .app, by rw [e2]; exact M⟩ ⟨D, rfl, new_at S'.len⟩
end
/-! ### methods of lists -/
def MtP (K : PySem.W.Frag) (r : V → List V → Hp → VK → Prop) (f : PV → List PV → Sto → PR PV) : Prop := ∀ R ι O H p ps x xs E Q, Sim K R ι O H → Rep K ι (fz R ι O H) p x → RepL K ι (fz R ι O H) ps xs → Post K R E (Rep K) ι O H Q (f p ps O) → r x xs H Q
def eBml (f : PV → List PV → Sto → PR PV) (o : EF) (a : AF) : EF := fun s O => (o s O).bind fun p O1 => if (lstOf O1 p).isSome = true then (a s O1).bind fun ps O2 => f p ps O2 else .bad
def locL (O : Sto) : PV → Option (Nat × List PV)
  | .loc n => match O[n]? with
    | some (some (.lst ps)) => some (n, ps)
    | _ => none
  | _ => none
def appendP (p : PV) (qs : List PV) (O : Sto) : PR PV := match locL O p, qs with
  | some (n, ps), [q] => if szLt ps.length = true then .ok .non (O.set n (some (.lst (ps ++ [q])))) else .bad
  | _, _ => .bad
def extendP (p : PV) (qs : List PV) (O : Sto) : PR PV := match locL O p, qs with
  | some (n, ps), [q] => match lstT O q with
    | some zs => if szOk (ps.length + zs.length) = true then .ok .non (O.set n (some (.lst (ps ++ zs)))) else .bad
    | none => .bad
  | _, _ => .bad
theorem locL_read {K : PySem.W.Frag} {R : List (Addr × HO)} {ι : List Addr} {O : Sto} {H : Hp} {p : PV} {x : V} {n : Nat} {ps : List PV} (S : Sim K R ι O H) (r : Rep K ι (fz R ι O H) p x) (e : locL O p = some (n, ps)) : ∃ a xs, x = .ref a ∧ ι[n]? = some a ∧ O[n]? = some (some (.lst ps)) ∧ H a = some (.lst xs) ∧ RepL K ι (fz R ι O H) ps xs := by
  cases p with
  | loc m =>
    obtain ⟨a, e1, e2⟩ := r
    unfold locL at e
    cases q : O[m]? with
    | none => simp [q] at e
    | some w =>
      cases w with
      | none => simp [q] at e
      | some w =>
        cases w with
        | lst qs =>
          simp only [q, Option.some.injEq, Prod.mk.injEq] at e
          obtain ⟨rfl, rfl⟩ := e
          obtain ⟨o, h3, xs, h4, h5⟩ := S.obj m a _ e2 q
          subst h4
          exact ⟨a, xs, e1, e2, q, h3, h5⟩
        | _ => simp [q] at e
  | _ => cases e
section
variable {K : PySem.W.Frag} {E : XM} {to : TE} {fo : EF} {tA : TA} {fA : AF} {r : V → List V → Hp → VK → Prop} {f : PV → List PV → Sto → PR PV}
theorem sim_bml (hf : MtP K r f) (ho : SimE K E to fo) (hA : SimA K E tA fA) : SimE K E (tBM K "list" r to tA) (eBml f fo fA) := fun R ι O H σ s Q S L h =>
  ho R ι O H σ s _ S L (h.bind fun p O1 x ι1 H1 S1 X1 r1 h1 => by
    split at h1
    · rename_i c
      obtain ⟨ps, e⟩ := Option.isSome_iff_exists.mp c
      obtain ⟨a, xs, e1, h3, h4⟩ := lst_read S1 r1 e
      refine ⟨by rw [e1]; exact Or.inl ⟨rfl, xs, h3⟩, hA R ι1 O1 H1 σ s _ S1 (L.ext X1) (h1.bind fun qs O2 ys ι2 H2 S2 X2 r2 h2 => hf R ι2 O2 H2 p qs x ys _ _ S2 (X2.rep r1) r2 h2)⟩
    · exact h1.elim)
theorem ml_append : MtP K rAppend appendP := by
  intro R ι O H p qs x ys E Q S r1 r2 h
  unfold appendP at h
  cases e : locL O p with
  | none => simp [e] at h; exact h.elim
  | some w =>
    obtain ⟨n, ps⟩ := w
    match qs, h, r2 with
    | [], h, _ => simp [e] at h; exact h.elim
    | _ :: _ :: _, h, _ => simp [e] at h; exact h.elim
    | [q], h, ⟨y, t, e2, r3, e3⟩ =>
      cases e3
      subst e2
      simp only [e] at h
      split at h
      · rename_i c
        obtain ⟨a, xs, e1, h2, h3, h4, h5⟩ := locL_read S r1 e
        obtain ⟨S2, X2⟩ := S.change h2 h3 (p' := .lst (ps ++ [q])) (o' := .lst (xs ++ [y])) ⟨_, rfl, h5.app (.one r3)⟩
        exact ⟨a, xs, y, e1, rfl, h4, by rw [h5.len]; exact szLt_lt c, h.at S2 X2 rfl⟩
      · exact h.elim
theorem ml_extend : MtP K rExtend extendP := by
  intro R ι O H p qs x ys E Q S r1 r2 h
  unfold extendP at h
  cases e : locL O p with
  | none => simp [e] at h; exact h.elim
  | some w =>
    obtain ⟨n, ps⟩ := w
    match qs, h, r2 with
    | [], h, _ => simp [e] at h; exact h.elim
    | _ :: _ :: _, h, _ => simp [e] at h; exact h.elim
    | [q], h, ⟨y, t, e2, r3, e3⟩ =>
      cases e3
      subst e2
      simp only [e] at h
      cases e4 : lstT O q with
      | none => simp [e4] at h; exact h.elim
      | some zs =>
        simp only [e4] at h
        split at h
        · rename_i c
          obtain ⟨a, xs, e1, h2, h3, h4, h5⟩ := locL_read S r1 e
          obtain ⟨b, ws, e5, h6, h7⟩ := lstT_read S r3 e4
          obtain ⟨S2, X2⟩ := S.change h2 h3 (p' := .lst (ps ++ zs)) (o' := .lst (xs ++ ws)) ⟨_, rfl, h5.app h7⟩
          exact ⟨a, b, xs, ws, e1, by rw [e5], h4, h6, by rw [h5.len, h7.len]; exact szOk_le c, h.at S2 X2 rfl⟩
        · exact h.elim
end
end Qx

/-! Own layer Q7: built-ins, isinstance, further statements. -/
namespace Qx
open PySem PySem.Spec PyProof.Rows L2 Gx
def intsOf : List PV → Option (List Int)
  | [] => some []
  | .int i :: r => (intsOf r).map (i :: ·)
  | _ => none
def blsOf : List PV → Option (List Bool)
  | [] => some []
  | .bl i :: r => (blsOf r).map (i :: ·)
  | _ => none
def strsOf : List PV → Option (List Str)
  | [] => some []
  | .str i :: r => (strsOf r).map (i :: ·)
  | _ => none
theorem intsOf_map : ∀ ns : List Int, intsOf (ns.map PV.int) = some ns
  | [] => rfl
  | n :: ns => by simp only [List.map_cons, intsOf, intsOf_map ns, Option.map_some]
theorem blsOf_map : ∀ ns : List Bool, blsOf (ns.map PV.bl) = some ns
  | [] => rfl
  | n :: ns => by simp only [List.map_cons, blsOf, blsOf_map ns, Option.map_some]
theorem of_intsOf : ∀ {ps : List PV} {ns : List Int}, intsOf ps = some ns → ps = ns.map PV.int
  | [], ns, h => by cases h; rfl
  | .int i :: r, ns, h => by
    simp only [intsOf] at h
    obtain ⟨ms, h1, h2⟩ := Option.map_eq_some_iff.mp h
    subst h2
    rw [of_intsOf h1]
    rfl
  | .non :: _, _, h => by cases h
  | .bl _ :: _, _, h => by cases h
  | .str _ :: _, _, h => by cases h
  | .ty _ :: _, _, h => by cases h
  | .cls _ :: _, _, h => by cases h
  | .tup _ :: _, _, h => by cases h
  | .xtp _ :: _, _, h => by cases h
  | .lst _ :: _, _, h => by cases h
  | .rol _ :: _, _, h => by cases h
  | .ins _ _ _ :: _, _, h => by cases h
  | .rng _ _ :: _, _, h => by cases h
  | .loc _ :: _, _, h => by cases h
  | .dic _ _ :: _, _, h => by cases h
  | .tbl _ :: _, _, h => by cases h
  | .xc _ _ _ :: _, _, h => by cases h
theorem of_blsOf : ∀ {ps : List PV} {ns : List Bool}, blsOf ps = some ns → ps = ns.map PV.bl
  | [], ns, h => by cases h; rfl
  | .bl i :: r, ns, h => by
    simp only [blsOf] at h
    obtain ⟨ms, h1, h2⟩ := Option.map_eq_some_iff.mp h
    subst h2
    rw [of_blsOf h1]
    rfl
  | .non :: _, _, h => by cases h
  | .int _ :: _, _, h => by cases h
  | .str _ :: _, _, h => by cases h
  | .ty _ :: _, _, h => by cases h
  | .cls _ :: _, _, h => by cases h
  | .tup _ :: _, _, h => by cases h
  | .xtp _ :: _, _, h => by cases h
  | .lst _ :: _, _, h => by cases h
  | .rol _ :: _, _, h => by cases h
  | .ins _ _ _ :: _, _, h => by cases h
  | .rng _ _ :: _, _, h => by cases h
  | .loc _ :: _, _, h => by cases h
  | .dic _ _ :: _, _, h => by cases h
  | .tbl _ :: _, _, h => by cases h
  | .xc _ _ _ :: _, _, h => by cases h
theorem rep_map {α : Type} {K : PySem.W.Frag} {ι : List Addr} {G : Hp} {f : α → PV} {g : α → V} (hf : ∀ a v, Rep K ι G (f a) v → v = g a) : ∀ {as : List α} {xs : List V}, RepL K ι G (as.map f) xs → xs = as.map g
  | [], xs, h => h
  | a :: as, _, ⟨x, r, e, h1, h2⟩ => by rw [e, hf a x h1, rep_map hf h2]; rfl
theorem rep_ints {K : PySem.W.Frag} {ι : List Addr} {G : Hp} {ps : List PV} {ns : List Int} {xs : List V} (e : intsOf ps = some ns) (r : RepL K ι G ps xs) : xs = ns.map V.int := by
  rw [of_intsOf e] at r
  exact rep_map (f := PV.int) (g := V.int) (fun _ _ h => h) r
theorem rep_bls {K : PySem.W.Frag} {ι : List Addr} {G : Hp} {ps : List PV} {ns : List Bool} {xs : List V} (e : blsOf ps = some ns) (r : RepL K ι G ps xs) : xs = ns.map V.bl := by
  rw [of_blsOf e] at r
  exact rep_map (f := PV.bl) (g := V.bl) (fun _ _ h => h) r
/-! ### built-ins -/
def b1 (f : PV → Sto → PR PV) (ps : List PV) (O : Sto) : PR PV := match ps with
  | [p] => f p O
  | _ => .bad
def b2 (f : PV → PV → Sto → PR PV) (ps : List PV) (O : Sto) : PR PV := match ps with
  | [p, q] => f p q O
  | _ => .bad
def bIs (f : List Int → Option PV) : List PV → Sto → PR PV := b1 fun p O => match (lstOf O p).bind intsOf with
  | some ns => match f ns with
    | some q => .ok q O
    | none => .bad
  | none => .bad
def bBs (f : List Bool → PV) : List PV → Sto → PR PV := b1 fun p O => match (lstOf O p).bind blsOf with
  | some ns => .ok (f ns) O
  | none => .bad
def bMax2 := b2 fun p q O => match p, q with
  | .int i, .int j => .ok (.int (max i j)) O
  | _, _ => .bad
def bMin2 := b2 fun p q O => match p, q with
  | .int i, .int j => .ok (.int (min i j)) O
  | _, _ => .bad
def bSum := bIs fun ns => some (.int ns.sum)
def bAll := bBs fun bs => .bl (bs.all id)
def bAny := bBs fun bs => .bl (bs.any id)
def bAbs := b1 fun p O => match p with
  | .int i => .ok (.int (if i < 0 then -i else i)) O
  | _ => .bad
def bInt := b1 fun p O => match p with
  | .int i => .ok (.int i) O
  | .bl k => .ok (.int (if k then 1 else 0)) O
  | _ => .bad
def seqOf (O : Sto) (p : PV) : Option (List PV) := match lstOf O p with
  | some ps => some ps
  | none => tupOf p
def bLen := b1 fun p O => match seqOf O p with
  | some ps => .ok (.int ps.length) O
  | none => .bad
def bRng := b2 fun p q O => match p, q with
  | .int i, .int j => .ok (.rng i j) O
  | _, _ => .bad
def bTup := b1 fun p O => match lstOf O p with
  | some ps => .ok (.tup ps) O
  | none => match p with
    | .tup ps => .ok (.tup ps) O
    | _ => .bad
def bLst := b1 fun p O => match seqOf O p with
  | some ps => .ok (.lst ps) O
  | none => .bad
def bLstO := b1 fun p O => match seqOf O p with
  | some ps => .ok (.loc O.length) (O ++ [some (.lst ps)])
  | none => .bad
def bDivmod := b2 fun p q O => match p, q with
  | .int i, .int j => if divOk i j = true then .ok (.tup [.int (i / j), .int (i % j)]) O else .bad
  | _, _ => .bad
section
variable {K : PySem.W.Frag}
theorem cb_1 {r : List V → Hp → VK → Prop} {f : PV → Sto → PR PV} (h : ∀ R ι O H p x E Q, Sim K R ι O H → Rep K ι (fz R ι O H) p x → Post K R E (Rep K) ι O H Q (f p O) → r [x] H Q) : CbS K r (b1 f) := by
  intro R ι O H ps xs E Q S r1 h1
  match ps, h1, r1 with
  | [], h1, _ => exact h1.elim
  | _ :: _ :: _, h1, _ => exact h1.elim
  | [p], h1, ⟨x, t, e, r2, e2⟩ =>
    cases e2
    subst e
    exact h R ι O H p x E Q S r2 h1
theorem cb_2 {r : List V → Hp → VK → Prop} {f : PV → PV → Sto → PR PV} (h : ∀ R ι O H p q x y E Q, Sim K R ι O H → Rep K ι (fz R ι O H) p x → Rep K ι (fz R ι O H) q y → Post K R E (Rep K) ι O H Q (f p q O) → r [x, y] H Q) : CbS K r (b2 f) := by
  intro R ι O H ps xs E Q S r1 h1
  match ps, h1, r1 with
  | [], h1, _ => exact h1.elim
  | [_], h1, _ => exact h1.elim
  | _ :: _ :: _ :: _, h1, _ => exact h1.elim
  | [p, q], h1, ⟨x, t, e, r2, y, t2, e2, r3, e3⟩ =>
    cases e3
    subst e2
    subst e
    exact h R ι O H p q x y E Q S r2 r3 h1
theorem cb_is {r : List V → Hp → VK → Prop} {f : List Int → Option PV} (h : ∀ a (ns : List Int) H Q q, SqL K H a (ns.map V.int) → f ns = some q → (∀ v, (∀ ι G, Rep K ι G q v) → Q v H) → r [.ref a] H Q) (hs : ∀ ns q, f ns = some q → ∃ v, ∀ ι G x, Rep K ι G q x ↔ x = v) : CbS K r (bIs f) := cb_1 fun R ι O H p x E Q S r1 h1 => by
  cases e : (lstOf O p).bind intsOf with
  | none => simp [e] at h1; exact h1.elim
  | some ns =>
    simp only [e] at h1
    cases e2 : f ns with
    | none => simp [e2] at h1; exact h1.elim
    | some q =>
      simp only [e2] at h1
      obtain ⟨ps, e3, e4⟩ := Option.bind_eq_some_iff.mp e
      obtain ⟨a, xs, h2, h3, h4⟩ := lst_read S r1 e3
      subst h2
      rw [rep_ints e4 h4] at h3
      exact h a ns H Q q h3 e2 fun v hv => h1.here S (hv _ _)
theorem cb_bs {r : List V → Hp → VK → Prop} {f : List Bool → Bool} (h : ∀ a (ns : List Bool) H Q, SqL K H a (ns.map V.bl) → Q (.bl (f ns)) H → r [.ref a] H Q) : CbS K r (bBs fun bs => .bl (f bs)) := cb_1 fun R ι O H p x E Q S r1 h1 => by
  cases e : (lstOf O p).bind blsOf with
  | none => simp [e] at h1; exact h1.elim
  | some ns =>
    simp only [e] at h1
    obtain ⟨ps, e3, e4⟩ := Option.bind_eq_some_iff.mp e
    obtain ⟨a, xs, h2, h3, h4⟩ := lst_read S r1 e3
    subst h2
    rw [rep_bls e4 h4] at h3
    exact h a ns H Q h3 (h1.here S rfl)
theorem cb_any : CbS K (rAny K) bAny := cb_bs fun a ns H Q h1 h2 => ⟨a, ns, rfl, h1, h2⟩
theorem one_int {n : Int} {q : PV} (e : some (PV.int n) = some q) : ∃ v, ∀ (ι : List Addr) G x, Rep K ι G q x ↔ x = v := by cases e; exact ⟨.int n, fun _ _ _ => Iff.rfl⟩
theorem cb_sum : CbS K (rSum K) bSum := cb_is (fun a ns H Q q h1 e h2 => by cases e; exact ⟨a, ns, rfl, h1, h2 _ fun _ _ => rfl⟩) fun ns q e => one_int e
theorem cb_max2 : CbS K (fun xs H Q => ∃ i j, xs = [.int i, .int j] ∧ Q (.int (max i j)) H) bMax2 := cb_2 fun R ι O H p q x y E Q S r1 r2 h => by
  cases p <;> cases q <;> first | exact h.elim | exact ⟨_, _, by rw [show x = _ from r1, show y = _ from r2], h.here S rfl⟩
theorem cb_min2 : CbS K (fun xs H Q => ∃ i j, xs = [.int i, .int j] ∧ Q (.int (min i j)) H) bMin2 := cb_2 fun R ι O H p q x y E Q S r1 r2 h => by
  cases p <;> cases q <;> first | exact h.elim | exact ⟨_, _, by rw [show x = _ from r1, show y = _ from r2], h.here S rfl⟩
theorem cb_abs : CbS K (fun xs H Q => ∃ i, xs = [.int i] ∧ Q (.int (if i < 0 then -i else i)) H) bAbs := cb_1 fun R ι O H p x E Q S r1 h => by
  cases p <;> first | exact h.elim | exact ⟨_, by rw [show x = _ from r1], h.here S rfl⟩
theorem seq_read {R : List (Addr × HO)} {ι : List Addr} {O : Sto} {H : Hp} {p : PV} {x : V} {ps : List PV} (S : Sim K R ι O H) (r : Rep K ι (fz R ι O H) p x) (e : seqOf O p = some ps) : ∃ a xs, x = .ref a ∧ (SqL K H a xs ∨ SqT K H a xs) ∧ RepL K ι (fz R ι O H) ps xs := by
  unfold seqOf at e
  cases e1 : lstOf O p with
  | some qs =>
    simp only [e1, Option.some.injEq] at e
    subst e
    obtain ⟨a, xs, h1, h2, h3⟩ := lst_read S r e1
    exact ⟨a, xs, h1, .inl h2, h3⟩
  | none =>
    simp only [e1] at e
    obtain ⟨a, xs, h1, h2, h3⟩ := tup_read S r e
    exact ⟨a, xs, h1, .inr h2, h3⟩
theorem cb_len : CbS K (fun xs H Q => ∃ p ys, xs = [.ref p] ∧ (SqL K H p ys ∨ SqT K H p ys) ∧ Q (.int ys.length) H) bLen := cb_1 fun R ι O H p x E Q S r1 h => by
  cases e : seqOf O p with
  | none => simp [e] at h; exact h.elim
  | some ps =>
    simp only [e] at h
    obtain ⟨a, xs, h1, h2, h3⟩ := seq_read S r1 e
    exact ⟨a, xs, by rw [h1], h2, by rw [h3.len]; exact h.here S rfl⟩
theorem cb_tup : CbS K (rTupOf K) bTup := cb_1 fun R ι O H p x E Q S r1 h => by
  cases e : lstOf O p with
  | some ps =>
    simp only [e] at h
    obtain ⟨a, xs, h1, h2, h3⟩ := lst_read S r1 e
    refine ⟨a, xs, by rw [h1], .inl ⟨h2, fun o ho => ?_⟩⟩
    obtain ⟨S2, X2, e2⟩ := S.newF ho (.tup xs)
    exact h.at S2 X2 ⟨o, xs, rfl, SqT.of e2, X2.repL h3⟩
  | none =>
    simp only [e] at h
    cases p <;> first | exact h.elim | skip
    obtain ⟨a, xs, h1, h2, h3⟩ := tup_read S r1 rfl
    refine ⟨a, xs, by rw [h1], .inr ⟨h2, ?_⟩⟩
    rw [← h1]
    exact h.here S r1
theorem cb_lst : CbS K (fun xs H Q => ∃ p ys, xs = [.ref p] ∧ (SqL K H p ys ∨ SqT K H p ys) ∧ ∀ l, H l = none → Q (.ref l) (upd H l (.lst ys))) bLst := cb_1 fun R ι O H p x E Q S r1 h => by
  cases e : seqOf O p with
  | none => simp [e] at h; exact h.elim
  | some ps =>
    simp only [e] at h
    obtain ⟨a, xs, h1, h2, h3⟩ := seq_read S r1 e
    refine ⟨a, xs, by rw [h1], h2, fun o ho => ?_⟩
    obtain ⟨S2, X2, e2⟩ := S.newF ho (.lst xs)
    exact h.at S2 X2 ⟨o, xs, rfl, e2, X2.repL h3⟩
theorem cb_lstO : CbS K (fun xs H Q => ∃ p ys, xs = [.ref p] ∧ (SqL K H p ys ∨ SqT K H p ys) ∧ ∀ l, H l = none → Q (.ref l) (upd H l (.lst ys))) bLstO := cb_1 fun R ι O H p x E Q S r1 h => by
  cases e : seqOf O p with
  | none => simp [e] at h; exact h.elim
  | some ps =>
    simp only [e] at h
    obtain ⟨a, xs, h1, h2, h3⟩ := seq_read S r1 e
    refine ⟨a, xs, by rw [h1], h2, fun o ho => ?_⟩
    obtain ⟨S2, X2⟩ := S.newO (p := .lst ps) ho (o := .lst xs) ⟨_, rfl, h3⟩
    exact h.at S2 X2 ⟨o, rfl, new_at S.len⟩
end
/-! ### in -/
def scVs : List PV → Option (List V)
  | [] => some []
  | p :: ps => match scV p, scVs ps with
    | some v, some vs => some (v :: vs)
    | _, _ => none
theorem scVs_rep {K : PySem.W.Frag} {ι : List Addr} {G : Hp} : ∀ {ps : List PV} {vs xs : List V}, scVs ps = some vs → RepL K ι G ps xs → xs = vs
  | [], vs, xs, e, r => by cases e; exact r
  | p :: ps, vs, xs, e, ⟨x, t, e1, r1, r2⟩ => by
    unfold scVs at e
    cases e2 : scV p with
    | none => simp [e2] at e
    | some v =>
      cases e3 : scVs ps with
      | none => simp [e2, e3] at e
      | some ws =>
        simp only [e2, e3, Option.some.injEq] at e
        subst e
        rw [e1, scV_rep e2 r1, scVs_rep e3 r2]
def inS (neg : Bool) (p q : PV) (O : Sto) : PR PV := match scV p, (seqOf O q).bind scVs with
  | some v, some vs => if (flatV v && vs.all flatV) = true then .ok (.bl (if neg then !inV v vs else inV v vs)) O else .bad
  | _, _ => .bad
/-! ### isinstance -/
structure ClsK (K : PySem.W.Frag) (cs : List Str) : Prop where
  ins : ∀ C ∈ cs, InsK K (He.ga K C)
  bt : ∀ C ∈ cs, ∀ t ∈ KT, PySem.W.kitOne K (.type t) (.ref (He.ga K C)) = some false
  tb : ∀ C ∈ cs, ∀ t ∈ KT, PySem.W.kitOne K (.ref (He.ga K C)) (.type t) = some false
  cc : ∀ C ∈ cs, ∀ D ∈ cs, C ≠ D → PySem.W.kitOne K (.ref (He.ga K C)) (.ref (He.ga K D)) = some false
  ne : ∀ C ∈ cs, PySem.W.findIn K (.ref (He.ga K C)) "__ne__" = some (some (.builtin "object.__ne__"))
theorem ClsK.of {K : PySem.W.Frag} {cs : List Str} (e : exAll K cs = true) (hc : ∀ C ∈ cs, Cls K (He.ga K C)) : ClsK K cs := by
  unfold exAll at e
  obtain ⟨e1, e2⟩ := Bool.and_eq_true_iff.mp e
  obtain ⟨e3, e4⟩ := Bool.and_eq_true_iff.mp e2
  have one : ∀ C ∈ cs, exOne K cs C = true := fun C h => List.all_eq_true.mp e4 C h
  have sp : ∀ C ∈ cs, InsK K (He.ga K C) ∧ (∀ t ∈ KT, PySem.W.kitOne K (.type t) (.ref (He.ga K C)) = some false) ∧ (∀ t ∈ KT, PySem.W.kitOne K (.ref (He.ga K C)) (.type t) = some false) ∧ (∀ D ∈ cs, C ≠ D → PySem.W.kitOne K (.ref (He.ga K C)) (.ref (He.ga K D)) = some false) ∧ PySem.W.findIn K (.ref (He.ga K C)) "__ne__" = some (some (.builtin "object.__ne__")) := fun C h => by
    have o := one C h
    unfold exOne at o
    obtain ⟨o1, o⟩ := Bool.and_eq_true_iff.mp o
    obtain ⟨o2, o⟩ := Bool.and_eq_true_iff.mp o
    obtain ⟨o3, o⟩ := Bool.and_eq_true_iff.mp o
    obtain ⟨o4, o⟩ := Bool.and_eq_true_iff.mp o
    obtain ⟨o5, o6⟩ := Bool.and_eq_true_iff.mp o
    refine ⟨⟨hc C h, He.eqO_ok o1, He.eqO_ok e1, of_decide_eq_true e3, of_decide_eq_true o2⟩, fun t ht => of_decide_eq_true (List.all_eq_true.mp o3 t ht), fun t ht => of_decide_eq_true (List.all_eq_true.mp o4 t ht), fun D hD ne => ?_, He.eqO_ok o6⟩
    have q := List.all_eq_true.mp o5 D hD
    rcases Bool.or_eq_true_iff.mp q with q | q
    · exact absurd (of_decide_eq_true q) ne
    · exact of_decide_eq_true q
  exact ⟨fun C h => (sp C h).1, fun C h => (sp C h).2.1, fun C h => (sp C h).2.2.1, fun C h => (sp C h).2.2.2.1, fun C h => (sp C h).2.2.2.2⟩
def tyOf (O : Sto) (p : PV) : Option (Sum String Str) := match p with
  | .non => some (.inl "NoneType")
  | .bl _ => some (.inl "bool")
  | .int _ => some (.inl "int")
  | .str _ => some (.inl "str")
  | .tup _ => some (.inl "tuple")
  | .xtp _ => some (.inl "tuple")
  | .lst _ => some (.inl "list")
  | .rol _ => some (.inl "list")
  | .dic _ _ => some (.inl "dict")
  | .ins C _ _ => some (.inr C)
  | .loc n => match O[n]? with
    | some (some (.lst _)) => some (.inl "list")
    | some (some (.ins C _ _)) => some (.inr C)
    | some (some (.dic _ _)) => some (.inl "dict")
    | _ => none
  | _ => none
def kitP (cs : List Str) (t : Sum String Str) (c : PV) : Option Bool := match t, c with
  | .inl a, .ty b => kitB a b
  | .inl a, .cls C => if (cs.contains C && KT.contains a) = true then some false else none
  | .inr D, .ty b => if (cs.contains D && KT.contains b) = true then some false else none
  | .inr D, .cls C => if (cs.contains C && cs.contains D) = true then some (decide (D = C)) else none
  | _, _ => none
def isiP (cs : List Str) : List PV → Sto → PR PV := b2 fun p c O => match tyOf O p with
  | some t => match kitP cs t c with
    | some b => .ok (.bl b) O
    | none => .bad
  | none => .bad
section
variable {K : PySem.W.Frag} {cs : List Str}
def tyV' (K : PySem.W.Frag) : Sum String Str → Value
  | .inl a => .type a
  | .inr C => .ref (He.ga K C)
theorem sqt_ty {H : Hp} {a : Addr} {xs : List V} (h : SqT K H a xs) : TyX K H (.ref a) (.type "tuple") := by
  rcases h with (h | ⟨o, h⟩) | ⟨o, its, n, h1, h2, _⟩
  · exact .base (.tup h)
  · exact .fTuple h
  · exact .kTuple h1 h2
theorem sql_ty {H : Hp} {a : Addr} {xs : List V} (h : SqL K H a xs) : TyX K H (.ref a) (.type "list") := by
  rcases h with (h | ⟨o, h⟩) | ⟨o, its, n, h1, h2, _⟩
  · exact .base (.lst h)
  · exact .base (.frz h)
  · exact .kList h1 h2
theorem ty_read {R : List (Addr × HO)} {ι : List Addr} {O : Sto} {H : Hp} {p : PV} {x : V} {t : Sum String Str} (ck : ClsK K cs) (S : Sim K R ι O H) (r : Rep K ι (fz R ι O H) p x) (e : tyOf O p = some t) (hc : ∀ C, t = .inr C → C ∈ cs) : TyX K H x (tyV' K t) := by
  have insT : ∀ C ns ps, insOf O p = some (C, ns, ps) → t = .inr C → TyX K H x (tyV' K t) := fun C ns ps h1 h2 => by
    obtain ⟨a, dx, xs, g1, g2, _⟩ := ins_read S r h1
    have I := ck.ins C (hc C h2)
    rw [h2, g1]
    exact .base (.ins g2 I.cl I.ha I.hn I.htk I.hm)
  cases p with
  | non => cases e; rw [show x = _ from r]; exact .base .non
  | bl b => cases e; rw [show x = _ from r]; exact .base (.bl b)
  | int b => cases e; rw [show x = _ from r]; exact .base (.int b)
  | str b => cases e; rw [show x = _ from r]; exact .base (.str b)
  | tup ps =>
    cases e
    obtain ⟨a, xs, h1, h2, _⟩ := tup_read S r rfl
    rw [h1]; exact sqt_ty h2
  | xtp ps =>
    cases e
    obtain ⟨a, xs, h1, h2, _⟩ := tup_read S r rfl
    rw [h1]; exact sqt_ty h2
  | lst ps =>
    cases e
    obtain ⟨a, xs, h1, h2, _⟩ := lst_read S r rfl
    rw [h1]; exact sql_ty h2
  | rol ps =>
    cases e
    obtain ⟨a, xs, h1, h2, _⟩ := lst_read S r rfl
    rw [h1]; exact sql_ty h2
  | ins C ns ps => cases e; exact insT C ns ps rfl rfl
  | dic ks vs =>
    cases e
    obtain ⟨a, kvs, h1, h2, _⟩ := r
    rw [h1]; exact .base (.dK (S.frozen _ _ h2))
  | loc n =>
    unfold tyOf at e
    cases q : O[n]? with
    | none => simp [q] at e
    | some w =>
      cases w with
      | none => simp [q] at e
      | some w =>
        cases w with
        | lst ps =>
          simp only [q, Option.some.injEq] at e
          subst e
          obtain ⟨a, xs, h1, h2, _⟩ := lst_read S r (ps := ps) (by simp [lstOf, q])
          rw [h1]; exact sql_ty h2
        | ins C ns ps =>
          simp only [q, Option.some.injEq] at e
          exact insT C ns ps (by simp [insOf, q]) e.symm
        | dic ks vs =>
          simp only [q, Option.some.injEq] at e
          subst e
          obtain ⟨a, e1, e2⟩ := r
          obtain ⟨o, h3, kvs, h4, _⟩ := S.obj n a _ e2 q
          subst h4
          rw [e1]; exact .base (.dK h3)
        | _ => simp [q] at e
  | _ => cases e
theorem kit_read {t : Sum String Str} {c : PV} {y : V} {ι : List Addr} {G : Hp} {b : Bool} (ck : ClsK K cs) (e : kitP cs t c = some b) (r : Rep K ι G c y) : (∀ C, t = .inr C → C ∈ cs) ∧ ∃ u, ClsV y u ∧ PySem.W.kitOne K (tyV' K t) u = some b := by
  cases t with
  | inl a =>
    refine ⟨fun C h => (nomatch h), ?_⟩
    cases c <;> first | cases e | skip
    · rename_i n
      rw [show y = .ty n from r]
      exact ⟨.type n, .ty n, kit_ty e⟩
    · rename_i C
      rw [show y = .ref _ from r]
      unfold kitP at e
      simp only at e
      split at e
      · rename_i z
        obtain ⟨z1, z2⟩ := Bool.and_eq_true_iff.mp z
        cases e
        exact ⟨_, .own _, ck.bt C (List.contains_iff_mem.mp z1) a (List.contains_iff_mem.mp z2)⟩
      · cases e
  | inr D =>
    cases c <;> first | cases e | skip
    · rename_i n
      unfold kitP at e
      simp only at e
      split at e
      · rename_i z
        obtain ⟨z1, z2⟩ := Bool.and_eq_true_iff.mp z
        cases e
        rw [show y = .ty n from r]
        exact ⟨fun C h => by cases h; exact List.contains_iff_mem.mp z1, .type n, .ty n, ck.tb D (List.contains_iff_mem.mp z1) n (List.contains_iff_mem.mp z2)⟩
      · cases e
    · rename_i C
      unfold kitP at e
      simp only at e
      split at e
      · rename_i z
        obtain ⟨z1, z2⟩ := Bool.and_eq_true_iff.mp z
        cases e
        rw [show y = .ref _ from r]
        refine ⟨fun C' h => by cases h; exact List.contains_iff_mem.mp z2, _, .own _, ?_⟩
        by_cases q : D = C
        · subst q
          simp only [decide_true]
          unfold PySem.W.kitOne tyV'
          simp
        · rw [decide_eq_false q]
          exact ck.cc D (List.contains_iff_mem.mp z2) C (List.contains_iff_mem.mp z1) q
      · cases e
theorem cb_isi (ck : ClsK K cs) : CbS K (rIsi K) (isiP cs) := cb_2 fun R ι O H p q x y E Q S r1 r2 h => by
  cases e : tyOf O p with
  | none => simp [e] at h; exact h.elim
  | some t =>
    simp only [e] at h
    cases e2 : kitP cs t q with
    | none => simp [e2] at h; exact h.elim
    | some b =>
      simp only [e2] at h
      obtain ⟨h1, u, h2, h3⟩ := kit_read ck e2 r2
      exact ⟨x, y, _, u, b, rfl, h2, ty_read ck S r1 e h1, h3, h.here S rfl⟩
end
/-! ### further statements -/
def sPar (n m : Nat) (f : AF) : SF := fun s O => (f s O).toS s fun ps O1 => match ps with
  | [p, q] => .next ((s.set n (some p)).set m (some q)) O1
  | _ => .bad
def sPar3 (n m l : Nat) (f : AF) : SF := fun s O => (f s O).toS s fun ps O1 => match ps with
  | [p, q, r] => .next (((s.set n (some p)).set m (some q)).set l (some r)) O1
  | _ => .bad
def sAug (i : Nat) (op : PV → PV → Sto → PR PV) (f : EF) : SF := fun s O => match s[i]? with
  | some (some p) => (f s O).toS s fun q O1 => (op p q O1).toS s fun r O2 => .next (s.set i (some r)) O2
  | _ => .bad
section
variable {K : PySem.W.Frag} {E : XM} {tA : TA} {fA : AF} {te : TE} {fe : EF}
theorem sim_par {n m : Nat} (hA : SimA K E tA fA) : SimS K E (tPar n m tA) (sPar n m fA) := fun R ι O H σ s D S L h =>
  hA R ι O H σ s _ S L (h.lift L fun ps O1 xs ι1 H1 S1 X1 r1 h1 => by
    match ps, h1, r1 with
    | [], h1, _ => exact h1.elim
    | [_], h1, _ => exact h1.elim
    | _ :: _ :: _ :: _, h1, _ => exact h1.elim
    | [p, q], h1, ⟨x, t, e, r2, y, t2, e2, r3, e3⟩ =>
      cases e3
      subst e2
      subst e
      exact ⟨x, y, rfl, h1 _ ι1 H1 S1 .refl (((L.ext X1).set n r2).set m r3)⟩)
end
end Qx

/-! Own layer Q8: sorted sets of ints, never. -/
namespace Qx
open PySem PySem.Spec PyProof.Rows L2 Gx
theorem rp_int {K : PySem.W.Frag} {ι : List Addr} {G : Hp} {i : Int} : Rep K ι G (.int i) (.int i) := rfl
theorem rp_non {K : PySem.W.Frag} {ι : List Addr} {G : Hp} : Rep K ι G .non .non := rfl
def tYesP : TF := fun _ O => .ok true O
theorem sim_yesP {K : PySem.W.Frag} {E : XM} : SimT K E tYes tYesP := sim_yes
def gLstP (n : Nat) (gs : List PV → Slots → Sto → PR Slots) : GF := fun p s O => match lstOf O p with
  | some ps => if ps.length = n then gs ps s O else .bad
  | none => .bad
/-! ### sorted(set(..)) of ints -/
end Qx

/-! Own: zip of two sequences of any two kinds (a tuple and a list). -/
namespace Zx
open PySem PySem.Spec PyProof.Rows L2
open PySem.Sem (wp)
structure Kd where
  It : Heap → Addr → Addr → Nat → Prop
  Ls : Heap → Addr → Array Value → Prop
  ob : ∀ {h i l n}, It h i l n → ∃ o fs, h.get? i = some o ∧ o.data = .fields fs
  itk : ∀ {h h' i l n}, It h i l n → (∀ o, h.get? i = some o → h'.get? i = some o) → It h' i l n
  lsk : ∀ {h h' l xs}, Ls h l xs → (∀ o, h.get? l = some o → h'.get? l = some o) → Ls h' l xs
  nx : ∀ {prog : Program} {w : World} {A : Around} {E : Value → Shared → Prop} {s : Shared} {i l : Addr} {n : Nat} {xs : Array Value} {x : Value} {Q : Value → Shared → Prop}, It s.heap i l n → Ls s.heap l xs → xs[n]? = some x → (∀ h', It h' i l (n + 1) → Heap.SameBut i s.heap h' → Q x { s with heap := h' }) → wpAny (model prog w) A (Builtin.SmallTypes.nextOf (.ref i)) Q E s
  en : ∀ {prog : Program} {w : World} {A : Around} {E : Value → Shared → Prop} {s : Shared} {i l : Addr} {n : Nat} {xs : Array Value} {Q : Value → Shared → Prop}, A.handled = none → It s.heap i l n → Ls s.heap l xs → xs[n]? = none → (∀ h' e, Heap.ExtBut i s.heap h' → (∃ o, h'.get? e = some o ∧ o.cls = .type "StopIteration") → E (.ref e) { s with heap := h' }) → wpAny (model prog w) A (Builtin.SmallTypes.nextOf (.ref i)) Q E s
section
variable {prog : Program} {w : World} {A : Around} {E : Value → Shared → Prop} {s : Shared} {a b : Kd}
end
/-! ### the call of zip -/
abbrev w1 (c : String) (h : Heap) (l : Addr) : Heap := h.push { cls := .type c, data := .fields #[.ref l, .int 0 0] }
section
variable {prog : Program} {w : World} {A : Around} {E : Value → Shared → Prop} {s : Shared}
end
/-! ### the turn of a loop -/
end Zx

/-! Own layer Q9: instances that change, fields set, list.pop(i), zip of a tuple with a list, freezing. -/
namespace Qx
open PySem PySem.Spec PyProof.Rows L2 Gx
/-! ### C(..) as a thing that changes -/
theorem pmk0 {X : Cx} {d : He.DefD} {k j : Nat} {ps : List Str} {sp : Sp} {x : Str} {p pos : Pos} {dv : List V} {C : Addr} (D : DOk X.prog X.w X.K X.mg X.base d CX0 k ps sp) (M : Mk X.K C (He.fAd X.K d.at_)) (hm : X.mg x = some (.ref C)) (hb : BdD X.K d ps dv) (hr : Room j X.A) (hj : k + 1 ≤ j) (hg : Gl X x := by rfl)
    (hdb : (x == ("__debug__" : Str)) = false := by decide) : PE X (.Call (.Name x p) [] [] pos) (tMake C sp dv E0 tNil) := by
  obtain ⟨fd, F, G⟩ := D.ex
  obtain ⟨ds, hv, hbd⟩ := hb fd F
  exact pe_make0 M G (hr.mono hj) hg hm hbd hv pass0 hdb
def eMakeO (C : Str) (m : MF) (dps : List PV) (a : AF) : EF := fun s O => (a s O).bind fun ps O1 => (noX (m (.loc O1.length :: (ps ++ dps)) (O1 ++ [some (.ins C [] [])]))).bind fun r O2 => match r with
  | .non => .ok (.loc O1.length) O2
  | _ => .bad
section
variable {K : PySem.W.Frag} {E : XM} {C : Str} {tA : TA} {fA : AF} {m : MF} {dps : List PV} {dvs : List V}
theorem sim_makeO (hA : SimA K none tA fA) (hd : ∀ ι G, RepL K ι G dps dvs) : SimE K none (tMake (He.ga K C) (spM K false m) dvs E0 tA) (eMakeO C m dps fA) := fun R ι O H σ s Q S L h =>
  hA R ι O H σ s _ S L (h.bind fun ps O1 xs ι1 H1 S1 X1 r1 h1 => fun x dx hx hdx ne => by
    obtain ⟨S2, X2, _⟩ := S1.newF hdx (.own x)
    obtain ⟨S3, X3⟩ := S2.newO (D := x) (p := .ins C [] []) (by rw [upd_ne fun e => ne e.symm]; exact hx) (o := .ins (He.ga K C) dx []) ⟨dx, [], rfl, rfl, rfl⟩
    have X := X2.trans X3
    refine ⟨R, _, _, .loc O1.length :: (ps ++ dps), S3, .consR (show Rep K _ _ (.loc O1.length) _ from ⟨x, rfl, new_at S1.len⟩) ((X.repL r1).app (hd _ _)), ?_⟩
    refine Post.noX (E := none) (Post.bind (Post.of X h1) fun r O2 v ι2 H2 S4 X4 r2 h2 => ?_)
    cases r with
    | non => exact ⟨r2, h2.here S4 ⟨x, rfl, X4.pre _ _ (new_at S1.len)⟩⟩
    | _ => exact h2.elim)
end
/-! ### o.f = e -/
def putN (f : Str) : List Str → List Str
  | [] => [f]
  | n :: r => if n = f then n :: r else n :: putN f r
def putW {α : Type} (f : Str) (q : α) : List Str → List α → List α
  | [], _ => [q]
  | n :: r, p :: ps => if n = f then q :: ps else p :: putW f q r ps
  | _ :: _, [] => []
theorem putF_zip {f : Str} {v : V} : ∀ {ns : List Str} {xs : List V}, ns.length = xs.length → putF f v (ns.zip xs) = (putN f ns).zip (putW f v ns xs)
  | [], [], _ => rfl
  | [], _ :: _, h => by simp at h
  | _ :: _, [], h => by simp at h
  | n :: ns, x :: xs, h => by
    show (if n = f then (n, v) :: ns.zip xs else (n, x) :: putF f v (ns.zip xs)) = _
    unfold putN putW
    by_cases c : n = f
    · rw [if_pos c, if_pos c, if_pos c]; rfl
    · rw [if_neg c, if_neg c, if_neg c, putF_zip (by simpa using h)]; rfl
theorem putN_len {α : Type} {f : Str} {q : α} : ∀ {ns : List Str} {ps : List α}, ns.length = ps.length → (putN f ns).length = (putW f q ns ps).length
  | [], [], _ => rfl
  | [], _ :: _, h => by simp at h
  | _ :: _, [], h => by simp at h
  | n :: ns, x :: xs, h => by
    unfold putN putW
    by_cases c : n = f
    · rw [if_pos c, if_pos c]; simpa using h
    · rw [if_neg c, if_neg c, List.length_cons, List.length_cons, putN_len (q := q) (by simpa using h)]
theorem putW_rep {K : PySem.W.Frag} {ι : List Addr} {G : Hp} {f : Str} {q : PV} {v : V} (r : Rep K ι G q v) : ∀ {ns : List Str} {ps : List PV} {xs : List V}, RepL K ι G ps xs → RepL K ι G (putW f q ns ps) (putW f v ns xs)
  | [], ps, xs, h => by unfold putW; exact .one r
  | n :: ns, [], xs, h => by rw [show xs = [] from h]; exact rfl
  | n :: ns, p :: ps, xs, h => by
    obtain ⟨x, t, e, h1, h2⟩ := h
    subst e
    unfold putW
    by_cases c : n = f
    · rw [if_pos c, if_pos c]; exact .consR r h2
    · rw [if_neg c, if_neg c]; exact .consR h1 (putW_rep r h2)
def fldP (C f : Str) (p q : PV) (s : Slots) (O : Sto) : SR := match p with
  | .loc n => match O[n]? with
    | some (some (.ins C' ns ps)) => if C' = C ∧ ns.length ≤ 900 then .next s (O.set n (some (.ins C (putN f ns) (putW f q ns ps)))) else .bad
    | _ => .bad
  | _ => .bad
def sFldP (C f : Str) (fo fv : EF) : SF := fun s O => (fv s O).toS s fun q O1 => (fo s O1).toS s fun p O2 => fldP C f p q s O2
theorem sim_fldS {K : PySem.W.Frag} {E : XM} {C f : Str} {ta tv : TE} {fo fv : EF} (c : Cls K (He.ga K C)) (no : NoAttr K (He.ga K C) f) (hv : SimE K E tv fv) (ho : SimE K E ta fo) : SimS K E (sFld K ta tv f) (sFldP C f fo fv) := fun R ι O H σ s D S L h =>
  hv R ι O H σ s _ S L (h.lift L fun q O1 y ι1 H1 S1 X1 r1 h1 => ho R ι1 O1 H1 σ s _ S1 (L.ext X1) (h1.lift (L.ext X1) fun p O2 x ι2 H2 S2 X2 r2 h2 => by
    unfold fldP at h2
    cases p with
    | loc n =>
      obtain ⟨a, e1, e2⟩ := r2
      simp only at h2
      cases e : O2[n]? with
      | none => simp [e] at h2; exact h2.elim
      | some w =>
        cases w with
        | none => simp [e] at h2; exact h2.elim
        | some w =>
          cases w with
          | ins C' ns ps =>
            simp only [e] at h2
            split at h2
            · rename_i cc
              obtain ⟨o, h3, dx, xs, h4, h5, h6⟩ := S2.obj n a _ e2 e
              subst h4
              have l : ns.length = xs.length := by rw [h5, h6.len]
              refine ⟨a, _, dx, _, e1, by rw [h3, cc.1], c, no, by rw [List.length_zip]; have := cc.2; omega, ?_⟩
              have r1' := X2.rep r1
              rw [putF_zip l]
              obtain ⟨S3, X3⟩ := S2.change (p' := .ins C (putN f ns) (putW f q ns ps)) e2 e (o' := .ins (He.ga K C) dx ((putN f ns).zip (putW f y ns xs))) ⟨dx, _, rfl, putN_len h5, putW_rep r1' h6⟩
              exact h2 σ ι2 _ S3 X3 ((L.ext (X1.trans X2)).ext X3)
            · exact h2.elim
          | _ => simp [e] at h2; exact h2.elim
    | _ => exact h2.elim))
/-! ### list.pop(i) -/
def popAtP (p : PV) (qs : List PV) (O : Sto) : PR PV := match locL O p, qs with
  | some (n, ps), [.int i] => if (decide (-(2 ^ 63) ≤ i) && decide (i < 2 ^ 63)) = true then match seqIndex? i ps.length with
    | some k => match ps[k]? with
      | some q => .ok q (O.set n (some (.lst (ps.eraseIdx k))))
      | none => .bad
    | none => .bad else .bad
  | _, _ => .bad
theorem RepL.erase {K : PySem.W.Frag} {ι : List Addr} {G : Hp} {ps : List PV} {xs : List V} (h : RepL K ι G ps xs) (k : Nat) : RepL K ι G (ps.eraseIdx k) (xs.eraseIdx k) := by
  rw [List.eraseIdx_eq_take_drop_succ, List.eraseIdx_eq_take_drop_succ]
  exact (h.take k).app (h.drop (k + 1))
theorem ml_popAt {K : PySem.W.Frag} : MtP K rPopAt popAtP := by
  intro R ι O H p qs x ys E Q S r1 r2 h
  unfold popAtP at h
  cases e : locL O p with
  | none => simp [e] at h; exact h.elim
  | some w =>
    obtain ⟨n, ps⟩ := w
    match qs, h, r2 with
    | [.int i], h, ⟨y, t, e2, r3, e3⟩ =>
      cases e3
      subst e2
      simp only [e] at h
      split at h
      · rename_i c
        obtain ⟨c1, c2⟩ := Bool.and_eq_true_iff.mp c
        cases e4 : seqIndex? i ps.length with
        | none => simp [e4] at h; exact h.elim
        | some k =>
          simp only [e4] at h
          cases e5 : ps[k]? with
          | none => simp [e5] at h; exact h.elim
          | some q =>
            simp only [e5] at h
            obtain ⟨a, xs, h1, h2, h3, h4, h5⟩ := locL_read S r1 e
            obtain ⟨v, g1, g2⟩ := h5.get e5
            obtain ⟨S2, X2⟩ := S.change h2 h3 (p' := .lst (ps.eraseIdx k)) (o' := .lst (xs.eraseIdx k)) ⟨_, rfl, h5.erase k⟩
            exact ⟨a, xs, i, k, v, h1, by rw [show y = .int i from r3], h4, of_decide_eq_true c1, of_decide_eq_true c2, by rw [h5.len]; exact e4, g1, h.at S2 X2 (X2.rep g2)⟩
      · exact h.elim
    | [], h, _ => simp [e] at h; exact h.elim
    | _ :: _ :: _, h, _ => simp [e] at h; exact h.elim
    | [.non], h, _ => simp [e] at h; exact h.elim
    | [.bl _], h, _ => simp [e] at h; exact h.elim
    | [.str _], h, _ => simp [e] at h; exact h.elim
    | [.ty _], h, _ => simp [e] at h; exact h.elim
    | [.cls _], h, _ => simp [e] at h; exact h.elim
    | [.tup _], h, _ => simp [e] at h; exact h.elim
    | [.xtp _], h, _ => simp [e] at h; exact h.elim
    | [.lst _], h, _ => simp [e] at h; exact h.elim
    | [.rol _], h, _ => simp [e] at h; exact h.elim
    | [.ins _ _ _], h, _ => simp [e] at h; exact h.elim
    | [.rng _ _], h, _ => simp [e] at h; exact h.elim
    | [.loc _], h, _ => simp [e] at h; exact h.elim
    | [.dic _ _], h, _ => simp [e] at h; exact h.elim
    | [.tbl _], h, _ => simp [e] at h; exact h.elim
    | [.xc _ _ _], h, _ => simp [e] at h; exact h.elim
/-! ### zip of a tuple with a list -/
def itemsOf (O : Sto) : PV → Option (List PV × Option (Nat × List PV))
  | .lst ps => some (ps, none)
  | .rol ps => some (ps, none)
  | .loc n => match O[n]? with
    | some (some (.lst ps)) => some (ps, some (n, ps))
    | some (some _) => none
    | some none => none
    | none => none
  | _ => none
theorem tupOf_read {K : PySem.W.Frag} {ι : List Addr} {G : Hp} {p : PV} {x : V} {ps : List PV} (r : Rep K ι G p x) (e : tupOf p = some ps) : ∃ a xs, x = .ref a ∧ SqT K G a xs ∧ RepL K ι G ps xs := by
  cases p <;> first | (cases e; exact r) | (cases e; exact r.1) | cases e
/-! ### freezing -/
def frzP (p : PV) (O : Sto) : PR PV := match p with
  | .loc n => match O[n]? with
    | some (some q) => .ok q (O.set n none)
    | some none => .ok p O
    | none => .ok p O
  | _ => .ok p O
def eFrz (a : EF) : EF := fun s O => (a s O).bind frzP
theorem sim_frz {K : PySem.W.Frag} {E : XM} {ta : TE} {fa : EF} (ha : SimE K E ta fa) : SimE K E ta (eFrz fa) := fun R ι O H σ s Q S L h =>
  ha R ι O H σ s Q S L (by
    unfold eFrz at h
    cases e : fa s O with
    | ok p O1 =>
      rw [e] at h
      intro x ι1 H1 S1 X1 r1
      have h : Post K R (xat E σ) (Rep K) ι O H Q (frzP p O1) := h
      unfold frzP at h
      cases p with
      | loc n =>
        obtain ⟨a, e1, e2⟩ := r1
        subst e1
        simp only at h
        cases e3 : O1[n]? with
        | none => simp only [e3] at h; exact h _ ι1 H1 S1 X1 ⟨a, rfl, e2⟩
        | some w =>
          cases w with
          | none => simp only [e3] at h; exact h _ ι1 H1 S1 X1 ⟨a, rfl, e2⟩
          | some q =>
            simp only [e3] at h
            obtain ⟨S2, X2, r2⟩ := S1.freeze e2 e3
            exact h _ ι1 H1 S2 (X1.trans X2) r2
      | _ => exact h x ι1 H1 S1 X1 r1
    | exc x O1 => rw [e] at h; exact h
    | bad => rw [e] at h; exact h.elim)
end Qx

/-! Own layer Xa: a caught exception as a thing that is tracked from then on; calls where something is handled; calls that may raise. -/
namespace Gx
open PySem PySem.Spec PyProof.Rows L2
theorem xo_ok {P : Program} {w : World} {H : Hp} {h : Heap} {a : Addr} {oe : Obj} (e : h.get? a = some oe) : ObjOk P w H h a (XO a oe) := by
  unfold XO
  rw [ObjOk.eq_13]
  exact ⟨e, ⟨oe, e⟩, fun h1 h2 k j => j _ k⟩
theorem suite_track {X : Cx} {pins : List (Addr × Obj)} {σ : L2.St} {H : Hp} {s : Shared} {a : Addr} {oe : Obj} (ok : X.Ok) (I : Inv (X.suite a ((a, oe) :: (X.pn ++ pins))) [] σ H s) (hex : X.ex = []) (new : ∀ o, X.s_0.heap.get? a ≠ some o) (np : ∀ p ∈ X.pn ++ pins, p.1 ≠ a) :
    Inv (X.suite a (X.pn ++ pins)) [] σ (upd H a (XO a oe)) s := by
  obtain ⟨ha, hn, hl, hf, hc⟩ := I.pin (a, oe) (by simp)
  have hn : H a = none := hn
  refine ⟨Cx.Ok.suite ok a _, I.os, I.bare, ?_, I.loc, I.cell, ?_, fun x c e => ?_, fun p hp => ?_, ?_, I.len⟩
  · have B := I.base
    refine ⟨B.keep, B.slot, fun b o e1 e2 e3 => ?_, B.there, fun b xs e => ?_, fun b o u e => ?_, fun b ps e => ?_⟩
    · rw [upd_ne fun z => new o (by rw [← z]; exact e1)]
      exact B.free b o e1 e2 e3
    · have q := B.tups b xs e
      rw [upd_ne (ne_of_none q hn)]; exact q
    · have q := B.frzs b o u e
      rw [upd_ne (ne_of_none q hn)]; exact q
    · obtain ⟨m, q⟩ := B.tbls b ps e
      exact ⟨m, by rw [upd_ne (ne_of_none q hn)]; exact q⟩
  · rw [upd_ne (Ne.symm hl)]; exact I.free
  · obtain ⟨v, o, h1, h2⟩ := I.cell x c e
    rw [upd_ne fun z => ?_]
    · exact I.freeC x c e
    · rw [z, show s.heap.get? a = some oe from ha] at h1
      cases h1
      exact hc v h2
  · have hp' : p ∈ X.pn ++ pins := by simpa using hp
    obtain ⟨h1, h2, h3, h4, h5⟩ := I.pin p (List.mem_append_left _ (List.mem_cons_of_mem _ hp'))
    exact ⟨h1, by rw [upd_ne (np p hp')]; exact h2, h3, h4, h5⟩
  · intro b u e
    by_cases c : b = a
    · subst c
      rw [upd_same] at e
      cases e
      exact xo_ok ha
    · rw [upd_ne c] at e
      exact ObjOk.stay (I.hok b u e) (fun c v x q => q) (fun c q => by rw [upd_ne (ne_of_none q hn)]; exact q) fun c xs q => by rw [upd_ne (ne_of_none q hn)]; exact q
theorem suite_off {X : Cx} {pins : List (Addr × Obj)} {σ : L2.St} {H : Hp} {s : Shared} {a : Addr} (I : Inv (X.suite a (X.pn ++ pins)) [] σ H s) (ok : X.Ok) : Inv X pins σ H s :=
  ⟨ok, I.os, I.bare, I.base, I.loc, I.cell, I.free, I.freeC, fun p hp => I.pin p (List.mem_append_left _ hp), I.hok, I.len⟩
def wAsT (K : PySem.W.Frag) (c : Value) (i : Nat) (ts : TS) (Wout : WX) (D : Ends) : WX := fun cls d σ H =>
  ∃ b, PySem.W.exmOne K cls c = some b ∧ (b = true → ∀ a oe, H a = none → Zc cls d oe → (∃ vs, oe.data = .fields vs) → ts { nx := fun σ' H' => D.nx (List.set σ' i none) H', rt := D.rt, bk := fun σ' H' => D.bk (List.set σ' i none) H', ct := fun σ' H' => D.ct (List.set σ' i none) H' } (List.set σ i (some (.ref a))) (upd H a (XO a oe))) ∧ (b = false → Wout cls d σ H)
theorem ps_try_asT {X : Cx} {x n : Str} {c : Value} {i : Nat} {body suite : List Stmt} {b₀ : Stmt} {np pos pos' : Pos} {tb : WX → TS} {ts : TS} {Wout : WX} (hs : X.stack = X.env :: X.outer) (hf : X.env.frame = some X.env.locals) (hex : X.ex = []) (hN : X.N.Nodup) (hi : X.N[i]? = some n) (hln : X.env.kindOf n = some .local) (hc : Names X x c) (tk : Takes X Wout)
    (hb : ∀ (W : WX) (pn : List (Addr × Obj)) (xe : Value → Shared → Prop), Takes (X.tr pn xe) W → PassesOwn (model X.prog X.w) X.A X.env xe → PSs (X.tr pn xe) body (tb W))
    (hsu : ∀ (a : Addr) (pn : List (Addr × Obj)), PSs (X.suite a pn) (b₀ :: suite) ts) :
    PS X (.Try body [.ExceptHandler (some (.Name x np)) (some n) (b₀ :: suite) pos'] [] [] pos) (fun D σ H => tb (wAsT X.K c i ts Wout D) D σ H) := by
  refine ⟨fun pins s σ H D I h => ?_⟩
  have ok := I.ok
  have hfr : X.A.frames = some (X.env :: X.outer) := by rw [ok.frames, hs]
  refine wpAny_Try_except (wpAny_mono ((hb (wAsT X.K c i ts Wout D) (X.pn ++ pins) (fun e s₁ => wpAny (model X.prog X.w) X.A (noteFrame e X.env) (fun _ s₂ => wpAny (model X.prog X.w) X.A (setFlight e none) (fun _ s₃ => wpAny (model X.prog X.w) X.A (handleBy e X.env [.ExceptHandler (some (.Name x np)) (some n) (b₀ :: suite) pos']) (SP X pins D) X.xe s₃) X.xe s₂) X.xe s₁) (fun u s' xx => ?_) PassesOwn.looking).run [] s σ H D (Inv.toTry I _) h) (fun f s1 hsp => ?_) fun _ _ z => z)
  · obtain ⟨a, B, sI, pins', σ', H', cls, d, rfl, J', nb, up, sky, na, os, ag, b, hb1, hyes, hno⟩ := xx
    have J := Inv.ofTry J' ok
    have sky' : Sky B (X.env :: X.outer) a (Zc cls d) X.env.locals s'.heap := by rw [← hs]; exact sky
    refine Sky.land Zc.steady hfr hf sky' fun h3 fl3 up3 => ?_
    have J3 : Inv X pins σ' H' { heap := h3, gens := s'.gens, drawn := s'.drawn, toks := s'.toks, os := s'.os } := Inv.landed J nb fl3.1 (Heap.UpToSlots.trans up up3) os ag
    obtain ⟨oe3, vs3, he3, hz3, hd3⟩ := HandSPX.FlyingZ.there fl3
    have notFr : ∀ {h : Heap} {o : Obj} {vs : Array Value}, h.FunFrames B (X.env :: X.outer) → h.get? a = some o → o.data = .fields vs → a ∉ frs (X.env :: X.outer) := fun ff e dd hm => by
      obtain ⟨_, o', e', hnf⟩ := Heap.FunFrames.mem ff hm
      rw [e] at e'
      cases e'
      exact hnf _ dd
    have nfr := notFr fl3.2.2.1 he3 hd3
    have nL : a ≠ X.env.locals := fun z => nfr (List.mem_filterMap.mpr ⟨X.env, List.mem_cons_self, by rw [hf, z]⟩)
    have nF : a ∉ X.fs := fun hm => by
      obtain ⟨e, he, q⟩ := List.mem_filterMap.mp hm
      exact nfr (List.mem_filterMap.mpr ⟨e, List.mem_cons_of_mem X.env he, q⟩)
    have nI : ∀ o, sI.heap.get? a ≠ some o := fun o z => by
      have q := nb a o z (by rw [hs]; exact nfr)
      rw [fl3.2.1] at q
      cases q
    have new : ∀ o, X.s_0.heap.get? a ≠ some o := fun o z => by
      obtain ⟨o', q⟩ := J.base.there a o z (by rw [hex]; simp)
      exact nI o' q
    have npn : ∀ p ∈ X.pn ++ pins, p.1 ≠ a := fun p hp z => by
      have q := (J.pin p hp).1
      rw [z] at q
      exact nI _ q
    have S3 := Inv.suite J3 he3 hd3 na nL nF
    refine wpAny_handleBy_cons (codeAny_handlers_test ?_) fun q => nomatch q
    have LT : PySem.W.Looks (model X.prog X.w) h3 (typeOf (.ref a)) cls := fun A Q E s k q => wpAny_typeOf_ref (k a oe3 he3) (by rw [hz3.1]; exact q)
    have LM := PySem.W.exm_one (Inv.kIn J3) LT hb1
    have test : ∀ {Q : Value → Shared → Prop} {E : Value → Shared → Prop}, Q c { heap := h3, gens := s'.gens, drawn := s'.drawn, toks := s'.toks, os := s'.os } → wpAny (model X.prog X.w) (X.A.mark (some (.ref a))) (eval (.Name x np) X.env) Q E { heap := h3, gens := s'.gens, drawn := s'.drawn, toks := s'.toks, os := s'.os } := fun q => by
      obtain ⟨hg, hdbg, hm | ⟨hm, hv, hnn⟩⟩ := hc
      · exact ld_glob S3 hg hm q hdbg
      · exact ld_blt S3 hg hm hv q hnn hdbg
    refine test (PySem.W.Looks.here LM ?_)
    cases b with
    | false =>
      show wpAny (model X.prog X.w) X.A (handleBy (.ref a) X.env []) (SP X pins D) X.xe _
      refine wpAny_handleBy_nil ?_
      have fl3' := fl3
      obtain ⟨k1, k2, k3, oe, vs, T, oT, ts', he, hz, hd, h1, hr⟩ := fl3'
      refine wpAny_bind (wpAny_field he hd h1 ?_)
      rw [if_neg (by simp)]
      refine wpAny_bind ?_
      rw [hf]
      refine HandSPX.setFlight_upZ fl3 fun h4 hh4 up4 => wpAny_throw (tk (.ref a) _ ⟨a, B, sI, pins, σ', H', cls, d, rfl, J, nb, Heap.UpToSlots.trans (Heap.UpToSlots.trans up up3) up4, .inr (.inr (by rw [hs]; exact hh4)), na, os, ag, hno rfl⟩)
    | true =>
      show codeAny (model X.prog X.w) (X.A.mark (some (.ref a))) (Code.handlers (.ref a) [.ExceptHandler none (some n) (b₀ :: suite) pos'] X.env) _ _
      refine codeAny_handlers_suite_as (HandSPX.lands_againZ fl3 fun h4 fl4 up4 => ?_)
      have J4 : Inv X pins σ' H' { heap := h4, gens := s'.gens, drawn := s'.drawn, toks := s'.toks, os := s'.os } := Inv.landed J nb fl4.1 (Heap.UpToSlots.trans (Heap.UpToSlots.trans up up3) up4) os ag
      obtain ⟨oe4, vs4, he4, hz4, hd4⟩ := HandSPX.FlyingZ.there fl4
      have S4 := Inv.suite J4 he4 hd4 na nL nF
      refine store_ok (X := X.suite a ((a, oe4) :: (X.pn ++ pins))) (v := .ref a) S4 hN hi (Or.inl hln) rfl (fun s5 S5 => ?_) (Or.inr hln)
      have S5' := suite_track ok S5 hex new npn
      refine wpAny_mono ((hsu a (X.pn ++ pins)).run [] s5 (List.set σ' i (some (.ref a))) (upd H' a (XO a oe4)) { nx := fun σ' H' => D.nx (List.set σ' i none) H', rt := D.rt, bk := fun σ' H' => D.bk (List.set σ' i none) H', ct := fun σ' H' => D.ct (List.set σ' i none) H' } S5' (hyes rfl a oe4 na hz4 ⟨vs4, hd4⟩)) (fun f s6 hsp => ?_) fun _ _ z => z.elim
      cases f with
      | next => obtain ⟨σ6, H6, S6, q6⟩ := hsp; exact gone_ok (suite_off S6 ok) hN hi hln fun s7 J7 => ⟨_, H6, J7, q6⟩
      | brk => obtain ⟨σ6, H6, S6, q6⟩ := hsp; exact gone_ok (suite_off S6 ok) hN hi hln fun s7 J7 => ⟨_, H6, J7, q6⟩
      | cont => obtain ⟨σ6, H6, S6, q6⟩ := hsp; exact gone_ok (suite_off S6 ok) hN hi hln fun s7 J7 => ⟨_, H6, J7, q6⟩
      | ret u => obtain ⟨v6, σ6, H6, S6, r6, q6⟩ := hsp; exact gone_ok (suite_off S6 ok) hN hi hln fun s7 J7 => ⟨v6, _, H6, J7, r6, q6⟩
  · cases f with
    | next => obtain ⟨σ', H', J', q⟩ := hsp; exact wpAny_execs_nil ⟨σ', H', Inv.ofTry J' ok, q⟩
    | brk => obtain ⟨σ', H', J', q⟩ := hsp; exact ⟨σ', H', Inv.ofTry J' ok, q⟩
    | cont => obtain ⟨σ', H', J', q⟩ := hsp; exact ⟨σ', H', Inv.ofTry J' ok, q⟩
    | ret u => obtain ⟨v, σ', H', J', r, q⟩ := hsp; exact ⟨v, σ', H', Inv.ofTry J' ok, r, q⟩
end Gx

/-! Own layer Xb: defs called where something is handled (warm); calls that may raise. -/
namespace Gx
open PySem PySem.Spec PyProof.Rows L2 L2H
theorem _root_.L2H.RoomH.units {k : Nat} {A : Around} (h : RoomH k A) : A.units + 64 < cLine := by have := h.un; omega
theorem _root_.L2H.RoomH.units0 {k : Nat} {A : Around} (h : RoomH k A) : A.units < cLine := by have := h.un; omega
structure FnW (P : Program) (w : World) (K : PySem.W.Frag) (mg : Str → Option Value) (base : Heap) (CX : CXT) (k : Nat) (f : Addr) (fd : FuncData) (ps : List Str) (sp : Sp) : Prop where
  len : ∀ vs H Q E, sp vs H Q E → vs.length = ps.length
  run : ∀ (A : Around) (outer : List Env) (s : Shared) (H : Hp) (args : Args) (us : List Value) (vs : List V) (Q : VK) (E : XK), RoomH k A → Env0 P w K mg base A outer s H → BindsTo s fd args (ps.zip us) → Vals vs us → sp vs H Q E → codeAny (model P w) A (.call (.ref f) args) (CR CX outer P w H s Q E) s
structure DOkW (P : Program) (w : World) (K : PySem.W.Frag) (mg : Str → Option Value) (base : Heap) (d : He.DefD) (CX : CXT) (k : Nat) (ps : List Str) (sp : Sp) : Prop where
  ex : ∃ fd, FunD K d.name d.qual d.params d.body d.scope (d.dvs K) (d.kws K) (He.fAd K d.at_) fd ∧ FnW P w K mg base CX k (He.fAd K d.at_) fd ps sp
section
variable {X : Cx} {CX : CXT} {d : He.DefD} {k j : Nat} {ps : List Str} {sp : Sp} {x : Str} {p pos : Pos} {e : Expr} {es : List Expr} {t : TA}
end
end Gx

/-! Own layer Xc: calls of defs that may raise; what is wished for then may speak of the caller's slots. -/
namespace Gx
open PySem PySem.Spec PyProof.Rows L2
theorem passE0 {X : Cx} (σ : L2.St) : PassesAt (CX X.prog X.w) X σ E0 := fun pins H s e s' I h => by
  obtain ⟨a, B, H', cls, d, _, _, _, _, _, _, _, z⟩ := h
  exact z.elim
section
variable {X : Cx} {CXx : CXT} {d : He.DefD} {k j n : Nat} {f C : Addr} {fd : FuncData} {ps : List Str} {sp : Sp} {x : Str} {p pos apos : Pos} {e o : Expr} {es : List Expr} {t tk : TA} {ta : TE} {dv : List V} {E : L2.St → XK} {m : Str} {pl : Sem Bool} {kws : List Keyword} {ks : List Str} {gV : List V → List V → List V}
theorem run_argS {pins : List (Addr × Obj)} {σ : L2.St} {H : Hp} {s : Shared} {Q : VK} {args : Args} {us : List Value} {vs : List V} (F : FnOk X.prog X.w X.K X.mg X.base CXx k f fd ps sp) (hr : Room k X.A) (hx : PassesAt CXx X σ (E σ)) (I : Inv X pins σ H s) (hb : BindsTo s fd args (ps.zip us)) (r : Vals vs us) (h : sp vs H Q (E σ)) : wpAny (model X.prog X.w) X.A (call (.ref f) args.pos args.kw) (EP X pins σ Q) X.xe s := by
  refine wpAny_call (codeAny_mono (F.run X.A X.stack s H ⟨args.pos, args.kw⟩ us vs Q (E σ) hr I.env0 hb r h) fun r s' hq => ?_)
  cases r with
  | error e => exact hx pins H s e s' I hq
  | ok fl =>
    cases fl with
    | ret u => exact I.after hq
    | next => exact False.elim hq
    | brk => exact False.elim hq
    | cont => exact False.elim hq
theorem run_fnS {pins : List (Addr × Obj)} {σ : L2.St} {H : Hp} {s : Shared} {Q : VK} {ds us : List Value} {vs : List V} (F : FnOk X.prog X.w X.K X.mg X.base CXx k f fd ps sp) (hr : Room k X.A) (hb : Binds X.K fd ps ds) (hd : Vals dv ds) (hx : PassesAt CXx X σ (E σ)) (I : Inv X pins σ H s) (r : Vals vs us) (h : sp (vs ++ dv) H Q (E σ)) : wpAny (model X.prog X.w) X.A (call (.ref f) us) (EP X pins σ Q) X.xe s := by
  have r2 : Vals (vs ++ dv) (us ++ ds) := r.append hd
  have hl : (us ++ ds).length = ps.length := by rw [← r2.length]; exact F.len _ _ _ _ h
  exact run_argS (args := ⟨us, []⟩) F hr hx I (hb s us I.kIn hl) r2 h
theorem run_kwS {pins : List (Addr × Obj)} {σ : L2.St} {H : Hp} {s : Shared} {Q : VK} {g : List Value → List Value → List Value} {us ws : List Value} {vs zs : List V} (F : FnOk X.prog X.w X.K X.mg X.base CXx k f fd ps sp) (hr : Room k X.A) (hb : KBn X.K fd ps n ks g gV) (hx : PassesAt CXx X σ (E σ)) (I : Inv X pins σ H s) (r : Vals vs us) (rz : Vals zs ws) (l1 : vs.length = n) (l2 : zs.length = ks.length) (h : sp (gV vs zs) H Q (E σ)) : wpAny (model X.prog X.w) X.A (call (.ref f) us (ks.zip ws)) (EP X pins σ Q) X.xe s :=
  run_argS (args := ⟨us, ks.zip ws⟩) F hr hx I (hb.to s us ws I.kIn (by rw [← r.length]; exact l1) (by rw [← rz.length]; exact l2)) (hb.rel r rz) h
theorem run_mkS {pins : List (Addr × Obj)} {σ : L2.St} {H : Hp} {s : Shared} {Q : VK} {us : List Value} {kw : List (Str × Value)} {full : Addr → List Value} {vs : Addr → List V} (M : Mk X.K C f) (F : FnOk X.prog X.w X.K X.mg X.base CXx k f fd ps sp) (hr : Room (k + 1) X.A) (hx : PassesAt CXx X σ (E σ)) (I : Inv X pins σ H s)
    (hb : ∀ (a : Addr) (s2 : Shared), X.K.In s2.heap → (vs a).length = ps.length → BindsTo s2 fd ⟨.ref a :: us, kw⟩ (ps.zip (full a))) (r : ∀ a, Vals (vs a) (full a))
    (h : ∀ x dx, H x = none → H dx = none → dx ≠ x → sp (vs x) (upd (upd H dx (.own x)) x (.ins C dx [])) (fun v H2 => v = .non ∧ Q (.ref x) H2) (E σ)) : wpAny (model X.prog X.w) X.A (call (.ref C) us kw) (EP X pins σ Q) X.xe s := by
  have hq := h (s.heap.objs.size + 1) s.heap.objs.size (HOk.fresh I.hok (Nat.le_succ _)) (HOk.fresh I.hok (Nat.le_refl _)) (Nat.ne_of_lt (Nat.lt_succ_self _))
  have I2 := Inv.made (C := C) I
  have hl := F.len _ _ _ _ hq
  refine wpAny_call (make_map (Inv.kIn I) M.makes M.init (beq_iff_eq.mp M.fn) (codeAny_mono (F.run (X.A.under (.builtin "type.__call__" ⟨.ref C :: us, kw⟩)) X.stack _ _ ⟨.ref (s.heap.objs.size + 1) :: us, kw⟩ (full (s.heap.objs.size + 1)) (vs (s.heap.objs.size + 1)) (fun v H2 => v = .non ∧ Q (.ref (s.heap.objs.size + 1)) H2) (E σ) (Room.make hr C us kw) (Env0.make (Inv.env0 I2) C us kw) (hb _ _ (Inv.kIn I2) hl) (r _) hq) fun r s' hq' => ?_))
  cases r with
  | error e => exact hx pins _ _ e s' I2 hq'
  | ok fl =>
    cases fl with
    | ret u =>
      obtain ⟨v, H', I3, rv, ev, q3⟩ := Inv.after I2 hq'
      subst ev
      exact ⟨rv, .ref (s.heap.objs.size + 1), H', I3, rfl, q3⟩
    | next => exact False.elim hq'
    | brk => exact False.elim hq'
    | cont => exact False.elim hq'
def tMethSD (C : Addr) (m : Str) (sp : Sp) (dv : List V) (E : L2.St → XK) (ta : TE) (t : TA) : TE := fun σ H Q => ta σ H fun x H1 => ∃ a dx fs, x = .ref a ∧ H1 a = some (.ins C dx fs) ∧ fs.lookup m = none ∧ t σ H1 fun vs H2 => sp (x :: (vs ++ dv)) H2 Q (E σ)
def tMethNS (C : Addr) (m : Str) (n mk : Nat) (sp : Sp) (gV : List V → List V → List V) (E : L2.St → XK) (ta : TE) (t tk : TA) : TE := fun σ H Q => ta σ H fun x H1 => ∃ a dx fs, x = .ref a ∧ H1 a = some (.ins C dx fs) ∧ fs.lookup m = none ∧ t σ H1 fun vs H2 => tk σ H2 fun zs H3 => vs.length + 1 = n ∧ zs.length = mk ∧ sp (gV (.ref a :: vs) zs) H3 Q (E σ)
def tMakeSD (C : Addr) (sp : Sp) (dv : List V) (E : L2.St → XK) (t : TA) : TE := fun σ H Q => t σ H fun vs H1 => ∀ x dx, H1 x = none → H1 dx = none → dx ≠ x → sp (.ref x :: (vs ++ dv)) (upd (upd H1 dx (.own x)) x (.ins C dx [])) (fun v H2 => v = .non ∧ Q (.ref x) H2) (E σ)
def tMakeNS (C : Addr) (n mk : Nat) (sp : Sp) (gV : List V → List V → List V) (E : L2.St → XK) (t tk : TA) : TE := fun σ H Q => t σ H fun vs H1 => tk σ H1 fun zs H2 => vs.length = n ∧ zs.length = mk ∧ ∀ x dx, H2 x = none → H2 dx = none → dx ≠ x → sp (gV (.ref x :: vs) zs) (upd (upd H2 dx (.own x)) x (.ins C dx [])) (fun v H3 => v = .non ∧ Q (.ref x) H3) (E σ)
/-! f(e, ..) -/
theorem pcS (D : DOk X.prog X.w X.K X.mg X.base d CXx k ps sp) (hx : ∀ σ, PassesAt CXx X σ (E σ)) (hm : X.mg x = some (.ref (He.fAd X.K d.at_))) (hb : BdN d ps) (hr : Room j X.A) (hj : k ≤ j) (ha : PA X (e :: es) t) (hg : Gl X x := by rfl)
    (hdb : (x == ("__debug__" : Str)) = false := by decide) (he : starEach (e :: es) X.env = (false, eval e X.env) :: starEach es X.env := by rfl) (hpl : (backTo pos (starEach es X.env)).any (·.1) = false := by rfl) :
    PE X (.Call (.Name x p) (e :: es) [] pos) (tCallSD sp [] E t) := by
  obtain ⟨fd, F, G⟩ := D.ex
  exact pe_callSD G (hr.mono hj) hg hm F.kp (FunD.bdN F hb) .nil hx ha hdb he hpl
/-! o.m(e, ..) -/
theorem pmDS (D : DOk X.prog X.w X.K X.mg X.base d CXx k ps sp) (hx : ∀ σ, PassesAt CXx X σ (E σ)) (c : Cls X.K C) (hm : Meth X.K C m (He.fAd X.K d.at_)) (hb : BdD X.K d ps dv) (hr : Room j X.A) (hj : k ≤ j) (he : PE X o ta) (ha : PA X (e :: es) t)
    (hst : starEach (e :: es) X.env = (false, eval e X.env) :: starEach es X.env := by rfl) (hpl : (backTo pos (starEach es X.env)).any (·.1) = false := by rfl)
    (ht : eval (.Call (.Attribute o m apos) (e :: es) [] pos) X.env = (do
      let ov ← eval o X.env
      standAt apos.atName
      let (f, first) ← holding [ov] (getMethod ov m pl)
      callWith pos f first (backTo pos (starEach (e :: es) X.env)) (backToKw pos (keywordEach [] X.env))) := by rfl) :
    PE X (.Call (.Attribute o m apos) (e :: es) [] pos) (tMethSD C m sp dv E ta t) := by
  obtain ⟨fd, F, G⟩ := D.ex
  obtain ⟨ds, hv, hbd⟩ := hb fd F
  refine ⟨fun pins s σ H Q I h => ?_⟩
  refine PySem.W.methodCall_KW (pl := pl) (thn (he.run pins s σ H _ I h) fun u s1 ⟨x, H1, I1, rx, a, dx, fs, ex, ea, l, q⟩ => ?_) ht
  subst ex
  obtain rfl : u = Value.ref a := rx
  refine getmeth_ok I1 ea c hm l (PySem.W.callWith_K (first := [.ref a]) (h₀ := X.base) I.ok.mod.kin hm.kp (thn (ha.run pos pins s1 σ H1 _ I1 q) fun us s2 ⟨vs, H2, I2, r, q2⟩ => ⟨I2.kIn, ?_⟩) hst hpl)
  exact run_fnS (us := .ref a :: us) (vs := .ref a :: vs) G (hr.mono hj) hbd hv (hx σ) I2 (.cons rfl r) q2
theorem bdD_of (h : BdN d ps) : BdD X.K d ps [] := fun fd F => ⟨[], .nil, FunD.bdN F h⟩
theorem pmS (D : DOk X.prog X.w X.K X.mg X.base d CXx k ps sp) (hx : ∀ σ, PassesAt CXx X σ (E σ)) (c : Cls X.K C) (hm : Meth X.K C m (He.fAd X.K d.at_)) (hb : BdN d ps) (hr : Room j X.A) (hj : k ≤ j) (he : PE X o ta) (ha : PA X (e :: es) t)
    (hst : starEach (e :: es) X.env = (false, eval e X.env) :: starEach es X.env := by rfl) (hpl : (backTo pos (starEach es X.env)).any (·.1) = false := by rfl)
    (ht : eval (.Call (.Attribute o m apos) (e :: es) [] pos) X.env = (do
      let ov ← eval o X.env
      standAt apos.atName
      let (f, first) ← holding [ov] (getMethod ov m pl)
      callWith pos f first (backTo pos (starEach (e :: es) X.env)) (backToKw pos (keywordEach [] X.env))) := by rfl) :
    PE X (.Call (.Attribute o m apos) (e :: es) [] pos) (tMethSD C m sp [] E ta t) := pmDS D hx c hm (bdD_of hb) hr hj he ha hst hpl ht
theorem pmK0S (D : DOk X.prog X.w X.K X.mg X.base d CXx k ps sp) (hx : ∀ σ, PassesAt CXx X σ (E σ)) (c : Cls X.K C) (hm : Meth X.K C m (He.fAd X.K d.at_)) (hb : BdK X.K d ps 1 ks gV) (hr : Room j X.A) (hj : k ≤ j) (he : PE X o ta) (hkw : PK X kws tk)
    (hall : (backToKw pos (keywordEach kws X.env)).all (·.1.isSome) = true := by rfl) (hks : (backToKw pos (keywordEach kws X.env)).filterMap (·.1) = ks := by rfl)
    (hpl : ((backTo pos (starEach [] X.env)).any (·.1) || (backToKw pos (keywordEach kws X.env)).any (·.1.isNone)) = false := by rfl)
    (ht : eval (.Call (.Attribute o m apos) [] kws pos) X.env = (do
      let ov ← eval o X.env
      standAt apos.atName
      let (f, first) ← holding [ov] (getMethod ov m pl)
      callWith pos f first (backTo pos (starEach [] X.env)) (backToKw pos (keywordEach kws X.env))) := by rfl) :
    PE X (.Call (.Attribute o m apos) [] kws pos) (tMethNS C m 1 ks.length sp gV E ta tNil tk) := by
  obtain ⟨fd, F, G⟩ := D.ex
  obtain ⟨g, hbd⟩ := hb fd F
  refine ⟨fun pins s σ H Q I h => ?_⟩
  refine PySem.W.methodCall_KW (pl := pl) (thn (he.run pins s σ H _ I h) fun u s1 ⟨x, H1, I1, rx, a, dx, fs, ex, ea, l, q⟩ => ?_) ht
  subst ex
  obtain rfl : u = Value.ref a := rx
  refine getmeth_ok I1 ea c hm l ?_
  refine PySem.W.callWith_KW0 (first := [.ref a]) (h₀ := X.base) I.ok.mod.kin hm.kp hall ?_ hpl
  refine thn (hkw.run pos pins s1 σ H1 _ I1 q) fun ws s2 ⟨zs, H2, I2, rz, l1, l2, q2⟩ => ⟨I2.kIn, ?_⟩
  rw [hks]
  exact run_kwS (us := [.ref a]) (vs := [.ref a]) G (hr.mono hj) hbd (hx σ) I2 (.cons rfl .nil) rz rfl l2 q2
/-! C(e, ..) -/
theorem pmkS (D : DOk X.prog X.w X.K X.mg X.base d CXx k ps sp) (hx : ∀ σ, PassesAt CXx X σ (E σ)) (M : Mk X.K C (He.fAd X.K d.at_)) (hm : X.mg x = some (.ref C)) (hb : BdD X.K d ps dv) (hr : Room j X.A) (hj : k + 1 ≤ j) (ha : PA X (e :: es) t) (hg : Gl X x := by rfl)
    (hdb : (x == ("__debug__" : Str)) = false := by decide) (he : starEach (e :: es) X.env = (false, eval e X.env) :: starEach es X.env := by rfl) (hpl : (backTo pos (starEach es X.env)).any (·.1) = false := by rfl) :
    PE X (.Call (.Name x p) (e :: es) [] pos) (tMakeSD C sp dv E t) := by
  obtain ⟨fd, F, G⟩ := D.ex
  obtain ⟨ds, hv, hbd⟩ := hb fd F
  refine ⟨fun pins s σ H Q I h => wpAny_Call_Name_kw (ld_glob I hg hm (PySem.W.callWith_K (h₀ := X.base) I.ok.mod.kin M.kp (thn (ha.run pos pins s σ H _ I h) fun us s1 ⟨vs, H1, I1, r, q⟩ => ⟨I1.kIn, ?_⟩) he hpl) hdb)⟩
  exact run_mkS (full := fun a => .ref a :: (us ++ ds)) (vs := fun a => .ref a :: (vs ++ dv)) M G (hr.mono hj) (hx σ) I1 (fun a s2 hk hl => hbd s2 (.ref a :: us) hk (by rw [← hl]; exact (Vals.length (.cons rfl (Vals.append r hv) : Vals (.ref a :: (vs ++ dv)) (.ref a :: (us ++ ds)))).symm)) (fun a => .cons rfl (Vals.append r hv)) q
theorem pmk0S (D : DOk X.prog X.w X.K X.mg X.base d CXx k ps sp) (hx : ∀ σ, PassesAt CXx X σ (E σ)) (M : Mk X.K C (He.fAd X.K d.at_)) (hm : X.mg x = some (.ref C)) (hb : BdD X.K d ps dv) (hr : Room j X.A) (hj : k + 1 ≤ j) (hg : Gl X x := by rfl)
    (hdb : (x == ("__debug__" : Str)) = false := by decide) : PE X (.Call (.Name x p) [] [] pos) (tMakeSD C sp dv E tNil) := by
  obtain ⟨fd, F, G⟩ := D.ex
  obtain ⟨ds, hv, hbd⟩ := hb fd F
  refine ⟨fun pins s σ H Q I h => wpAny_Call_Name_kw (ld_glob I hg hm (PySem.W.callWith_K0 I.kIn M.kp ?_) hdb)⟩
  exact run_mkS (us := []) (full := fun a => .ref a :: ds) (vs := fun a => .ref a :: dv) M G (hr.mono hj) (hx σ) I (fun a s2 hk hl => hbd s2 [.ref a] hk (by rw [← hl]; exact (Vals.length (.cons rfl hv : Vals (.ref a :: dv) (.ref a :: ds))).symm)) (fun a => .cons rfl hv) h
theorem pmkKS (D : DOk X.prog X.w X.K X.mg X.base d CXx k ps sp) (hx : ∀ σ, PassesAt CXx X σ (E σ)) (M : Mk X.K C (He.fAd X.K d.at_)) (hm : X.mg x = some (.ref C)) (hb : BdK X.K d ps (n + 1) ks gV) (hr : Room j X.A) (hj : k + 1 ≤ j) (ha : PA X (e :: es) t) (hkw : PK X kws tk) (hg : Gl X x := by rfl)
    (hall : (backToKw pos (keywordEach kws X.env)).all (·.1.isSome) = true := by rfl) (hks : (backToKw pos (keywordEach kws X.env)).filterMap (·.1) = ks := by rfl)
    (hdb : (x == ("__debug__" : Str)) = false := by decide) (he : starEach (e :: es) X.env = (false, eval e X.env) :: starEach es X.env := by rfl)
    (hpl : ((backTo pos (starEach (e :: es) X.env)).any (·.1) || (backToKw pos (keywordEach kws X.env)).any (·.1.isNone)) = false := by rfl) :
    PE X (.Call (.Name x p) (e :: es) kws pos) (tMakeNS C n ks.length sp gV E t tk) := by
  obtain ⟨fd, F, G⟩ := D.ex
  obtain ⟨g, hbd⟩ := hb fd F
  refine ⟨fun pins s σ H Q I h => wpAny_Call_Name_kw (ld_glob I hg hm (PySem.W.callWith_KW (h₀ := X.base) I.ok.mod.kin M.kp hall (thn (ha.run pos pins s σ H _ I h) fun us s1 ⟨vs, H1, I1, r, q⟩ => thn (hkw.run pos pins s1 σ H1 _ I1 q) fun ws s2 ⟨zs, H2, I2, rz, l1, l2, q2⟩ => ⟨I2.kIn, ?_⟩) hpl he) hdb)⟩
  rw [hks]
  exact run_mkS (us := us) (full := fun a => g (.ref a :: us) ws) (vs := fun a => gV (.ref a :: vs) zs) M G (hr.mono hj) (hx σ) I2 (fun a s2 hk hl => hbd.to s2 (.ref a :: us) ws hk (by rw [List.length_cons, ← r.length, l1]) (by rw [← rz.length]; exact l2)) (fun a => hbd.rel (.cons rfl r) rz) q2
end
end Gx

/-! Own layer Xd: isinstance and fields of a tracked exception; list.count, by values. -/
namespace Gx
open PySem PySem.Spec PyProof.Rows L2
structure XcC (K : PySem.W.Frag) (C : Addr) : Prop where
  e : ExcC K C
  cl : (PySem.W.clsIn K C).isSome = true
theorem xo_get {P : Program} {w : World} {H : Hp} {h : Heap} {a : Addr} {oe : Obj} (hok : HOk P w H h) (e : H a = some (XO a oe)) : h.get? a = some oe := by
  have q := hok a _ e
  unfold XO at q
  rw [ObjOk.eq_13] at q
  exact q.1
def XDct (H : Hp) (oe : Obj) : Prop := oe.dict = none ∨ ∃ dd fs, oe.dict = some dd ∧ H dd = some (.xd fs)
theorem xo_inst {P : Program} {w : World} {H : Hp} {h : Heap} {a C : Addr} {oe : Obj} (hok : HOk P w H h) (e : H a = some (XO a oe)) (hc : oe.cls = .ref C) (hd : ∃ w, oe.data = .fields w) (hx : XDct H oe) : ∃ od, PySem.W.InstAt h a oe C od := by
  have q := xo_get hok e
  obtain ⟨vs, hv⟩ := hd
  have no : PySem.W.notCls oe = true := by unfold PySem.W.notCls; rw [hv]
  rcases hx with hx | ⟨dd, fs, hx, hf⟩
  · exact ⟨none, q, hc, no, by rw [hx]; trivial⟩
  · obtain ⟨mA, hns, _⟩ := hok dd _ hf
    obtain ⟨od, ho, _⟩ := lookIn_ns hns
    exact ⟨some od, q, hc, no, by rw [hx]; exact ho⟩
def rIsX (K : PySem.W.Frag) (xs : List V) (H : Hp) (Q : VK) : Prop := ∃ (a C : Addr) (oe : Obj) (c : V) (u : Value) (b : Bool), xs = [.ref a, c] ∧ ClsV c u ∧ H a = some (XO a oe) ∧ oe.cls = .ref C ∧ (∃ w, oe.data = .fields w) ∧ XDct H oe ∧ XcC K C ∧ PySem.W.kitOne K (.ref C) u = some b ∧ Q (.bl b) H
theorem XcC.kit {K : PySem.W.Frag} {C x : Addr} {oe : Obj} {od : Option Obj} (c : XcC K C) : PySem.W.KitX K (.ref x) (.ref C) fun h => PySem.W.InstAt h x oe C od := PySem.W.kitx_exc c.cl c.e.hg c.e.hk c.e.hs c.e.ha c.e.hn c.e.ht c.e.hm
theorem call_isX {X : Cx} : CallR X (.builtin "isinstance") (rIsX X.K) := by
  intro pins s σ H xs us Q I r h
  obtain ⟨a, C, oe, c, u, b, rfl, hc, ha, h1, h2, h3, h4, h5, q⟩ := h
  obtain ⟨u1, u2, rfl, r1, r2⟩ := vals2 r
  cases r1
  have e2 := ClsV.eq hc r2
  subst e2
  obtain ⟨od, J⟩ := xo_inst I.hok ha h1 h2 h3
  exact PySem.W.kia_one (XcC.kit h4) I.kIn J h5 (fun z => nomatch z) fun tk => ⟨.bl b, H, I.tok tk, rfl, q⟩
def rIsXT (K : PySem.W.Frag) (xs : List V) (H : Hp) (Q : VK) : Prop := ∃ (a C tp : Addr) (oe : Obj) (cs : List V) (us : List Value) (b : Bool), xs = [.ref a, .ref tp] ∧ H tp = some (.tup cs) ∧ Paired ClsV cs us ∧ H a = some (XO a oe) ∧ oe.cls = .ref C ∧ (∃ w, oe.data = .fields w) ∧ XDct H oe ∧ XcC K C ∧ PySem.W.kitAny K (.ref C) us = some b ∧ Q (.bl b) H
theorem clsV_all {cs : List V} {us ws : List Value} (h : Paired ClsV cs us) (r : Vals cs ws) : ws = us := by
  induction h generalizing ws with
  | nil => cases r; rfl
  | cons a _ ih =>
    cases r with
    | cons r1 r2 => rw [ClsV.eq a r1, ih r2]
theorem call_isXT {X : Cx} : CallR X (.builtin "isinstance") (rIsXT X.K) := by
  intro pins s σ H xs us Q I r h
  obtain ⟨a, C, tp, oe, cs, ws, b, rfl, ht, hp, ha, h1, h2, h3, h4, h5, q⟩ := h
  obtain ⟨u1, u2, rfl, r1, r2⟩ := vals2 r
  cases r1
  cases r2
  obtain ⟨od, J⟩ := xo_inst I.hok ha h1 h2 h3
  obtain ⟨_, its, hv, ot, ho, hoc, n, hod⟩ := I.hok tp _ ht
  obtain ⟨cls, dd, data, sl⟩ := ot
  cases hoc
  cases hod
  have e := clsV_all hp hv
  subst e
  exact PySem.W.kia_tup (XcC.kit h4) I.kIn J ho h5 (fun z => nomatch z) fun tk => ⟨.bl b, H, I.tok tk, rfl, q⟩
/-! ### list.count -/
def rCntV (K : PySem.W.Frag) (x : V) (xs : List V) (H : Hp) (Q : VK) : Prop := ∃ (a : Addr) (ys : List V) (y : V), x = .ref a ∧ xs = [y] ∧ SqL K H a ys ∧ flatV y = true ∧ ys.all flatV = true ∧ Q (.int ((ys.countP fun z => eqV z y : Nat) : Int)) H
theorem cntU {y : V} : ∀ {ys : List V} {us : List Value}, Vals ys us → ys.all flatV = true → us.countP (eqU y) = ys.countP fun z => eqV z y
  | [], us, r, _ => by cases r; rfl
  | z :: ys, us, r, h => by
    cases r with
    | cons r1 r2 =>
      obtain ⟨h1, h2⟩ := Bool.and_eq_true_iff.mp (show (flatV z && ys.all flatV) = true from h)
      rw [List.countP_cons, List.countP_cons, cntU r2 h2, eqU_of r1 h1]
theorem mt_cntV {X : Cx} : MtR X "list.count" (rCntV X.K) := by
  intro pins s σ H x xs v us Q I rx rxs h
  obtain ⟨p, ys, y, rfl, rfl, hs, fy, fys, q⟩ := h
  cases rx
  obtain ⟨u, rfl, ru⟩ := Vals.one rxs
  obtain ⟨its, rv, ⟨w, n, ho, hc, hdn, hd⟩, hlen⟩ := Inv.list I hs
  obtain ⟨cls, dd, data, sl⟩ := w
  cases hc
  cases hdn
  cases hd
  refine call_meets F.slot_list_count ⟨_, ho, rfl⟩ F.entry_list_count (F.args_list_count_2 (.ref p) u) (SeqAt.list_countAt p its.toArray n none sl u (eqU y)) ⟨ho, fun z hz => mem_eqAt ru fy rv fys z (by simpa using hz), ?_⟩
  refine ⟨.int ((ys.countP fun z => eqV z y : Nat) : Int), H, I.tok (s.toks + 1), ⟨s.toks, ?_⟩, q⟩
  rw [show its.toArray.toList = its from rfl, cntU rv fys]
end Gx

/-! Own layer Xe: the simulation of calls that may raise, raise, try, isinstance of exceptions. -/
namespace Qx
open PySem PySem.Spec PyProof.Rows L2 Gx
def noXM {α : Type} (m : List PV → Sto → PR α) : List PV → Sto → PR α := fun ps O => noX (m ps O)
theorem RepX.mono {K : PySem.W.Frag} {ι ι' : List Addr} {G G' : Hp} {e : PExc} {c : Value} {d : Option Addr} (hp : Pre ι ι') (s : Same G G') (h : RepX K ι G e c d) : RepX K ι' G' e c d :=
  ⟨h.1, let ⟨xs, h1, h2, h3⟩ := h.2; ⟨xs, h1.mono s, h2, h3.mono hp s⟩⟩
theorem Post.ofNone {α β : Type} {K : PySem.W.Frag} {R : List (Addr × HO)} {E : Option XK} {rp : List Addr → Hp → α → β → Prop} {ι : List Addr} {O : Sto} {H : Hp} {Q : β → Hp → Prop} {r : PR α} (h : Post K R none rp ι O H Q r) : Post K R E rp ι O H Q r := by
  cases r with
  | ok a O' => exact h
  | exc e O' => obtain ⟨_, z, _⟩ := h; cases z
  | bad => exact h
section
variable {K : PySem.W.Frag} {E : XM} {e : L2.St → XK} {ta : TE} {fa : EF} {tA tZ : TA} {fA fZ : AF} {C m : Str} {mf : MF} {dps : List PV} {dvs : List V} {n k : Nat} {gP : List PV → List PV → List PV} {gV : List V → List V → List V}
theorem spM_T {m : MF} {vs : List V} {H : Hp} {Q : VK} {E : XK} {R : List (Addr × HO)} {ι : List Addr} {O : Sto} {ps : List PV} (S : Sim K R ι O H) (r : RepL K ι (fz R ι O H) ps vs) (h : Post K R (some E) (Rep K) ι O H Q (m ps O)) : spM K true m vs H Q E := ⟨R, ι, O, ps, S, r, h⟩
theorem spM_F {m : MF} {vs : List V} {H : Hp} {Q : VK} {E : XK} {E' : Option XK} {R : List (Addr × HO)} {ι : List Addr} {O : Sto} {ps : List PV} (S : Sim K R ι O H) (r : RepL K ι (fz R ι O H) ps vs) (h : Post K R E' (Rep K) ι O H Q (noX (m ps O))) : spM K false m vs H Q E := ⟨R, ι, O, ps, S, r, Post.noX h⟩
/-! defs that do not raise, wherever they are called -/
theorem sim_callN (hA : SimA K E tA fA) (hd : ∀ ι G, RepL K ι G dps dvs) : SimE K E (tCall (spM K false mf) dvs E0 tA) (eCall (noXM mf) dps fA) := fun R ι O H σ s Q S L h =>
  hA R ι O H σ s _ S L (h.bind fun ps O1 xs ι1 H1 S1 X1 r1 h1 => spM_F S1 (r1.app (hd _ _)) h1)
/-! calls that may raise -/
theorem sim_callS (hA : SimA K (some e) tA fA) (hd : ∀ ι G, RepL K ι G dps dvs) : SimE K (some e) (tCallSD (spM K true mf) dvs e tA) (eCall mf dps fA) := fun R ι O H σ s Q S L h =>
  hA R ι O H σ s _ S L (h.bind fun ps O1 xs ι1 H1 S1 X1 r1 h1 => spM_T S1 (r1.app (hd _ _)) h1)
/-! methods -/
theorem meth_core {E : XM} {P : V → List V → Hp → VK → Prop} {sp : PV → List PV → Sto → PR PV} {m : Str} (ha : SimE K E ta fa) (hA : SimA K E tA fA)
    (hp : ∀ R ι O H σ p ps x xs Q, Sim K R ι O H → Rep K ι (fz R ι O H) p x → RepL K ι (fz R ι O H) ps xs → Post K R (xat E σ) (Rep K) ι O H Q (sp p ps O) → P x xs H Q) (R : List (Addr × HO)) (ι : List Addr) (O : Sto) (H : Hp) (σ : L2.St) (s : Slots) (Q : VK) (S : Sim K R ι O H) (L : SlR K ι (fz R ι O H) σ s)
    (h : Post K R (xat E σ) (Rep K) ι O H Q ((fa s O).bind fun p O1 => match insOf O1 p with
      | some (C', ns, qs) => if C' = C ∧ ((ns.zip qs).lookup m).isNone = true then (fA s O1).bind fun ps O2 => sp p ps O2 else .bad
      | none => .bad)) : ta σ H fun x H1 => ∃ a dx fs, x = .ref a ∧ H1 a = some (.ins (He.ga K C) dx fs) ∧ fs.lookup m = none ∧ tA σ H1 fun vs H2 => P x vs H2 Q :=
  ha R ι O H σ s _ S L (h.bind fun p O1 x ι1 H1 S1 X1 r1 h1 => by
    cases q : insOf O1 p with
    | none => simp [q] at h1; exact h1.elim
    | some w =>
      obtain ⟨C', ns, ps⟩ := w
      simp only [q] at h1
      split at h1
      · rename_i c
        obtain ⟨a, dx, xs, h2, h3, h4, h5⟩ := ins_read S1 r1 q
        have hn : (ns.zip ps).lookup m = none := Option.isNone_iff_eq_none.mp c.2
        exact ⟨a, dx, _, h2, by rw [h3, c.1], (zip_lookup h5).2 hn, hA R ι1 O1 H1 σ s _ S1 (L.ext X1) (h1.bind fun qs O2 vs ι2 H2 S2 X2 r2 h6 => hp R ι2 O2 H2 σ p qs x vs Q S2 (X2.rep r1) r2 h6)⟩
      · exact h1.elim)
theorem sim_methX (ha : SimE K none ta fa) (hA : SimA K none tA fA) (hd : ∀ ι G, RepL K ι G dps dvs) : SimE K none (tMethSD (He.ga K C) m (spM K true mf) dvs (fun _ => E0) ta tA) (eMeth C m mf dps fa fA) := fun R ι O H σ s Q S L h =>
  meth_core (P := fun x vs H2 Q => spM K true mf (x :: (vs ++ dvs)) H2 Q E0) (sp := fun p ps O => mf (p :: (ps ++ dps)) O) ha hA (fun R ι O H σ p ps x xs Q S r1 r2 h => spM_T S (.consR r1 (r2.app (hd _ _))) (Post.ofNone h)) R ι O H σ s Q S L h
theorem sim_methS (ha : SimE K (some e) ta fa) (hA : SimA K (some e) tA fA) (hd : ∀ ι G, RepL K ι G dps dvs) : SimE K (some e) (tMethSD (He.ga K C) m (spM K true mf) dvs e ta tA) (eMeth C m mf dps fa fA) := fun R ι O H σ s Q S L h =>
  ha R ι O H σ s _ S L (h.bind fun p O1 x ι1 H1 S1 X1 r1 h1 => by
    cases q : insOf O1 p with
    | none => simp [q] at h1; exact h1.elim
    | some w =>
      obtain ⟨C', ns, ps⟩ := w
      simp only [q] at h1
      split at h1
      · rename_i c
        obtain ⟨a, dx, xs, h2, h3, h4, h5⟩ := ins_read S1 r1 q
        have hn : (ns.zip ps).lookup m = none := Option.isNone_iff_eq_none.mp c.2
        exact ⟨a, dx, _, h2, by rw [h3, c.1], (zip_lookup h5).2 hn, hA R ι1 O1 H1 σ s _ S1 (L.ext X1) (h1.bind fun qs O2 vs ι2 H2 S2 X2 r2 h6 => spM_T S2 (.consR (X2.rep r1) (r2.app (hd _ _))) h6)⟩
      · exact h1.elim)
theorem methK_core {E : XM} {P : V → List V → List V → Hp → L2.St → VK → Prop} {sp : PV → List PV → List PV → Sto → PR PV} {m : Str} {n k : Nat} (ha : SimE K E ta fa) (hA : SimA K E tA fA) (hZ : SimA K E tZ fZ)
    (hp : ∀ R ι O H σ p ps zs x xs ws Q, Sim K R ι O H → Rep K ι (fz R ι O H) p x → RepL K ι (fz R ι O H) ps xs → RepL K ι (fz R ι O H) zs ws → Post K R (xat E σ) (Rep K) ι O H Q (sp p ps zs O) → P x xs ws H σ Q) (R : List (Addr × HO)) (ι : List Addr) (O : Sto) (H : Hp) (σ : L2.St) (s : Slots) (Q : VK) (S : Sim K R ι O H) (L : SlR K ι (fz R ι O H) σ s)
    (h : Post K R (xat E σ) (Rep K) ι O H Q ((fa s O).bind fun p O1 => match insOf O1 p with
      | some (C', ns, qs) => if C' = C ∧ ((ns.zip qs).lookup m).isNone = true then (fA s O1).bind fun ps O2 => (fZ s O2).bind fun zs O3 => if ps.length + 1 = n ∧ zs.length = k then sp p ps zs O3 else .bad else .bad
      | none => .bad)) : ta σ H fun x H1 => ∃ a dx fs, x = .ref a ∧ H1 a = some (.ins (He.ga K C) dx fs) ∧ fs.lookup m = none ∧ tA σ H1 fun vs H2 => tZ σ H2 fun zs H3 => vs.length + 1 = n ∧ zs.length = k ∧ P (.ref a) vs zs H3 σ Q :=
  ha R ι O H σ s _ S L (h.bind fun p O1 x ι1 H1 S1 X1 r1 h1 => by
    cases q : insOf O1 p with
    | none => simp [q] at h1; exact h1.elim
    | some w =>
      obtain ⟨C', ns, ps⟩ := w
      simp only [q] at h1
      split at h1
      · rename_i c
        obtain ⟨a, dx, xs, h2, h3, h4, h5⟩ := ins_read S1 r1 q
        have hn : (ns.zip ps).lookup m = none := Option.isNone_iff_eq_none.mp c.2
        subst h2
        refine ⟨a, dx, _, rfl, by rw [h3, c.1], (zip_lookup h5).2 hn, hA R ι1 O1 H1 σ s _ S1 (L.ext X1) (h1.bind fun qs O2 vs ι2 H2 S2 X2 r2 h6 => hZ R ι2 O2 H2 σ s _ S2 (L.ext (X1.trans X2)) (h6.bind fun zs O3 ws ι3 H3 S3 X3 r3 h7 => ?_))⟩
        split at h7
        · rename_i cc
          exact ⟨by rw [r2.len]; exact cc.1, by rw [r3.len]; exact cc.2, hp R ι3 O3 H3 σ p qs zs _ vs ws Q S3 ((X2.trans X3).rep r1) (X3.repL r2) r3 h7⟩
        · exact h7.elim
      · exact h1.elim)
theorem sim_methKX (ha : SimE K none ta fa) (hA : SimA K none tA fA) (hZ : SimA K none tZ fZ) (hg : ∀ ι G ps vs zs ws, RepL K ι G ps vs → RepL K ι G zs ws → RepL K ι G (gP ps zs) (gV vs ws)) : SimE K none (tMethNS (He.ga K C) m n k (spM K true mf) gV (fun _ => E0) ta tA tZ) (eMethK C m mf n k gP fa fA fZ) := fun R ι O H σ s Q S L h =>
  methK_core (P := fun x vs zs H2 _ Q => spM K true mf (gV (x :: vs) zs) H2 Q E0) (sp := fun p ps zs O => mf (gP (p :: ps) zs) O) ha hA hZ (fun R ι O H σ p ps zs x xs ws Q S r1 r2 r3 h => spM_T S (hg _ _ _ _ _ _ (.consR r1 r2) r3) (Post.ofNone h)) R ι O H σ s Q S L h
end
/-! ### a def that may raise -/
theorem spM_runX {K : PySem.W.Frag} {n : Nat} {N : List Str} {body : SF} {vs : List V} {H : Hp} {Q : VK} {E : XK} {t : TS} (hs : SimS K (some fun _ => E) t body) (h : spM K true (mkDef n N.length body) vs H Q E) : t { nx := fun _ H => Q .non H, rt := Q } (L2.start N vs) H := by
  have hl := spM_len h
  obtain ⟨R, ι, O, ps, S, r, h⟩ := h
  have h : Post K R (some E) (Rep K) ι O H Q (mkDef n N.length body ps O) := h
  unfold mkDef at h
  have hp : ps.length = n := by rw [← r.len]; exact hl
  rw [if_pos hp] at h
  have e : L2.start N vs = vs.map some ++ List.replicate (N.length - n) none := by unfold L2.start; rw [hl]
  rw [e]
  refine hs R ι O H _ (ps.map some ++ List.replicate (N.length - n) none) _ S (SlR.start r _) ?_
  cases q : body (ps.map some ++ List.replicate (N.length - n) none) O with
  | next s O' => rw [q] at h; exact fun σ' ι' H' S' X' L' => h .non ι' H' S' X' rfl
  | ret p O' => rw [q] at h; exact h
  | exc e s O' =>
    rw [q] at h
    obtain ⟨E', e1, h⟩ := h
    cases e1
    exact ⟨_, rfl, fun σ' c d ι' H' S' X' L' rx => h c d ι' H' S' X' rx⟩
  | _ => rw [q] at h; exact h.elim
/-! ### raise, try -/
abbrev we (W : WX) : L2.St → XK := fun σ c d H => W c d σ H
def sRaiseP (C : Str) : SF := fun s O => .exc ⟨.cls C, [], []⟩ s O
theorem sim_raiseP {K : PySem.W.Frag} {C : Str} {W : WX} : SimS K (some (we W)) (fun _ σ H => (fun (_ : L2.St) (H : Hp) (Q : XK) => Q (.ref (He.ga K C)) none H) σ H fun cls d H' => W cls d σ H') (sRaiseP C) := fun R ι O H σ s D S L h => by
  obtain ⟨E', e1, h⟩ := h
  cases e1
  exact h σ _ none ι H S .refl L ⟨rfl, [], .inl ⟨rfl, rfl⟩, rfl, rfl⟩
def SR.unset (i : Nat) : SR → SR
  | .next s O => .next (s.set i none) O
  | .brk s O => .brk (s.set i none) O
  | .cnt s O => .cnt (s.set i none) O
  | .ret p O => .ret p O
  | .exc _ _ _ => .bad
  | .bad => .bad
def sTryAs (i : Nat) (cm : Str → Option Bool) (fb fs : SF) : SF := fun s O => match fb s O with
  | .exc ⟨.cls C, ns, ps⟩ s1 O1 => match cm C with
    | some true => (fs (s1.set i (some (.xc C ns ps))) O1).unset i
    | some false => .exc ⟨.cls C, ns, ps⟩ s1 O1
    | none => .bad
  | .exc _ _ _ => .bad
  | r => r
def SR.noX : SR → SR
  | .exc _ _ _ => .bad
  | r => r
section
variable {K : PySem.W.Frag} {E : XM} {i : Nat} {cm : Str → Option Bool} {cV : Value} {fb fs : SF} {tb : WX → TS} {ts : TS} {Wout : WX}
theorem sim_tryAs (hE : ∀ e, E = some e → e = we Wout) (hcm : ∀ C b, cm C = some b → PySem.W.exmOne K (.ref (He.ga K C)) cV = some b) (hB : ∀ W, SimS K (some (we W)) (tb W) fb) (hS : SimS K none ts fs) : SimS K E (fun D σ H => tb (wAsT K cV i ts Wout D) D σ H) (sTryAs i cm fb fs) := by
  intro R ι O H σ s D S L h
  refine hB _ R ι O H σ s D S L ?_
  unfold sTryAs at h
  cases q : fb s O with
  | next s1 O1 => simp only [q] at h; exact h
  | ret p O1 => simp only [q] at h; exact h
  | brk s1 O1 => simp only [q] at h; exact h
  | cnt s1 O1 => simp only [q] at h; exact h
  | bad => simp only [q] at h; exact h
  | exc e s1 O1 =>
    obtain ⟨cls, ns, ps⟩ := e
    cases cls with
    | cls C =>
      simp only [q] at h
      cases hc : cm C with
      | none => simp only [hc] at h; exact h.elim
      | some b =>
        refine ⟨_, rfl, fun σ' c d ι' H' S' X' L' rx => ?_⟩
        obtain ⟨ec, xs, xd, ln, rl⟩ := rx
        have ec : c = .ref (He.ga K C) := ec
        refine ⟨b, by rw [ec]; exact hcm C b hc, fun eb a oe hn hz hd => ?_, fun eb => ?_⟩
        · subst eb
          simp only [hc] at h
          obtain ⟨S2, X2, e2⟩ := S'.newF hn (XO a oe)
          have rep : Rep K ι' (fz R ι' O1 (upd H' a (XO a oe))) (.xc C ns ps) (.ref a) := ⟨a, oe, xs, rfl, e2, hz.1.trans ec, hd, by rw [hz.2]; exact xd.mono X2.same, ln, X2.repL rl⟩
          refine hS R ι' O1 _ _ (s1.set i (some (.xc C ns ps))) _ S2 ((L'.ext X2).set i rep) ?_
          cases q2 : fs (s1.set i (some (.xc C ns ps))) O1 with
          | next s2 O2 => simp only [q2, SR.unset] at h; exact fun σ3 ι3 H3 S3 X3 L3 => h _ ι3 H3 S3 (X'.trans (X2.trans X3)) (L3.set0 i)
          | brk s2 O2 => simp only [q2, SR.unset] at h; exact fun σ3 ι3 H3 S3 X3 L3 => h _ ι3 H3 S3 (X'.trans (X2.trans X3)) (L3.set0 i)
          | cnt s2 O2 => simp only [q2, SR.unset] at h; exact fun σ3 ι3 H3 S3 X3 L3 => h _ ι3 H3 S3 (X'.trans (X2.trans X3)) (L3.set0 i)
          | ret p O2 => simp only [q2, SR.unset] at h; exact fun v ι3 H3 S3 X3 r3 => h v ι3 H3 S3 (X'.trans (X2.trans X3)) r3
          | exc e s2 O2 => simp only [q2, SR.unset] at h; exact h.elim
          | bad => simp only [q2, SR.unset] at h; exact h.elim
        · subst eb
          simp only [hc] at h
          obtain ⟨E', e1, h⟩ := h
          have e2 := hE E' e1
          subst e2
          exact h σ' c d ι' H' S' X' L' ⟨ec, xs, xd, ln, rl⟩
    | _ => simp only [q] at h; exact h.elim
end
end Qx

/-! Own layer Xf: new instances whose __init__ may raise; isinstance of exceptions; list.count, list.index; {}. -/
namespace Qx
open PySem PySem.Spec PyProof.Rows L2 Gx
def spIX (K : PySem.W.Frag) (C : Str) (m : List PV → Sto → PR (List Str × List PV)) : Sp := fun vs H Q E => ∃ (x dx : Addr) (us : List V) (R : List (Addr × HO)) (ι : List Addr) (O : Sto) (ps : List PV), vs = .ref x :: us ∧ Sim K (hdI K C x dx [] [] :: R) ι O H ∧ RepL K ι (fz (hdI K C x dx [] [] :: R) ι O H) ps us ∧
  match m ps O with
  | .ok (ns, qs) O' => ∀ ι' H' xs, Sim K (hdI K C x dx ns xs :: R) ι' O' H' → Pre ι ι' → Same (fz (hdI K C x dx [] [] :: R) ι O H) (fz (hdI K C x dx ns xs :: R) ι' O' H') → ns.length = qs.length → RepL K ι' (fz (hdI K C x dx ns xs :: R) ι' O' H') qs xs → Q .non H'
  | .exc e O' => ∀ c d ι' H' ns xs, Sim K (hdI K C x dx ns xs :: R) ι' O' H' → Pre ι ι' → Same (fz (hdI K C x dx [] [] :: R) ι O H) (fz (hdI K C x dx ns xs :: R) ι' O' H') → RepX K ι' (fz (hdI K C x dx ns xs :: R) ι' O' H') e c d → E c d H'
  | .bad => False
def PostBX (K : PySem.W.Frag) (C : Str) (E : XK) (R : List (Addr × HO)) (x dx : Addr) (ι : List Addr) (O : Sto) (H : Hp) (ns : List Str) (xs : List V) (nx : L2.St → Hp → Prop) : BR → Prop
  | .next ns' ps' s' O' => ∀ σ' ι' H' xs', SimI K C R ι' O' H' x dx ns' ps' xs' σ' s' → ExtI K C R x dx ι O H ns xs ι' O' H' ns' xs' → nx σ' H'
  | .exc e O' => ∀ c d ι' H' ns' xs', Sim K (hdI K C x dx ns' xs' :: R) ι' O' H' → ExtI K C R x dx ι O H ns xs ι' O' H' ns' xs' → RepX K ι' (fz (hdI K C x dx ns' xs' :: R) ι' O' H') e c d → E c d H'
  | .bad => False
def SimBX (K : PySem.W.Frag) (C : Str) (E : XK) (t : TS) (g : BF) : Prop := ∀ R ι O H x dx ns ps xs σ s (D : Ends), SimI K C R ι O H x dx ns ps xs σ s → PostBX K C E R x dx ι O H ns xs D.nx (g ns ps s O) → t D σ H
section
variable {K : PySem.W.Frag} {C : Str} {E : XK} {ta : TE} {fa : EF} {tS uS : TS} {f g : BF}
theorem sbx_seq (ha : SimBX K C E tS f) (hb : SimBX K C E uS g) : SimBX K C E (tSeq tS uS) (bSeq f g) := fun R ι O H x dx ns ps xs σ s D I h => ha R ι O H x dx ns ps xs σ s _ I (by
  unfold bSeq at h
  cases e : f ns ps s O with
  | next ns' ps' s' O' =>
    rw [e] at h
    intro σ' ι' H' xs' I' X'
    refine hb R ι' O' H' x dx ns' ps' xs' σ' s' D I' ?_
    have h' : PostBX K C E R x dx ι O H ns xs D.nx (g ns' ps' s' O') := h
    cases e2 : g ns' ps' s' O' with
    | next ns2 ps2 s2 O2 => rw [e2] at h'; exact fun σ2 ι2 H2 xs2 I2 X2 => h' σ2 ι2 H2 xs2 I2 (X'.trans X2)
    | exc e O2 => rw [e2] at h'; exact fun c d ι2 H2 ns2 xs2 S2 X2 r2 => h' c d ι2 H2 ns2 xs2 S2 (X'.trans X2) r2
    | bad => rw [e2] at h'; exact h'.elim
  | exc e O2 => rw [e] at h; exact h
  | bad => rw [e] at h; exact h.elim)
theorem sbx_exp (ha : SimE K (some fun _ => E) ta fa) : SimBX K C E (tDrop ta) (bExp fa) := fun R ι O H x dx ns ps xs σ s D I h => ha _ ι O H σ s _ I.S I.L (by
  unfold bExp at h
  cases e : fa s O with
  | ok p O1 =>
    rw [e] at h
    exact fun v ι' H' S' X' r' => h σ ι' H' xs ⟨S', I.ln, X'.repL I.r, I.s0, I.n0, I.L.ext X'⟩ ⟨X'.pre, X'.same⟩
  | exc x O1 =>
    rw [e] at h
    exact ⟨E, rfl, fun c d ι' H' S' X' rx => h c d ι' H' ns xs S' ⟨X'.pre, X'.same⟩ rx⟩
  | bad => rw [e] at h; exact h.elim)
theorem sbx_fld {f : Str} (c : Cls K (He.ga K C)) (no : NoAttr K (He.ga K C) f) (ha : SimE K (some fun _ => E) ta fa) : SimBX K C E (sFld K (tVar 0) ta f) (bFld f fa) := fun R ι O H x dx ns ps xs σ s D I h => ha _ ι O H σ s _ I.S I.L (by
  unfold bFld at h
  cases e : fa s O with
  | ok p O1 =>
    rw [e] at h
    simp only at h
    split at h
    · exact h.elim
    · rename_i cc
      have c1 : f ∉ ns := fun z => cc (.inl z)
      have c2 : ns.length ≤ 900 := Nat.le_of_not_lt fun z => cc (.inr z)
      intro v ι' H' S' X' r'
      have hx := S'.hid _ List.mem_cons_self
      have hlen : ns.length = xs.length := by rw [I.r.len]; exact I.ln
      refine ⟨.ref x, I.s0, x, _, dx, _, rfl, hx, c, no, ?_, ?_⟩
      · rw [List.length_zip]; omega
      · obtain ⟨S2, e2⟩ := S'.hid_set (.ins (He.ga K C) dx ((ns ++ [f]).zip (xs ++ [v])))
        have e2 : fz (hdI K C x dx (ns ++ [f]) (xs ++ [v]) :: R) ι' O1 (upd H' x (.ins (He.ga K C) dx ((ns ++ [f]).zip (xs ++ [v])))) = fz (hdI K C x dx ns xs :: R) ι' O1 H' := e2
        rw [putF_new hlen c1]
        have er : RepL K ι' (fz (hdI K C x dx (ns ++ [f]) (xs ++ [v]) :: R) ι' O1 (upd H' x (.ins (He.ga K C) dx ((ns ++ [f]).zip (xs ++ [v]))))) (ps ++ [p]) (xs ++ [v]) := by
          have q := (X'.repL I.r).app (.one r')
          rw [← e2] at q
          exact q
        refine h σ ι' _ (xs ++ [v]) ⟨S2, by rw [List.length_append, List.length_append, I.ln]; rfl, er, I.s0, I.n0, ?_⟩ ⟨X'.pre, ?_⟩
        · have q := I.L.ext X'
          rw [← e2] at q
          exact q
        · have q := X'.same
          rw [← e2] at q
          exact q
  | exc x O1 =>
    rw [e] at h
    exact ⟨E, rfl, fun c d ι' H' S' X' rx => h c d ι' H' ns xs S' ⟨X'.pre, X'.same⟩ rx⟩
  | bad => rw [e] at h; exact h.elim)
theorem spIX_len {n N : Nat} {body : BF} {vs : List V} {H : Hp} {Q : VK} {E : XK} (h : spIX K C (mkInit n N body) vs H Q E) : vs.length = n + 1 := by
  obtain ⟨x, dx, us, R, ι, O, ps, e, S, r, h⟩ := h
  unfold mkInit at h
  by_cases c : ps.length = n
  · rw [e, List.length_cons, r.len, c]
  · rw [if_neg c] at h; exact h.elim
theorem spIX_run {n : Nat} {N : List Str} {body : BF} {vs : List V} {H : Hp} {Q : VK} {t : TS} (hs : SimBX K C E t body) (h : spIX K C (mkInit n N.length body) vs H Q E) : t { nx := fun _ H => Q .non H, rt := Q } (L2.start N vs) H := by
  have hl := spIX_len h
  obtain ⟨x, dx, us, R, ι, O, ps, e, S, r, h⟩ := h
  have hp : ps.length = n := by rw [e, List.length_cons, r.len] at hl; omega
  unfold mkInit at h
  rw [if_pos hp] at h
  have e2 : L2.start N vs = some (.ref x) :: (us.map some ++ List.replicate (N.length - (n + 1)) none) := by
    unfold L2.start
    rw [hl, e]
    rfl
  rw [e2]
  refine hs R ι O H x dx [] [] [] _ (none :: ps.map some ++ List.replicate (N.length - (n + 1)) none) _ ⟨S, rfl, rfl, rfl, fun p z => ?_, ?_⟩ ?_
  · simp at z
  · have L := SlR.start (K := K) r (N.length - (n + 1))
    refine ⟨by simp [r.len], fun i p e => ?_⟩
    cases i with
    | zero => simp at e
    | succ i =>
      rw [List.cons_append, List.getElem?_cons_succ] at e
      rw [List.getElem?_cons_succ]
      exact L.2 i p e
  · cases q : body [] [] (none :: ps.map some ++ List.replicate (N.length - (n + 1)) none) O with
    | next ns qs s O' =>
      rw [q] at h
      exact fun σ' ι' H' xs' I' X' => h ι' H' xs' I'.S X'.pre X'.same I'.ln I'.r
    | exc e O' =>
      rw [q] at h
      exact fun c d ι' H' ns' xs' S' X' rx => h c d ι' H' ns' xs' S' X'.pre X'.same rx
    | bad => rw [q] at h; exact h.elim
end
section
variable {K : PySem.W.Frag} {E : XM} {e : L2.St → XK} {C : Str} {tA tZ : TA} {fA fZ : AF} {m : List PV → Sto → PR (List Str × List PV)} {dps : List PV} {dvs : List V} {n k : Nat} {gP : List PV → List PV → List PV} {gV : List V → List V → List V} {mf : MF}
theorem mkX_core {R : List (Addr × HO)} {ι : List Addr} {O : Sto} {H : Hp} {ps : List PV} {us : List V} {Q : VK} {E : XK} {x dx : Addr} (S : Sim K R ι O H) (r : RepL K ι (fz R ι O H) ps us) (h : Post K R (some E) (Rep K) ι O H Q (mkIns C (m ps O))) (hx : H x = none) (hdx : H dx = none) (ne : dx ≠ x) :
    spIX K C m (.ref x :: us) (upd (upd H dx (.own x)) x (.ins (He.ga K C) dx [])) (fun v H2 => v = .non ∧ Q (.ref x) H2) E := by
  obtain ⟨S1, X1, _⟩ := S.newF hdx (.own x)
  obtain ⟨S2, e2⟩ := S1.hide_new (D := x) (by rw [upd_ne fun e => ne e.symm]; exact hx) (.ins (He.ga K C) dx [])
  have sm : Same (fz R ι O H) (fz (hdI K C x dx [] [] :: R) ι O (upd (upd H dx (.own x)) x (.ins (He.ga K C) dx []))) := by
    have q := X1.same
    rw [← e2] at q
    exact q
  refine ⟨x, dx, us, R, ι, O, ps, rfl, S2, r.mono .refl sm, ?_⟩
  cases e : m ps O with
  | bad => rw [e] at h; exact h.elim
  | exc e O' =>
    rw [e] at h
    obtain ⟨_, z, h⟩ := h
    cases z
    intro c d ι' H' ns xs S' pre sm' rx
    obtain ⟨S3, sm3, e3⟩ := S'.unhide
    exact h c d ι' H' S3 ⟨pre, same_trans sm (same_trans sm' sm3)⟩ (rx.mono .refl sm3)
  | ok w O' =>
    obtain ⟨ns, qs⟩ := w
    rw [e] at h
    intro ι' H' xs S' pre sm' ln r'
    obtain ⟨S3, sm3, e3⟩ := S'.unhide
    refine ⟨rfl, h (.ref x) ι' H' S3 ⟨pre, same_trans sm (same_trans sm' sm3)⟩ ⟨x, dx, xs, rfl, e3, ln, r'.mono .refl sm3⟩⟩
theorem sim_makeX (hA : SimA K none tA fA) (hd : ∀ ι G, RepL K ι G dps dvs) : SimE K none (tMakeSD (He.ga K C) (spIX K C m) dvs (fun _ => E0) tA) (eMake C m dps fA) := fun R ι O H σ s Q S L h =>
  hA R ι O H σ s _ S L (h.bind fun ps O1 xs ι1 H1 S1 X1 r1 h1 => fun x dx hx hdx ne => mkX_core S1 (r1.app (hd _ _)) h1.ofNone hx hdx ne)
theorem sim_makeKX (hA : SimA K none tA fA) (hZ : SimA K none tZ fZ) (hg : ∀ x ι G ps vs zs ws, RepL K ι G ps vs → RepL K ι G zs ws → ∃ us, gV (.ref x :: vs) ws = .ref x :: us ∧ RepL K ι G (gP ps zs) us) : SimE K none (tMakeNS (He.ga K C) n k (spIX K C m) gV (fun _ => E0) tA tZ) (eMakeK C m n k gP fA fZ) := fun R ι O H σ s Q S L h =>
  hA R ι O H σ s _ S L (h.bind fun ps O1 xs ι1 H1 S1 X1 r1 h1 => hZ R ι1 O1 H1 σ s _ S1 (L.ext X1) (h1.bind fun zs O2 ws ι2 H2 S2 X2 r2 h2 => by
    split at h2
    · rename_i c
      refine ⟨by rw [r1.len]; exact c.1, by rw [r2.len]; exact c.2, fun x dx hx hdx ne => ?_⟩
      obtain ⟨us, e, r3⟩ := hg x _ _ ps xs zs ws (X2.repL r1) r2
      rw [e]
      exact mkX_core S2 r3 h2.ofNone hx hdx ne
    · exact h2.elim))
/-! things that change -/
def eMakeOX (C : Str) (m : MF) (dps : List PV) (a : AF) : EF := fun s O => (a s O).bind fun ps O1 => (m (.loc O1.length :: (ps ++ dps)) (O1 ++ [some (.ins C [] [])])).bind fun r O2 => match r with
  | .non => .ok (.loc O1.length) O2
  | _ => .bad
theorem mkO_core {R : List (Addr × HO)} {ι1 : List Addr} {O1 : Sto} {H1 : Hp} {ps : List PV} {xs : List V} {Q : VK} {E : XK} {x dx : Addr} (S1 : Sim K R ι1 O1 H1) (r : RepL K ι1 (fz R ι1 O1 H1) ps xs) (h1 : Post K R (some E) (Rep K) ι1 O1 H1 Q ((mf (.loc O1.length :: ps) (O1 ++ [some (.ins C [] [])])).bind fun r O2 => match r with
    | .non => .ok (.loc O1.length) O2
    | _ => .bad)) (hx : H1 x = none) (hdx : H1 dx = none) (ne : dx ≠ x) :
    spM K true mf (.ref x :: xs) (upd (upd H1 dx (.own x)) x (.ins (He.ga K C) dx [])) (fun v H2 => v = .non ∧ Q (.ref x) H2) E := by
  obtain ⟨S2, X2, _⟩ := S1.newF hdx (.own x)
  obtain ⟨S3, X3⟩ := S2.newO (D := x) (p := .ins C [] []) (by rw [upd_ne fun e => ne e.symm]; exact hx) (o := .ins (He.ga K C) dx []) ⟨dx, [], rfl, rfl, rfl⟩
  have X := X2.trans X3
  refine ⟨R, _, _, .loc O1.length :: ps, S3, .consR (show Rep K _ _ (.loc O1.length) _ from ⟨x, rfl, new_at S1.len⟩) (X.repL r), ?_⟩
  refine Post.bind (E := some E) (Post.of X h1) fun r O2 v ι2 H2 S4 X4 r2 h2 => ?_
  cases r with
  | non => exact ⟨r2, h2.here S4 ⟨x, rfl, X4.pre _ _ (new_at S1.len)⟩⟩
  | _ => exact h2.elim
theorem sim_makeOX (hA : SimA K none tA fA) (hd : ∀ ι G, RepL K ι G dps dvs) : SimE K none (tMakeSD (He.ga K C) (spM K true mf) dvs (fun _ => E0) tA) (eMakeOX C mf dps fA) := fun R ι O H σ s Q S L h =>
  hA R ι O H σ s _ S L (h.bind fun ps O1 xs ι1 H1 S1 X1 r1 h1 => fun x dx hx hdx ne => mkO_core S1 (r1.app (hd _ _)) h1.ofNone hx hdx ne)
theorem sim_makeOS (hA : SimA K (some e) tA fA) (hd : ∀ ι G, RepL K ι G dps dvs) : SimE K (some e) (tMakeSD (He.ga K C) (spM K true mf) dvs e tA) (eMakeOX C mf dps fA) := fun R ι O H σ s Q S L h =>
  hA R ι O H σ s _ S L (h.bind fun ps O1 xs ι1 H1 S1 X1 r1 h1 => fun x dx hx hdx ne => mkO_core S1 (r1.app (hd _ _)) h1 hx hdx ne)
end
end Qx

/-! Own layer Xg: what the head tells of exception classes; isinstance; count, index; {}. -/
namespace Qx
open PySem PySem.Spec PyProof.Rows L2 Gx
def xnOf : PV → Option XN
  | .cls C => some (.own C)
  | .ty n => some (.blt n)
  | _ => none
structure XcF (K : PySem.W.Frag) (C : Str) : Prop where
  c : XcC K (He.ga K C)
  kp : PySem.W.keepIn K (.ref (He.ga K C)) = true
  ty : PySem.W.typeIn K (.ref (He.ga K C)) = some (.type "type")
theorem XcF.of {K : PySem.W.Frag} {C : Str} (h : xcOne K C = true) : XcF K C := by
  unfold xcOne at h
  obtain ⟨h1, h⟩ := Bool.and_eq_true_iff.mp h
  obtain ⟨h2, h⟩ := Bool.and_eq_true_iff.mp h
  obtain ⟨h3, h⟩ := Bool.and_eq_true_iff.mp h
  obtain ⟨h4, h⟩ := Bool.and_eq_true_iff.mp h
  obtain ⟨h5, h⟩ := Bool.and_eq_true_iff.mp h
  obtain ⟨h6, h⟩ := Bool.and_eq_true_iff.mp h
  obtain ⟨h7, h⟩ := Bool.and_eq_true_iff.mp h
  obtain ⟨h8, h⟩ := Bool.and_eq_true_iff.mp h
  obtain ⟨h9, h10⟩ := Bool.and_eq_true_iff.mp h
  refine ⟨⟨⟨He.eqO_ok h1, He.eqO_ok h2, of_decide_eq_true h3, h4, He.eqO_ok h5, He.eqO_ok h6, of_decide_eq_true h7, of_decide_eq_true h8⟩, ?_⟩, h9, of_decide_eq_true h10⟩
  unfold PySem.W.hasDictIn at h4
  cases q : PySem.W.clsIn K (He.ga K C) with
  | none => rw [q] at h4; cases h4
  | some _ => rfl
theorem XcF.raises {X : Cx} {C : Str} (h : XcF X.K C) : Raises X (.ref (He.ga X.K C)) := raises_own h.c.e.hs h.ty
structure XkK (K : PySem.W.Frag) (xt : List (Str × List XN)) (xa xm : List XN) : Prop where
  c : ∀ w ∈ xt, XcF K w.1
  kit : ∀ w ∈ xt, ∀ q ∈ xa, PySem.W.kitOne K (.ref (He.ga K w.1)) (xv K q) = some (decide (q ∈ w.2))
  exm : ∀ w ∈ xt, ∀ q ∈ xm, PySem.W.exmOne K (.ref (He.ga K w.1)) (xv K q) = some (decide (q ∈ w.2))
  non : ∀ q ∈ xa, PySem.W.kitOne K (.type "NoneType") (xv K q) = some false
theorem XkK.of {K : PySem.W.Frag} {xt : List (Str × List XN)} {xa xm : List XN} (h : xkAll K xt xa xm = true) : XkK K xt xa xm := by
  unfold xkAll at h
  obtain ⟨h1, h2⟩ := Bool.and_eq_true_iff.mp h
  have one : ∀ w ∈ xt, xkOne K xa xm w = true := fun w hw => List.all_eq_true.mp h1 w hw
  refine ⟨fun w hw => ?_, fun w hw q hq => ?_, fun w hw q hq => ?_, fun q hq => of_decide_eq_true (List.all_eq_true.mp h2 q hq)⟩
  · have o := one w hw
    unfold xkOne at o
    exact XcF.of (Bool.and_eq_true_iff.mp o).1
  · have o := one w hw
    unfold xkOne at o
    exact of_decide_eq_true (List.all_eq_true.mp (Bool.and_eq_true_iff.mp (Bool.and_eq_true_iff.mp o).2).1 q hq)
  · have o := one w hw
    unfold xkOne at o
    exact of_decide_eq_true (List.all_eq_true.mp (Bool.and_eq_true_iff.mp (Bool.and_eq_true_iff.mp o).2).2 q hq)
def cmX (xt : List (Str × List XN)) (q : XN) (C : Str) : Option Bool := (xt.lookup C).map fun l => decide (q ∈ l)
theorem lookup_mem {α : Type} {C : Str} {l : α} : ∀ {xt : List (Str × α)}, xt.lookup C = some l → (C, l) ∈ xt
  | [], h => by cases h
  | (D, m) :: xt, h => by
    rw [List.lookup_cons] at h
    by_cases c : C = D
    · subst c
      simp only [beq_self_eq_true] at h
      cases h
      exact List.mem_cons_self
    · have q : (C == D) = false := by simpa using c
      simp only [q] at h
      exact List.mem_cons_of_mem _ (lookup_mem h)
theorem XkK.cm {K : PySem.W.Frag} {xt : List (Str × List XN)} {xa xm : List XN} {q : XN} (k : XkK K xt xa xm) (hq : q ∈ xm) : ∀ C b, cmX xt q C = some b → PySem.W.exmOne K (.ref (He.ga K C)) (xv K q) = some b := fun C b h => by
  unfold cmX at h
  obtain ⟨l, h1, h2⟩ := Option.map_eq_some_iff.mp h
  rw [← h2]
  exact k.exm _ (lookup_mem h1) q hq
/-! isinstance -/
def rIsA (K : PySem.W.Frag) (xs : List V) (H : Hp) (Q : VK) : Prop := rIsi K xs H Q ∨ rIsX K xs H Q
theorem x_isa {X : Cx} {K : PySem.W.Frag} (hk : X.K = K) : CallR X (.builtin "isinstance") (rIsA K) := by
  subst hk
  intro pins s σ H xs us Q I r h
  rcases h with h | h
  · exact call_isi pins s σ H xs us Q I r h
  · exact call_isX pins s σ H xs us Q I r h
theorem xc_read {K : PySem.W.Frag} {R : List (Addr × HO)} {ι : List Addr} {O : Sto} {H : Hp} {C : Str} {ns : List Str} {ps : List PV} {x : V} (S : Sim K R ι O H) (r : Rep K ι (fz R ι O H) (.xc C ns ps) x) : ∃ a oe, x = .ref a ∧ H a = some (XO a oe) ∧ oe.cls = .ref (He.ga K C) ∧ (∃ w, oe.data = .fields w) ∧ XDct H oe := by
  obtain ⟨a, oe, xs, h1, h2, h3, h4, h5, _⟩ := r
  refine ⟨a, oe, h1, S.frozen _ _ h2, h3, h4, ?_⟩
  rcases h5 with ⟨h5, _⟩ | ⟨dd, h5, h6⟩
  · exact .inl h5
  · exact .inr ⟨dd, _, h5, S.frozen _ _ h6⟩
def isxP (xt : List (Str × List XN)) (xa : List XN) : List PV → Sto → PR PV := b2 fun p c O => match xnOf c with
  | some q => if xa.contains q = true then match p with
    | .xc C _ _ => match xt.lookup C with
      | some l => .ok (.bl (decide (q ∈ l))) O
      | none => .bad
    | .non => .ok (.bl false) O
    | _ => .bad else .bad
  | none => .bad
theorem cb_isx {K : PySem.W.Frag} {xt : List (Str × List XN)} {xa xm : List XN} (k : XkK K xt xa xm) : CbS K (rIsA K) (isxP xt xa) := cb_2 fun R ι O H p q x y E Q S r1 r2 h => by
  cases e : xnOf q with
  | none => simp [e] at h; exact h.elim
  | some n =>
    simp only [e] at h
    split at h
    · rename_i hc
      have hq := List.contains_iff_mem.mp hc
      have cl : ClsV y (xv K n) := by
        cases q <;> first | cases e | skip
        · rw [show y = .ty _ from r2]; exact .ty _
        · rw [show y = .ref _ from r2]; exact .own _
      cases p with
      | xc C ns ps =>
        simp only at h
        cases e2 : xt.lookup C with
        | none => simp [e2] at h; exact h.elim
        | some l =>
          simp only [e2] at h
          obtain ⟨a, oe, h1, h2, h3, h4, h5⟩ := xc_read S r1
          have m := lookup_mem e2
          exact .inr ⟨a, He.ga K C, oe, y, _, _, by rw [h1], cl, h2, h3, h4, h5, (k.c _ m).c, k.kit _ m n hq, h.here S rfl⟩
      | non =>
        have e3 : x = .non := r1
        exact .inl ⟨x, y, .type "NoneType", _, false, rfl, cl, by rw [e3]; exact .base .non, k.non n hq, h.here S rfl⟩
      | _ => exact h.elim
    · exact h.elim
/-! isinstance(x, (A, B, ..)) -/
theorem kitAny_cons {K : PySem.W.Frag} {t c : Value} {cs : List Value} : PySem.W.kitAny K t (c :: cs) = (match PySem.W.kitOne K t c with
  | some true => some true
  | some false => PySem.W.kitAny K t cs
  | none => none) := by
  rfl
end Qx

/-! Own layer Xh: isinstance with a tuple of classes; fields of exceptions; count, index; {}. -/
namespace Qx
open PySem PySem.Spec PyProof.Rows L2 Gx
def rIsAT (K : PySem.W.Frag) (xs : List V) (H : Hp) (Q : VK) : Prop := rIsiT K xs H Q ∨ rIsXT K xs H Q
theorem x_isaT {X : Cx} {K : PySem.W.Frag} (hk : X.K = K) : CallR X (.builtin "isinstance") (rIsAT K) := by
  subst hk
  intro pins s σ H xs us Q I r h
  rcases h with h | h
  · exact call_isiT pins s σ H xs us Q I r h
  · exact call_isXT pins s σ H xs us Q I r h
def eIsT (f : PV → List PV → Sto → PR PV) (fe : EF) (fA : AF) : EF := fun s O => (fe s O).bind fun p O1 => (fA s O1).bind fun ps O2 => if szOk ps.length = true then f p ps O2 else .bad
def IsTS (K : PySem.W.Frag) (f : PV → List PV → Sto → PR PV) : Prop := ∀ R ι O H p x ps us tp E Q, Sim K R ι O H → Rep K ι (fz R ι O H) p x → RepL K ι (fz R ι O H) ps us → H tp = some (.tup us) → Post K R E (Rep K) ι O H Q (f p ps O) → rIsAT K [x, .ref tp] H Q
theorem sim_isT {K : PySem.W.Frag} {E : XM} {f : PV → List PV → Sto → PR PV} {te : TE} {fe : EF} {tA : TA} {fA : AF} (hf : IsTS K f) (he : SimE K E te fe) (hA : SimA K E tA fA) : SimE K E (tCB (rIsAT K) (tCons te (tCons (tTup tA) tNil))) (eIsT f fe fA) := fun R ι O H σ s Q S L h =>
  he R ι O H σ s _ S L (h.bind fun p O1 x ι1 H1 S1 X1 r1 h1 => hA R ι1 O1 H1 σ s _ S1 (L.ext X1) (h1.bind fun ps O2 us ι2 H2 S2 X2 r2 h2 => by
    split at h2
    · rename_i c
      refine ⟨by rw [r2.len]; exact szOk_le c, fun tp hp => ?_⟩
      obtain ⟨S3, X3, e3⟩ := S2.newF hp (.tup us)
      exact hf R ι2 O2 _ p x ps us tp _ Q S3 (X3.rep (X2.rep r1)) (X3.repL r2) upd_same (Post.of X3 h2)
    · exact h2.elim))
def xnsOf : List PV → Option (List XN)
  | [] => some []
  | p :: ps => match xnOf p, xnsOf ps with
    | some q, some qs => some (q :: qs)
    | _, _ => none
theorem xn_cls {K : PySem.W.Frag} {ι : List Addr} {G : Hp} {p : PV} {v : V} {q : XN} (e : xnOf p = some q) (r : Rep K ι G p v) : ClsV v (xv K q) := by
  cases p <;> first | cases e | skip
  · rw [show v = .ty _ from r]; exact .ty _
  · rw [show v = .ref _ from r]; exact .own _
theorem xns_cls {K : PySem.W.Frag} {ι : List Addr} {G : Hp} : ∀ {ps : List PV} {vs : List V} {qs : List XN}, xnsOf ps = some qs → RepL K ι G ps vs → Paired ClsV vs (qs.map (xv K))
  | [], vs, qs, e, r => by cases e; rw [show vs = [] from r]; exact .nil
  | p :: ps, vs, qs, e, r => by
    obtain ⟨v, t, e1, r1, r2⟩ := r
    unfold xnsOf at e
    cases e2 : xnOf p with
    | none => simp [e2] at e
    | some q =>
      cases e3 : xnsOf ps with
      | none => simp [e2, e3] at e
      | some qs' =>
        simp only [e2, e3, Option.some.injEq] at e
        subst e
        subst e1
        exact .cons (xn_cls e2 r1) (xns_cls e3 r2)
theorem kitAny_of {K : PySem.W.Frag} {t : Value} {f : XN → Bool} : ∀ {qs : List XN}, (∀ q ∈ qs, PySem.W.kitOne K t (xv K q) = some (f q)) → PySem.W.kitAny K t (qs.map (xv K)) = some (qs.any f)
  | [], _ => rfl
  | q :: qs, h => by
    rw [List.map_cons, kitAny_cons, h q List.mem_cons_self, List.any_cons]
    cases f q with
    | true => rfl
    | false => exact kitAny_of fun q' hq => h q' (List.mem_cons_of_mem _ hq)
def isxTP (xt : List (Str × List XN)) (xa : List XN) (p : PV) (ps : List PV) (O : Sto) : PR PV := match xnsOf ps with
  | some qs => if (qs.all fun q => xa.contains q) = true then match p with
    | .xc C _ _ => match xt.lookup C with
      | some l => .ok (.bl (qs.any fun q => decide (q ∈ l))) O
      | none => .bad
    | .non => .ok (.bl false) O
    | _ => .bad else .bad
  | none => .bad
theorem it_isx {K : PySem.W.Frag} {xt : List (Str × List XN)} {xa xm : List XN} (k : XkK K xt xa xm) : IsTS K (isxTP xt xa) := by
  intro R ι O H p x ps us tp E Q S r1 r2 ht h
  unfold isxTP at h
  cases e : xnsOf ps with
  | none => simp [e] at h; exact h.elim
  | some qs =>
    simp only [e] at h
    split at h
    · rename_i hc
      have hq : ∀ q ∈ qs, q ∈ xa := fun q hq => List.contains_iff_mem.mp (List.all_eq_true.mp hc q hq)
      cases p with
      | xc C ns ps' =>
        simp only at h
        cases e2 : xt.lookup C with
        | none => simp [e2] at h; exact h.elim
        | some l =>
          simp only [e2] at h
          obtain ⟨a, oe, h1, h2, h3, h4, h5⟩ := xc_read S r1
          have m := lookup_mem e2
          exact .inr ⟨a, He.ga K C, tp, oe, us, _, _, by rw [h1], ht, xns_cls e r2, h2, h3, h4, h5, (k.c _ m).c, kitAny_of fun q hh => k.kit _ m q (hq q hh), h.here S rfl⟩
      | non =>
        have e3 : x = .non := r1
        refine .inl ⟨x, tp, us, .type "NoneType", _, false, rfl, ht, xns_cls e r2, by rw [e3]; exact .base .non, ?_, h.here S rfl⟩
        rw [kitAny_of (f := fun _ => false) fun q hh => k.non q (hq q hh)]
        congr 1
        simp
      | _ => exact h.elim
    · exact h.elim
def kitPs (cs : List Str) (t : Sum String Str) : List PV → Option Bool
  | [] => some false
  | c :: r => match kitP cs t c with
    | some true => some true
    | some false => kitPs cs t r
    | none => none
def isiTP (cs : List Str) (p : PV) (ps : List PV) (O : Sto) : PR PV := match tyOf O p with
  | some t => if ps.length ≠ 0 ∧ (ps.all fun c => (kitP cs t c).isSome) = true then match kitPs cs t ps with
    | some b => .ok (.bl b) O
    | none => .bad else .bad
  | none => .bad
theorem kits_read {K : PySem.W.Frag} {cs : List Str} (ck : ClsK K cs) {ι : List Addr} {G : Hp} {t : Sum String Str} : ∀ {ps : List PV} {vs : List V} {b : Bool}, (ps.all fun c => (kitP cs t c).isSome) = true → kitPs cs t ps = some b → RepL K ι G ps vs → ∃ us, Paired ClsV vs us ∧ PySem.W.kitAny K (tyV' K t) us = some b
  | [], vs, b, _, e, r => by cases e; rw [show vs = [] from r]; exact ⟨[], .nil, rfl⟩
  | c :: ps, vs, b, ha, e, r => by
    obtain ⟨v, w, e1, r1, r2⟩ := r
    subst e1
    obtain ⟨ha1, ha2⟩ := Bool.and_eq_true_iff.mp (show ((kitP cs t c).isSome && ps.all fun c => (kitP cs t c).isSome) = true from ha)
    unfold kitPs at e
    obtain ⟨k, e2⟩ := Option.isSome_iff_exists.mp ha1
    obtain ⟨_, u, h1, h2⟩ := kit_read ck e2 r1
    have rest : ∃ b' us, Paired ClsV w us ∧ kitPs cs t ps = some b' ∧ PySem.W.kitAny K (tyV' K t) us = some b' := by
      have : ∃ b', kitPs cs t ps = some b' := by
        clear e r2
        induction ps with
        | nil => exact ⟨false, rfl⟩
        | cons c' ps ih =>
          obtain ⟨g1, g2⟩ := Bool.and_eq_true_iff.mp (show ((kitP cs t c').isSome && ps.all fun c => (kitP cs t c).isSome) = true from ha2)
          obtain ⟨k', e3⟩ := Option.isSome_iff_exists.mp g1
          unfold kitPs
          rw [e3]
          cases k' with
          | true => exact ⟨true, rfl⟩
          | false => exact ih (by rw [List.all_cons, ha1, Bool.true_and]; exact g2) g2
      obtain ⟨b', e4⟩ := this
      obtain ⟨us, h3, h4⟩ := kits_read ck ha2 e4 r2
      exact ⟨b', us, h3, e4, h4⟩
    obtain ⟨b', us, h3, h4, h5⟩ := rest
    refine ⟨u :: us, .cons h1 h3, ?_⟩
    rw [kitAny_cons, h2]
    rw [e2] at e
    cases k with
    | true => exact e
    | false => simp only at e ⊢; rw [h5, ← h4]; exact e
theorem it_isi {K : PySem.W.Frag} {cs : List Str} (ck : ClsK K cs) : IsTS K (isiTP cs) := by
  intro R ι O H p x ps us tp E Q S r1 r2 ht h
  unfold isiTP at h
  cases e : tyOf O p with
  | none => simp [e] at h; exact h.elim
  | some t =>
    simp only [e] at h
    split at h
    · rename_i hc
      cases e2 : kitPs cs t ps with
      | none => simp [e2] at h; exact h.elim
      | some b =>
        simp only [e2] at h
        obtain ⟨vs, h1, h2⟩ := kits_read ck hc.2 e2 r2
        have tc : ∀ C, t = .inr C → C ∈ cs := fun C ec => by
          match ps, hc with
          | c :: r, hc =>
            obtain ⟨k, e3⟩ := Option.isSome_iff_exists.mp (Bool.and_eq_true_iff.mp (show ((kitP cs t c).isSome && r.all fun c => (kitP cs t c).isSome) = true from hc.2)).1
            obtain ⟨v, w, _, r3, _⟩ := r2
            exact (kit_read ck e3 r3).1 C ec
        exact .inl ⟨x, tp, us, _, _, b, rfl, ht, h1, ty_read ck S r1 e tc, h2, h.here S rfl⟩
    · exact h.elim
/-! ### list.count, list.index -/
theorem scV_flat {p : PV} {v : V} (e : scV p = some v) : flatV v = true := by
  cases p <;> first | (cases e; rfl) | cases e
theorem scVs_flat : ∀ {ps : List PV} {vs : List V}, scVs ps = some vs → vs.all flatV = true
  | [], vs, e => by cases e; rfl
  | p :: ps, vs, e => by
    unfold scVs at e
    cases e1 : scV p with
    | none => simp [e1] at e
    | some v =>
      cases e2 : scVs ps with
      | none => simp [e1, e2] at e
      | some ws =>
        simp only [e1, e2, Option.some.injEq] at e
        subst e
        rw [List.all_cons, scV_flat e1, scVs_flat e2]; rfl
def countP (p : PV) (qs : List PV) (O : Sto) : PR PV := match (lstOf O p).bind scVs, qs with
  | some vs, [q] => match scV q with
    | some v => .ok (.int ((vs.countP fun z => eqV z v : Nat) : Int)) O
    | none => .bad
  | _, _ => .bad
def indexP (p : PV) (qs : List PV) (O : Sto) : PR PV := match (lstOf O p).bind scVs, qs with
  | some vs, [q] => match scV q with
    | some v => match vs.findIdx? fun z => eqV z v with
      | some j => .ok (.int (j : Nat)) O
      | none => .bad
    | none => .bad
  | _, _ => .bad
theorem ml_count {K : PySem.W.Frag} : MtP K (rCntV K) countP := by
  intro R ι O H p qs x ys E Q S r1 r2 h
  unfold countP at h
  cases e : (lstOf O p).bind scVs with
  | none => simp [e] at h; exact h.elim
  | some vs =>
    match qs, h, r2 with
    | [q], h, ⟨y, t, e2, r3, e3⟩ =>
      cases e3
      subst e2
      simp only [e] at h
      cases e4 : scV q with
      | none => simp [e4] at h; exact h.elim
      | some v =>
        simp only [e4] at h
        obtain ⟨ps, e5, e6⟩ := Option.bind_eq_some_iff.mp e
        obtain ⟨a, xs, h1, h2, h3⟩ := lst_read S r1 e5
        have ex := scVs_rep e6 h3
        subst ex
        have ev := scV_rep e4 r3
        subst ev
        exact ⟨a, _, _, h1, rfl, h2, scV_flat e4, scVs_flat e6, h.here S rfl⟩
    | [], h, _ => simp [e] at h; exact h.elim
    | _ :: _ :: _, h, _ => simp [e] at h; exact h.elim
theorem ml_index {K : PySem.W.Frag} : MtP K (rIndex K) indexP := by
  intro R ι O H p qs x ys E Q S r1 r2 h
  unfold indexP at h
  cases e : (lstOf O p).bind scVs with
  | none => simp [e] at h; exact h.elim
  | some vs =>
    match qs, h, r2 with
    | [q], h, ⟨y, t, e2, r3, e3⟩ =>
      cases e3
      subst e2
      simp only [e] at h
      cases e4 : scV q with
      | none => simp [e4] at h; exact h.elim
      | some v =>
        simp only [e4] at h
        cases e7 : vs.findIdx? fun z => eqV z v with
        | none => simp [e7] at h; exact h.elim
        | some j =>
          simp only [e7] at h
          obtain ⟨ps, e5, e6⟩ := Option.bind_eq_some_iff.mp e
          obtain ⟨a, xs, h1, h2, h3⟩ := lst_read S r1 e5
          have ex := scVs_rep e6 h3
          subst ex
          have ev := scV_rep e4 r3
          subst ev
          obtain ⟨hl, hj, hm⟩ := List.findIdx?_eq_some_iff_getElem.mp e7
          refine ⟨a, _, _, j, _, h1, rfl, h2, scV_flat e4, scVs_flat e6, List.getElem?_eq_getElem hl, hj, fun m z' hmj hz => ?_, h.here S rfl⟩
          obtain ⟨hl', ez⟩ := List.getElem?_eq_some_iff.mp hz
          have q := hm m hmj
          rw [ez] at q
          simpa using q
    | [], h, _ => simp [e] at h; exact h.elim
    | _ :: _ :: _, h, _ => simp [e] at h; exact h.elim
/-! ### {} -/
def eDic0 : EF := fun _ O => .ok (.dic [] []) O
theorem sim_dic0 {K : PySem.W.Frag} {E : XM} : SimE K E tDNewK eDic0 := fun R ι O H σ s Q S L h p hp => by
  obtain ⟨S2, X2, e2⟩ := S.newF hp (.dK [])
  exact h.at S2 X2 ⟨p, [], rfl, e2, rfl, rfl⟩
/-! ### xs[i] of a list or a tuple -/
/-! ### xs * k -/
def repL (p q : PV) (O : Sto) : PR PV := match lstT O p, q with
  | some ps, .int k => if (decide (-(2 ^ 63) ≤ k ∧ k < 2 ^ 63) && szOk (ps.length * k.toNat)) = true then .ok (.lst (List.replicate k.toNat ps).flatten) O else .bad
  | _, _ => .bad
theorem RepL.rep {K : PySem.W.Frag} {ι : List Addr} {G : Hp} {ps : List PV} {xs : List V} (h : RepL K ι G ps xs) : ∀ k : Nat, RepL K ι G (List.replicate k ps).flatten (List.replicate k xs).flatten
  | 0 => rfl
  | k + 1 => by
    rw [List.replicate_succ, List.replicate_succ, List.flatten_cons, List.flatten_cons]
    exact h.app (RepL.rep h k)
/-! ### e.f of an exception -/
structure XfK (K : PySem.W.Frag) (xf : List (Str × Str)) : Prop where
  c : ∀ w ∈ xf, XcF K w.1
  no : ∀ w ∈ xf, PySem.W.findIn K (.ref (He.ga K w.1)) w.2 = some none
end Qx

/-! Own: t[::-1] of a tuple; t[i:j] that is all of t. -/
namespace Zy
open PySem PySem.Spec PyProof.Rows L2 HT
section
variable {prog : Program} {w : World} {A : Around} {E : Value → Shared → Prop} {s : Shared}
end
end Zy

/-! Own layer Xi: exceptions whose own __init__ calls the one of an own class over ValueError and keeps one field. -/
namespace Qx
open PySem PySem.Spec PyProof.Rows L2 Gx
section
variable {X : Cx} {e : Expr} {es : List Expr} {ta : TA} {x : Str} {p1 p2 pos : Pos} {B : Addr}
end
/-! what the head tells of them -/
structure ClI (K : PySem.W.Frag) (B : Addr) : Prop where
  rd : PySem.W.readsIn K B (.type "type") = true
  ga : PySem.W.specialIn K (.ref B) "__getattribute__" = some (some (.builtin "type.__getattribute__"))
  vV : PySem.W.findCls K (.ref B) (.type "type") "__init__" = some (.val (.builtin "ValueError.__init__"))
structure XiC (K : PySem.W.Frag) (C B : Str) (f : Str) : Prop where
  o : OexC K (He.ga K C)
  no : PySem.W.findIn K (.ref (He.ga K C)) f = some none
  b : ClI K (He.ga K B)
/-! ### raise C(e) -/
/-! ### t[::-1] -/
/-! ### t + u, t[a:b], empty ones too -/
def catA (p q : PV) (O : Sto) : PR PV := match p, q with
  | .tup ps, .tup qs => if szOk (ps.length + qs.length) = true then .ok (.tup (ps ++ qs)) O else .bad
  | _, _ => .bad
theorem os_catA {K : PySem.W.Frag} : OpS K (rCatA K) catA := by
  intro R ι O H p q x y E Q S r1 r2 h
  cases p with
  | tup ps =>
    cases q with
    | tup qs =>
      have h : Post K R E (Rep K) ι O H Q (if szOk (ps.length + qs.length) = true then .ok (.tup (ps ++ qs)) O else .bad) := h
      by_cases c : szOk (ps.length + qs.length) = true
      · rw [if_pos c] at h
        obtain ⟨a, xs, h1, h2, h3⟩ := r1
        obtain ⟨b, ys, h4, h5, h6⟩ := r2
        refine ⟨a, b, xs, ys, h1, h4, sqt_same S.frozen h2, sqt_same S.frozen h5, by rw [h3.len, h6.len]; exact szOk_le c, fun e => ?_, fun _ e => ?_, fun _ _ o ho => ?_⟩
        · subst e
          exact h.here S ⟨b, ys, rfl, h5, by rw [show ps = [] from List.length_eq_zero_iff.mp h3.len.symm]; exact h6⟩
        · subst e
          exact h.here S ⟨a, xs, rfl, h2, by rw [show qs = [] from List.length_eq_zero_iff.mp h6.len.symm, List.append_nil]; exact h3⟩
        · obtain ⟨S2, X2, e2⟩ := S.newF ho (.tup (xs ++ ys))
          exact h.at S2 X2 ⟨o, _, rfl, SqT.of e2, X2.repL (h3.app h6)⟩
      · rw [if_neg c] at h
        exact h.elim
    | _ => exact h.elim
  | _ => exact h.elim
/-! ### the Hook that tells of the interpreter's own statics too -/
end Qx

/-! Own layer Xj: str, repr and f-strings of own instances. -/
namespace Gx
open PySem PySem.Spec PyProof.Rows L2
section
variable {X : Cx} {k j : Nat} {ps : List Str} {sp : Sp} {d : He.DefD} {C : Addr}
end
end Gx
namespace Qx
open PySem PySem.Spec PyProof.Rows L2 Gx
section
variable {K : PySem.W.Frag} {C : Str} {mf : MF} {E : XM} {te : TE} {fa : EF}
def otxtP (C : Str) (m : MF) (ps : List PV) (O : Sto) : PR PV := match ps with
  | [p] => if insIs O C p = true then (noX (m [p] O)).bind fun r O1 => match r with
    | .str z => .ok (.str z) O1
    | _ => .bad else .bad
  | _ => .bad
def eFmtO (C : Str) (m : MF) (fa : EF) : EF := fun s O => (fa s O).bind fun p O1 => otxtP C m [p] O1
def eFmt (fa : EF) : EF := fun s O => (fa s O).bind fun p O1 => match p with
  | .str z => if z.length ≤ sizeLine then .ok (.str z) O1 else .bad
  | .int i => if i.natAbs.log2 < 1920 then .ok (.str (toString i)) O1 else .bad
  | _ => .bad
theorem sim_fmt (ha : SimE K E te fa) : SimE K E (tFmt te) (eFmt fa) := fun R ι O H σ s Q S L h =>
  ha R ι O H σ s _ S L (h.bind fun p O1 x ι1 H1 S1 X1 r1 h1 => by
    cases p with
    | str z =>
      simp only at h1
      split at h1
      · rename_i c
        exact .inl ⟨z, r1, c, h1.here S1 rfl⟩
      · exact h1.elim
    | int i =>
      simp only at h1
      split at h1
      · rename_i c
        exact .inr ⟨i, r1, c, h1.here S1 rfl⟩
      · exact h1.elim
    | _ => exact h1.elim)
noncomputable def jsP : List EF → Str → Slots → Sto → PR Str
  | [], acc, _, O => .ok acc O
  | f :: fs, acc, s, O => (f s O).bind fun p O1 => match p with
    | .str y => if (acc ++ y).length ≤ sizeLine then jsP fs (acc ++ y) s O1 else .bad
    | _ => .bad
noncomputable def eJs (fs : List EF) : EF := fun s O => (jsP fs Str.empty s O).bind fun z O1 => .ok (.str z) O1
inductive SimJs (K : PySem.W.Frag) (E : XM) : List TE → List EF → Prop
  | nil : SimJs K E [] []
  | cons {t : TE} {f : EF} {ts : List TE} {fs : List EF} (h : SimE K E t f) (r : SimJs K E ts fs) : SimJs K E (t :: ts) (f :: fs)
theorem js_run {ts : List TE} {fs : List EF} (h : SimJs K E ts fs) : ∀ (acc : Str) R ι O H σ s (Q : Str → Hp → Prop), Sim K R ι O H → SlR K ι (fz R ι O H) σ s → Post K R (xat E σ) (fun _ _ (a b : Str) => a = b) ι O H Q (jsP fs acc s O) → tJs ts acc σ H Q := by
  induction h with
  | nil => exact fun acc R ι O H σ s Q S L h => h acc ι H S .refl rfl
  | @cons t f ts fs ht _ ih =>
    intro acc R ι O H σ s Q S L h
    unfold jsP at h
    refine ht R ι O H σ s _ S L (h.bind fun p O1 x ι1 H1 S1 X1 r1 h1 => ?_)
    cases p with
    | str y =>
      simp only at h1
      split at h1
      · rename_i c
        exact ⟨y, r1, c, ih (acc ++ y) R ι1 O1 H1 σ s Q S1 (L.ext X1) h1⟩
      · exact h1.elim
    | _ => exact h1.elim
theorem sim_js {ts : List TE} {fs : List EF} (hj : SimJs K E ts fs) : SimE K E (fun σ H Q => tJs ts Str.empty σ H fun out H1 => Q (.str out) H1) (eJs fs) := fun R ι O H σ s Q S L h =>
  js_run hj Str.empty R ι O H σ s _ S L (h.bind fun z O1 z' ι1 H1 S1 X1 e h1 => by
    subst e
    exact h1.here S1 rfl)
end
end Qx

/-! Own layer Xk: bool of an own instance with a __len__; {x!r} of an own instance. -/
namespace PySem.W
open PySem PySem.Spec PySem.Calls PyProof.Rows
section
variable {prog : Program} {w : World} {A : Around} {E : Value → Shared → Prop} {s : Shared} {K : Frag} {x C f : Addr} {ox : Obj} {od : Option Obj}
end
end PySem.W
namespace Gx
open PySem PySem.Spec PyProof.Rows L2
section
variable {X : Cx} {k j : Nat} {ps : List Str} {sp : Sp} {d : He.DefD} {C : Addr}
end
end Gx
namespace Qx
open PySem PySem.Spec PyProof.Rows L2 Gx
section
variable {K : PySem.W.Frag} {C : Str} {mf : MF} {E : XM} {te : TE} {fa : EF}
def oboolP (C : Str) (m : MF) (ps : List PV) (O : Sto) : PR PV := match ps with
  | [p] => if insIs O C p = true then (noX (m [p] O)).bind fun r O1 => match r with
    | .int n => if (decide (0 ≤ n) && decide (n < 2 ^ 63)) = true then .ok (.bl (n != 0)) O1 else .bad
    | _ => .bad else .bad
  | _ => .bad
end
end Qx

/-! Own layer Xl: == of an own instance and any thing. -/
namespace Gx
open PySem PySem.Spec PyProof.Rows L2
theorem cls_looks {M : Model} {h : Heap} {a : Addr} {o : Obj} {T : String} (e : h.get? a = some o) (ec : o.cls = .type T) : PySem.W.Looks M h (typeOf (.ref a)) (.type T) := by
  rw [← ec]
  exact (PySem.W.Looks.ld (part := none) e).andThen .now
theorem ty_looks {X : Cx} {pins : List (Addr × Obj)} {σ : L2.St} {H : Hp} {s : Shared} {x : V} {u t : Value} (I : Inv X pins σ H s) (rx : RelV x u) (ty : TyOf X.K H x t) : PySem.W.Looks (model X.prog X.w) s.heap (typeOf u) t := by
  cases ty with
  | non => cases (show u = Value.none from rx); exact PySem.W.Looks.of_pure rfl
  | bl y => cases (show u = Value.bool y from rx); exact PySem.W.Looks.of_pure rfl
  | int i => obtain ⟨t, q⟩ := (show ∃ t, u = Value.int i t from rx); cases q; exact PySem.W.Looks.of_pure rfl
  | str y => obtain ⟨t, q⟩ := (show ∃ t, u = Value.str y t from rx); cases q; exact PySem.W.Looks.of_pure rfl
  | flt y => obtain ⟨t, q⟩ := (show ∃ t, u = Value.float y t from rx); cases q; exact PySem.W.Looks.of_pure rfl
  | @lst a xs ea =>
    cases (show u = Value.ref a from rx)
    obtain ⟨_, _, n, _, h1⟩ := (show ObjOk X.prog X.w H s.heap a (.lst xs) from I.hok a _ ea)
    exact cls_looks h1 rfl
  | @frz a ob xs ea =>
    cases (show u = Value.ref a from rx)
    obtain ⟨_, _, _, n, _, h1⟩ := (show ObjOk X.prog X.w H s.heap a (.frz ob (.lst xs)) from I.hok a _ ea)
    exact cls_looks h1 rfl
  | @tup a xs ea =>
    cases (show u = Value.ref a from rx)
    obtain ⟨_, _, _, p⟩ := (show ObjOk X.prog X.w H s.heap a (.tup xs) from I.hok a _ ea)
    obtain ⟨o, h1, h2, _⟩ := p
    exact cls_looks h1 h2
  | @dK a kvs ea =>
    cases (show u = Value.ref a from rx)
    obtain ⟨_, _, vs, _, p⟩ := (show ObjOk X.prog X.w H s.heap a (.dK kvs) from I.hok a _ ea)
    obtain ⟨o, es, ep, h1, h2, _⟩ := p
    exact cls_looks h1 h2.1
  | @dT a kvs ea =>
    cases (show u = Value.ref a from rx)
    obtain ⟨_, _, xs, _, o, es, ep, h1, h2, _⟩ := (show ObjOk X.prog X.w H s.heap a (.dT kvs) from I.hok a _ ea)
    exact cls_looks h1 h2.1
  | @ins a C dx fs ea cl ha hn htk hm =>
    cases (show u = Value.ref a from rx)
    obtain ⟨mA, O, _⟩ := ins_get I.hok ea
    obtain ⟨od, J, _⟩ := O.look
    exact J.type
theorem tyx_looks {X : Cx} {pins : List (Addr × Obj)} {σ : L2.St} {H : Hp} {s : Shared} {x : V} {u t : Value} (I : Inv X pins σ H s) (rx : RelV x u) (ty : TyX X.K H x t) : PySem.W.Looks (model X.prog X.w) s.heap (typeOf u) t := by
  cases ty with
  | base b => exact ty_looks I rx b
  | byt y => obtain ⟨t, q⟩ := (show ∃ t, u = Value.bytes y t from rx); cases q; exact PySem.W.Looks.of_pure rfl
  | @set a S n ea =>
    cases (show u = Value.ref a from rx)
    obtain ⟨o, _, _, _, e, ex, _⟩ := I.hok a _ ea
    exact cls_looks e ex.1
  | @kList a o e c =>
    cases (show u = Value.ref a from rx)
    exact cls_looks (I.kIn a o e) c
  | @kTuple a o e c =>
    cases (show u = Value.ref a from rx)
    exact cls_looks (I.kIn a o e) c
  | @kDict a o e c =>
    cases (show u = Value.ref a from rx)
    exact cls_looks (I.kIn a o e) c
  | @fTuple a ob xs ea =>
    cases (show u = Value.ref a from rx)
    obtain ⟨_, _, _, _, o, h1, h2, _⟩ := (show ObjOk X.prog X.w H s.heap a (.frz ob (.tup xs)) from I.hok a _ ea)
    exact cls_looks h1 h2
  | @fDict a ob kvs ea =>
    cases (show u = Value.ref a from rx)
    obtain ⟨_, _, _, vs, _, o, es, ep, h1, h2, _⟩ := (show ObjOk X.prog X.w H s.heap a (.frz ob (.dK kvs)) from I.hok a _ ea)
    exact cls_looks h1 h2.1
section
variable {X : Cx} {k j : Nat} {ps : List Str} {sp : Sp} {d : He.DefD} {C : Addr}
def rOEqA (K : PySem.W.Frag) (C : Addr) (sp : Sp) : R2 := fun x y H Q => InsAt C H x ∧ (∃ t, TyX K H y t ∧ PySem.W.notFirst K C t = true) ∧ sp [x, y] H (fun v H' => ∃ b, v = .bl b ∧ Q (.bl b) H') E0
theorem op_oeqA (D : DOk X.prog X.w X.K X.mg X.base d CX0 k ps sp) (hm : Meth X.K C "__eq__" (He.fAd X.K d.at_)) (hb : BdN d ps) (hr : Room j X.A) (hj : k ≤ j) : OpR X (compareOp .Eq) (rOEqA X.K C sp) := by
  obtain ⟨fd, F, G⟩ := D.ex
  intro pins s σ H x y v u Q I rx ry hq
  obtain ⟨⟨a, dx, fl, rfl, ha⟩, ⟨t, ty, hn⟩, h⟩ := hq
  cases rx
  show wpAny (model X.prog X.w) X.A (richCompare .Eq (.ref a) u) (EP X pins σ Q) X.xe s
  obtain ⟨mA, J, _⟩ := ins_get I.hok ha
  obtain ⟨od, J, _⟩ := J.look
  obtain ⟨m, hF⟩ := I.fr
  have hr := hr.mono hj
  refine PySem.W.cmp_K (op := .Eq) (tb := t) hr.units0 hF I.ok.mod.kin J (tyx_looks I ry ty) hn hm.at_ hm.fn ?_
  refine wpAny_mono (run_fnA (us := [.ref a, u]) (vs := [.ref a, y]) (dvs := []) (ds := []) G hr rfl (FunD.bdN F hb) .nil pass0 I (.cons rfl (.cons ry .nil)) h) (fun r s' z => ?_) fun _ _ x => x
  obtain ⟨w, H', I', rw_, bb, rfl, q⟩ := z
  cases rw_
  exact ⟨.bl bb, H', I', rfl, q⟩
def rONeA (K : PySem.W.Frag) (C : Addr) (sp : Sp) : R2 := fun x y H Q => InsAt C H x ∧ (∃ t, TyX K H y t ∧ PySem.W.notFirst K C t = true) ∧ sp [x, y] H (fun v H' => ∃ b, v = .bl b ∧ Q (.bl (!b)) H') E0
theorem op_oneA (D : DOk X.prog X.w X.K X.mg X.base d CX0 k ps sp) (hm : Meth X.K C "__eq__" (He.fAd X.K d.at_)) (hmo : PySem.W.mroIn X.K C (.type "object") = some true) (hne : PySem.W.findIn X.K (.ref C) "__ne__" = some (some (.builtin "object.__ne__"))) (hb : BdN d ps) (hr : Room j X.A) (hj : k + 1 ≤ j) : OpR X (compareOp .NotEq) (rONeA X.K C sp) := by
  obtain ⟨fd, F, G⟩ := D.ex
  intro pins s σ H x y v u Q I rx ry hq
  obtain ⟨⟨a, dx, fl, rfl, ha⟩, ⟨t, ty, hn⟩, h⟩ := hq
  cases rx
  show wpAny (model X.prog X.w) X.A (richCompare .NotEq (.ref a) u) (EP X pins σ Q) X.xe s
  obtain ⟨mA, J, _⟩ := ins_get I.hok ha
  obtain ⟨od, J, _⟩ := J.look
  have hr := hr.mono hj
  refine ne_own (by have := hr.units; omega) I.kIn J (tyx_looks I ry ty) hn hmo hne hm.at_ hm.fn ?_
  refine wpAny_mono (run_fnA (us := [.ref a, u]) (vs := [.ref a, y]) (dvs := []) (ds := []) G hr.in1 rfl (FunD.bdN F hb) .nil pass0 I (.cons rfl (.cons ry .nil)) h) (fun r s' z => ?_) fun _ _ x => x
  obtain ⟨w, H', I', rw_, bb, rfl, q⟩ := z
  cases rw_
  exact ⟨bb, rfl, .bl (!bb), H', I', rfl, q⟩
end
end Gx
namespace Qx
open PySem PySem.Spec PyProof.Rows L2 Gx
section
variable {K : PySem.W.Frag} {cs : List Str} {C : Str} {mf : MF}
structure NfK (K : PySem.W.Frag) (cs : List Str) : Prop where
  t : ∀ C ∈ cs, ∀ T ∈ KT, PySem.W.notFirst K (He.ga K C) (.type T) = true
  c : ∀ C ∈ cs, ∀ D ∈ cs, PySem.W.notFirst K (He.ga K C) (.ref (He.ga K D)) = true
theorem NfK.of (h : nfAll K cs = true) : NfK K cs := by
  have one := fun C (hC : C ∈ cs) => Bool.and_eq_true_iff.mp (List.all_eq_true.mp h C hC)
  exact ⟨fun C hC T hT => List.all_eq_true.mp (one C hC).1 T hT, fun C hC D hD => List.all_eq_true.mp (one C hC).2 D hD⟩
def tyIn (cs : List Str) : Sum String Str → Bool
  | .inl a => KT.contains a
  | .inr D => cs.contains D
def oeqA (cs : List Str) (C : Str) (m : MF) (p q : PV) (O : Sto) : PR PV := match tyOf O q with
  | some t => if (insIs O C p && (tyIn cs t && cs.contains C)) = true then boolR false (m [p, q] O) else .bad
  | none => .bad
def oneA (cs : List Str) (C : Str) (m : MF) (p q : PV) (O : Sto) : PR PV := match tyOf O q with
  | some t => if (insIs O C p && (tyIn cs t && cs.contains C)) = true then boolR true (m [p, q] O) else .bad
  | none => .bad
theorem tyIn_nf {t : Sum String Str} (nk : NfK K cs) (h : tyIn cs t = true) (hC : cs.contains C = true) : PySem.W.notFirst K (He.ga K C) (tyV' K t) = true := by
  have hC := List.contains_iff_mem.mp hC
  cases t with
  | inl a => exact nk.t C hC a (List.contains_iff_mem.mp h)
  | inr D => exact nk.c C hC D (List.contains_iff_mem.mp h)
theorem os_oeqA (ck : ClsK K cs) (nk : NfK K cs) : OpS K (rOEqA K (He.ga K C) (spM K false mf)) (oeqA cs C mf) := by
  intro R ι O H p q x y E Q S r1 r2 h
  unfold oeqA at h
  cases e : tyOf O q with
  | none => rw [e] at h; exact h.elim
  | some t =>
    rw [e] at h
    simp only at h
    split at h
    · rename_i c
      obtain ⟨c1, c2⟩ := Bool.and_eq_true_iff.mp c
      obtain ⟨c2, c3⟩ := Bool.and_eq_true_iff.mp c2
      exact ⟨insIs_read S r1 c1, ⟨_, ty_read ck S r2 e (fun D hD => by subst hD; exact List.contains_iff_mem.mp c2), tyIn_nf nk c2 c3⟩, R, ι, O, [p, q], S, .consR r1 (.one r2), Post.noX (E := E) (Post.bind h fun r O1 v ι1 H1 S1 X1 r3 h1 => by
        cases r with
        | bl b => exact ⟨b, r3, h1.here S1 rfl⟩
        | _ => exact h1.elim)⟩
    · exact h.elim
theorem os_oneA (ck : ClsK K cs) (nk : NfK K cs) : OpS K (rONeA K (He.ga K C) (spM K false mf)) (oneA cs C mf) := by
  intro R ι O H p q x y E Q S r1 r2 h
  unfold oneA at h
  cases e : tyOf O q with
  | none => rw [e] at h; exact h.elim
  | some t =>
    rw [e] at h
    simp only at h
    split at h
    · rename_i c
      obtain ⟨c1, c2⟩ := Bool.and_eq_true_iff.mp c
      obtain ⟨c2, c3⟩ := Bool.and_eq_true_iff.mp c2
      exact ⟨insIs_read S r1 c1, ⟨_, ty_read ck S r2 e (fun D hD => by subst hD; exact List.contains_iff_mem.mp c2), tyIn_nf nk c2 c3⟩, R, ι, O, [p, q], S, .consR r1 (.one r2), Post.noX (E := E) (Post.bind h fun r O1 v ι1 H1 S1 X1 r3 h1 => by
        cases r with
        | bl b => exact ⟨b, r3, h1.here S1 rfl⟩
        | _ => exact h1.elim)⟩
    · exact h.elim
end
end Qx

/-! Own layer Xm: str of texts and numbers; facts of own classes that show themselves. -/
namespace Qx
open PySem PySem.Spec PyProof.Rows L2 Gx
section
variable {K : PySem.W.Frag}
def bStrS := b1 fun p O => match p with
  | .str z => .ok (.str z) O
  | _ => .bad
def bStrI := b1 fun p O => match p with
  | .int i => if i.natAbs.log2 < 1920 then .ok (.str (toString i)) O else .bad
  | _ => .bad
structure ShK (K : PySem.W.Frag) (cs : List Str) : Prop where
  nb : ∀ C ∈ cs, PySem.W.findIn K (.ref (He.ga K C)) "__bool__" = some none
  fm : ∀ C ∈ cs, PySem.W.findIn K (.ref (He.ga K C)) "__format__" = some (some (.builtin "object.__format__"))
theorem ShK.of {cs : List Str} (h : shB K cs = true) : ShK K cs := by
  have one := fun C (hC : C ∈ cs) => Bool.and_eq_true_iff.mp (List.all_eq_true.mp h C hC)
  exact ⟨fun C hC => He.eqO_ok (one C hC).1, fun C hC => He.eqO_ok (one C hC).2⟩
end
end Qx

/-! Own layer Xn: x in a list whose items are compared by an own ==. -/
namespace GQ
open PySem PySem.SeqAt
open AutoSeq1 (wpAny_loadPart')
open MeetsSeq MeetsSeq2 MeetsSeq3 SeqRoads2
section
variable {prog : Program} {w : World} {A : Around} {R : Result → Shared → Prop}
end
section
variable {prog : Program} {w : World} {A : Around} {E : Value → Shared → Prop} {s : Shared}
end
end GQ
namespace HN
open PySem PySem.Spec PyProof.Rows PySem.SeqAt
section
variable {M : Model} {prog : Program} {w : World} {A : Around} {E : Value → Shared → Prop} {s : Shared} {K : PySem.W.Frag} {x C f : Addr} {ox : Obj} {od : Option Obj}
end
end HN

/-! Own layer Xo: x in a list of None and own instances, x an own instance, by its own ==. -/
namespace GQ
open PySem PySem.SeqAt
open AutoSeq1 (wpAny_loadPart')
open MeetsSeq MeetsSeq2 MeetsSeq3 SeqRoads2
section
variable {prog : Program} {w : World} {A : Around} {E : Value → Shared → Prop} {s : Shared}
end
end GQ
namespace Gx
open PySem PySem.Spec PyProof.Rows L2
section
variable {X : Cx} {k j : Nat} {ps : List Str} {sp : Sp} {d : He.DefD} {C : Addr}
end
end Gx
namespace Qx
open PySem PySem.Spec PyProof.Rows L2 Gx
section
variable {K : PySem.W.Frag} {cs : List Str} {C : Str} {mf : MF}
def fldsD : List PV → List PV → Prop
  | p :: ps, q :: qs => (∃ v w, scV p = some v ∧ scV q = some w ∧ v ≠ w) ∨ fldsD ps qs
  | _, _ => False
def sureD (O : Sto) : PV → PV → Prop
  | .ins _ ns ps, .ins _ ns' ps' => ns = ns' ∧ fldsD ps ps'
  | .loc n, .loc m => n ≠ m ∧ (∃ p, O[n]? = some (some p)) ∧ ∃ p, O[m]? = some (some p)
  | _, _ => False
theorem ClsK.inj (ck : ClsK K cs) (C : Str) (hC : C ∈ cs) : ∀ D ∈ cs, He.ga K D = He.ga K C → D = C := fun D hD e => by
  apply Classical.byContradiction
  intro hne
  have h := ck.cc D hD C hC hne
  rw [e] at h
  unfold PySem.W.kitOne at h
  rw [if_pos (by simp)] at h
  cases h
def okT (cs : List Str) (C : Str) (O : Sto) (p : PV) : Bool := match tyOf O p with
  | some t => tyIn cs t && cs.contains C
  | none => false
def sureN (C : Str) (O : Sto) (q p : PV) : Prop := tyOf O p ≠ some (.inr C) ∨ sureD O q p
open Classical in
/-- x in a list of None and own things; only where == changes nothing -/
noncomputable def inOP (cs : List Str) (C : Str) (m : MF) (neg : Bool) (p : PV) : List PV → Sto → PR PV
  | [], O => .ok (.bl neg) O
  | q :: qs, O =>
    if q = .non then (if insIs O C p = true ∧ m [p, q] O = .ok (.bl false) O then inOP cs C m neg p qs O else .bad)
    else if (okT cs C O p = true ∧ insIs O C q = true) ∧ m [q, p] O = .ok (.bl true) O then .ok (.bl (!neg)) O
    else if (okT cs C O p = true ∧ insIs O C q = true) ∧ m [q, p] O = .ok (.bl false) O ∧ sureN C O q p then inOP cs C m neg p qs O
    else .bad
noncomputable def inOL (cs : List Str) (C : Str) (m : MF) (neg : Bool) (p l : PV) (O : Sto) : PR PV := match l with
  | .lst qs => inOP cs C m neg p qs O
  | .rol qs => inOP cs C m neg p qs O
  | _ => .bad
end
end Qx

/-! Own layer Xp: texts: +, *, <, in, items, slices, len, for, methods. -/
namespace Gx
open PySem PySem.Spec PyProof.Rows L2
section
variable {X : Cx}
def mulOkS (z : Str) (i : Int) : Bool := decide (-(2 ^ 40) < i ∧ i < 2 ^ 40 ∧ z.length * i.toNat ≤ 1000000)
end
end Gx
namespace Qx
open PySem PySem.Spec PyProof.Rows L2 Gx
section
variable {K : PySem.W.Frag} {E : XM} {te : TE} {fa : EF} {to : TE} {fo : EF} {tA : TA} {fA : AF} {r : V → List V → Hp → VK → Prop} {f : PV → List PV → Sto → PR PV}
def zOk (n : Nat) : Bool := decide (n ≤ sizeLine)
def s2 (c : Str → Str → Bool) (g : Str → Str → PV) (p q : PV) (O : Sto) : PR PV := match p, q with
  | .str i, .str j => if c i j = true then .ok (g i j) O else .bad
  | _, _ => .bad
def addS := s2 (fun i j => zOk (i.length + j.length)) fun i j => .str (i ++ j)
def repS (p q : PV) (O : Sto) : PR PV := match p, q with
  | .str z, .int i => if mulOkS z i = true then .ok (.str (Txt.mul z i)) O else .bad
  | _, _ => .bad
/-! for over a text -/
def chP (z : Str) : List PV := z.cps.toList.map fun c => .str ⟨#[c]⟩
/-! methods of texts -/
def isStr : PV → Bool
  | .str _ => true
  | _ => false
def eBms (f : PV → List PV → Sto → PR PV) (o : EF) (a : AF) : EF := fun s O => (o s O).bind fun p O1 => if isStr p = true then (a s O1).bind fun ps O2 => f p ps O2 else .bad
def eBms0 (f : PV → List PV → Sto → PR PV) (o : EF) : EF := fun s O => (o s O).bind fun p O1 => if isStr p = true then f p [] O1 else .bad
def joinP (p : PV) (qs : List PV) (O : Sto) : PR PV := match p, qs with
  | .str a, [l] => match (seqOf O l).bind strsOf with
    | some ys => if decide ((ys.map (·.length)).sum + ys.length * a.length ≤ 16777216) = true then .ok (.str (Txt.join a ys)) O else .bad
    | none => .bad
  | _, _ => .bad
end
end Qx

/-! Own layer Xq: constants of the module (tuples, dicts of defs), calls of a name that holds one of several defs, while. -/
namespace Qx
open PySem PySem.Spec PyProof.Rows L2 Gx
mutual
def KV.pv : KV → PV
  | .non => .non
  | .bl b => .bl b
  | .int i => .int i
  | .str z => .str z
  | .tup l => .tup (KV.pvs l)
  | .fn C => .cls C
def KV.pvs : List KV → List PV
  | [] => []
  | k :: ks => k.pv :: KV.pvs ks
end
section
variable {K : PySem.W.Frag}
mutual
theorem kRep_ok : ∀ (k : KV) (u : Value), kRep K k u = true → ∃ v, RelV v u ∧ ∀ ι G, Rep K ι G k.pv v
  | .non, u, h => by
    cases u <;> first | exact ⟨.non, rfl, fun _ _ => rfl⟩ | simp [kRep] at h
  | .bl b, u, h => by
    cases u <;> first | (simp only [kRep, beq_iff_eq] at h; subst h; exact ⟨.bl _, rfl, fun _ _ => rfl⟩) | simp [kRep] at h
  | .int i, u, h => by
    cases u <;> first | (simp only [kRep, decide_eq_true_eq] at h; subst h; exact ⟨.int _, ⟨_, rfl⟩, fun _ _ => rfl⟩) | simp [kRep] at h
  | .str z, u, h => by
    cases u <;> first | (simp only [kRep, decide_eq_true_eq] at h; subst h; exact ⟨.str _, ⟨_, rfl⟩, fun _ _ => rfl⟩) | simp [kRep] at h
  | .fn C, u, h => by
    cases u <;> first | (simp only [kRep, decide_eq_true_eq] at h; subst h; exact ⟨.ref _, rfl, fun _ _ => rfl⟩) | simp [kRep] at h
  | .tup l, u, h => by
    cases u with
    | ref a =>
      unfold kRep at h
      cases e : K.lookup a with
      | none => rw [e] at h; cases h
      | some o =>
        rw [e] at h
        obtain ⟨oc, od, dt, sl⟩ := o
        cases oc <;> try cases h
        cases dt <;> try cases h
        rename_i c its n
        simp only at h
        obtain ⟨h1, h2⟩ := Bool.and_eq_true_iff.mp h
        obtain ⟨h2, h3⟩ := Bool.and_eq_true_iff.mp h2
        have h1 := of_decide_eq_true h1
        subst h1
        obtain ⟨xs, r, hx⟩ := kRepL_ok l its.toList h3
        exact ⟨.ref a, rfl, fun ι G => ⟨a, xs, rfl, .inr ⟨_, its, n, e, rfl, rfl, of_decide_eq_true h2, r⟩, hx ι G⟩⟩
    | _ => simp [kRep] at h
theorem kRepL_ok : ∀ (l : List KV) (us : List Value), kRepL K l us = true → ∃ xs, Vals xs us ∧ ∀ ι G, RepL K ι G (KV.pvs l) xs
  | [], us, h => by
    cases us with
    | nil => exact ⟨[], .nil, fun _ _ => rfl⟩
    | cons u us => simp [kRepL] at h
  | k :: ks, us, h => by
    cases us with
    | nil => simp [kRepL] at h
    | cons u us =>
      unfold kRepL at h
      obtain ⟨h1, h2⟩ := Bool.and_eq_true_iff.mp h
      obtain ⟨v, r1, q1⟩ := kRep_ok k u h1
      obtain ⟨xs, r2, q2⟩ := kRepL_ok ks us h2
      exact ⟨v :: xs, .cons r1 r2, fun ι G => .consR (q1 ι G) (q2 ι G)⟩
end
/-! a dict of the module, with text keys -/
structure KdF (K : PySem.W.Frag) (w : World) (T : Str) (kvs : List (Str × PV)) : Prop where
  d : ∃ es n, KDict K w (He.ga K T) es n
  yes : ∀ k p, kvs.lookup k = some p → ∃ u v, PySem.W.nsIn K (He.ga K T) k = some (some u) ∧ RelV v u ∧ ∀ ι G, Rep K ι G p v
  no : ∀ z, kvs.lookup z = none → PySem.W.nsIn K (He.ga K T) z = some none
theorem nsIn_no {w : World} {a : Addr} {ks : List Str} {z : Str} (h : He.dicW K a = some (He.keysIn w.params ks)) (hz : z ∉ ks) : PySem.W.nsIn K a z = some none := by
  unfold He.dicW at h
  unfold PySem.W.nsIn
  cases e : K.lookup a with
  | none => rw [e] at h; cases h
  | some o =>
    rw [e] at h
    obtain ⟨oc, od, dt, sl⟩ := o
    cases oc <;> try cases h
    cases od <;> try cases h
    cases dt <;> try cases h
    rename_i c es n
    simp only at h ⊢
    split at h
    · have h := Option.some.inj h
      have key : ∀ x ∈ es.toList, ∃ k t, x.key = .str k t ∧ k ∈ ks := fun x hx => by
        have hm : He.keyOf x ∈ He.keysIn w.params ks := by rw [← h]; exact List.mem_map_of_mem hx
        obtain ⟨k, hk, ek⟩ := List.mem_map.mp hm
        unfold He.keyOf at ek
        split at ek
        · rename_i y t q
          have e2 := (Prod.mk.inj (Option.some.inj ek)).1
          exact ⟨y, t, q, by rw [← e2]; exact hk⟩
        · cases ek
      have e1 : es.toList.find? (fun x => x.key.isStr z) = none := by
        rw [List.find?_eq_none]
        intro x hx
        obtain ⟨k, t, q, hk⟩ := key x hx
        rw [q]
        intro hh
        have : k = z := by
          have := hh
          simp only [Value.isStr, beq_iff_eq] at this
          exact this
        exact hz (this ▸ hk)
      have e2 : es.toList.any (fun x => x.refKey) = false := by
        rw [List.any_eq_false]
        intro x hx
        obtain ⟨k, t, q, hk⟩ := key x hx
        unfold DictEntry.refKey
        rw [q]
        exact Bool.false_ne_true
      rw [e1, e2]
      rfl
    · cases h
theorem lookup_no {α : Type} {k : Str} : ∀ {l : List (Str × α)}, l.lookup k = none → k ∉ l.map (·.1)
  | [], _ => by simp
  | (c, q) :: l, h => by
    rw [List.lookup_cons] at h
    split at h
    · cases h
    · rename_i e
      intro hm
      rcases List.mem_cons.mp hm with rfl | hm
      · simp at e
      · exact lookup_no h hm
theorem lookup_map {α β : Type} {f : α → β} {k : Str} : ∀ {l : List (Str × α)}, (l.map fun q => (q.1, f q.2)).lookup k = (l.lookup k).map f
  | [] => rfl
  | (c, q) :: l => by
    simp only [List.map_cons, List.lookup_cons]
    cases k == c with
    | true => rfl
    | false => exact lookup_map
theorem KdF.of {w : World} {T : Str} {ks : List Str} {kvs : List (Str × KV)} {pvs : List (Str × PV)} (h : He.dicW K (He.ga K T) = some (He.keysIn w.params ks)) (b : kdB K T kvs = true) (e : kvs.map (·.1) = ks) (e2 : (kvs.map fun q => (q.1, q.2.pv)) = pvs) : KdF K w T pvs := by
  subst e
  subst e2
  refine ⟨He.dicW_ok h, fun k p hk => ?_, fun z hz => ?_⟩
  · rw [lookup_map] at hk
    obtain ⟨kv, h1, h2⟩ := Option.map_eq_some_iff.mp hk
    subst h2
    have hb := List.all_eq_true.mp b _ (lookup_mem h1)
    simp only at hb
    split at hb
    · rename_i u eu
      obtain ⟨v, r, q⟩ := kRep_ok kv u hb
      exact ⟨u, v, eu, r, q⟩
    · cases hb
  · rw [lookup_map, Option.map_eq_none_iff] at hz
    exact nsIn_no h (lookup_no hz)
end
/-! membership, items -/
section
variable {K : PySem.W.Frag} {w : World} {T : Str} {kvs : List (Str × PV)}
end
/-! a call of a name that holds one of several defs -/
end Qx
namespace Gx
open PySem PySem.Spec PyProof.Rows L2
section
variable {X : Cx} {i k j : Nat} {x : Str} {p pos : Pos} {e : Expr} {es : List Expr} {t : TA} {S : Addr → Sp → Prop}
end
end Gx
namespace Qx
open PySem PySem.Spec PyProof.Rows L2 Gx
section
variable {K : PySem.W.Frag} {E : XM} {tA : TA} {fA : AF} {i : Nat}
end
/-! while -/
section
variable {K : PySem.W.Frag} {E : XM} {tc : TT} {c : TF} {tb : TS} {b : SF}
end
end Qx

/-! Own layer Xr: x in a tuple of own things; x in a list or tuple of data. -/
namespace GQ
open PySem PySem.SeqAt
open AutoSeq1 (wpAny_loadPart')
open MeetsSeq MeetsSeq2 MeetsSeq3 SeqRoads2
section
variable {prog : Program} {w : World} {A : Around} {R : Result → Shared → Prop}
end
section
variable {prog : Program} {w : World} {A : Around} {E : Value → Shared → Prop} {s : Shared}
end
end GQ
namespace Gx
open PySem PySem.Spec PyProof.Rows L2
section
variable {X : Cx} {k j : Nat} {ps : List Str} {sp : Sp} {d : He.DefD} {C : Addr}
theorem room65 {k : Nat} {A : Around} (r : Room k A) : A.units + 65 < cLine := by have := r.un; omega
/-! data in a list or tuple of data -/
end
end Gx
namespace Qx
open PySem PySem.Spec PyProof.Rows L2 Gx
section
variable {K : PySem.W.Frag} {cs : List Str} {C : Str} {mf : MF}
/-! data -/
end
end Qx

/-! Own layer Xs: what is walked may be a list or a tuple; sorted(list of pairs of whole numbers). -/
namespace Gx
open PySem PySem.Spec PyProof.Rows L2
section
variable {X : Cx} {tg : Expr}
def iAnyT (K : PySem.W.Frag) (tl : TE) : TI := fun σ H R => tl σ H fun x H1 => ∃ a, x = .ref a ∧ ((∃ xs, SqL K H1 a xs) ∧ R (Itl K a) H1 ∨ (∃ xs, SqT K H1 a xs) ∧ R (Itt K a) H1)
theorem pi_any {l : Expr} {tl : TE} (hl : PE X l tl) : PI X tg l (iAnyT X.K tl) := by
  refine ⟨fun pins s σ H R I h => ?_⟩
  refine thn (hl.run pins s σ H _ I h) fun v s1 ⟨x, H1, I1, r1, q1⟩ => ?_
  obtain ⟨a, e, ⟨⟨xs, hq⟩, q⟩ | ⟨⟨xs, hq⟩, q⟩⟩ := q1
  · subst e
    cases r1
    obtain ⟨its, rv, p, hz⟩ := I1.list hq
    refine wpAny_pyIter_list p.isList ?_
    refine ⟨s1.heap.objs.size, [s1.heap.objs.size], _, _, H1, rfl, I1.kept (t' := s1.toks) fun b o e => Heap.get?_push_of_some _ e, turn_list a _, ⟨_, Heap.get?_push_size _ rfl, rfl, rfl⟩, fun b hb => ?_, q⟩
    have e : b = s1.heap.objs.size := by simpa using hb
    subst e
    exact I1.fpOk (Nat.le_refl _) (I1.hok.fresh (Nat.le_refl _))
  · subst e
    cases r1
    obtain ⟨its, rv, p, hz⟩ := I1.tuple hq
    refine wpAny_pyIter_tuple (show s1.heap.IsTuple a its.toArray from p) ?_
    refine ⟨s1.heap.objs.size, [s1.heap.objs.size], _, _, H1, rfl, I1.kept (t' := s1.toks) fun b o e => Heap.get?_push_of_some _ e, turn_tuple a _, ⟨_, Heap.get?_push_size _ rfl, rfl, rfl⟩, fun b hb => ?_, q⟩
    have e : b = s1.heap.objs.size := by simpa using hb
    subst e
    exact I1.fpOk (Nat.le_refl _) (I1.hok.fresh (Nat.le_refl _))
/-! sorted -/
abbrev P2 := V × (Int × Int)
def encP (b : P2) : PyData := .tuple [.int b.2.1, .int b.2.2]
def leP (p q : Int × Int) : Bool := decide (p.1 < q.1 ∨ (p.1 = q.1 ∧ p.2 ≤ q.2))
def leB (a b : P2) : Bool := leP a.2 b.2
def okP (K : PySem.W.Frag) (H : Hp) (b : P2) : Prop := ∃ t, b.1 = .ref t ∧ SqT K H t [.int b.2.1, .int b.2.2]
def rSort2 (K : PySem.W.Frag) : List V → Hp → VK → Prop := fun vs H Q => ∃ (a : Addr) (bs : List P2), vs = [V.ref a] ∧ SqL K H a (bs.map Prod.fst) ∧ (∀ b ∈ bs, okP K H b) ∧ ∀ p, H p = none → Q (.ref p) (upd H p (.lst ((bs.mergeSort leB).map Prod.fst)))
theorem each_p {K : PySem.W.Frag} {H : Hp} : ∀ {bs : List P2} {its : List Value}, Vals (bs.map Prod.fst) its → (∀ b ∈ bs, okP K H b) → PySem.W.EachIs (fun (v : Value) (b : P2) => RelV b.1 v ∧ okP K H b) its bs
  | [], _, .nil, _ => .nil
  | b :: bs, _, .cons h t, hb => .cons ⟨h, hb b (by simp)⟩ (each_p t fun c hc => hb c (by simp [hc]))
theorem vals_p {K : PySem.W.Frag} {H : Hp} : ∀ {bs : List P2} {out : List Value}, PySem.W.EachIs (fun (v : Value) (b : P2) => RelV b.1 v ∧ okP K H b) out bs → Vals (bs.map Prod.fst) out
  | _, _, .nil => .nil
  | _, _, .cons h t => .cons h.1 (vals_p t)
theorem cr_sort2 (hu : X.A.units + 65 < cLine) : CallR X (.builtin "sorted") (rSort2 X.K) := by
  intro pins s σ H vs us Q I r h
  obtain ⟨a, bs, rfl, hs, hb, q⟩ := h
  obtain ⟨its, rv, hl, hz⟩ := I.list hs
  rw [Vals.ref1 r]
  have ei := each_p rv hb
  have er : PySem.W.EachIs (fun (v : Value) (b : P2) => ∃ as, Reads s.heap v (encP b) as) its bs := ei.mono fun v b hh => by
    obtain ⟨r1, t, e, h2⟩ := hh
    rw [e] at r1
    exact Dp.reads I (encP b) _ v (.tup h2 (.cons (.int _) (.cons (.int _) .nil))) r1
  have hle : bs.length ≤ sizeLine := by rw [← List.length_map (f := Prod.fst)]; exact hz
  have hde : ∀ b, b ∈ bs → X.A.units + 2 + (encP b).depth < cLine := fun b _ => by
    have : (encP b).depth = 1 := by rfl
    omega
  refine PySem.W.sorted_data (enc := encP) hl.isList ei er (PySem.W.AllAlike.of fun b b' => rfl) (PySem.W.Sortable.tuples fun b => ⟨_, _, rfl⟩) hle hde fun out hlen ho => ?_
  · have e1 : PySem.W.dataLe false encP = leB := PySem.W.dataLe_ii (fun b : P2 => b.2.1) (fun b : P2 => b.2.2)
    rw [e1] at ho
    obtain ⟨ep, he'⟩ := PyProof.Rows.sortedAll_at s.heap its out.toArray
    refine ⟨.ref _, upd H (s.heap.objs.size + 1) (.lst ((bs.mergeSort leB).map Prod.fst)), I.laid (t' := s.toks) (fun _ _ => PyProof.Rows.sortedAll_old) (Nat.le_succ _) ⟨?_, out, ep, vals_p ho, he'⟩, rfl, q _ (I.hok.fresh (Nat.le_succ _))⟩
    rw [List.length_map, List.length_mergeSort, ← List.length_map (f := Prod.fst)]
    exact hz
/-! xs[::-1] of a list -/
def tRevLs (K : PySem.W.Frag) (te : TE) : TE := fun σ H Q => te σ H fun x H1 => ∃ a xs, x = .ref a ∧ SqL K H1 a xs ∧ ∀ p, H1 p = none → Q (.ref p) (upd H1 p (.lst xs.reverse))
theorem pe_revLs {e : Expr} {te : TE} {k : Nat} {p1 p2 p3 pos : Pos} (he : PE X e te) : PE X (.Subscript e (.Slice none none (some (.UnaryOp .USub (.Constant (.int 1) k p1) p2)) p3) pos) (tRevLs X.K te) := by
  refine ⟨fun pins s σ H Q I h => Subscript_ (thn (he.run pins s σ H _ I h) fun v s1 ⟨x, H1, I1, r1, q1⟩ => ?_)⟩
  obtain ⟨a, xs, rfl, hx, q⟩ := q1
  cases r1
  have st : PO X (some (.UnaryOp .USub (.Constant (.int 1) k p1) p2)) (tPart (tUn (rU fun i => .int (-i)) (tC (.int 1)))) := po_some (pe_un un_neg pe_int)
  refine wpAny_Slice (thn (po_none.run pins s1 σ H1 (fun o H2 => o = none ∧ H2 = H1) I1 ⟨rfl, rfl⟩) fun vl s2 ⟨l, H2, I2, pl, el, e2⟩ => ?_)
  subst el
  subst e2
  refine thn (po_none.run pins s2 σ H2 (fun o H3 => o = none ∧ H3 = H2) I2 ⟨rfl, rfl⟩) fun vu s3 ⟨u, H3, I3, pu, eu, e3⟩ => ?_
  subst eu
  subst e3
  refine thn (st.run pins s3 σ H3 (fun o H4 => o = some (-1) ∧ H4 = H3) I3 ⟨1, rfl, -1, rfl, rfl, rfl⟩) fun vs s4 ⟨o, H4, I4, ps, eo, e4⟩ => ?_
  subst eo
  subst e4
  have I5 : Inv X pins σ H4 { s4 with heap := s4.heap.push { cls := .type "slice", data := .fields #[vl, vu, vs] } } := I4.kept (t' := s4.toks) fun b ob q => Heap.get?_push_of_some _ q
  obtain ⟨its, r, ht, hz⟩ := I5.list hx
  show wpAny (model X.prog X.w) X.A (subscriptTail e (.Slice none none (some (.UnaryOp .USub (.Constant (.int 1) k p1) p2)) p3) (.ref a) (.ref s4.heap.objs.size)) (EP X pins σ Q) X.xe { s4 with heap := s4.heap.push { cls := .type "slice", data := .fields #[vl, vu, vs] } }
  refine tail_any (ops := [.ref a, .ref s4.heap.objs.size]) ht.isList.typeIs slot_list_getitem.lookup ?_ (by with_unfolding_all rfl)
  refine wpAny_getItem_list_slice ht.isList (Heap.IsSliceOf.new _ vl vu _) pl pu ps (by simp) ?_ (by rw [List.size_toArray, ← r.length]; exact hz)
  rw [PySem.W.krv_pick]
  refine ⟨.ref _, _, I5.laid (t' := s4.toks) (o := .lst xs.reverse) (fun b ob q => Heap.get?_push_of_some _ q) (Nat.le_refl _) ?_, rfl, q _ (I5.hok.fresh (Nat.le_refl _))⟩
  exact ⟨by rw [List.length_reverse]; exact hz, _, 0, r.reverse, Heap.get?_push_size _ rfl⟩
end
end Gx
namespace Qx
open PySem PySem.Spec PyProof.Rows L2 Gx
section
variable {K : PySem.W.Frag} {E : XM} {te : TE} {fe : EF}
/-! ### what is walked: a list or a tuple -/
def iA (f : EF) : IF := fun s O => (f s O).bind fun p O1 => match tupOf p with
  | some ps => .ok (ps, none) O1
  | none => match p with
    | .lst ps => .ok (ps, none) O1
    | .rol ps => .ok (ps, none) O1
    | .loc n => match O1[n]? with
      | some (some (.lst ps)) => .ok (ps, some (n, ps)) O1
      | _ => .bad
    | _ => .bad
theorem sim_iA (he : SimE K E te fe) : SimIt K E (iAnyT K te) (iA fe) := fun R ι O H σ s Q S L h =>
  he R ι O H σ s _ S L (h.bind fun p O1 x ι1 H1 S1 X1 r1 h1 => by
    have fr : ∀ ps, frL p = some ps → Post K R (xat E σ) (rpI K) ι1 O1 H1 Q (.ok (ps, none) O1) → ∃ a, x = .ref a ∧ ((∃ xs, SqL K H1 a xs) ∧ Q (Itl K a) H1 ∨ (∃ xs, SqT K H1 a xs) ∧ Q (Itt K a) H1) := fun ps e h1 => by
      obtain ⟨a, xs, e1, h3, h4⟩ := frL_read r1 e
      exact ⟨a, e1, .inl ⟨⟨xs, S1.frozen.seq h3⟩, h1.here S1 (itl_ok fun R' ι' O' H' S' p1 sm _ => ⟨xs, S'.frozen.seq (sm.seq h3), h4.mono p1 sm⟩)⟩⟩
    cases p with
    | lst ps => exact fr ps rfl h1
    | rol ps => exact fr ps rfl h1
    | loc n =>
      obtain ⟨a, e1, e2⟩ := r1
      simp only [tupOf] at h1
      cases q : O1[n]? with
      | none => simp [q] at h1; exact h1.elim
      | some w =>
        cases w with
        | none => simp [q] at h1; exact h1.elim
        | some w =>
          cases w with
          | lst ps =>
            simp only [q] at h1
            obtain ⟨o, h3, xs, h4, h5⟩ := S1.obj n a _ e2 q
            subst h4
            refine ⟨a, e1, .inl ⟨⟨xs, SqL.of h3⟩, h1.here S1 (itl_ok fun R' ι' O' H' S' p1 sm gd => ?_)⟩⟩
            obtain ⟨o, h3, xs, h4, h5⟩ := S'.obj n a _ (p1 _ _ e2) (show O'[n]? = some (some (.lst ps)) from gd)
            subst h4
            exact ⟨xs, SqL.of h3, h5⟩
          | _ => simp [q] at h1; exact h1.elim
    | tup ps =>
      obtain ⟨a, xs, e1, h3, h4⟩ := r1
      exact ⟨a, e1, .inr ⟨⟨xs, sqt_same S1.frozen h3⟩, h1.here S1 (itt_ok h3 h4)⟩⟩
    | xtp ps =>
      obtain ⟨⟨a, xs, e1, h3, h4⟩, _⟩ := r1
      exact ⟨a, e1, .inr ⟨⟨xs, sqt_same S1.frozen h3⟩, h1.here S1 (itt_ok h3 h4)⟩⟩
    | _ => exact h1.elim)
/-! ### sorted(pairs) -/
def prOf : PV → Option (Int × Int)
  | .tup [.int i, .int j] => some (i, j)
  | _ => none
def prsOf : List PV → Option (List (Int × Int))
  | [] => some []
  | p :: ps => match prOf p, prsOf ps with
    | some z, some zs => some (z :: zs)
    | _, _ => none
def prP (z : Int × Int) : PV := .tup [.int z.1, .int z.2]
def bSort2 := b1 fun p O => match lstOf O p with
  | some ps => match prsOf ps with
    | some zs => .ok (.lst ((zs.mergeSort leP).map prP)) O
    | none => .bad
  | none => .bad
theorem prOf_eq {p : PV} {z : Int × Int} (h : prOf p = some z) : p = prP z := by
  unfold prOf at h
  split at h
  · cases h; rfl
  · cases h
theorem prs_read {ι : List Addr} {G : Hp} : ∀ {ps : List PV} {zs : List (Int × Int)} {xs : List V}, prsOf ps = some zs → RepL K ι G ps xs → ∃ bs : List P2, bs.map Prod.fst = xs ∧ bs.map Prod.snd = zs ∧ ∀ b ∈ bs, okP K G b ∧ Rep K ι G (prP b.2) b.1
  | [], zs, xs, e, r => by cases e; cases r; exact ⟨[], rfl, rfl, fun b hb => by cases hb⟩
  | p :: ps, zs, xs, e, r => by
    unfold prsOf at e
    cases e1 : prOf p with
    | none => simp [e1] at e
    | some z =>
      cases e2 : prsOf ps with
      | none => simp [e1, e2] at e
      | some zs' =>
        simp only [e1, e2] at e
        cases e
        obtain ⟨x, t, e3, r1, r2⟩ := r
        subst e3
        obtain ⟨bs, h1, h2, h3⟩ := prs_read e2 r2
        have e4 := prOf_eq e1
        subst e4
        refine ⟨(x, z) :: bs, by simp [h1], by simp [h2], fun b hb => ?_⟩
        rcases List.mem_cons.mp hb with rfl | hb
        · refine ⟨?_, r1⟩
          obtain ⟨a, xs, h5, h6, h7⟩ := r1
          obtain ⟨_, _, rfl, h8, _, _, rfl, h9, h10⟩ := h7
          cases h8; cases h9; cases h10
          exact ⟨a, h5, h6⟩
        · exact h3 b hb
theorem repL_bs {ι : List Addr} {G : Hp} : ∀ {bs : List P2}, (∀ b ∈ bs, Rep K ι G (prP b.2) b.1) → RepL K ι G ((bs.map Prod.snd).map prP) (bs.map Prod.fst)
  | [], _ => rfl
  | b :: bs, h => ⟨_, _, rfl, h b (by simp), repL_bs fun c hc => h c (by simp [hc])⟩
theorem sort_snd (bs : List P2) : (bs.map Prod.snd).mergeSort leP = (bs.mergeSort leB).map Prod.snd := (List.map_mergeSort (r := leB) (s := leP) (f := fun b : P2 => b.2) (l := bs) fun _ _ _ _ => rfl).symm
/-! ### xs[::-1] of a list -/
def eRevLs (a : EF) : EF := fun s O => (a s O).bind fun p O1 => match lstOf O1 p with
  | some ps => .ok (.lst ps.reverse) O1
  | none => .bad
theorem sim_revLs {ta : TE} {fa : EF} (ha : SimE K E ta fa) : SimE K E (tRevLs K ta) (eRevLs fa) := fun R ι O H σ s Q S L h =>
  ha R ι O H σ s _ S L (h.bind fun p O1 x ι1 H1 S1 X1 r1 h1 => by
    cases e : lstOf O1 p with
    | none => simp [e] at h1; exact h1.elim
    | some ps =>
      simp only [e] at h1
      obtain ⟨a, xs, h2, h3, h4⟩ := lst_read S1 r1 e
      refine ⟨a, xs, h2, h3, fun q hq => ?_⟩
      obtain ⟨S2, X2, e2⟩ := S1.newF hq (.lst xs.reverse)
      exact h1.at S2 X2 ⟨q, _, rfl, e2, X2.repL h4.rev⟩)
/-! ### a is b, a is not b of truths -/
def isB (p q : PV) (O : Sto) : PR PV := match p, q with
  | .bl a, .bl b => .ok (.bl (decide (a = b))) O
  | _, _ => .bad
def notB (p q : PV) (O : Sto) : PR PV := match p, q with
  | .bl a, .bl b => .ok (.bl (!decide (a = b))) O
  | _, _ => .bad
/-! ### C(.., f=e) where C's instances may change -/
def eMakeKO (C : Str) (m : MF) (n k : Nat) (gP : List PV → List PV → List PV) (a z : AF) : EF := fun s O => (a s O).bind fun ps O1 => (z s O1).bind fun zs O2 => if ps.length = n ∧ zs.length = k then
  (noX (m (.loc O2.length :: gP ps zs) (O2 ++ [some (.ins C [] [])]))).bind fun r O3 => match r with
  | .non => .ok (.loc O2.length) O3
  | _ => .bad else .bad
/-! ### list(range(..)) -/
end
end Qx

/-! Own layer Xt: several except clauses, each of one class or a tuple of two, the exception tracked from then on. -/
namespace Gx
open PySem PySem.Spec PyProof.Rows L2
def TestOk (X : Cx) (t : Expr) (cs : List Value) : Prop := ∀ (a : Addr) (pn : List (Addr × Obj)) (σ : L2.St) (H : Hp) (s : Shared) (cls : Value) (b : Bool) (E : Value → Shared → Prop) (Q : Bool → Shared → Prop), Inv (X.suite a pn) [] σ H s →
  PySem.W.Looks (model X.prog X.w) s.heap (typeOf (.ref a)) cls → PySem.W.exmAny X.K cls cs = some b → (∀ h', (∀ q o, s.heap.get? q = some o → h'.get? q = some o) → Q b { s with heap := h' }) →
  wpAny (model X.prog X.w) (X.A.mark (some (.ref a))) (eval t X.env) (fun c s₁ => wpAny (model X.prog X.w) (X.A.mark (some (.ref a))) (excMatches (.ref a) c) Q E s₁) E s
section
variable {X : Cx}
inductive HdT (X : Cx) : List ExceptHandler → List (List Value × Nat × TS) → Prop
  | nil : HdT X [] []
  | cons {t : Expr} {n : Str} {i : Nat} {b₀ : Stmt} {suite : List Stmt} {pos' : Pos} {cs : List Value} {ts : TS} {hds : List ExceptHandler} {l : List (List Value × Nat × TS)} (ht : TestOk X t cs) (hi : X.N[i]? = some n) (hln : X.env.kindOf n = some .local)
      (hsu : ∀ (a : Addr) (pn : List (Addr × Obj)), PSs (X.suite a pn) (b₀ :: suite) ts) (r : HdT X hds l) : HdT X (.ExceptHandler (some t) (some n) (b₀ :: suite) pos' :: hds) ((cs, i, ts) :: l)
end
end Gx
namespace Qx
open PySem PySem.Spec PyProof.Rows L2 Gx
/-! ### try with several clauses -/
section
variable {K : PySem.W.Frag} {E : XM} {fb : SF} {tb : WX → TS} {Wout : WX}
inductive SimH (K : PySem.W.Frag) : List (List Value × Nat × TS) → List (Nat × (Str → Option Bool) × SF) → Prop
  | nil : SimH K [] []
  | cons {cs : List Value} {i : Nat} {ts : TS} {cm : Str → Option Bool} {fs : SF} {l : List (List Value × Nat × TS)} {hs : List (Nat × (Str → Option Bool) × SF)} (hcm : ∀ C b, cm C = some b → PySem.W.exmAny K (.ref (He.ga K C)) cs = some b) (hS : SimS K none ts fs) (r : SimH K l hs) : SimH K ((cs, i, ts) :: l) ((i, cm, fs) :: hs)
end
end Qx

/-! Own layer Xu: a call of a local name that holds one of several defs, some of which may raise. -/
namespace Gx
open PySem PySem.Spec PyProof.Rows L2
section
variable {X : Cx} {i k j : Nat} {x : Str} {p pos : Pos} {e : Expr} {es : List Expr} {t : TA} {S : Addr → Sp → Prop} {E : L2.St → XK}
end
end Gx
namespace Qx
open PySem PySem.Spec PyProof.Rows L2 Gx
section
variable {K : PySem.W.Frag} {E : XM} {tA : TA} {fA : AF} {i : Nat}
end
end Qx

/-! Own layer Xv: as Xi, for exceptions over LookupError or ArithmeticError. -/
namespace Qx
open PySem PySem.Spec PyProof.Rows L2 Gx
structure EbF (b : EB) : Prop where
  F : ExcBaseFacts b.B b.nw b.ini b.tail
  S : StoreFacts b.B b.tail "object.__setattr__" "object"
  h : PySem.W.handedIn (.builtin b.ini) = true
structure OexG (b : EB) (K : PySem.W.Frag) (C : Addr) : Prop where
  i : PySem.W.excInitIn K C b.tail b.nw = true
  v : PySem.W.excOver K C b.tail = true
  hd : PySem.W.hasDictIn K C = true
  sa : PySem.W.findIn K (.ref C) "__setattr__" = some (some (.builtin "object.__setattr__"))
  ex : PySem.W.subIn K (.ref C) (.type "BaseException") = some true
  ty : PySem.W.typeIn K (.ref C) = some (.type "type")
  kp : PySem.W.keepIn K (.ref C) = true
section
variable {b : EB} {X : Cx} {pins : List (Addr × Obj)} {σ : L2.St} {H : Hp} {s : Shared} {a C : Addr} {f : Str} {y : V} {u : Value} {Q : Unit → Shared → Prop} {E : Value → Shared → Prop} {A : Around}
end
section
variable {b : EB} {X : Cx} {e o : Expr} {es : List Expr} {to te : TE} {ta : TA} {x f : Str} {p p' p1 p2 pos : Pos} {B : Addr}
end
structure ClG (b : EB) (K : PySem.W.Frag) (B : Addr) : Prop where
  rd : PySem.W.readsIn K B (.type "type") = true
  ga : PySem.W.specialIn K (.ref B) "__getattribute__" = some (some (.builtin "type.__getattribute__"))
  vV : PySem.W.findCls K (.ref B) (.type "type") "__init__" = some (.val (.builtin b.ini))
structure XiG (b : EB) (K : PySem.W.Frag) (C B : Str) (f : Str) : Prop where
  o : OexG b K (He.ga K C)
  no : PySem.W.findIn K (.ref (He.ga K C)) f = some none
  b : ClG b K (He.ga K B)
/-! ### raise C(e) -/
end Qx

/-! Own layer Xw: int(text, 2); the place in a constant tuple of texts; defs that call themselves. -/
namespace PySem.W
open PySem PySem.Calls PySem.NumText PyProof.Rows
/-! ### int(text, 2) -/
end PySem.W

namespace Qx
open PySem PySem.Spec PyProof.Rows L2 Gx
/-! the hand layer's rule -/
section
variable {prog : Program} {w : World} {A : Around} {E : Value → Shared → Prop} {s : Shared}
end
section
variable {K : PySem.W.Frag}
end
/-! the place of a text in a constant tuple -/
/-! defs that call themselves -/
end Qx

namespace Qx
open PySem PySem.Spec PyProof.Rows L2
/-! min of four whole numbers -/
/-! the pure side -/
end Qx

/-! Own layer Ya: sorted of a list or a tuple of pairs of whole numbers. -/
namespace Gx
open PySem PySem.Spec PyProof.Rows L2
section
variable {prog : Program} {w : World} {A : Around} {E : Value → Shared → Prop} {s : Shared} {κ : PyProof.Rows.KeyKind}
theorem collect_own {r : Value} {Q : List Value → Shared → Prop} (G : Heap → Nat → Array Value → Prop)
    (hx : ∀ R : Result → Shared → Prop, (∀ (h' : Heap) (tk c : Nat) (acc : Array Value), h'.get? s.heap.objs.size = some ⟨.type "list", none, .seq acc c, #[]⟩ → G h' tk acc → R (.ok (.ret (.ref s.heap.objs.size))) { s with heap := h', toks := tk }) →
      wpAny (model prog w) A.in1 (Builtin.List.listExtendWith (.ref s.heap.objs.size) r (.ref s.heap.objs.size)) (fun f s' => match f with
        | .done v => R (.ok v) s'
        | .again k => k.quiet = true ∧ codeAny (model prog w) A k R s') (fun e s' => R (.error e) s') { s with heap := s.heap.push ⟨.type "list", none, .seq ([] : List Value).toArray 0, #[]⟩ })
    (hQ : ∀ h' tk acc, G h' tk acc → Q acc.toList { s with heap := h', toks := tk }) : wpAny (model prog w) A (collect r) Q E s := by
  let good : Result → Shared → Prop := fun x s' => x = .ok (.ret (.ref s.heap.objs.size)) ∧ ∃ (h' : Heap) (tk c : Nat) (acc : Array Value), s' = { s with heap := h', toks := tk } ∧ h'.get? s.heap.objs.size = some ⟨.type "list", none, .seq acc c, #[]⟩ ∧ G h' tk acc
  have fin : ∀ s', good (.ok (.ret (.ref s.heap.objs.size))) s' → wpAny (model prog w) A (load s.heap.objs.size >>= fun o => match o.data with
      | .seq xs _ => pure xs.toList
      | _ => unsupported "internal:collect") Q E s' := by
    rintro s' ⟨_, h', tk, c, acc, rfl, e, g⟩
    exact wpAny_bind (wpAny_load e (wpAny_pure (hQ h' tk acc g)))
  have ext := hx good fun h' tk c acc e g => ⟨rfl, h', tk, c, acc, rfl, e, g⟩
  unfold collect
  refine wpAny_bind (wpAny_runValue (codeAny_builtin F.entry_proto_collect ?_))
  rw [Around.under_plainId F.plain_proto_collect _]
  refine wpAny_bind (wpAny_newObj_type ?_)
  refine wpAny_pure ⟨plainId_quiet F.plain_list_iadd _, codeAny_builtin F.entry_list_iadd ?_⟩
  rw [Around.under_plainId F.plain_list_iadd _]
  refine wpAny_mono ext (fun f s' h => ?_) (fun e s' h => absurd h.1 (by simp))
  cases f with
  | done v =>
    have e := h.1
    cases e
    exact fin s' h
  | again k =>
    refine ⟨h.1, codeAny_mono h.2 fun x s2 hh => ?_⟩
    have e := hh.1
    subst e
    exact fin s2 hh
theorem collect_tup {l : Addr} {vs : List Value} {Q : List Value → Shared → Prop} (hl : s.heap.IsTuple l vs.toArray)
    (h : Q vs { s with heap := (s.heap.push (seqObj "list" #[] 0)).update s.heap.objs.size (Obj.mapSeq (· ++ vs.toArray)) }) (hsz : vs.length ≤ sizeLine) :
    wpAny (model prog w) A (collect (.ref l)) Q E s := by
  obtain ⟨o, ho, hc, n, hd⟩ := hl
  refine collect_own (fun h' tk acc => h' = (s.heap.push (seqObj "list" #[] 0)).update s.heap.objs.size (Obj.mapSeq (· ++ vs.toArray)) ∧ tk = s.toks ∧ acc = vs.toArray) (fun R hR => ?_) fun h' tk acc g => ?_
  · have hS : (s.heap.push ⟨.type "list", none, .seq ([] : List Value).toArray 0, #[]⟩).get? s.heap.objs.size = some ⟨.type "list", none, .seq #[] 0, #[]⟩ := Heap.get?_push_size _ rfl
    refine wpAny_extend_seq _ l _ 0 (.inr rfl) hS (Heap.get?_push_of_some _ ho) hc hd (hR _ _ (if vs = [] then 0 else 1) vs.toArray ?_ ⟨rfl, rfl, rfl⟩) (by simpa using hsz)
    have e := Heap.get?_update_self (Obj.mapSeq (· ++ vs.toArray)) hS rfl
    simpa [Obj.mapSeq] using e
  · obtain ⟨rfl, rfl, rfl⟩ := g
    simpa using h
theorem sorted_tup {l : Addr} {vs : List Value} {Q : Value → Shared → Prop} (hl : s.heap.IsTuple l vs.toArray) (hL : vs.length ≤ sizeLine)
    (S : PySem.W.SortsAt prog w A.in1.in1 { s with heap := PySem.W.sortingHeap (PySem.W.copyHeap s.heap vs) (s.heap.objs.size + 1) vs } κ vs)
    (h : Q (.ref (s.heap.objs.size + 1)) { s with heap := sortedAll s.heap vs (PySem.W.sortVals κ false vs vs).toArray }) : wpAny (model prog w) A (call (.builtin "sorted") [.ref l]) Q E s := by
  have at_ := PySem.W.copyHeap_at s.heap vs
  have body : wpAny (model prog w) A.in1.in1 (Builtin.«list.sort» ⟨[.ref (s.heap.objs.size + 1)], []⟩) (fun f s' => f = .done (.ret .none) ∧ Q (.ref (s.heap.objs.size + 1)) s') (fun e s' => E e s') { s with heap := PySem.W.copyHeap s.heap vs } :=
    PySem.W.list_sort_vals (s := { s with heap := PySem.W.copyHeap s.heap vs }) at_ S hL ⟨rfl, h⟩
  have size : ∀ o : Obj, ((s.heap.push o).update s.heap.objs.size (Obj.mapSeq (· ++ vs.toArray))).objs.size = s.heap.objs.size + 1 := fun o => by rw [Heap.size_update, size_push']
  refine call_function_entry_kw kind_sorted plain_sorted entry_sorted (args_sorted1 _) ?_
  unfold Builtin.«sorted»
  refine wpAny_bind (wpAny_pure (wpAny_bind (collect_tup hl (wpAny_bind (wpAny_newList ?_ hL)) hL)))
  rw [size]
  refine wpAny_bind (wpAny_holding (wpAny_call_entry_kw slot_list_sort ⟨_, at_, rfl⟩ entry_list_sort (wpAny_mono body (fun f s' hf => ?_) fun _ _ e => e) (args_list_sort _)))
  have e := hf.1
  subst e
  exact ⟨_, rfl, wpAny_pure ⟨_, rfl, hf.2⟩⟩
variable {α : Type} {R : Value → α → Prop} {enc : α → PyData} {vs : List Value} {bs : List α}
theorem sorted_dataT {l : Addr} {Q : Value → Shared → Prop} (hl : s.heap.IsTuple l vs.toArray) (e : PySem.W.EachIs R vs bs) (er : PySem.W.EachIs (fun v b => ∃ as, Reads s.heap v (enc b) as) vs bs) (hal : PySem.W.AllAlike (bs.map enc)) (hk : PySem.W.Sortable (bs.map enc)) (hL : bs.length ≤ sizeLine)
    (hu : ∀ b, b ∈ bs → A.units + 2 + (enc b).depth < cLine) (h : ∀ out, out.length = bs.length → PySem.W.EachIs R out (bs.mergeSort (PySem.W.dataLe false enc)) → Q (.ref (s.heap.objs.size + 1)) { s with heap := sortedAll s.heap vs (List.toArray out) }) :
    wpAny (model prog w) A (call (.builtin "sorted") [.ref l]) Q E s := by
  have er' : PySem.W.EachIs (fun v b => ∃ as, Reads (PySem.W.sortingHeap (PySem.W.copyHeap s.heap vs) (s.heap.objs.size + 1) vs) v (enc b) as) vs bs := er.mono fun _ _ ⟨as, r⟩ => ⟨as, PyProof.Rows.Reads.keeps (fun _ _ => PySem.W.sorting_copy_old) r⟩
  exact sorted_tup hl (by rw [e.length]; exact hL)
    (PySem.W.SortsAt.data (s := { s with heap := PySem.W.sortingHeap (PySem.W.copyHeap s.heap vs) (s.heap.objs.size + 1) vs }) (PySem.W.each_map (R := fun v d => ∃ as, Reads (PySem.W.sortingHeap (PySem.W.copyHeap s.heap vs) (s.heap.objs.size + 1) vs) v d as) enc er') hal hk (PySem.W.bound_map hu))
    (h _ (by rw [PySem.W.sortVals_length false rfl]; exact e.length) (PySem.W.sortVals_data false e er' hal))
end
section
variable {X : Cx}
def rSort2A (K : PySem.W.Frag) : List V → Hp → VK → Prop := fun vs H Q => ∃ (a : Addr) (bs : List P2), vs = [V.ref a] ∧ (SqL K H a (bs.map Prod.fst) ∨ SqT K H a (bs.map Prod.fst)) ∧ (∀ b ∈ bs, okP K H b) ∧ ∀ p, H p = none → Q (.ref p) (upd H p (.lst ((bs.mergeSort leB).map Prod.fst)))
theorem cr_sort2A (hu : X.A.units + 65 < cLine) : CallR X (.builtin "sorted") (rSort2A X.K) := by
  intro pins s σ H vs us Q I r h
  obtain ⟨a, bs, rfl, hs, hb, q⟩ := h
  rcases hs with hs | hs
  · exact cr_sort2 hu pins s σ H _ us Q I r ⟨a, bs, rfl, hs, hb, q⟩
  · obtain ⟨its, rv, hl, hz⟩ := I.tuple hs
    rw [Vals.ref1 r]
    have ei := each_p rv hb
    have er : PySem.W.EachIs (fun (v : Value) (b : P2) => ∃ as, Reads s.heap v (encP b) as) its bs := ei.mono fun v b hh => by
      obtain ⟨r1, t, e, h2⟩ := hh
      rw [e] at r1
      exact Dp.reads I (encP b) _ v (.tup h2 (.cons (.int _) (.cons (.int _) .nil))) r1
    have hle : bs.length ≤ sizeLine := by rw [← List.length_map (f := Prod.fst)]; exact hz
    have hde : ∀ b, b ∈ bs → X.A.units + 2 + (encP b).depth < cLine := fun b _ => by
      have : (encP b).depth = 1 := by rfl
      omega
    refine sorted_dataT (enc := encP) (show s.heap.IsTuple a its.toArray from hl) ei er (PySem.W.AllAlike.of fun b b' => rfl) (PySem.W.Sortable.tuples fun b => ⟨_, _, rfl⟩) hle hde fun out hlen ho => ?_
    · have e1 : PySem.W.dataLe false encP = leB := PySem.W.dataLe_ii (fun b : P2 => b.2.1) (fun b : P2 => b.2.2)
      rw [e1] at ho
      obtain ⟨ep, he'⟩ := PyProof.Rows.sortedAll_at s.heap its out.toArray
      refine ⟨.ref _, upd H (s.heap.objs.size + 1) (.lst ((bs.mergeSort leB).map Prod.fst)), I.laid (t' := s.toks) (fun _ _ => PyProof.Rows.sortedAll_old) (Nat.le_succ _) ⟨?_, out, ep, vals_p ho, he'⟩, rfl, q _ (I.hok.fresh (Nat.le_succ _))⟩
      rw [List.length_map, List.length_mergeSort, ← List.length_map (f := Prod.fst)]
      exact hz
end
end Gx
namespace Qx
open PySem PySem.Spec PyProof.Rows L2 Gx
section
variable {K : PySem.W.Frag}
def bSort2A := b1 fun p O => match seqOf O p with
  | some ps => match prsOf ps with
    | some zs => .ok (.lst ((zs.mergeSort leP).map prP)) O
    | none => .bad
  | none => .bad
theorem cb_sort2A : CbS K (rSort2A K) bSort2A := cb_1 fun R ι O H p x E Q S r1 h => by
  cases e : seqOf O p with
  | none => simp [e] at h; exact h.elim
  | some ps =>
    simp only [e] at h
    cases e1 : prsOf ps with
    | none => simp [e1] at h; exact h.elim
    | some zs =>
      simp only [e1] at h
      obtain ⟨a, xs, h1, h2, h3⟩ := seq_read S r1 e
      obtain ⟨bs, h4, h5, h6⟩ := prs_read e1 h3
      refine ⟨a, bs, by rw [h1], by rw [h4]; exact h2, fun b hb => ?_, fun o ho => ?_⟩
      · obtain ⟨t, e5, e6⟩ := (h6 b hb).1
        exact ⟨t, e5, sqt_same S.frozen e6⟩
      · obtain ⟨S2, X2, e2⟩ := S.newF ho (.lst ((bs.mergeSort leB).map Prod.fst))
        refine h.at S2 X2 ⟨o, _, rfl, e2, ?_⟩
        rw [← h5, sort_snd]
        exact X2.repL (repL_bs fun b hb => (h6 b (List.mem_mergeSort.mp hb)).2)
end
end Qx

/-! Own layer Yb: the head's hook over addresses that are gathered with a mask of bits. -/
namespace Qx
open PySem PySem.Spec PyProof.Rows L2
/-! .. and tables of code objects: empty, not among what is held -/
end Qx

/-! Own layer Yc: dicts with whole numbers and texts as keys, frozen or changing. -/
namespace Qx
open PySem PySem.Spec PyProof.Rows L2 Gx
/-! ### the plain part -/
def kP : Key → PV
  | .inl i => .int i
  | .inr z => .str z
theorem keyP_kP (k : Key) : keyP (kP k) = some k := by cases k <;> rfl
theorem keyP_eq {p : PV} {k : Key} (h : keyP p = some k) : p = kP k := by
  cases p <;> first | (cases h; rfl) | cases h
abbrev Kvs := List (Key × PV)
def valP (kvs : Kvs) (k : Key) : Option PV := (kvs.find? fun kv => decide (kv.1 = k)).map (·.2)
def putP (kvs : Kvs) (k : Key) (v : PV) : Kvs := if (kvs.any fun kv => decide (kv.1 = k)) = true then kvs.map (fun kv => if kv.1 = k then (kv.1, v) else kv) else kvs ++ [(k, v)]
def dropP (kvs : Kvs) (k : Key) : Kvs := kvs.filter fun kv => decide (kv.1 ≠ k)
/-! ### entries in a heap -/
section
variable {K : PySem.W.Frag} {ι ι' : List Addr} {G G' : Hp}
def KvR (K : PySem.W.Frag) (ι : List Addr) (G : Hp) : Kvs → List (Key × V) → Prop
  | [], ws => ws = []
  | (k, p) :: r, ws => ∃ v t, ws = (k, v) :: t ∧ Rep K ι G p v ∧ KvR K ι G r t
theorem KvR.mono (hp : Pre ι ι') (e : Same G G') : ∀ {kvs : Kvs} {ws : List (Key × V)}, KvR K ι G kvs ws → KvR K ι' G' kvs ws
  | [], _, h => h
  | (k, p) :: r, ws, ⟨v, t, h1, h2, h3⟩ => ⟨v, t, h1, h2.mono hp e, KvR.mono hp e h3⟩
theorem KvR.len : ∀ {kvs : Kvs} {ws : List (Key × V)}, KvR K ι G kvs ws → ws.length = kvs.length
  | [], _, h => by rw [show _ = [] from h]; rfl
  | (k, p) :: r, ws, ⟨v, t, h1, _, h3⟩ => by rw [h1, List.length_cons, List.length_cons, KvR.len h3]
theorem KvR.val {k : Key} : ∀ {kvs : Kvs} {ws : List (Key × V)}, KvR K ι G kvs ws → (valP kvs k = none ∧ valV ws k = none) ∨ ∃ p v, valP kvs k = some p ∧ valV ws k = some v ∧ Rep K ι G p v
  | [], ws, h => by rw [show ws = [] from h]; exact .inl ⟨rfl, rfl⟩
  | (j, p) :: r, ws, ⟨v, t, h1, h2, h3⟩ => by
    subst h1
    by_cases e : j = k
    · exact .inr ⟨p, v, by simp [valP, e], valV_pos e, h2⟩
    · rcases KvR.val (k := k) h3 with ⟨a, b⟩ | ⟨p', v', a, b, c⟩
      · exact .inl ⟨by simpa [valP, e] using a, by rw [valV_neg e]; exact b⟩
      · exact .inr ⟨p', v', by simpa [valP, e] using a, by rw [valV_neg e]; exact b, c⟩
theorem KvR.any {k : Key} : ∀ {kvs : Kvs} {ws : List (Key × V)}, KvR K ι G kvs ws → (kvs.any fun kv => decide (kv.1 = k)) = ws.any fun kv => decide (kv.1 = k)
  | [], ws, h => by rw [show ws = [] from h]; rfl
  | (j, p) :: r, ws, ⟨v, t, h1, _, h3⟩ => by
    subst h1
    rw [List.any_cons, List.any_cons, KvR.any h3]
theorem KvR.app : ∀ {kvs more : Kvs} {ws ms : List (Key × V)}, KvR K ι G kvs ws → KvR K ι G more ms → KvR K ι G (kvs ++ more) (ws ++ ms)
  | [], _, ws, _, h, h' => by rw [show ws = [] from h]; exact h'
  | (k, p) :: r, _, ws, _, ⟨v, t, h1, h2, h3⟩, h' => by subst h1; exact ⟨v, _, rfl, h2, KvR.app h3 h'⟩
theorem KvR.upd {k : Key} {p : PV} {v : V} (hv : Rep K ι G p v) : ∀ {kvs : Kvs} {ws : List (Key × V)}, KvR K ι G kvs ws → KvR K ι G (kvs.map fun kv => if kv.1 = k then (kv.1, p) else kv) (ws.map fun kv => if kv.1 = k then (kv.1, v) else kv)
  | [], ws, h => by rw [show ws = [] from h]; rfl
  | (j, q) :: r, ws, ⟨v', t, h1, h2, h3⟩ => by
    subst h1
    rw [List.map_cons, List.map_cons]
    by_cases e : j = k
    · rw [if_pos e, if_pos e]
      exact ⟨v, _, rfl, hv, KvR.upd hv h3⟩
    · rw [if_neg e, if_neg e]
      exact ⟨v', _, rfl, h2, KvR.upd hv h3⟩
theorem KvR.put {k : Key} {p : PV} {v : V} {kvs : Kvs} {ws : List (Key × V)} (h : KvR K ι G kvs ws) (hv : Rep K ι G p v) : KvR K ι G (putP kvs k p) (putK ws k v) := by
  unfold putP putK
  rw [h.any]
  split
  · exact KvR.upd hv h
  · exact h.app ⟨v, [], rfl, hv, rfl⟩
theorem KvR.drop {k : Key} : ∀ {kvs : Kvs} {ws : List (Key × V)}, KvR K ι G kvs ws → KvR K ι G (dropP kvs k) (dropK ws k)
  | [], ws, h => by rw [show ws = [] from h]; rfl
  | (j, q) :: r, ws, ⟨v, t, h1, h2, h3⟩ => by
    subst h1
    unfold dropP dropK
    by_cases e : j = k
    · rw [List.filter_cons_of_neg (by simp [e]), List.filter_cons_of_neg (by simp [e])]
      exact KvR.drop h3
    · rw [List.filter_cons_of_pos (by simp [e]), List.filter_cons_of_pos (by simp [e])]
      exact ⟨v, _, rfl, h2, KvR.drop h3⟩
theorem KvR.fst : ∀ {kvs : Kvs} {ws : List (Key × V)}, KvR K ι G kvs ws → ws.map (·.1) = kvs.map (·.1)
  | [], ws, h => by rw [show ws = [] from h]; rfl
  | (k, p) :: r, ws, ⟨v, t, h1, _, h3⟩ => by subst h1; rw [List.map_cons, List.map_cons, KvR.fst h3]
theorem KvR.get : ∀ {kvs : Kvs} {ws : List (Key × V)} {i : Nat} {k : Key} {p : PV}, KvR K ι G kvs ws → kvs[i]? = some (k, p) → ∃ v, ws[i]? = some (k, v) ∧ Rep K ι G p v
  | [], _, _, _, _, _, e => by simp at e
  | (j, q) :: r, ws, 0, k, p, ⟨v, t, h1, h2, _⟩, e => by
    subst h1
    simp only [List.getElem?_cons_zero, Option.some.injEq, Prod.mk.injEq] at e
    obtain ⟨rfl, rfl⟩ := e
    exact ⟨v, rfl, h2⟩
  | (j, q) :: r, ws, i + 1, k, p, ⟨v, t, h1, _, h3⟩, e => by
    subst h1
    simp only [List.getElem?_cons_succ] at e ⊢
    exact KvR.get h3 e
theorem KvR.of : ∀ {kvs : Kvs} {ws : List (Key × V)}, (kvs.map fun w => kP w.1).map keyP = ws.map (fun w => some w.1) → RepL K ι G (kvs.map (·.2)) (ws.map (·.2)) → KvR K ι G kvs ws
  | [], [], _, _ => rfl
  | [], _ :: _, h, _ => by simp at h
  | (k, p) :: r, [], h, _ => by simp at h
  | (k, p) :: r, (j, v) :: t, h, ⟨x, xs, h1, h2, h3⟩ => by
    simp only [List.map_cons, keyP_kP, List.cons.injEq, Option.some.injEq] at h
    obtain ⟨rfl, h⟩ := h
    simp only [List.map_cons, List.cons.injEq] at h1
    obtain ⟨rfl, rfl⟩ := h1
    exact ⟨v, t, rfl, h2, KvR.of h h3⟩
end
section
variable {K : PySem.W.Frag} {R : List (Addr × HO)} {ι : List Addr} {O : Sto} {H : Hp} {p q : PV} {x : V} {kvs : Kvs} {n : Nat} {E : Option XK} {Q : VK}
theorem key_read {G : Hp} {k : Key} (r : Rep K ι G p x) (e : keyP p = some k) : x = kV k := by
  rw [keyP_eq e] at r
  cases k <;> exact r
end
/-! ### k in d, d[k], d.get -/
section
variable {K : PySem.W.Frag} {E : XM} {ta tb tc : TE} {fa fb fc : EF}
end
/-! ### new dicts, stores -/
section
variable {K : PySem.W.Frag} {E : XM} {ta tb tc : TE} {fa fb fc : EF}
end
end Qx

/-! Own layer Qp: walking a mirror, in plain Lean. -/
namespace Qx
open PySem PySem.Spec PyProof.Rows L2 Gx
def Go {α : Type} (r : PR α) (Q : α → Sto → Prop) : Prop := match r with
  | .ok a O => Q a O
  | _ => False
structure Ks where
  nx : Slots → Sto → Prop
  rt : PV → Sto → Prop
  bk : Slots → Sto → Prop
  ct : Slots → Sto → Prop
  ex : PExc → Slots → Sto → Prop := fun _ _ _ => False
def GoS (K : Ks) (r : SR) : Prop := match r with
  | .next s O => K.nx s O
  | .ret p O => K.rt p O
  | .brk s O => K.bk s O
  | .cnt s O => K.ct s O
  | .exc e s O => K.ex e s O
  | .bad => False
section
variable {α β : Type} {Q : α → Sto → Prop} {Q' : β → Sto → Prop} {QP : PV → Sto → Prop} {QB : Bool → Sto → Prop} {QA : List PV → Sto → Prop} {s : Slots} {O O1 : Sto} {p q r : PV} {ps qs : List PV} {a b c : EF} {t u : TF} {f g : AF} {x y : SF} {K : Ks} {i j : Int} {n m : Nat}
theorem Go.eq {r : PR α} {v : α} (h : Go r fun w O' => w = v ∧ O' = O) : r = .ok v O := by
  cases r with
  | ok w O' => obtain ⟨rfl, rfl⟩ := h; rfl
  | _ => exact h.elim
theorem Go.mono {r : PR α} {Q1 : α → Sto → Prop} (h : Go r Q1) (k : ∀ v O', Q1 v O' → Q v O') : Go r Q := by
  cases r with
  | ok w O' => exact k _ _ h
  | _ => exact h.elim
theorem Go.ex {r : PR α} (h : Go r Q) : ∃ v O', r = .ok v O' ∧ Q v O' := by
  cases r with
  | ok w O' => exact ⟨w, O', rfl, h⟩
  | _ => exact h.elim
theorem go_at {r : PR α} {v : α} (e : r = .ok v O1) (k : Q v O1) : Go r Q := by rw [e]; exact k
theorem go_bind {r : PR α} {h : α → Sto → PR β} (k : Go r fun v O1 => Go (h v O1) Q') : Go (r.bind h) Q' := by
  cases r <;> exact k
theorem go_toS {r : PR α} {h : α → Sto → SR} (k : Go r fun v O1 => GoS K (h v O1)) : GoS K (r.toS s h) := by
  cases r <;> first | exact k | exact k.elim
/-! expressions -/
theorem go_var (e : s[n]? = some (some p)) (k : QP p O) : Go (eVar n s O) QP := by unfold eVar; rw [e]; exact k
theorem go_c (k : QP p O) : Go (eC p s O) QP := k
theorem go_op {op : PV → PV → Sto → PR PV} (k : Go (a s O) fun p O1 => Go (b s O1) fun q O2 => Go (op p q O2) QP) : Go (eOp op a b s O) QP := go_bind (k.mono fun _ _ h => go_bind h)
theorem go_un {op : PV → Sto → PR PV} (k : Go (a s O) fun p O1 => Go (op p O1) QP) : Go (eUn op a s O) QP := go_bind k
theorem go_nil (k : QA [] O) : Go (aNil s O) QA := k
theorem go_cons (k : Go (a s O) fun p O1 => Go (f s O1) fun ps O2 => QA (p :: ps) O2) : Go (aCons a f s O) QA := go_bind (k.mono fun _ _ h => go_bind h)
theorem go_cb {h : List PV → Sto → PR PV} (k : Go (f s O) fun ps O1 => Go (h ps O1) QP) : Go (eCB h f s O) QP := go_bind k
def GTup (ps : List PV) (O : Sto) (QP : PV → Sto → Prop) : Prop := szOk ps.length = true ∧ QP (.tup ps) O
def GLst (ps : List PV) (O : Sto) (QP : PV → Sto → Prop) : Prop := szOk ps.length = true ∧ QP (.lst ps) O
def GLstO (ps : List PV) (O : Sto) (QP : PV → Sto → Prop) : Prop := szOk ps.length = true ∧ QP (.loc O.length) (O ++ [some (.lst ps)])
theorem go_tup (k : Go (f s O) fun ps O1 => GTup ps O1 QP) : Go (eTup f s O) QP := go_bind (k.mono fun _ _ h => by rw [if_pos h.1]; exact h.2)
theorem go_lst (k : Go (f s O) fun ps O1 => GLst ps O1 QP) : Go (eLst f s O) QP := go_bind (k.mono fun _ _ h => by rw [if_pos h.1]; exact h.2)
theorem go_lstO (k : Go (f s O) fun ps O1 => GLstO ps O1 QP) : Go (eLstO f s O) QP := go_bind (k.mono fun _ _ h => by rw [if_pos h.1]; exact h.2)
theorem sz_small {n : Nat} (h : n.ble 100000 = true) : szOk n = true := by
  have := Nat.le_of_ble_eq_true h
  exact decide_eq_true (Nat.le_trans this (by decide))
theorem sz_le {n : Nat} (h : n ≤ 100000) : szOk n = true := decide_eq_true (Nat.le_trans h (by decide))
theorem szl_le {n : Nat} (h : n ≤ 100000) : szLt n = true := decide_eq_true (Nat.lt_of_le_of_lt h (by decide))
theorem g_tup0 (e : ps.length.ble 100000 = true) (k : QP (.tup ps) O) : GTup ps O QP := ⟨sz_small e, k⟩
theorem g_lst0 (e : ps.length.ble 100000 = true) (k : QP (.lst ps) O) : GLst ps O QP := ⟨sz_small e, k⟩
theorem g_lstO0 (e : ps.length.ble 100000 = true) (k : QP (.loc O.length) (O ++ [some (.lst ps)])) : GLstO ps O QP := ⟨sz_small e, k⟩
def GB (p : PV) (Q : Bool → Prop) : Prop := ∃ b, p = .bl b ∧ Q b
theorem g_b {b : Bool} {Q : Bool → Prop} (k : Q b) : GB (.bl b) Q := ⟨b, rfl, k⟩
theorem go_tst (k : Go (a s O) fun p O1 => GB p fun b => QB b O1) : Go (tTst a s O) QB := go_bind (k.mono fun _ _ ⟨b, e, h⟩ => by rw [e]; exact h)
theorem go_tand (k : Go (t s O) fun c O1 => if c = true then Go (u s O1) QB else QB false O1) : Go (tAndP t u s O) QB := go_bind (k.mono fun c _ h => by cases c <;> exact h)
theorem go_tor (k : Go (t s O) fun c O1 => if c = true then QB true O1 else Go (u s O1) QB) : Go (tOrP t u s O) QB := go_bind (k.mono fun c _ h => by cases c <;> exact h)
theorem go_tnot (k : Go (t s O) fun c O1 => QB (!c) O1) : Go (tNotP t s O) QB := go_bind k
theorem go_and (k : Go (a s O) fun p O1 => GB p fun c => if c = true then Go (b s O1) QP else QP (.bl false) O1) : Go (eAnd a b s O) QP := go_bind (k.mono fun _ _ ⟨c, e, h⟩ => by rw [e]; cases c <;> exact h)
theorem go_or (k : Go (a s O) fun p O1 => GB p fun c => if c = true then QP (.bl true) O1 else Go (b s O1) QP) : Go (eOr a b s O) QP := go_bind (k.mono fun _ _ ⟨c, e, h⟩ => by rw [e]; cases c <;> exact h)
theorem go_not (k : Go (a s O) fun p O1 => GB p fun c => QP (.bl (!c)) O1) : Go (eNot a s O) QP := go_bind (k.mono fun _ _ ⟨c, e, h⟩ => by rw [e]; exact h)
theorem go_if (k : Go (t s O) fun c O1 => if c = true then Go (a s O1) QP else Go (b s O1) QP) : Go (eIf t a b s O) QP := go_bind (k.mono fun c _ h => by cases c <;> exact h)
theorem go_chain {o1 o2 : PV → PV → Sto → PR PV} (k : Go (a s O) fun p O1 => Go (b s O1) fun q O2 => Go (o1 p q O2) fun z O3 => GB z fun k => if k = true then Go (c s O3) fun r O4 => Go (o2 q r O4) QP else QP (.bl false) O3) : Go (eChain o1 o2 a b c s O) QP :=
  go_bind (k.mono fun _ _ h => go_bind (h.mono fun _ _ h => go_bind (h.mono fun _ _ ⟨k, e, h⟩ => by rw [e]; cases k <;> first | exact h | exact go_bind h)))
def GM (m : MF) (ps : List PV) (O : Sto) (QP : PV → Sto → Prop) : Prop := Go (m ps O) QP
theorem g_m {m : MF} {ps' : List PV} (e : ps = ps') (k : Go (m ps' O) QP) : GM m ps O QP := by subst e; exact k
theorem go_call0 {m : MF} (k : Go (f s O) fun ps O1 => Go (m ps O1) QP) : Go (eCall m [] f s O) QP := go_bind (k.mono fun ps O1 h => by rw [List.append_nil]; exact h)
theorem go_call {m : MF} {dps : List PV} (k : Go (f s O) fun ps O1 => GM m (ps ++ dps) O1 QP) : Go (eCall m dps f s O) QP := go_bind k
def GMk (C : Str) (m : List PV → Sto → PR (List Str × List PV)) (ps : List PV) (O : Sto) (QP : PV → Sto → Prop) : Prop := Go (mkIns C (m ps O)) QP
theorem g_mk {C : Str} {m : List PV → Sto → PR (List Str × List PV)} {ps' : List PV} (e : ps = ps') (k : Go (mkIns C (m ps' O)) QP) : GMk C m ps O QP := by subst e; exact k
theorem g_and {A B : Prop} (h : A) (k : B) : A ∧ B := ⟨h, k⟩
theorem go_callK {m : MF} {gP : List PV → List PV → List PV} {n k : Nat} (h : Go (f s O) fun ps O1 => Go (g s O1) fun zs O2 => (ps.length = n ∧ zs.length = k) ∧ GM m (gP ps zs) O2 QP) : Go (eCallK m n k gP f g s O) QP := go_bind (h.mono fun _ _ h => go_bind (h.mono fun _ _ h => by rw [if_pos h.1]; exact h.2))
theorem go_make {C : Str} {m : List PV → Sto → PR (List Str × List PV)} {dps : List PV} (k : Go (f s O) fun ps O1 => GMk C m (ps ++ dps) O1 QP) : Go (eMake C m dps f s O) QP := go_bind k
theorem go_makeK {C : Str} {m : List PV → Sto → PR (List Str × List PV)} {gP : List PV → List PV → List PV} {n k : Nat} (h : Go (f s O) fun ps O1 => Go (g s O1) fun zs O2 => (ps.length = n ∧ zs.length = k) ∧ GMk C m (gP ps zs) O2 QP) : Go (eMakeK C m n k gP f g s O) QP := go_bind (h.mono fun _ _ h => go_bind (h.mono fun _ _ h => by rw [if_pos h.1]; exact h.2))
def GFld (C fl : Str) (p : PV) (O : Sto) (QP : PV → Sto → Prop) : Prop := ∃ ns ps q, insOf O p = some (C, ns, ps) ∧ (ns.zip ps).lookup fl = some q ∧ QP q O
theorem g_fld {C fl : Str} {ns : List Str} (e : insOf O p = some (C, ns, ps)) (e2 : (ns.zip ps).lookup fl = some q) (k : QP q O) : GFld C fl p O QP := ⟨ns, ps, q, e, e2, k⟩
theorem go_fld {C fl : Str} (k : Go (a s O) fun p O1 => GFld C fl p O1 QP) : Go (eFld C fl a s O) QP := go_bind (k.mono fun _ _ ⟨ns, ps, q, e, e2, h⟩ => by simp only [e, e2, if_true]; exact h)
def GMeth (C me : Str) (p : PV) (O : Sto) (A : Prop) : Prop := ∃ ns ps, insOf O p = some (C, ns, ps) ∧ (ns.zip ps).lookup me = none ∧ A
theorem g_meth {C me : Str} {ns : List Str} {A : Prop} (e : insOf O p = some (C, ns, ps)) (e2 : (ns.zip ps).lookup me = none) (k : A) : GMeth C me p O A := ⟨ns, ps, e, e2, k⟩
theorem go_meth {C me : Str} {mf : MF} {dps : List PV} (k : Go (a s O) fun p O1 => GMeth C me p O1 (Go (f s O1) fun ps O2 => GM mf (p :: (ps ++ dps)) O2 QP)) : Go (eMeth C me mf dps a f s O) QP := go_bind (k.mono fun _ _ ⟨ns, ps, e, e2, h⟩ => by simp only [e, e2, Option.isNone_none, and_self, if_true]; exact go_bind h)
theorem go_methK {C me : Str} {mf : MF} {gP : List PV → List PV → List PV} {n k : Nat} (h : Go (a s O) fun p O1 => GMeth C me p O1 (Go (f s O1) fun ps O2 => Go (g s O2) fun zs O3 => (ps.length + 1 = n ∧ zs.length = k) ∧ GM mf (gP (p :: ps) zs) O3 QP)) : Go (eMethK C me mf n k gP a f g s O) QP := go_bind (h.mono fun _ _ ⟨ns, ps, e, e2, h⟩ => by
  simp only [e, e2, Option.isNone_none, and_self, if_true]
  exact go_bind (h.mono fun _ _ h => go_bind (h.mono fun _ _ h => by rw [if_pos h.1]; exact h.2)))
theorem go_ifp {c : Prop} [Decidable c] {r r' : PR PV} (h : c) (k : Go r QP) : Go (if c then r else r') QP := by rw [if_pos h]; exact k
/-! slices -/
theorem go_ono {QO : Option Int → Sto → Prop} (k : QO none O) : Go (oNo s O) QO := k
def GI (p : PV) (Q : Int → Prop) : Prop := ∃ i, p = .int i ∧ Q i
theorem g_i {Q : Int → Prop} (k : Q i) : GI (.int i) Q := ⟨i, rfl, k⟩
theorem go_oso {QO : Option Int → Sto → Prop} (k : Go (a s O) fun p O1 => GI p fun i => QO (some i) O1) : Go (oSo a s O) QO := go_bind (k.mono fun _ _ ⟨i, e, h⟩ => by rw [e]; exact h)
theorem go_sl {h : PV → Option Int → Option Int → Sto → PR PV} {l v : OF} (k : Go (a s O) fun p O1 => Go (l s O1) fun i O2 => Go (v s O2) fun j O3 => Go (h p i j O3) QP) : Go (eSl h a l v s O) QP := go_bind (k.mono fun _ _ h => go_bind (h.mono fun _ _ h => go_bind h))
/-! statements -/
theorem go_seq (k : GoS { K with nx := fun s1 O1 => GoS K (y s1 O1) } (x s O)) : GoS K (sSeq x y s O) := by
  unfold sSeq
  cases e : x s O <;> rw [e] at k <;> exact k
theorem go_skip (k : K.nx s O) : GoS K (sSkip s O) := k
theorem go_ret (k : Go (a s O) K.rt) : GoS K (sRet a s O) := go_toS k
theorem go_retN (k : K.rt .non O) : GoS K (sRetN s O) := k
theorem go_exp (k : Go (a s O) fun _ O1 => K.nx s O1) : GoS K (sExp a s O) := go_toS k
theorem go_ifS (k : Go (t s O) fun c O1 => if c = true then GoS K (x s O1) else GoS K (y s O1)) : GoS K (sIf t x y s O) := go_toS (k.mono fun c _ h => by cases c <;> exact h)
theorem go_asg {G : GF} (k : Go (a s O) fun p O1 => Go (G p s O1) fun s1 O2 => K.nx s1 O2) : GoS K (sAsg a G s O) := go_toS (k.mono fun _ _ h => go_toS h)
theorem go_nm {QS : Slots → Sto → Prop} {s' : Slots} (e : s.set n (some p) = s') (k : QS s' O) : Go (gNm n p s O) QS := by subst e; exact k
def GPar (n m : Nat) (s : Slots) (ps : List PV) (Q : Slots → Prop) : Prop := ∃ p q, ps = [p, q] ∧ Q ((s.set n (some p)).set m (some q))
theorem g_par {Q : Slots → Prop} {s' : Slots} (e : (s.set n (some p)).set m (some q) = s') (k : Q s') : GPar n m s [p, q] Q := ⟨p, q, rfl, by rw [e]; exact k⟩
theorem go_par (k : Go (f s O) fun ps O1 => GPar n m s ps fun s1 => K.nx s1 O1) : GoS K (sPar n m f s O) := go_toS (k.mono fun _ _ ⟨p, q, e, h⟩ => by rw [e]; exact h)
def GPar3 (n m l : Nat) (s : Slots) (ps : List PV) (Q : Slots → Prop) : Prop := ∃ p q r, ps = [p, q, r] ∧ Q (((s.set n (some p)).set m (some q)).set l (some r))
theorem g_par3 {l : Nat} {Q : Slots → Prop} {s' : Slots} (e : ((s.set n (some p)).set m (some q)).set l (some r) = s') (k : Q s') : GPar3 n m l s [p, q, r] Q := ⟨p, q, r, rfl, by rw [e]; exact k⟩
theorem go_par3 {l : Nat} (k : Go (f s O) fun ps O1 => GPar3 n m l s ps fun s1 => K.nx s1 O1) : GoS K (sPar3 n m l f s O) := go_toS (k.mono fun _ _ ⟨p, q, r, e, h⟩ => by rw [e]; exact h)
def GSet (s : Slots) (n : Nat) (r : PV) (Q : Slots → Prop) : Prop := Q (s.set n (some r))
theorem g_set {Q : Slots → Prop} {s' : Slots} (e : s.set n (some p) = s') (k : Q s') : GSet s n p Q := by subst e; exact k
theorem go_aug {op : PV → PV → Sto → PR PV} (e : s[n]? = some (some p)) (k : Go (a s O) fun q O1 => Go (op p q O1) fun r O2 => GSet s n r fun s1 => K.nx s1 O2) : GoS K (sAug n op a s O) := by
  unfold sAug
  rw [e]
  exact go_toS (k.mono fun _ _ h => go_toS h)
/-! targets -/
theorem go_gtup {gs : List PV → Slots → Sto → PR Slots} {QS : Slots → Sto → Prop} (e : tupOf p = some ps) (e2 : ps.length = n) (k : Go (gs ps s O) QS) : Go (gTupP n gs p s O) QS := by
  unfold gTupP
  simp only [e, e2, if_true]
  exact k
theorem go_glst {gs : List PV → Slots → Sto → PR Slots} {QS : Slots → Sto → Prop} (e : lstOf O p = some ps) (e2 : ps.length = n) (k : Go (gs ps s O) QS) : Go (gLstP n gs p s O) QS := by
  unfold gLstP
  simp only [e, e2, if_true]
  exact k
theorem go_gnil {QS : Slots → Sto → Prop} (k : QS s O) : Go (gNilP [] s O) QS := k
theorem go_gcons {G : GF} {gs : List PV → Slots → Sto → PR Slots} {QS : Slots → Sto → Prop} (k : Go (G p s O) fun s1 O1 => Go (gs ps s1 O1) QS) : Go (gConsP G gs (p :: ps) s O) QS := go_bind k
def GSub (v : PV) (s : Slots) (p q : PV) (O : Sto) (QS : Slots → Sto → Prop) : Prop := ∃ n k ps j, p = .loc n ∧ q = .int k ∧ O[n]? = some (some (.lst ps)) ∧ ixN ps.length k = some j ∧ QS s (O.set n (some (.lst (ps.set j v))))
theorem g_sub {v : PV} {QS : Slots → Sto → Prop} {j' : Nat} (e : O[n]? = some (some (.lst ps))) (e2 : ixN ps.length i = some j') (k : QS s (O.set n (some (.lst (ps.set j' v))))) : GSub v s (.loc n) (.int i) O QS := ⟨n, i, ps, j', rfl, rfl, e, e2, k⟩
theorem go_gsub {v : PV} {QS : Slots → Sto → Prop} (k : Go (a s O) fun p O1 => Go (b s O1) fun q O2 => GSub v s p q O2 QS) : Go (gSubL a b v s O) QS :=
  go_bind (k.mono fun _ _ h => go_bind (h.mono fun _ _ ⟨n, k, ps, j, e1, e2, e3, e4, hh⟩ => by subst e1; subst e2; simp only [e3, e4]; exact hh))
/-! defs -/
theorem go_def {N : Nat} {body : SF} {s' : Slots} (e : ps.length = n) (e2 : ps.map some ++ List.replicate (N - n) none = s') (k : GoS { nx := fun _ O1 => QP .non O1, rt := QP, bk := fun _ _ => False, ct := fun _ _ => False } (body s' O)) : Go (mkDef n N body ps O) QP := by
  unfold mkDef
  rw [if_pos e, e2]
  cases q : body s' O <;> rw [q] at k <;> first | exact k | exact k.elim
/-! values -/
theorem go_addI (k : QP (.int (i + j)) O) : Go (addI (.int i) (.int j) O) QP := k
theorem go_subI (k : QP (.int (i - j)) O) : Go (subI (.int i) (.int j) O) QP := k
theorem go_i2 {c : Int → Int → Bool} {g : Int → Int → PV} (e : c i j = true) (k : QP (g i j) O) : Go (i2 c g (.int i) (.int j) O) QP := by
  unfold i2
  simp only [e, if_true]
  exact k
theorem go_mulI (e : mulOk i j = true) (k : QP (.int (i * j)) O) : Go (mulI (.int i) (.int j) O) QP := go_i2 e k
theorem go_fdivI (e : divOk i j = true) (k : QP (.int (i / j)) O) : Go (fdivI (.int i) (.int j) O) QP := go_i2 e k
theorem go_modI (e : 0 < j) (k : QP (.int (i % j)) O) : Go (modI (.int i) (.int j) O) QP := go_i2 (decide_eq_true e) k
theorem go_powI (e : powOk i j = true) (k : QP (.int (i ^ j.toNat)) O) : Go (powI (.int i) (.int j) O) QP := go_i2 e k
theorem go_ltI (k : QP (.bl (decide (i < j))) O) : Go (ltI (.int i) (.int j) O) QP := k
theorem go_leI (k : QP (.bl (decide (i ≤ j))) O) : Go (leI (.int i) (.int j) O) QP := k
theorem go_gtI (k : QP (.bl (decide (j < i))) O) : Go (gtI (.int i) (.int j) O) QP := k
theorem go_geI (k : QP (.bl (decide (j ≤ i))) O) : Go (geI (.int i) (.int j) O) QP := k
theorem go_negI (k : QP (.int (-i)) O) : Go (negI (.int i) O) QP := k
theorem go_eqI (k : QP (.bl (decide (i = j))) O) : Go (eqS (.int i) (.int j) O) QP := by
  have e : decide (V.int i = V.int j) = decide (i = j) := Gx.dec_int
  show QP (.bl (decide (V.int i = V.int j))) O
  rw [e]; exact k
theorem go_neI (k : QP (.bl (!decide (i = j))) O) : Go (neS (.int i) (.int j) O) QP := by
  have e : decide (V.int i = V.int j) = decide (i = j) := Gx.dec_int
  show QP (.bl (!decide (V.int i = V.int j))) O
  rw [e]; exact k
theorem go_eqB {b c : Bool} (k : QP (.bl (decide (b = c))) O) : Go (eqS (.bl b) (.bl c) O) QP := by
  show QP (.bl (decide (V.bl b = V.bl c))) O
  rw [Gx.dec_bl]; exact k
theorem go_neB {b c : Bool} (k : QP (.bl (!decide (b = c))) O) : Go (neS (.bl b) (.bl c) O) QP := by
  show QP (.bl (!decide (V.bl b = V.bl c))) O
  rw [Gx.dec_bl]; exact k
theorem go_eqZ {b c : Str} (k : QP (.bl (decide (b = c))) O) : Go (eqS (.str b) (.str c) O) QP := by
  show QP (.bl (decide (V.str b = V.str c))) O
  rw [Gx.dec_str]; exact k
theorem go_neZ {b c : Str} (k : QP (.bl (!decide (b = c))) O) : Go (neS (.str b) (.str c) O) QP := by
  show QP (.bl (!decide (V.str b = V.str c))) O
  rw [Gx.dec_str]; exact k
theorem go_isN (k : QP (.bl (isNon p)) O) : Go (isN p .non O) QP := k
theorem go_notN (k : QP (.bl (!isNon p)) O) : Go (notN p .non O) QP := k
theorem go_ixL (e : lstOf O p = some ps) (e2 : atI ps i = some r) (k : QP r O) : Go (ixL p (.int i) O) QP := by
  unfold ixL
  simp only [e, e2]
  exact k
theorem go_ixT (e2 : atI ps i = some r) (k : QP r O) : Go (ixT (.tup ps) (.int i) O) QP := by
  unfold ixT tupOf
  simp only [e2]
  exact k
theorem atI_inP {xs : List PV} {r : Int} (h0 : 0 ≤ r) (h1 : r < (xs.length : Int)) : ∃ v, atI xs r = some v ∧ v ∈ xs := by
  have hl : r.toNat < xs.length := by omega
  refine ⟨xs[r.toNat], ?_, List.getElem_mem hl⟩
  have e : atI xs ((r.toNat : Nat) : Int) = some xs[r.toNat] := atI_nat (List.getElem?_eq_getElem hl)
  have er : ((r.toNat : Nat) : Int) = r := by omega
  rw [er] at e
  exact e
theorem go_ixR (e : lstOf O p = some ps) (h0 : 0 ≤ i) (h1 : i < ps.length) (k : ∀ r, r ∈ ps → QP r O) : Go (ixL p (.int i) O) QP := by
  obtain ⟨v, h2, h3⟩ := atI_inP h0 h1
  exact go_ixL e h2 (k v h3)
theorem go_slL {l v : Option Int} (e : lstOf O p = some ps) (k : QP (.lst (cutP ps l v)) O) : Go (slL p l v O) QP := by
  unfold slL
  simp only [e]
  exact k
theorem go_slT {l v : Option Int} (e : (HT.sIx ps.length 0 l == 0 && HT.sIx ps.length ps.length v == ps.length) = false) (e2 : cutP ps l v = qs) (k : QP (.tup qs) O) : Go (slT (.tup ps) l v O) QP := by
  unfold slT tupOf
  simp only [e, e2]
  exact k
theorem go_catT {rs : List PV} (e : (!ps.isEmpty && !qs.isEmpty && szOk (ps.length + qs.length)) = true) (e2 : ps ++ qs = rs) (k : QP (.tup rs) O) : Go (catT (.tup ps) (.tup qs) O) QP := by
  subst e2
  unfold catT tupOf
  simp only [e, if_true]
  exact k
theorem go_catL (e1 : lstT O p = some ps) (e2 : lstT O q = some qs) (e : szOk (ps.length + qs.length) = true) (k : QP (.lst (ps ++ qs)) O) : Go (catL p q O) QP := by
  unfold catL
  simp only [e1, e2, e, if_true]
  exact k
theorem go_oeq {C : Str} {mf : MF} (e1 : insIs O C p = true) (e2 : insIs O C q = true) (k : Go (mf [p, q] O) fun r O1 => GB r fun b => QP (.bl b) O1) : Go (oeqP C mf p q O) QP := by
  unfold oeqP
  rw [if_pos (by rw [e1, e2]; rfl)]
  unfold boolR
  cases h : mf [p, q] O with
  | ok v O' => rw [h] at k; obtain ⟨b, e, h'⟩ := k; subst e; exact h'
  | _ => rw [h] at k; exact k.elim
theorem go_one {C : Str} {mf : MF} (e1 : insIs O C p = true) (e2 : insIs O C q = true) (k : Go (mf [p, q] O) fun r O1 => GB r fun b => QP (.bl (!b)) O1) : Go (oneP C mf p q O) QP := by
  unfold oneP
  rw [if_pos (by rw [e1, e2]; rfl)]
  unfold boolR
  cases h : mf [p, q] O with
  | ok v O' => rw [h] at k; obtain ⟨b, e, h'⟩ := k; subst e; exact h'
  | _ => rw [h] at k; exact k.elim
theorem go_olen {C : Str} {mf : MF} (e1 : insIs O C p = true) (k : Go (mf [p] O) fun r O1 => ∃ n, r = .int n ∧ (0 ≤ n ∧ n < 2 ^ 63) ∧ QP (.int n) O1) : Go (olenP C mf [p] O) QP := by
  unfold olenP
  simp only [e1, if_true]
  cases h : mf [p] O with
  | ok v O' =>
    rw [h] at k
    obtain ⟨n, e, ⟨h1, h2⟩, h'⟩ := k
    subst e
    show Go (if (decide (0 ≤ n) && decide (n < 2 ^ 63)) = true then PR.ok (PV.int n) O' else .bad) QP
    rw [if_pos (by rw [decide_eq_true h1, decide_eq_true h2]; rfl)]
    exact h'
  | _ => rw [h] at k; exact k.elim
theorem go_isi {cs : List Str} {c : PV} {t : Sum String Str} {b : Bool} (e : tyOf O p = some t) (e2 : kitP cs t c = some b) (k : QP (.bl b) O) : Go (isiP cs [p, c] O) QP := by
  unfold isiP b2
  simp only [e, e2]
  exact k
theorem kit_same {cs : List Str} {C : Str} (h : cs.contains C = true) : kitP cs (.inr C) (.cls C) = some true := by
  unfold kitP
  simp only [h, Bool.and_self, if_true, decide_true]
theorem kit_ii {cs : List Str} : kitP cs (.inl "int") (.ty "int") = some true := kB1
theorem kit_ib {cs : List Str} : kitP cs (.inl "int") (.ty "bool") = some false := kB2
theorem kit_bb {cs : List Str} : kitP cs (.inl "bool") (.ty "bool") = some true := kB3
theorem kit_bi {cs : List Str} : kitP cs (.inl "bool") (.ty "int") = some true := kB4
theorem kit_ss {cs : List Str} : kitP cs (.inl "str") (.ty "str") = some true := kB5
theorem kit_tt {cs : List Str} : kitP cs (.inl "tuple") (.ty "tuple") = some true := kB6
theorem kit_nb {cs : List Str} : kitP cs (.inl "NoneType") (.ty "bool") = some false := kB7
theorem kit_ni {cs : List Str} : kitP cs (.inl "NoneType") (.ty "int") = some false := kB8
theorem kit_nt {cs : List Str} : kitP cs (.inl "NoneType") (.ty "tuple") = some false := kB9
theorem kit_si {cs : List Str} : kitP cs (.inl "str") (.ty "int") = some false := kB10
theorem go_len (e : seqOf O p = some ps) (k : QP (.int ps.length) O) : Go (bLen [p] O) QP := by
  unfold bLen b1
  simp only [e]
  exact k
theorem go_rng (k : QP (.rng i j) O) : Go (bRng [.int i, .int j] O) QP := k
theorem go_max2 (k : QP (.int (max i j)) O) : Go (bMax2 [.int i, .int j] O) QP := k
theorem go_min2 (k : QP (.int (min i j)) O) : Go (bMin2 [.int i, .int j] O) QP := k
theorem go_abs (k : QP (.int (if i < 0 then -i else i)) O) : Go (bAbs [.int i] O) QP := k
theorem go_intI (k : QP (.int i) O) : Go (bInt [.int i] O) QP := k
theorem go_intB {b : Bool} (k : QP (.int (if b then 1 else 0)) O) : Go (bInt [.bl b] O) QP := k
theorem go_divmod (e : divOk i j = true) (k : QP (.tup [.int (i / j), .int (i % j)]) O) : Go (bDivmod [.int i, .int j] O) QP := by
  unfold bDivmod b2
  simp only [e, if_true]
  exact k
theorem go_is {f : List Int → Option PV} {ns : List Int} (e : (lstOf O p).bind intsOf = some ns) (e2 : f ns = some q) (k : QP q O) : Go (bIs f [p] O) QP := by
  unfold bIs b1
  simp only [e, e2]
  exact k
theorem go_sum {ns : List Int} (e : lstOf O p = some (ns.map .int)) (k : QP (.int ns.sum) O) : Go (bSum [p] O) QP := go_is (by rw [e]; exact intsOf_map ns) rfl k
theorem go_bs {f : List Bool → PV} {ns : List Bool} (e : lstOf O p = some (ns.map .bl)) (k : QP (f ns) O) : Go (bBs f [p] O) QP := by
  unfold bBs b1
  have e : (lstOf O p).bind blsOf = some ns := by rw [e]; exact blsOf_map ns
  simp only [e]
  exact k
theorem go_any {ns : List Bool} (e : lstOf O p = some (ns.map .bl)) (k : QP (.bl (ns.any id)) O) : Go (bAny [p] O) QP := go_bs e k
theorem go_bTupL (e : lstOf O p = some ps) (k : QP (.tup ps) O) : Go (bTup [p] O) QP := by
  unfold bTup b1
  simp only [e]
  exact k
theorem go_bTupT (k : QP (.tup ps) O) : Go (bTup [.tup ps] O) QP := k
theorem go_bLst (e : seqOf O p = some ps) (k : QP (.lst ps) O) : Go (bLst [p] O) QP := by
  unfold bLst b1
  simp only [e]
  exact k
theorem go_append (e : O[n]? = some (some (.lst ps))) (h : szLt ps.length = true) (k : QP .non (O.set n (some (.lst (ps ++ [q]))))) : Go (appendP (.loc n) [q] O) QP := by
  unfold appendP locL
  simp only [e, h, if_true]
  exact k
theorem go_extend (e : O[n]? = some (some (.lst ps))) (e2 : lstT O q = some qs) (h : szOk (ps.length + qs.length) = true) (k : QP .non (O.set n (some (.lst (ps ++ qs))))) : Go (extendP (.loc n) [q] O) QP := by
  unfold extendP locL
  simp only [e, e2, h, if_true]
  exact k
theorem go_bml {h : PV → List PV → Sto → PR PV} (k : Go (a s O) fun p O1 => (lstOf O1 p).isSome = true ∧ Go (f s O1) fun ps O2 => Go (h p ps O2) QP) : Go (eBml h a f s O) QP := go_bind (k.mono fun _ _ ⟨e, h⟩ => by rw [if_pos e]; exact go_bind h)
/-! what is walked -/
theorem go_iT {QI : ItP → Sto → Prop} (k : Go (a s O) fun p O1 => ∃ ps, tupOf p = some ps ∧ QI (ps, none) O1) : Go (iT a s O) QI := go_bind (k.mono fun p O1 ⟨ps, e, h⟩ => by simp only [e]; exact h)
theorem go_iR1 {QI : ItP → Sto → Prop} (k : Go (f s O) fun ps O1 => ∃ j, ps = [.int j] ∧ (-(2 ^ 62) ≤ j ∧ j < 2 ^ 62) ∧ QI (rgL 0 j.toNat, none) O1) : Go (iR1 f s O) QI := go_bind (k.mono fun ps O1 ⟨j, e, c, h⟩ => by
  subst e
  simp only
  rw [if_pos (show rgOk j = true from decide_eq_true c)]
  exact h)
theorem go_iR2 {QI : ItP → Sto → Prop} (k : Go (f s O) fun ps O1 => ∃ i j, ps = [.int i, .int j] ∧ (-(2 ^ 62) ≤ i ∧ i < 2 ^ 62 ∧ -(2 ^ 62) ≤ j ∧ j < 2 ^ 62) ∧ QI (rgL i (j - i).toNat, none) O1) : Go (iR2 f s O) QI := go_bind (k.mono fun ps O1 ⟨i, j, e, c, h⟩ => by
  subst e
  simp only
  rw [if_pos (by rw [show rgOk i = true from decide_eq_true ⟨c.1, c.2.1⟩, show rgOk j = true from decide_eq_true ⟨c.2.2.1, c.2.2.2⟩]; rfl)]
  exact h)
theorem g_r1 {F : Int → Prop} (h : -(2 ^ 62) ≤ j ∧ j < 2 ^ 62) (k : F j) : ∃ j', [PV.int j] = [.int j'] ∧ (-(2 ^ 62) ≤ j' ∧ j' < 2 ^ 62) ∧ F j' := ⟨j, rfl, h, k⟩
theorem g_r2 {F : Int → Int → Prop} (h : -(2 ^ 62) ≤ i ∧ i < 2 ^ 62 ∧ -(2 ^ 62) ≤ j ∧ j < 2 ^ 62) (k : F i j) : ∃ i' j', [PV.int i, PV.int j] = [.int i', .int j'] ∧ (-(2 ^ 62) ≤ i' ∧ i' < 2 ^ 62 ∧ -(2 ^ 62) ≤ j' ∧ j' < 2 ^ 62) ∧ F i' j' := ⟨i, j, rfl, h, k⟩
theorem g_ips {F : List PV → Prop} (e : frL p = some ps) (k : F ps) : ∃ ps', frL p = some ps' ∧ F ps' := ⟨ps, e, k⟩
theorem g_ipt {F : List PV → Prop} (e : tupOf p = some ps) (k : F ps) : ∃ ps', tupOf p = some ps' ∧ F ps' := ⟨ps, e, k⟩
/-! loops -/
theorem go_loop {tgt : GF} {body : SF} (J : Nat → Slots → Sto → Prop) : ∀ (items : List PV) (k : Nat) (s : Slots) (O : Sto), J k s O → (∀ i p s O, items[i]? = some p → J (k + i) s O → Go (tgt p s O) fun s1 O1 => GoS { K with nx := J (k + i + 1), bk := K.nx, ct := J (k + i + 1) } (body s1 O1)) →
    (∀ s O, J (k + items.length) s O → K.nx s O) → GoS K (loopL none tgt body items s O)
  | [], k, s, O, h0, _, hd => hd s O h0
  | p :: items, k, s, O, h0, hs, hd => by
    refine go_toS ((hs 0 p s O rfl h0).mono fun s1 O1 h1 => ?_)
    have again : ∀ s2 O2, J (k + 1) s2 O2 → GoS K (loopL none tgt body items s2 O2) := fun s2 O2 h2 => go_loop J items (k + 1) s2 O2 h2 (fun i p s O e h => by
      have q := hs (i + 1) p s O (by simpa using e) (by rw [show k + (i + 1) = k + 1 + i by omega]; exact h)
      rw [show k + (i + 1) + 1 = k + 1 + i + 1 by omega] at q
      exact q) fun s O h => hd s O (by rw [List.length_cons, show k + (items.length + 1) = k + 1 + items.length by omega]; exact h)
    show GoS K (match body s1 O1 with | .next s2 O2 => loopL none tgt body items s2 O2 | .cnt s2 O2 => loopL none tgt body items s2 O2 | .brk s2 O2 => .next s2 O2 | x => x)
    cases e : body s1 O1 <;> rw [e] at h1 <;> first | exact again _ _ h1 | exact h1
theorem go_for {fI : IF} {tgt : GF} {body : SF} (k : Go (fI s O) fun it O1 => GoS K (loopL it.2 tgt body it.1 s O1)) : GoS K (sFor fI tgt body s O) := go_toS k
/-! comprehensions -/
def GoC (tgt : GF) (t : TF) (e : EF) (s0 : Slots) (p : PV) (O : Sto) (Q : Option PV → Sto → Prop) : Prop :=
  Go (tgt p s0 O) fun s1 O1 => Go (t s1 O1) fun b O2 => if b = true then Go (e s1 O2) fun q O3 => Q (some q) O3 else Q none O2
theorem go_lc {fI : IF} {tgt : GF} {vs : List Nat} {s0 : Slots} (e0 : wipeP s vs = s0) (k : Go (fI s O) fun it O1 => ∃ ps O2, compL it.2 tgt t b s0 it.1 [] O1 = .ok ps O2 ∧ QP (.lst ps) O2) : Go (eLc fI tgt t b vs s O) QP := by
  subst e0
  unfold eLc lcC
  refine go_bind (go_bind (k.mono fun it O1 ⟨ps, O2, e, h⟩ => ?_))
  rw [e]
  exact h
theorem go_lcO {fI : IF} {tgt : GF} {vs : List Nat} {s0 : Slots} (e0 : wipeP s vs = s0) (k : Go (fI s O) fun it O1 => ∃ ps O2, compL it.2 tgt t b s0 it.1 [] O1 = .ok ps O2 ∧ QP (.loc O2.length) (O2 ++ [some (.lst ps)])) : Go (eLcO fI tgt t b vs s O) QP := by
  subst e0
  unfold eLcO lcC
  refine go_bind (go_bind (k.mono fun it O1 ⟨ps, O2, e, h⟩ => ?_))
  rw [e]
  exact h
theorem goc1 {tgt : GF} {e : EF} {s0 : Slots} {Q : Option PV → Sto → Prop} (k : Go (tgt p s0 O) fun s1 O1 => Go (e s1 O1) fun q O3 => Q (some q) O3) : GoC tgt tYesP e s0 p O Q := k.mono fun s1 O1 h => h
theorem comp_nil {tgt : GF} {t : TF} {e : EF} {s0 : Slots} {acc : List PV} {F : List PV → Sto → Prop} (k : F acc O) : ∃ ps O2, compL none tgt t e s0 [] acc O = .ok ps O2 ∧ F ps O2 := ⟨acc, O, rfl, k⟩
theorem comp_one {tgt : GF} {t : TF} {e : EF} {s0 : Slots} {items acc : List PV} {F : List PV → Sto → Prop} (hl : acc.length.ble 100000 = true) (k : GoC tgt t e s0 p O fun q O' => ∃ ps O2, compL none tgt t e s0 items (acc ++ q.toList) O' = .ok ps O2 ∧ F ps O2) : ∃ ps O2, compL none tgt t e s0 (p :: items) acc O = .ok ps O2 ∧ F ps O2 := by
  unfold GoC at k
  obtain ⟨s1, O1, e1, h2⟩ := k.ex
  obtain ⟨b, O2, e2, h3⟩ := h2.ex
  show ∃ ps O2, ((tgt p s0 O).bind fun s1 O1 => (t s1 O1).bind fun b O2 => if b = true then (e s1 O2).bind fun q O3 => if szLt acc.length = true then compL none tgt t e s0 items (acc ++ [q]) O3 else .bad else compL none tgt t e s0 items acc O2) = _ ∧ _
  rw [e1]
  simp only [PR.bind]
  rw [e2]
  cases b with
  | true =>
    simp only [if_true] at h3 ⊢
    obtain ⟨q, O3, e3, h4⟩ := h3.ex
    rw [e3]
    simp only
    rw [if_pos (szl_le (Nat.le_of_ble_eq_true hl))]
    exact h4
  | false =>
    have h3 : ∃ ps O2', compL none tgt t e s0 items (acc ++ []) O2 = .ok ps O2' ∧ F ps O2' := h3
    rw [List.append_nil] at h3
    exact h3
def GAcc (acc : List PV) (F : List PV → Prop) : Prop := F acc
theorem g_acc {acc acc' : List PV} {F : List PV → Prop} (e : acc = acc') (k : F acc') : GAcc acc F := by subst e; exact k
theorem comp_one1 {tgt : GF} {e : EF} {s0 : Slots} {items acc : List PV} {F : List PV → Sto → Prop} (hl : acc.length.ble 100000 = true) (k : Go (tgt p s0 O) fun s1 O1 => Go (e s1 O1) fun q O' => GAcc (acc ++ [q]) fun acc' => ∃ ps O2, compL none tgt tYesP e s0 items acc' O' = .ok ps O2 ∧ F ps O2) : ∃ ps O2, compL none tgt tYesP e s0 (p :: items) acc O = .ok ps O2 ∧ F ps O2 := comp_one hl (goc1 k)
theorem go_yes (k : QB true O) : Go (tYesP s O) QB := k

end
/-! branches -/
section
variable {A B : Prop} {c : Prop} {inst : Decidable c}
theorem qbr (h1 : c → A) (h2 : ¬ c → B) : if decide c = true then A else B := Gx.br h1 h2
theorem bt (h : c) (k : A) : if decide c = true then A else B := by rw [if_pos (decide_eq_true h)]; exact k
theorem bf (h : ¬ c) (k : B) : if decide c = true then A else B := by rw [if_neg (by rw [decide_eq_false h]; exact Bool.false_ne_true)]; exact k
theorem bnt (h : ¬ c) (k : A) : if (!decide c) = true then A else B := by rw [if_pos (by rw [decide_eq_false h]; rfl)]; exact k
theorem bnf (h : c) (k : B) : if (!decide c) = true then A else B := by rw [if_neg (by rw [decide_eq_true h]; exact Bool.false_ne_true)]; exact k
end
/-! instances, purses -/
def Pu (O : Sto) (n : Nat) : Prop := ∃ a b c : Int, O[n]? = some (some (.lst [.int a, .int b, .int c])) ∧ 0 ≤ a ∧ a < 2147483399 ∧ 0 ≤ b
theorem get_set {O : Sto} {n : Nat} {x y : Option PV} (h : O[n]? = some x) : (O.set n y)[n]? = some y := by
  have := (List.getElem?_eq_some_iff.mp h).1
  rw [List.getElem?_set_self this]
theorem get_app {O : Sto} {x : Option PV} : (O ++ [x])[O.length]? = some x := by
  rw [List.getElem?_append_right (Nat.le_refl _)]
  simp
theorem lst_loc {O : Sto} {n : Nat} {ps : List PV} (h : O[n]? = some (some (.lst ps))) : lstOf O (.loc n) = some ps := by simp [lstOf, h]
theorem toDL_ints : ∀ ns : List Int, toDL (ns.map .int) = some (ns.map .int)
  | [] => by simp [toDL]
  | n :: ns => by simp only [List.map_cons, toDL, toD0, toDL_ints ns]
theorem canLay_ints : ∀ ns : List Int, PyData.canLayAll0 (ns.map PyData.int) = true
  | [] => rfl
  | n :: ns => by
    show (PyData.canLay0 (.int n) && PyData.canLayAll0 (ns.map PyData.int)) = true
    rw [canLay_ints ns]
    rfl
theorem depthAll_ints : ∀ ns : List Int, PyData.depthAll (ns.map PyData.int) ≤ 1
  | [] => by simp [PyData.depthAll]
  | n :: ns => by
    have h := depthAll_ints ns
    simp only [List.map_cons, PyData.depthAll, PyData.depth]
    omega
theorem depth_ints (ns : List Int) : (PyData.tuple (ns.map PyData.int)).depth ≤ 64 ∧ (PyData.list (ns.map PyData.int)).depth ≤ 64 := by
  have h := depthAll_ints ns
  simp only [PyData.depth]
  omega
theorem shaped_ints {ns : List Int} : SeqAt.shaped (.tuple (ns.map PyData.int)) = true := by
  unfold SeqAt.shaped
  rw [decide_eq_true (depth_ints ns).1, Bool.and_true]
  show PyData.canLayAll0 _ = true
  exact canLay_ints ns
theorem scVs_ints : ∀ ns : List Int, scVs (ns.map PV.int) = some (ns.map V.int)
  | [] => rfl
  | n :: ns => by simp only [List.map_cons, scVs, scV, scVs_ints ns]
def unP : PV → Int
  | .int i => i
  | _ => 0
theorem go_ixI {O : Sto} {p : PV} {ps : List PV} {i : Int} {QP : PV → Sto → Prop} (e : lstOf O p = some ps) (ei : ps = (ps.map unP).map .int) (h0 : 0 ≤ i) (h1 : i < ps.length) (k : ∀ z : Int, z ∈ ps.map unP → QP (.int z) O) : Go (ixL p (.int i) O) QP := go_ixR e h0 h1 fun r hr => by
  rw [ei] at hr
  obtain ⟨z, hz, rfl⟩ := List.mem_map.mp hr
  exact k z hz
theorem go_anyC {O : Sto} {p : PV} {ns : List Bool} {b : Bool} {QP : PV → Sto → Prop} (e : (lstOf O p).bind blsOf = some ns) (e2 : ns.any id = b) (k : QP (.bl b) O) : Go (bAny [p] O) QP := by
  unfold bAny bBs b1
  simp only [e]
  subst e2
  exact k
theorem go_allC {O : Sto} {p : PV} {ns : List Bool} {b : Bool} {QP : PV → Sto → Prop} (e : (lstOf O p).bind blsOf = some ns) (e2 : ns.all id = b) (k : QP (.bl b) O) : Go (bAll [p] O) QP := by
  unfold bAll bBs b1
  simp only [e]
  subst e2
  exact k
theorem eqv_ints (ns ms : List Int) (O : Sto) : eqD (.tup (ns.map .int)) (.tup (ms.map .int)) O = .ok (.bl (decide (ns = ms))) O := by
  unfold eqD toD
  simp only [toD0, toDL_ints, Option.map_some]
  rw [if_pos (by rw [shaped_ints, shaped_ints]; rfl)]
  congr 2
  exact eqvAll_ints ns ms
theorem go_eqTI {O : Sto} {ps qs : List PV} {QP : PV → Sto → Prop} {ns ms : List Int} (e1 : ps = (ps.map unP).map .int) (e2 : qs = (qs.map unP).map .int) (e3 : ps.map unP = ns) (e4 : qs.map unP = ms) (k : QP (.bl (decide (ns = ms))) O) : Go (eqD (.tup ps) (.tup qs) O) QP := by
  subst e3
  subst e4
  have e := eqv_ints (ps.map unP) (qs.map unP) O
  rw [← e1, ← e2] at e
  exact go_at e k
theorem go_inI {O : Sto} {neg : Bool} {i : Int} {q : PV} {ns : List Int} {QP : PV → Sto → Prop} (e : seqOf O q = some (ns.map .int)) (k : QP (.bl (if neg then !decide (i ∈ ns) else decide (i ∈ ns))) O) : Go (inS neg (.int i) q O) QP := by
  have e1 : (seqOf O q).bind scVs = some (ns.map V.int) := by
    rw [e]
    exact scVs_ints ns
  unfold inS
  simp only [scV, e1]
  have e2 : (flatV (V.int i) && (ns.map V.int).all flatV) = true := by simp [flatV]
  rw [if_pos e2]
  have e3 : inV (V.int i) (ns.map V.int) = decide (i ∈ ns) := by
    unfold inV
    rw [Bool.eq_iff_iff]
    simp only [List.any_map, List.any_eq_true, decide_eq_true_eq, Function.comp]
    constructor
    · rintro ⟨n, h1, h2⟩
      have : n = i := by simpa [eqV] using h2
      rw [← this]; exact h1
    · intro h
      exact ⟨i, h, by simp [eqV]⟩
  rw [e3]
  exact k
theorem g_n {i : Int} {F : Int → Prop} (h : 0 ≤ i ∧ i < 2 ^ 63) (k : F i) : ∃ n, PV.int i = .int n ∧ (0 ≤ n ∧ n < 2 ^ 63) ∧ F n := ⟨i, rfl, h, k⟩
theorem some_loc {O : Sto} {n : Nat} {ps : List PV} (h : O[n]? = some (some (.lst ps))) : (lstOf O (.loc n)).isSome = true := by rw [lst_loc h]; rfl
def memD (i : Int) : List Int → Prop
  | [] => False
  | [n] => i = n
  | n :: m :: r => i = n ∨ memD i (m :: r)
theorem memD_iff {i : Int} : ∀ {ns : List Int}, memD i ns ↔ i ∈ ns
  | [] => by simp [memD]
  | [n] => by simp [memD]
  | n :: m :: r => by
    have h := memD_iff (i := i) (ns := m :: r)
    unfold memD
    rw [h]
    simp
instance {i : Int} {ns : List Int} : Decidable (memD i ns) := decidable_of_iff (i ∈ ns) memD_iff.symm
theorem go_in0 {O : Sto} {i : Int} {q : PV} {ps : List PV} {ns : List Int} {P : Prop} {QP : PV → Sto → Prop} (e : seqOf O q = some ps) (ei : ps = (ps.map unP).map .int) (e3 : ps.map unP = ns) (hP : memD i ns = P) (k : QP (.bl (@decide P (Classical.propDecidable P))) O) : Go (inS false (.int i) q O) QP := by
  subst hP
  subst e3
  refine go_inI (ns := ps.map unP) (by rw [← ei]; exact e) ?_
  have : @decide (memD i (ps.map unP)) (Classical.propDecidable _) = decide (i ∈ ps.map unP) := decide_eq_decide.mpr memD_iff
  rw [this] at k
  exact k
theorem go_in1 {O : Sto} {i : Int} {q : PV} {ps : List PV} {ns : List Int} {P : Prop} {QP : PV → Sto → Prop} (e : seqOf O q = some ps) (ei : ps = (ps.map unP).map .int) (e3 : ps.map unP = ns) (hP : memD i ns = P) (k : QP (.bl (!@decide P (Classical.propDecidable P))) O) : Go (inS true (.int i) q O) QP := by
  subst hP
  subst e3
  refine go_inI (ns := ps.map unP) (by rw [← ei]; exact e) ?_
  have : @decide (memD i (ps.map unP)) (Classical.propDecidable _) = decide (i ∈ ps.map unP) := decide_eq_decide.mpr memD_iff
  rw [this] at k
  exact k
/-! builders -/
def GoB (N : List Str → List PV → Slots → Sto → Prop) (r : BR) : Prop := match r with
  | .next ns ps s O => N ns ps s O
  | _ => False
section
variable {N : List Str → List PV → Slots → Sto → Prop} {x y : BF} {ns : List Str} {ps : List PV} {s : Slots} {O : Sto} {a : EF} {Q : PV → Sto → Prop}
theorem go_init {C : Str} {n M : Nat} {body : BF} {s' : Slots} (e : ps.length = n) (e2 : none :: ps.map some ++ List.replicate (M - (n + 1)) none = s') (k : GoB (fun ns qs _ O1 => Q (.ins C ns qs) O1) (body [] [] s' O)) : Go (mkIns C (mkInit n M body ps O)) Q := by
  unfold mkInit
  rw [if_pos e, e2]
  cases q : body [] [] s' O <;> rw [q] at k <;> first | exact k | exact k.elim
theorem go_bseq (k : GoB (fun ns ps s O => GoB N (y ns ps s O)) (x ns ps s O)) : GoB N (bSeq x y ns ps s O) := by
  unfold bSeq
  cases e : x ns ps s O <;> rw [e] at k <;> exact k
theorem go_bexp (k : Go (a s O) fun _ O1 => N ns ps s O1) : GoB N (bExp a ns ps s O) := by
  unfold bExp
  cases e : a s O <;> rw [e] at k <;> exact k
theorem go_bfld {f : Str} (k : Go (a s O) fun p O1 => ¬ (f ∈ ns ∨ 900 < ns.length) ∧ N (ns ++ [f]) (ps ++ [p]) s O1) : GoB N (bFld f a ns ps s O) := by
  unfold bFld
  cases e : a s O with
  | ok p O1 =>
    rw [e] at k
    obtain ⟨k1, k2⟩ := k
    simp only
    rw [if_neg k1]
    exact k2
  | _ => rw [e] at k; exact k.elim
theorem g_bf {A : Prop} {f : Str} (h : ¬ (f ∈ ns ∨ 900 < ns.length)) (k : A) : ¬ (f ∈ ns ∨ 900 < ns.length) ∧ A := ⟨h, k⟩
end
structure Ph (O0 : Sto) (p : Nat) (O : Sto) : Prop where
  pu : Pu O p
  len : O.length = O0.length
  oth : ∀ m : Nat, m ≠ p → O[m]? = O0[m]?
theorem Ph.start {O : Sto} {p : Nat} (h : Pu O p) : Ph O p O := ⟨h, rfl, fun _ _ => rfl⟩
structure Phx (O0 : Sto) (p : Nat) (ps : List PV) (O : Sto) : Prop where
  at_ : O[p]? = some (some (.lst ps))
  len : O.length = O0.length
  oth : ∀ m : Nat, m ≠ p → O[m]? = O0[m]?
theorem Ph.open {O0 O : Sto} {p : Nat} (h : Ph O0 p O) : ∃ a b c : Int, Phx O0 p [.int a, .int b, .int c] O ∧ 0 ≤ a ∧ a < 2147483399 ∧ 0 ≤ b := by
  obtain ⟨⟨a, b, c, e, h1⟩, h2, h3⟩ := h
  exact ⟨a, b, c, ⟨e, h2, h3⟩, h1⟩
theorem Phx.close {O0 O : Sto} {p : Nat} {a b c : Int} (h : Phx O0 p [.int a, .int b, .int c] O) (h1 : 0 ≤ a) (h2 : a < 2147483399) (h3 : 0 ≤ b) : Ph O0 p O := ⟨⟨a, b, c, h.at_, h1, h2, h3⟩, h.len, h.oth⟩
theorem g_subX {O0 O : Sto} {n j' : Nat} {i : Int} {ps : List PV} {v : PV} {s : Slots} {QS : Slots → Sto → Prop} (h : Phx O0 n ps O) (e2 : ixN ps.length i = some j') (k : ∀ O', Phx O0 n (ps.set j' v) O' → QS s O') : GSub v s (.loc n) (.int i) O QS :=
  g_sub h.at_ e2 (k _ ⟨get_set h.at_, by rw [List.length_set]; exact h.len, fun m hm => by rw [List.getElem?_set_ne (Ne.symm hm)]; exact h.oth m hm⟩)
theorem go_ixX {O0 O : Sto} {n : Nat} {i : Int} {ps : List PV} {r : PV} {QP : PV → Sto → Prop} (h : Phx O0 n ps O) (e2 : atI ps i = some r) (k : QP r O) : Go (ixL (.loc n) (.int i) O) QP := go_ixL (lst_loc h.at_) e2 k
theorem Phx.new {O : Sto} {ps : List PV} : Phx (O ++ [some (.lst ps)]) O.length ps (O ++ [some (.lst ps)]) := ⟨get_app, rfl, fun _ _ => rfl⟩
end Qx

/-! Own layer Yd: lambdas that capture nothing; the table of code objects is a thing that changes. -/
namespace Qx
open PySem PySem.Spec PyProof.Rows L2 Gx
/-! ### the making -/
abbrev tA (K : PySem.W.Frag) (t : TabI) : Addr := (He.cT K (t.d, t.x)).2
def TabE (P : Addr) (q : Str) (ps : Array Value) (H H1 : Hp) : Prop := H1 = H ∨ ∃ (c : Addr) (ps' : Array Value), H c = none ∧ TriplesOk ps'.toList ∧ (∀ (pos : Pos) (cv : Value), codeAmong pos ps'.toList = some cv → codeAmong pos ps.toList = some cv ∨ cv = .ref c) ∧ H1 = upd (upd H P (.tbl ps')) c (LamX.CodeO c q)
theorem clo_nil {cells : List (Str × Addr)} {names : List (Str × NameKind)} (h : ∀ y ∈ names, y.2 ≠ .free) : cloFrom cells names [] = [] := by
  refine List.eq_nil_iff_forall_not_mem.mpr fun y hy => ?_
  rcases cloFrom_mem hy with z | ⟨z, _⟩
  · cases z
  · exact h _ z rfl
section
variable {X : Cx} {pins : List (Addr × Obj)} {σ : L2.St} {H : Hp} {s : Shared}
theorem lam_new {c P : Addr} {ps : Array Value} {q : Str} {params : Arguments} {body : Expr} {scope : Scope} {pos : Pos} {E : Value → Shared → Prop} {Q : Value → Shared → Prop}
    (I : Inv X pins σ H s) (TB : LamX.TabB X.base X.mg c P) (hcode : X.env.code = .ref c) (hq : X.env.qual ++ "<lambda>" = q) (hP : H P = some (.tbl ps)) (ht : TriplesOk ps.toList)
    (ha : ∀ (pos : Pos) (cv : Value), codeAmong pos ps.toList = some cv → ∃ c, cv = .ref c ∧ H c = some (LamX.CodeO c q)) (hdef : defaultsOf params X.env = ([], [])) (hfree : ∀ y ∈ scope.names, y.2 ≠ .free)
    (h : ∀ (f c' : Addr) (pm ctv : Value) (H1 : Hp) (s' : Shared), Inv X pins σ H1 s' → TabE P q ps H H1 → s'.heap.get? f = some (PySem.W.kla_obj "<lambda>" q params body scope [] pm c' ctv) → s'.heap.CodeRec (.ref c') q → Q (.ref f) s') :
    wpAny (model X.prog X.w) X.A (eval (.Lambda params body scope pos) X.env) Q E s := by
  subst hq
  have oP : s.heap.get? P = some { cls := .none, data := .fields ps } := I.hok P _ hP
  have bP := TB.bm.keeps I.bk
  have cd := TB.code.keeps I.bk
  have gl := I.mod.glob.keeps I.bk
  have hcl : closureFor scope X.env = pure [] := by
    have e := closure_ok (scope := scope) (env := X.env) fun y hy z => absurd z (hfree y hy)
    rw [clo_nil hfree] at e
    exact e
  refine PySem.W.kla_eval hdef ?_
  cases em : codeAmong pos ps.toList with
  | some cv =>
    obtain ⟨c', rfl, hc⟩ := ha pos cv em
    refine PySem.W.kla_makeFunctionHit hcl I.ok.glob gl hcode cd oP ht em bP fun ctv h' tk kp _ => ?_
    have J := I.kept (t' := tk) fun b o e => Heap.get?_push_of_some (PySem.W.kla_obj "<lambda>" (X.env.qual ++ "<lambda>") params body scope [] ((X.mg "__name__").getD .none) c' ctv) (kp b o e)
    obtain ⟨⟨oc, vs, t, e1, e2, e3⟩, _, _⟩ := J.hok c' _ hc
    exact h _ c' _ ctv H _ J (.inl rfl) (Heap.get?_push_size _ rfl) ⟨c', oc, vs, t, rfl, e1, e2, e3⟩
  | none =>
    refine PySem.W.kla_makeFunction hcl I.ok.glob gl hcode cd oP ht em TB.gP bP fun c' ctv h' tk hx ge lt rc htb => ?_
    obtain ⟨c2, oc, vs, t, e2, hoc, hd, hv⟩ := rc
    cases e2
    have hn : H c' = none := I.hok.fresh ge
    have gp : ∀ {b : Addr} {o : Obj}, h'.get? b = some o → (h'.push (PySem.W.kla_obj "<lambda>" (X.env.qual ++ "<lambda>") params body scope [] ((X.mg "__name__").getD .none) c' ctv)).get? b = some o := fun e => Heap.get?_push_of_some _ e
    have J := LamX.inv_table (t' := tk) (more := #[rawInt pos.line, rawInt pos.col, .ref c']) I hP (fun b o hb e => gp (hx b o hb e)) (gp htb) ge ⟨oc, vs, t, gp hoc, hd, hv⟩
    have el : (ps ++ #[rawInt pos.line, rawInt pos.col, .ref c']).toList = ps.toList ++ [rawInt pos.line, rawInt pos.col, .ref c'] := by simp
    exact h _ c' _ ctv _ _ J (.inr ⟨c', _, hn, by rw [el]; exact PySem.TriplesOk_snoc _ _ _ _ ht, fun p' cv z => by rw [el] at z; exact LamX.among_app _ ht z, rfl⟩) (Heap.get?_push_size _ rfl) ⟨c', oc, vs, t, rfl, gp hoc, hd, hv⟩
end
/-! ### lambda a: a[i], of a tuple -/
theorem lam_item {prog : Program} {w : World} {A : Around} {s : Shared} {E : Value → Shared → Prop} {Q : Value → Shared → Prop} {f c' t : Addr} {q a : Str} {params : Arguments} {scope : Scope} {pm ctv v : Value} {i : Int} {j n : Nat} {p1 p2 p3 : Pos} {its : Array Value}
    (hroom : A.depth < recursionLimit) (hf : s.heap.get? f = some (PySem.W.kla_obj "<lambda>" q params (.Subscript (.Name a p1) (.Constant (.int i) j p2) p3) scope [] pm c' ctv)) (hc : s.heap.CodeRec (.ref c') q) (hk : scope.kind = .function) (hco : scope.isCoroutine = false) (hgen : scope.isGenerator = false)
    (hcell : ∀ y ∈ scope.names, y.2 ≠ .cell) (hl : scope.names.lookup a = some .local) (hd : (a == ("__debug__" : Str)) = false) (nl : s.heap.NoLimit)
    (hbind : bindArgs (PySem.W.kla_fn "<lambda>" q params (.Subscript (.Name a p1) (.Constant (.int i) j p2) p3) scope [] pm (.ref c') ctv) ⟨[.ref t], []⟩ = pure [(a, .ref t)])
    (ht : IsTup s.heap t its) (lo : -(2 ^ 63) ≤ i) (hi : i < 2 ^ 63) (hix : seqIndex? i its.size = some n) (hx : its[n]? = some v)
    (h : ∀ h' tk, s.toks ≤ tk → (∀ b o, s.heap.get? b = some o → h'.get? b = some o) → Q v { s with heap := h', toks := tk }) :
    wpAny (model prog w) A (call (.ref f) [.ref t]) Q E s := by
  refine wpAny_call ?_
  refine PySem.W.kla_callFunE hroom hf rfl hco hgen rfl hc ?_
  rw [hbind]
  refine wpAny_pure (wpAny_newFunctionEnv hcell (fun y hy => by rw [List.mem_singleton.mp hy]; exact hl) (fun h₁ hns hsb => ⟨nl.fresh _ hsb, ?_⟩) hk)
  have kp : ∀ b o, s.heap.get? b = some o → h₁.get? b = some o := fun b o e => hsb.extBut b o (Nat.ne_of_lt (Heap.lt_size e)) (Heap.get?_push_of_some _ e)
  refine PySem.W.kla_codeExpr ?_
  refine Subscript_ ?_
  rw [eval_Name _ _ _ hd]
  refine wpAny_bind (wpAny_standAt (wpAny_loadName_local hk hl hns (v := .ref t) (by simp) ?_))
  refine wpAny_Constant_int ?_
  refine subscriptTail_builtinR (x := v) (IsTup.typeIs (ht.keeps kp)) slot_tuple_getitem.lookup ?_
  refine getItem_tuple (ht.keeps kp) lo hi hix hx ⟨rfl, ?_⟩
  exact h _ _ (Nat.le_trans (Nat.le_add_right _ _) (Nat.le_succ _)) kp
/-! ### min(x, key=lambda a: a[1], default=None) -/
def minIx (ks : List Int) (n : Nat) : Nat := argBest (fun i j => decide (ks.getD i 0 < ks.getD j 0)) (n - 1)
def rMinKey (K : PySem.W.Frag) (t : TabI) : List V → Hp → VK → Prop := fun vs H Q => ∃ (l : Addr) (ps : Array Value), vs = [.ref l] ∧ H (tA K t) = some (.tbl ps) ∧ TriplesOk ps.toList ∧
  (∀ (pos : Pos) (cv : Value), codeAmong pos ps.toList = some cv → ∃ c, cv = .ref c ∧ H c = some (LamX.CodeO c t.q)) ∧ ∀ H2, TabE (tA K t) t.q ps H H2 → ∃ (xs : List V) (ks : List Int), SqL K H2 l xs ∧
    (∀ i y, xs[i]? = some y → ∃ a z, y = .ref a ∧ SqT K H2 a [z, .int (ks.getD i 0)]) ∧ (xs = [] → Q .non H2) ∧ ∀ y, xs[minIx ks xs.length]? = some y → Q y H2
section
variable {X : Cx}
theorem pe_minKey {t : TabI} {y : Str} {py : Pos} {tE : TA} {a : Str} {params : Arguments} {scope : Scope} {j1 j2 : Nat} {p p1 p2 p3 lp kp cp dp pos : Pos}
    (TB : LamX.TabB X.base X.mg (He.cT X.K (t.d, t.x)).1 (He.cT X.K (t.d, t.x)).2) (hcode : X.env.code = .ref (He.cT X.K (t.d, t.x)).1) (hq : X.env.qual ++ "<lambda>" = t.q) (hd : X.A.depth < recursionLimit) (hh : X.A.handled = none) (he : PA X [.Name y py] tE) (hg : Gl X "min") (hm : X.mg "min" = none)
    (hdef : defaultsOf params X.env = ([], [])) (hfree : ∀ y ∈ scope.names, y.2 ≠ .free) (hcell : ∀ y ∈ scope.names, y.2 ≠ .cell) (hk : scope.kind = .function) (hco : scope.isCoroutine = false) (hgen : scope.isGenerator = false) (hl : scope.names.lookup a = some .local) (ha : (a == ("__debug__" : Str)) = false)
    (hbind : ∀ (q : Str) (pm cv ctv u : Value), bindArgs (PySem.W.kla_fn "<lambda>" q params (.Subscript (.Name a p1) (.Constant (.int 1) j1 p2) p3) scope [] pm cv ctv) ⟨[u], []⟩ = pure [(a, u)]) :
    PE X (.Call (.Name "min" p) [.Name y py] [⟨some "key", .Lambda params (.Subscript (.Name a p1) (.Constant (.int 1) j1 p2) p3) scope lp, kp⟩, ⟨some "default", .Constant .none j2 cp, dp⟩] pos) (tCB (rMinKey X.K t) tE) := by
  refine ⟨fun pins s σ H Q I h => ?_⟩
  refine wpAny_Call_Name_kw (ld_blt I hg hm (by rfl) ?_ (by decide) (by decide))
  refine callWith_kw (thn (he.run pos pins s σ H _ I h) fun us s1 ⟨vs, H1, I1, r1, q1⟩ => ?_)
  obtain ⟨l, ps, rfl, hP, hT, hC, q2⟩ := q1
  obtain ⟨u, rfl, ru⟩ := vals1 r1
  cases ru
  refine PySem.wpAny_evalAll_cons (wpAny_bind (lam_new I1 TB hcode hq hP hT hC hdef hfree fun f c' pm ctv H2 s2 I2 hE hf hc => wpAny_bind (wpAny_standAt (wpAny_pure ?_))))
  refine PySem.wpAny_evalAll_cons (wpAny_bind (Constant_none (wpAny_bind (wpAny_standAt (wpAny_pure ?_)))))
  refine PySem.wpAny_evalAll_nil ?_
  obtain ⟨xs, ks, hL, hks, h0, hn⟩ := q2 H2 hE
  obtain ⟨its, rv, pl, hz⟩ := I2.list hL
  have hlt : l < s2.heap.objs.size := by obtain ⟨_, _, e, _⟩ := pl; exact Heap.lt_size e
  have lenV := rv.length
  refine PySem.call_min_walkKD (wpAny_pyIter_list pl.isList ?_)
  have gp : ∀ b o, s2.heap.get? b = some o → (s2.heap.push { cls := .type "list_iterator", data := .fields #[.ref l, .int 0 0] }).get? b = some o := fun b o e => Heap.get?_push_of_some _ e
  have szS : (s2.heap.push { cls := .type "list_iterator", data := .fields #[.ref l, .int 0 0] }).objs.size = s2.heap.objs.size + 1 := Heap.size_push _ _
  let J : Shared → Prop := fun s' => (∀ b o, s2.heap.get? b = some o → s'.heap.get? b = some o) ∧ s'.gens = s2.gens ∧ s'.drawn = s2.drawn ∧ s'.os = s2.os
  have fin : ∀ {y : V} {v : Value} (s' : Shared), J s' → L2.RelV y v → Q y H2 → EP X pins σ Q v s' := fun {y v} s' hj ry qy => by
    obtain ⟨hp, gg, dd, tk, oo⟩ := s'
    obtain ⟨k1, k2, k3, k4⟩ := hj
    dsimp only at k1 k2 k3 k4
    subst k2
    subst k3
    subst k4
    exact ⟨y, H2, I2.kept k1, ry, qy⟩
  refine ⟨s2.heap.objs.size, _, _, _, _, _, _, J, fun i k _ => ∃ tk, k = .int (ks.getD i 0) tk, fun i j => decide (ks.getD i 0 < ks.getD j 0), rfl, (Walks.list (A := X.A.in1) hh s2.heap.objs.size l (Nat.ne_of_lt hlt) its.toArray).toS, ⟨⟨_, Heap.get?_push_size _ rfl, rfl, rfl⟩, pl.isList.push _⟩, fun b hb => ?_, ?_, ⟨gp, rfl, rfl, rfl⟩, fun e0 s' hj => ?_, fun e0 v s' hv hj => ?_⟩
  · show b < (s2.heap.push _).objs.size
    rw [szS]
    rcases List.mem_cons.mp hb with rfl | hb
    · exact Nat.lt_succ_self _
    · rw [List.mem_singleton.mp hb]
      exact Nat.lt_succ_of_lt hlt
  · refine ⟨fun s3 s4 hj m => ⟨fun b o e => m.heap b o (fun z => ?_) (hj.1 b o e), m.gens.trans hj.2.1, m.drawn.trans hj.2.2.1, m.os.trans hj.2.2.2⟩, fun _ _ _ _ h _ => h, fun i v s3 o Q3 E3 hi hv hj hst ho hq3 => ?_, fun i j ki kj s3 Q3 E3 _ hi hj hq3 => CmpOf.ints_lt (P := fun i v => ∃ t, v = .int (ks.getD i 0) t) (fun i => ks.getD i 0) (fun i v h => h) i j ki kj s3 Q3 E3 hi hj hq3⟩
    · have hb := Heap.lt_size e
      rcases List.mem_cons.mp z with z | z
      · rw [z] at hb
        have : (s2.heap.push { cls := Value.type "list_iterator", data := .fields #[.ref l, .int 0 0] }).objs.size < s2.heap.objs.size := hb
        omega
      · rw [List.mem_singleton.mp z] at hb
        exact Nat.lt_irrefl _ hb
    · have hi' : i < xs.length := by
        have e2 : its.toArray.size = its.length := by simp
        omega
      obtain ⟨w, ew, rw'⟩ := rv.get (List.getElem?_eq_getElem hi')
      have hv : its[i]? = some v := by simpa using hv
      rw [hv] at ew
      cases ew
      obtain ⟨b, z, ey, hS⟩ := hks i _ (List.getElem?_eq_getElem hi')
      rw [ey] at rw'
      obtain rfl : v = .ref b := rw'
      obtain ⟨jts, r2, tp, _⟩ := I2.tuple hS
      obtain ⟨w0, w1, rfl, _, r3⟩ := vals2 r2
      obtain ⟨tk, rfl⟩ := r3
      obtain ⟨k1, k2, k3, k4⟩ := hj
      obtain ⟨cc, oc, vs0, t0, e1, e2, e3, e4⟩ := hc
      refine lam_item (A := X.A.in1) hd (k1 _ _ hf) ⟨cc, oc, vs0, t0, e1, k1 _ _ e2, e3, e4⟩ hk hco hgen hcell hl ha (I2.nolimit.keeps k1) (hbind _ _ _ _ _) (tp.keeps k1) (by decide) (by decide) (n := 1) rfl (v := .int (ks.getD i 0) tk) rfl fun h' tk' htk kp => ?_
      exact hq3 _ _ ⟨fun b o e => kp b o (k1 b o e), k2, k3, k4⟩ ⟨hst.1.at fun o e => kp _ o e, hst.2.at fun o e => kp _ o e⟩ (kp _ _ ho) ⟨tk, rfl⟩ fun _ _ h => h
  · have e2 : its.toArray.size = its.length := by simp
    have hx : xs = [] := List.length_eq_zero_iff.mp (by omega)
    exact fin s' hj (y := .non) rfl (h0 hx)
  · have hsz : its.toArray.size = xs.length := by rw [List.size_toArray, lenV]
    have hv : its[minIx ks xs.length]? = some v := by
      have e := hv
      rw [hsz] at e
      simpa [minIx] using e
    have hi' : minIx ks xs.length < xs.length := by
      have := (List.getElem?_eq_some_iff.mp hv).1
      omega
    obtain ⟨w, ew, rw'⟩ := rv.get (List.getElem?_eq_getElem hi')
    rw [hv] at ew
    cases ew
    exact fin s' hj rw' (hn _ (List.getElem?_eq_getElem hi'))
end
/-! ### its mirror -/
def k2Of : List PV → Option (List Int)
  | [] => some []
  | .tup [_, .int k] :: r => (k2Of r).map (k :: ·)
  | _ => none
def isTab (n : Nat) (t : TabI) (O : Sto) : Bool := match O[n]? with
  | some (some (.tbl u)) => decide (u = t)
  | _ => false
def bMinKey (n : Nat) (t : TabI) := b1 fun p O => if isTab n t O = true then match lstOf O p with
  | some ps => match k2Of ps with
    | some ks => match ps with
      | [] => .ok .non O
      | q :: r => match (q :: r)[minIx ks (r.length + 1)]? with
        | some v => .ok v O
        | none => .bad
    | none => .bad
  | none => .bad else .bad
theorem k2_get : ∀ {ps : List PV} {ks : List Int}, k2Of ps = some ks → ∀ (i : Nat) (p : PV), ps[i]? = some p → ∃ z, p = .tup [z, .int (ks.getD i 0)]
  | [], _, _, i, p, h => by simp at h
  | .tup [z, .int k] :: r, ks, e, i, p, h => by
    obtain ⟨ks', e1, rfl⟩ := Option.map_eq_some_iff.mp (show (k2Of r).map (k :: ·) = some ks from e)
    cases i with
    | zero => cases h; exact ⟨z, rfl⟩
    | succ i => exact k2_get e1 i p h
theorem isTab_eq {n : Nat} {t : TabI} {O : Sto} (h : isTab n t O = true) : O[n]? = some (some (.tbl t)) := by
  unfold isTab at h
  split at h
  · rename_i u e
    rw [e, of_decide_eq_true h]
  · cases h
theorem isTab_of {n : Nat} {t : TabI} {O : Sto} (h : O[n]? = some (some (.tbl t))) : isTab n t O = true := by
  unfold isTab
  rw [h]
  exact decide_eq_true rfl
theorem upd_comm {H : Hp} {a b : Addr} {o u : HO} (h : a ≠ b) : upd (upd H a o) b u = upd (upd H b u) a o := by
  funext c
  by_cases c1 : c = b
  · rw [c1, upd_same, upd_ne (Ne.symm h), upd_same]
  · by_cases c2 : c = a
    · rw [c2, upd_ne h, upd_same, upd_same]
    · rw [upd_ne c1, upd_ne c2, upd_ne c2, upd_ne c1]
section
variable {K : PySem.W.Frag}
theorem tab_read {R : List (Addr × HO)} {ι : List Addr} {O : Sto} {H : Hp} {n : Nat} {t : TabI} (S : Sim K R ι O H) (e : O[n]? = some (some (.tbl t))) : ∃ ps : Array Value, ι[n]? = some (tA K t) ∧ H (tA K t) = some (.tbl ps) ∧ TriplesOk ps.toList ∧ ∀ (pos : Pos) (cv : Value), codeAmong pos ps.toList = some cv → ∃ c, cv = .ref c ∧ fz R ι O H c = some (LamX.CodeO c t.q) := by
  have hl := (List.getElem?_eq_some_iff.mp e).1
  have hn : ι[n]? = some (ι[n]'(by rw [S.len]; exact hl)) := List.getElem?_eq_getElem _
  obtain ⟨o, h1, h2, ps, h3, h4, h5⟩ := S.obj n _ _ hn e
  rw [h2] at hn h1
  exact ⟨ps, hn, by rw [h1, h3], h4, h5⟩
theorem tab_step {R : List (Addr × HO)} {ι : List Addr} {O : Sto} {H H2 : Hp} {n : Nat} {t : TabI} {ps : Array Value} (S : Sim K R ι O H) (e : O[n]? = some (some (.tbl t))) (hn : ι[n]? = some (tA K t)) (hP : H (tA K t) = some (.tbl ps))
    (hC : ∀ (pos : Pos) (cv : Value), codeAmong pos ps.toList = some cv → ∃ c, cv = .ref c ∧ fz R ι O H c = some (LamX.CodeO c t.q)) (h : TabE (tA K t) t.q ps H H2) : Sim K R ι O H2 ∧ Ext R ι O H ι O H2 := by
  rcases h with rfl | ⟨c, ps', h1, h2, h3, rfl⟩
  · exact ⟨S, .refl⟩
  · obtain ⟨S1, X1, e1⟩ := S.newF h1 (LamX.CodeO c t.q)
    have ne : tA K t ≠ c := fun z => by rw [z, h1] at hP; cases hP
    obtain ⟨S2, X2⟩ := S1.change (p' := .tbl t) (o' := .tbl ps') hn e ⟨rfl, ps', rfl, h2, fun pos cv hc => by
      rcases h3 pos cv hc with z | z
      · obtain ⟨c0, z1, z2⟩ := hC pos cv z
        exact ⟨c0, z1, X1.same _ _ z2⟩
      · exact ⟨c, z, e1⟩⟩
    rw [set_back e] at S2 X2
    rw [upd_comm ne]
    exact ⟨S2, X1.trans X2⟩
theorem cb_minKey {n : Nat} {t : TabI} : CbS K (rMinKey K t) (bMinKey n t) := cb_1 fun R ι O H p x E Q S r1 h => by
  split at h
  · rename_i c
    have e0 := isTab_eq c
    cases e : lstOf O p with
    | none => simp [e] at h; exact h.elim
    | some ps =>
      simp only [e] at h
      cases e1 : k2Of ps with
      | none => simp [e1] at h; exact h.elim
      | some ks =>
        simp only [e1] at h
        obtain ⟨a, _, h1, _, _⟩ := lst_read S r1 e
        obtain ⟨tb, g1, g2, g3, g4⟩ := tab_read S e0
        refine ⟨a, tb, by rw [h1], g2, g3, fun pos cv z => (g4 pos cv z).imp fun c z => ⟨z.1, S.frozen _ _ z.2⟩, fun H2 hE => ?_⟩
        obtain ⟨S2, X2⟩ := tab_step S e0 g1 g2 g4 hE
        obtain ⟨a2, xs, k1, k2, k3⟩ := lst_read S2 (X2.rep r1) e
        rw [h1] at k1
        cases k1
        have hl := k3.len
        refine ⟨xs, ks, k2, fun i y hy => ?_, fun hx => ?_, fun y hy => ?_⟩
        · have hi : i < ps.length := by rw [← hl]; exact (List.getElem?_eq_some_iff.mp hy).1
          obtain ⟨z, ez⟩ := k2_get e1 i _ (List.getElem?_eq_getElem hi)
          obtain ⟨y', m1, m2⟩ := k3.get (List.getElem?_eq_getElem hi)
          rw [hy] at m1
          cases m1
          rw [ez] at m2
          obtain ⟨b, ws, q1, q2, w0, r0, q3, q4, w1, r2, q5, q6, q7⟩ := m2
          cases q7
          subst q5
          subst q3
          exact ⟨b, w0, q1, by rw [← show w1 = .int (ks.getD i 0) from q6]; exact sqt_same S2.frozen q2⟩
        · subst hx
          have : ps = [] := List.length_eq_zero_iff.mp (by rw [← hl]; rfl)
          subst this
          exact h.at S2 X2 rfl
        · cases ps with
          | nil =>
            have : xs = [] := List.length_eq_zero_iff.mp (by rw [hl]; rfl)
            rw [this] at hy
            simp at hy
          | cons q r =>
            rw [hl] at hy
            simp only [List.length_cons] at hy
            obtain hi := (List.getElem?_eq_some_iff.mp hy).1
            have hi' : minIx ks (r.length + 1) < (q :: r).length := by rw [← hl]; exact hi
            simp only [List.getElem?_eq_getElem hi'] at h
            obtain ⟨y', m1, m2⟩ := k3.get (List.getElem?_eq_getElem hi')
            rw [hy] at m1
            cases m1
            exact h.at S2 X2 m2
  · exact h.elim
end
/-! ### a def's code object -/
theorem okC {P : Program} {w : World} {K : PySem.W.Frag} {mg : Str → Option Value} {base : Heap} {x qual : Str} {params : Arguments} {body : List Stmt} {scope : Scope} {dvs : List V} {kws : List (Str × V)} {fd : FuncData} {CX : CXT} {N ps : List Str} {k : Nat} {sp : Sp} {d : He.Defn} (F : FunD K x qual params body scope dvs kws (He.fAd K d) fd) (S : FnScope N ps scope) (len : ∀ vs H Q E, sp vs H Q E → vs.length = ps.length)
    (hbody : ∀ (cdv : Value), cdv = .ref (He.cT K d).1 → ∀ (A : Around) (outer : List Env) (s : Shared) (H : Hp) (vs : List V) (Q : VK) (E : XK), Room k (A.deeper (envOfC qual scope s.heap.objs.size (He.fAd K d) cdv)) → sp vs H Q E →
      ∃ t, PSs (cxOf CX P w K mg base N qual scope (He.fAd K d) cdv A outer s H E) body t ∧ t { nx := fun _ H' => Q .non H', rt := Q } (L2.start N vs) H) : FnOk P w K mg base CX (k + 1) (He.fAd K d) fd ps sp := by
  obtain ⟨oc, od, dV, kV, doc, pm, an, cdv, ct, osl, rfl, lk, hcd, _, _⟩ := F.ex
  obtain ⟨c, rfl⟩ := He.codeIn_ref hcd
  have e : He.codeOf K d = c := He.codeOf_eq lk rfl
  exact fn_of lk hcd S len fun A outer s H vs Q E hr hsp => hbody (.ref c) (by rw [← e] <;> rfl) A outer s H vs Q E hr hsp
class TbC (K : PySem.W.Frag) (mg : Str → Option Value) (base : Heap) (ds : List TabI) : Prop where
  tb : ∀ t ∈ ds, LamX.TabB base mg (He.cT K (t.d, t.x)).1 (He.cT K (t.d, t.x)).2
/-! ### t[i:j], the whole tuple too -/
def slTA (p : PV) (i j : Option Int) (O : Sto) : PR PV := match tupOf p with
  | some ps => .ok (.tup (cutP ps i j)) O
  | none => .bad
theorem cut_whole {ps : List PV} {i j : Option Int} (h : HT.sIx ps.length 0 i = 0 ∧ HT.sIx ps.length ps.length j = ps.length) : cutP ps i j = ps := by
  unfold cutP
  rw [h.1, h.2, List.drop_zero, Nat.sub_zero, List.take_length]
theorem ss_TA {K : PySem.W.Frag} : SlS K (rSlA K) slTA := by
  intro R ι O H p x i j E Q S r h
  unfold slTA at h
  cases e : tupOf p with
  | none => simp [e] at h; exact h.elim
  | some ps =>
    simp only [e] at h
    obtain ⟨a, xs, h1, h2, h3⟩ := tup_read S r e
    refine ⟨a, xs, h1, h2, fun z => ?_, fun z q hq => ?_⟩
    · rw [h3.len] at z
      rw [cut_whole z] at h
      have r' : Rep K ι (fz R ι O H) (.tup ps) x := by cases p <;> first | (cases e; exact r) | (cases e; exact r.1) | cases e
      exact h.here S (by rw [← h1]; exact r')
    · obtain ⟨S2, X2, e2⟩ := S.newF hq (.tup (cutV xs i j))
      exact h.at S2 X2 ⟨q, _, rfl, SqT.of e2, X2.repL (cut_rep h3)⟩
/-! ### the law's own promise where a table stands -/
theorem law_spC {K : PySem.W.Frag} {m : MF} {ns : List Int} {H : Hp} {a : Addr} {t : TabI} {Q : VK} {E : XK} (hm : Go (m [.rol (ns.map .int)] [some (.tbl t)]) fun q _ => q = .bl true) (hP : H (tA K t) = some (.tbl #[])) (hS : SqL K H a (ns.map V.int)) (hQ : ∀ H', Q (.bl true) H') : spM K false m [.ref a] H Q E := by
  have el : lv [tA K t] [some (.tbl t)] = [tA K t] := rfl
  have e : ∀ b, b ≠ tA K t → fz [] [tA K t] [some (.tbl t)] H b = H b := fun b hb => by
    show ers ([] ++ lv [tA K t] [some (.tbl t)]) H b = H b
    rw [el]
    exact ers_out fun z => hb (List.mem_singleton.mp z)
  have hS' : SqL K (fz [] [tA K t] [some (.tbl t)] H) a (ns.map V.int) := by
    rcases hS with h | h
    · refine .inl ?_
      have ne : a ≠ tA K t := fun z => by
        rcases h with h | ⟨o, h⟩ <;> rw [z, hP] at h <;> cases h
      rcases h with h | ⟨o, h⟩
      · exact .inl (by rw [e a ne]; exact h)
      · exact .inr ⟨o, by rw [e a ne]; exact h⟩
    · exact .inr h
  obtain ⟨q, O', e1, rfl⟩ := hm.ex
  refine ⟨[], [tA K t], [some (.tbl t)], [.rol (ns.map .int)], ⟨rfl, by rw [el]; simp, fun _ h => (nomatch h), fun b hb => by rw [List.mem_singleton.mp hb, hP]; simp, fun n b p h1 h2 => ?_⟩, ⟨_, [], rfl, ⟨a, ns.map V.int, rfl, hS', RepL.mapV (f := PV.int) (g := V.int) (fun _ => rfl) ns⟩, rfl⟩, ?_⟩
  · cases n with
    | zero =>
      cases h1
      cases h2
      exact ⟨_, hP, rfl, #[], rfl, True.intro, fun pos cv z => by
        have z : codeAmong pos [] = some cv := z
        simp [codeAmong] at z⟩
    | succ n => simp at h1
  · rw [e1]
    intro v ι' H' S X r
    rw [show v = .bl true from r]
    exact hQ H'
end Qx

/-! Own layer Ye: == of two tuples of own instances, where each is alike to its fellow. -/
namespace Gx
open PySem PySem.Spec PyProof.Rows L2
section
variable {X : Cx} {k j : Nat} {ps : List Str} {sp : Sp} {d : He.DefD} {C : Addr}
end
end Gx
namespace Qx
open PySem PySem.Spec PyProof.Rows L2 Gx
section
variable {K : PySem.W.Frag} {C : Str} {mf : MF}
end
section
variable {C : Str} {m : MF} {O : Sto} {QP : PV → Sto → Prop} {ps qs : List PV}
end
end Qx

/-! Own layer Yf: sorted of whole numbers and of texts, and of a dict's keys; a dict's keys in a list; len of a dict; dict displays. -/
namespace Qx
open PySem PySem.Spec PyProof.Rows L2 Gx
section
variable {K : PySem.W.Frag}
end
section
variable {O : Sto} {p : PV} {QP : PV → Sto → Prop} {ns : List Int} {kvs : Kvs}
end
end Qx

/-! Own layer Yg: {k: v, ..}. -/
namespace Qx
open PySem PySem.Spec PyProof.Rows L2 Gx
def prF : List (EF × EF) → Slots → Sto → PR (List (PV × PV))
  | [], _, O => .ok [] O
  | (a, b) :: r, s, O => (a s O).bind fun p O1 => (b s O1).bind fun q O2 => (prF r s O2).bind fun l O3 => .ok ((p, q) :: l) O3
def kvsOf : List (PV × PV) → Option Kvs
  | [] => some []
  | (p, v) :: r => match keyP p, kvsOf r with
    | some k, some l => some ((k, v) :: l)
    | _, _ => none
def RepPs (K : PySem.W.Frag) (ι : List Addr) (G : Hp) : List (PV × PV) → List (V × V) → Prop
  | [], ws => ws = []
  | (p, q) :: r, ws => ∃ x y t, ws = (x, y) :: t ∧ Rep K ι G p x ∧ Rep K ι G q y ∧ RepPs K ι G r t
theorem RepPs.kvs {K : PySem.W.Frag} {ι : List Addr} {G : Hp} : ∀ {l : List (PV × PV)} {ws : List (V × V)} {kvs : Kvs}, RepPs K ι G l ws → kvsOf l = some kvs → ∃ us : List (Key × V), ws = us.map (fun kv => (kV kv.1, kv.2)) ∧ KvR K ι G kvs us
  | [], ws, kvs, h, e => by cases e; rw [show ws = [] from h]; exact ⟨[], rfl, rfl⟩
  | (p, v) :: r, ws, kvs, ⟨x, y, t, h1, h2, h3, h4⟩, e => by
    subst h1
    unfold kvsOf at e
    cases e1 : keyP p with
    | none => simp [e1] at e
    | some k =>
      cases e2 : kvsOf r with
      | none => simp [e1, e2] at e
      | some l =>
        simp only [e1, e2, Option.some.injEq] at e
        subst e
        obtain ⟨us, g1, g2⟩ := h4.kvs e2
        exact ⟨(k, y) :: us, by rw [g1, key_read h2 e1]; rfl, y, us, rfl, h3, g2⟩
inductive SimPs (K : PySem.W.Frag) : List (TE × TE) → List (EF × EF) → Prop
  | nil : SimPs K [] []
  | cons {ta tb : TE} {fa fb : EF} {ts : List (TE × TE)} {fs : List (EF × EF)} (ha : SimE K none ta fa) (hb : SimE K none tb fb) (r : SimPs K ts fs) : SimPs K ((ta, tb) :: ts) ((fa, fb) :: fs)
section
variable {K : PySem.W.Frag} {E : XM} {ts : List (TE × TE)} {fs : List (EF × EF)}
theorem SimPs.run (h : SimPs K ts fs) : ∀ {R : List (Addr × HO)} {ι : List Addr} {O O1 : Sto} {H : Hp} {σ : L2.St} {s : Slots} {l : List (PV × PV)} {Q : List (V × V) → Hp → Prop}, Sim K R ι O H → SlR K ι (fz R ι O H) σ s → prF fs s O = .ok l O1 →
    (∀ ws ι1 H1, Sim K R ι1 O1 H1 → Ext R ι O H ι1 O1 H1 → RepPs K ι1 (fz R ι1 O1 H1) l ws → Q ws H1) → tPairs ts σ H Q := by
  induction h with
  | nil =>
    intro R ι O O1 H σ s l Q S L e k
    cases e
    exact k [] ι H S .refl rfl
  | @cons ta tb fa fb ts fs ha hb _ ih =>
    intro R ι O O1 H σ s l Q S L e k
    unfold prF at e
    obtain ⟨p, Oa, e1, e⟩ := PR.bind_ok e
    obtain ⟨q, Ob, e2, e⟩ := PR.bind_ok e
    obtain ⟨l', Oc, e3, e⟩ := PR.bind_ok e
    cases e
    refine ha R ι O H σ s _ S L ?_
    rw [e1]
    intro x ι1 H1 S1 X1 r1
    refine hb R ι1 Oa H1 σ s _ S1 (L.ext X1) ?_
    rw [e2]
    intro y ι2 H2 S2 X2 r2
    exact ih S2 (L.ext (X1.trans X2)) e3 fun ws ι3 H3 S3 X3 r3 => k _ ι3 H3 S3 (X1.trans (X2.trans X3)) ⟨x, y, ws, rfl, (X2.trans X3).rep r1, X3.rep r2, r3⟩
end
/-! walk -/
section
variable {s : Slots} {O : Sto} {QP : PV → Sto → Prop}
end
end Qx

/-! Own layer Yh: for k, v in d.items(), d a dict that changes; it is out of the store while the loop runs. -/
namespace Qx
open PySem PySem.Spec PyProof.Rows L2 Gx
/-! ### pure readings -/
/-! ### the loop -/
section
variable {K : PySem.W.Frag} {E : XM} {R : List (Addr × HO)} {ι ι' : List Addr} {O O' : Sto} {H H' : Hp} {n : Nat} {a : Addr} {d : PV} {od : Obj} {ws : List (Key × V)} {D : Ends}
end
end Qx

/-! Own layer Yi: sorted of a list of data of one kind. -/
namespace Gx
open PySem PySem.Spec PyProof.Rows L2
end Gx
namespace Qx
open PySem PySem.Spec PyProof.Rows L2 Gx
section
variable {K : PySem.W.Frag}
end
section
variable {O : Sto} {p : PV} {QP : PV → Sto → Prop} {ps : List PV} {ds : List PyData}
end
end Qx

/-! Own layer Yj: dict(list of pairs), tuple(dict). -/
namespace Qx
open PySem PySem.Spec PyProof.Rows L2 Gx
section
variable {X : Cx} {K : PySem.W.Frag}
end
section
variable {K : PySem.W.Frag} {R : List (Addr × HO)} {ι : List Addr} {O : Sto} {H : Hp}
end
/-! the call of tuple on a dict -/
section
variable {prog : Program} {w : World} {A : Around} {E : Value → Shared → Prop} {s : Shared} {d : Addr} {kvs : List (Key × Value)} {ep : Nat}
end
section
variable {O : Sto} {p : PV} {QP : PV → Sto → Prop} {ps : List PV} {kvs : Kvs}
end
end Qx

/-! Own layer Yk: exact tuples: tuple(d.items()), dict(such a tuple). -/
namespace Gx
open PySem PySem.Spec PyProof.Rows L2
section
variable {prog : Program} {w : World} {A : Around} {E : Value → Shared → Prop} {s : Shared} {r d : Addr} {kvs : List (Key × Value)} {ep : Nat}
end
section
variable {X : Cx} {e : Expr} {te : TE} {p apos cpos pos : Pos}
end
end Gx
namespace Qx
open PySem PySem.Spec PyProof.Rows L2 Gx
section
variable {K : PySem.W.Frag} {R : List (Addr × HO)} {ι : List Addr} {O : Sto} {H H1 : Hp}
end
section
variable {s : Slots} {O : Sto} {p : PV} {QP : PV → Sto → Prop} {ps : List PV} {kvs : Kvs} {a : EF}
end
end Qx

/-! Own layer Yl: enumerate of a list or a tuple. -/
namespace Gx
open PySem PySem.Spec PyProof.Rows L2
open PySem.Sem (wp)
end Gx
namespace Qx
open PySem PySem.Spec PyProof.Rows L2 Gx
end Qx

/-! Own layer Ym: dict(dict), list.insert(0, x). -/
namespace Qx
open PySem PySem.Spec PyProof.Rows L2 Gx
section
variable {K : PySem.W.Frag}
end
section
variable {O : Sto} {p : PV} {QP : PV → Sto → Prop} {kvs : Kvs}
end
end Qx

/-! Own layer Yn: tuple(list) as an exact tuple, sorted(dict) with texts as keys. -/
namespace Gx
open PySem PySem.Spec PyProof.Rows L2
end Gx
namespace Qx
open PySem PySem.Spec PyProof.Rows L2 Gx
/-! texts in order -/
section
variable {O : Sto} {p : PV} {QP : PV → Sto → Prop} {kvs : Kvs} {ns : List Str} {ps : List PV}
end
end Qx

/-! Own layer Yo: the sum of a tuple of whole numbers. -/
namespace Gx
open PySem PySem.Spec PyProof.Rows L2
end Gx
namespace Qx
open PySem PySem.Spec PyProof.Rows L2 Gx
end Qx

/-! Own layer Yp: len(set(whole numbers that are none twice)). -/
namespace Qx
open PySem PySem.Spec PyProof.Rows L2 Gx
end Qx

/-! Own layer Yq: enumerate of a list that may change. -/
namespace Qx
open PySem PySem.Spec PyProof.Rows L2 Gx
end Qx

/-! Own layer Yr: an except clause of three classes. -/
namespace Gx
open PySem PySem.Spec PyProof.Rows L2
end Gx
namespace Qx
open PySem PySem.Spec PyProof.Rows L2 Gx
end Qx

/-! Own layer Ys: == of two dicts whose values are (text, own instance), each alike to its fellow; the dicts are locked meanwhile. -/
namespace GQ
open PySem PySem.W
section
variable {prog : Program} {w : World} {K : Type} [DecidableEq K] {knd : KeyKind prog w K}
end
end GQ
namespace Gx
open PySem PySem.Spec PyProof.Rows L2
section
variable {X : Cx} {k j : Nat} {ps : List Str} {sp : Sp} {d : He.DefD} {C : Addr}
end
end Gx

/-! Own layer Yt: the mirror of == of two dicts that change, each value a (text, own instance) alike to its fellow's. -/
namespace Qx
open PySem PySem.Spec PyProof.Rows L2 Gx
section
variable {K : PySem.W.Frag} {C : Str} {mf : MF} {R : List (Addr × HO)} {O : Sto}
def Reps (K : PySem.W.Frag) (ι : List Addr) (G : Hp) : List (PV × PV) → List (V × V) → Prop
  | [], wl => wl = []
  | (p, q) :: r, wl => ∃ v y t, wl = (v, y) :: t ∧ Rep K ι G p v ∧ Rep K ι G q y ∧ Reps K ι G r t
theorem Reps.mono {ι ι' : List Addr} {G G' : Hp} (hp : Pre ι ι') (e : Same G G') : ∀ {prs : List (PV × PV)} {wl : List (V × V)}, Reps K ι G prs wl → Reps K ι' G' prs wl
  | [], _, h => h
  | (_, _) :: _, _, ⟨v, y, t, h1, h2, h3, h4⟩ => ⟨v, y, t, h1, h2.mono hp e, h3.mono hp e, h4.mono hp e⟩
end
end Qx

/-! Own layer Yu: defs that reach repr of data: they are called where nothing is being shown. -/
namespace Gx
open PySem PySem.Spec PyProof.Rows L2
structure FnG (P : Program) (w : World) (K : PySem.W.Frag) (mg : Str → Option Value) (base : Heap) (CX : CXT) (k : Nat) (f : Addr) (fd : FuncData) (ps : List Str) (sp : Sp) : Prop where
  len : ∀ vs H Q E, sp vs H Q E → vs.length = ps.length
  run : ∀ (A : Around) (outer : List Env) (s : Shared) (H : Hp) (args : Args) (us : List Value) (vs : List V) (Q : VK) (E : XK), Room k A → A.guards = some [] → Env0 P w K mg base A outer s H → BindsTo s fd args (ps.zip us) → Vals vs us → sp vs H Q E → codeAny (model P w) A (.call (.ref f) args) (CR CX outer P w H s Q E) s
theorem fn_ofG {CX : CXT} {P : Program} {w : World} {K : PySem.W.Frag} {mg : Str → Option Value} {base : Heap} {k : Nat} {f : Addr} {name qual : Str} {params : Arguments} {body : List Stmt} {scope : Scope} {dV kV doc pm cdv ct oc : Value} {an od : Option Addr} {osl : Array (Option Value)} {N ps : List Str} {sp : Sp}
    (lk : List.lookup f K = some { cls := oc, dict := od, data := .func (PySem.W.fnOf name qual params body scope dV kV doc pm an cdv ct), slots := osl }) (hcd : PySem.W.codeIn K cdv qual = true) (S : FnScope N ps scope) (len : ∀ vs H Q E, sp vs H Q E → vs.length = ps.length)
    (hbody : ∀ (A : Around) (outer : List Env) (s : Shared) (H : Hp) (vs : List V) (Q : VK) (E : XK), Room k (A.deeper (envOfC qual scope s.heap.objs.size f cdv)) → (A.deeper (envOfC qual scope s.heap.objs.size f cdv)).guards = some [] → sp vs H Q E → ∃ t, PSs (cxOf CX P w K mg base N qual scope f cdv A outer s H E) body t ∧ t { nx := fun _ H' => Q .non H', rt := Q } (L2.start N vs) H) :
    FnG P w K mg base CX (k + 1) f (PySem.W.fnOf name qual params body scope dV kV doc pm an cdv ct) ps sp := by
  refine ⟨len, fun A outer s H args us vs Q E hr hg e0 hb r hsp => ?_⟩
  have hl := len vs H Q E hsp
  have KX := PySem.W.Frag.In.keeps e0.mod.kin fun b o e => (e0.bs b o e).1
  have lim := Heap.NoLimit.keeps e0.mod.nolimit fun b o e => (e0.bs b o e).1
  have hkind : ∀ x ∈ ps.zip us, scope.names.lookup x.1 = some .local ∨ (scope.names.lookup x.1 = some .cell ∧ ((cellsFrom (s.heap.objs.size + 1) scope.names []).lookup x.1).isSome = true) := fun (n, v) hy =>
    (S.par n (List.of_mem_zip hy).1).elim (fun q => .inl q) fun q => .inr ⟨q, PySem.W.cellsFrom_some scope.names (s.heap.objs.size + 1) [] (.inl q)⟩
  refine codeAny_call_function (Room.depth hr) (KX f _ lk) rfl S.co S.gen rfl (PySem.W.codeRec_of KX hcd) (hb _ _ _ _ (wpAny_newFunctionEnv_cells S.kind hkind fun env he s1 x => ?_))
  subst he
  refine ⟨Heap.NoLimit.keeps lim x.toInCall.keep, codeAny_func ?_⟩
  obtain ⟨t, ht, hq⟩ := hbody A outer s H vs Q E (Room.deeper hr (envOfC qual scope s.heap.objs.size f cdv)) hg hsp
  have I := inv_start (CX := CX) (E := E) S hr.hd e0 hl r x
  refine wpAny_mono (ht.run [] s1 (L2.start N vs) H { nx := fun _ H' => Q .non H', rt := Q } I hq) (fun fl s' hs => ?_) fun e s' hs => hs
  have fin : ∀ {σ' H' v u}, Inv (cxOf CX P w K mg base N qual scope f cdv A outer s H E) [] σ' H' s' → RelV v u → Q v H' → CE outer P w H s Q u s' := fun J rv q => ⟨_, _, J.os, J.bare, J.base, J.hok, rv, q⟩
  cases fl with
  | next => obtain ⟨σ', H', J, q⟩ := hs; exact fin (v := .non) J rfl q
  | brk => obtain ⟨_, _, _, q⟩ := hs; exact q.elim
  | cont => obtain ⟨_, _, _, q⟩ := hs; exact q.elim
  | ret u => obtain ⟨v, σ', H', J, rv, q⟩ := hs; exact fin J rv q
theorem okG {P : Program} {w : World} {K : PySem.W.Frag} {mg : Str → Option Value} {base : Heap} {x qual : Str} {params : Arguments} {body : List Stmt} {scope : Scope} {dvs : List V} {kws : List (Str × V)} {f : Addr} {fd : FuncData} {CX : CXT} {N ps : List Str} {k : Nat} {sp : Sp} (F : FunD K x qual params body scope dvs kws f fd) (S : FnScope N ps scope) (len : ∀ vs H Q E, sp vs H Q E → vs.length = ps.length)
    (h : ∀ (cdv : Value) (A : Around) (outer : List Env) (s : Shared) (H : Hp) (vs : List V) (Q : VK) (E : XK), Room k (A.deeper (envOfC qual scope s.heap.objs.size f cdv)) → (A.deeper (envOfC qual scope s.heap.objs.size f cdv)).guards = some [] → sp vs H Q E → ∃ t, PSs (cxOf CX P w K mg base N qual scope f cdv A outer s H E) body t ∧ t { nx := fun _ H' => Q .non H', rt := Q } (L2.start N vs) H) : FnG P w K mg base CX (k + 1) f fd ps sp := by
  obtain ⟨oc, od, dV, kV, doc, pm, an, cdv, ct, osl, e, lk, hcd, _, _⟩ := F.ex
  subst e
  exact fn_ofG lk hcd S len fun A outer s H vs Q E hr hg hsp => h cdv A outer s H vs Q E hr hg hsp
structure DOkG (P : Program) (w : World) (K : PySem.W.Frag) (mg : Str → Option Value) (base : Heap) (d : He.DefD) (CX : CXT) (k : Nat) (ps : List Str) (sp : Sp) : Prop where
  ex : ∃ fd, FunD K d.name d.qual d.params d.body d.scope (d.dvs K) (d.kws K) (He.fAd K d.at_) fd ∧ FnG P w K mg base CX k (He.fAd K d.at_) fd ps sp
section
variable {X : Cx} {CX : CXT} {d : He.DefD} {k j : Nat} {ps : List Str} {sp : Sp} {x : Str} {p pos : Pos} {e : Expr} {es : List Expr} {t : TA}
theorem pcG (D : DOkG X.prog X.w X.K X.mg X.base d CX0 k ps sp) (hm : X.mg x = some (.ref (He.fAd X.K d.at_))) (hb : BdN d ps) (hr : Room j X.A) (hgu : X.A.guards = some []) (hj : k ≤ j) (ha : PA X (e :: es) t) (hg : Gl X x := by rfl)
    (hdb : (x == ("__debug__" : Str)) = false := by decide) (he : starEach (e :: es) X.env = (false, eval e X.env) :: starEach es X.env := by rfl) (hpl : (backTo pos (starEach es X.env)).any (·.1) = false := by rfl) :
    PE X (.Call (.Name x p) (e :: es) [] pos) (tCall sp [] E0 t) := by
  obtain ⟨fd, F, G⟩ := D.ex
  refine ⟨fun pins s σ H Q I h => wpAny_Call_Name_kw (ld_glob I hg hm (PySem.W.callWith_K (h₀ := X.base) I.ok.mod.kin F.kp (thn (ha.run pos pins s σ H _ I h) fun us s1 ⟨vs, H1, I1, r, q⟩ => ⟨I1.kIn, ?_⟩) he hpl) hdb)⟩
  have q' : sp (vs ++ []) H1 Q E0 := q
  rw [List.append_nil] at q'
  have hl : us.length = ps.length := by rw [← r.length]; exact G.len _ _ _ _ q'
  have B := FunD.bdN F hb
  have bt := B s1 us I1.kIn (by rw [List.append_nil]; exact hl)
  rw [List.append_nil] at bt
  refine wpAny_call (codeAny_mono (G.run X.A X.stack s1 H1 ⟨us, []⟩ us vs Q E0 (hr.mono hj) hgu I1.env0 bt r q') fun r s' hq => ?_)
  cases r with
  | error e => exact hq.elim
  | ok fl =>
    cases fl with
    | ret u => exact I1.after hq
    | next => exact False.elim hq
    | brk => exact False.elim hq
    | cont => exact False.elim hq
end
end Gx
namespace Qx
open PySem PySem.Spec PyProof.Rows L2 Gx
end Qx

/-! Own layer Yv: the law's end where it reaches repr: it is called where nothing is being shown. -/
namespace Gx
open PySem PySem.Spec PyProof.Rows L2
section
variable {P : Program} {w : World} {K : PySem.W.Frag} {mg mb : Str → Option Value} {CX : CXT} {k : Nat} {fa a : Addr} {fd : FuncData} {x : Str} {sp : Sp} {s₁ : Shared} {vs : List Value} {ns : List Int}
end
end Gx

/-! Own layer Yw: a try whose body never raises: its clauses are of no account. -/
namespace Gx
open PySem PySem.Spec PyProof.Rows L2
end Gx

/-! Own layer Yx: == and != of two lists of (text, text, own instance), each alike to its fellow. -/
namespace GQ
open PySem PySem.SeqAt PySem.W
open AutoSeq1 (wpAny_loadPart')
open MeetsSeq MeetsSeq2 MeetsSeq3 SeqRoads2
section
variable {prog : Program} {w : World} {A : Around} {R : Result → Shared → Prop}
end
section
variable {prog : Program} {w : World} {A : Around} {E : Value → Shared → Prop} {s : Shared}
end
end GQ
namespace Gx
open PySem PySem.Spec PyProof.Rows L2
section
variable {X : Cx} {k j : Nat} {ps : List Str} {sp : Sp} {d : He.DefD} {C : Addr}
end
end Gx
namespace Qx
open PySem PySem.Spec PyProof.Rows L2 Gx
def AlikeW (C : Str) (m : MF) (O : Sto) (p q : PV) : Prop := ∃ (z1 z2 : Str) (p2 q2 : PV), p = .tup [.str z1, .str z2, p2] ∧ q = .tup [.str z1, .str z2, q2] ∧ insIs O C p2 = true ∧ insIs O C q2 = true ∧ m [p2, q2] O = .ok (.bl true) O
def AlikeL (C : Str) (m : MF) (O : Sto) : List PV → List PV → Prop
  | [], [] => True
  | p :: ps, q :: qs => AlikeW C m O p q ∧ AlikeL C m O ps qs
  | _, _ => False
theorem AlikeL.len {C : Str} {m : MF} {O : Sto} : ∀ {ps qs : List PV}, AlikeL C m O ps qs → ps.length = qs.length
  | [], [], _ => rfl
  | _ :: _, _ :: _, h => by rw [List.length_cons, List.length_cons, h.2.len]
  | [], _ :: _, h => h.elim
  | _ :: _, [], h => h.elim
section
variable {K : PySem.W.Frag} {C : Str} {mf : MF} {R : List (Addr × HO)} {O : Sto}
end
section
variable {C : Str} {m : MF} {O : Sto} {QP : PV → Sto → Prop}
end
end Qx

/-! Own layer Yy: repr of lists and tuples that hold own instances with a __repr__ of their own. -/
namespace PySem.W
open PySem PySem.Spec PySem.Calls PyProof.Rows
section
variable {prog : Program} {w : World} {A : Around} {E : Value → Shared → Prop} {s : Shared} {K : Frag} {x C f : Addr} {ox : Obj} {od : Option Obj} {name : Str}
theorem ifBoundBy_K {M : Model} {last : Value → List Value → Sem Value} {Q : Option Value → Shared → Prop} (X : K.In s.heap) (I : InstAt s.heap x ox C od) (hs : findIn K (.ref C) name = some (some (.ref f))) (hf : isFn K (.ref f) = true)
    (h : wpAny M A (last (.ref f) [.ref x]) (fun v => Q (some v)) E s) : wpAny M A (callSpecialIfBoundBy? last (.ref x) name) Q E s := by
  simp only [callSpecialIfBoundBy?, bindSpecialIfBound?]
  refine wpAny_holding (wpAny_bind (wpAny_bind (wpAny_bind (I.type.here ((looks_findIn X hs).here ?_)))))
  refine wpAny_bind (wpAny_askSetting (wpAny_ite ?_))
  have fin : wpAny M A (last (.ref f) [.ref x] >>= fun v => pure (some v)) Q E s := wpAny_bind (wpAny_mono h (fun v s' h' => wpAny_pure h') fun _ _ h' => h')
  split
  · exact wpAny_bind ((bind_fn X _ (beq_iff_eq.mp hf)).here (wpAny_pure (by exact fin)))
  · exact wpAny_tryCatch (wpAny_bind ((bind_fn X _ (beq_iff_eq.mp hf)).here (wpAny_pure (by exact fin))))
def TxtBack (Q : Str → Shared → Prop) (v : Value) (s' : Shared) : Prop := ∃ z u, v = .str z u ∧ Q z s'
theorem pyReprUnder_own {b : Nat} {Q : Str → Shared → Prop} (hb : b ≤ sizeLine) (hu : A.units < cLine) (X : K.In s.heap) (I : InstAt s.heap x ox C od) (hs : findIn K (.ref C) "__repr__" = some (some (.ref f))) (hf : isFn K (.ref f) = true)
    (h : wpAny (model prog w) A (call (.ref f) [.ref x]) (TxtBack Q) E s) : wpAny (model prog w) A (pyReprUnder b (.ref x)) Q E s := by
  refine wpAny_pyReprUnder_ref hb ?_
  unfold pyReprObjUnder pyReprObjBy
  refine wpAny_bind (m := cRoomFor _ _) (wpAny_cRoomFor hu ?_)
  refine wpAny_bind (wpAny_bind (I.type.here ((looks_findIn X hs).here ?_)))
  show wpAny _ _ (if (some (Value.ref f)).isNone = true then _ else _) _ _ _
  rw [if_neg (by simp)]
  refine wpAny_bind (ifBoundBy_K X I hs hf (wpAny_mono h (fun r s' hr => ?_) fun _ _ y => y))
  obtain ⟨z, u, rfl, hq⟩ := hr
  refine wpAny_bind (wpAny_isInstance (typeIs_str _ _ _) isSubtype_str_str ?_)
  first
    | exact wpAny_pure ⟨_, _, rfl, hq⟩
    | (rw [if_pos rfl]; exact wpAny_pure ⟨_, _, rfl, hq⟩)
    | (simp only [if_true]; exact wpAny_pure ⟨_, _, rfl, hq⟩)
end
end PySem.W
namespace Qx
open PySem PySem.Spec PyProof.Rows L2 Gx
open Builtin Builtin.List
def kids (O : Sto) (p : PV) : Option (Bool × List PV) := match tupOf p with
  | some ps => some (true, ps)
  | none => (lstOf O p).map fun ps => (false, ps)
noncomputable def rprI (m : MF) (p : PV) (O : Sto) : Option Str := by
  classical exact if h : ∃ z, m [p] O = .ok (.str z) O then some h.choose else none
theorem rprI_some {m : MF} {p : PV} {O : Sto} {z : Str} (h : rprI m p O = some z) : m [p] O = .ok (.str z) O := by
  unfold rprI at h
  split at h
  · rename_i c
    cases h
    exact c.choose_spec
  · cases h
theorem rprI_of {m : MF} {p : PV} {O : Sto} {z : Str} (h : m [p] O = .ok (.str z) O) : rprI m p O = some z := by
  have c : ∃ z, m [p] O = .ok (.str z) O := ⟨z, h⟩
  unfold rprI
  rw [dif_pos c]
  have e := h.symm.trans c.choose_spec
  injection e with e _
  injection e with e
  rw [← e]
def shL (f : PV → Option Str) : List PV → Option (List Str)
  | [] => some []
  | p :: ps => match f p, shL f ps with
    | some t, some ts => some (t :: ts)
    | _, _ => none
theorem shL_cons {f : PV → Option Str} {p : PV} {ps : List PV} {ts : List Str} (h : shL f (p :: ps) = some ts) : ∃ t r, ts = t :: r ∧ f p = some t ∧ shL f ps = some r := by
  unfold shL at h
  cases e1 : f p with
  | none => rw [e1] at h; cases h
  | some t =>
    cases e2 : shL f ps with
    | none => rw [e1, e2] at h; cases h
    | some r => rw [e1, e2] at h; cases h; exact ⟨t, r, rfl, rfl, rfl⟩
theorem shL_get {f : PV → Option Str} : ∀ {ps : List PV} {ts : List Str} {i : Nat} {p : PV}, shL f ps = some ts → ps[i]? = some p → ∃ t, ts[i]? = some t ∧ f p = some t
  | [], _, _, _, _, e => by simp at e
  | q :: ps, _, 0, p, h, e => by
    obtain ⟨t, r, rfl, h1, _⟩ := shL_cons h
    simp only [List.getElem?_cons_zero, Option.some.injEq] at e
    subst e
    exact ⟨t, rfl, h1⟩
  | q :: ps, _, i + 1, p, h, e => by
    obtain ⟨t, r, rfl, _, h2⟩ := shL_cons h
    exact shL_get (ps := ps) (i := i) h2 (by simpa using e)
theorem shL_len {f : PV → Option Str} : ∀ {ps : List PV} {ts : List Str}, shL f ps = some ts → ts.length = ps.length
  | [], _, h => by cases h; rfl
  | p :: ps, _, h => by
    obtain ⟨t, r, rfl, _, h2⟩ := shL_cons h
    simp [shL_len h2]
theorem shL_map {α : Type} {f : PV → Option Str} {g : α → PV} {t : α → Str} : ∀ xs : List α, (∀ x ∈ xs, f (g x) = some (t x)) → shL f (xs.map g) = some (xs.map t)
  | [], _ => rfl
  | x :: xs, h => by
    show (match f (g x), shL f (xs.map g) with
      | some t, some ts => some (t :: ts)
      | _, _ => none) = _
    rw [h x List.mem_cons_self, shL_map xs fun y hy => h y (List.mem_cons_of_mem _ hy)]
    rfl
noncomputable def shG (tab : List (Str × MF)) (O : Sto) (f : PV → Option Str) (p : PV) : Option Str := match kids O p with
  | some (true, ps) => (shL f ps).map tupleText
  | some (false, ps) => (shL f ps).map listText
  | none => match insOf O p with
    | some (C, _, _) => match tab.lookup C with
      | some m => rprI m p O
      | none => none
    | none => none
def scT : PV → Option Str
  | .non => some "None"
  | .bl b => some (if b then ("True" : Str) else "False")
  | .int i => if i.natAbs.log2 < 1920 then some (toString i) else none
  | .str z => if (reprText z).length ≤ sizeLine then some (reprText z) else none
  | _ => none
def shD : List PV → List PV → Option (List Str)
  | [], [] => some []
  | k :: ks, v :: vs => match keyP k, scT k, scT v, shD ks vs with
    | some _, some a, some b, some r => some ((a ++ ": " ++ b) :: r)
    | _, _, _, _ => none
  | _, _ => none
noncomputable def shO (tab : List (Str × MF)) (O : Sto) : Nat → PV → Option Str
  | 0, _ => none
  | n + 1, p => match p with
    | .non => some "None"
    | .bl b => some (if b then ("True" : Str) else "False")
    | .int i => if i.natAbs.log2 < 1920 then some (toString i) else none
    | .str z => if (reprText z).length ≤ sizeLine then some (reprText z) else none
    | .dic ks vs => (shD ks vs).map dictText
    | p => shG tab O (shO tab O n) p
def pdp (O : Sto) : Nat → PV → Nat
  | 0, _ => 0
  | n + 1, p => match kids O p with
    | some (_, ps) => 1 + (ps.map (pdp O n)).foldr max 0
    | none => 0
theorem foldr_max_le {xs : List Nat} {x : Nat} (h : x ∈ xs) : x ≤ xs.foldr max 0 := by
  induction xs with
  | nil => cases h
  | cons y ys ih =>
    rw [List.foldr_cons]
    rcases List.mem_cons.mp h with rfl | h
    · omega
    · have := ih h
      omega
section
variable {tab : List (Str × MF)} {O : Sto}
inductive ShC (tab : List (Str × MF)) (O : Sto) (n : Nat) : PV → Str → Prop
  | non : ShC tab O n .non "None"
  | bl (b : Bool) : ShC tab O n (.bl b) (if b then ("True" : Str) else "False")
  | int (i : Int) (h : i.natAbs.log2 < 1920) : ShC tab O n (.int i) (toString i)
  | str (z : Str) (h : (reprText z).length ≤ sizeLine) : ShC tab O n (.str z) (reprText z)
  | tup {p : PV} {ps : List PV} {ts : List Str} (h : tupOf p = some ps) (k : shL (shO tab O n) ps = some ts) : ShC tab O n p (tupleText ts)
  | lst {p : PV} {ps : List PV} {ts : List Str} (h0 : tupOf p = none) (h : lstOf O p = some ps) (k : shL (shO tab O n) ps = some ts) : ShC tab O n p (listText ts)
  | dic {ks vs : List PV} {ts : List Str} (k : shD ks vs = some ts) : ShC tab O n (.dic ks vs) (dictText ts)
  | ins {p : PV} {C : Str} {ns : List Str} {ps : List PV} {m : MF} {t : Str} (h0 : kids O p = none) (h : insOf O p = some (C, ns, ps)) (e : tab.lookup C = some m) (k : m [p] O = .ok (.str t) O) : ShC tab O n p t
theorem shC_of {n : Nat} {p : PV} {t : Str} (h : shO tab O (n + 1) p = some t) : ShC tab O n p t := by
  have gen : shG tab O (shO tab O n) p = some t → ShC tab O n p t := fun h => by
    unfold shG at h
    cases e : kids O p with
    | some q =>
      obtain ⟨b, ps⟩ := q
      rw [e] at h
      cases e1 : tupOf p with
      | some qs =>
        have e2 : kids O p = some (true, qs) := by unfold kids; rw [e1]
        rw [e] at e2
        cases e2
        obtain ⟨ts, e3, rfl⟩ := Option.map_eq_some_iff.mp h
        exact .tup e1 e3
      | none =>
        have e2 : kids O p = (lstOf O p).map fun ps => (false, ps) := by unfold kids; rw [e1]
        rw [e] at e2
        obtain ⟨qs, e3, e4⟩ := Option.map_eq_some_iff.mp e2.symm
        cases e4
        obtain ⟨ts, e5, rfl⟩ := Option.map_eq_some_iff.mp h
        exact .lst e1 e3 e5
    | none =>
      rw [e] at h
      simp only at h
      cases e1 : insOf O p with
      | none => rw [e1] at h; cases h
      | some q =>
        obtain ⟨C, ns, ps⟩ := q
        rw [e1] at h
        simp only at h
        cases e2 : tab.lookup C with
        | none => rw [e2] at h; cases h
        | some m =>
          rw [e2] at h
          exact .ins e e1 e2 (rprI_some h)
  cases p with
  | non => cases h; exact .non
  | bl b => cases h; exact .bl b
  | int i =>
    have h : (if i.natAbs.log2 < 1920 then some (toString i : Str) else none) = some t := h
    split at h
    · rename_i c; cases h; exact .int i c
    · cases h
  | str z =>
    have h : (if (reprText z).length ≤ sizeLine then some (reprText z) else none) = some t := h
    split at h
    · rename_i c; cases h; exact .str z c
    · cases h
  | dic ks vs =>
    obtain ⟨ts, e, rfl⟩ := Option.map_eq_some_iff.mp (show (shD ks vs).map dictText = some t from h)
    exact .dic e
  | _ => exact gen h
theorem kids_tup {p : PV} {ps : List PV} (h : tupOf p = some ps) : kids O p = some (true, ps) := by unfold kids; rw [h]
theorem kids_lst {p : PV} {ps : List PV} (h0 : tupOf p = none) (h : lstOf O p = some ps) : kids O p = some (false, ps) := by unfold kids; rw [h0]; simp only [h]; rfl
theorem pdp_kid {n : Nat} {p : PV} {b : Bool} {ps : List PV} (h : kids O p = some (b, ps)) : pdp O (n + 1) p = 1 + (ps.map (pdp O n)).foldr max 0 := by
  conv => lhs; unfold pdp
  rw [h]
theorem pdp_stay : ∀ (n m : Nat) (p : PV) (t : Str), shO tab O n p = some t → n ≤ m → pdp O m p = pdp O n p
  | 0, _, _, _, h, _ => by cases h
  | n + 1, 0, _, _, _, hm => absurd hm (by omega)
  | n + 1, m + 1, p, t, h, hm => by
    have go : ∀ {b : Bool} {ps : List PV} {ts : List Str}, kids O p = some (b, ps) → shL (shO tab O n) ps = some ts → pdp O (m + 1) p = pdp O (n + 1) p := fun {b ps ts} e k => by
      rw [pdp_kid e, pdp_kid e]
      congr 2
      refine List.map_congr_left fun q hq => ?_
      obtain ⟨i, hi⟩ := List.getElem?_of_mem hq
      obtain ⟨t, _, ht⟩ := shL_get k hi
      exact pdp_stay n m q t ht (by omega)
    cases shC_of h with
    | tup e k => exact go (kids_tup e) k
    | lst e0 e k => exact go (kids_lst e0 e) k
    | ins e0 _ _ _ => unfold pdp; rw [e0]
    | _ => rfl
theorem pdp_lt {n M : Nat} {p q : PV} {b : Bool} {ps : List PV} {ts : List Str} (e : kids O p = some (b, ps)) (k : shL (shO tab O n) ps = some ts) (hq : q ∈ ps) (hM : n + 1 ≤ M) : pdp O M q < pdp O M p := by
  obtain ⟨i, hi⟩ := List.getElem?_of_mem hq
  obtain ⟨t, _, ht⟩ := shL_get k hi
  obtain ⟨M', rfl⟩ : ∃ M', M = M' + 1 := ⟨M - 1, by omega⟩
  rw [pdp_kid e]
  have e1 := pdp_stay n (M' + 1) q t ht (by omega)
  have e2 := pdp_stay n M' q t ht (by omega)
  have := foldr_max_le (List.mem_map.mpr ⟨q, hq, rfl⟩ : pdp O M' q ∈ ps.map (pdp O M'))
  omega
theorem shO_of {n : Nat} {p : PV} {t : Str} (h : ShC tab O n p t) : shO tab O (n + 1) p = some t := by
  have g : ∀ {p : PV}, shG tab O (shO tab O n) p = some t → (p ≠ .non ∧ (∀ b, p ≠ .bl b) ∧ (∀ i, p ≠ .int i) ∧ (∀ z, p ≠ .str z) ∧ ∀ ks vs, p ≠ .dic ks vs) → shO tab O (n + 1) p = some t := fun {p} h ⟨h1, h2, h3, h4, h5⟩ => by
    cases p with
    | non => exact absurd rfl h1
    | bl b => exact absurd rfl (h2 b)
    | int i => exact absurd rfl (h3 i)
    | str z => exact absurd rfl (h4 z)
    | dic ks vs => exact absurd rfl (h5 ks vs)
    | _ => exact h
  cases h with
  | non => rfl
  | bl b => rfl
  | int i h => show (if _ then _ else _) = _; rw [if_pos h]
  | str z h => show (if _ then _ else _) = _; rw [if_pos h]
  | dic k => show (shD _ _).map dictText = _; rw [k]; rfl
  | tup e k =>
    refine g ?_ ⟨fun c => ?_, fun _ c => ?_, fun _ c => ?_, fun _ c => ?_, fun _ _ c => ?_⟩
    · unfold shG
      rw [kids_tup e]
      simp only [k]
      rfl
    all_goals
      subst c
      cases e
  | lst e0 e k =>
    refine g ?_ ⟨fun c => ?_, fun _ c => ?_, fun _ c => ?_, fun _ c => ?_, fun _ _ c => ?_⟩
    · unfold shG
      rw [kids_lst e0 e]
      simp only [k]
      rfl
    all_goals
      subst c
      cases e
  | ins e0 e1 e2 k =>
    refine g ?_ ⟨fun c => ?_, fun _ c => ?_, fun _ c => ?_, fun _ c => ?_, fun _ _ c => ?_⟩
    · unfold shG
      rw [e0]
      simp only [e1, e2]
      exact rprI_of k
    all_goals
      subst c
      cases e1
theorem shO_mono : ∀ (n m : Nat) (p : PV) (t : Str), shO tab O n p = some t → n ≤ m → shO tab O m p = some t
  | 0, _, _, _, h, _ => by cases h
  | n + 1, 0, _, _, _, hm => absurd hm (by omega)
  | n + 1, m + 1, p, t, h, hm => by
    have go : ∀ {ps : List PV} {ts : List Str}, shL (shO tab O n) ps = some ts → shL (shO tab O m) ps = some ts := by
      intro ps
      induction ps with
      | nil => exact fun k => k
      | cons q ps ih =>
        intro ts k
        obtain ⟨t, r, rfl, h1, h2⟩ := shL_cons k
        unfold shL
        rw [shO_mono n m q t h1 (by omega), ih h2]
    refine shO_of ?_
    cases shC_of h with
    | non => exact .non
    | bl b => exact .bl b
    | int i c => exact .int i c
    | str z c => exact .str z c
    | dic k => exact .dic k
    | tup e k => exact .tup e (go k)
    | lst e0 e k => exact .lst e0 e (go k)
    | ins e0 e1 e2 k => exact .ins e0 e1 e2 k
end
end Qx

/-! Own layer Yz: the run of repr over lists and tuples that hold own instances. -/
namespace Gx
open PySem PySem.Spec PyProof.Rows L2
theorem Room.loopG {k : Nat} {A : Around} (r : Room (k + 1) A) (args : Args) : Room k (A.under (.builtin "list.__repr__.loop" args)) := by
  have hd : (A.under (.builtin "list.__repr__.loop" args)).depth = A.depth + 1 := by
    first | rfl | simp [Around.under, Code.weight, Code.isCreation, Code.isGuard, Code.isCaller, Code.frames, Code.isFrame, guardIds]
  have hu := units_under_list_loop A args
  exact ⟨r.hd, by have := r.dp; rw [hd]; omega, by have := r.un; rw [hu]; omega⟩
theorem Room.tupG {k : Nat} {A : Around} {id : String} {args : Args} (r : Room (k + 1) A) (hd : (A.under (.builtin id args)).depth ≤ A.depth + 1) (hu : (A.under (.builtin id args)).units = A.units + 1) : Room k (A.under (.builtin id args)) :=
  ⟨r.hd, by have := r.dp; omega, by have := r.un; rw [hu]; omega⟩
theorem frames_list_loop (A : Around) (args : Args) : (A.under (.builtin "list.__repr__.loop" args)).frames = A.frames := by
  first | rfl | simp [Around.under, pushEnvs, Code.envs]
theorem frames_tup (A : Around) (args : Args) : (A.under (.builtin "tuple.__repr__" args)).frames = A.frames := by
  first | rfl | simp [Around.under, pushEnvs, Code.envs]
theorem frames_tupU (A : Around) (args : Args) : (A.under (.builtin "tuple.__repr__.under" args)).frames = A.frames := by
  first | rfl | simp [Around.under, pushEnvs, Code.envs]
theorem depth_tup (A : Around) (args : Args) : (A.under (.builtin "tuple.__repr__" args)).depth ≤ A.depth + 1 := by
  first | exact Nat.le_refl _ | simp [Around.under, Code.weight, Code.isCreation, Code.isGuard, Code.isCaller, Code.frames, Code.isFrame, guardIds]
theorem depth_tupU (A : Around) (args : Args) : (A.under (.builtin "tuple.__repr__.under" args)).depth ≤ A.depth + 1 := by
  first | exact Nat.le_refl _ | simp [Around.under, Code.weight, Code.isCreation, Code.isGuard, Code.isCaller, Code.frames, Code.isFrame, guardIds]
end Gx
namespace Qx
open PySem PySem.Spec PyProof.Rows L2 Gx
open Builtin Builtin.List
inductive TabR (X : Cx) (k : Nat) : List (Str × MF) → Prop
  | nil : TabR X k []
  | cons {C : Str} {m : MF} {r : List (Str × MF)} {d : He.DefD} (D : DOk X.prog X.w X.K X.mg X.base d CX0 k ["self"] (spM X.K false m)) (hm : Meth X.K (He.ga X.K C) "__repr__" (He.fAd X.K d.at_)) (hb : BdN d ["self"]) (t : TabR X k r) : TabR X k ((C, m) :: r)
theorem TabR.at_ {X : Cx} {k : Nat} {tab : List (Str × MF)} (T : TabR X k tab) {C : Str} {m : MF} (e : tab.lookup C = some m) : ∃ d, DOk X.prog X.w X.K X.mg X.base d CX0 k ["self"] (spM X.K false m) ∧ Meth X.K (He.ga X.K C) "__repr__" (He.fAd X.K d.at_) ∧ BdN d ["self"] := by
  induction T with
  | nil => cases e
  | @cons C' m' r d D hm hb t ih =>
    rw [List.lookup_cons] at e
    split at e
    · rename_i c
      cases e
      have c : C = C' := by simpa using c
      subst c
      exact ⟨d, D, hm, hb⟩
    · exact ih e
section
variable {X : Cx} {tab : List (Str × MF)} {R : List (Addr × HO)} {O : Sto}
theorem dep_same {pins : List (Addr × Obj)} {σ : L2.St} {ι : List Addr} {H : Hp} {s : Shared} (S : Sim X.K R ι O H) (I : Inv X pins σ H s) : ∀ (n : Nat) (p q : PV) (a : Addr) (t t' : Str), Rep X.K ι (fz R ι O H) p (.ref a) → Rep X.K ι (fz R ι O H) q (.ref a) → shO tab O n p = some t → shO tab O n q = some t' → pdp O n p = pdp O n q
  | 0, _, _, _, _, _, _, _, h, _ => by cases h
  | n + 1, p, q, a, t, t', r1, r2, h1, h2 => by
    have two : ∀ {b : Bool} {ps qs : List PV} {ts ts' : List Str} {xs : List V}, kids O p = some (b, ps) → kids O q = some (b, qs) → shL (shO tab O n) ps = some ts → shL (shO tab O n) qs = some ts' → RepL X.K ι (fz R ι O H) ps xs → RepL X.K ι (fz R ι O H) qs xs → pdp O (n + 1) p = pdp O (n + 1) q := fun {b ps qs ts ts' xs} e1 e2 k1 k2 l1 l2 => by
      rw [pdp_kid e1, pdp_kid e2]
      congr 2
      refine List.ext_getElem? fun i => ?_
      rw [List.getElem?_map, List.getElem?_map]
      have hl : ps.length = qs.length := by rw [← l1.len, ← l2.len]
      cases c : ps[i]? with
      | none =>
        have := List.getElem?_eq_none_iff.mp c
        rw [List.getElem?_eq_none_iff.mpr (by omega)]
      | some p1 =>
        obtain ⟨hi, _⟩ := List.getElem?_eq_some_iff.mp c
        obtain ⟨q1, c2⟩ : ∃ q1, qs[i]? = some q1 := ⟨_, List.getElem?_eq_getElem (by omega)⟩
        rw [c2]
        obtain ⟨x, ex, rx⟩ := l1.get c
        obtain ⟨y, ey, ry⟩ := l2.get c2
        rw [ex] at ey
        cases ey
        obtain ⟨t1, _, ht1⟩ := shL_get k1 c
        obtain ⟨t2, _, ht2⟩ := shL_get k2 c2
        show some _ = some _
        congr 1
        cases x with
        | ref b => exact dep_same S I n p1 q1 b t1 t2 rx ry ht1 ht2
        | _ =>
          have lf : ∀ {p : PV} {t : Str}, (∃ v, Rep X.K ι (fz R ι O H) p v ∧ ∀ a, v ≠ .ref a) → shO tab O n p = some t → pdp O n p = 0 := fun {p t} ⟨v, r, hv⟩ h => by
            cases n with
            | zero => rfl
            | succ n =>
              have : kids O p = none := by
                cases e : kids O p with
                | none => rfl
                | some w =>
                  refine absurd ?_ (fun z : False => z)
                  obtain ⟨b, ps⟩ := w
                  unfold kids at e
                  cases e1 : tupOf p with
                  | some qs =>
                    obtain ⟨a, xs, e2, _⟩ := tupOf_read r e1
                    exact hv a e2
                  | none =>
                    rw [e1] at e
                    obtain ⟨qs, e2, _⟩ := Option.map_eq_some_iff.mp e
                    obtain ⟨a, xs, e3, _⟩ := lst_read S r e2
                    exact hv a e3
              unfold pdp
              rw [this]
          rw [lf ⟨_, rx, fun _ => nofun⟩ ht1, lf ⟨_, ry, fun _ => nofun⟩ ht2]
    have tup_lst : ∀ {xs ys : List V}, SqT X.K H a xs → SqL X.K H a ys → False := fun h h' => by
      obtain ⟨its, r, ⟨o, e, c, n, d⟩, _⟩ := I.tuple h
      obtain ⟨its', r', ⟨o', n', e', c', _, d'⟩, _⟩ := I.list h'
      rw [e] at e'
      cases e'
      rw [c] at c'
      injection c' with c'
      exact absurd c' (by decide)
    have noI : ∀ {C : Addr} {dx : Addr} {fl : List (Str × V)}, H a = some (.ins C dx fl) → ∀ {o : Obj} {items : Array Value} {n : Nat}, s.heap.get? a = some o → o.data = .seq items n → False := fun {C dx fl} h {o items n} e d => by
      obtain ⟨mA, J, _⟩ := ins_get I.hok h
      obtain ⟨_, _, _, ob, _⟩ := (show ObjOk _ _ H s.heap a (.ins _ _ _) from I.hok a _ h)
      rw [e] at ob
      cases ob
      cases d
    have insT : ∀ {C : Addr} {dx : Addr} {fl : List (Str × V)} {xs : List V}, H a = some (.ins C dx fl) → SqT X.K H a xs → False := fun h h' => by
      obtain ⟨its, r, ⟨o, e, c, n, d⟩, _⟩ := I.tuple h'
      exact noI h e d
    have insL : ∀ {C : Addr} {dx : Addr} {fl : List (Str × V)} {xs : List V}, H a = some (.ins C dx fl) → SqL X.K H a xs → False := fun h h' => by
      obtain ⟨its, r, ⟨o, n, e, c, _, d⟩, _⟩ := I.list h'
      exact noI h e d
    have noD : ∀ {kvs : List (Key × V)}, H a = some (.dK kvs) → ∀ {o : Obj} {items : Array Value} {n : Nat}, s.heap.get? a = some o → o.data = .seq items n → False := fun {kvs} h {o items n} e d => by
      obtain ⟨_, _, vs, _, ⟨o', es, ep, e', _, d', _⟩⟩ := (show ObjOk _ _ H s.heap a (.dK _) from I.hok a _ h)
      rw [e] at e'
      cases e'
      rw [d] at d'
      cases d'
    have dicT : ∀ {kvs : List (Key × V)} {xs : List V}, H a = some (.dK kvs) → SqT X.K H a xs → False := fun h h' => by
      obtain ⟨its, r, ⟨o, e, c, n, d⟩, _⟩ := I.tuple h'
      exact noD h e d
    have dicL : ∀ {kvs : List (Key × V)} {xs : List V}, H a = some (.dK kvs) → SqL X.K H a xs → False := fun h h' => by
      obtain ⟨its, r, ⟨o, n, e, c, _, d⟩, _⟩ := I.list h'
      exact noD h e d
    have z0 : ∀ {p : PV}, kids O p = none → pdp O (n + 1) p = 0 := fun {p} e => by unfold pdp; rw [e]
    cases shC_of h1 with
    | non => cases r1
    | bl _ => cases r1
    | int _ _ => cases r1
    | str _ _ => cases r1
    | tup e1 k1 =>
      obtain ⟨a1, xs, ea, sq1, l1⟩ := tupOf_read r1 e1
      cases ea
      cases shC_of h2 with
      | non => cases r2
      | bl _ => cases r2
      | int _ _ => cases r2
      | str _ _ => cases r2
      | tup e2 k2 =>
        obtain ⟨a2, ys, ea, sq2, l2⟩ := tupOf_read r2 e2
        cases ea
        have ex := I.tuple_inj (sqt_same S.frozen sq1) (sqt_same S.frozen sq2)
        subst ex
        exact two (kids_tup e1) (kids_tup e2) k1 k2 l1 l2
      | lst e0 e2 k2 =>
        obtain ⟨a2, ys, ea, sq2, l2⟩ := lst_read S r2 e2
        cases ea
        exact (tup_lst (sqt_same S.frozen sq1) sq2).elim
      | dic k2 =>
        obtain ⟨a2, kvs, ea, hi, _⟩ := r2
        cases ea
        exact (dicT (S.frozen _ _ hi) (sqt_same S.frozen sq1)).elim
      | ins e0 e2 _ _ =>
        obtain ⟨a2, dx, ys, ea, hi, _⟩ := ins_read S r2 e2
        cases ea
        exact (insT hi (sqt_same S.frozen sq1)).elim
    | lst e0 e1 k1 =>
      obtain ⟨a1, xs, ea, sq1, l1⟩ := lst_read S r1 e1
      cases ea
      cases shC_of h2 with
      | non => cases r2
      | bl _ => cases r2
      | int _ _ => cases r2
      | str _ _ => cases r2
      | tup e2 k2 =>
        obtain ⟨a2, ys, ea, sq2, l2⟩ := tupOf_read r2 e2
        cases ea
        exact (tup_lst (sqt_same S.frozen sq2) sq1).elim
      | lst e3 e2 k2 =>
        obtain ⟨a2, ys, ea, sq2, l2⟩ := lst_read S r2 e2
        cases ea
        have ex := I.list_inj sq1 sq2
        subst ex
        exact two (kids_lst e0 e1) (kids_lst e3 e2) k1 k2 l1 l2
      | dic k2 =>
        obtain ⟨a2, kvs, ea, hi, _⟩ := r2
        cases ea
        exact (dicL (S.frozen _ _ hi) sq1).elim
      | ins e3 e2 _ _ =>
        obtain ⟨a2, dx, ys, ea, hi, _⟩ := ins_read S r2 e2
        cases ea
        exact (insL hi sq1).elim
    | dic k1 =>
      obtain ⟨a1, kvs, ea, hi, _⟩ := r1
      cases ea
      cases shC_of h2 with
      | non => cases r2
      | bl _ => cases r2
      | int _ _ => cases r2
      | str _ _ => cases r2
      | tup e2 k2 =>
        obtain ⟨a2, ys, ea, sq2, l2⟩ := tupOf_read r2 e2
        cases ea
        exact (dicT (S.frozen _ _ hi) (sqt_same S.frozen sq2)).elim
      | lst e3 e2 k2 =>
        obtain ⟨a2, ys, ea, sq2, l2⟩ := lst_read S r2 e2
        cases ea
        exact (dicL (S.frozen _ _ hi) sq2).elim
      | dic k2 => rfl
      | ins e3 e2 _ _ => rw [z0 e3]; rfl
    | ins e0 e1 _ _ =>
      obtain ⟨a1, dx, xs, ea, hi, _⟩ := ins_read S r1 e1
      cases ea
      cases shC_of h2 with
      | non => cases r2
      | bl _ => cases r2
      | int _ _ => cases r2
      | str _ _ => cases r2
      | tup e2 k2 =>
        obtain ⟨a2, ys, ea, sq2, l2⟩ := tupOf_read r2 e2
        cases ea
        exact (insT hi (sqt_same S.frozen sq2)).elim
      | lst e3 e2 k2 =>
        obtain ⟨a2, ys, ea, sq2, l2⟩ := lst_read S r2 e2
        cases ea
        exact (insL hi sq2).elim
      | dic k2 => rw [z0 e0]; rfl
      | ins e3 e2 _ _ => rw [z0 e0, z0 e3]

def ClrG (K : PySem.W.Frag) (R : List (Addr × HO)) (ι : List Addr) (O : Sto) (H : Hp) (tab : List (Str × MF)) (M : Nat) (g : List Code) (p : PV) : Prop :=
  ∀ id v rest kw, Code.builtin id ⟨v :: rest, kw⟩ ∈ g → ∀ b, v = .ref b → ∃ q t, Rep K ι (fz R ι O H) q (.ref b) ∧ shO tab O M q = some t ∧ pdp O M p < pdp O M q
theorem ClrG.nil {K : PySem.W.Frag} {ι : List Addr} {H : Hp} {M : Nat} {p : PV} : ClrG K R ι O H tab M [] p := fun _ _ _ _ h => nomatch h
theorem ClrG.ext {K : PySem.W.Frag} {ι ι' : List Addr} {H H' : Hp} {M : Nat} {g : List Code} {p : PV} (h : ClrG K R ι O H tab M g p) (x : Ext R ι O H ι' O H') : ClrG K R ι' O H' tab M g p := fun id v rest kw hm b e => by
  obtain ⟨q, t, h1, h2, h3⟩ := h id v rest kw hm b e
  exact ⟨q, t, x.rep h1, h2, h3⟩
theorem ClrG.kid {K : PySem.W.Frag} {ι : List Addr} {H : Hp} {M : Nat} {g : List Code} {p q : PV} {a : Addr} {t : Str} {id : String} {rest : List Value} {kw : List (Str × Value)} (h : ClrG K R ι O H tab M g p) (hl : pdp O M q < pdp O M p) (r : Rep K ι (fz R ι O H) p (.ref a)) (hp : shO tab O M p = some t) : ClrG K R ι O H tab M (.builtin id ⟨.ref a :: rest, kw⟩ :: g) q := fun id' v rest' kw' hm b e => by
  rcases List.mem_cons.mp hm with c | hm
  · cases c
    cases e
    exact ⟨p, t, r, hp, hl⟩
  · obtain ⟨q', t', h1, h2, h3⟩ := h id' v rest' kw' hm b e
    exact ⟨q', t', h1, h2, by omega⟩
theorem ClrG.clear {pins : List (Addr × Obj)} {σ : L2.St} {ι : List Addr} {H : Hp} {s : Shared} {M : Nat} {g : List Code} {p : PV} {a : Addr} {t : Str} (h : ClrG X.K R ι O H tab M g p) (S : Sim X.K R ι O H) (I : Inv X pins σ H s) (r : Rep X.K ι (fz R ι O H) p (.ref a)) (hp : shO tab O M p = some t) : Clear g a := fun id v rest kw hm e => by
  obtain ⟨q, t', h1, h2, h3⟩ := h id v rest kw hm a e
  have := dep_same S I M p q a t t' r h1 hp h2
  omega
def ItR (X : Cx) (tab : List (Str × MF)) (R : List (Addr × HO)) (O : Sto) (k M n : Nat) : Prop := ∀ (p : PV) (t : Str), shO tab O n p = some t → ∀ (ι : List Addr) (H : Hp) (x : V) (u : Value) (pins : List (Addr × Obj)) (σ : L2.St) (s : Shared) (A : Around) (g : List Code) (Q : Str → Shared → Prop) (base : Nat), Sim X.K R ι O H → Rep X.K ι (fz R ι O H) p x → RelV x u → Inv X pins σ H s → A.guards = some g → ClrG X.K R ι O H tab M g p → Room (k + n) A → A.frames = X.A.frames → base + t.length ≤ sizeLine →
  (∀ ι' H' s', Sim X.K R ι' O H' → Ext R ι O H ι' O H' → Inv X pins σ H' s' → Q t s') → wpAny (model X.prog X.w) A (pyReprUnder base u) Q X.xe s
abbrev gatO (acc : Array Value) (c : Nat) : Obj := { cls := .type "list", dict := none, data := .seq acc c, slots := #[] }
theorem Inv.unpin {q : Addr × Obj} {pins : List (Addr × Obj)} {σ : L2.St} {H : Hp} {s : Shared} (I : Inv X (q :: pins) σ H s) : Inv X pins σ H s := I.pins_of fun p hp => I.pin p (List.mem_append_right _ (List.mem_cons_of_mem _ hp))
theorem Inv.gat {P : Addr} {acc acc' : Array Value} {c c' : Nat} {pins : List (Addr × Obj)} {σ : L2.St} {H : Hp} {s : Shared} {h' : Heap} {t' : Nat} (I : Inv X ((P, gatO acc c) :: pins) σ H s) (hP0 : X.s_0.heap.objs.size ≤ P) (hP3 : ∀ q ∈ X.pn ++ pins, q.1 ≠ P) (k : ∀ b o, b ≠ P → s.heap.get? b = some o → h'.get? b = some o) (e : h'.get? P = some (gatO acc' c')) : Inv X ((P, gatO acc' c') :: pins) σ H { s with heap := h', toks := t' } := by
  obtain ⟨e1, n, nl, nf, _⟩ := I.pin (P, gatO acc c) (List.mem_append_right _ List.mem_cons_self)
  have J := (Inv.unpin I).turned (t' := t') (it := P) k n nl (.inr hP0) (fun x c e2 z => by
    obtain ⟨v, o, ho, hd⟩ := I.cell x c e2
    rw [z] at ho
    rw [show s.heap.get? P = some (gatO acc _) from e1] at ho
    cases ho
    cases hd) hP3
  refine J.pins_of fun p hp => ?_
  rcases List.mem_cons.mp hp with rfl | hp
  · exact ⟨e, n, nl, nf, fun v => nofun⟩
  · exact J.pin p (List.mem_append_right _ hp)
theorem rp_loop {k M n : Nat} (IH : ItR X tab R O k M n) (hM : n + 1 ≤ M) {p : PV} {ps : List PV} {ts : List Str} {a P : Addr} (h0 : tupOf p = none) (hl : lstOf O p = some ps) (sh : shL (shO tab O n) ps = some ts) {tp : Str} (hp : shO tab O M p = some tp)
    {A : Around} {g : List Code} {base : Nat} (hg : A.guards = some g) (hr : Room (k + n + 1) A) (hf : A.frames = X.A.frames) (hsz : base + (listText ts).length ≤ sizeLine) {Rr : Result → Shared → Prop} {pins : List (Addr × Obj)} {σ : L2.St} (hP0 : X.s_0.heap.objs.size ≤ P) (hP3 : ∀ q ∈ X.pn ++ pins, q.1 ≠ P) (hE : ∀ e s', X.xe e s' → Rr (.error e) s') :
    ∀ (j i : Nat) (ι : List Addr) (H : Hp) (s : Shared) (acc : Array Value) (c : Nat) (done : List (Str × Tok)), ps.length - i = j → i ≤ ps.length → Sim X.K R ι O H → Rep X.K ι (fz R ι O H) p (.ref a) → ClrG X.K R ι O H tab M g p → Inv X ((P, gatO acc c) :: pins) σ H s → acc.toList = strValues done → done.map (·.1) = ts.take i →
    (∀ ι' H' s' u, Sim X.K R ι' O H' → Ext R ι O H ι' O H' → Inv X pins σ H' s' → Rr (.ok (.ret (.str (listText ts) u))) s') →
    codeAny (model X.prog X.w) A (.builtin "list.__repr__.loop" ⟨[.ref a, rawInt i, .ref P, rawInt ((base + piled (ts.take i) : Nat) : Int)], []⟩) Rr s := by
  have hX : (listText ts).length = (textFrom 0 "[" ts).length + 1 := by
    show (textFrom 0 "[" ts ++ "]").length = _
    rw [strLen_append]; rfl
  have hL := textFrom_len ts 0 "["
  have hsz2 : ∀ t ∈ ts, t.length ≤ sizeLine := fun t ht => by
    have h2 := hL.2.1 t ht
    omega
  have hsz3 : (listText ts).length ≤ sizeLine := by omega
  have hp3 := piled_le_listText ts
  have hlen := shL_len sh
  have hsz1 : ps.length ≤ sizeLine := by
    have h1 := hL.1
    rw [if_neg (Nat.lt_irrefl 0)] at h1
    omega
  intro j
  induction j with
  | zero =>
    intro i ι H s acc c done hk hi S r _ I hacc hdone hR
    have hin : i = ps.length := by omega
    obtain ⟨a', xs, ea, sq, l⟩ := lst_read S r hl
    cases ea
    obtain ⟨its, rv, ⟨o, m, ha, _, _, hda⟩, _⟩ := (Inv.unpin I).list sq
    have hil : its.length = ps.length := by rw [← rv.length, l.len]
    have hP := (I.pin (P, gatO acc c) (List.mem_append_right _ List.mem_cons_self)).1
    refine codeAny_builtin F.entry_list_repr_loop ?_
    show wpAny _ _ («list.__repr__.loop» ⟨[.ref a, .int i 0, .ref P, .int ((base + piled (ts.take i) : Nat) : Int) 0], []⟩) _ _ s
    rw [repr_loop_tree]
    refine wpAny_bind (wpAny_listItems ha hda ?_)
    have hnone : its.toArray[(i : Int).toNat]? = none := by simp [hin, hil]
    simp only [hnone]
    unfold reprEnd
    refine wpAny_bind (wpAny_listItems hP rfl ?_)
    rw [hacc, repr_fold]
    refine wpAny_bind (wpAny_pure ?_)
    have hall : done.map (·.1) = ts := by rw [hdone, hin, ← hlen, List.take_length]
    rw [hall]
    refine wpAny_bind (wpAny_mkStr (wpAny_pure ?_) hsz3)
    exact hR ι H _ _ S .refl ((Inv.unpin I).tok _)
  | succ j ih =>
    intro i ι H s acc c done hk hi S r hc I hacc hdone hR
    have hlt : i < ps.length := by omega
    obtain ⟨q, eq⟩ : ∃ q, ps[i]? = some q := ⟨_, List.getElem?_eq_getElem hlt⟩
    obtain ⟨t, ht, htq⟩ := shL_get sh eq
    obtain ⟨a', xs, ea, sq, l⟩ := lst_read S r hl
    cases ea
    obtain ⟨its, rv, ⟨o, m, ha, _, _, hda⟩, _⟩ := (Inv.unpin I).list sq
    obtain ⟨x, ex, rx⟩ := l.get eq
    obtain ⟨u, eu, ru⟩ := rv.get ex
    have hP := (I.pin (P, gatO acc c) (List.mem_append_right _ List.mem_cons_self)).1
    have hp1 := piled_take_succ ht
    have hp2 := piled_take_le ts (i + 1)
    refine codeAny_builtin F.entry_list_repr_loop ?_
    show wpAny _ _ («list.__repr__.loop» ⟨[.ref a, .int i 0, .ref P, .int ((base + piled (ts.take i) : Nat) : Int) 0], []⟩) _ _ s
    rw [repr_loop_tree]
    refine wpAny_bind (wpAny_listItems ha hda ?_)
    have hsome : its.toArray[(i : Int).toNat]? = some u := by simpa using eu
    simp only [hsome]
    rw [Int.toNat_natCast]
    have hq : q ∈ ps := List.mem_of_getElem? eq
    refine wpAny_bind (wpAny_holding (wpAny_mono (IH q t htq ι H x u ((P, gatO acc c) :: pins) σ s _ _ (fun t' s' => t = t' ∧ ∃ ι' H', Sim X.K R ι' O H' ∧ Ext R ι O H ι' O H' ∧ Inv X ((P, gatO acc c) :: pins) σ H' s') (base + piled (ts.take i) + 1) S rx ru I (guards_under_guard (isGuard_list_loop _) hg) (hc.kid (pdp_lt (kids_lst h0 hl) sh hq hM) r hp) (Room.loopG hr _) (by rw [frames_list_loop]; exact hf) (by omega) fun ι' H' s' S' x' I' => ⟨rfl, ι', H', S', x', I'⟩) (fun t' s' hz => ?_) hE))
    obtain ⟨rfl, ι', H', S', x', I'⟩ := hz
    have hP' := (I'.pin (P, gatO acc c) (List.mem_append_right _ List.mem_cons_self)).1
    refine wpAny_bind (wpAny_mkStr ?_ (hsz2 t (List.mem_of_getElem? ht)))
    refine wpAny_bind ?_
    show wpAny _ _ (updateSeq P _) _ _ _
    have hasz : acc.size ≤ sizeLine := by
      have e1 : acc.toList.length = acc.size := by simp
      have e2 : (strValues done).length = done.length := by simp [strValues]
      have e3 : done.length = (ts.take i).length := by rw [← hdone, List.length_map]
      have e4 : (ts.take i).length ≤ i := by rw [List.length_take]; omega
      rw [hacc] at e1; omega
    refine wpAny_updateSeq hP' rfl (wpAny_pure ⟨F.quiet_list_repr_loop _, ?_⟩) hasz
    have e1 : ((i : Int) + 1) = ((i + 1 : Nat) : Int) := by omega
    have e2 : base + piled (ts.take i) + (t.length + 2) = base + piled (ts.take (i + 1)) := by omega
    rw [e1, e2]
    obtain ⟨c', upd⟩ : ∃ c', (s'.heap.update P (Obj.mapSeq fun x => x.push (.str t s'.toks))).get? P = some (gatO (acc.push (.str t s'.toks)) c') := ⟨_, Heap.get?_update_self _ hP' rfl⟩
    refine ih (i + 1) ι' H' _ (acc.push (.str t s'.toks)) _ (done ++ [(t, s'.toks)]) (by omega) hlt S' (x'.rep r) (hc.ext x') (Inv.gat (s := { s' with toks := s'.toks + 1 }) (t' := s'.toks + 1) (I'.tok _) hP0 hP3 (fun b o hb e => (Heap.get?_update_other _ _ (fun h : P = b => hb h.symm)).trans e) upd) (by simp [hacc, strValues]) (by simp [List.take_add_one, ht, hdone]) fun ι2 H2 s2 u2 S2 x2 I2 => ?_
    exact hR ι2 H2 s2 u2 S2 (x'.trans x2) I2
theorem rp_list_at {k M n : Nat} (IH : ItR X tab R O k M n) (hM : n + 1 ≤ M) {p q : PV} {ps : List PV} {ts : List Str} {a : Addr} (h0 : tupOf p = none) (hl : lstOf O p = some (q :: ps)) (sh : shL (shO tab O n) (q :: ps) = some ts) {tp : Str} (hp : shO tab O M p = some tp)
    {A : Around} {g : List Code} {base : Nat} (hg : A.guards = some g) (hr : Room (k + n + 1) A) (hf : A.frames = X.A.frames) (hsz : base + (listText ts).length ≤ sizeLine) {Rr : Result → Shared → Prop} {pins : List (Addr × Obj)} {σ : L2.St} {ι : List Addr} {H : Hp} {s : Shared} (hE : ∀ e s', X.xe e s' → Rr (.error e) s')
    (S : Sim X.K R ι O H) (r : Rep X.K ι (fz R ι O H) p (.ref a)) (hc : ClrG X.K R ι O H tab M g p) (I : Inv X pins σ H s)
    (hR : ∀ ι' H' s' u, Sim X.K R ι' O H' → Ext R ι O H ι' O H' → Inv X pins σ H' s' → Rr (.ok (.ret (.str (listText ts) u))) s') :
    wpAny (model X.prog X.w) A.in1 (Builtin.listReprAt base ⟨[.ref a], []⟩) (fun fin s' => match fin with | .done f => Rr (.ok f) s' | .again c' => c'.quiet = true ∧ codeAny (model X.prog X.w) A c' Rr s') (fun e s' => Rr (.error e) s') s := by
  obtain ⟨a', xs, ea, sq, l⟩ := lst_read S r hl
  cases ea
  obtain ⟨its, rv, ⟨o, m, ha, _, _, hda⟩, _⟩ := I.list sq
  have hca := hc.clear S I r hp
  obtain ⟨x, xr, rfl, _, _⟩ := l
  obtain ⟨u, ur, rfl⟩ : ∃ u ur, its = u :: ur := by
    cases rv with
    | cons _ _ => exact ⟨_, _, rfl⟩
  refine wpAny_list_repr_head (A := A.in1) hg (fun v rest kw hm => listSameRef_of_ne (hca _ _ _ _ hm)) ha hda ?_
  refine wpAny_bind (m := newList []) (wpAny_newObj_type ?_)
  refine wpAny_pure ⟨F.quiet_list_repr_loop _, ?_⟩
  have J : Inv X pins σ H { s with heap := s.heap.push (gatO #[] 0), toks := s.toks } := I.kept fun b o e => Heap.get?_push_of_some _ e
  have hPn : H s.heap.objs.size = none := I.hok.fresh (Nat.le_refl _)
  have J2 : Inv X ((s.heap.objs.size, gatO #[] 0) :: pins) σ H { s with heap := s.heap.push (gatO #[] 0), toks := s.toks } := J.pins_of fun p hp => by
    rcases List.mem_cons.mp hp with rfl | hp
    · exact ⟨Heap.get?_push_size _ rfl, hPn, fun e => absurd I.lt (by rw [← e]; exact Nat.lt_irrefl _), I.nofs (Nat.le_refl _), fun v => nofun⟩
    · exact J.pin p (List.mem_append_right _ hp)
  exact rp_loop IH hM (P := s.heap.objs.size) h0 hl sh hp hg hr hf hsz I.sz (fun p hp e => absurd (Heap.lt_size (I.pin p hp).1) (by rw [e]; exact Nat.lt_irrefl _)) hE _ 0 ι H _ #[] _ [] rfl (Nat.zero_le _) S r hc J2 rfl (by simp) hR
theorem rp_fold {k M n : Nat} (IH : ItR X tab R O k M n) {A : Around} {g : List Code} (hg : A.guards = some g) (hr : Room (k + n) A) (hf : A.frames = X.A.frames) {pins : List (Addr × Obj)} {σ : L2.St} :
    ∀ (l : List Value) (xs : List V) (ps : List PV) (ts : List Str) (acc : Array Str) (m : Nat) (ι : List Addr) (H : Hp) (s : Shared) (Q : (Array Str × Nat) → Shared → Prop), Vals xs l → RepL X.K ι (fz R ι O H) ps xs → shL (shO tab O n) ps = some ts → m + piled ts ≤ sizeLine → Sim X.K R ι O H → Inv X pins σ H s → (∀ q ∈ ps, ClrG X.K R ι O H tab M g q) →
    (∀ ι' H' s', Sim X.K R ι' O H' → Ext R ι O H ι' O H' → Inv X pins σ H' s' → Q ⟨acc ++ ts.toArray, m + piled ts⟩ s') → wpAny (model X.prog X.w) A (forIn l (⟨acc, m⟩ : (Array Str × Nat)) tupBody) Q X.xe s := by
  intro l
  induction l with
  | nil =>
    intro xs ps ts acc m ι H s Q rv rl sh _ S I _ h
    cases rv
    have e : ps = [] := List.length_eq_zero_iff.mp (by rw [← rl.len]; rfl)
    subst e
    cases sh
    simp only [List.forIn_nil]
    have := h ι H s S .refl I
    exact wpAny_pure (by simpa [piled] using this)
  | cons u l ih =>
    intro xs ps ts acc m ι H s Q rv rl sh hn S I hc h
    cases rv with
    | @cons x _ xr _ ru rv =>
      cases ps with
      | nil => cases rl
      | cons p ps =>
        obtain ⟨_, _, e, rx, rl⟩ := rl
        cases e
        obtain ⟨t, tr, rfl, ht, sh⟩ := shL_cons sh
        rw [piled_cons] at hn
        rw [List.forIn_cons]
        refine wpAny_bind (wpAny_bind (IH p t ht ι H x u pins σ s A g _ (m + 1) S rx ru I hg (hc p List.mem_cons_self) hr hf (by omega) fun ι' H' s' S' x' I' => wpAny_pure ?_))
        refine ih xr ps tr (acc.push t) (m + (t.length + 2)) ι' H' s' Q rv (x'.repL rl) sh (by omega) S' I' (fun q hq => (hc q (List.mem_cons_of_mem _ hq)).ext x') fun ι2 H2 s2 S2 x2 I2 => ?_
        have h1 := h ι2 H2 s2 S2 (x'.trans x2) I2
        have e : m + piled (t :: tr) = m + (t.length + 2) + piled tr := by rw [piled_cons]; omega
        rw [e] at h1
        simpa using h1
theorem rp_tup_at {k M n : Nat} (IH : ItR X tab R O k M n) (hM : n + 1 ≤ M) {p : PV} {ps : List PV} {ts : List Str} {a : Addr} (h0 : tupOf p = some ps) (sh : shL (shO tab O n) ps = some ts) {tp : Str} (hp : shO tab O M p = some tp)
    {A : Around} {g : List Code} {base : Nat} {id : String} {rest : List Value} (hcg : (Code.builtin id ⟨.ref a :: rest, []⟩).isGuard = true) (hcd : (A.under (.builtin id ⟨.ref a :: rest, []⟩)).depth ≤ A.depth + 1) (hcu : (A.under (.builtin id ⟨.ref a :: rest, []⟩)).units = A.units + 1) (hcf : (A.under (.builtin id ⟨.ref a :: rest, []⟩)).frames = A.frames)
    (hg : A.guards = some g) (hr : Room (k + n + 1) A) (hf : A.frames = X.A.frames) (hsz : base + (tupleText ts).length ≤ sizeLine) {Rr : Result → Shared → Prop} {pins : List (Addr × Obj)} {σ : L2.St} {ι : List Addr} {H : Hp} {s : Shared} (hE : ∀ e s', X.xe e s' → Rr (.error e) s')
    (S : Sim X.K R ι O H) (r : Rep X.K ι (fz R ι O H) p (.ref a)) (hc : ClrG X.K R ι O H tab M g p) (I : Inv X pins σ H s)
    (hR : ∀ ι' H' s' u, Sim X.K R ι' O H' → Ext R ι O H ι' O H' → Inv X pins σ H' s' → Rr (.ok (.ret (.str (tupleText ts) u))) s') :
    wpOwn (model X.prog X.w) A (.builtin id ⟨.ref a :: rest, []⟩) (Builtin.tupleReprAt base ⟨[.ref a], []⟩) (fun fin s' => match fin with | .done f => Rr (.ok f) s' | .again c' => c'.quiet = true ∧ codeAny (model X.prog X.w) A c' Rr s') (fun e s' => Rr (.error e) s') s := by
  obtain ⟨a', xs, ea, sq, l⟩ := tupOf_read r h0
  cases ea
  obtain ⟨its, rv, ⟨o, ha, _, m, hda⟩, _⟩ := I.tuple (sqt_same S.frozen sq)
  have hca := hc.clear S I r hp
  have hlen : ts.length = its.toArray.size := by
    rw [shL_len sh, List.size_toArray, ← rv.length, l.len]
  have hpl := piled_le_tupleText ts
  have hsz0 : (tupleText ts).length ≤ sizeLine := by omega
  rw [tuple_repr_tree, tupleReprUnderWay_eq]
  refine wpOwn_bind (wpOwn_stackTailAny hg (tupGuardF_off _) (tupGuardF_pos _) ?_)
  have hn : (g.any fun c => tupGuardF (.ref a) (c, default)) = false := by
    rw [List.any_eq_false]
    intro c hcm
    rw [tupGuardF_of_clear hca c hcm]
    exact Bool.false_ne_true
  rw [hn]
  refine wpOwn_of_wpAny ?_
  show wpAny _ _ (tupleReprRest base (.ref a)) _ _ s
  unfold tupleReprRest Builtin.Tuple.tupleItemsOf
  refine wpAny_bind (wpAny_bind (wpAny_seqItems ha hda (wpAny_pure ?_)))
  rw [← Array.forIn_toList]
  refine wpAny_bind (wpAny_mono (rp_fold IH (guards_under_guard hcg hg) (Room.tupG hr hcd hcu) (by rw [hcf]; exact hf) its xs ps ts _ _ ι H s (fun v s' => v = ⟨#[] ++ ts.toArray, base + piled ts⟩ ∧ ∃ ι' H', Sim X.K R ι' O H' ∧ Ext R ι O H ι' O H' ∧ Inv X pins σ H' s') rv l sh (by omega) S I (fun q hq => hc.kid (pdp_lt (kids_tup h0) sh hq hM) r hp) fun ι' H' s' S' x' I' => ⟨rfl, ι', H', S', x', I'⟩) (fun v s' hz => ?_) hE)
  obtain ⟨rfl, ι', H', S', x', I'⟩ := hz
  refine wpAny_bind (wpAny_mkStr (wpAny_pure ?_) (by simpa [tupleText, hlen] using hsz0))
  have h1 := hR ι' H' _ s'.toks S' x' (I'.tok (s'.toks + 1))
  simpa [tupleText, hlen] using h1
theorem sc_is {ι : List Addr} {G : Hp} {p : PV} {x : V} {u : Value} {t : Str} (h : scT p = some t) (r : Rep X.K ι G p x) (ru : RelV x u) : ReprIs X.prog X.w u t := by
  cases p with
  | non => cases h; cases r; cases ru; exact ReprIs.none
  | bl b => cases h; cases r; cases ru; exact ReprIs.bool b
  | int i =>
    cases r
    obtain ⟨tk, rfl⟩ := ru
    have h : (if i.natAbs.log2 < 1920 then some (toString i : Str) else none) = some t := h
    split at h
    · rename_i c; cases h; exact ReprIs.int tk c
    · cases h
  | str z =>
    cases r
    obtain ⟨tk, rfl⟩ := ru
    have h : (if (reprText z).length ≤ sizeLine then some (reprText z) else none) = some t := h
    split at h
    · rename_i c; cases h; exact ReprIs.str z tk c
    · cases h
  | _ => cases h
theorem dic_ents {ι : List Addr} {G : Hp} {h₀ : Heap} : ∀ {ks vs : List PV} {ts : List Str} {kvs : List (Key × V)} {ws : List (Key × Value)} {es : List DictEntry}, shD ks vs = some ts → ks.map keyP = kvs.map (fun w => some w.1) → RepL X.K ι G vs (kvs.map (·.2)) → L2.KV kvs ws → Pairs (mixKind X.prog X.w) es ws → ReprEntriesK X.prog X.w [] h₀ 0 es ts
  | [], [], ts, kvs, ws, es, h, e, _, r, p => by
    cases h
    cases kvs with
    | nil => cases r; cases p; exact .nil
    | cons _ _ => cases e
  | [], _ :: _, _, _, _, _, h, _, _, _, _ => by cases h
  | _ :: _, [], _, _, _, _, h, _, _, _, _ => by cases h
  | k :: ks, v :: vs, ts, kvs, ws, es, h, e, l, r, p => by
    unfold shD at h
    cases c1 : keyP k with
    | none => simp only [c1] at h; cases h
    | some kk =>
      cases c2 : scT k with
      | none => simp only [c1, c2] at h; cases h
      | some a =>
        cases c3 : scT v with
        | none => simp only [c1, c2, c3] at h; cases h
        | some b =>
          cases c4 : shD ks vs with
          | none => simp only [c1, c2, c3, c4] at h; cases h
          | some tr =>
            simp only [c1, c2, c3, c4] at h
            cases h
            cases kvs with
            | nil => cases e
            | cons kv kvs =>
              rw [List.map_cons, List.map_cons, c1] at e
              injection e with e1 e2
              injection e1 with e1
              obtain ⟨x, xr, ex, rx, rl⟩ := l
              rw [List.map_cons] at ex
              injection ex with ex1 ex2
              subst ex1 ex2
              cases r with
              | cons rh rt =>
                cases p with
                | cons hk hv pt =>
                  refine .cons (ReprK.of_is ?_ _ _ _) (ReprK.of_is ?_ _ _ _) (dic_ents c4 e2 rl rt pt)
                  · have hk : keyIs _ _ = true := hk
                    rw [← rh.1, ← e1] at hk
                    cases k with
                    | int i =>
                      cases c1
                      rcases keyIs_shape hk with ⟨j, t, e3, e4⟩ | ⟨z, t, e3, e4⟩
                      · cases e3
                        rw [e4]
                        exact sc_is (X := X) (ι := ι) (G := G) (x := .int i) c2 rfl ⟨t, rfl⟩
                      · cases e3
                    | str z =>
                      cases c1
                      rcases keyIs_shape hk with ⟨j, t, e3, e4⟩ | ⟨y, t, e3, e4⟩
                      · cases e3
                      · cases e3
                        rw [e4]
                        exact sc_is (X := X) (ι := ι) (G := G) (x := .str z) c2 rfl ⟨t, rfl⟩
                    | _ => cases c1
                  · rw [hv]
                    exact sc_is c3 rx rh.2
theorem rp_run {k M : Nat} (T : TabR X k tab) (hx : ∀ e s', ¬ X.xe e s' → True) : ∀ n, n ≤ M → ItR X tab R O k M n
  | 0, _ => fun _ _ h => nomatch h
  | n + 1, hM => fun p t h ι H x u pins σ s A g Q base S r ru I hg hc hr hf hsz hQ => by
    have IH := rp_run (M := M) T hx n (by omega)
    have hp := shO_mono (n + 1) M p t h hM
    have room : A.units < cLine := by have := hr.un; omega
    cases shC_of h with
    | non =>
      cases r
      cases ru
      exact ReprIs.none base hsz A _ s Q fun tk => hQ ι H _ S .refl (I.tok tk)
    | bl b =>
      cases r
      cases ru
      exact ReprIs.bool b base hsz A _ s Q fun tk => hQ ι H _ S .refl (I.tok tk)
    | int i hi =>
      cases r
      obtain ⟨tk, rfl⟩ := ru
      exact ReprIs.int tk hi base hsz A _ s Q fun tk => hQ ι H _ S .refl (I.tok tk)
    | str z hz =>
      cases r
      obtain ⟨tk, rfl⟩ := ru
      exact ReprIs.str z tk hz base hsz A _ s Q fun tk => hQ ι H _ S .refl (I.tok tk)
    | tup h0 sh =>
      obtain ⟨a, xs, ea, sq, l⟩ := tupOf_read r h0
      subst ea
      cases ru
      obtain ⟨its, rv, ⟨o, ha, hcl, m, hda⟩, _⟩ := I.tuple (sqt_same S.frozen sq)
      refine wpAny_pyReprUnder_ref (by omega) (wpAny_pyReprObjUnder_twin (twin := "tuple.__repr__.under") ⟨o, ha, hcl⟩ F.slot_tuple_repr rfl room ?_)
      exact call_twin_own (F.quiet_tuple_repr_under _) F.entry_tuple_repr_under F.check_tuple_repr_under ⟨o, ha, hcl⟩ F.slot_tuple_repr (F.args_tuple_repr_1 _) (rp_tup_at IH hM h0 sh hp (isGuard_tuple_repr_under _) (depth_tupU _ _) (units_under_tuple_repr_under _ _) (frames_tupU _ _) hg hr hf hsz (Rr := callEnd _ _) (fun e s' z => z) S r hc I fun ι' H' s' u S' x' I' => ⟨⟨_, _, rfl⟩, _, _, rfl, hQ ι' H' s' S' x' I'⟩)
    | @lst _ ps _ h0 hl sh =>
      obtain ⟨a, xs, ea, sq, l⟩ := lst_read S r hl
      subst ea
      cases ru
      obtain ⟨its, rv, ⟨o, m, ha, hcl, _, hda⟩, _⟩ := I.list sq
      cases ps with
      | nil =>
        cases sh
        have e1 := l.len
        have e2 := rv.length
        have e3 : its = [] := List.length_eq_zero_iff.mp (by rw [← e2, e1]; rfl)
        subst e3
        refine wpAny_pyReprUnder_ref (by omega) (wpAny_pyReprObjUnder_list_empty ⟨o, ha, hcl⟩ room ha hda ⟨_, _, by rw [listText_nil], hQ ι H _ S .refl (I.tok _)⟩)
      | cons q ps =>
        refine wpAny_pyReprUnder_ref (by omega) (wpAny_pyReprObjUnder_twin (twin := "list.__repr__.under") ⟨o, ha, hcl⟩ F.slot_list_repr.toG rfl room ?_)
        exact call_twin_plain F.plain_list_repr_under F.entry_list_repr_under F.check_list_repr_under ⟨o, ha, hcl⟩ F.slot_list_repr.toG (F.args_list_repr_1 _) (rp_list_at IH hM h0 hl sh hp hg hr hf hsz (Rr := callEnd _ _) (fun e s' z => z) S r hc I fun ι' H' s' u S' x' I' => ⟨⟨_, _, rfl⟩, _, _, rfl, hQ ι' H' s' S' x' I'⟩)
    | dic kd =>
      have hca := fun (a : Addr) (r : Rep X.K ι (fz R ι O H) _ (.ref a)) => hc.clear S I r hp
      obtain ⟨a, kvs, ea, hi, e1, l⟩ := r
      subst ea
      cases ru
      obtain ⟨_, hsys, vs, kv, ⟨o, es, ep, ha, ex, hd, _, pr, _⟩⟩ := (show ObjOk _ _ H s.heap a (.dK _) from I.hok a _ (S.frozen _ _ hi))
      exact ReprK.dict (as := []) (d := 0) ha ex.1 hd hsys (fun z => nomatch z) (dic_ents kd e1 l kv pr) base hsz A g _ s Q hg (fun b hb => by
        rw [List.mem_singleton.mp hb]
        exact hca a ⟨a, kvs, rfl, hi, e1, l⟩) (by have := hr.un; omega) (fun _ _ z => z) fun h' tk hk => hQ ι H _ S .refl (I.kept hk)
    | ins h0 hi e km =>
      obtain ⟨d, D, hm, hb⟩ := T.at_ e
      obtain ⟨a, dx, xs, ea, hi2, _⟩ := ins_read S r hi
      subst ea
      cases ru
      obtain ⟨fd, F, G⟩ := D.ex
      obtain ⟨mA, J, _⟩ := ins_get I.hok hi2
      obtain ⟨od, J, _⟩ := J.look
      refine PySem.W.pyReprUnder_own (by omega) room I.kIn J hm.at_ hm.fn ?_
      refine wpAny_mono (run_fnA (us := [.ref a]) (vs := [.ref a]) (dvs := []) (ds := []) (E := E0) (Q := fun v H' => v = .str t ∧ ∃ ι', Sim X.K R ι' O H' ∧ Ext R ι O H ι' O H') G (hr.mono (show k ≤ k + (n + 1) by omega)) hf (FunD.bdN F hb) .nil pass0 I (.cons rfl .nil) ⟨R, ι, O, [p], S, .one r, ?_⟩) (fun v s' z => ?_) fun _ _ z => z
      · rw [km]
        intro v ι' H' S' x' rv
        cases rv
        exact ⟨rfl, ι', S', x'⟩
      · obtain ⟨v, H', I', rw_, rfl, ι', S', x'⟩ := z
        obtain ⟨tk, rfl⟩ := rw_
        exact ⟨_, _, rfl, hQ ι' H' s' S' x' I'⟩
def rReprO (K : PySem.W.Frag) (tab : List (Str × MF)) (xs : List V) (H : Hp) (Q : VK) : Prop := ∃ R ι O p x t, xs = [x] ∧ Sim K R ι O H ∧ Rep K ι (fz R ι O H) p x ∧ shO tab O 9 p = some t ∧ t.length ≤ sizeLine ∧ ∀ ι' H', Sim K R ι' O H' → Ext R ι O H ι' O H' → Q (.str t) H'
end
theorem call_reprO {X : Cx} {tab : List (Str × MF)} {k j : Nat} (T : TabR X k tab) (hg : X.A.guards = some []) (hr : Room j X.A) (hj : k + 10 ≤ j) : CallR X (.builtin "repr") (rReprO X.K tab) := by
  intro pins s σ H xs us Q I rv h
  obtain ⟨R, ι, O, p, x, t, rfl, S, r, hs, hz, q⟩ := h
  obtain ⟨u, rfl, rx⟩ := vals1 rv
  have hr : Room (k + 8 + 1) X.A.in1 := (hr.mono (show k + 8 + 1 + 1 ≤ j by omega)).in1
  have hu : X.A.units + 1 < cLine := by have := hr.un; show X.A.in1.units < _; omega
  have IH := rp_run (R := R) (O := O) (M := 9) T (fun _ _ _ => trivial) 8 (by omega)
  cases shC_of hs with
  | non =>
    cases r
    cases rx
    exact PySem.P.repr_of_none ⟨.str _, H, I.tok _, ⟨_, rfl⟩, q ι H S .refl⟩
  | bl b =>
    cases r
    cases rx
    exact PySem.P.repr_of_bool ⟨.str _, H, I.tok _, ⟨_, rfl⟩, q ι H S .refl⟩
  | int i hi =>
    cases r
    obtain ⟨tk, rfl⟩ := rx
    exact PySem.P.repr_of_int hi ⟨.str _, H, I.tok _, ⟨_, rfl⟩, q ι H S .refl⟩
  | str z hz =>
    cases r
    obtain ⟨tk, rfl⟩ := rx
    exact PySem.P.repr_of_str ⟨.str _, H, I.tok _, ⟨_, rfl⟩, q ι H S .refl⟩ hz
  | dic kd =>
    obtain ⟨a, kvs, ea, hi, e1, l⟩ := r
    subst ea
    cases rx
    obtain ⟨_, hsys, vs, kv, ⟨o, es, ep, ha, ex, hd, _, pr, _⟩⟩ := (show ObjOk _ _ H s.heap a (.dK _) from I.hok a _ (S.frozen _ _ hi))
    refine call_repr_slot hu ⟨o, ha, ex.1⟩ F.slot_dict_repr ?_
    exact call_dict_reprK (as := []) (d := 0) (g := []) ha ex.1 hd hsys (fun z => nomatch z) (dic_ents kd e1 l kv pr) hg (fun b _ => Clear.nil b) (by have := hr.un; omega) (fun _ _ z => z) (fun h' u tk hk => ⟨_, _, rfl, .str _, H, I.kept hk, ⟨u, rfl⟩, q ι H S .refl⟩) hz
  | ins h0 hi e km =>
    obtain ⟨d, D, hm, hb⟩ := T.at_ e
    obtain ⟨a, dx, xs, ea, hi2, _⟩ := ins_read S r hi
    subst ea
    cases rx
    obtain ⟨fd, F, G⟩ := D.ex
    obtain ⟨mA, J, _⟩ := ins_get I.hok hi2
    obtain ⟨od, J, _⟩ := J.look
    obtain ⟨m', hF⟩ := I.fr
    refine PySem.W.repr_K (by have := hr.un; omega) hF I.ok.mod.kin J hm.at_ hm.fn ?_
    refine wpAny_mono (run_fnA (us := [.ref a]) (vs := [.ref a]) (dvs := []) (ds := []) (E := E0) (Q := fun v H' => v = .str t ∧ ∃ ι', Sim X.K R ι' O H' ∧ Ext R ι O H ι' O H') G (hr.mono (show k ≤ k + 8 + 1 by omega)) rfl (FunD.bdN F hb) .nil pass0 I (.cons rfl .nil) ⟨R, ι, O, [p], S, .one r, ?_⟩) (fun v s' z => ?_) fun _ _ z => z
    · rw [km]
      intro v ι' H' S' x' rv
      cases rv
      exact ⟨rfl, ι', S', x'⟩
    · obtain ⟨v, H', I', rw_, rfl, ι', S', x'⟩ := z
      obtain ⟨tk, rfl⟩ := rw_
      exact ⟨.str _, H', I', ⟨tk, rfl⟩, q ι' H' S' x'⟩
  | tup h0 sh =>
    obtain ⟨a, xs, ea, sq, l⟩ := tupOf_read r h0
    subst ea
    cases rx
    obtain ⟨its, rv, ⟨o, ha, hcl, m, hda⟩, _⟩ := I.tuple (sqt_same S.frozen sq)
    refine call_repr_slot hu ⟨o, ha, hcl⟩ F.slot_tuple_repr ?_
    exact wpAny_call (codeAny_call_builtin_own (Code.quiet_builtin _ (by decide +kernel)) F.entry_tuple_repr (F.slot_tuple_repr.check _ _ _ _ _ _ _ _ ⟨o, ha, hcl⟩ (F.args_tuple_repr_1 _) (rp_tup_at (A := X.A.in1) (base := 0) IH (by omega) h0 sh hs (isGuard_tuple_repr _) (depth_tup _ _) (units_under_tuple_repr _ _) (frames_tup _ _) hg hr rfl (by omega) (Rr := callEnd _ _) (fun e s' z => z) S r .nil I fun ι' H' s' u S' x' I' => ⟨_, _, rfl, .str _, H', I', ⟨u, rfl⟩, q ι' H' S' x'⟩)))
  | @lst _ ps _ h0 hl sh =>
    obtain ⟨a, xs, ea, sq, l⟩ := lst_read S r hl
    subst ea
    cases rx
    obtain ⟨its, rv, ⟨o, m, ha, hcl, _, hda⟩, _⟩ := I.list sq
    refine call_repr_slot hu ⟨o, ha, hcl⟩ F.slot_list_repr.toG ?_
    cases ps with
    | nil =>
      cases sh
      have e1 := l.len
      have e2 := rv.length
      have e3 : its = [] := List.length_eq_zero_iff.mp (by rw [← e2, e1]; rfl)
      subst e3
      exact call_list_repr_empty ⟨o, ha, hcl⟩ ha hda ⟨_, _, rfl, .str _, H, I.tok _, ⟨_, by rw [listText_nil]⟩, q ι H S .refl⟩
    | cons q' ps =>
      exact wpAny_call (codeAny_call_builtin F.slot_list_repr.plain F.entry_list_repr (F.slot_list_repr.check _ _ _ _ _ _ _ _ ⟨o, ha, hcl⟩ (F.args_list_repr_1 _) (rp_list_at (A := X.A.in1) (base := 0) IH (by omega) h0 hl sh hs hg hr rfl (by omega) (Rr := callEnd _ _) (fun e s' z => z) S r .nil I fun ι' H' s' u S' x' I' => ⟨_, _, rfl, .str _, H', I', ⟨u, rfl⟩, q ι' H' S' x'⟩)))
noncomputable def bReprO (tab : List (Str × MF)) (ps : List PV) (O : Sto) : PR PV := match ps with
  | [p] => match shO tab O 9 p with
    | some t => if t.length ≤ sizeLine then .ok (.str t) O else .bad
    | none => .bad
  | _ => .bad
theorem cb_reprO {K : PySem.W.Frag} {tab : List (Str × MF)} : CbS K (rReprO K tab) (bReprO tab) := by
  intro R ι O H ps xs E Q S r h
  match ps, h with
  | [], h => exact h.elim
  | _ :: _ :: _, h => exact h.elim
  | [p], h =>
    obtain ⟨x, t, e, r1, e2⟩ := r
    cases e2
    subst e
    unfold bReprO at h
    simp only at h
    cases e2 : shO tab O 9 p with
    | none => simp only [e2] at h; exact h.elim
    | some t =>
      simp only [e2] at h
      split at h
      · rename_i c
        exact ⟨R, ι, O, p, x, t, rfl, S, r1, e2, c, fun ι' H' S' x' => h (.str t) ι' H' S' x' rfl⟩
      · exact h.elim
theorem go_reprO {tab : List (Str × MF)} {p : PV} {t : Str} {O : Sto} {Q : PV → Sto → Prop} (e2 : shO tab O 9 p = some t) (c : t.length ≤ sizeLine) (k : Q (.str t) O) : Go (bReprO tab [p] O) Q := by
  unfold bReprO
  simp only [e2]
  rw [if_pos c]
  exact k
end Qx

/-! Own layer Za: == and != of data, item by item: what is never looked at may be anything; empty dicts are alike. -/
namespace Qx
open PySem PySem.Spec PyProof.Rows L2 Gx
section
variable {X : Cx} {R : List (Addr × HO)} {O : Sto} {ι : List Addr} {H : Hp} {pins : List (Addr × Obj)} {σ : L2.St} {s : Shared}
def EqD (s : Shared) (n : Nat) (u v : Value) (b : Bool) : Prop := ∀ A : Around, A.units + n < cLine → SeqAt.EqAt A s u v b
theorem EqD.same {n : Nat} {v : Value} : EqD s n v v true := fun A _ => SeqAt.EqAt.same v
theorem EqD.tuples {n : Nat} {l l' : Addr} {vs vs' : Array Value} {e : Nat → Bool} (hne : l ≠ l') (hl : s.heap.IsTuple l vs) (hl' : s.heap.IsTuple l' vs') (h : ∀ j (h1 : j < vs.size) (h2 : j < vs'.size), EqD s n vs[j] vs'[j] (e j)) : EqD s (n + 1) (.ref l) (.ref l') ((List.range (min vs.size vs'.size)).all e && vs.size == vs'.size) :=
  fun A hu => SeqAt.EqAt.of_refs hne (SeqAt.RcAt.tuples hl hl' (by omega) fun j h1 h2 => h j h1 h2 A.in1 (by show A.units + 1 + n < cLine; omega))
end
end Qx

/-! Own layer Zb: the great letters of a text. -/
namespace Qx
open PySem PySem.Spec PyProof.Rows L2 Gx
variable {K : PySem.W.Frag}
end Qx

/-! Own layer Zc: a tuple of targets whose first one is a place of a list. -/
namespace Qx
open PySem PySem.Spec PyProof.Rows L2 Gx
end Qx

/-! Own layer Zd: the end of a law that reaches repr and holds lambdas. -/
namespace Gx
open PySem PySem.Spec PyProof.Rows L2
section
variable {P : Program} {w : World} {K : PySem.W.Frag} {mg mb : Str → Option Value} {CX : CXT} {k : Nat} {fa a : Addr} {cs : List (Addr × Addr)} {fd : FuncData} {x : Str} {sp : Sp} {s₁ : Shared} {vs : List Value} {ns : List Int}
theorem tab_free {H : Hp} (tA : ∀ p ∈ cs, s₁.heap.get? p.2 = some { cls := .none, data := .fields #[] }) (ha : s₁.heap.get? a = some { cls := .type "list", data := .seq vs.toArray })
    (only : ∀ b, H b ≠ none → b = a ∨ b ∈ cs.map (·.2)) {b : Addr} {o : Obj} (e : s₁.heap.get? b = some o) (n1 : o.data ≠ .seq vs.toArray) (n2 : o.data ≠ .fields #[]) : (hidT s₁.heap H).get? b = some o := hidT_get e (by
  refine Classical.byContradiction fun c => ?_
  rcases only b c with rfl | q
  · rw [ha] at e
    cases e
    exact n1 rfl
  · obtain ⟨p, hp, rfl⟩ := List.mem_map.mp q
    rw [tA p hp] at e
    cases e
    exact n2 rfl)
theorem endT_core {H : Hp} (KX : K.In s₁.heap) (hns : s₁.heap.Ns mainGlobals mg) (hb : s₁.heap.Ns builtinsNs mb) (hbb : ∀ x : Str, x ≠ "__name__" → mb x = bootBuiltins x) (hlim : s₁.heap.NoLimit) (hg : s₁.gens = #[]) (tA : ∀ p ∈ cs, s₁.heap.get? p.2 = some { cls := .none, data := .fields #[] }) (tK : ∀ p ∈ cs, K.lookup p.2 = none) (tC : ∀ p ∈ cs, PySem.W.CodeHd s₁.heap p.1 p.2)
    (bi : ∃ (bm : Addr) (ob : Obj), mg "__builtins__" = some (.ref bm) ∧ bm ≠ builtinsNs ∧ s₁.heap.get? bm = some ob ∧ ob.cls = .type "module" ∧ ob.dict = some builtinsNs ∧ ob.data = .plain) (ha : s₁.heap.get? a = some { cls := .type "list", data := .seq vs.toArray }) (hr : Room k callerA)
    (F : ∀ base : Heap, K.In base → base.Ns mainGlobals mg → (∀ p ∈ cs, LamX.TabB base mg p.1 p.2) → FnG P w K mg base CX k fa fd [x] sp) (hbind : ∀ (s : Shared) (u : Value), BindsTo s fd ⟨[u], []⟩ [(x, u)]) (hsp : sp [.ref a] H (fun v _ => v = .bl true) fun _ _ _ => False) (hCX : ∀ e s', CX [] H s₁ (fun _ _ _ => False) e s' → False)
    (tH : ∀ p ∈ cs, H p.2 = some (.tbl #[])) (hO : ∀ b, H b = none ∨ b ∈ cs.map (·.2) ∨ ∃ o xs, H b = some (.frz o (.lst xs))) (hok : HOk P w H s₁.heap) (only : ∀ b, H b ≠ none → b = a ∨ b ∈ cs.map (·.2)) (out : H a ≠ none → K.lookup a = none) :
    codeAny (model P w) callerA (.call (.ref fa) ⟨[.ref a], []⟩) (fun r s' => r = .ok (.ret (.bool true)) ∧ OldK s₁.heap s'.heap ∧ s'.os = s₁.os ∧ AllBare s'.gens) s₁ := by
  have tf := fun {b : Addr} {o : Obj} => tab_free (b := b) (o := o) tA ha only
  have nsK : ∀ {b : Addr} {m : Str → Option Value}, s₁.heap.Ns b m → (hidT s₁.heap H).Ns b m := fun ⟨o, es, ep, e, d, r⟩ => ⟨o, es, ep, tf e (by rw [d]; exact nofun) (by rw [d]; exact nofun), d, r⟩
  have hK : K.In (hidT s₁.heap H) := fun b o e => hidT_get (KX b o e) (by
    refine Classical.byContradiction fun c => ?_
    rcases only b c with rfl | q
    · rw [out c] at e; cases e
    · obtain ⟨p, hp, rfl⟩ := List.mem_map.mp q
      rw [tK p hp] at e; cases e)
  obtain ⟨mc, l1, l2⟩ := hlim
  have glob := hns
  obtain ⟨og, eg, pg, hg1, hg2, _⟩ := glob
  have tb : ∀ p ∈ cs, LamX.TabB (hidT s₁.heap H) mg p.1 p.2 := fun p hp => by
    have t := tA p hp
    refine ⟨?_, ?_, fun z => ?_⟩
    · obtain ⟨o, us, file, tf2, flags, tg, inF, text, tt, e1, r1, r2, r3, r⟩ := tC p hp
      exact ⟨o, us, file, tf2, flags, tg, inF, text, tt, tf e1 (by rw [r2]; exact nofun) (fun z => by rw [r2] at z; cases z; simp at r3), r1, r2, r3, r⟩
    · obtain ⟨bm, ob, b1, b2, b3, b4, b5, b6⟩ := bi
      refine ⟨bm, ob, b1, b2, fun q => ?_, fun q => ?_, tf b3 (by rw [b6]; exact nofun) (by rw [b6]; exact nofun), b4, b5, b6⟩
      · rw [q, hg1] at b3
        cases b3
        rw [hg2] at b6
        cases b6
      · rw [q, t] at b3
        cases b3
        cases b6
    · rw [z, t] at hg1
      cases hg1
      cases hg2
  have e0 : Env0 P w K mg (hidT s₁.heap H) callerA [] s₁ H := ⟨rfl, ⟨hK, nsK hns, ⟨mb, nsK hb, hbb⟩, ⟨mc, nsK l1, l2⟩⟩, fun b o e => of_hidT e, Nat.le_of_eq (hidT_size _ _), trivial, (fun b hb => (nomatch hb)), hok, .of_eq hg⟩
  refine codeAny_mono ((F _ hK (nsK hns) tb).run callerA [] s₁ H ⟨[.ref a], []⟩ [.ref a] [.ref a] _ _ hr rfl e0 (hbind s₁ (.ref a)) (.cons rfl .nil) hsp) fun r s' h => ?_
  match r, h with
  | .error e, h => exact (hCX e s' h).elim
  | .ok .next, h => exact False.elim h
  | .ok .brk, h => exact False.elim h
  | .ok .cont, h => exact False.elim h
  | .ok (.ret u), h =>
    obtain ⟨v, H', os, bare, un, hok', r', q⟩ := h
    have q : v = .bl true := q
    subst q
    obtain rfl : u = Value.bool true := r'
    have stay : ∀ b o, b ∉ cs.map (·.2) → s₁.heap.get? b = some o → s'.heap.get? b = some o := fun b o nb e => by
      cases c : H b with
      | none => exact un.keep b o e c (by intro z; exact (nomatch z)) (by simp)
      | some y =>
        rcases hO b with z | z | ⟨ob, xs, z⟩
        · rw [c] at z; cases z
        · exact absurd z nb
        · obtain ⟨e1, _⟩ := hok b _ z
          obtain ⟨e2, _⟩ := hok' b _ (un.frzs b ob _ z)
          rw [e] at e1
          cases e1
          exact e2
    have more : ∀ p ∈ cs, ∃ m : Array Value, s'.heap.get? p.2 = some { cls := .none, data := .fields m } := fun p hp => by
      obtain ⟨m, z⟩ := un.tbls p.2 #[] (tH p hp)
      exact ⟨_, hok' p.2 _ z⟩
    refine ⟨rfl, ⟨fun b o e => ?_, fun b o e => ?_⟩, os, bare⟩
    · by_cases c : b ∈ cs.map (·.2)
      · obtain ⟨p, hp, rfl⟩ := List.mem_map.mp c
        obtain ⟨m, em⟩ := more p hp
        rw [tA p hp] at e
        cases e
        refine .inr (.inl ⟨((tC p hp).tab (tA p hp)).isCodeTable, rfl, #[], m, rfl, ?_⟩)
        rw [Array.empty_append]
        exact em
      · exact .inl (stay b o c e)
    · by_cases c : b ∈ cs.map (·.2)
      · obtain ⟨p, hp, rfl⟩ := List.mem_map.mp c
        obtain ⟨m, em⟩ := more p hp
        exact ⟨_, em⟩
      · exact ⟨o, stay b o c e⟩
theorem law_callTG (KX : K.In s₁.heap) (hns : s₁.heap.Ns mainGlobals mg) (hb : s₁.heap.Ns builtinsNs mb) (hbb : ∀ x : Str, x ≠ "__name__" → mb x = bootBuiltins x) (hlim : s₁.heap.NoLimit) (hg : s₁.gens = #[]) (tA : ∀ p ∈ cs, s₁.heap.get? p.2 = some { cls := .none, data := .fields #[] }) (tK : ∀ p ∈ cs, K.lookup p.2 = none) (tC : ∀ p ∈ cs, PySem.W.CodeHd s₁.heap p.1 p.2)
    (bi : ∃ (bm : Addr) (ob : Obj), mg "__builtins__" = some (.ref bm) ∧ bm ≠ builtinsNs ∧ s₁.heap.get? bm = some ob ∧ ob.cls = .type "module" ∧ ob.dict = some builtinsNs ∧ ob.data = .plain) (ha : s₁.heap.get? a = some { cls := .type "list", data := .seq vs.toArray }) (hi : IntsAre vs ns) (hl : ns.length ≤ sizeLine) (hr : Room k callerA)
    (F : ∀ base : Heap, K.In base → base.Ns mainGlobals mg → (∀ p ∈ cs, LamX.TabB base mg p.1 p.2) → FnG P w K mg base CX k fa fd [x] sp) (hbind : ∀ (s : Shared) (u : Value), BindsTo s fd ⟨[u], []⟩ [(x, u)]) (hsp : ∀ H : Hp, (∀ p ∈ cs, H p.2 = some (.tbl #[])) → SqL K H a (ns.map V.int) → sp [.ref a] H (fun v _ => v = .bl true) fun _ _ _ => False) (hCX : ∀ H e s', CX [] H s₁ (fun _ _ _ => False) e s' → False) :
    codeAny (model P w) callerA (.call (.ref fa) ⟨[.ref a], []⟩) (fun r s' => r = .ok (.ret (.bool true)) ∧ OldK s₁.heap s'.heap ∧ s'.os = s₁.os ∧ AllBare s'.gens) s₁ := by
  have rv := vals_ints hi
  have lenV := hi.length
  have isT : ∀ b : Addr, b ∈ cs.map (·.2) → s₁.heap.get? b = some { cls := .none, data := .fields #[] } := fun b q => by
    obtain ⟨p, hp, rfl⟩ := List.mem_map.mp q
    exact tA p hp
  have na : a ∉ cs.map (·.2) := fun z => by
    have q := isT a z
    rw [ha] at q
    have q2 : Data.seq vs.toArray _ = Data.fields #[] := congrArg Obj.data (Option.some.inj q)
    cases q2
  have mem : ∀ p ∈ cs, p.2 ∈ cs.map (·.2) := fun p hp => List.mem_map.mpr ⟨p, hp, rfl⟩
  have go : ∀ H : Hp, (∀ p ∈ cs, H p.2 = some (.tbl #[])) → (∀ b, H b = none ∨ b ∈ cs.map (·.2) ∨ ∃ o xs, H b = some (.frz o (.lst xs))) → SqL K H a (ns.map V.int) → HOk P w H s₁.heap → (∀ b, H b ≠ none → b = a ∨ b ∈ cs.map (·.2)) → (H a ≠ none → K.lookup a = none) → _ := fun H h0 h1 h2 h3 h4 h5 => endT_core KX hns hb hbb hlim hg tA tK tC bi ha hr F hbind (hsp H h0 h2) (hCX H) h0 h1 h3 h4 h5
  cases hk : K.lookup a with
  | some o =>
    have e := KX a o hk
    rw [ha] at e
    cases e
    let H : Hp := fun b => if b ∈ cs.map (·.2) then some (.tbl #[]) else none
    have on : ∀ {b}, b ∈ cs.map (·.2) → H b = some (.tbl #[]) := fun c => if_pos c
    have off : ∀ {b}, b ∉ cs.map (·.2) → H b = none := fun c => if_neg c
    refine go H (fun p hp => on (mem p hp)) (fun b => ?_) (.inr ⟨_, vs.toArray, _, hk, rfl, rfl, rfl, by rw [List.size_toArray, lenV]; exact hl, by simpa using rv⟩) (fun b u z => ?_) (fun b z => .inr (Classical.byContradiction fun c => z (off c))) fun z => absurd (off na) z
    · by_cases c : b ∈ cs.map (·.2)
      · exact .inr (.inl c)
      · exact .inl (off c)
    · by_cases c : b ∈ cs.map (·.2)
      · rw [on c] at z
        cases z
        exact isT b c
      · rw [off c] at z
        cases z
  | none =>
    let o : Obj := { cls := .type "list", data := .seq vs.toArray }
    let H : Hp := fun b => if b = a then some (.frz o (.lst (ns.map V.int))) else if b ∈ cs.map (·.2) then some (.tbl #[]) else none
    have at_a : H a = some (.frz o (.lst (ns.map V.int))) := if_pos rfl
    have on : ∀ {b}, b ∈ cs.map (·.2) → H b = some (.tbl #[]) := fun {b} c => (if_neg (fun z : b = a => na (z ▸ c))).trans (if_pos c)
    have off : ∀ {b}, b ≠ a → b ∉ cs.map (·.2) → H b = none := fun c d => (if_neg c).trans (if_neg d)
    refine go H (fun p hp => on (mem p hp)) (fun b => ?_) (.inl (.inr ⟨o, at_a⟩)) (fun b u z => ?_) (fun b z => ?_) fun _ => hk
    · by_cases c : b = a
      · exact .inr (.inr ⟨o, _, by rw [c]; exact at_a⟩)
      · by_cases d : b ∈ cs.map (·.2)
        · exact .inr (.inl d)
        · exact .inl (off c d)
    · by_cases c : b = a
      · subst c
        rw [at_a] at z
        cases z
        exact ⟨ha, by rw [List.length_map]; exact hl, vs, _, rv, ha⟩
      · by_cases d : b ∈ cs.map (·.2)
        · rw [on d] at z
          cases z
          exact isT b d
        · rw [off c d] at z
          cases z
    · by_cases c : b = a
      · exact .inl c
      · exact .inr (Classical.byContradiction fun d => z (off c d))
end
def LawAtG (l : PySem.W.OpenLaw) (w : World) (K : PySem.W.Frag) (CX : CXT) (k n : Nat) (x : Str) (mg : Str → Option Value) (fa : Addr) (h : Heap) : Prop := ∃ (fd : FuncData) (cs : List (Addr × Addr)) (sp : Sp), (∀ p ∈ cs, h.get? p.2 = some { cls := .none, data := .fields #[] }) ∧ (∀ p ∈ cs, K.lookup p.2 = none) ∧ (∀ p ∈ cs, PySem.W.CodeHd h p.1 p.2) ∧ (∀ (s : Shared) (u : Value), BindsTo s fd ⟨[u], []⟩ [(x, u)]) ∧ (∀ (H : Hp) (a : Addr) (ns : List Int), ns.length ≤ n → (∀ z ∈ ns, Builtin.Int.intBits z ≤ 1048576) → (∀ p ∈ cs, H p.2 = some (.tbl #[])) → SqL K H a (ns.map V.int) → sp [.ref a] H (fun v _ => v = .bl true) fun _ _ _ => False) ∧ ∀ base : Heap, K.In base → base.Ns mainGlobals mg → (∀ p ∈ cs, LamX.TabB base mg p.1 p.2) → FnG l.prog w K mg base CX k fa fd [x] sp
theorem walk_ofTG {l : PySem.W.OpenLaw} {n k : Nat} {q : Program} {loose : List Str} {XP : (Str → Option Value) → Heap → Prop} {YP : World → Heap → Prop} {d : DefRec} {CX : World → CXT} {x : Str} (hn : l.most = some n) (hn2 : n ≤ sizeLine) (hdf : d.params.defaults = []) (hr : Room k callerA)
    (F : ∀ (w : World) (mg : Str → Option Value) (fa : Addr) (h : Heap), YP w h → h.Ns mainGlobals mg → mg d.name = some (.ref fa) → ∃ K : PySem.W.Frag, K.In h ∧ LawAtG l w K (CX w) k n x mg fa h) (hCX : ∀ (w : World) (H : Hp) (s : Shared) (e : Value) (s' : Shared), CX w [] H s (fun _ _ _ => False) e s' → False) :
    PySem.W.WalkO q loose XP YP l.row.toRowW d [] (fun f vs => PySem.call f vs) := by
  refine Att.attach_callB hn hdf fun w s₀ s₁ mg mb fa o pm cd doc a vs ns G Y ho hd hcd hmg hobj hints hlen hbits hg => ?_
  obtain ⟨K, KX, fd, cs, sp, tA, tK, tC, hb, hsp, hF⟩ := F w mg fa _ Y G.T.g hmg
  exact law_callTG KX G.T.g G.T.b G.T.builtins G.T.nolimit hg tA tK tC G.T.bmain hobj hints (Nat.le_trans hlen hn2) hr hF hb (fun H hH hS => hsp H a ns hlen hbits hH hS) fun H e s' => hCX w H s₁ e s'
end Gx

/-! Own layer Qr: walking a mirror, second part: things that change. -/
namespace Qx
open PySem PySem.Spec PyProof.Rows L2 Gx
theorem ins_loc {O : Sto} {n : Nat} {C : Str} {ns : List Str} {ps : List PV} (h : O[n]? = some (some (.ins C ns ps))) : insOf O (.loc n) = some (C, ns, ps) := by simp [insOf, h]
theorem seq_loc {O : Sto} {n : Nat} {ps : List PV} (h : O[n]? = some (some (.lst ps))) : seqOf O (.loc n) = some ps := by
  unfold seqOf
  simp [lstOf, h]
theorem lstT_loc {O : Sto} {n : Nat} {ps : List PV} (h : O[n]? = some (some (.lst ps))) : lstT O (.loc n) = some ps := by simp [lstT, h]
section
variable {α : Type} {K : Ks} {QP : PV → Sto → Prop} {s : Slots} {O O1 : Sto} {p q r : PV} {ps qs : List PV} {a b c : EF} {f g : AF} {i j : Int} {n : Nat}
/-! what is walked -/
theorem go_iLx {QI : ItP → Sto → Prop} (k : Go (a s O) fun p O1 => ∃ ps g, itemsOf O1 p = some (ps, g) ∧ QI (ps, g) O1) : Go (iL a s O) QI := go_bind (k.mono fun p O1 ⟨ps, g, e, h⟩ => by
  unfold itemsOf at e
  cases p with
  | lst qs => cases e; exact h
  | rol qs => cases e; exact h
  | loc n =>
    simp only at e ⊢
    cases q : O1[n]? with
    | none => simp [q] at e
    | some w =>
      cases w with
      | none => simp [q] at e
      | some w =>
        cases w with
        | lst qs =>
          simp only [q, Option.some.injEq, Prod.mk.injEq] at e ⊢
          obtain ⟨e1, e2⟩ := e
          subst e1
          subst e2
          exact h
        | _ => simp [q] at e
  | _ => cases e)
theorem g_itF {F : List PV → Option (Nat × List PV) → Prop} (e : itemsOf O p = some (ps, none)) (k : F ps none) : ∃ ps g, itemsOf O p = some (ps, g) ∧ F ps g := ⟨ps, none, e, k⟩
theorem g_itL {F : List PV → Option (Nat × List PV) → Prop} (e : O[n]? = some (some (.lst ps))) (k : F ps (some (n, ps))) : ∃ ps g, itemsOf O (.loc n) = some (ps, g) ∧ F ps g := ⟨ps, some (n, ps), by simp [itemsOf, e], k⟩
/-! loops and comprehensions over things that are told by a list -/
theorem chk_grd {gd : Option (Nat × List PV)} {bad r : α} (h : grd gd O) : chk gd O bad r = r := by
  cases gd with
  | none => rfl
  | some w => obtain ⟨n, ps⟩ := w; unfold chk; simp only; rw [if_pos (show O[n]? = some (some (.lst ps)) from h)]
theorem go_loopP {tgt : GF} {body : SF} {gd : Option (Nat × List PV)} (f : α → PV) (J : List α → Slots → Sto → Prop) (rs : List α) (hg : ∀ d s O, J d s O → grd gd O) (h0 : J [] s O)
    (hs : ∀ d r t s O, rs = d ++ r :: t → J d s O → Go (tgt (f r) s O) fun s1 O1 => GoS { K with nx := J (d ++ [r]), bk := K.nx, ct := J (d ++ [r]) } (body s1 O1)) (hd : ∀ s O, J rs s O → K.nx s O) : GoS K (loopL gd tgt body (rs.map f) s O) := by
  have main : ∀ (t d : List α) (s : Slots) (O : Sto), rs = d ++ t → J d s O → GoS K (loopL gd tgt body (t.map f) s O) := fun t => by
    induction t with
    | nil =>
      intro d s O e h
      rw [List.append_nil] at e
      subst e
      unfold List.map loopL
      rw [chk_grd (hg _ _ _ h)]
      exact hd s O h
    | cons r t ih =>
      intro d s O e h
      unfold List.map loopL
      rw [chk_grd (hg _ _ _ h)]
      refine go_toS ((hs d r t s O e h).mono fun s1 O1 h1 => ?_)
      have again : ∀ s2 O2, J (d ++ [r]) s2 O2 → GoS K (loopL gd tgt body (t.map f) s2 O2) := fun s2 O2 h2 => ih (d ++ [r]) s2 O2 (by rw [e]; simp) h2
      show GoS K (match body s1 O1 with | .next s2 O2 => loopL gd tgt body (t.map f) s2 O2 | .cnt s2 O2 => loopL gd tgt body (t.map f) s2 O2 | .brk s2 O2 => .next s2 O2 | x => x)
      cases e : body s1 O1 <;> rw [e] at h1 <;> first | exact again _ _ h1 | exact h1
  exact main rs [] s O rfl h0
theorem comp_P {tgt : GF} {t : TF} {e : EF} {s0 : Slots} {gd : Option (Nat × List PV)} {F : List PV → Sto → Prop} (f : α → PV) (J : List α → List PV → Sto → Prop) (rs : List α) (hl : rs.length ≤ 100000) (hg : ∀ d ps O, J d ps O → grd gd O) (h0 : J [] [] O)
    (hs : ∀ d r t' acc O, rs = d ++ r :: t' → J d acc O → GoC tgt t e s0 (f r) O fun q O' => J (d ++ [r]) (acc ++ q.toList) O') (hd : ∀ ps O, J rs ps O → F ps O) : ∃ ps O2, compL gd tgt t e s0 (rs.map f) [] O = .ok ps O2 ∧ F ps O2 := by
  have main : ∀ (u d : List α) (acc : List PV) (O : Sto), rs = d ++ u → acc.length ≤ d.length → J d acc O → ∃ ps O2, compL gd tgt t e s0 (u.map f) acc O = .ok ps O2 ∧ F ps O2 := fun u => by
    induction u with
    | nil =>
      intro d acc O e' la h
      rw [List.append_nil] at e'
      subst e'
      unfold List.map compL
      rw [chk_grd (hg _ _ _ h)]
      exact ⟨_, _, rfl, hd _ _ h⟩
    | cons r u ih =>
      intro d acc O e' la h
      have h1 := hs d r u acc O e' h
      unfold GoC at h1
      obtain ⟨s1, O1, e1, h2⟩ := h1.ex
      obtain ⟨b, O2, e2, h3⟩ := h2.ex
      unfold List.map compL
      rw [chk_grd (hg _ _ _ h), e1]
      simp only [PR.bind]
      rw [e2]
      cases b with
      | true =>
        simp only [if_true] at h3 ⊢
        obtain ⟨q, O3, e3, h4⟩ := h3.ex
        rw [e3]
        simp only
        have : d.length ≤ rs.length := by rw [e', List.length_append]; omega
        rw [if_pos (szl_le (show acc.length ≤ 100000 by omega))]
        exact ih (d ++ [r]) _ _ (by rw [e']; simp) (by simp; omega) h4
      | false =>
        have h3 : J (d ++ [r]) (acc ++ []) O2 := h3
        rw [List.append_nil] at h3
        exact ih (d ++ [r]) _ _ (by rw [e']; simp) (by simp; omega) h3
  exact main rs [] [] O rfl (Nat.le_refl _) h0
theorem comp_M {tgt : GF} {e : EF} {s0 : Slots} {gd : Option (Nat × List PV)} {F : List PV → Sto → Prop} (f m : α → PV) (rs : List α) (hl : rs.length ≤ 100000) (hg : grd gd O) (hs : ∀ r, r ∈ rs → Go (tgt (f r) s0 O) fun s1 O1 => Go (e s1 O1) fun q O2 => q = m r ∧ O2 = O) (hd : F (rs.map m) O) : ∃ ps O2, compL gd tgt tYesP e s0 (rs.map f) [] O = .ok ps O2 ∧ F ps O2 :=
  comp_P f (fun d ps O' => ps = d.map m ∧ O' = O) rs hl (fun d ps O' h => by rw [h.2]; exact hg) ⟨rfl, rfl⟩ (fun d r t acc O' ed h => by
    obtain ⟨h1, h2⟩ := h
    subst h1
    subst h2
    refine goc1 ((hs r (by rw [ed]; simp)).mono fun s1 O1 k => k.mono fun q O2 z => ?_)
    exact ⟨by rw [z.1]; simp, z.2⟩) fun ps O' h => by rw [h.1, h.2]; exact hd
/-! things that change -/
def GMo (m : MF) (C : Str) (ps : List PV) (O : Sto) (QP : PV → Sto → Prop) : Prop := Go (m (.loc O.length :: ps) (O ++ [some (.ins C [] [])])) fun r O2 => r = .non ∧ QP (.loc O.length) O2
theorem g_mo {m : MF} {C : Str} {ps' : List PV} (e : ps = ps') (k : Go (m (.loc O.length :: ps') (O ++ [some (.ins C [] [])])) fun r O2 => r = .non ∧ QP (.loc O.length) O2) : GMo m C ps O QP := by subst e; exact k
theorem go_makeO {C : Str} {m : MF} {dps : List PV} (k : Go (f s O) fun ps O1 => GMo m C (ps ++ dps) O1 QP) : Go (eMakeO C m dps f s O) QP := go_bind (k.mono fun ps O1 h => go_bind (by
  unfold GMo at h
  obtain ⟨r, O2, e, rfl, h⟩ := h.ex
  rw [e]
  exact h))
def GFs (K : Ks) (C fl : Str) (p q : PV) (s : Slots) (O : Sto) : Prop := GoS K (fldP C fl p q s O)
theorem go_fldS {C fl : Str} (k : Go (b s O) fun q O1 => Go (a s O1) fun p O2 => GFs K C fl p q s O2) : GoS K (sFldP C fl a b s O) := go_toS (k.mono fun q O1 h => go_toS h)
theorem g_fs {C fl : Str} {ns ns' : List Str} (e : O[n]? = some (some (.ins C ns ps))) (e1 : ns.length ≤ 900) (e2 : putN fl ns = ns') (e3 : putW fl q ns ps = qs) (k : K.nx s (O.set n (some (.ins C ns' qs)))) : GFs K C fl (.loc n) q s O := by
  unfold GFs fldP
  simp only [e]
  rw [if_pos (show True ∧ ns.length ≤ 900 from ⟨trivial, e1⟩), e2, e3]
  exact k
theorem g_fsE {C fl : Str} {ns ns' : List Str} (e : O[n]? = some (some (.ins C ns ps))) (e1 : ns.length ≤ 900) (e2 : putN fl ns = ns') (e3 : putW fl q ns ps = qs) (k : ∀ O', O'[n]? = some (some (.ins C ns' qs)) → O'.length = O.length → (∀ m : Nat, m ≠ n → O'[m]? = O[m]?) → K.nx s O') : GFs K C fl (.loc n) q s O :=
  g_fs e e1 e2 e3 (k _ (get_set e) (by rw [List.length_set]) fun m hm => List.getElem?_set_ne (Ne.symm hm))
theorem go_frzL (e : O[n]? = some (some q)) (k : QP q (O.set n none)) : Go (frzP (.loc n) O) QP := by
  unfold frzP
  simp only [e]
  exact k
theorem go_frz (k : Go (a s O) fun p O1 => Go (frzP p O1) QP) : Go (eFrz a s O) QP := go_bind k
theorem go_popAt {j : Nat} (e : O[n]? = some (some (.lst ps))) (h : -(2 ^ 63) ≤ i ∧ i < 2 ^ 63) (e1 : seqIndex? i ps.length = some j) (e2 : ps[j]? = some q) (k : ∀ O', O'[n]? = some (some (.lst (ps.eraseIdx j))) → O'.length = O.length → (∀ m : Nat, m ≠ n → O'[m]? = O[m]?) → QP q O') : Go (popAtP (.loc n) [.int i] O) QP := by
  unfold popAtP locL
  simp only [e, decide_eq_true h.1, decide_eq_true h.2, Bool.and_self, if_true, e1, e2]
  exact k _ (get_set e) (by rw [List.length_set]) fun m hm => List.getElem?_set_ne (Ne.symm hm)
theorem go_appF (e : O[n]? = some (some (.lst ps))) (h : szLt ps.length = true) (k : ∀ O', O'[n]? = some (some (.lst (ps ++ [q]))) → O'.length = O.length → (∀ m : Nat, m ≠ n → O'[m]? = O[m]?) → QP .non O') : Go (appendP (.loc n) [q] O) QP :=
  go_append e h (k _ (get_set e) (by rw [List.length_set]) fun m hm => List.getElem?_set_ne (Ne.symm hm))
theorem go_extF (e : O[n]? = some (some (.lst ps))) (e2 : lstT O q = some qs) (h : szOk (ps.length + qs.length) = true) (k : ∀ O', O'[n]? = some (some (.lst (ps ++ qs))) → O'.length = O.length → (∀ m : Nat, m ≠ n → O'[m]? = O[m]?) → QP .non O') : Go (extendP (.loc n) [q] O) QP :=
  go_extend e e2 h (k _ (get_set e) (by rw [List.length_set]) fun m hm => List.getElem?_set_ne (Ne.symm hm))
end
theorem seq_ix {i n : Nat} (h : i < n) : seqIndex? (i : Int) n = some i := by
  unfold seqIndex?
  have h1 : ¬ ((i : Int) < 0) := by omega
  have h2 : (i : Int) < n := by omega
  simp [h1, h]
theorem go_isNb {O : Sto} {p : PV} {b : Bool} {QP : PV → Sto → Prop} (e : isNon p = b) (k : QP (.bl b) O) : Go (isN p .non O) QP := by subst e; exact k
theorem go_notNb {O : Sto} {p : PV} {b : Bool} {QP : PV → Sto → Prop} (e : isNon p = b) (k : QP (.bl (!b)) O) : Go (notN p .non O) QP := by subst e; exact k
/-! what a store keeps -/
structure Fr (O O' : Sto) : Prop where
  len : O.length ≤ O'.length
  at_ : ∀ m : Nat, m < O.length → O'[m]? = O[m]?
theorem Fr.refl {O : Sto} : Fr O O := ⟨Nat.le_refl _, fun _ _ => rfl⟩
theorem Fr.trans {O O' O'' : Sto} (a : Fr O O') (b : Fr O' O'') : Fr O O'' := ⟨Nat.le_trans a.len b.len, fun m h => (b.at_ m (Nat.lt_of_lt_of_le h a.len)).trans (a.at_ m h)⟩
theorem Fr.get {O O' : Sto} (a : Fr O O') {n : Nat} {x : Option PV} (h : O[n]? = some x) : O'[n]? = some x := (a.at_ n (List.getElem?_eq_some_iff.mp h).1).trans h
theorem Fr.app {O O' : Sto} (a : Fr O O') {x : Sto} : Fr O (O' ++ x) := ⟨Nat.le_trans a.len (by simp), fun m h => by rw [List.getElem?_append_left (Nat.lt_of_lt_of_le h a.len)]; exact a.at_ m h⟩
theorem Fr.pu {O O' : Sto} (a : Fr O O') {n : Nat} (h : Pu O n) : Pu O' n := by
  obtain ⟨x, y, z, e, h⟩ := h
  exact ⟨x, y, z, a.get e, h⟩
theorem Fr.put {O O' O'' : Sto} (a : Fr O O') {n : Nat} (hn : O.length ≤ n) (hl : O''.length = O'.length) (h : ∀ m : Nat, m ≠ n → O''[m]? = O'[m]?) : Fr O O'' := ⟨by rw [hl]; exact a.len, fun m hm => (h m (by omega)).trans (a.at_ m hm)⟩
theorem lt_of_get {O : Sto} {n : Nat} {x : Option PV} (h : O[n]? = some x) : n < O.length := (List.getElem?_eq_some_iff.mp h).1
end Qx

/-! Own layer Qs: the pure walk where something may be raised. -/
namespace Qx
open PySem PySem.Spec PyProof.Rows L2 Gx
def GoE {α : Type} (X : PExc → Sto → Prop) (r : PR α) (Q : α → Sto → Prop) : Prop := match r with
  | .ok a O => Q a O
  | .exc e O => X e O
  | .bad => False
section
variable {α β : Type} {X : PExc → Sto → Prop} {Q : α → Sto → Prop} {QP : PV → Sto → Prop} {s : Slots} {O O1 : Sto} {p q r : PV} {ps qs : List PV} {a b c : EF} {t u : TF} {f g : AF} {x y : SF} {K : Ks} {i j : Int} {n m : Nat} {mf : MF}
theorem goe_at {r : PR α} {e : PExc} (h : r = .exc e O1) (k : X e O1) : GoE X r Q := by rw [h]; exact k
theorem GoE.exc {r : PR α} {e : PExc} (h : GoE (fun e' O' => e' = e ∧ O' = O) r fun _ _ => False) : r = .exc e O := by
  cases r with
  | exc e' O' => obtain ⟨rfl, rfl⟩ := h; rfl
  | ok a O' => exact h.elim
  | bad => exact h.elim
theorem goe_bind {r : PR α} {h : α → Sto → PR β} {Q' : β → Sto → Prop} (k : Go r fun v O1 => GoE X (h v O1) Q') : GoE X (r.bind h) Q' := by
  cases r <;> first | exact k | exact k.elim
def GME (X : PExc → Sto → Prop) (m : MF) (ps : List PV) (O : Sto) (QP : PV → Sto → Prop) : Prop := GoE X (m ps O) QP
theorem g_me {m : MF} {ps' : List PV} (e : ps = ps') (k : GoE X (m ps' O) QP) : GME X m ps O QP := by subst e; exact k
theorem goe_call {m : MF} {dps : List PV} (k : Go (f s O) fun ps O1 => GME X m (ps ++ dps) O1 QP) : GoE X (eCall m dps f s O) QP := goe_bind k
theorem goe_meth {C me : Str} {mf : MF} {dps : List PV} (k : Go (a s O) fun p O1 => GMeth C me p O1 (Go (f s O1) fun ps O2 => GME X mf (p :: (ps ++ dps)) O2 QP)) : GoE X (eMeth C me mf dps a f s O) QP := goe_bind (k.mono fun _ _ ⟨ns, ps, e, e2, h⟩ => by simp only [e, e2, Option.isNone_none, and_self, if_true]; exact goe_bind h)
theorem goe_def {N : Nat} {body : SF} {s' : Slots} (e : ps.length = n) (e2 : ps.map some ++ List.replicate (N - n) none = s') (k : GoS { nx := fun _ O1 => QP .non O1, rt := QP, bk := fun _ _ => False, ct := fun _ _ => False, ex := fun e _ O1 => X e O1 } (body s' O)) : GoE X (mkDef n N body ps O) QP := by
  unfold mkDef
  rw [if_pos e, e2]
  cases q : body s' O <;> rw [q] at k <;> first | exact k | exact k.elim
theorem goe_toS {r : PR α} {h : α → Sto → SR} (k : GoE (fun e O1 => K.ex e s O1) r fun v O1 => GoS K (h v O1)) : GoS K (r.toS s h) := by
  cases r <;> first | exact k | exact k.elim
theorem gos_expE (k : GoE (fun e O1 => K.ex e s O1) (a s O) fun _ O1 => K.nx s O1) : GoS K (sExp a s O) := goe_toS k
theorem gos_raise {C : Str} (k : K.ex ⟨.cls C, [], []⟩ s O) : GoS K (sRaiseP C s O) := k
def TryK (K : Ks) (i : Nat) (cm : Str → Option Bool) (fs : SF) (e : PExc) (s1 : Slots) (O1 : Sto) : Prop := ∃ C b, e.cls = .cls C ∧ cm C = some b ∧ if b = true then GoS { nx := fun s O => K.nx (s.set i none) O, rt := K.rt, bk := fun s O => K.bk (s.set i none) O, ct := fun s O => K.ct (s.set i none) O } (fs (s1.set i (some (.xc C e.ns e.ps))) O1) else K.ex e s1 O1
theorem gos_try {i : Nat} {cm : Str → Option Bool} {fb fs : SF} (k : GoS { K with ex := TryK K i cm fs } (fb s O)) : GoS K (sTryAs i cm fb fs s O) := by
  unfold sTryAs
  cases e : fb s O with
  | next s1 O1 => rw [e] at k; exact k
  | ret p O1 => rw [e] at k; exact k
  | brk s1 O1 => rw [e] at k; exact k
  | cnt s1 O1 => rw [e] at k; exact k
  | bad => rw [e] at k; exact k
  | exc x s1 O1 =>
    rw [e] at k
    obtain ⟨cls, ns, ps⟩ := x
    obtain ⟨C, b, ec, hc, k⟩ := k
    have ec : cls = .cls C := ec
    subst ec
    simp only [hc]
    cases b with
    | true =>
      simp only [if_true] at k
      show GoS K ((fs (s1.set i (some (.xc C ns ps))) O1).unset i)
      cases e2 : fs (s1.set i (some (.xc C ns ps))) O1 <;> rw [e2] at k <;> first | exact k | exact k.elim
    | false => exact k
/-! defs that don't raise -/
theorem go_noXM {m : List PV → Sto → PR α} (k : Go (m ps O) Q) : Go (noXM m ps O) Q := by
  unfold noXM
  cases e : m ps O <;> rw [e] at k <;> first | exact k | exact k.elim
theorem go_mkN {C : Str} {m : List PV → Sto → PR (List Str × List PV)} (k : Go (mkIns C (m ps O)) QP) : Go (mkIns C (noXM m ps O)) QP := by
  unfold noXM
  cases e : m ps O <;> rw [e] at k <;> first | exact k | exact k.elim
/-! isinstance and such -/
theorem go_isT {h : PV → List PV → Sto → PR PV} (k : Go (a s O) fun p O1 => Go (f s O1) fun ps O2 => szOk ps.length = true ∧ Go (h p ps O2) QP) : Go (eIsT h a f s O) QP := go_bind (k.mono fun _ _ h => go_bind (h.mono fun _ _ h => by rw [if_pos h.1]; exact h.2))
theorem go_dic0 (k : QP (.dic [] []) O) : Go (eDic0 s O) QP := k
/-! == of data -/
theorem go_neDd {d d' : PyData} (e : toD O p = some d) (e2 : toD O q = some d') (e3 : (SeqAt.shaped d && SeqAt.shaped d') = true) (k : QP (.bl (!PyData.eqv d d')) O) : Go (neD p q O) QP := by
  unfold neD
  simp only [e, e2, e3, if_true]
  exact k
end
end Qx

/-! Own layer Qt: the pure walk of what Xi brings. -/
namespace Qx
open PySem PySem.Spec PyProof.Rows L2 Gx
section
variable {X : PExc → Sto → Prop} {QP : PV → Sto → Prop} {s : Slots} {O O1 : Sto} {p q r : PV} {ps qs : List PV} {a : EF} {f : AF} {K : Ks}
theorem go_catA {rs : List PV} (e : szOk (ps.length + qs.length) = true) (e2 : ps ++ qs = rs) (k : QP (.tup rs) O) : Go (catA (.tup ps) (.tup qs) O) QP := by
  subst e2
  unfold catA
  simp only [e, if_true]
  exact k
theorem go_bLstO (e : seqOf O p = some ps) (k : QP (.loc O.length) (O ++ [some (.lst ps)])) : Go (bLstO [p] O) QP := by
  unfold bLstO b1
  simp only [e]
  exact k
end
end Qx

/-! Own layer Qu: walking texts, own str, repr, bool, == any, in of own things. -/
namespace Qx
open PySem PySem.Spec PyProof.Rows L2 Gx
section
variable {α : Type} {QP : PV → Sto → Prop} {s : Slots} {O O1 : Sto} {p q r : PV} {ps qs : List PV} {a b c : EF} {f g : AF} {C : Str} {m : MF} {z y i' j' : Str} {i j : Int}
theorem go_noX {r : PR α} {Q : α → Sto → Prop} (k : Go r Q) : Go (noX r) Q := by
  cases r <;> exact k
theorem go_otxt (e : insIs O C p = true) (k : Go (m [p] O) fun r O1 => ∃ z, r = .str z ∧ QP (.str z) O1) : Go (otxtP C m [p] O) QP := by
  unfold otxtP
  simp only
  rw [if_pos e]
  exact go_bind (go_noX (k.mono fun r O1 ⟨z, e, h⟩ => by subst e; exact h))
theorem go_fmtO (k : Go (a s O) fun p O1 => Go (otxtP C m [p] O1) QP) : Go (eFmtO C m a s O) QP := go_bind k
def GFmt (p : PV) (Q : Str → Prop) : Prop := match p with
  | .str z => z.length ≤ sizeLine ∧ Q z
  | .int i => i.natAbs.log2 < 1920 ∧ Q (toString i)
  | _ => False
theorem g_fmtS {Q : Str → Prop} (h : z.length ≤ sizeLine) (k : Q z) : GFmt (.str z) Q := ⟨h, k⟩
theorem g_fmtI {Q : Str → Prop} (h : i.natAbs.log2 < 1920) (k : Q (toString i)) : GFmt (.int i) Q := ⟨h, k⟩
theorem go_fmt (k : Go (a s O) fun p O1 => GFmt p fun z => QP (.str z) O1) : Go (eFmt a s O) QP := go_bind (k.mono fun p O1 h => by
  cases p <;> first | exact h.elim | (obtain ⟨h1, h2⟩ := h; simp only; rw [if_pos h1]; exact h2))
def GJ (fs : List EF) (acc : Str) (s : Slots) (O : Sto) (Q : Str → Sto → Prop) : Prop := Go (jsP fs acc s O) Q
theorem gj_nil {Q : Str → Sto → Prop} (k : Q z O) : GJ [] z s O Q := k
theorem gj_cons {Q : Str → Sto → Prop} {fs : List EF} (k : Go (a s O) fun p O1 => ∃ y, p = .str y ∧ (z ++ y).length ≤ sizeLine ∧ GJ fs (z ++ y) s O1 Q) : GJ (a :: fs) z s O Q := go_bind (k.mono fun p O1 ⟨y, e, h1, h2⟩ => by
  subst e
  simp only
  rw [if_pos h1]
  exact h2)
theorem go_js {fs : List EF} (k : GJ fs Str.empty s O fun z O1 => QP (.str z) O1) : Go (eJs fs s O) QP := go_bind k
theorem go_obool (e : insIs O C p = true) (k : Go (m [p] O) fun r O1 => ∃ n, r = .int n ∧ (0 ≤ n ∧ n < 2 ^ 63) ∧ QP (.bl (n != 0)) O1) : Go (oboolP C m [p] O) QP := by
  unfold oboolP
  simp only
  rw [if_pos e]
  exact go_bind (go_noX (k.mono fun r O1 ⟨n, e, h1, h2⟩ => by
    subst e
    simp only
    rw [if_pos (by rw [decide_eq_true h1.1, decide_eq_true h1.2]; rfl)]
    exact h2))
theorem go_boolR {n : Bool} {r : PR PV} (k : Go r fun p O1 => GB p fun b => QP (.bl (if n = true then !b else b)) O1) : Go (boolR n r) QP := go_bind (go_noX (k.mono fun p O1 ⟨b, e, h⟩ => by
  subst e
  cases n <;> exact h))
theorem go_oeqA {cs : List Str} {t : Sum String Str} (e : tyOf O q = some t) (e2 : (insIs O C p && (tyIn cs t && cs.contains C)) = true) (k : Go (m [p, q] O) fun r O1 => GB r fun b => QP (.bl b) O1) : Go (oeqA cs C m p q O) QP := by
  unfold oeqA
  simp only [e]
  rw [if_pos e2]
  exact go_boolR k
theorem go_oneA {cs : List Str} {t : Sum String Str} (e : tyOf O q = some t) (e2 : (insIs O C p && (tyIn cs t && cs.contains C)) = true) (k : Go (m [p, q] O) fun r O1 => GB r fun b => QP (.bl (!b)) O1) : Go (oneA cs C m p q O) QP := by
  unfold oneA
  simp only [e]
  rw [if_pos e2]
  exact go_boolR k
theorem go_strS (k : QP (.str z) O) : Go (bStrS [.str z] O) QP := k
theorem go_strI (h : i.natAbs.log2 < 1920) (k : QP (.str (toString i)) O) : Go (bStrI [.int i] O) QP := by
  unfold bStrI b1
  simp only
  rw [if_pos h]
  exact k
theorem go_addS (h : i'.length + j'.length ≤ 16777216) (k : QP (.str (i' ++ j')) O) : Go (addS (.str i') (.str j') O) QP := by
  unfold addS s2
  simp only
  rw [if_pos (show zOk _ = true from decide_eq_true h)]
  exact k
theorem nev_ints (ns ms : List Int) (O : Sto) : neD (.tup (ns.map .int)) (.tup (ms.map .int)) O = .ok (.bl (!decide (ns = ms))) O := by
  unfold neD toD
  simp only [toD0, toDL_ints, Option.map_some]
  rw [if_pos (by rw [shaped_ints, shaped_ints]; rfl)]
  congr 3
  exact eqvAll_ints ns ms
theorem go_neTI {ns ms : List Int} (e1 : ps = (ps.map unP).map .int) (e2 : qs = (qs.map unP).map .int) (e3 : ps.map unP = ns) (e4 : qs.map unP = ms) (k : QP (.bl (!decide (ns = ms))) O) : Go (neD (.tup ps) (.tup qs) O) QP := by
  subst e3
  subst e4
  have e := nev_ints (ps.map unP) (qs.map unP) O
  rw [← e1, ← e2] at e
  exact go_at e k
/-! the newest list of the store -/
theorem go_appN {ps' : List PV} (h : ps.length.ble 100000 = true) (e : ps ++ [q] = ps') (k : QP .non (O ++ [some (.lst ps')])) : Go (appendP (.loc O.length) [q] (O ++ [some (.lst ps)])) QP := by
  subst e
  refine go_append get_app (szl_le (Nat.le_of_ble_eq_true h)) ?_
  have e : (O ++ [some (PV.lst ps)]).set O.length (some (.lst (ps ++ [q]))) = O ++ [some (.lst (ps ++ [q]))] := by
    rw [List.set_append_right _ _ (Nat.le_refl _)]
    simp
  rw [e]
  exact k
theorem g_itN {F : List PV → Option (Nat × List PV) → Prop} (k : F ps (some (O.length, ps))) : ∃ ps' g, itemsOf (O ++ [some (.lst ps)]) (.loc O.length) = some (ps', g) ∧ F ps' g := ⟨ps, some (O.length, ps), by
  unfold itemsOf
  simp only [get_app], k⟩
theorem comp_nilg {gd : Option (Nat × List PV)} {tgt : GF} {t : TF} {e : EF} {s0 : Slots} {acc : List PV} {F : List PV → Sto → Prop} (hg : grd gd O) (k : F acc O) : ∃ ps O2, compL gd tgt t e s0 [] acc O = .ok ps O2 ∧ F ps O2 := ⟨acc, O, by unfold compL; rw [chk_grd hg], k⟩
theorem comp_one1g {gd : Option (Nat × List PV)} {tgt : GF} {e : EF} {s0 : Slots} {items acc : List PV} {F : List PV → Sto → Prop} (hg : grd gd O) (hl : acc.length.ble 100000 = true) (k : Go (tgt p s0 O) fun s1 O1 => Go (e s1 O1) fun q O' => GAcc (acc ++ [q]) fun acc' => ∃ ps O2, compL gd tgt tYesP e s0 items acc' O' = .ok ps O2 ∧ F ps O2) : ∃ ps O2, compL gd tgt tYesP e s0 (p :: items) acc O = .ok ps O2 ∧ F ps O2 := by
  obtain ⟨s1, O1, e1, h2⟩ := k.ex
  obtain ⟨q, O3, e3, h4⟩ := h2.ex
  obtain ⟨ps, O2, e5, h6⟩ := h4
  refine ⟨ps, O2, ?_, h6⟩
  unfold compL
  rw [chk_grd hg, e1]
  simp only [PR.bind, tYesP, if_true]
  rw [e3]
  simp only
  rw [if_pos (szl_le (Nat.le_of_ble_eq_true hl))]
  exact e5
theorem go_bms {h : PV → List PV → Sto → PR PV} (k : Go (a s O) fun p O1 => isStr p = true ∧ Go (f s O1) fun ps O2 => Go (h p ps O2) QP) : Go (eBms h a f s O) QP := go_bind (k.mono fun _ _ ⟨e, h⟩ => by rw [if_pos e]; exact go_bind h)
theorem go_bms0 {h : PV → List PV → Sto → PR PV} (k : Go (a s O) fun p O1 => isStr p = true ∧ Go (h p [] O1) QP) : Go (eBms0 h a s O) QP := go_bind (k.mono fun _ _ ⟨e, h⟩ => by rw [if_pos e]; exact h)
theorem g_str {F : Str → Prop} (k : F z) : ∃ y, PV.str z = .str y ∧ F y := ⟨z, rfl, k⟩
theorem go_join {ys : List Str} (e : (seqOf O p).bind strsOf = some ys) (h : (ys.map (·.length)).sum + ys.length * z.length ≤ 16777216) (k : QP (.str (Txt.join z ys)) O) : Go (joinP (.str z) [p] O) QP := by
  unfold joinP
  simp only [e]
  rw [if_pos (decide_eq_true h)]
  exact k
theorem seq_new {ps : List PV} : seqOf (O ++ [some (.lst ps)]) (.loc O.length) = some ps := by
  have e : lstOf (O ++ [some (PV.lst ps)]) (.loc O.length) = some ps := lst_loc get_app
  unfold seqOf
  rw [e]
theorem go_joinN {ps : List PV} {ys : List Str} (e : strsOf ps = some ys) (h : (ys.map (·.length)).sum + ys.length * z.length ≤ 16777216) (k : QP (.str (Txt.join z ys)) (O ++ [some (.lst ps)])) : Go (joinP (.str z) [.loc O.length] (O ++ [some (.lst ps)])) QP := go_join (by rw [seq_new]; exact e) h k
theorem Fr.tr {O O' O'' : Sto} (b : Fr O' O'') (a : Fr O O') : Fr O O'' := a.trans b
theorem zl_emp : Str.empty.length = 0 := rfl
theorem join_1 (z x : Str) : Txt.join z [x] = x := rfl
theorem join_2 (z x y : Str) : Txt.join z [x, y] = x ++ z ++ y := rfl
theorem zl_app (a b : Str) : (a ++ b).length = a.length + b.length := Array.size_append
theorem go_iZ {QI : ItP → Sto → Prop} (k : Go (f s O) fun ps O1 => ∃ p q xs ys, ps = [p, q] ∧ frL p = some xs ∧ frL q = some ys ∧ QI (zipP xs ys, none) O1) : Go (iZ f s O) QI := go_bind (k.mono fun ps O1 ⟨p, q, xs, ys, e, e1, e2, h⟩ => by
  subst e
  simp only [e1, e2]
  exact h)
theorem g_iz {F : List PV → List PV → Prop} {xs ys : List PV} (e1 : frL p = some xs) (e2 : frL q = some ys) (k : F xs ys) : ∃ p' q' xs ys, [p, q] = [p', q'] ∧ frL p' = some xs ∧ frL q' = some ys ∧ F xs ys := ⟨p, q, xs, ys, rfl, e1, e2, k⟩
/-! while -/
/-! x in a list of own things -/
theorem go_inOL {cs : List Str} {n : Bool} (k : Go (inOP cs C m n p qs O) QP) : Go (inOL cs C m n p (.lst qs) O) QP := k
end
end Qx

/-! Own layer Qv: walk rules of Xs; lists of pairs of whole numbers. -/
namespace Qx
open PySem PySem.Spec PyProof.Rows L2 Gx
section
variable {s : Slots} {O O1 : Sto} {p q r : PV} {ps qs : List PV} {a b : EF} {f g : AF} {QP : PV → Sto → Prop} {QA : List PV → Sto → Prop}
/-! what is walked: a list or a tuple -/
theorem go_iAt {QI : ItP → Sto → Prop} (k : Go (a s O) fun p O1 => ∃ ps g, (match tupOf p with | some ps => some (ps, none) | none => itemsOf O1 p) = some (ps, g) ∧ QI (ps, g) O1) : Go (iA a s O) QI := by
  refine go_bind (k.mono fun p O1 ⟨ps, g, e, h⟩ => ?_)
  cases e1 : tupOf p with
  | some qs =>
    simp only [e1, Option.some.injEq, Prod.mk.injEq] at e
    obtain ⟨rfl, rfl⟩ := e
    exact h
  | none =>
    simp only [e1] at e
    have k2 := go_iLx (a := fun _ O => .ok p O) (s := s) (O := O1) (QI := QI) ⟨ps, g, e, h⟩
    exact k2
theorem g_at {F : List PV → Option (Nat × List PV) → Prop} (k : F ps none) : ∃ qs g, (match tupOf (.tup ps) with | some qs => some (qs, none) | none => itemsOf O (.tup ps)) = some (qs, g) ∧ F qs g := ⟨ps, none, rfl, k⟩
theorem g_al {F : List PV → Option (Nat × List PV) → Prop} (k : F ps none) : ∃ qs g, (match tupOf (.lst ps) with | some qs => some (qs, none) | none => itemsOf O (.lst ps)) = some (qs, g) ∧ F qs g := ⟨ps, none, rfl, k⟩
/-! pairs -/
theorem prsOf_map : ∀ zs : List (Int × Int), prsOf (zs.map prP) = some zs
  | [] => rfl
  | z :: zs => by
    rw [List.map_cons]
    unfold prsOf
    rw [prsOf_map zs]
    rfl
theorem go_sort2 {zs : List (Int × Int)} (e : lstOf O p = some (zs.map prP)) (k : QP (.lst ((zs.mergeSort leP).map prP)) O) : Go (bSort2 [p] O) QP := by
  unfold bSort2 b1
  simp only [e, prsOf_map]
  exact k
theorem go_revLs (k : Go (a s O) fun p O1 => ∃ ps, lstOf O1 p = some ps ∧ QP (.lst ps.reverse) O1) : Go (eRevLs a s O) QP := go_bind (k.mono fun p O1 ⟨ps, e, h⟩ => by simp only [e]; exact h)
theorem go_isBB {b c : Bool} (k : QP (.bl (decide (b = c))) O) : Go (isB (.bl b) (.bl c) O) QP := k
theorem go_notBB {b c : Bool} (k : QP (.bl (!decide (b = c))) O) : Go (notB (.bl b) (.bl c) O) QP := k
theorem go_makeKO {C : Str} {m : MF} {gP : List PV → List PV → List PV} {n k : Nat} (h : Go (f s O) fun ps O1 => Go (g s O1) fun zs O2 => (ps.length = n ∧ zs.length = k) ∧ GMo m C (gP ps zs) O2 QP) : Go (eMakeKO C m n k gP f g s O) QP := go_bind (h.mono fun ps O1 h => go_bind (h.mono fun zs O2 h => by
  rw [if_pos h.1]
  exact go_bind (go_noX (Go.mono h.2 fun r O3 ⟨e, h3⟩ => by subst e; exact h3))))
/-! a list of pairs as data -/
def dP (z : Int × Int) : PyData := .tuple [.int z.1, .int z.2]
theorem toDL_prs : ∀ zs : List (Int × Int), toDL (zs.map prP) = some (zs.map dP)
  | [] => by simp [toDL]
  | z :: zs => by simp only [List.map_cons, toDL, toDL_prs zs]; rfl
theorem canLay_prs : ∀ zs : List (Int × Int), PyData.canLayAll0 (zs.map dP) = true
  | [] => rfl
  | z :: zs => by
    show (PyData.canLay0 (dP z) && PyData.canLayAll0 (zs.map dP)) = true
    rw [canLay_prs zs]
    rfl
theorem depth_dP (z : Int × Int) : (dP z).depth = 1 := by
  obtain ⟨i, j⟩ := z
  rfl
theorem depthAll_prs : ∀ zs : List (Int × Int), PyData.depthAll (zs.map dP) ≤ 2
  | [] => by simp [PyData.depthAll]
  | z :: zs => by
    have h := depthAll_prs zs
    have h1 := depth_dP z
    simp only [List.map_cons, PyData.depthAll]
    omega
theorem shapedT_prs {zs : List (Int × Int)} : SeqAt.shaped (.tuple (zs.map dP)) = true := by
  unfold SeqAt.shaped
  have h := depthAll_prs zs
  rw [decide_eq_true (by simp only [PyData.depth]; omega), Bool.and_true]
  show PyData.canLayAll0 _ = true
  exact canLay_prs zs
theorem shapedL_prs {zs : List (Int × Int)} : SeqAt.shaped (.list (zs.map dP)) = true := by
  unfold SeqAt.shaped
  have h := depthAll_prs zs
  rw [decide_eq_true (by simp only [PyData.depth]; omega), Bool.and_true]
  show PyData.canLayAll0 _ = true
  exact canLay_prs zs
theorem eqv_prs : ∀ zs ws : List (Int × Int), PyData.eqvAll (zs.map dP) (ws.map dP) = decide (zs = ws)
  | [], [] => rfl
  | [], w :: ws => by rw [decide_eq_false (by simp)]; rfl
  | z :: zs, [] => by rw [decide_eq_false (by simp)]; rfl
  | (a, b) :: zs, (c, d) :: ws => by
    show (PyData.eqv (dP (a, b)) (dP (c, d)) && PyData.eqvAll (zs.map dP) (ws.map dP)) = _
    rw [eqv_prs zs ws]
    have e : PyData.eqv (dP (a, b)) (dP (c, d)) = decide ([a, b] = [c, d]) := eqvAll_ints [a, b] [c, d]
    rw [e, ← Bool.decide_and, decide_eq_decide]
    simp
theorem toD_lst {zs : List (Int × Int)} (e : lstT O p = some (zs.map prP)) : toD O p = some (.list (zs.map dP)) := by
  unfold lstT at e
  split at e
  · cases e
    show (toDL (zs.map prP)).map PyData.list = _
    rw [toDL_prs]
    rfl
  · split at e
    · rename_i n ps h
      cases e
      simp only [toD, h, toDL_prs, Option.map_some]
    · cases e
  · cases e
theorem go_eqPT {zs ws : List (Int × Int)} (k : QP (.bl (decide (zs = ws))) O) : Go (eqD (.tup (zs.map prP)) (.tup (ws.map prP)) O) QP := by
  unfold eqD toD
  simp only [toD0, toDL_prs, Option.map_some]
  rw [if_pos (by rw [shapedT_prs, shapedT_prs]; rfl)]
  rw [show PyData.eqv (.tuple (zs.map dP)) (.tuple (ws.map dP)) = decide (zs = ws) from eqv_prs zs ws]
  exact k
theorem go_nePL {zs ws : List (Int × Int)} (e1 : lstT O p = some (zs.map prP)) (e2 : lstT O q = some (ws.map prP)) (k : QP (.bl (!decide (zs = ws))) O) : Go (neD p q O) QP := by
  unfold neD
  rw [toD_lst e1, toD_lst e2]
  simp only
  rw [if_pos (by rw [shapedL_prs, shapedL_prs]; rfl)]
  rw [show PyData.eqv (.list (zs.map dP)) (.list (ws.map dP)) = decide (zs = ws) from eqv_prs zs ws]
  exact k
/-! the last item -/
theorem ixN_last {n : Nat} : ixN (n + 1) (-1) = some n := by
  unfold ixN
  simp
  omega
theorem atI_last {ps : List PV} {q : PV} : atI (ps ++ [q]) (-1) = some q := by
  unfold atI
  rw [List.length_append, List.length_cons, List.length_nil, ixN_last]
  simp
/-! try with several clauses -/
end
end Qx

namespace Qx
open PySem PySem.Spec PyProof.Rows L2 Gx
/-! walk -/
end Qx

namespace Qx
open PySem PySem.Spec PyProof.Rows L2 Gx
theorem go_sort2A {O : Sto} {p : PV} {QP : PV → Sto → Prop} {zs : List (Int × Int)} (e : seqOf O p = some (zs.map prP)) (k : QP (.lst ((zs.mergeSort leP).map prP)) O) : Go (bSort2A [p] O) QP := by
  unfold bSort2A b1
  simp only [e, prsOf_map]
  exact k
theorem go_slTA {l v : Option Int} {O : Sto} {ps : List PV} {QP : PV → Sto → Prop} (k : QP (.tup (cutP ps l v)) O) : Go (slTA (.tup ps) l v O) QP := k
/-! min by a key -/
def GMin (ps : List PV) (ks : List Int) (O : Sto) (QP : PV → Sto → Prop) : Prop := (ps = [] → QP .non O) ∧ ∀ v, ps[minIx ks ps.length]? = some v → QP v O
theorem minIx_lt {ks : List Int} : ∀ n : Nat, 0 < n → minIx ks n < n := by
  intro n hn
  obtain ⟨m, rfl⟩ : ∃ m, n = m + 1 := ⟨n - 1, by omega⟩
  unfold minIx
  show argBest _ m < m + 1
  induction m with
  | zero => exact Nat.lt_succ_self _
  | succ m ih =>
    unfold argBest
    split
    · exact Nat.lt_succ_self _
    · have := ih (by omega)
      omega
theorem go_minKey {n : Nat} {t : TabI} {O : Sto} {p : PV} {ps : List PV} {ks : List Int} {QP : PV → Sto → Prop} (h : O[n]? = some (some (.tbl t))) (e : lstOf O p = some ps) (e2 : k2Of ps = some ks) (k : GMin ps ks O QP) : Go (bMinKey n t [p] O) QP := by
  unfold bMinKey b1
  simp only [isTab_of h, if_true, e, e2]
  cases ps with
  | nil => exact k.1 rfl
  | cons q r =>
    have hl := minIx_lt (ks := ks) (q :: r).length (by simp)
    have e3 : (q :: r)[minIx ks (q :: r).length]? = some _ := List.getElem?_eq_getElem hl
    simp only [List.length_cons] at e3
    simp only [e3]
    exact k.2 _ e3
end Qx

namespace Hd
open PySem PySem.Spec PyProof.Rows L2

structure Tx (w : World) (K : PySem.W.Frag) (mg : Str → Option Value) : Prop where
  h : ∃ (h : Heap), K.In h ∧ h.Ns mainGlobals mg ∧ He.SaysX fa fn tabs tf ex w h K
section
variable {w : World} {K : PySem.W.Frag} {mg : Str → Option Value}
theorem Tx.g_check_span (T : Tx w K mg) : mg "check_span" = some (.ref (He.fAd K d_check_span.at_)) := by obtain ⟨h, X, G, c⟩ := T.h; exact He.glo_ok X G (c.t.d.fact 0 (f := .glo "check_span") rfl)
theorem Tx.g_check_row (T : Tx w K mg) : mg "check_row" = some (.ref (He.fAd K d_check_row.at_)) := by obtain ⟨h, X, G, c⟩ := T.h; exact He.glo_ok X G (c.t.d.fact 1 (f := .glo "check_row") rfl)
theorem Tx.g_joined (T : Tx w K mg) : mg "joined" = some (.ref (He.fAd K d_joined.at_)) := by obtain ⟨h, X, G, c⟩ := T.h; exact He.glo_ok X G (c.t.d.fact 2 (f := .glo "joined") rfl)
theorem Tx.g__law_cell (T : Tx w K mg) : mg "_law_cell" = some (.ref (He.fAd K d__law_cell.at_)) := by obtain ⟨h, X, G, c⟩ := T.h; exact He.glo_ok X G (c.t.d.fact 3 (f := .glo "_law_cell") rfl)
theorem Tx.g__law_purse (T : Tx w K mg) : mg "_law_purse" = some (.ref (He.fAd K d__law_purse.at_)) := by obtain ⟨h, X, G, c⟩ := T.h; exact He.glo_ok X G (c.t.d.fact 4 (f := .glo "_law_purse") rfl)
theorem Tx.g__law_take (T : Tx w K mg) : mg "_law_take" = some (.ref (He.fAd K d__law_take.at_)) := by obtain ⟨h, X, G, c⟩ := T.h; exact He.glo_ok X G (c.t.d.fact 5 (f := .glo "_law_take") rfl)
theorem Tx.g__law_measure (T : Tx w K mg) : mg "_law_measure" = some (.ref (He.fAd K d__law_measure.at_)) := by obtain ⟨h, X, G, c⟩ := T.h; exact He.glo_ok X G (c.t.d.fact 6 (f := .glo "_law_measure") rfl)
theorem Tx.g__law_allowed (T : Tx w K mg) : mg "_law_allowed" = some (.ref (He.fAd K d__law_allowed.at_)) := by obtain ⟨h, X, G, c⟩ := T.h; exact He.glo_ok X G (c.t.d.fact 7 (f := .glo "_law_allowed") rfl)
theorem Tx.g__law_row (T : Tx w K mg) : mg "_law_row" = some (.ref (He.fAd K d__law_row.at_)) := by obtain ⟨h, X, G, c⟩ := T.h; exact He.glo_ok X G (c.t.d.fact 8 (f := .glo "_law_row") rfl)
theorem Tx.g_is_measure (T : Tx w K mg) : mg "is_measure" = some (.ref (He.fAd K d_is_measure.at_)) := by obtain ⟨h, X, G, c⟩ := T.h; exact He.glo_ok X G (c.t.d.fact 9 (f := .glo "is_measure") rfl)
theorem Tx.g_check_measure (T : Tx w K mg) : mg "check_measure" = some (.ref (He.fAd K d_check_measure.at_)) := by obtain ⟨h, X, G, c⟩ := T.h; exact He.glo_ok X G (c.t.d.fact 10 (f := .glo "check_measure") rfl)
theorem Tx.g_check_allowance (T : Tx w K mg) : mg "check_allowance" = some (.ref (He.fAd K d_check_allowance.at_)) := by obtain ⟨h, X, G, c⟩ := T.h; exact He.glo_ok X G (c.t.d.fact 11 (f := .glo "check_allowance") rfl)
theorem Tx.g__law_odd (T : Tx w K mg) : mg "_law_odd" = some (.ref (He.fAd K d__law_odd.at_)) := by obtain ⟨h, X, G, c⟩ := T.h; exact He.glo_ok X G (c.t.d.fact 12 (f := .glo "_law_odd") rfl)
theorem Tx.g_check_sieve (T : Tx w K mg) : mg "check_sieve" = some (.ref (He.fAd K d_check_sieve.at_)) := by obtain ⟨h, X, G, c⟩ := T.h; exact He.glo_ok X G (c.t.d.fact 13 (f := .glo "check_sieve") rfl)
theorem Tx.g_either_of (T : Tx w K mg) : mg "either_of" = some (.ref (He.fAd K d_either_of.at_)) := by obtain ⟨h, X, G, c⟩ := T.h; exact He.glo_ok X G (c.t.d.fact 14 (f := .glo "either_of") rfl)
theorem Tx.g_sieve_of (T : Tx w K mg) : mg "sieve_of" = some (.ref (He.fAd K d_sieve_of.at_)) := by obtain ⟨h, X, G, c⟩ := T.h; exact He.glo_ok X G (c.t.d.fact 15 (f := .glo "sieve_of") rfl)
theorem Tx.g_both_of (T : Tx w K mg) : mg "both_of" = some (.ref (He.fAd K d_both_of.at_)) := by obtain ⟨h, X, G, c⟩ := T.h; exact He.glo_ok X G (c.t.d.fact 16 (f := .glo "both_of") rfl)
theorem Tx.g_but_of (T : Tx w K mg) : mg "but_of" = some (.ref (He.fAd K d_but_of.at_)) := by obtain ⟨h, X, G, c⟩ := T.h; exact He.glo_ok X G (c.t.d.fact 17 (f := .glo "but_of") rfl)
theorem Tx.g__law_kind_of (T : Tx w K mg) : mg "_law_kind_of" = some (.ref (He.fAd K d__law_kind_of.at_)) := by obtain ⟨h, X, G, c⟩ := T.h; exact He.glo_ok X G (c.t.d.fact 18 (f := .glo "_law_kind_of") rfl)
theorem Tx.g__law_asked (T : Tx w K mg) : mg "_law_asked" = some (.ref (He.fAd K d__law_asked.at_)) := by obtain ⟨h, X, G, c⟩ := T.h; exact He.glo_ok X G (c.t.d.fact 19 (f := .glo "_law_asked") rfl)
theorem Tx.g__law_refused (T : Tx w K mg) : mg "_law_refused" = some (.ref (He.fAd K d__law_refused.at_)) := by obtain ⟨h, X, G, c⟩ := T.h; exact He.glo_ok X G (c.t.d.fact 20 (f := .glo "_law_refused") rfl)
theorem Tx.g__law_stays (T : Tx w K mg) : mg "_law_stays" = some (.ref (He.fAd K d__law_stays.at_)) := by obtain ⟨h, X, G, c⟩ := T.h; exact He.glo_ok X G (c.t.d.fact 21 (f := .glo "_law_stays") rfl)
theorem Tx.g_law (T : Tx w K mg) : mg "law" = some (.ref (He.fAd K d_law.at_)) := by obtain ⟨h, X, G, c⟩ := T.h; exact He.glo_ok X G (c.t.d.fact 22 (f := .glo "law") rfl)
theorem Tx.g_FitError (T : Tx w K mg) : mg "FitError" = some (.ref (He.ga K "FitError")) := by obtain ⟨h, X, G, c⟩ := T.h; exact He.glo_ok X G (c.t.d.fact 23 (f := .glo "FitError") rfl)
theorem Tx.g_NoMeasure (T : Tx w K mg) : mg "NoMeasure" = some (.ref (He.ga K "NoMeasure")) := by obtain ⟨h, X, G, c⟩ := T.h; exact He.glo_ok X G (c.t.d.fact 24 (f := .glo "NoMeasure") rfl)
theorem Tx.g_NoAllowance (T : Tx w K mg) : mg "NoAllowance" = some (.ref (He.ga K "NoAllowance")) := by obtain ⟨h, X, G, c⟩ := T.h; exact He.glo_ok X G (c.t.d.fact 25 (f := .glo "NoAllowance") rfl)
theorem Tx.g_NoSpan (T : Tx w K mg) : mg "NoSpan" = some (.ref (He.ga K "NoSpan")) := by obtain ⟨h, X, G, c⟩ := T.h; exact He.glo_ok X G (c.t.d.fact 26 (f := .glo "NoSpan") rfl)
theorem Tx.g_NoLimits (T : Tx w K mg) : mg "NoLimits" = some (.ref (He.ga K "NoLimits")) := by obtain ⟨h, X, G, c⟩ := T.h; exact He.glo_ok X G (c.t.d.fact 27 (f := .glo "NoLimits") rfl)
theorem Tx.g_NoOption (T : Tx w K mg) : mg "NoOption" = some (.ref (He.ga K "NoOption")) := by obtain ⟨h, X, G, c⟩ := T.h; exact He.glo_ok X G (c.t.d.fact 28 (f := .glo "NoOption") rfl)
theorem Tx.g_NoNew (T : Tx w K mg) : mg "NoNew" = some (.ref (He.ga K "NoNew")) := by obtain ⟨h, X, G, c⟩ := T.h; exact He.glo_ok X G (c.t.d.fact 29 (f := .glo "NoNew") rfl)
theorem Tx.g_NoDrawing (T : Tx w K mg) : mg "NoDrawing" = some (.ref (He.ga K "NoDrawing")) := by obtain ⟨h, X, G, c⟩ := T.h; exact He.glo_ok X G (c.t.d.fact 30 (f := .glo "NoDrawing") rfl)
theorem Tx.g_NoWants (T : Tx w K mg) : mg "NoWants" = some (.ref (He.ga K "NoWants")) := by obtain ⟨h, X, G, c⟩ := T.h; exact He.glo_ok X G (c.t.d.fact 31 (f := .glo "NoWants") rfl)
theorem Tx.g_NoZeros (T : Tx w K mg) : mg "NoZeros" = some (.ref (He.ga K "NoZeros")) := by obtain ⟨h, X, G, c⟩ := T.h; exact He.glo_ok X G (c.t.d.fact 32 (f := .glo "NoZeros") rfl)
theorem Tx.g_NoSieve (T : Tx w K mg) : mg "NoSieve" = some (.ref (He.ga K "NoSieve")) := by obtain ⟨h, X, G, c⟩ := T.h; exact He.glo_ok X G (c.t.d.fact 33 (f := .glo "NoSieve") rfl)
theorem Tx.g_NoTray (T : Tx w K mg) : mg "NoTray" = some (.ref (He.ga K "NoTray")) := by obtain ⟨h, X, G, c⟩ := T.h; exact He.glo_ok X G (c.t.d.fact 34 (f := .glo "NoTray") rfl)
theorem Tx.g_NoRow (T : Tx w K mg) : mg "NoRow" = some (.ref (He.ga K "NoRow")) := by obtain ⟨h, X, G, c⟩ := T.h; exact He.glo_ok X G (c.t.d.fact 35 (f := .glo "NoRow") rfl)
theorem Tx.g_ReadError (T : Tx w K mg) : mg "ReadError" = some (.ref (He.ga K "ReadError")) := by obtain ⟨h, X, G, c⟩ := T.h; exact He.glo_ok X G (c.t.d.fact 36 (f := .glo "ReadError") rfl)
theorem Tx.g_NoWord (T : Tx w K mg) : mg "NoWord" = some (.ref (He.ga K "NoWord")) := by obtain ⟨h, X, G, c⟩ := T.h; exact He.glo_ok X G (c.t.d.fact 37 (f := .glo "NoWord") rfl)
theorem Tx.g_NoLine (T : Tx w K mg) : mg "NoLine" = some (.ref (He.ga K "NoLine")) := by obtain ⟨h, X, G, c⟩ := T.h; exact He.glo_ok X G (c.t.d.fact 38 (f := .glo "NoLine") rfl)
theorem Tx.g_MissError (T : Tx w K mg) : mg "MissError" = some (.ref (He.ga K "MissError")) := by obtain ⟨h, X, G, c⟩ := T.h; exact He.glo_ok X G (c.t.d.fact 39 (f := .glo "MissError") rfl)
theorem Tx.g_NoName (T : Tx w K mg) : mg "NoName" = some (.ref (He.ga K "NoName")) := by obtain ⟨h, X, G, c⟩ := T.h; exact He.glo_ok X G (c.t.d.fact 40 (f := .glo "NoName") rfl)
theorem Tx.g_NoPlace (T : Tx w K mg) : mg "NoPlace" = some (.ref (He.ga K "NoPlace")) := by obtain ⟨h, X, G, c⟩ := T.h; exact He.glo_ok X G (c.t.d.fact 41 (f := .glo "NoPlace") rfl)
theorem Tx.g_RoomError (T : Tx w K mg) : mg "RoomError" = some (.ref (He.ga K "RoomError")) := by obtain ⟨h, X, G, c⟩ := T.h; exact He.glo_ok X G (c.t.d.fact 42 (f := .glo "RoomError") rfl)
theorem Tx.g_TooLong (T : Tx w K mg) : mg "TooLong" = some (.ref (He.ga K "TooLong")) := by obtain ⟨h, X, G, c⟩ := T.h; exact He.glo_ok X G (c.t.d.fact 43 (f := .glo "TooLong") rfl)
theorem Tx.g_Span (T : Tx w K mg) : mg "Span" = some (.ref (He.ga K "Span")) := by obtain ⟨h, X, G, c⟩ := T.h; exact He.glo_ok X G (c.t.d.fact 44 (f := .glo "Span") rfl)
theorem Tx.g_Sieve (T : Tx w K mg) : mg "Sieve" = some (.ref (He.ga K "Sieve")) := by obtain ⟨h, X, G, c⟩ := T.h; exact He.glo_ok X G (c.t.d.fact 45 (f := .glo "Sieve") rfl)
theorem Tx.g_Chain (T : Tx w K mg) : mg "Chain" = some (.ref (He.ga K "Chain")) := by obtain ⟨h, X, G, c⟩ := T.h; exact He.glo_ok X G (c.t.d.fact 46 (f := .glo "Chain") rfl)
theorem Tx.g_Tray (T : Tx w K mg) : mg "Tray" = some (.ref (He.ga K "Tray")) := by obtain ⟨h, X, G, c⟩ := T.h; exact He.glo_ok X G (c.t.d.fact 47 (f := .glo "Tray") rfl)
theorem Tx.f_isinstance (T : Tx w K mg) : mg "isinstance" = none := by obtain ⟨h, X, G, c⟩ := T.h; exact He.free_ok X G (c.t.d.fact 48 (f := .free "isinstance") rfl)
theorem Tx.f_list (T : Tx w K mg) : mg "list" = none := by obtain ⟨h, X, G, c⟩ := T.h; exact He.free_ok X G (c.t.d.fact 49 (f := .free "list") rfl)
theorem Tx.f_tuple (T : Tx w K mg) : mg "tuple" = none := by obtain ⟨h, X, G, c⟩ := T.h; exact He.free_ok X G (c.t.d.fact 50 (f := .free "tuple") rfl)
theorem Tx.f_sorted (T : Tx w K mg) : mg "sorted" = none := by obtain ⟨h, X, G, c⟩ := T.h; exact He.free_ok X G (c.t.d.fact 51 (f := .free "sorted") rfl)
theorem Tx.f_max (T : Tx w K mg) : mg "max" = none := by obtain ⟨h, X, G, c⟩ := T.h; exact He.free_ok X G (c.t.d.fact 52 (f := .free "max") rfl)
theorem Tx.f_len (T : Tx w K mg) : mg "len" = none := by obtain ⟨h, X, G, c⟩ := T.h; exact He.free_ok X G (c.t.d.fact 53 (f := .free "len") rfl)
theorem Tx.f_sum (T : Tx w K mg) : mg "sum" = none := by obtain ⟨h, X, G, c⟩ := T.h; exact He.free_ok X G (c.t.d.fact 54 (f := .free "sum") rfl)
theorem Tx.f_abs (T : Tx w K mg) : mg "abs" = none := by obtain ⟨h, X, G, c⟩ := T.h; exact He.free_ok X G (c.t.d.fact 55 (f := .free "abs") rfl)
theorem Tx.f_range (T : Tx w K mg) : mg "range" = none := by obtain ⟨h, X, G, c⟩ := T.h; exact He.free_ok X G (c.t.d.fact 56 (f := .free "range") rfl)
theorem Tx.f_int (T : Tx w K mg) : mg "int" = none := by obtain ⟨h, X, G, c⟩ := T.h; exact He.free_ok X G (c.t.d.fact 57 (f := .free "int") rfl)
theorem Tx.f_bool (T : Tx w K mg) : mg "bool" = none := by obtain ⟨h, X, G, c⟩ := T.h; exact He.free_ok X G (c.t.d.fact 58 (f := .free "bool") rfl)
theorem Tx.f_min (T : Tx w K mg) : mg "min" = none := by obtain ⟨h, X, G, c⟩ := T.h; exact He.free_ok X G (c.t.d.fact 59 (f := .free "min") rfl)
theorem Tx.f_any (T : Tx w K mg) : mg "any" = none := by obtain ⟨h, X, G, c⟩ := T.h; exact He.free_ok X G (c.t.d.fact 60 (f := .free "any") rfl)
theorem Tx.f_ValueError (T : Tx w K mg) : mg "ValueError" = none := by obtain ⟨h, X, G, c⟩ := T.h; exact He.free_ok X G (c.t.d.fact 61 (f := .free "ValueError") rfl)
theorem Tx.f_repr (T : Tx w K mg) : mg "repr" = none := by obtain ⟨h, X, G, c⟩ := T.h; exact He.free_ok X G (c.t.d.fact 62 (f := .free "repr") rfl)
theorem Tx.mt_Sieve___eq__ (T : Tx w K mg) : Meth K (He.ga K "Sieve") "__eq__" (He.fAd K d_Sieve___eq__.at_) := by obtain ⟨h, X, G, c⟩ := T.h; exact He.meth_ok (c.t.d.fact 63 (f := .meth "Sieve" "__eq__") rfl)
theorem Tx.mt_Chain___eq__ (T : Tx w K mg) : Meth K (He.ga K "Chain") "__eq__" (He.fAd K d_Chain___eq__.at_) := by obtain ⟨h, X, G, c⟩ := T.h; exact He.meth_ok (c.t.d.fact 64 (f := .meth "Chain" "__eq__") rfl)
theorem Tx.mt_Tray___eq__ (T : Tx w K mg) : Meth K (He.ga K "Tray") "__eq__" (He.fAd K d_Tray___eq__.at_) := by obtain ⟨h, X, G, c⟩ := T.h; exact He.meth_ok (c.t.d.fact 65 (f := .meth "Tray" "__eq__") rfl)
theorem Tx.mt_Sieve_either (T : Tx w K mg) : Meth K (He.ga K "Sieve") "either" (He.fAd K d_Sieve_either.at_) := by obtain ⟨h, X, G, c⟩ := T.h; exact He.meth_ok (c.t.d.fact 66 (f := .meth "Sieve" "either") rfl)
theorem Tx.mt_Sieve_both (T : Tx w K mg) : Meth K (He.ga K "Sieve") "both" (He.fAd K d_Sieve_both.at_) := by obtain ⟨h, X, G, c⟩ := T.h; exact He.meth_ok (c.t.d.fact 67 (f := .meth "Sieve" "both") rfl)
theorem Tx.mt_Sieve_but (T : Tx w K mg) : Meth K (He.ga K "Sieve") "but" (He.fAd K d_Sieve_but.at_) := by obtain ⟨h, X, G, c⟩ := T.h; exact He.meth_ok (c.t.d.fact 68 (f := .meth "Sieve" "but") rfl)
theorem Tx.mt_Sieve_unlike (T : Tx w K mg) : Meth K (He.ga K "Sieve") "unlike" (He.fAd K d_Sieve_unlike.at_) := by obtain ⟨h, X, G, c⟩ := T.h; exact He.meth_ok (c.t.d.fact 69 (f := .meth "Sieve" "unlike") rfl)
theorem Tx.mt_Sieve_lets (T : Tx w K mg) : Meth K (He.ga K "Sieve") "lets" (He.fAd K d_Sieve_lets.at_) := by obtain ⟨h, X, G, c⟩ := T.h; exact He.meth_ok (c.t.d.fact 70 (f := .meth "Sieve" "lets") rfl)
theorem Tx.mt_Span___repr__ (T : Tx w K mg) : Meth K (He.ga K "Span") "__repr__" (He.fAd K d_Span___repr__.at_) := by obtain ⟨h, X, G, c⟩ := T.h; exact He.meth_ok (c.t.d.fact 71 (f := .meth "Span" "__repr__") rfl)
theorem Tx.mt_Sieve_stretches (T : Tx w K mg) : Meth K (He.ga K "Sieve") "stretches" (He.fAd K d_Sieve_stretches.at_) := by obtain ⟨h, X, G, c⟩ := T.h; exact He.meth_ok (c.t.d.fact 72 (f := .meth "Sieve" "stretches") rfl)
theorem Tx.mt_Sieve___len__ (T : Tx w K mg) : Meth K (He.ga K "Sieve") "__len__" (He.fAd K d_Sieve___len__.at_) := by obtain ⟨h, X, G, c⟩ := T.h; exact He.meth_ok (c.t.d.fact 73 (f := .meth "Sieve" "__len__") rfl)
theorem Tx.cls_Span (T : Tx w K mg) : Cls K (He.ga K "Span") := by obtain ⟨h, X, G, c⟩ := T.h; exact He.cls_ok (c.t.d.fact 74 (f := .cls "Span") rfl)
theorem Tx.mkr_Span (T : Tx w K mg) : Mk K (He.ga K "Span") (He.fAd K d_Span___init__.at_) := by obtain ⟨h, X, G, c⟩ := T.h; exact He.mkr_ok (c.t.d.fact 75 (f := .mkr "Span") rfl)
theorem Tx.no_Span_size (T : Tx w K mg) : NoAttr K (He.ga K "Span") "size" := by obtain ⟨h, X, G, c⟩ := T.h; exact He.noat_ok (c.t.d.fact 76 (f := .noat "Span" "size") rfl)
theorem Tx.no_Span_above (T : Tx w K mg) : NoAttr K (He.ga K "Span") "above" := by obtain ⟨h, X, G, c⟩ := T.h; exact He.noat_ok (c.t.d.fact 77 (f := .noat "Span" "above") rfl)
theorem Tx.no_Span_below (T : Tx w K mg) : NoAttr K (He.ga K "Span") "below" := by obtain ⟨h, X, G, c⟩ := T.h; exact He.noat_ok (c.t.d.fact 78 (f := .noat "Span" "below") rfl)
theorem Tx.no_Span_low (T : Tx w K mg) : NoAttr K (He.ga K "Span") "low" := by obtain ⟨h, X, G, c⟩ := T.h; exact He.noat_ok (c.t.d.fact 79 (f := .noat "Span" "low") rfl)
theorem Tx.no_Span_high (T : Tx w K mg) : NoAttr K (He.ga K "Span") "high" := by obtain ⟨h, X, G, c⟩ := T.h; exact He.noat_ok (c.t.d.fact 80 (f := .noat "Span" "high") rfl)
theorem Tx.cls_Sieve (T : Tx w K mg) : Cls K (He.ga K "Sieve") := by obtain ⟨h, X, G, c⟩ := T.h; exact He.cls_ok (c.t.d.fact 81 (f := .cls "Sieve") rfl)
theorem Tx.mkr_Sieve (T : Tx w K mg) : Mk K (He.ga K "Sieve") (He.fAd K d_Sieve___init__.at_) := by obtain ⟨h, X, G, c⟩ := T.h; exact He.mkr_ok (c.t.d.fact 82 (f := .mkr "Sieve") rfl)
theorem Tx.no_Sieve_runs (T : Tx w K mg) : NoAttr K (He.ga K "Sieve") "runs" := by obtain ⟨h, X, G, c⟩ := T.h; exact He.noat_ok (c.t.d.fact 83 (f := .noat "Sieve" "runs") rfl)
theorem Tx.cls_Chain (T : Tx w K mg) : Cls K (He.ga K "Chain") := by obtain ⟨h, X, G, c⟩ := T.h; exact He.cls_ok (c.t.d.fact 84 (f := .cls "Chain") rfl)
theorem Tx.mkr_Chain (T : Tx w K mg) : Mk K (He.ga K "Chain") (He.fAd K d_Chain___init__.at_) := by obtain ⟨h, X, G, c⟩ := T.h; exact He.mkr_ok (c.t.d.fact 85 (f := .mkr "Chain") rfl)
theorem Tx.no_Chain_kept (T : Tx w K mg) : NoAttr K (He.ga K "Chain") "kept" := by obtain ⟨h, X, G, c⟩ := T.h; exact He.noat_ok (c.t.d.fact 86 (f := .noat "Chain" "kept") rfl)
theorem Tx.cls_Tray (T : Tx w K mg) : Cls K (He.ga K "Tray") := by obtain ⟨h, X, G, c⟩ := T.h; exact He.cls_ok (c.t.d.fact 87 (f := .cls "Tray") rfl)
theorem Tx.mkr_Tray (T : Tx w K mg) : Mk K (He.ga K "Tray") (He.fAd K d_Tray___init__.at_) := by obtain ⟨h, X, G, c⟩ := T.h; exact He.mkr_ok (c.t.d.fact 88 (f := .mkr "Tray") rfl)
theorem Tx.no_Tray_kept (T : Tx w K mg) : NoAttr K (He.ga K "Tray") "kept" := by obtain ⟨h, X, G, c⟩ := T.h; exact He.noat_ok (c.t.d.fact 89 (f := .noat "Tray" "kept") rfl)
theorem Tx.df_check_span (T : Tx w K mg) : ∃ fd, FunD K d_check_span.name d_check_span.qual d_check_span.params d_check_span.body d_check_span.scope (d_check_span.dvs K) (d_check_span.kws K) (He.fAd K d_check_span.at_) fd := by obtain ⟨h, X, G, c⟩ := T.h; exact c.t.d.def_ 0 (d := d_check_span) rfl
theorem Tx.df_check_row (T : Tx w K mg) : ∃ fd, FunD K d_check_row.name d_check_row.qual d_check_row.params d_check_row.body d_check_row.scope (d_check_row.dvs K) (d_check_row.kws K) (He.fAd K d_check_row.at_) fd := by obtain ⟨h, X, G, c⟩ := T.h; exact c.t.d.def_ 1 (d := d_check_row) rfl
theorem Tx.df_joined (T : Tx w K mg) : ∃ fd, FunD K d_joined.name d_joined.qual d_joined.params d_joined.body d_joined.scope (d_joined.dvs K) (d_joined.kws K) (He.fAd K d_joined.at_) fd := by obtain ⟨h, X, G, c⟩ := T.h; exact c.t.d.def_ 2 (d := d_joined) rfl
theorem Tx.df_Sieve___init__ (T : Tx w K mg) : ∃ fd, FunD K d_Sieve___init__.name d_Sieve___init__.qual d_Sieve___init__.params d_Sieve___init__.body d_Sieve___init__.scope (d_Sieve___init__.dvs K) (d_Sieve___init__.kws K) (He.fAd K d_Sieve___init__.at_) fd := by obtain ⟨h, X, G, c⟩ := T.h; exact c.t.d.def_ 3 (d := d_Sieve___init__) rfl
theorem Tx.df_Chain___init__ (T : Tx w K mg) : ∃ fd, FunD K d_Chain___init__.name d_Chain___init__.qual d_Chain___init__.params d_Chain___init__.body d_Chain___init__.scope (d_Chain___init__.dvs K) (d_Chain___init__.kws K) (He.fAd K d_Chain___init__.at_) fd := by obtain ⟨h, X, G, c⟩ := T.h; exact c.t.d.def_ 4 (d := d_Chain___init__) rfl
theorem Tx.df_Sieve___eq__ (T : Tx w K mg) : ∃ fd, FunD K d_Sieve___eq__.name d_Sieve___eq__.qual d_Sieve___eq__.params d_Sieve___eq__.body d_Sieve___eq__.scope (d_Sieve___eq__.dvs K) (d_Sieve___eq__.kws K) (He.fAd K d_Sieve___eq__.at_) fd := by obtain ⟨h, X, G, c⟩ := T.h; exact c.t.d.def_ 5 (d := d_Sieve___eq__) rfl
theorem Tx.df_Tray___init__ (T : Tx w K mg) : ∃ fd, FunD K d_Tray___init__.name d_Tray___init__.qual d_Tray___init__.params d_Tray___init__.body d_Tray___init__.scope (d_Tray___init__.dvs K) (d_Tray___init__.kws K) (He.fAd K d_Tray___init__.at_) fd := by obtain ⟨h, X, G, c⟩ := T.h; exact c.t.d.def_ 6 (d := d_Tray___init__) rfl
theorem Tx.df_Chain___eq__ (T : Tx w K mg) : ∃ fd, FunD K d_Chain___eq__.name d_Chain___eq__.qual d_Chain___eq__.params d_Chain___eq__.body d_Chain___eq__.scope (d_Chain___eq__.dvs K) (d_Chain___eq__.kws K) (He.fAd K d_Chain___eq__.at_) fd := by obtain ⟨h, X, G, c⟩ := T.h; exact c.t.d.def_ 7 (d := d_Chain___eq__) rfl
theorem Tx.df_Tray___eq__ (T : Tx w K mg) : ∃ fd, FunD K d_Tray___eq__.name d_Tray___eq__.qual d_Tray___eq__.params d_Tray___eq__.body d_Tray___eq__.scope (d_Tray___eq__.dvs K) (d_Tray___eq__.kws K) (He.fAd K d_Tray___eq__.at_) fd := by obtain ⟨h, X, G, c⟩ := T.h; exact c.t.d.def_ 8 (d := d_Tray___eq__) rfl
theorem Tx.df__law_cell (T : Tx w K mg) : ∃ fd, FunD K d__law_cell.name d__law_cell.qual d__law_cell.params d__law_cell.body d__law_cell.scope (d__law_cell.dvs K) (d__law_cell.kws K) (He.fAd K d__law_cell.at_) fd := by obtain ⟨h, X, G, c⟩ := T.h; exact c.t.d.def_ 9 (d := d__law_cell) rfl
theorem Tx.df__law_purse (T : Tx w K mg) : ∃ fd, FunD K d__law_purse.name d__law_purse.qual d__law_purse.params d__law_purse.body d__law_purse.scope (d__law_purse.dvs K) (d__law_purse.kws K) (He.fAd K d__law_purse.at_) fd := by obtain ⟨h, X, G, c⟩ := T.h; exact c.t.d.def_ 10 (d := d__law_purse) rfl
theorem Tx.df__law_take (T : Tx w K mg) : ∃ fd, FunD K d__law_take.name d__law_take.qual d__law_take.params d__law_take.body d__law_take.scope (d__law_take.dvs K) (d__law_take.kws K) (He.fAd K d__law_take.at_) fd := by obtain ⟨h, X, G, c⟩ := T.h; exact c.t.d.def_ 11 (d := d__law_take) rfl
theorem Tx.df__law_measure (T : Tx w K mg) : ∃ fd, FunD K d__law_measure.name d__law_measure.qual d__law_measure.params d__law_measure.body d__law_measure.scope (d__law_measure.dvs K) (d__law_measure.kws K) (He.fAd K d__law_measure.at_) fd := by obtain ⟨h, X, G, c⟩ := T.h; exact c.t.d.def_ 12 (d := d__law_measure) rfl
theorem Tx.df__law_allowed (T : Tx w K mg) : ∃ fd, FunD K d__law_allowed.name d__law_allowed.qual d__law_allowed.params d__law_allowed.body d__law_allowed.scope (d__law_allowed.dvs K) (d__law_allowed.kws K) (He.fAd K d__law_allowed.at_) fd := by obtain ⟨h, X, G, c⟩ := T.h; exact c.t.d.def_ 13 (d := d__law_allowed) rfl
theorem Tx.df__law_row (T : Tx w K mg) : ∃ fd, FunD K d__law_row.name d__law_row.qual d__law_row.params d__law_row.body d__law_row.scope (d__law_row.dvs K) (d__law_row.kws K) (He.fAd K d__law_row.at_) fd := by obtain ⟨h, X, G, c⟩ := T.h; exact c.t.d.def_ 14 (d := d__law_row) rfl
theorem Tx.df_is_measure (T : Tx w K mg) : ∃ fd, FunD K d_is_measure.name d_is_measure.qual d_is_measure.params d_is_measure.body d_is_measure.scope (d_is_measure.dvs K) (d_is_measure.kws K) (He.fAd K d_is_measure.at_) fd := by obtain ⟨h, X, G, c⟩ := T.h; exact c.t.d.def_ 15 (d := d_is_measure) rfl
theorem Tx.df_check_measure (T : Tx w K mg) : ∃ fd, FunD K d_check_measure.name d_check_measure.qual d_check_measure.params d_check_measure.body d_check_measure.scope (d_check_measure.dvs K) (d_check_measure.kws K) (He.fAd K d_check_measure.at_) fd := by obtain ⟨h, X, G, c⟩ := T.h; exact c.t.d.def_ 16 (d := d_check_measure) rfl
theorem Tx.df_check_allowance (T : Tx w K mg) : ∃ fd, FunD K d_check_allowance.name d_check_allowance.qual d_check_allowance.params d_check_allowance.body d_check_allowance.scope (d_check_allowance.dvs K) (d_check_allowance.kws K) (He.fAd K d_check_allowance.at_) fd := by obtain ⟨h, X, G, c⟩ := T.h; exact c.t.d.def_ 17 (d := d_check_allowance) rfl
theorem Tx.df_Span___init__ (T : Tx w K mg) : ∃ fd, FunD K d_Span___init__.name d_Span___init__.qual d_Span___init__.params d_Span___init__.body d_Span___init__.scope (d_Span___init__.dvs K) (d_Span___init__.kws K) (He.fAd K d_Span___init__.at_) fd := by obtain ⟨h, X, G, c⟩ := T.h; exact c.t.d.def_ 18 (d := d_Span___init__) rfl
theorem Tx.df__law_odd (T : Tx w K mg) : ∃ fd, FunD K d__law_odd.name d__law_odd.qual d__law_odd.params d__law_odd.body d__law_odd.scope (d__law_odd.dvs K) (d__law_odd.kws K) (He.fAd K d__law_odd.at_) fd := by obtain ⟨h, X, G, c⟩ := T.h; exact c.t.d.def_ 19 (d := d__law_odd) rfl
theorem Tx.df_check_sieve (T : Tx w K mg) : ∃ fd, FunD K d_check_sieve.name d_check_sieve.qual d_check_sieve.params d_check_sieve.body d_check_sieve.scope (d_check_sieve.dvs K) (d_check_sieve.kws K) (He.fAd K d_check_sieve.at_) fd := by obtain ⟨h, X, G, c⟩ := T.h; exact c.t.d.def_ 20 (d := d_check_sieve) rfl
theorem Tx.df_either_of (T : Tx w K mg) : ∃ fd, FunD K d_either_of.name d_either_of.qual d_either_of.params d_either_of.body d_either_of.scope (d_either_of.dvs K) (d_either_of.kws K) (He.fAd K d_either_of.at_) fd := by obtain ⟨h, X, G, c⟩ := T.h; exact c.t.d.def_ 21 (d := d_either_of) rfl
theorem Tx.df_sieve_of (T : Tx w K mg) : ∃ fd, FunD K d_sieve_of.name d_sieve_of.qual d_sieve_of.params d_sieve_of.body d_sieve_of.scope (d_sieve_of.dvs K) (d_sieve_of.kws K) (He.fAd K d_sieve_of.at_) fd := by obtain ⟨h, X, G, c⟩ := T.h; exact c.t.d.def_ 22 (d := d_sieve_of) rfl
theorem Tx.df_Sieve_either (T : Tx w K mg) : ∃ fd, FunD K d_Sieve_either.name d_Sieve_either.qual d_Sieve_either.params d_Sieve_either.body d_Sieve_either.scope (d_Sieve_either.dvs K) (d_Sieve_either.kws K) (He.fAd K d_Sieve_either.at_) fd := by obtain ⟨h, X, G, c⟩ := T.h; exact c.t.d.def_ 23 (d := d_Sieve_either) rfl
theorem Tx.df_both_of (T : Tx w K mg) : ∃ fd, FunD K d_both_of.name d_both_of.qual d_both_of.params d_both_of.body d_both_of.scope (d_both_of.dvs K) (d_both_of.kws K) (He.fAd K d_both_of.at_) fd := by obtain ⟨h, X, G, c⟩ := T.h; exact c.t.d.def_ 24 (d := d_both_of) rfl
theorem Tx.df_Sieve_both (T : Tx w K mg) : ∃ fd, FunD K d_Sieve_both.name d_Sieve_both.qual d_Sieve_both.params d_Sieve_both.body d_Sieve_both.scope (d_Sieve_both.dvs K) (d_Sieve_both.kws K) (He.fAd K d_Sieve_both.at_) fd := by obtain ⟨h, X, G, c⟩ := T.h; exact c.t.d.def_ 25 (d := d_Sieve_both) rfl
theorem Tx.df_but_of (T : Tx w K mg) : ∃ fd, FunD K d_but_of.name d_but_of.qual d_but_of.params d_but_of.body d_but_of.scope (d_but_of.dvs K) (d_but_of.kws K) (He.fAd K d_but_of.at_) fd := by obtain ⟨h, X, G, c⟩ := T.h; exact c.t.d.def_ 26 (d := d_but_of) rfl
theorem Tx.df_Sieve_but (T : Tx w K mg) : ∃ fd, FunD K d_Sieve_but.name d_Sieve_but.qual d_Sieve_but.params d_Sieve_but.body d_Sieve_but.scope (d_Sieve_but.dvs K) (d_Sieve_but.kws K) (He.fAd K d_Sieve_but.at_) fd := by obtain ⟨h, X, G, c⟩ := T.h; exact c.t.d.def_ 27 (d := d_Sieve_but) rfl
theorem Tx.df_Sieve_unlike (T : Tx w K mg) : ∃ fd, FunD K d_Sieve_unlike.name d_Sieve_unlike.qual d_Sieve_unlike.params d_Sieve_unlike.body d_Sieve_unlike.scope (d_Sieve_unlike.dvs K) (d_Sieve_unlike.kws K) (He.fAd K d_Sieve_unlike.at_) fd := by obtain ⟨h, X, G, c⟩ := T.h; exact c.t.d.def_ 28 (d := d_Sieve_unlike) rfl
theorem Tx.df_Sieve_lets (T : Tx w K mg) : ∃ fd, FunD K d_Sieve_lets.name d_Sieve_lets.qual d_Sieve_lets.params d_Sieve_lets.body d_Sieve_lets.scope (d_Sieve_lets.dvs K) (d_Sieve_lets.kws K) (He.fAd K d_Sieve_lets.at_) fd := by obtain ⟨h, X, G, c⟩ := T.h; exact c.t.d.def_ 29 (d := d_Sieve_lets) rfl
theorem Tx.df__law_kind_of (T : Tx w K mg) : ∃ fd, FunD K d__law_kind_of.name d__law_kind_of.qual d__law_kind_of.params d__law_kind_of.body d__law_kind_of.scope (d__law_kind_of.dvs K) (d__law_kind_of.kws K) (He.fAd K d__law_kind_of.at_) fd := by obtain ⟨h, X, G, c⟩ := T.h; exact c.t.d.def_ 30 (d := d__law_kind_of) rfl
theorem Tx.df__law_asked (T : Tx w K mg) : ∃ fd, FunD K d__law_asked.name d__law_asked.qual d__law_asked.params d__law_asked.body d__law_asked.scope (d__law_asked.dvs K) (d__law_asked.kws K) (He.fAd K d__law_asked.at_) fd := by obtain ⟨h, X, G, c⟩ := T.h; exact c.t.d.def_ 31 (d := d__law_asked) rfl
theorem Tx.df__law_refused (T : Tx w K mg) : ∃ fd, FunD K d__law_refused.name d__law_refused.qual d__law_refused.params d__law_refused.body d__law_refused.scope (d__law_refused.dvs K) (d__law_refused.kws K) (He.fAd K d__law_refused.at_) fd := by obtain ⟨h, X, G, c⟩ := T.h; exact c.t.d.def_ 32 (d := d__law_refused) rfl
theorem Tx.df_Span___repr__ (T : Tx w K mg) : ∃ fd, FunD K d_Span___repr__.name d_Span___repr__.qual d_Span___repr__.params d_Span___repr__.body d_Span___repr__.scope (d_Span___repr__.dvs K) (d_Span___repr__.kws K) (He.fAd K d_Span___repr__.at_) fd := by obtain ⟨h, X, G, c⟩ := T.h; exact c.t.d.def_ 33 (d := d_Span___repr__) rfl
theorem Tx.df_Sieve_stretches (T : Tx w K mg) : ∃ fd, FunD K d_Sieve_stretches.name d_Sieve_stretches.qual d_Sieve_stretches.params d_Sieve_stretches.body d_Sieve_stretches.scope (d_Sieve_stretches.dvs K) (d_Sieve_stretches.kws K) (He.fAd K d_Sieve_stretches.at_) fd := by obtain ⟨h, X, G, c⟩ := T.h; exact c.t.d.def_ 34 (d := d_Sieve_stretches) rfl
theorem Tx.df_Sieve___len__ (T : Tx w K mg) : ∃ fd, FunD K d_Sieve___len__.name d_Sieve___len__.qual d_Sieve___len__.params d_Sieve___len__.body d_Sieve___len__.scope (d_Sieve___len__.dvs K) (d_Sieve___len__.kws K) (He.fAd K d_Sieve___len__.at_) fd := by obtain ⟨h, X, G, c⟩ := T.h; exact c.t.d.def_ 35 (d := d_Sieve___len__) rfl
theorem Tx.df__law_stays (T : Tx w K mg) : ∃ fd, FunD K d__law_stays.name d__law_stays.qual d__law_stays.params d__law_stays.body d__law_stays.scope (d__law_stays.dvs K) (d__law_stays.kws K) (He.fAd K d__law_stays.at_) fd := by obtain ⟨h, X, G, c⟩ := T.h; exact c.t.d.def_ 36 (d := d__law_stays) rfl
theorem Tx.df_law (T : Tx w K mg) : ∃ fd, FunD K d_law.name d_law.qual d_law.params d_law.body d_law.scope (d_law.dvs K) (d_law.kws K) (He.fAd K d_law.at_) fd := by obtain ⟨h, X, G, c⟩ := T.h; exact c.t.d.def_ 37 (d := d_law) rfl
theorem Tx.ex (T : Tx w K mg) : ex K = true := by obtain ⟨h, X, G, c⟩ := T.h; exact c.more
theorem Tx.clsK (T : Tx w K mg) : Qx.ClsK K ["Span", "Sieve", "Chain", "Tray"] := Qx.ClsK.of (He.ba T.ex).1 fun C h => by
  simp only [List.mem_cons, List.not_mem_nil, or_false] at h
  rcases h with rfl | rfl | rfl | rfl
  · exact T.cls_Span
  · exact T.cls_Sieve
  · exact T.cls_Chain
  · exact T.cls_Tray
theorem Tx.mo_Sieve (T : Tx w K mg) : PySem.W.mroIn K (He.ga K "Sieve") (.type "object") = some true := (T.clsK.ins "Sieve" (by decide)).hm
theorem Tx.ne_Sieve (T : Tx w K mg) : PySem.W.findIn K (.ref (He.ga K "Sieve")) "__ne__" = some (some (.builtin "object.__ne__")) := T.clsK.ne "Sieve" (by decide)
theorem Tx.nfk (T : Tx w K mg) : Qx.NfK K ["Span", "Sieve", "Chain", "Tray"] := Qx.NfK.of (He.ba (He.ba (He.ba (He.ba (He.ba (He.ba (He.ba T.ex).2).2).2).2).2).2).1
theorem Tx.xk (T : Tx w K mg) : Qx.XkK K [("NoAllowance", [.own "NoAllowance", .own "FitError", .blt "ValueError", .blt "Exception", .blt "BaseException"]), ("NoMeasure", [.own "NoMeasure", .own "FitError", .blt "ValueError", .blt "Exception", .blt "BaseException"]), ("NoSieve", [.own "NoSieve", .own "FitError", .blt "ValueError", .blt "Exception", .blt "BaseException"]), ("NoSpan", [.own "NoSpan", .own "FitError", .blt "ValueError", .blt "Exception", .blt "BaseException"])] [.blt "ValueError", .own "FitError", .own "MissError", .own "NoAllowance", .own "NoDrawing", .own "NoLimits", .own "NoLine", .own "NoMeasure", .own "NoName", .own "NoNew", .own "NoOption", .own "NoPlace", .own "NoRow", .own "NoSieve", .own "NoSpan", .own "NoTray", .own "NoWants", .own "NoWord", .own "NoZeros", .own "ReadError", .own "RoomError", .own "TooLong"] [.own "FitError"] := Qx.XkK.of (He.ba (He.ba T.ex).2).1
theorem Tx.xc_NoAllowance (T : Tx w K mg) : Qx.XcF K "NoAllowance" := T.xk.c _ (List.mem_cons_self)
theorem Tx.xc_NoMeasure (T : Tx w K mg) : Qx.XcF K "NoMeasure" := T.xk.c _ (List.mem_cons_of_mem _ (List.mem_cons_self))
theorem Tx.xc_NoSieve (T : Tx w K mg) : Qx.XcF K "NoSieve" := T.xk.c _ (List.mem_cons_of_mem _ (List.mem_cons_of_mem _ (List.mem_cons_self)))
theorem Tx.xc_NoSpan (T : Tx w K mg) : Qx.XcF K "NoSpan" := T.xk.c _ (List.mem_cons_of_mem _ (List.mem_cons_of_mem _ (List.mem_cons_of_mem _ (List.mem_cons_self))))
theorem Tx.xq_NoAllowance (T : Tx w K mg) : PySem.W.excIn K (He.ga K "NoAllowance") [.type "ValueError", .type "Exception", .type "BaseException", .type "object"] "ValueError.__new__" = true := (He.ba (He.ba (He.ba T.ex).2).2).1
theorem Tx.xq_NoMeasure (T : Tx w K mg) : PySem.W.excIn K (He.ga K "NoMeasure") [.type "ValueError", .type "Exception", .type "BaseException", .type "object"] "ValueError.__new__" = true := (He.ba (He.ba (He.ba (He.ba T.ex).2).2).2).1
theorem Tx.xq_NoSieve (T : Tx w K mg) : PySem.W.excIn K (He.ga K "NoSieve") [.type "ValueError", .type "Exception", .type "BaseException", .type "object"] "ValueError.__new__" = true := (He.ba (He.ba (He.ba (He.ba (He.ba T.ex).2).2).2).2).1
theorem Tx.xq_NoSpan (T : Tx w K mg) : PySem.W.excIn K (He.ga K "NoSpan") [.type "ValueError", .type "Exception", .type "BaseException", .type "object"] "ValueError.__new__" = true := (He.ba (He.ba (He.ba (He.ba (He.ba (He.ba T.ex).2).2).2).2).2).1

end
theorem b_check_span : Gx.BdN d_check_span ["thing"] := ⟨rfl, fun _ _ _ _ _ _ us hl => match us, hl with | [_], _ => rfl⟩
theorem b_check_row : Gx.BdN d_check_row ["things"] := ⟨rfl, fun _ _ _ _ _ _ us hl => match us, hl with | [_], _ => rfl⟩
theorem b_joined : Gx.BdN d_joined ["pairs"] := ⟨rfl, fun _ _ _ _ _ _ us hl => match us, hl with | [_], _ => rfl⟩
theorem b_Chain___init__ : Gx.BdN d_Chain___init__ ["self"] := ⟨rfl, fun _ _ _ _ _ _ us hl => match us, hl with | [_], _ => rfl⟩
theorem b_Sieve___eq__ : Gx.BdN d_Sieve___eq__ ["self", "other"] := ⟨rfl, fun _ _ _ _ _ _ us hl => match us, hl with | [_, _], _ => rfl⟩
theorem b_Tray___init__ : Gx.BdN d_Tray___init__ ["self"] := ⟨rfl, fun _ _ _ _ _ _ us hl => match us, hl with | [_], _ => rfl⟩
theorem b_Chain___eq__ : Gx.BdN d_Chain___eq__ ["self", "other"] := ⟨rfl, fun _ _ _ _ _ _ us hl => match us, hl with | [_, _], _ => rfl⟩
theorem b_Tray___eq__ : Gx.BdN d_Tray___eq__ ["self", "other"] := ⟨rfl, fun _ _ _ _ _ _ us hl => match us, hl with | [_, _], _ => rfl⟩
theorem b__law_cell : Gx.BdN d__law_cell ["_law_script", "_law_k"] := ⟨rfl, fun _ _ _ _ _ _ us hl => match us, hl with | [_, _], _ => rfl⟩
theorem b__law_purse : Gx.BdN d__law_purse ["_law_cell_here"] := ⟨rfl, fun _ _ _ _ _ _ us hl => match us, hl with | [_], _ => rfl⟩
theorem b__law_take : Gx.BdN d__law_take ["_law_purse_here", "_law_many"] := ⟨rfl, fun _ _ _ _ _ _ us hl => match us, hl with | [_, _], _ => rfl⟩
theorem b__law_measure : Gx.BdN d__law_measure ["_law_purse_here"] := ⟨rfl, fun _ _ _ _ _ _ us hl => match us, hl with | [_], _ => rfl⟩
theorem b__law_allowed : Gx.BdN d__law_allowed ["_law_purse_here", "_law_wide"] := ⟨rfl, fun _ _ _ _ _ _ us hl => match us, hl with | [_, _], _ => rfl⟩
theorem b__law_row : Gx.BdN d__law_row ["_law_purse_here", "_law_many", "_law_near"] := ⟨rfl, fun _ _ _ _ _ _ us hl => match us, hl with | [_, _, _], _ => rfl⟩
theorem b_is_measure : Gx.BdN d_is_measure ["thing"] := ⟨rfl, fun _ _ _ _ _ _ us hl => match us, hl with | [_], _ => rfl⟩
theorem b_check_measure : Gx.BdN d_check_measure ["thing"] := ⟨rfl, fun _ _ _ _ _ _ us hl => match us, hl with | [_], _ => rfl⟩
theorem b_check_allowance : Gx.BdN d_check_allowance ["above", "below"] := ⟨rfl, fun _ _ _ _ _ _ us hl => match us, hl with | [_, _], _ => rfl⟩
theorem b__law_odd : Gx.BdN d__law_odd ["_law_purse_here"] := ⟨rfl, fun _ _ _ _ _ _ us hl => match us, hl with | [_], _ => rfl⟩
theorem b_check_sieve : Gx.BdN d_check_sieve ["thing"] := ⟨rfl, fun _ _ _ _ _ _ us hl => match us, hl with | [_], _ => rfl⟩
theorem b_either_of : Gx.BdN d_either_of ["runs", "others"] := ⟨rfl, fun _ _ _ _ _ _ us hl => match us, hl with | [_, _], _ => rfl⟩
theorem b_sieve_of : Gx.BdN d_sieve_of ["runs"] := ⟨rfl, fun _ _ _ _ _ _ us hl => match us, hl with | [_], _ => rfl⟩
theorem b_Sieve_either : Gx.BdN d_Sieve_either ["self", "other"] := ⟨rfl, fun _ _ _ _ _ _ us hl => match us, hl with | [_, _], _ => rfl⟩
theorem b_both_of : Gx.BdN d_both_of ["runs", "others"] := ⟨rfl, fun _ _ _ _ _ _ us hl => match us, hl with | [_, _], _ => rfl⟩
theorem b_Sieve_both : Gx.BdN d_Sieve_both ["self", "other"] := ⟨rfl, fun _ _ _ _ _ _ us hl => match us, hl with | [_, _], _ => rfl⟩
theorem b_but_of : Gx.BdN d_but_of ["runs", "others"] := ⟨rfl, fun _ _ _ _ _ _ us hl => match us, hl with | [_, _], _ => rfl⟩
theorem b_Sieve_but : Gx.BdN d_Sieve_but ["self", "other"] := ⟨rfl, fun _ _ _ _ _ _ us hl => match us, hl with | [_, _], _ => rfl⟩
theorem b_Sieve_unlike : Gx.BdN d_Sieve_unlike ["self", "other"] := ⟨rfl, fun _ _ _ _ _ _ us hl => match us, hl with | [_, _], _ => rfl⟩
theorem b_Sieve_lets : Gx.BdN d_Sieve_lets ["self", "measure"] := ⟨rfl, fun _ _ _ _ _ _ us hl => match us, hl with | [_, _], _ => rfl⟩
theorem b__law_kind_of : Gx.BdN d__law_kind_of ["_law_e"] := ⟨rfl, fun _ _ _ _ _ _ us hl => match us, hl with | [_], _ => rfl⟩
theorem b__law_asked : Gx.BdN d__law_asked ["_law_sieve", "_law_door", "_law_thing"] := ⟨rfl, fun _ _ _ _ _ _ us hl => match us, hl with | [_, _, _], _ => rfl⟩
theorem b__law_refused : Gx.BdN d__law_refused ["_law_purse_here", "_law_row_here"] := ⟨rfl, fun _ _ _ _ _ _ us hl => match us, hl with | [_, _], _ => rfl⟩
theorem b_Span___repr__ : Gx.BdN d_Span___repr__ ["self"] := ⟨rfl, fun _ _ _ _ _ _ us hl => match us, hl with | [_], _ => rfl⟩
theorem b_Sieve_stretches : Gx.BdN d_Sieve_stretches ["self"] := ⟨rfl, fun _ _ _ _ _ _ us hl => match us, hl with | [_], _ => rfl⟩
theorem b_Sieve___len__ : Gx.BdN d_Sieve___len__ ["self"] := ⟨rfl, fun _ _ _ _ _ _ us hl => match us, hl with | [_], _ => rfl⟩
theorem b__law_stays : Gx.BdN d__law_stays ["_law_purse_here", "_law_row_here"] := ⟨rfl, fun _ _ _ _ _ _ us hl => match us, hl with | [_, _], _ => rfl⟩
end Hd
namespace Qe
open PySem PySem.Spec PyProof.Rows L2
theorem funD_uniq {K : PySem.W.Frag} {x qual : Str} {params : Arguments} {body : List Stmt} {scope : Scope} {dvs : List V} {kws : List (Str × V)} {f : Addr} {fd fd' : FuncData} (F : FunD K x qual params body scope dvs kws f fd) (F' : FunD K x qual params body scope dvs kws f fd') : fd = fd' := by
  obtain ⟨oc, od, dV, kV, doc, pm, an, cdv, ct, osl, _, lk, _⟩ := F.ex
  obtain ⟨oc', od', dV', kV', doc', pm', an', cdv', ct', osl', _, lk', _⟩ := F'.ex
  rw [lk] at lk'
  have e := Option.some.inj lk'
  injection e with e1 e2 e3 e4
  injection e3
end Qe
section
open PySem PySem.W PySem.Calls PyProof.Rows
set_option maxRecDepth 100000 in
set_option maxHeartbeats 0 in
theorem Qe.end_gen (t : Qx.TabI) (et : (t.d, t.x) = Hd.d_Sieve_unlike.at_) (m : Qx.MF) (ht : ∀ {ns : List Int}, ns.length ≤ 63 → Qx.Go (m [.rol (ns.map .int)] [some (.tbl t)]) fun q _ => q = .bl true)
    (hok : ∀ {P : Program} {w : World} {K : PySem.W.Frag} {mg : PySem.Str → Option Value} {base : Heap} [Qx.TbC K mg base [t]], Hd.Tx w K mg → Gx.DOkG P w K mg base Hd.d_law L2.CX0 13 ["_law_script"] (Qx.spM K false m)) : PySem.Challenge.rw_fitwords_k37_sieves_refused.Holds := by
  w_on; o_law
  refine HandSHeadRun.head_any (r := OpenLaw.row PySem.Challenge.rw_fitwords_k37_sieves_refused) (q := view (OpenLaw.row PySem.Challenge.rw_fitwords_k37_sieves_refused).prog [75]) (H := Hd.hk) (ob := Hd.ob) (M := 20000) (loose := Hd.loose) (d := HandSHeadRun.topDef (OpenLaw.row PySem.Challenge.rw_fitwords_k37_sieves_refused).prog 75) (kwd := []) Hd.ob_eq
    (by kernel_rfl) (fun s => by kernel_rfl) Hd.run (by kernel_rfl) (by kernel_rfl) (by kernel_rfl) (by rfl) (by first | assumption | decide +kernel) (by decide +kernel) ⟨rfl, rfl, rfl, rfl, rfl, by decide +kernel⟩ ?hw ?hc
  case hw => w_witness2
  case hc =>
    refine Gx.walk_ofTG (l := PySem.Challenge.rw_fitwords_k37_sieves_refused) (n := 63) (k := 13) (x := "_law_script") (CX := fun _ => L2.CX0) rfl (by decide) (by kernel_rfl) ⟨rfl, by decide, by decide⟩ ?F (fun _ _ _ _ _ z => z)
    intro w mg fa h Y G hmg0
    obtain ⟨K, KX, c⟩ := Y
    have hmg : mg ("law" : PySem.Str) = some (.ref fa) := by
      have e : (HandSHeadRun.topDef (OpenLaw.row PySem.Challenge.rw_fitwords_k37_sieves_refused).prog 75).name = ("law" : PySem.Str) := by kernel_rfl
      rw [← e]
      exact hmg0
    have T : Hd.Tx w K mg := ⟨h, KX, G, c⟩
    have e := hmg.symm.trans T.g_law
    cases e
    obtain ⟨fd, F⟩ := T.df_law
    refine ⟨K, KX, fd, [He.cT K (t.d, t.x)], Qx.spM K false m, fun p hp => ?_, fun p hp => ?_, fun p hp => ?_, fun s u => ?_, fun H a ns hl _ hH hS => Qx.law_spC (t := t) (ht hl) (hH _ List.mem_cons_self) hS fun _ => rfl, fun base _ _ hT => ?_⟩
    · rw [List.mem_singleton.mp hp, et]; exact c.empty _ List.mem_cons_self
    · rw [List.mem_singleton.mp hp, et]; exact c.out _ List.mem_cons_self
    · rw [List.mem_singleton.mp hp, et]; exact PySem.W.codeHd_of_K KX (c.hd _ List.mem_cons_self)
    · have b := L2.FunD.bindsA (ps := ["_law_script"]) F fun _ _ _ _ _ _ us hl => match us, hl with | [_], _ => rfl
      exact b s [u] rfl
    · haveI : Qx.TbC K mg base [t] := ⟨fun u hu => by rw [List.mem_singleton.mp hu]; exact hT _ List.mem_cons_self⟩
      obtain ⟨fd', F', G'⟩ := hok (P := (PySem.Challenge.rw_fitwords_k37_sieves_refused).prog) (w := w) (base := base) T
      rw [Qe.funD_uniq F F']
      exact G'
end
namespace Qg
open PySem PySem.Spec PyProof.Rows L2 Gx Qx
def tl_Sieve_unlike : TabI := ⟨"Sieve", some "unlike", ("Sieve.unlike" : Str) ++ ".<locals>." ++ "<lambda>"⟩
def cs : List Str := ["Span", "Sieve", "Chain", "Tray"]
def xt : List (Str × List XN) := [("NoAllowance", [.own "NoAllowance", .own "FitError", .blt "ValueError", .blt "Exception", .blt "BaseException"]), ("NoMeasure", [.own "NoMeasure", .own "FitError", .blt "ValueError", .blt "Exception", .blt "BaseException"]), ("NoSieve", [.own "NoSieve", .own "FitError", .blt "ValueError", .blt "Exception", .blt "BaseException"]), ("NoSpan", [.own "NoSpan", .own "FitError", .blt "ValueError", .blt "Exception", .blt "BaseException"])]
def xa : List XN := [.blt "ValueError", .own "FitError", .own "MissError", .own "NoAllowance", .own "NoDrawing", .own "NoLimits", .own "NoLine", .own "NoMeasure", .own "NoName", .own "NoNew", .own "NoOption", .own "NoPlace", .own "NoRow", .own "NoSieve", .own "NoSpan", .own "NoTray", .own "NoWants", .own "NoWord", .own "NoZeros", .own "ReadError", .own "RoomError", .own "TooLong"]
def xm : List XN := [.own "FitError"]
def xf : List (Str × Str) := []
noncomputable def m_check_span : MF := mkDef 1 1
    (sIf (tNotP (tTst (eCB (isiP cs) (aCons (eVar 0) (aCons (eC (.cls "Span")) aNil))))) (sRaiseP "NoSpan") sSkip)
noncomputable def m_check_row : MF := mkDef 1 2
    (sSeq (sIf (tNotP (tTst (eIsT (isiTP cs) (eVar 0) (aCons (eC (.ty "list")) (aCons (eC (.ty "tuple")) aNil))))) (sRaiseP "NoSpan") sSkip)
    (sFor (iA (eVar 0)) (gNm 1) (sExp (eCall m_check_span [] (aCons (eVar 1) aNil)))))
noncomputable def m_joined : MF := mkDef 1 4
    (sSeq (sAsg (eLstO aNil) (gNm 1))
    (sSeq (sFor (iL (eCB bSort2A (aCons (eVar 0) aNil))) (gTupP 2 (gConsP (gNm 2) (gConsP (gNm 3) gNilP))) (sIf (tAndP (tTst (eOp neD (eVar 1) (eLst aNil))) (tTst (eOp leI (eVar 2) (eOp addI (eOp ixT (eOp ixL (eVar 1) (eUn negI (eC (.int 1)))) (eC (.int 1))) (eC (.int 1)))))) (sAsg (eTup (aCons (eOp ixT (eOp ixL (eVar 1) (eUn negI (eC (.int 1)))) (eC (.int 0))) (aCons (eCB bMax2 (aCons (eOp ixT (eOp ixL (eVar 1) (eUn negI (eC (.int 1)))) (eC (.int 1))) (aCons (eVar 3) aNil))) aNil))) (gSubL (eVar 1) (eUn negI (eC (.int 1))))) (sExp (eBml appendP (eVar 1) (aCons (eTup (aCons (eVar 2) (aCons (eVar 3) aNil))) aNil)))))
    (sRet (eCB bTup (aCons (eVar 1) aNil)))))
noncomputable def m_Sieve___init__ : MF := mkDef 2 3
    (sSeq (sFldP "Sieve" "runs" (eVar 0) (eTup aNil))
    (sIf (tTst (eOp notN (eVar 1) (eC .non))) (sSeq (sExp (eCall m_check_row [] (aCons (eVar 1) aNil)))
    (sFldP "Sieve" "runs" (eVar 0) (eCall (noXM m_joined) [] (aCons (eLc (iA (eVar 1)) (gNm 2) tYesP (eTup (aCons (eFld "Span" "low" (eVar 2)) (aCons (eFld "Span" "high" (eVar 2)) aNil))) [2]) aNil)))) sSkip))
noncomputable def m_Chain___init__ := mkInit 0 1
    (bFld "kept" (eLst aNil))
noncomputable def m_Sieve___eq__ : MF := mkDef 2 2
    (sRet (eAnd (eCB (isiP cs) (aCons (eVar 1) (aCons (eC (.cls "Sieve")) aNil))) (eOp eqD (eFld "Sieve" "runs" (eVar 0)) (eFld "Sieve" "runs" (eVar 1)))))
noncomputable def m_Tray___init__ : MF := mkDef 1 1
    (sFldP "Tray" "kept" (eVar 0) (eLstO aNil))
noncomputable def m_Chain___eq__ : MF := mkDef 2 2
    (sRet (eAnd (eCB (isiP cs) (aCons (eVar 1) (aCons (eC (.cls "Chain")) aNil))) (eOp eqD (eFld "Chain" "kept" (eVar 0)) (eFld "Chain" "kept" (eVar 1)))))
noncomputable def m_Tray___eq__ : MF := mkDef 2 2
    (sRet (eAnd (eCB (isiP cs) (aCons (eVar 1) (aCons (eC (.cls "Tray")) aNil))) (eOp eqD (eFld "Tray" "kept" (eVar 0)) (eFld "Tray" "kept" (eVar 1)))))
noncomputable def m__law_cell : MF := mkDef 2 2
    (sSeq (sIf (tTst (eOp ltI (eVar 1) (eCB bLen (aCons (eVar 0) aNil)))) (sRet (eOp ixL (eVar 0) (eVar 1))) sSkip)
    (sRet (eOp addI (eOp addI (eOp mulI (eCB bSum (aCons (eSl slL (eVar 0) oNo (oSo (eC (.int 3)))) aNil)) (eC (.int 6007))) (eOp mulI (eC (.int 130003)) (eOp addI (eVar 1) (eC (.int 1))))) (eC (.int 29)))))
noncomputable def m__law_purse : MF := mkDef 1 2
    (sSeq (sAsg (eC (.int 0)) (gNm 1))
    (sSeq (sIf (tOrP (tTst (eOp ltI (eVar 0) (eC (.int 0)))) (tTst (eOp geI (eVar 0) (eOp powI (eC (.int 10)) (eC (.int 18)))))) (sAsg (eCB bAbs (aCons (eVar 0) aNil)) (gNm 1)) sSkip)
    (sRet (eLstO (aCons (eOp modI (eVar 0) (eC (.int 2147483399))) (aCons (eVar 1) (aCons (eC (.int 0)) aNil)))))))
noncomputable def m__law_take : MF := mkDef 2 4
    (sSeq (sAsg (eOp addI (eOp ixL (eVar 0) (eC (.int 2))) (eC (.int 1))) (gSubL (eVar 0) (eC (.int 2))))
    (sSeq (sAsg (eOp ixL (eVar 0) (eC (.int 0))) (gNm 2))
    (sSeq (sAsg (eOp modI (eOp addI (eOp addI (eOp mulI (eVar 2) (eOp addI (eOp modI (eVar 2) (eC (.int 43591))) (eC (.int 17011)))) (eOp mulI (eC (.int 88811)) (eOp ixL (eVar 0) (eC (.int 2))))) (eC (.int 7))) (eC (.int 2147483399))) (gSubL (eVar 0) (eC (.int 0))))
    (sSeq (sIf (tTst (eOp gtI (eOp ixL (eVar 0) (eC (.int 1))) (eC (.int 0)))) (sSeq (sAsg (eOp modI (eOp ixL (eVar 0) (eC (.int 1))) (eVar 1)) (gNm 3))
    (sSeq (sAsg (eOp fdivI (eOp ixL (eVar 0) (eC (.int 1))) (eVar 1)) (gSubL (eVar 0) (eC (.int 1))))
    (sRet (eVar 3)))) sSkip)
    (sRet (eOp modI (eOp fdivI (eOp ixL (eVar 0) (eC (.int 0))) (eC (.int 32))) (eVar 1)))))))
noncomputable def m__law_measure : MF := mkDef 1 2
    (sSeq (sAsg (eOp ixL (eLst (aCons (eC (.int 9)) (aCons (eC (.int 130)) (aCons (eC (.int 6399)) (aCons (eC (.int 990000)) aNil))))) (eCall m__law_take [] (aCons (eVar 0) (aCons (eC (.int 4)) aNil)))) (gNm 1))
    (sRet (eOp subI (eCall m__law_take [] (aCons (eVar 0) (aCons (eOp addI (eOp mulI (eC (.int 2)) (eVar 1)) (eC (.int 1))) aNil))) (eVar 1))))
noncomputable def m__law_allowed : MF := mkDef 2 5
    (sSeq (sAsg (eCall m__law_take [] (aCons (eVar 0) (aCons (eOp ixL (eLst (aCons (eC (.int 1)) (aCons (eC (.int 4)) (aCons (eOp addI (eVar 1) (eC (.int 1))) aNil)))) (eCall m__law_take [] (aCons (eVar 0) (aCons (eC (.int 3)) aNil)))) aNil))) (gNm 2))
    (sSeq (sAsg (eCall m__law_take [] (aCons (eVar 0) (aCons (eC (.int 5)) aNil))) (gNm 3))
    (sSeq (sAsg (eOp ixL (eLst (aCons (eVar 2) (aCons (eC (.int 0)) (aCons (eCall m__law_take [] (aCons (eVar 0) (aCons (eOp addI (eVar 2) (eC (.int 1))) aNil))) (aCons (eOp subI (eC (.int 0)) (eCall m__law_take [] (aCons (eVar 0) (aCons (eC (.int 40)) aNil)))) (aCons (eOp addI (eVar 2) (eCall m__law_take [] (aCons (eVar 0) (aCons (eC (.int 40)) aNil)))) aNil)))))) (eVar 3)) (gNm 4))
    (sRet (eTup (aCons (eVar 4) (aCons (eOp subI (eVar 2) (eVar 4)) aNil)))))))
noncomputable def m__law_row : MF := mkDef 3 7
    (sSeq (sAsg (eLstO aNil) (gNm 3))
    (sSeq (sFor (iR1 (aCons (eVar 1) aNil)) (gNm 4) (sSeq (sPar 5 6 (aCons (eCall m__law_measure [] (aCons (eVar 0) aNil)) (aCons (eCall m__law_allowed [] (aCons (eVar 0) (aCons (eC (.int 900)) aNil))) aNil)))
    (sSeq (sIf (tTst (eVar 2)) (sPar 5 6 (aCons (eOp subI (eCall m__law_take [] (aCons (eVar 0) (aCons (eC (.int 41)) aNil))) (eC (.int 20))) (aCons (eCall m__law_allowed [] (aCons (eVar 0) (aCons (eC (.int 6)) aNil))) aNil))) sSkip)
    (sExp (eBml appendP (eVar 3) (aCons (eOp catA (eTup (aCons (eVar 5) aNil)) (eVar 6)) aNil))))))
    (sRet (eFrz (eVar 3)))))
noncomputable def m_is_measure : MF := mkDef 1 1
    (sRet (eAnd (eCB (isiP cs) (aCons (eVar 0) (aCons (eC (.ty "int")) aNil))) (eNot (eCB (isiP cs) (aCons (eVar 0) (aCons (eC (.ty "bool")) aNil))))))
noncomputable def m_check_measure : MF := mkDef 1 1
    (sIf (tNotP (tTst (eCall (noXM m_is_measure) [] (aCons (eVar 0) aNil)))) (sRaiseP "NoMeasure") sSkip)
noncomputable def m_check_allowance : MF := mkDef 2 2
    (sIf (tOrP (tNotP (tTst (eCall (noXM m_is_measure) [] (aCons (eVar 0) aNil)))) (tOrP (tNotP (tTst (eCall (noXM m_is_measure) [] (aCons (eVar 1) aNil)))) (tTst (eOp ltI (eOp addI (eVar 0) (eVar 1)) (eC (.int 0)))))) (sRaiseP "NoAllowance") sSkip)
noncomputable def m_Span___init__ := mkInit 3 4
    (bSeq (bExp (eCall m_check_measure [] (aCons (eVar 1) aNil)))
    (bSeq (bExp (eCall m_check_allowance [] (aCons (eVar 2) (aCons (eVar 3) aNil))))
    (bSeq (bFld "size" (eVar 1))
    (bSeq (bFld "above" (eVar 2))
    (bSeq (bFld "below" (eVar 3))
    (bSeq (bFld "low" (eOp subI (eVar 1) (eVar 3)))
    (bFld "high" (eOp addI (eVar 1) (eVar 2)))))))))
noncomputable def m__law_odd : MF := mkDef 1 2
    (sSeq (sAsg (eLst (aCons (eTup (aCons (eC (.int 5)) (aCons (eC (.int 1)) (aCons (eC (.int 1)) aNil)))) (aCons (eC (.int 5)) (aCons (eC (.str "5")) (aCons (eC (.bl true)) (aCons (eLst aNil) (aCons (eTup aNil) (aCons eDic0 (aCons (eC .non) (aCons (eTup (aCons (eLst aNil) aNil)) (aCons (eLst (aCons (eC (.int 5)) aNil)) (aCons (eFrz (eMakeOX "Sieve" m_Sieve___init__ [.non] aNil)) aNil)))))))))))) (gNm 1))
    (sRet (eOp ixL (eVar 1) (eCall m__law_take [] (aCons (eVar 0) (aCons (eC (.int 11)) aNil))))))
noncomputable def m_check_sieve : MF := mkDef 1 1
    (sIf (tNotP (tTst (eCB (isiP cs) (aCons (eVar 0) (aCons (eC (.cls "Sieve")) aNil))))) (sRaiseP "NoSieve") sSkip)
noncomputable def m_either_of : MF := mkDef 2 2
    (sRet (eCall m_joined [] (aCons (eOp catA (eVar 0) (eVar 1)) aNil)))
noncomputable def m_sieve_of : MF := mkDef 1 3
    (sRet (eFrz (eMakeOX "Sieve" m_Sieve___init__ [] (aCons (eLc (iT (eVar 0)) (gTupP 2 (gConsP (gNm 1) (gConsP (gNm 2) gNilP))) tYesP (eMakeK "Span" m_Span___init__ 1 1 (fun us ws => us ++ (ws.drop 0).take 1 ++ ([.int (0)] : List PV)) (aCons (eVar 1) aNil) (aCons (eOp subI (eVar 2) (eVar 1)) aNil)) [1, 2]) aNil))))
noncomputable def m_Sieve_either : MF := mkDef 2 2
    (sSeq (sExp (eCall m_check_sieve [] (aCons (eVar 1) aNil)))
    (sRet (eCall m_sieve_of [] (aCons (eCall (noXM m_either_of) [] (aCons (eFld "Sieve" "runs" (eVar 0)) (aCons (eFld "Sieve" "runs" (eVar 1)) aNil))) aNil))))
noncomputable def m_both_of : MF := mkDef 2 7
    (sSeq (sAsg (eLstO aNil) (gNm 2))
    (sSeq (sFor (iT (eVar 0)) (gTupP 2 (gConsP (gNm 3) (gConsP (gNm 4) gNilP))) (sFor (iT (eVar 1)) (gTupP 2 (gConsP (gNm 5) (gConsP (gNm 6) gNilP))) (sIf (tTst (eOp leI (eCB bMax2 (aCons (eVar 3) (aCons (eVar 5) aNil))) (eCB bMin2 (aCons (eVar 4) (aCons (eVar 6) aNil))))) (sExp (eBml appendP (eVar 2) (aCons (eTup (aCons (eCB bMax2 (aCons (eVar 3) (aCons (eVar 5) aNil))) (aCons (eCB bMin2 (aCons (eVar 4) (aCons (eVar 6) aNil))) aNil))) aNil))) sSkip)))
    (sRet (eCall m_joined [] (aCons (eVar 2) aNil)))))
noncomputable def m_Sieve_both : MF := mkDef 2 2
    (sSeq (sExp (eCall m_check_sieve [] (aCons (eVar 1) aNil)))
    (sRet (eCall m_sieve_of [] (aCons (eCall (noXM m_both_of) [] (aCons (eFld "Sieve" "runs" (eVar 0)) (aCons (eFld "Sieve" "runs" (eVar 1)) aNil))) aNil))))
noncomputable def m_but_of : MF := mkDef 2 8
    (sSeq (sAsg (eLstO aNil) (gNm 2))
    (sSeq (sFor (iT (eVar 0)) (gTupP 2 (gConsP (gNm 3) (gConsP (gNm 4) gNilP))) (sSeq (sAsg (eVar 3) (gNm 5))
    (sSeq (sFor (iT (eVar 1)) (gTupP 2 (gConsP (gNm 6) (gConsP (gNm 7) gNilP))) (sIf (tAndP (tTst (eOp leI (eVar 5) (eVar 7))) (tTst (eOp leI (eVar 6) (eVar 4)))) (sSeq (sIf (tTst (eOp ltI (eVar 5) (eVar 6))) (sExp (eBml appendP (eVar 2) (aCons (eTup (aCons (eVar 5) (aCons (eOp subI (eVar 6) (eC (.int 1))) aNil))) aNil))) sSkip)
    (sAsg (eOp addI (eVar 7) (eC (.int 1))) (gNm 5))) sSkip))
    (sIf (tTst (eOp leI (eVar 5) (eVar 4))) (sExp (eBml appendP (eVar 2) (aCons (eTup (aCons (eVar 5) (aCons (eVar 4) aNil))) aNil))) sSkip))))
    (sRet (eCB bTup (aCons (eVar 2) aNil)))))
noncomputable def m_Sieve_but : MF := mkDef 2 2
    (sSeq (sExp (eCall m_check_sieve [] (aCons (eVar 1) aNil)))
    (sRet (eCall m_sieve_of [] (aCons (eCall (noXM m_but_of) [] (aCons (eFld "Sieve" "runs" (eVar 0)) (aCons (eFld "Sieve" "runs" (eVar 1)) aNil))) aNil))))
noncomputable def m_Sieve_unlike : MF := mkDef 2 4
    (sSeq (sExp (eCall m_check_sieve [] (aCons (eVar 1) aNil)))
    (sSeq (sAsg (eLcO (iT (eSl slTA (eCall (noXM m_but_of) [] (aCons (eFld "Sieve" "runs" (eVar 0)) (aCons (eFld "Sieve" "runs" (eVar 1)) aNil))) oNo (oSo (eC (.int 1))))) (gNm 3) tYesP (eTup (aCons (eC (.str "one")) (aCons (eOp ixT (eVar 3) (eC (.int 0))) aNil))) [3]) (gNm 2))
    (sSeq (sExp (eBml extendP (eVar 2) (aCons (eLc (iT (eSl slTA (eCall (noXM m_but_of) [] (aCons (eFld "Sieve" "runs" (eVar 1)) (aCons (eFld "Sieve" "runs" (eVar 0)) aNil))) oNo (oSo (eC (.int 1))))) (gNm 3) tYesP (eTup (aCons (eC (.str "other")) (aCons (eOp ixT (eVar 3) (eC (.int 0))) aNil))) [3]) aNil)))
    (sRet (eCB (bMinKey 0 tl_Sieve_unlike) (aCons (eVar 2) aNil))))))
noncomputable def m_Sieve_lets : MF := mkDef 2 4
    (sSeq (sExp (eCall m_check_measure [] (aCons (eVar 1) aNil)))
    (sRet (eCB bAny (aCons (eLc (iT (eFld "Sieve" "runs" (eVar 0))) (gTupP 2 (gConsP (gNm 2) (gConsP (gNm 3) gNilP))) tYesP (eChain leI leI (eVar 2) (eVar 1) (eVar 3)) [2, 3]) aNil))))
noncomputable def m__law_kind_of : MF := mkDef 1 2
    (sSeq (sAsg (eLst (aCons (eCB (isxP xt xa) (aCons (eVar 0) (aCons (eC (.cls "NoSpan")) aNil))) (aCons (eCB (isxP xt xa) (aCons (eVar 0) (aCons (eC (.cls "NoSieve")) aNil))) (aCons (eCB (isxP xt xa) (aCons (eVar 0) (aCons (eC (.cls "NoMeasure")) aNil))) aNil)))) (gNm 1))
    (sSeq (sIf (tTst (eIsT (isxTP xt xa) (eVar 0) (aCons (eC (.cls "NoAllowance")) (aCons (eC (.cls "NoDrawing")) (aCons (eC (.cls "NoLimits")) (aCons (eC (.cls "NoLine")) (aCons (eC (.cls "NoName")) (aCons (eC (.cls "NoNew")) (aCons (eC (.cls "NoOption")) aNil))))))))) (sRet (eOp subI (eC (.int 0)) (eC (.int 1)))) sSkip)
    (sSeq (sIf (tTst (eIsT (isxTP xt xa) (eVar 0) (aCons (eC (.cls "NoPlace")) (aCons (eC (.cls "NoRow")) (aCons (eC (.cls "NoTray")) (aCons (eC (.cls "NoWants")) (aCons (eC (.cls "NoWord")) (aCons (eC (.cls "NoZeros")) (aCons (eC (.cls "TooLong")) aNil))))))))) (sRet (eOp subI (eC (.int 0)) (eC (.int 1)))) sSkip)
    (sSeq (sIf (tOrP (tTst (eOp neS (eBml countP (eVar 1) (aCons (eC (.bl true)) aNil)) (eC (.int 1)))) (tOrP (tNotP (tTst (eCB (isxP xt xa) (aCons (eVar 0) (aCons (eC (.cls "FitError")) aNil))))) (tTst (eIsT (isxTP xt xa) (eVar 0) (aCons (eC (.cls "MissError")) (aCons (eC (.cls "RoomError")) (aCons (eC (.cls "ReadError")) aNil))))))) (sRet (eOp subI (eC (.int 0)) (eC (.int 1)))) sSkip)
    (sRet (eBml indexP (eVar 1) (aCons (eC (.bl true)) aNil)))))))
noncomputable def m__law_asked : MF := mkDef 3 5
    (sSeq (sAsg (eC .non) (gNm 3))
    (sSeq (sTryAs 4 (cmX xt (.own "FitError")) (sIf (tTst (eOp eqS (eVar 1) (eC (.int 0)))) (sExp (eFrz (eMakeOX "Sieve" m_Sieve___init__ [] (aCons (eVar 2) aNil)))) (sIf (tTst (eOp eqS (eVar 1) (eC (.int 1)))) (sExp (eMeth "Sieve" "either" m_Sieve_either [] (eVar 0) (aCons (eVar 2) aNil))) (sIf (tTst (eOp eqS (eVar 1) (eC (.int 2)))) (sExp (eMeth "Sieve" "both" m_Sieve_both [] (eVar 0) (aCons (eVar 2) aNil))) (sIf (tTst (eOp eqS (eVar 1) (eC (.int 3)))) (sExp (eMeth "Sieve" "but" m_Sieve_but [] (eVar 0) (aCons (eVar 2) aNil))) (sIf (tTst (eOp eqS (eVar 1) (eC (.int 4)))) (sExp (eMeth "Sieve" "unlike" m_Sieve_unlike [] (eVar 0) (aCons (eVar 2) aNil))) (sExp (eMeth "Sieve" "lets" m_Sieve_lets [] (eVar 0) (aCons (eVar 2) aNil))))))))
      (sAsg (eVar 4) (gNm 3)))
    (sSeq (sIf (tOrP (tTst (eOp isN (eVar 3) (eC .non))) (tNotP (tTst (eCB (isxP xt xa) (aCons (eVar 3) (aCons (eC (.ty "ValueError")) aNil)))))) (sRet (eC (.str "told"))) sSkip)
    (sRet (eCall m__law_kind_of [] (aCons (eVar 3) aNil))))))
noncomputable def m__law_refused : MF := mkDef 2 13
    (sSeq (sAsg (eLc (iL (eVar 1)) (gTupP 3 (gConsP (gNm 9) (gConsP (gNm 10) (gConsP (gNm 11) gNilP)))) tYesP (eMake "Span" m_Span___init__ [] (aCons (eVar 9) (aCons (eVar 10) (aCons (eVar 11) aNil)))) [9, 10, 11]) (gNm 2))
    (sSeq (sAsg (eFrz (eMakeOX "Sieve" m_Sieve___init__ [] (aCons (eVar 2) aNil))) (gNm 3))
    (sSeq (sPar 7 8 (aCons (eCall m__law_take [] (aCons (eVar 0) (aCons (eCB bLen (aCons (eVar 1) aNil)) aNil))) (aCons (eCall m__law_take [] (aCons (eVar 0) (aCons (eC (.int 6)) aNil))) aNil)))
    (sSeq (sAsg (eCall m__law_odd [] (aCons (eVar 0) aNil)) (gNm 4))
    (sSeq (sAsg (eOp catL (eOp catL (eSl slL (eVar 2) oNo (oSo (eVar 7))) (eLst (aCons (eVar 4) aNil))) (eSl slL (eVar 2) (oSo (eOp addI (eVar 7) (eOp ixL (eLst (aCons (eC (.int 0)) (aCons (eC (.int 1)) aNil))) (eCall m__law_take [] (aCons (eVar 0) (aCons (eC (.int 2)) aNil)))))) oNo)) (gNm 5))
    (sSeq (sIf (tTst (eOp neS (eCall m__law_asked [] (aCons (eVar 3) (aCons (eC (.int 0)) (aCons (eOp ixL (eLst (aCons (eVar 5) (aCons (eCB bTup (aCons (eVar 5) aNil)) aNil))) (eCall m__law_take [] (aCons (eVar 0) (aCons (eC (.int 2)) aNil)))) aNil)))) (eC (.int 0)))) (sRet (eC (.bl false))) sSkip)
    (sSeq (sIf (tTst (eOp neS (eCall m__law_asked [] (aCons (eVar 3) (aCons (eC (.int 0)) (aCons (eOp ixL (eLst (aCons (eC (.int 5)) (aCons (eC (.str "5")) (aCons (eC (.bl true)) (aCons eDic0 (aCons (eOp ixL (eVar 2) (eC (.int 0))) (aCons (eVar 3) aNil))))))) (eVar 8)) aNil)))) (eC (.int 0)))) (sRet (eC (.bl false))) sSkip)
    (sSeq (sAsg (eOp ixL (eLst (aCons (eC (.int 5)) (aCons (eC (.str "5")) (aCons (eC (.bl true)) (aCons eDic0 (aCons (eLst aNil) (aCons (eTup aNil) (aCons (eC .non) (aCons (eOp ixL (eVar 2) (eC (.int 0))) (aCons (eVar 2) (aCons (eTup (aCons (eLst aNil) aNil)) aNil))))))))))) (eCall m__law_take [] (aCons (eVar 0) (aCons (eC (.int 10)) aNil)))) (gNm 6))
    (sSeq (sIf (tTst (eOp neD (eLc (iT (eTup (aCons (eC (.int 1)) (aCons (eC (.int 2)) (aCons (eC (.int 3)) (aCons (eC (.int 4)) aNil)))))) (gNm 12) tYesP (eCall m__law_asked [] (aCons (eVar 3) (aCons (eVar 12) (aCons (eVar 6) aNil)))) [12]) (eLst (aCons (eC (.int 1)) (aCons (eC (.int 1)) (aCons (eC (.int 1)) (aCons (eC (.int 1)) aNil))))))) (sRet (eC (.bl false))) sSkip)
    (sSeq (sAsg (eOp ixL (eLst (aCons (eC (.str "5")) (aCons (eC (.bl true)) (aCons (eC (.bl false)) (aCons (eC .non) (aCons (eLst aNil) (aCons (eLst (aCons (eC (.int 5)) aNil)) (aCons (eTup (aCons (eC (.int 5)) aNil)) (aCons eDic0 (aCons (eTup (aCons (eLst aNil) aNil)) (aCons (eOp ixL (eVar 2) (eC (.int 0))) aNil))))))))))) (eCall m__law_take [] (aCons (eVar 0) (aCons (eC (.int 10)) aNil)))) (gNm 6))
    (sRet (eAnd (eOp eqS (eCall m__law_asked [] (aCons (eVar 3) (aCons (eC (.int 5)) (aCons (eVar 6) aNil)))) (eC (.int 2))) (eOp (oeqP "Sieve" m_Sieve___eq__) (eVar 3) (eFrz (eMakeOX "Sieve" m_Sieve___init__ [] (aCons (eVar 2) aNil))))))))))))))))
noncomputable def m_Span___repr__ : MF := mkDef 1 1
    (sRet (eJs [(eC (.str "Span(")), (eFmt (eFld "Span" "size" (eVar 0))), (eC (.str ", above=")), (eFmt (eFld "Span" "above" (eVar 0))), (eC (.str ", below=")), (eFmt (eFld "Span" "below" (eVar 0))), (eC (.str ")"))]))
noncomputable def m_Sieve_stretches : MF := mkDef 1 3
    (sRet (eCB bTup (aCons (eLc (iT (eFld "Sieve" "runs" (eVar 0))) (gTupP 2 (gConsP (gNm 1) (gConsP (gNm 2) gNilP))) tYesP (eMakeK "Span" m_Span___init__ 1 1 (fun us ws => us ++ (ws.drop 0).take 1 ++ ([.int (0)] : List PV)) (aCons (eVar 1) aNil) (aCons (eOp subI (eVar 2) (eVar 1)) aNil)) [1, 2]) aNil)))
noncomputable def m_Sieve___len__ : MF := mkDef 1 1
    (sRet (eCB bLen (aCons (eFld "Sieve" "runs" (eVar 0)) aNil)))
noncomputable def m__law_stays : MF := mkDef 2 15
    (sSeq (sAsg (eLc (iL (eVar 1)) (gTupP 3 (gConsP (gNm 11) (gConsP (gNm 12) (gConsP (gNm 13) gNilP)))) tYesP (eMake "Span" m_Span___init__ [] (aCons (eVar 11) (aCons (eVar 12) (aCons (eVar 13) aNil)))) [11, 12, 13]) (gNm 2))
    (sSeq (sFor (iL (eLst (aCons (eVar 2) (aCons (eRevLs (eVar 2)) (aCons (eLst (aCons (eMake "Span" m_Span___init__ [.int (0), .int (0)] (aCons (eC (.int 9)) aNil)) (aCons (eMake "Span" m_Span___init__ [.int (0), .int (0)] (aCons (eC (.int 1)) aNil)) (aCons (eMake "Span" m_Span___init__ [.int (0), .int (0)] (aCons (eC (.int 5)) aNil)) aNil)))) aNil))))) (gNm 3) (sSeq (sPar 9 10 (aCons (eCB bLst (aCons (eVar 3) aNil)) (aCons (eCB (bReprO [("Span", m_Span___repr__)]) (aCons (eVar 3) aNil)) aNil)))
    (sIf (tOrP (tTst (eOp (oneP "Sieve" m_Sieve___eq__) (eFrz (eMakeOX "Sieve" m_Sieve___init__ [] (aCons (eVar 9) aNil))) (eFrz (eMakeOX "Sieve" m_Sieve___init__ [] (aCons (eCB bTup (aCons (eVar 3) aNil)) aNil))))) (tTst (eOp neS (eCB (bReprO [("Span", m_Span___repr__)]) (aCons (eVar 9) aNil)) (eVar 10)))) (sRet (eC (.bl false))) sSkip)))
    (sSeq (sAsg (eCB bLstO (aCons (eVar 2) aNil)) (gNm 4))
    (sSeq (sAsg (eFrz (eMakeOX "Sieve" m_Sieve___init__ [] (aCons (eVar 4) aNil))) (gNm 5))
    (sSeq (sPar 7 8 (aCons (eMeth "Sieve" "stretches" m_Sieve_stretches [] (eVar 5) aNil) (aCons (eCB (bReprO [("Span", m_Span___repr__)]) (aCons (eMeth "Sieve" "stretches" m_Sieve_stretches [] (eVar 5) aNil) aNil)) aNil)))
    (sSeq (sExp (eBml appendP (eVar 4) (aCons (eMake "Span" m_Span___init__ [.int (0)] (aCons (eC (.int 7)) (aCons (eC (.int 3)) aNil))) aNil)))
    (sSeq (sExp (eBml popAtP (eVar 4) (aCons (eC (.int 0)) aNil)))
    (sSeq (sAsg (eMethK "Sieve" "either" m_Sieve_either 1 1 (fun us ws => us ++ (ws.drop 0).take 1) (eVar 5) aNil (aCons (eFrz (eMakeOX "Sieve" m_Sieve___init__ [] (aCons (eVar 4) aNil))) aNil)) (gNm 6))
    (sSeq (sIf (tOrP (tTst (eOp (oneP "Sieve" m_Sieve___eq__) (eMethK "Sieve" "but" m_Sieve_but 1 1 (fun us ws => us ++ (ws.drop 0).take 1) (eVar 5) aNil (aCons (eVar 6) aNil)) (eFrz (eMakeOX "Sieve" m_Sieve___init__ [.non] aNil)))) (tOrP (tTst (eOp (oneP "Sieve" m_Sieve___eq__) (eMethK "Sieve" "both" m_Sieve_both 1 1 (fun us ws => us ++ (ws.drop 0).take 1) (eVar 5) aNil (aCons (eVar 6) aNil)) (eVar 5))) (tTst (eOp notN (eMethK "Sieve" "unlike" m_Sieve_unlike 1 1 (fun us ws => us ++ (ws.drop 0).take 1) (eVar 5) aNil (aCons (eVar 5) aNil)) (eC .non))))) (sRet (eC (.bl false))) sSkip)
    (sSeq (sIf (tTst (eOp neD (eLst (aCons (eMethK "Sieve" "lets" m_Sieve_lets 1 1 (fun us ws => us ++ (ws.drop 0).take 1) (eVar 5) aNil (aCons (eC (.int 1)) aNil)) (aCons (eMeth "Sieve" "lets" m_Sieve_lets [] (eVar 5) (aCons (eC (.int 0)) aNil)) aNil))) (eLst (aCons (eMeth "Sieve" "lets" m_Sieve_lets [] (eVar 5) (aCons (eC (.int 1)) aNil)) (aCons (eMethK "Sieve" "lets" m_Sieve_lets 1 1 (fun us ws => us ++ (ws.drop 0).take 1) (eVar 5) aNil (aCons (eC (.int 0)) aNil)) aNil))))) (sRet (eC (.bl false))) sSkip)
    (sSeq (sIf (tTst (eOp neD (eLc (iT (eTup (aCons (eC (.bl true)) (aCons (eC (.bl false)) aNil)))) (gNm 14) tYesP (eCall m__law_asked [] (aCons (eVar 5) (aCons (eC (.int 5)) (aCons (eVar 14) aNil)))) [14]) (eLst (aCons (eC (.int 2)) (aCons (eC (.int 2)) aNil))))) (sRet (eC (.bl false))) sSkip)
    (sSeq (sIf (tOrP (tTst (eOp neS (eCB (bReprO [("Span", m_Span___repr__)]) (aCons (eVar 7) aNil)) (eVar 8))) (tOrP (tTst (eOp neS (eCB (bReprO [("Span", m_Span___repr__)]) (aCons (eMeth "Sieve" "stretches" m_Sieve_stretches [] (eVar 5) aNil) aNil)) (eVar 8))) (tOrP (tTst (eOp (oneP "Sieve" m_Sieve___eq__) (eVar 5) (eFrz (eMakeOX "Sieve" m_Sieve___init__ [] (aCons (eVar 2) aNil))))) (tTst (eOp (oeqA cs "Sieve" m_Sieve___eq__) (eVar 5) (eC (.int 5))))))) (sRet (eC (.bl false))) sSkip)
    (sSeq (sIf (tTst (eCB bAny (aCons (eLc (iT (eTup (aCons (eVar 7) (aCons (eVar 2) (aCons (eVar 8) (aCons (eC .non) (aCons (eCB (olenP "Sieve" m_Sieve___len__) (aCons (eVar 5) aNil)) (aCons (eOp ixL (eVar 2) (eC (.int 0))) aNil)))))))) (gNm 14) tYesP (eOp (oeqA cs "Sieve" m_Sieve___eq__) (eVar 5) (eVar 14)) [14]) aNil))) (sRet (eC (.bl false))) sSkip)
    (sRet (eAnd (eOp (oneA cs "Sieve" m_Sieve___eq__) (eVar 5) (eVar 7)) (eAnd (eMeth "Sieve" "lets" m_Sieve_lets [] (eVar 6) (aCons (eC (.int 7)) aNil)) (eOp (oeqP "Sieve" m_Sieve___eq__) (eVar 6) (eFrz (eMakeOX "Sieve" m_Sieve___init__ [] (aCons (eOp catL (eVar 2) (eVar 4)) aNil))))))))))))))))))))
noncomputable def m_law : MF := mkDef 1 5
    (sSeq (sIf (tOrP (tTst (eOp (oeqA cs "Sieve" m_Sieve___eq__) (eFrz (eMakeOX "Sieve" m_Sieve___init__ [.non] aNil)) (eMake "Chain" m_Chain___init__ [] aNil))) (tOrP (tTst (eOp (oeqA cs "Sieve" m_Sieve___eq__) (eFrz (eMakeOX "Sieve" m_Sieve___init__ [.non] aNil)) (eMakeO "Tray" m_Tray___init__ [] aNil))) (tOrP (tTst (eOp (oeqA cs "Chain" m_Chain___eq__) (eMake "Chain" m_Chain___init__ [] aNil) (eMakeO "Tray" m_Tray___init__ [] aNil))) (tOrP (tTst (eOp (oeqA cs "Tray" m_Tray___eq__) (eMakeO "Tray" m_Tray___init__ [] aNil) (eMake "Chain" m_Chain___init__ [] aNil))) (tTst (eOp (oeqA cs "Chain" m_Chain___eq__) (eMake "Chain" m_Chain___init__ [] aNil) (eFrz (eMakeOX "Sieve" m_Sieve___init__ [.non] aNil)))))))) (sRet (eC (.bl false))) sSkip)
    (sSeq (sFor (iR1 (aCons (eCB bMax2 (aCons (eC (.int 1)) (aCons (eCB bMin2 (aCons (eCB bLen (aCons (eVar 0) aNil)) (aCons (eC (.int 5)) aNil))) aNil))) aNil)) (gNm 1) (sSeq (sAsg (eCall m__law_purse [] (aCons (eCall m__law_cell [] (aCons (eVar 0) (aCons (eVar 1) aNil))) aNil)) (gNm 2))
    (sSeq (sAsg (eOp eqS (eCall m__law_take [] (aCons (eVar 2) (aCons (eC (.int 2)) aNil))) (eC (.int 0))) (gNm 3))
    (sSeq (sAsg (eCall m__law_row [] (aCons (eVar 2) (aCons (eOp addI (eC (.int 1)) (eCall m__law_take [] (aCons (eVar 2) (aCons (eC (.int 5)) aNil)))) (aCons (eVar 3) aNil)))) (gNm 4))
    (sIf (tOrP (tNotP (tTst (eCall m__law_refused [] (aCons (eVar 2) (aCons (eVar 4) aNil))))) (tNotP (tTst (eCall m__law_stays [] (aCons (eVar 2) (aCons (eVar 4) aNil)))))) (sRet (eC (.bl false))) sSkip)))))
    (sRet (eC (.bl true)))))
/-! ### the walk of a mirror -/
set_option hygiene false in
local macro_rules | `(tactic| walk_at "c0") => `(tactic| first
  | ((with_reducible refine' go_var ?e ?_); (case e => exact rfl))
  | with_reducible refine go_c ?_
  | with_reducible refine go_op ?_
  | with_reducible refine go_cons ?_
  | with_reducible refine go_nil ?_
  | with_reducible refine go_call0 ?_
  | with_reducible refine go_call ?_
  | ((with_reducible refine' g_m ?e ?_); (case e => (simp only [List.drop_zero, List.drop_succ_cons, List.take_succ_cons, List.take_zero, List.take_nil, List.drop_nil, List.nil_append, List.cons_append, List.append_nil, List.singleton_append]; exact rfl)))
  | ((with_reducible refine' g_mk ?e ?_); (case e => (simp only [List.drop_zero, List.drop_succ_cons, List.take_succ_cons, List.take_zero, List.take_nil, List.drop_nil, List.nil_append, List.cons_append, List.append_nil, List.singleton_append]; exact rfl)))
  | with_reducible refine go_addI ?_
  | with_reducible refine go_subI ?_
  | with_reducible refine go_seq ?_
  | with_reducible refine go_asg ?_
  | ((with_reducible refine' go_nm ?e ?_); (case e => (simp only [List.set_cons_succ, List.set_cons_zero]; exact rfl)))
  | with_reducible refine go_ret ?_
  | with_reducible refine go_ifS ?_
  | with_reducible refine go_skip ?_
  | with_reducible refine go_tst ?_
  | with_reducible refine g_b ?_
  | with_reducible refine go_tnot ?_
  | with_reducible refine go_tor ?_
  | with_reducible refine go_tand ?_
  | with_reducible refine go_tup ?_
  | ((with_reducible refine' g_tup0 ?e ?_); (case e => exact rfl))
  | ((with_reducible refine' go_ixT ?e ?_); (case e => exact rfl))
  | ((with_reducible refine' go_ixL ?e ?e2 ?_); (case e => first | exact rfl | (apply lst_loc; assumption) | exact lst_loc get_app); (case e2 => exact rfl))
  | with_reducible refine go_fld ?_
  | ((with_reducible refine' g_fld ?e ?e2 ?_); (case e => first | exact rfl | (apply ins_loc; assumption)); (case e2 => exact rfl))
  | with_reducible refine go_meth ?_
  | with_reducible refine go_methK ?_
  | ((with_reducible refine' g_meth ?e ?e2 ?_); (case e => first | exact rfl | (apply ins_loc; assumption)); (case e2 => exact rfl))
  | with_reducible refine go_bind ?_
  | with_reducible refine go_make ?_
  | with_reducible refine go_makeO ?_
  | ((with_reducible refine' g_mo ?e ?_); (case e => (simp only [List.drop_zero, List.drop_succ_cons, List.take_succ_cons, List.take_zero, List.take_nil, List.drop_nil, List.nil_append, List.cons_append, List.append_nil, List.singleton_append]; exact rfl)))
  | with_reducible refine go_fldS ?_
  | with_reducible refine go_frz ?_
  | with_reducible refine go_bml ?_
  | ((with_reducible refine' g_and ?h ?_); (case h => (apply some_loc; assumption)))
  | with_reducible refine go_makeK ?_
  | with_reducible refine go_callK ?_
  | ((with_reducible refine' g_and ?h ?_); (case h => exact ⟨rfl, rfl⟩))
  | ((with_reducible refine' g_and ?h ?_); (case h => exact (rfl : _ = true)))
  | ((with_reducible refine' go_ifp ?h ?_); (case h => exact ⟨rfl, rfl⟩))
  | with_reducible refine go_exp ?_
  | with_reducible refine go_cb ?_
  | with_reducible refine go_leI ?_
  | with_reducible refine go_ltI ?_
  | with_reducible refine go_gtI ?_
  | with_reducible refine go_geI ?_
  | with_reducible refine go_eqI ?_
  | with_reducible refine go_neI ?_
  | with_reducible refine go_eqB ?_
  | with_reducible refine go_neB ?_
  | with_reducible refine go_eqZ ?_
  | with_reducible refine go_neZ ?_
  | ((with_reducible refine' go_isNb (b := true) ?e ?_); (case e => exact rfl))
  | ((with_reducible refine' go_isNb (b := false) ?e ?_); (case e => exact rfl))
  | ((with_reducible refine' go_notNb (b := true) ?e ?_); (case e => exact rfl))
  | ((with_reducible refine' go_notNb (b := false) ?e ?_); (case e => exact rfl))
  | with_reducible refine go_isN ?_
  | with_reducible refine go_notN ?_
  | ((with_reducible refine' go_modI ?e ?_); (case e => first | decide | omega))
  | ((with_reducible refine' go_fdivI ?e ?_); (case e => first | rfl | (unfold divOk; exact decide_eq_true (by omega))))
  | ((with_reducible refine' go_mulI ?e ?_); (case e => first | rfl | (unfold mulOk; exact decide_eq_true (by omega))))
  | ((with_reducible refine' go_powI ?e ?_); (case e => first | rfl | decide))
  | with_reducible refine go_and ?_
  | with_reducible refine go_or ?_
  | with_reducible refine go_not ?_
  | with_reducible refine go_if ?_
  | with_reducible refine go_chain ?_
  | with_reducible refine go_lst ?_
  | with_reducible refine go_lstO ?_
  | ((with_reducible refine' g_lst0 ?e ?_); (case e => exact rfl))
  | ((with_reducible refine' g_lstO0 ?e ?_); (case e => exact rfl))
  | with_reducible refine go_sl ?_
  | with_reducible refine go_ono ?_
  | with_reducible refine go_oso ?_
  | with_reducible refine g_i ?_
  | with_reducible refine go_slTA ?_
  | ((with_reducible refine' go_slT ?e ?e2 ?_); (case e => exact rfl); (case e2 => exact rfl))
  | ((with_reducible refine' go_slL ?e ?_); (case e => first | exact rfl | (apply lst_loc; assumption) | exact lst_loc get_app))
  | ((with_reducible refine' go_catT ?e ?e2 ?_); (case e => exact rfl); (case e2 => (simp only [List.cons_append, List.nil_append]; exact rfl)))
  | with_reducible refine go_par ?_
  | ((with_reducible refine' g_par ?e ?_); (case e => (simp only [List.set_cons_succ, List.set_cons_zero]; exact rfl)))
  | with_reducible refine go_par3 ?_
  | ((with_reducible refine' g_par3 ?e ?_); (case e => (simp only [List.set_cons_succ, List.set_cons_zero]; exact rfl)))
  | ((with_reducible refine' go_aug ?e ?_); (case e => exact rfl))
  | ((with_reducible refine' g_set ?e ?_); (case e => (simp only [List.set_cons_succ, List.set_cons_zero]; exact rfl)))
  | ((with_reducible refine' go_gtup ?e ?e2 ?_); (case e => exact rfl); (case e2 => exact rfl))
  | ((with_reducible refine' go_glst ?e ?e2 ?_); (case e => first | exact rfl | (apply lst_loc; assumption) | exact lst_loc get_app); (case e2 => exact rfl))
  | with_reducible refine go_gcons ?_
  | with_reducible refine go_gnil ?_
  | with_reducible refine go_gsub ?_
  | with_reducible refine go_retN ?_
  | with_reducible refine go_un ?_
  | with_reducible refine go_negI ?_
  | ((with_reducible refine' go_oeq ?e ?e2 ?_); (case e => exact rfl); (case e2 => exact rfl))
  | ((with_reducible refine' go_one ?e ?e2 ?_); (case e => exact rfl); (case e2 => exact rfl))
  | ((with_reducible refine' go_olen ?e ?_); (case e => exact rfl))
  | ((with_reducible refine' go_isi ?e ?e2 ?_); (case e => exact rfl); (case e2 => first | exact kit_same (by decide) | exact kit_ii | exact kit_ib | exact kit_bb | exact kit_bi | exact kit_ss | exact kit_tt | exact kit_nb | exact kit_ni | exact kit_nt | exact kit_si | exact rfl))
  | ((with_reducible refine' go_len ?e ?_); (case e => first | exact rfl | (apply seq_loc; assumption)))
  | with_reducible refine go_rng ?_
  | with_reducible refine go_max2 ?_
  | with_reducible refine go_min2 ?_
  | with_reducible refine go_abs ?_
  | with_reducible refine go_intI ?_
  | with_reducible refine go_intB ?_
  | ((with_reducible refine' go_divmod ?e ?_); (case e => first | rfl | (unfold divOk; exact decide_eq_true (by omega))))
  | ((with_reducible refine' go_bTupL ?e ?_); (case e => first | exact rfl | (apply lst_loc; assumption) | exact lst_loc get_app))
  | with_reducible refine go_bTupT ?_
  | with_reducible refine go_for ?_
  | ((with_reducible refine' go_lc ?e ?_); (case e => (simp only [wipeP, List.set_cons_succ, List.set_cons_zero]; exact rfl)))
  | ((with_reducible refine' go_lcO ?e ?_); (case e => (simp only [wipeP, List.set_cons_succ, List.set_cons_zero]; exact rfl)))
  | with_reducible refine go_yes ?_
  | with_reducible refine goc1 ?_
  | with_reducible refine go_iLx ?_
  | ((with_reducible refine' g_itF ?e ?_); (case e => exact rfl))
  | ((with_reducible refine' g_itL ?e ?_); (case e => assumption))
  | with_reducible refine g_itN ?_
  | ((with_reducible refine' go_appN ?h ?e ?_); (case h => exact rfl); (case e => (simp only [List.nil_append, List.cons_append]; exact rfl)))
  | ((with_reducible refine' g_and ?h ?_); (case h => exact some_loc get_app))
  | with_reducible refine go_iT ?_
  | with_reducible refine go_iR1 ?_
  | with_reducible refine go_iR2 ?_
  | ((with_reducible refine' g_r1 ?h ?_); (case h => omega))
  | ((with_reducible refine' g_r2 ?h ?_); (case h => omega))
  | with_reducible refine Gx.s_iteT ?_
  | with_reducible refine Gx.s_iteF ?_
  | with_reducible refine Gx.s_iteNT ?_
  | with_reducible refine Gx.s_iteNF ?_
  | ((with_reducible refine' comp_one1 ?e ?_); (case e => exact rfl))
  | ((with_reducible refine' g_acc ?e ?_); (case e => (simp only [List.nil_append, List.cons_append]; exact rfl)))
  | with_reducible refine comp_nil ?_
  | ((with_reducible refine' comp_one1g ?hg ?e ?_); (case hg => first | exact get_app | assumption); (case e => exact rfl))
  | ((with_reducible refine' comp_nilg ?hg ?_); (case hg => first | exact get_app | assumption))
  | ((with_reducible refine' go_anyC (b := true) ?e ?e2 ?_); (case e => exact rfl); (case e2 => exact rfl))
  | ((with_reducible refine' go_anyC (b := false) ?e ?e2 ?_); (case e => exact rfl); (case e2 => exact rfl))
  | ((with_reducible refine' go_allC (b := true) ?e ?e2 ?_); (case e => exact rfl); (case e2 => exact rfl))
  | ((with_reducible refine' go_allC (b := false) ?e ?e2 ?_); (case e => exact rfl); (case e2 => exact rfl))
  | ((with_reducible refine' go_eqTI ?e ?e2 ?e3 ?e4 ?_); (case e => exact rfl); (case e2 => exact rfl); (case e3 => (simp only [List.map_append, List.map_cons, List.map_nil, unP, List.cons_append, List.nil_append]; exact rfl)); (case e4 => (simp only [List.map_append, List.map_cons, List.map_nil, unP, List.cons_append, List.nil_append]; exact rfl)))
  | ((with_reducible refine' go_neTI ?e ?e2 ?e3 ?e4 ?_); (case e => exact rfl); (case e2 => exact rfl); (case e3 => (simp only [List.map_append, List.map_cons, List.map_nil, unP, List.cons_append, List.nil_append]; exact rfl)); (case e4 => (simp only [List.map_append, List.map_cons, List.map_nil, unP, List.cons_append, List.nil_append]; exact rfl)))
  | ((with_reducible refine' g_ips ?e ?_); (case e => exact rfl))
  | ((with_reducible refine' g_ipt ?e ?_); (case e => exact rfl))
  | ((with_reducible refine' g_n ?e ?_); (case e => omega))
  | ((with_reducible refine' go_in0 ?e ?e2 ?e3 ?e4 ?_); (case e => exact rfl); (case e2 => exact rfl); (case e3 => (simp only [List.map_cons, List.map_nil, unP]; exact rfl)); (case e4 => (dsimp only [memD])))
  | ((with_reducible refine' go_in1 ?e ?e2 ?e3 ?e4 ?_); (case e => exact rfl); (case e2 => exact rfl); (case e3 => (simp only [List.map_cons, List.map_nil, unP]; exact rfl)); (case e4 => (dsimp only [memD])))
  | with_reducible refine go_bseq ?_
  | with_reducible refine go_bexp ?_
  | with_reducible refine go_bfld ?_
  | ((with_reducible refine' g_bf ?h ?_); (case h => decide))
  | ((with_reducible refine' g_subX h ?e ?_); (case e => exact rfl); clear h; intro O h; simp only [Int.reduceToNat, Int.toNat_zero, Int.toNat_one, List.set_cons_zero, List.set_cons_succ] at h)
  | ((with_reducible refine' go_ixX h ?e ?_); (case e => exact rfl))
  | with_reducible refine go_dic0 ?_
  | with_reducible refine go_bms ?_
  | with_reducible refine go_fmtO ?_
  | ((with_reducible refine' go_otxt ?e ?_); (case e => exact rfl))
  | ((with_reducible refine' go_obool ?e ?_); (case e => exact rfl))
  | ((with_reducible refine' go_oeqA ?e ?e2 ?_); (case e => exact rfl); (case e2 => exact rfl))
  | ((with_reducible refine' go_oneA ?e ?e2 ?_); (case e => exact rfl); (case e2 => exact rfl))
  | with_reducible refine go_iZ ?_
  | ((with_reducible refine' g_iz ?e ?e2 ?_); (case e => exact rfl); (case e2 => exact rfl))
  | with_reducible refine go_inOL ?_
  | with_reducible refine go_bms0 ?_
  | with_reducible refine go_js ?_
  | with_reducible refine gj_cons ?_
  | with_reducible refine gj_nil ?_
  | with_reducible refine g_str ?_
  | with_reducible refine go_fmt ?_
  | with_reducible refine go_strS ?_
  | ((with_reducible refine' go_addS ?h ?_); (case h => (first | omega | (simp only [zl_app, zl_emp, join_1, join_2]; omega) | decide +kernel)))
  | ((with_reducible refine' g_and ?h ?_); (case h => ((first | unfold sizeLine | skip); (first | omega | (simp only [zl_app, zl_emp, join_1, join_2]; omega)))))
  | ((with_reducible refine' g_fmtS ?h ?_); (case h => ((first | unfold sizeLine | skip); (first | omega | (simp only [zl_app, zl_emp, join_1, join_2]; omega)))))
  | ((with_reducible refine' go_strI ?h ?_); (case h => (refine log_ok ?_; omega)))
  | ((with_reducible refine' g_fmtI ?h ?_); (case h => (refine log_ok ?_; omega)))
  | ((with_reducible refine' go_joinN ?e ?h ?_); (case e => exact rfl); (case h => (simp only [List.map_cons, List.map_nil, List.sum_cons, List.sum_nil, List.length_cons, List.length_nil, zl_app, zl_emp, join_1, join_2]; omega)))
  | ((with_reducible refine' go_rep01 ?h ?_); (case h => decide))
  | with_reducible refine go_iAt ?_
  | with_reducible refine g_at ?_
  | with_reducible refine g_al ?_
  | ((with_reducible refine' go_sort2 ?e ?_); (case e => exact rfl))
  | with_reducible refine go_isBB ?_
  | with_reducible refine go_notBB ?_
  | with_reducible refine go_makeKO ?_
  | dsimp only)
set_option hygiene false in
local macro_rules | `(tactic| walk_at "c") => `(tactic| repeat walk_at "c0")
set_option hygiene false in
local macro_rules | `(tactic| walk_at "b") => `(tactic| first
  | ((with_reducible refine' bt ?h ?_); (case h => omega))
  | ((with_reducible refine' bf ?h ?_); (case h => omega))
  | ((with_reducible refine' bnt ?h ?_); (case h => omega))
  | ((with_reducible refine' bnf ?h ?_); (case h => omega))
  | ((with_reducible refine' bt ?h ?_); (case h => exact rfl))
  | ((with_reducible refine' bf ?h ?_); (case h => decide))
  | ((with_reducible refine' bnt ?h ?_); (case h => decide))
  | ((with_reducible refine' bnf ?h ?_); (case h => exact rfl)))
set_option hygiene false in
local macro_rules | `(tactic| walk_at "ixi") => `(tactic| ((refine' go_ixI ?e ?ei ?h0 ?h1 ?_); (case e => exact rfl); (case ei => exact rfl); (case h0 => omega); (case h1 => (simp only [List.length_cons, List.length_nil]; omega)); intro z hz; simp only [List.map_cons, List.map_nil, unP, List.mem_cons, List.not_mem_nil, or_false] at hz))
set_option hygiene false in
local macro_rules | `(tactic| walk_at "g") => `(tactic| repeat (first | walk_at "c0" | walk_at "b" | walk_at "call" | walk_at "ixi"))
set_option hygiene false in
local macro_rules | `(tactic| walk_at "def") => `(tactic| ((refine' go_def ?e ?e2 ?_); (case e => exact rfl); (case e2 => (simp only [List.map_cons, List.map_nil, List.cons_append, List.nil_append, Nat.reduceSub, List.reduceReplicate]; exact rfl)); walk_at "c"))
set_option hygiene false in
local macro_rules | `(tactic| walk_at "init") => `(tactic| ((refine' go_init ?e ?e2 ?_); (case e => exact rfl); (case e2 => (simp only [List.map_cons, List.map_nil, List.cons_append, List.nil_append, List.append_nil, Nat.reduceSub, Nat.reduceAdd, List.reduceReplicate]; exact rfl)); walk_at "g"))
set_option hygiene false in
local macro_rules | `(tactic| walk_at "call") => `(tactic| fail)
set_option hygiene false in
local macro_rules | `(tactic| walk_at "fr") => `(tactic| first
  | exact Qx.Fr.refl
  | assumption
  | ((refine Qx.Fr.app ?_); walk_at "fr")
  | ((refine Qx.Fr.tr (by assumption) ?_); walk_at "fr"))
set_option hygiene false in
local macro_rules | `(tactic| walk_at "c0") => `(tactic| first
  | with_reducible refine go_noXM ?_
  | with_reducible refine go_makeOX ?_
  | with_reducible refine go_mkN ?_)
set_option hygiene false in
local macro_rules | `(tactic| walk_at "sx") => `(tactic| ((refine go_seq (gos_expE (goe_call ?_))); walk_at "c"; (refine g_me rfl ?_)))
theorem cutP_take3 {ns : List Int} : cutP (ns.map PV.int) none (some 3) = (ns.take 3).map PV.int := by
  have e1 : ∀ n, HT.sIx n 0 none = 0 := fun n => rfl
  unfold cutP
  rw [e1, List.drop_zero, List.map_take]
  show List.take (HT.sIx (ns.map PV.int).length (ns.map PV.int).length (some 3)) _ = _
  have e2 : HT.sIx (ns.map PV.int).length (ns.map PV.int).length (some 3) = min 3 (ns.map PV.int).length := by
    unfold HT.sIx
    simp
  rw [e2]
  by_cases h : 3 ≤ (ns.map PV.int).length
  · rw [Nat.min_eq_left h]
  · rw [Nat.min_eq_right (by omega), List.take_length, List.take_of_length_le (by omega)]
theorem g__law_cell {ns : List Int} {j : Int} {O : Sto} {Q : PV → Sto → Prop} (h0 : 0 ≤ j) (h1 : j < 1000) (k : ∀ z : Int, Q (.int z) O) : Go (m__law_cell [.rol (ns.map .int), .int j] O) Q := by
  walk_at "def"
  refine qbr (fun h => ?_) (fun h => ?_)
  · walk_at "c"
    refine go_ixR rfl h0 (by simpa using h) fun r hr => ?_
    obtain ⟨z, _, rfl⟩ := List.mem_map.mp hr
    exact k z
  · walk_at "c"
    refine go_sum (ns := ns.take 3) ?_ ?_
    · show some (cutP (ns.map PV.int) none (some 3)) = _
      rw [cutP_take3]
    · walk_at "c"
      exact k _
theorem g__law_purse {n : Int} {O : Sto} {Q : PV → Sto → Prop} (k : ∀ O', Pu O' O.length → O'.length = O.length + 1 → (∀ m : Nat, m < O.length → O'[m]? = O[m]?) → Q (.loc O.length) O') : Go (m__law_purse [.int n] O) Q := by
  have fin : ∀ b : Int, 0 ≤ b → Q (.loc O.length) (O ++ [some (.lst [.int (n % 2147483399), .int b, .int 0])]) := fun b hb => k _ ⟨_, b, 0, get_app, Int.emod_nonneg _ (by omega), Int.emod_lt_of_pos _ (by omega), hb⟩ (by simp) fun m hm => by rw [List.getElem?_append_left hm]
  walk_at "def"
  refine qbr (fun h => ?_) (fun h => ?_)
  · walk_at "c"
    exact fin _ (by split <;> omega)
  · walk_at "c"
    generalize (10 : Int) ^ Int.toNat 18 = t
    refine qbr (fun h2 => ?_) (fun h2 => ?_)
    · walk_at "c"
      exact fin _ (by split <;> omega)
    · walk_at "c"
      exact fin _ (by omega)
theorem g__law_take {O0 O : Sto} {p : Nat} {n : Int} {Q : PV → Sto → Prop} (h : Ph O0 p O) (n0 : 0 < n) (n1 : n < 1073741824) (k : ∀ (r : Int) (O' : Sto), 0 ≤ r → r < n → Ph O0 p O' → Q (.int r) O') : Go (m__law_take [.loc p, .int n] O) Q := by
  obtain ⟨a, b, c, h, a0, a1, b0⟩ := h.open
  walk_at "def"
  refine qbr (fun hh => ?_) (fun hh => ?_)
  · walk_at "c"
    refine k _ _ ?_ ?_ (h.close ?_ ?_ ?_)
    · exact Int.emod_nonneg _ (by omega)
    · exact Int.emod_lt_of_pos _ n0
    · exact Int.emod_nonneg _ (by omega)
    · exact Int.emod_lt_of_pos _ (by omega)
    · exact Int.ediv_nonneg b0 (by omega)
  · walk_at "c"
    refine k _ _ ?_ ?_ (h.close ?_ ?_ ?_)
    · exact Int.emod_nonneg _ (by omega)
    · exact Int.emod_lt_of_pos _ n0
    · exact Int.emod_nonneg _ (by omega)
    · exact Int.emod_lt_of_pos _ (by omega)
    · exact b0
set_option hygiene false in
local macro_rules | `(tactic| walk_at "call") => `(tactic| ((with_reducible refine' g__law_take h ?n0 ?n1 ?_); (case n0 => omega); (case n1 => omega); clear h; intro r O r0 r1 h))
theorem g__law_measure {O0 O : Sto} {p : Nat} {Q : PV → Sto → Prop} (h : Ph O0 p O) (k : ∀ (r : Int) (O' : Sto), -990000 ≤ r → r ≤ 990000 → Ph O0 p O' → Q (.int r) O') : Go (m__law_measure [.loc p] O) Q := by
  walk_at "def"
  walk_at "g"
  exact k _ _ (by omega) (by omega) h
set_option hygiene false in
local macro_rules | `(tactic| walk_at "call") => `(tactic| ((with_reducible refine' g__law_measure h ?_); clear h; intro r O r0 r1 h))
theorem g__law_allowed {O0 O : Sto} {p : Nat} {n : Int} {Q : PV → Sto → Prop} (h : Ph O0 p O) (n0 : 0 ≤ n) (n1 : n ≤ 100000) (k : ∀ (u l : Int) (O' : Sto), 0 ≤ u + l → u + l ≤ n + 4 → -40 ≤ u ∧ u ≤ n + 50 → Ph O0 p O' → Q (.tup [.int u, .int l]) O') : Go (m__law_allowed [.loc p, .int n] O) Q := by
  walk_at "def"
  walk_at "g"
  exact k _ _ _ (by omega) (by omega) (by omega) h
set_option hygiene false in
local macro_rules | `(tactic| walk_at "call") => `(tactic| ((with_reducible refine' g__law_allowed h ?n0 ?n1 ?_); (case n0 => omega); (case n1 => omega); clear h; intro u l O r0 r1 r2 h))
theorem e_is_measure {i : Int} {O : Sto} : m_is_measure [.int i] O = .ok (.bl true) O := Go.eq (by
  walk_at "def"
  exact ⟨rfl, rfl⟩)
set_option hygiene false in
local macro_rules | `(tactic| walk_at "call") => `(tactic| ((with_reducible refine' go_at e_is_measure ?_)))
theorem e_check_measure {i : Int} {O : Sto} : m_check_measure [.int i] O = .ok .non O := Go.eq (by
  walk_at "def"
  walk_at "g"
  exact ⟨rfl, rfl⟩)
set_option hygiene false in
local macro_rules | `(tactic| walk_at "call") => `(tactic| ((with_reducible refine' go_at e_check_measure ?_)))
theorem e_check_allowance {i j : Int} {O : Sto} (h : 0 ≤ i + j) : m_check_allowance [.int i, .int j] O = .ok .non O := Go.eq (by
  walk_at "def"
  walk_at "g"
  exact ⟨rfl, rfl⟩)
set_option hygiene false in
local macro_rules | `(tactic| walk_at "call") => `(tactic| ((with_reducible refine' go_at (e_check_allowance ?h0) ?_); (case h0 => omega)))
abbrev span (s u l : Int) : PV := .ins "Span" ["size", "above", "below", "low", "high"] [.int s, .int u, .int l, .int (s - l), .int (s + u)]
theorem e_Span {s u l : Int} {O : Sto} (h : 0 ≤ u + l) : mkIns "Span" (m_Span___init__ [.int s, .int u, .int l] O) = .ok (span s u l) O := by
  refine Go.eq ?_
  walk_at "init"
  exact ⟨rfl, rfl⟩
set_option hygiene false in
local macro_rules | `(tactic| walk_at "call") => `(tactic| ((with_reducible refine' go_at (e_Span ?h0) ?_); (case h0 => omega)))
theorem e_check_span {s u l : Int} {O : Sto} : m_check_span [span s u l] O = .ok .non O := Go.eq (by
  walk_at "def"
  walk_at "g"
  exact ⟨rfl, rfl⟩)
set_option hygiene false in
local macro_rules | `(tactic| walk_at "call") => `(tactic| ((with_reducible refine' go_at e_check_span ?_)))
theorem go_makeOX {QP : PV → Sto → Prop} {C : Str} {m : MF} {dps : List PV} {f : AF} {s : Slots} {O : Sto} (k : Go (f s O) fun ps O1 => GMo m C (ps ++ dps) O1 QP) : Go (eMakeOX C m dps f s O) QP := go_bind (k.mono fun ps O1 h => go_bind (by
  unfold GMo at h
  obtain ⟨r, O2, e, rfl, h⟩ := h.ex
  rw [e]
  exact h))
def jn1 : List (Int × Int) → Int × Int → List (Int × Int)
  | [], z => [z]
  | (a, b) :: r, (c, d) => if c ≤ b + 1 then (a, max b d) :: r else (c, d) :: (a, b) :: r
theorem jn1_cons {a b c d : Int} {r : List (Int × Int)} : jn1 ((a, b) :: r) (c, d) = if c ≤ b + 1 then (a, max b d) :: r else (c, d) :: (a, b) :: r := rfl
def jnL (zs : List (Int × Int)) : List (Int × Int) := zs.foldl jn1 []
def runsOf (zs : List (Int × Int)) : List (Int × Int) := (jnL (zs.mergeSort leP)).reverse
structure RunOk (rs : List (Int × Int)) (m : Int) : Prop where
  gap : rs.Pairwise fun x y => y.2 + 1 < x.1
  le : ∀ x ∈ rs, x.1 ≤ x.2
  low : ∀ x ∈ rs, x.1 ≤ m
theorem jn1_ok {rs : List (Int × Int)} {c d : Int} (h : RunOk rs c) (hd : c ≤ d) : RunOk (jn1 rs (c, d)) c := by
  cases rs with
  | nil => exact ⟨List.pairwise_singleton _ _, fun x hx => by rw [List.mem_singleton.mp hx]; exact hd, fun x hx => by rw [List.mem_singleton.mp hx]; exact Int.le_refl _⟩
  | cons x r =>
    obtain ⟨a, b⟩ := x
    obtain ⟨g1, g2⟩ := List.pairwise_cons.mp h.gap
    have h1 := h.le (a, b) (by simp)
    have h2 := h.low (a, b) (by simp)
    dsimp only at h1 h2 g1
    rw [jn1_cons]
    split
    · refine ⟨List.pairwise_cons.mpr ⟨g1, g2⟩, fun x hx => ?_, fun x hx => ?_⟩
      · rcases List.mem_cons.mp hx with rfl | hx
        · dsimp only; omega
        · exact h.le x (by simp [hx])
      · rcases List.mem_cons.mp hx with rfl | hx
        · exact h2
        · exact h.low x (by simp [hx])
    · rename_i hc
      refine ⟨List.pairwise_cons.mpr ⟨fun y hy => ?_, h.gap⟩, fun x hx => ?_, fun x hx => ?_⟩
      · rcases List.mem_cons.mp hy with rfl | hy
        · dsimp only; omega
        · have := g1 y hy; dsimp only; omega
      · rcases List.mem_cons.mp hx with rfl | hx
        · exact hd
        · exact h.le x hx
      · rcases List.mem_cons.mp hx with rfl | hx
        · exact Int.le_refl _
        · exact h.low x hx
theorem fold_ok : ∀ (zs rs : List (Int × Int)), zs.Pairwise (fun x y => x.1 ≤ y.1) → (∀ z ∈ zs, z.1 ≤ z.2) → ∀ m, (∀ x ∈ rs, ∀ z ∈ zs, x.1 ≤ z.1) → RunOk rs m → (∀ z ∈ zs, z.1 ≤ m) → RunOk (zs.foldl jn1 rs) m
  | [], rs, _, _, m, _, h, _ => h
  | (c, d) :: zs, rs, hp, hz, m, hx, h, hm => by
    obtain ⟨p1, p2⟩ := List.pairwise_cons.mp hp
    have k := jn1_ok (c := c) (d := d) ⟨h.gap, h.le, fun x h1 => hx x h1 (c, d) (by simp)⟩ (hz (c, d) (by simp))
    refine fold_ok zs (jn1 rs (c, d)) p2 (fun z h1 => hz z (by simp [h1])) m (fun x h1 z h2 => Int.le_trans (k.low x h1) (p1 z h2)) ⟨k.gap, k.le, fun x h1 => Int.le_trans (k.low x h1) (hm (c, d) (by simp))⟩ fun z h1 => hm z (by simp [h1])
theorem jnL_ok {zs : List (Int × Int)} {m : Int} (hp : zs.Pairwise (fun x y => x.1 ≤ y.1)) (hz : ∀ z ∈ zs, z.1 ≤ z.2) (hm : ∀ z ∈ zs, z.1 ≤ m) : RunOk (jnL zs) m := fold_ok zs [] hp hz m ((fun _ h => nomatch h)) ⟨.nil, (fun _ h => nomatch h), (fun _ h => nomatch h)⟩ hm
theorem jnL_snoc {zs : List (Int × Int)} {z : Int × Int} : jnL (zs ++ [z]) = jn1 (jnL zs) z := by
  unfold jnL
  rw [List.foldl_append]
  rfl
theorem jn1_len {rs : List (Int × Int)} {z : Int × Int} : (jn1 rs z).length ≤ rs.length + 1 := by
  obtain ⟨c, d⟩ := z
  cases rs with
  | nil => exact Nat.le_refl _
  | cons x r =>
    obtain ⟨a, b⟩ := x
    rw [jn1_cons]
    split <;> simp
theorem fold_len : ∀ (zs rs : List (Int × Int)), (zs.foldl jn1 rs).length ≤ rs.length + zs.length
  | [], rs => Nat.le_refl _
  | z :: zs, rs => by
    have h1 := fold_len zs (jn1 rs z)
    have h2 := jn1_len (rs := rs) (z := z)
    rw [List.foldl_cons, List.length_cons]
    omega
theorem jnL_len (zs : List (Int × Int)) : (jnL zs).length ≤ zs.length := by
  have := fold_len zs []
  simpa [jnL] using this
theorem runs_len (zs : List (Int × Int)) : (runsOf zs).length ≤ zs.length := by
  unfold runsOf
  rw [List.length_reverse]
  have := jnL_len (zs.mergeSort leP)
  rw [List.length_mergeSort] at this
  exact this
def inB (B : Int) (x : Int × Int) : Prop := -B ≤ x.1 ∧ x.1 ≤ B ∧ -B ≤ x.2 ∧ x.2 ≤ B
theorem jn1_bd {B : Int} {rs : List (Int × Int)} {z : Int × Int} (h : ∀ x ∈ rs, inB B x) (hz : inB B z) : ∀ x ∈ jn1 rs z, inB B x := by
  obtain ⟨c, d⟩ := z
  cases rs with
  | nil => intro x hx; rw [List.mem_singleton.mp hx]; exact hz
  | cons y r =>
    obtain ⟨a, b⟩ := y
    have h1 := h (a, b) (by simp)
    unfold inB at h1 hz
    dsimp only at h1 hz
    rw [jn1_cons]
    split
    · intro x hx
      rcases List.mem_cons.mp hx with rfl | hx
      · unfold inB; dsimp only; omega
      · exact h x (by simp [hx])
    · intro x hx
      rcases List.mem_cons.mp hx with rfl | hx
      · exact hz
      · exact h x hx
theorem fold_bd {B : Int} : ∀ (zs rs : List (Int × Int)), (∀ x ∈ rs, inB B x) → (∀ z ∈ zs, inB B z) → ∀ x ∈ zs.foldl jn1 rs, inB B x
  | [], _, h, _ => h
  | z :: zs, rs, h, hz => fold_bd zs (jn1 rs z) (jn1_bd h (hz z (by simp))) fun w hw => hz w (by simp [hw])
theorem leP_tr (a b c : Int × Int) : leP a b = true → leP b c = true → leP a c = true := by
  unfold leP
  simp only [decide_eq_true_eq]
  omega
theorem leP_tot (a b : Int × Int) : (leP a b || leP b a) = true := by
  unfold leP
  rw [Bool.or_eq_true, decide_eq_true_eq, decide_eq_true_eq]
  omega
theorem sort_pw (zs : List (Int × Int)) : (zs.mergeSort leP).Pairwise fun x y => x.1 ≤ y.1 := by
  have h := List.pairwise_mergeSort leP_tr leP_tot zs
  refine h.imp fun {a b} e => ?_
  unfold leP at e
  rw [decide_eq_true_eq] at e
  omega
theorem sort_all {P : Int × Int → Prop} {zs : List (Int × Int)} (h : ∀ z ∈ zs, P z) : ∀ z ∈ zs.mergeSort leP, P z := fun z hz => h z (List.mem_mergeSort.mp hz)
theorem runs_bd {B : Int} {zs : List (Int × Int)} (h : ∀ z ∈ zs, inB B z) : ∀ x ∈ runsOf zs, inB B x := fun x hx => fold_bd _ [] ((fun _ h => nomatch h)) (sort_all h) x (List.mem_reverse.mp hx)
theorem max_low : ∀ zs : List (Int × Int), ∃ m, ∀ z ∈ zs, z.1 ≤ m
  | [] => ⟨0, (fun _ h => nomatch h)⟩
  | z :: zs => by
    obtain ⟨m, h⟩ := max_low zs
    refine ⟨max m z.1, fun w hw => ?_⟩
    rcases List.mem_cons.mp hw with rfl | hw
    · omega
    · have := h w hw; omega
structure Runs (rs : List (Int × Int)) : Prop where
  gap : rs.Pairwise fun x y => x.2 + 1 < y.1
  le : ∀ x ∈ rs, x.1 ≤ x.2
theorem runs_ok {zs : List (Int × Int)} (hz : ∀ z ∈ zs, z.1 ≤ z.2) : Runs (runsOf zs) := by
  obtain ⟨m, hm⟩ := max_low (zs.mergeSort leP)
  have k := jnL_ok (sort_pw zs) (sort_all hz) hm
  exact ⟨List.pairwise_reverse.mpr k.gap, fun x hx => k.le x (List.mem_reverse.mp hx)⟩
theorem Runs.nil : Runs [] := ⟨.nil, (fun _ h => nomatch h)⟩
theorem fold_gap : ∀ (zs acc : List (Int × Int)), zs.Pairwise (fun x y => x.2 + 1 < y.1) → (∀ a ∈ acc, ∀ z ∈ zs, a.2 + 1 < z.1) → zs.foldl jn1 acc = zs.reverse ++ acc
  | [], acc, _, _ => rfl
  | (c, d) :: zs, acc, hp, ha => by
    obtain ⟨p1, p2⟩ := List.pairwise_cons.mp hp
    have e : jn1 acc (c, d) = (c, d) :: acc := by
      cases acc with
      | nil => rfl
      | cons x r =>
        obtain ⟨a, b⟩ := x
        have := ha (a, b) (by simp) (c, d) (by simp)
        dsimp only at this
        rw [jn1_cons]
        rw [if_neg (by omega)]
    rw [List.foldl_cons, e, fold_gap zs ((c, d) :: acc) p2 fun a h1 z h2 => by
      rcases List.mem_cons.mp h1 with rfl | h1
      · exact p1 z h2
      · exact ha a h1 z (by simp [h2])]
    simp
theorem runs_same {rs : List (Int × Int)} (h : Runs rs) : runsOf rs = rs := by
  unfold runsOf jnL
  have e : rs.mergeSort leP = rs := List.mergeSort_of_pairwise (h.gap.imp_of_mem fun {a b} ha hb hab => by
    have := h.le a ha
    unfold leP
    rw [decide_eq_true_eq]
    omega)
  rw [e, fold_gap rs [] h.gap (fun _ h => nomatch h)]
  simp
def cov (x : Int) (rs : List (Int × Int)) : Bool := rs.any fun r => decide (r.1 ≤ x ∧ x ≤ r.2)
theorem cov_jn1 {x c d : Int} {rs : List (Int × Int)} (h : ∀ r ∈ rs, r.1 ≤ c) : cov x (jn1 rs (c, d)) = (cov x rs || decide (c ≤ x ∧ x ≤ d)) := by
  cases rs with
  | nil => simp [jn1, cov]
  | cons y r =>
    obtain ⟨a, b⟩ := y
    have h1 := h (a, b) (by simp)
    dsimp only at h1
    rw [jn1_cons]
    split
    · unfold cov
      simp only [List.any_cons]
      rw [Bool.eq_iff_iff]
      simp only [Bool.or_eq_true, decide_eq_true_eq]
      constructor
      · rintro (k | k)
        · by_cases q : x ≤ b
          · exact .inl (.inl ⟨k.1, q⟩)
          · exact .inr ⟨by omega, by omega⟩
        · exact .inl (.inr k)
      · rintro ((k | k) | k)
        · exact .inl ⟨k.1, by omega⟩
        · exact .inr k
        · exact .inl ⟨by omega, by omega⟩
    · unfold cov
      simp only [List.any_cons]
      rw [Bool.or_comm]
theorem cov_fold {x : Int} : ∀ (zs rs : List (Int × Int)), zs.Pairwise (fun x y => x.1 ≤ y.1) → (∀ z ∈ zs, z.1 ≤ z.2) → RunOk rs (match zs with | [] => 0 | z :: _ => z.1) ∨ zs = [] → cov x (zs.foldl jn1 rs) = (cov x rs || cov x zs)
  | [], rs, _, _, _ => by simp [cov]
  | (c, d) :: zs, rs, hp, hz, h => by
    obtain ⟨p1, p2⟩ := List.pairwise_cons.mp hp
    have h0 : RunOk rs c := h.elim id (fun e => nomatch e)
    have k := jn1_ok (d := d) h0 (hz (c, d) (by simp))
    rw [List.foldl_cons, cov_fold zs (jn1 rs (c, d)) p2 (fun z h1 => hz z (by simp [h1])) (by
      cases zs with
      | nil => exact .inr rfl
      | cons z zs => exact .inl ⟨k.gap, k.le, fun y hy => Int.le_trans (k.low y hy) (p1 z (by simp))⟩), cov_jn1 h0.low]
    rw [Bool.or_assoc]
    rfl
theorem cov_runs {x : Int} {zs : List (Int × Int)} (hz : ∀ z ∈ zs, z.1 ≤ z.2) : cov x (runsOf zs) = cov x zs := by
  unfold runsOf
  have e1 : cov x (jnL (zs.mergeSort leP)).reverse = cov x (jnL (zs.mergeSort leP)) := by unfold cov; rw [List.any_reverse]
  have e2 : cov x (jnL (zs.mergeSort leP)) = cov x (zs.mergeSort leP) := by
    have := cov_fold (x := x) (zs.mergeSort leP) [] (sort_pw zs) (sort_all hz) (by
      cases zs.mergeSort leP with
      | nil => exact .inr rfl
      | cons z _ => exact .inl ⟨.nil, (fun _ h => nomatch h), (fun _ h => nomatch h)⟩)
    unfold jnL
    rw [this]
    rfl
  rw [e1, e2]
  unfold cov
  rw [Bool.eq_iff_iff, List.any_eq_true, List.any_eq_true]
  constructor
  · rintro ⟨y, h1, h2⟩; exact ⟨y, List.mem_mergeSort.mp h1, h2⟩
  · rintro ⟨y, h1, h2⟩; exact ⟨y, List.mem_mergeSort.mpr h1, h2⟩
theorem g_subLast {O : Sto} {n : Nat} {xs : List PV} {x v : PV} {s : Slots} {QS : Slots → Sto → Prop} (e : O[n]? = some (some (.lst (xs ++ [x])))) (k : ∀ O', O'[n]? = some (some (.lst (xs ++ [v]))) → O'.length = O.length → (∀ m : Nat, m ≠ n → O'[m]? = O[m]?) → QS s O') : GSub v s (.loc n) (.int (-1)) O QS := by
  refine g_sub (j' := xs.length) e (by rw [List.length_append, List.length_cons, List.length_nil]; exact ixN_last) (k _ ?_ (by simp) fun m hm => by rw [List.getElem?_set_ne (fun z => hm z.symm)])
  rw [show (xs ++ [x]).set xs.length v = xs ++ [v] by simp]
  exact get_set e
theorem rev_snoc {l : List (Int × Int)} {a b : Int} : (((a, b) :: l).reverse).map prP = l.reverse.map prP ++ [.tup [.int a, .int b]] := by simp [prP]
theorem g_joinedX {zs : List (Int × Int)} {p : PV} {O : Sto} {Q : PV → Sto → Prop} (hp : ∀ O', Fr O O' → seqOf O' p = some (zs.map prP)) (hl : zs.length ≤ 1000) (k : ∀ O', Fr O O' → Q (.tup ((runsOf zs).map prP)) O') : Go (m_joined [p] O) Q := by
  have hl2 : (zs.mergeSort leP).length ≤ 1000 := by rw [List.length_mergeSort]; exact hl
  walk_at "def"
  walk_at "g"
  refine go_sort2A (hp _ Fr.refl.app) ?_
  walk_at "g"
  refine go_loopP prP (fun d s1 O1 => ∃ x2 x3, s1 = [some p, some (.loc O.length), x2, x3] ∧ O1[O.length]? = some (some (.lst ((jnL d).reverse.map prP))) ∧ Fr O O1) (zs.mergeSort leP) (fun _ _ _ _ => trivial) ⟨_, _, rfl, get_app, Fr.refl.app⟩ (fun d r t s1 O1 ed hJ => ?_) (fun s1 O1 hJ => ?_)
  · obtain ⟨x2, x3, rfl, el, fr⟩ := hJ
    obtain ⟨c, c'⟩ := r
    have hlen := jnL_len d
    have hd : d.length ≤ 1000 := by rw [ed] at hl2; simp at hl2; omega
    cases hj : jnL d with
    | nil =>
      rw [hj] at el
      walk_at "g"
      refine go_nePL (zs := []) (ws := []) (lstT_loc el) rfl ?_
      walk_at "g"
      refine go_appF el (szl_le (by simp)) fun O2 e1 e2 e3 => ?_
      exact ⟨_, _, rfl, by rw [jnL_snoc, hj]; exact e1, fr.put (Nat.le_refl _) e2 e3⟩
    | cons z l =>
      obtain ⟨a, b⟩ := z
      rw [hj] at el hlen
      rw [List.length_cons] at hlen
      have el0 := el
      rw [rev_snoc] at el
      walk_at "g"
      refine go_nePL (zs := ((a, b) :: l).reverse) (ws := []) (lstT_loc el0) rfl ?_
      rw [decide_eq_false (show ¬ ((a, b) :: l).reverse = [] by simp)]
      walk_at "g"
      refine go_ixL (lst_loc el) atI_last ?_
      walk_at "g"
      refine qbr (fun c1 => ?_) (fun c1 => ?_)
      · walk_at "g"
        refine go_ixL (lst_loc el) atI_last ?_
        walk_at "g"
        refine go_ixL (lst_loc el) atI_last ?_
        walk_at "g"
        refine g_subLast el fun O2 e1 e2 e3 => ?_
        refine ⟨_, _, rfl, ?_, fr.put (Nat.le_refl _) e2 e3⟩
        rw [jnL_snoc, hj, jn1_cons, if_pos c1, rev_snoc]
        exact e1
      · walk_at "g"
        refine ⟨some_loc el, ?_⟩
        walk_at "g"
        refine go_appF el (szl_le (by simp; omega)) fun O2 e1 e2 e3 => ?_
        refine ⟨_, _, rfl, ?_, fr.put (Nat.le_refl _) e2 e3⟩
        rw [jnL_snoc, hj, jn1_cons, if_neg c1, rev_snoc, rev_snoc]
        exact e1
  · obtain ⟨x2, x3, rfl, el, fr⟩ := hJ
    walk_at "g"
    exact k _ fr
theorem g_joined {zs : List (Int × Int)} {O : Sto} {Q : PV → Sto → Prop} (hl : zs.length ≤ 1000) (k : ∀ O', Fr O O' → Q (.tup ((runsOf zs).map prP)) O') : Go (m_joined [.lst (zs.map prP)] O) Q := g_joinedX (fun _ _ => rfl) hl k
set_option hygiene false in
local macro_rules | `(tactic| walk_at "call") => `(tactic| ((with_reducible refine' g_joined ?h0 ?_); (case h0 => (simp only [List.length_map]; omega)); intro Oj frj))
abbrev W3 := Int × Int × Int
def spW (w : W3) : PV := span w.1 w.2.1 w.2.2
def rowP (w : W3) : PV := .tup [.int w.1, .int w.2.1, .int w.2.2]
def endsW (w : W3) : Int × Int := (w.1 - w.2.2, w.1 + w.2.1)
theorem e_check_row {p : PV} {ws : List W3} {O : Sto} (hp : p = .lst (ws.map spW) ∨ p = .tup (ws.map spW)) : m_check_row [p] O = .ok .non O := by
  refine Go.eq ?_
  rcases hp with rfl | rfl
  · walk_at "def"
    walk_at "g"
    refine go_isT ?_
    walk_at "g"
    refine go_at (v := .bl true) (O1 := O) rfl ?_
    walk_at "g"
    refine go_loopP spW (fun d s1 O1 => (∃ x1, s1 = [some (.lst (ws.map spW)), x1]) ∧ O1 = O) ws (fun _ _ _ _ => trivial) ⟨⟨_, rfl⟩, rfl⟩ (fun d r t s1 O1 ed hJ => ?_) (fun s1 O1 hJ => ?_)
    · obtain ⟨⟨x1, rfl⟩, rfl⟩ := hJ
      unfold spW
      walk_at "g"
      exact ⟨⟨_, rfl⟩, rfl⟩
    · obtain ⟨⟨x1, rfl⟩, rfl⟩ := hJ
      exact ⟨rfl, rfl⟩
  · walk_at "def"
    walk_at "g"
    refine go_isT ?_
    walk_at "g"
    refine go_at (v := .bl true) (O1 := O) rfl ?_
    walk_at "g"
    refine go_loopP spW (fun d s1 O1 => (∃ x1, s1 = [some (.tup (ws.map spW)), x1]) ∧ O1 = O) ws (fun _ _ _ _ => trivial) ⟨⟨_, rfl⟩, rfl⟩ (fun d r t s1 O1 ed hJ => ?_) (fun s1 O1 hJ => ?_)
    · obtain ⟨⟨x1, rfl⟩, rfl⟩ := hJ
      unfold spW
      walk_at "g"
      exact ⟨⟨_, rfl⟩, rfl⟩
    · obtain ⟨⟨x1, rfl⟩, rfl⟩ := hJ
      exact ⟨rfl, rfl⟩
set_option hygiene false in
local macro_rules | `(tactic| walk_at "call") => `(tactic| ((with_reducible refine' go_at (e_check_row (by assumption)) ?_)))
abbrev sieve (rs : List (Int × Int)) : PV := .ins "Sieve" ["runs"] [.tup (rs.map prP)]
theorem g_SvN {O : Sto} {Q : PV → Sto → Prop} (k : ∀ O', Fr O O' → Q (sieve []) O') : Go (m_Sieve___init__ [.loc O.length, .non] (O ++ [some (.ins "Sieve" [] [])])) fun r O2 => r = .non ∧ Go (frzP (.loc O.length) O2) Q := by
  have el : (O ++ [some (PV.ins "Sieve" [] [])] : Sto)[O.length]? = some (some (.ins "Sieve" [] [])) := get_app
  have fr : Fr O (O ++ [some (PV.ins "Sieve" [] [])]) := Fr.refl.app
  walk_at "def"
  walk_at "g"
  refine g_fsE el (by decide) rfl rfl fun O2 e1 e2 e3 => ?_
  have fr := fr.put (Nat.le_refl _) e2 e3
  walk_at "g"
  refine ⟨rfl, go_frzL e1 (k _ (fr.put (Nat.le_refl _) (by simp) fun m hm => by rw [List.getElem?_set_ne (fun z => hm z.symm)]))⟩
theorem g_Sv {p : PV} {ws : List W3} {O : Sto} {Q : PV → Sto → Prop} (hp : p = .lst (ws.map spW) ∨ p = .tup (ws.map spW)) (hl : ws.length ≤ 1000) (k : ∀ O', Fr O O' → Q (sieve (runsOf (ws.map endsW))) O') : Go (m_Sieve___init__ [.loc O.length, p] (O ++ [some (.ins "Sieve" [] [])])) fun r O2 => r = .non ∧ Go (frzP (.loc O.length) O2) Q := by
  have el : (O ++ [some (PV.ins "Sieve" [] [])] : Sto)[O.length]? = some (some (.ins "Sieve" [] [])) := get_app
  have fr : Fr O (O ++ [some (PV.ins "Sieve" [] [])]) := Fr.refl.app
  have it : ∀ O1 : Sto, (match tupOf p with | some ps => some (ps, none) | none => itemsOf O1 p) = some (ws.map spW, none) := fun O1 => by rcases hp with rfl | rfl <;> rfl
  have nn : isNon p = false := by rcases hp with rfl | rfl <;> rfl
  walk_at "def"
  walk_at "g"
  refine g_fsE el (by decide) rfl rfl fun O2 e1 e2 e3 => ?_
  have fr := fr.put (Nat.le_refl _) e2 e3
  walk_at "g"
  rw [nn]
  walk_at "g"
  refine ⟨_, _, it _, ?_⟩
  refine comp_M spW (fun w => prP (endsW w)) ws (by omega) trivial (fun w hw => ?_) ?_
  · unfold spW
    walk_at "g"
    exact ⟨rfl, rfl⟩
  · rw [show ws.map (fun w => prP (endsW w)) = (ws.map endsW).map prP by rw [List.map_map]; rfl]
    walk_at "g"
    have e1 := frj.get e1
    have fr := fr.trans frj
    refine g_fsE e1 (by decide) rfl rfl fun O3 e4 e5 e6 => ?_
    have fr := fr.put (Nat.le_refl _) e5 e6
    refine ⟨rfl, go_frzL e4 (k _ (fr.put (Nat.le_refl _) (by simp) fun m hm => by rw [List.getElem?_set_ne (fun z => hm z.symm)]))⟩
theorem g_SvE {p : PV} {O : Sto} {Q : PV → Sto → Prop} (hp : p = .lst [] ∨ p = .tup []) (k : ∀ O', Fr O O' → Q (sieve []) O') : Go (m_Sieve___init__ [.loc O.length, p] (O ++ [some (.ins "Sieve" [] [])])) fun r O2 => r = .non ∧ Go (frzP (.loc O.length) O2) Q := g_Sv (ws := []) hp (Nat.zero_le _) fun O' f => by
  rw [show runsOf (([] : List W3).map endsW) = [] from runs_same Runs.nil]
  exact k O' f
def strW (r : Int × Int) : W3 := (r.1, r.2 - r.1, 0)
theorem ends_str : ∀ rs : List (Int × Int), (rs.map strW).map endsW = rs
  | [] => rfl
  | (a, b) :: rs => by
    rw [List.map_cons, List.map_cons, ends_str rs]
    refine congrArg (· :: rs) ?_
    unfold endsW strW
    dsimp only
    rw [show a - 0 = a by omega, show a + (b - a) = b by omega]
theorem g_SvR {p : PV} {rs : List (Int × Int)} {O : Sto} {Q : PV → Sto → Prop} (hp : p = .lst ((rs.map strW).map spW) ∨ p = .tup ((rs.map strW).map spW)) (h : Runs rs) (hl : rs.length ≤ 1000) (k : ∀ O', Fr O O' → Q (sieve rs) O') : Go (m_Sieve___init__ [.loc O.length, p] (O ++ [some (.ins "Sieve" [] [])])) fun r O2 => r = .non ∧ Go (frzP (.loc O.length) O2) Q := by
  refine g_Sv (ws := rs.map strW) hp (by rw [List.length_map]; exact hl) fun O' f => ?_
  rw [ends_str, runs_same h]
  exact k O' f
set_option hygiene false in
local macro_rules | `(tactic| walk_at "call") => `(tactic| ((with_reducible refine' g_Sv ?h0 ?h1 ?_); (case h0 => first | exact Or.inl rfl | exact Or.inr rfl); (case h1 => omega); intro Os frs))
set_option hygiene false in
local macro_rules | `(tactic| walk_at "call") => `(tactic| ((with_reducible refine' g_SvR ?h0 ?h1 ?h2 ?_); (case h0 => first | exact Or.inl rfl | exact Or.inr rfl); (case h1 => assumption); (case h2 => omega); intro Os frs))
set_option hygiene false in
local macro_rules | `(tactic| walk_at "call") => `(tactic| ((with_reducible refine' g_SvE ?h0 ?_); (case h0 => first | exact Or.inl rfl | exact Or.inr rfl); intro Os frs))
set_option hygiene false in
local macro_rules | `(tactic| walk_at "call") => `(tactic| ((with_reducible refine' g_SvN ?_); intro Os frs))
theorem e_Sv_eq {rs ts : List (Int × Int)} {O : Sto} : m_Sieve___eq__ [sieve rs, sieve ts] O = .ok (.bl (decide (rs = ts))) O := Go.eq (by
  walk_at "def"
  walk_at "g"
  refine go_eqPT ?_
  exact ⟨rfl, rfl⟩)
set_option hygiene false in
local macro_rules | `(tactic| walk_at "call") => `(tactic| ((with_reducible refine' go_at e_Sv_eq ?_)))
theorem e_Sv_str {rs : List (Int × Int)} {O : Sto} (h : Runs rs) (hl : rs.length ≤ 1000) : m_Sieve_stretches [sieve rs] O = .ok (.tup ((rs.map strW).map spW)) O := Go.eq (by
  walk_at "def"
  walk_at "g"
  refine comp_M prP (fun r => spW (strW r)) rs (by omega) trivial (fun r hr => ?_) ?_
  · obtain ⟨a, b⟩ := r
    have := h.le (a, b) hr
    dsimp only at this
    walk_at "g"
    exact ⟨rfl, rfl⟩
  · walk_at "g"
    exact ⟨by rw [List.map_map]; rfl, rfl⟩)
set_option hygiene false in
local macro_rules | `(tactic| walk_at "call") => `(tactic| ((with_reducible refine' go_at (e_Sv_str ?h0 ?h1) ?_); (case h0 => assumption); (case h1 => omega)))
theorem e_Sv_lets {rs : List (Int × Int)} {x : Int} {O : Sto} (hl : rs.length ≤ 1000) : m_Sieve_lets [sieve rs, .int x] O = .ok (.bl (cov x rs)) O := Go.eq (by
  walk_at "def"
  walk_at "g"
  refine comp_M prP (fun r => .bl (decide (r.1 ≤ x ∧ x ≤ r.2))) rs (by omega) trivial (fun r hr => ?_) ?_
  · walk_at "g"
    refine qbr (fun c => ?_) (fun c => ?_)
    · walk_at "g"
      exact ⟨by simp [c], rfl⟩
    · exact ⟨by simp [c], rfl⟩
  · walk_at "g"
    refine go_any (ns := rs.map fun r => decide (r.1 ≤ x ∧ x ≤ r.2)) (by rw [List.map_map]; rfl) ?_
    exact ⟨by unfold cov; rw [List.any_map]; rfl, rfl⟩)
set_option hygiene false in
local macro_rules | `(tactic| walk_at "call") => `(tactic| ((with_reducible refine' go_at (e_Sv_lets ?h1) ?_); (case h1 => omega)))
def manyI (rs : List (Int × Int)) : Int := (rs.map fun r => r.2 - r.1 + 1).sum
theorem cov_cons {x : Int} {r : Int × Int} {rs : List (Int × Int)} : cov x (r :: rs) = (decide (r.1 ≤ x ∧ x ≤ r.2) || cov x rs) := rfl
theorem Runs.tail {r : Int × Int} {rs : List (Int × Int)} (h : Runs (r :: rs)) : Runs rs := ⟨(List.pairwise_cons.mp h.gap).2, fun x hx => h.le x (by simp [hx])⟩
theorem Runs.far {r : Int × Int} {rs : List (Int × Int)} (h : Runs (r :: rs)) {x : Int} (hx : x ≤ r.2 + 1) : cov x rs = false := by
  unfold cov
  rw [List.any_eq_false]
  intro y hy z
  have z := of_decide_eq_true z
  have := (List.pairwise_cons.mp h.gap).1 y hy
  omega
theorem Runs.low {r : Int × Int} {rs : List (Int × Int)} (h : Runs (r :: rs)) {x : Int} (hx : cov x (r :: rs) = true) : r.1 ≤ x := by
  rw [cov_cons, Bool.or_eq_true] at hx
  rcases hx with hx | hx
  · exact (of_decide_eq_true hx).1
  · have := h.le r (by simp)
    by_cases c : x ≤ r.2 + 1
    · rw [h.far c] at hx; cases hx
    · omega
theorem Runs.at_low {r : Int × Int} {rs : List (Int × Int)} (h : Runs (r :: rs)) : cov r.1 (r :: rs) = true := by
  have := h.le r (by simp)
  rw [cov_cons, decide_eq_true ⟨Int.le_refl _, this⟩]
  rfl
theorem runs_ext : ∀ {a b : List (Int × Int)}, Runs a → Runs b → (∀ x, cov x a = cov x b) → a = b
  | [], [], _, _, _ => rfl
  | [], r :: t, _, hb, h => by
    have := h r.1
    rw [hb.at_low] at this
    cases this
  | r :: s, [], ha, _, h => by
    have := h r.1
    rw [ha.at_low] at this
    cases this
  | (p, q) :: s, (c, d) :: t, ha, hb, h => by
    have e1 : p = c := by
      have h1 := hb.low (x := p) (by rw [← h p]; exact ha.at_low)
      have h2 := ha.low (x := c) (by rw [h c]; exact hb.at_low)
      dsimp only at h1 h2
      omega
    subst e1
    have l1 := ha.le (p, q) (by simp)
    have l2 := hb.le (p, d) (by simp)
    dsimp only at l1 l2
    have e2 : q = d := by
      have k := h (min q d + 1)
      rw [cov_cons, cov_cons] at k
      by_cases c1 : q < d
      · rw [ha.far (by dsimp only; omega), decide_eq_false (by dsimp only; omega), decide_eq_true (by dsimp only; omega)] at k
        cases k
      · by_cases c2 : d < q
        · rw [hb.far (by dsimp only; omega), decide_eq_true (by dsimp only; omega), decide_eq_false (by dsimp only; omega)] at k
          cases k
        · omega
    subst e2
    refine congrArg ((p, q) :: ·) (runs_ext ha.tail hb.tail fun x => ?_)
    by_cases c1 : x ≤ q + 1
    · rw [ha.far c1, hb.far c1]
    · have k := h x
      rw [cov_cons, cov_cons, decide_eq_false (by dsimp only; omega)] at k
      simpa using k
def cnt (f : Int → Bool) (lo : Int) (n : Nat) : Nat := (List.range n).countP fun i => f (lo + (i : Nat))
theorem cnt_or {f g : Int → Bool} {lo : Int} {n : Nat} (h : ∀ x, (f x && g x) = false) : cnt (fun x => f x || g x) lo n = cnt f lo n + cnt g lo n := by
  unfold cnt
  induction n with
  | zero => rfl
  | succ n ih =>
    rw [List.range_succ, List.countP_append, List.countP_append, List.countP_append, ih]
    have := h (lo + (n : Nat))
    simp only [List.countP_cons, List.countP_nil]
    cases e1 : f (lo + (n : Nat)) <;> cases e2 : g (lo + (n : Nat)) <;> simp [e1, e2] at this ⊢ <;> omega
theorem cnt_iv {a b lo : Int} : ∀ {n : Nat}, lo ≤ a → a ≤ b + 1 → b < lo + n → (cnt (fun x => decide (a ≤ x ∧ x ≤ b)) lo n : Int) = b - a + 1
  | n, h1, h2, h3 => by
    have main : ∀ n : Nat, (cnt (fun x => decide (a ≤ x ∧ x ≤ b)) lo n : Int) = if lo + n ≤ a then 0 else if lo + n ≤ b + 1 then lo + n - a else b - a + 1 := fun n => by
      induction n with
      | zero =>
        show ((0 : Nat) : Int) = _
        split <;> (try split) <;> omega
      | succ n ih =>
        unfold cnt at ih ⊢
        rw [List.range_succ, List.countP_append, Int.natCast_add, ih]
        simp only [List.countP_cons, List.countP_nil, decide_eq_true_eq]
        split <;> split <;> (try split) <;> (try split) <;> (try split) <;> omega
    rw [main n]
    split <;> (try split) <;> omega
theorem many_cnt {lo : Int} {n : Nat} : ∀ {rs : List (Int × Int)}, Runs rs → (∀ r ∈ rs, lo ≤ r.1 ∧ r.2 < lo + n) → manyI rs = (cnt (fun x => cov x rs) lo n : Int)
  | [], _, _ => by
    have : cnt (fun x => cov x []) lo n = 0 := by
      unfold cnt
      rw [List.countP_eq_zero]
      intro i _ h
      cases h
    rw [this]
    rfl
  | r :: rs, h, hb => by
    have ih := many_cnt h.tail fun y hy => hb y (by simp [hy])
    have hl := h.le r (by simp)
    have hr := hb r (by simp)
    have e := cnt_or (f := fun x => decide (r.1 ≤ x ∧ x ≤ r.2)) (g := fun x => cov x rs) (lo := lo) (n := n) fun x => by
      by_cases c : r.1 ≤ x ∧ x ≤ r.2
      · rw [h.far (by omega), Bool.and_false]
      · rw [decide_eq_false c, Bool.false_and]
    have e2 := cnt_iv (a := r.1) (b := r.2) (lo := lo) (n := n) hr.1 (by omega) hr.2
    show (r.2 - r.1 + 1 + manyI rs : Int) = _
    have e3 : cnt (fun x => cov x (r :: rs)) lo n = cnt (fun x => decide (r.1 ≤ x ∧ x ≤ r.2)) lo n + cnt (fun x => cov x rs) lo n := e
    rw [e3, Int.natCast_add, e2, ih]
theorem cov_app {x : Int} {a b : List (Int × Int)} : cov x (a ++ b) = (cov x a || cov x b) := by unfold cov; rw [List.any_append]
theorem cov_nilE {x : Int} : cov x [] = false := rfl
theorem cov_one {x : Int} {r : Int × Int} : cov x [r] = decide (r.1 ≤ x ∧ x ≤ r.2) := by rw [cov_cons, cov_nilE, Bool.or_false]
theorem cov_flat {α : Type} {x : Int} {g : α → List (Int × Int)} : ∀ rs : List α, cov x (rs.flatMap g) = rs.any fun r => cov x (g r)
  | [] => rfl
  | r :: rs => by rw [List.flatMap_cons, cov_app, cov_flat rs, List.any_cons]
def Within (lo hi : Int) (rs : List (Int × Int)) : Prop := ∀ y ∈ rs, lo ≤ y.1 ∧ y.1 ≤ y.2 ∧ y.2 ≤ hi
theorem runs_flat {g : Int × Int → List (Int × Int)} : ∀ {rs : List (Int × Int)}, Runs rs → (∀ r ∈ rs, Runs (g r) ∧ Within r.1 r.2 (g r)) → Runs (rs.flatMap g)
  | [], _, _ => Runs.nil
  | r :: rs, h, hg => by
    have ih := runs_flat h.tail fun q hq => hg q (by simp [hq])
    have h1 := hg r (by simp)
    rw [List.flatMap_cons]
    refine ⟨List.pairwise_append.mpr ⟨h1.1.gap, ih.gap, fun a ha b hb => ?_⟩, fun x hx => ?_⟩
    · obtain ⟨q, hq, hb⟩ := List.mem_flatMap.mp hb
      have g1 := (List.pairwise_cons.mp h.gap).1 q hq
      have a1 := h1.2 a ha
      have b1 := (hg q (by simp [hq])).2 b hb
      omega
    · rcases List.mem_append.mp hx with hx | hx
      · exact h1.1.le x hx
      · exact ih.le x hx
def cutR (o r : Int × Int) : List (Int × Int) := (if r.1 < o.1 then [(r.1, min r.2 (o.1 - 1))] else []) ++ (if o.2 < r.2 then [(max r.1 (o.2 + 1), r.2)] else [])
def cut1 (rs : List (Int × Int)) (o : Int × Int) : List (Int × Int) := rs.flatMap (cutR o)
def cutL (rs os : List (Int × Int)) : List (Int × Int) := os.foldl cut1 rs
theorem cutR_ok {o r : Int × Int} (ho : o.1 ≤ o.2) (hr : r.1 ≤ r.2) : Runs (cutR o r) ∧ Within r.1 r.2 (cutR o r) := by
  unfold cutR Within
  by_cases c1 : r.1 < o.1 <;> by_cases c2 : o.2 < r.2
  · rw [if_pos c1, if_pos c2]
    refine ⟨⟨List.pairwise_cons.mpr ⟨fun y hy => ?_, List.pairwise_singleton _ _⟩, fun x hx => ?_⟩, fun x hx => ?_⟩
    · rw [List.mem_singleton.mp hy]; dsimp only; omega
    · rcases List.mem_cons.mp hx with rfl | hx
      · dsimp only; omega
      · rw [List.mem_singleton.mp hx]; dsimp only; omega
    · rcases List.mem_cons.mp hx with rfl | hx
      · dsimp only; omega
      · rw [List.mem_singleton.mp hx]; dsimp only; omega
  · rw [if_pos c1, if_neg c2, List.append_nil]
    refine ⟨⟨List.pairwise_singleton _ _, fun x hx => ?_⟩, fun x hx => ?_⟩ <;> (rw [List.mem_singleton.mp hx]; dsimp only; omega)
  · rw [if_neg c1, if_pos c2, List.nil_append]
    refine ⟨⟨List.pairwise_singleton _ _, fun x hx => ?_⟩, fun x hx => ?_⟩ <;> (rw [List.mem_singleton.mp hx]; dsimp only; omega)
  · rw [if_neg c1, if_neg c2]
    exact ⟨Runs.nil, fun _ h => nomatch h⟩
theorem cov_cutR {x : Int} {o r : Int × Int} : cov x (cutR o r) = (decide (r.1 ≤ x ∧ x ≤ r.2) && !decide (o.1 ≤ x ∧ x ≤ o.2)) := by
  unfold cutR
  rw [cov_app, Bool.eq_iff_iff]
  by_cases c1 : r.1 < o.1 <;> by_cases c2 : o.2 < r.2
  · rw [if_pos c1, if_pos c2, cov_one, cov_one]
    simp only [Bool.or_eq_true, Bool.and_eq_true, Bool.not_eq_true', decide_eq_true_eq, decide_eq_false_iff_not]
    omega
  · rw [if_pos c1, if_neg c2, cov_one, cov_nilE]
    simp only [Bool.or_false, Bool.and_eq_true, Bool.not_eq_true', decide_eq_true_eq, decide_eq_false_iff_not]
    omega
  · rw [if_neg c1, if_pos c2, cov_one, cov_nilE]
    simp only [Bool.false_or, Bool.and_eq_true, Bool.not_eq_true', decide_eq_true_eq, decide_eq_false_iff_not]
    omega
  · rw [if_neg c1, if_neg c2, cov_nilE]
    simp only [Bool.or_self, Bool.false_eq_true, false_iff, Bool.and_eq_true, Bool.not_eq_true', decide_eq_true_eq, decide_eq_false_iff_not]
    omega
theorem cut1_ok {rs : List (Int × Int)} {o : Int × Int} (h : Runs rs) (ho : o.1 ≤ o.2) : Runs (cut1 rs o) := runs_flat h fun r hr => cutR_ok ho (h.le r hr)
theorem cov_cut1 {x : Int} {rs : List (Int × Int)} {o : Int × Int} : cov x (cut1 rs o) = (cov x rs && !decide (o.1 ≤ x ∧ x ≤ o.2)) := by
  unfold cut1
  rw [cov_flat]
  induction rs with
  | nil => rfl
  | cons r rs ih => rw [List.any_cons, ih, cov_cutR, cov_cons, Bool.and_or_distrib_right]
theorem cutL_ok : ∀ {os rs : List (Int × Int)}, Runs rs → (∀ o ∈ os, o.1 ≤ o.2) → Runs (cutL rs os)
  | [], rs, h, _ => h
  | o :: os, rs, h, ho => cutL_ok (os := os) (cut1_ok h (ho o (by simp))) fun q hq => ho q (by simp [hq])
theorem cov_cutL {x : Int} : ∀ {os rs : List (Int × Int)}, cov x (cutL rs os) = (cov x rs && !cov x os)
  | [], rs => by show cov x rs = _; rw [cov_nilE, Bool.not_false, Bool.and_true]
  | o :: os, rs => by
    show cov x (cutL (cut1 rs o) os) = _
    rw [cov_cutL, cov_cut1, cov_cons, Bool.not_or, Bool.and_assoc]
theorem cut1_lenA {o : Int × Int} : ∀ {rs : List (Int × Int)}, (∀ r ∈ rs, o.1 ≤ r.1) → (cut1 rs o).length ≤ rs.length
  | [], _ => Nat.le_refl _
  | r :: rs, h => by
    have ih := cut1_lenA (o := o) (rs := rs) fun q hq => h q (by simp [hq])
    have h1 := h r (by simp)
    unfold cut1 at ih ⊢
    rw [List.flatMap_cons, List.length_append, List.length_cons]
    have : (cutR o r).length ≤ 1 := by
      unfold cutR
      rw [if_neg (by omega), List.nil_append]
      split <;> simp
    omega
theorem cut1_len {o : Int × Int} (ho : o.1 ≤ o.2) : ∀ {rs : List (Int × Int)}, Runs rs → (cut1 rs o).length ≤ rs.length + 1
  | [], _ => Nat.zero_le _
  | r :: rs, h => by
    have ih := cut1_len ho h.tail
    have lt := cut1_lenA (o := o) (rs := rs)
    unfold cut1 at ih lt ⊢
    rw [List.flatMap_cons, List.length_append, List.length_cons]
    by_cases c : r.1 < o.1 ∧ o.2 < r.2
    · have h2 := lt fun q hq => by
        have := (List.pairwise_cons.mp h.gap).1 q hq
        omega
      have : (cutR o r).length ≤ 2 := by
        unfold cutR
        rw [List.length_append]
        split <;> split <;> simp
      omega
    · have : (cutR o r).length ≤ 1 := by
        unfold cutR
        rw [List.length_append]
        split <;> split <;> simp <;> omega
      omega
theorem runs_inB {B : Int} {rs : List (Int × Int)} (h : Runs rs) (hc : ∀ x, cov x rs = true → -B ≤ x ∧ x ≤ B) : ∀ r ∈ rs, inB B r := fun r hr => by
  have l := h.le r hr
  have at_ : ∀ x, r.1 ≤ x → x ≤ r.2 → cov x rs = true := fun x h1 h2 => by
    unfold cov
    exact List.any_eq_true.mpr ⟨r, hr, decide_eq_true ⟨h1, h2⟩⟩
  have h1 := hc _ (at_ r.1 (Int.le_refl _) l)
  have h2 := hc _ (at_ r.2 l (Int.le_refl _))
  exact ⟨h1.1, h1.2, h2.1, h2.2⟩
theorem inB_cov {B : Int} {rs : List (Int × Int)} (hb : ∀ r ∈ rs, inB B r) (x : Int) (h : cov x rs = true) : -B ≤ x ∧ x ≤ B := by
  unfold cov at h
  obtain ⟨r, hr, h⟩ := List.any_eq_true.mp h
  have h := of_decide_eq_true h
  have := hb r hr
  unfold inB at this
  omega
/-! what the program's but does -/
def butG : List (Int × Int) → Int → Int → List (Int × Int)
  | [], at_, hi => if at_ ≤ hi then [(at_, hi)] else []
  | (c, d) :: os, at_, hi => if at_ ≤ d ∧ c ≤ hi then (if at_ < c then [(at_, c - 1)] else []) ++ butG os (d + 1) hi else butG os at_ hi
def butF (hi : Int) (z : Int × List (Int × Int)) (o : Int × Int) : Int × List (Int × Int) := if z.1 ≤ o.2 ∧ o.1 ≤ hi then (o.2 + 1, if z.1 < o.1 then z.2 ++ [(z.1, o.1 - 1)] else z.2) else z
def butE (hi : Int) (z : Int × List (Int × Int)) : List (Int × Int) := if z.1 ≤ hi then z.2 ++ [(z.1, hi)] else z.2
theorem butG_cons {c d at_ hi : Int} {os : List (Int × Int)} : butG ((c, d) :: os) at_ hi = if at_ ≤ d ∧ c ≤ hi then (if at_ < c then [(at_, c - 1)] else []) ++ butG os (d + 1) hi else butG os at_ hi := rfl
theorem butE_eq {hi : Int} : ∀ (os : List (Int × Int)) (z : Int × List (Int × Int)), butE hi (os.foldl (butF hi) z) = z.2 ++ butG os z.1 hi
  | [], z => by
    show butE hi z = _
    unfold butE butG
    split <;> simp
  | (c, d) :: os, z => by
    rw [List.foldl_cons, butE_eq os, butG_cons]
    unfold butF
    dsimp only
    split
    · split <;> simp
    · rfl
def butL (rs os : List (Int × Int)) : List (Int × Int) := rs.flatMap fun r => butG os r.1 r.2
theorem butG_ok {hi : Int} : ∀ {os : List (Int × Int)} {at_ : Int}, Runs os → Runs (butG os at_ hi) ∧ Within at_ hi (butG os at_ hi)
  | [], at_, _ => by
    unfold butG Within
    split
    · refine ⟨⟨List.pairwise_singleton _ _, fun x hx => ?_⟩, fun x hx => ?_⟩ <;> (rw [List.mem_singleton.mp hx]; dsimp only; omega)
    · exact ⟨Runs.nil, fun _ h => nomatch h⟩
  | (c, d) :: os, at_, h => by
    have hl := h.le (c, d) (by simp)
    dsimp only at hl
    unfold butG
    split
    · rename_i q
      obtain ⟨i1, i2⟩ := butG_ok (hi := hi) (at_ := d + 1) h.tail
      split
      · rename_i q2
        refine ⟨⟨List.pairwise_cons.mpr ⟨fun y hy => ?_, i1.gap⟩, fun x hx => ?_⟩, fun x hx => ?_⟩
        · have := i2 y hy; dsimp only; omega
        · rcases List.mem_cons.mp hx with rfl | hx
          · dsimp only; omega
          · exact i1.le x hx
        · rcases List.mem_cons.mp hx with rfl | hx
          · dsimp only; omega
          · have := i2 x hx; omega
      · rw [List.nil_append]
        exact ⟨i1, fun x hx => by have := i2 x hx; omega⟩
    · exact butG_ok h.tail
theorem cov_butG {hi x : Int} : ∀ {os : List (Int × Int)} {at_ : Int}, Runs os → cov x (butG os at_ hi) = (decide (at_ ≤ x ∧ x ≤ hi) && !cov x os)
  | [], at_, _ => by
    unfold butG
    rw [cov_nilE, Bool.not_false, Bool.and_true]
    split
    · rw [cov_one]
    · rw [cov_nilE, decide_eq_false (by omega)]
  | (c, d) :: os, at_, h => by
    have hl := h.le (c, d) (by simp)
    have far : x ≤ d + 1 → cov x os = false := fun q => h.far q
    dsimp only at hl
    unfold butG
    rw [cov_cons]
    dsimp only
    split
    · rename_i q
      rw [cov_app, cov_butG h.tail]
      by_cases cx : x ≤ d + 1
      · rw [far cx, Bool.not_false, Bool.and_true, Bool.or_false, Bool.eq_iff_iff]
        split
        · rw [cov_one]
          simp only [Bool.or_eq_true, Bool.and_eq_true, Bool.not_eq_true', decide_eq_true_eq, decide_eq_false_iff_not]
          omega
        · rw [cov_nilE]
          simp only [Bool.false_or, Bool.and_eq_true, Bool.not_eq_true', decide_eq_true_eq, decide_eq_false_iff_not]
          omega
      · have e1 : cov x (if at_ < c then [(at_, c - 1)] else []) = false := by
          split
          · rw [cov_one]; exact decide_eq_false (by dsimp only; omega)
          · rfl
        rw [e1, Bool.false_or, decide_eq_false (show ¬ (c ≤ x ∧ x ≤ d) by omega), Bool.false_or]
        congr 1
        rw [decide_eq_decide]
        omega
    · rename_i q
      rw [cov_butG h.tail]
      by_cases cx : c ≤ x ∧ x ≤ d
      · rw [decide_eq_true cx, Bool.true_or, Bool.not_true, Bool.and_false, decide_eq_false (by omega), Bool.false_and]
      · rw [decide_eq_false cx, Bool.false_or]
theorem butL_ok {rs os : List (Int × Int)} (h : Runs rs) (ho : Runs os) : Runs (butL rs os) := runs_flat h fun r hr => butG_ok ho
theorem cov_butL {x : Int} {rs os : List (Int × Int)} (ho : Runs os) : cov x (butL rs os) = (cov x rs && !cov x os) := by
  unfold butL
  rw [cov_flat]
  induction rs with
  | nil => rfl
  | cons r rs ih => rw [List.any_cons, ih, cov_butG ho, cov_cons, Bool.and_or_distrib_right]
theorem but_cut {rs os : List (Int × Int)} (h : Runs rs) (ho : Runs os) : butL rs os = cutL rs os := runs_ext (butL_ok h ho) (cutL_ok h ho.le) fun x => by rw [cov_butL ho, cov_cutL]
/-! what both have -/
def bothR (r o : Int × Int) : List (Int × Int) := if max r.1 o.1 ≤ min r.2 o.2 then [(max r.1 o.1, min r.2 o.2)] else []
def bothF (rs os : List (Int × Int)) : List (Int × Int) := rs.flatMap fun r => os.flatMap (bothR r)
theorem cov_bothR {x : Int} {r o : Int × Int} : cov x (bothR r o) = (decide (r.1 ≤ x ∧ x ≤ r.2) && decide (o.1 ≤ x ∧ x ≤ o.2)) := by
  unfold bothR
  rw [Bool.eq_iff_iff]
  split
  · rw [cov_one]
    dsimp only
    simp only [Bool.and_eq_true, decide_eq_true_eq]
    omega
  · rw [cov_nilE]
    simp only [Bool.false_eq_true, false_iff, Bool.and_eq_true, decide_eq_true_eq]
    omega
theorem cov_bothF {x : Int} {rs os : List (Int × Int)} : cov x (bothF rs os) = (cov x rs && cov x os) := by
  have e : ∀ r : Int × Int, cov x (os.flatMap (bothR r)) = (decide (r.1 ≤ x ∧ x ≤ r.2) && cov x os) := fun r => by
    rw [cov_flat]
    induction os with
    | nil => rw [cov_nilE, Bool.and_false]; rfl
    | cons o os ih => rw [List.any_cons, ih, cov_bothR, cov_cons, Bool.and_or_distrib_left]
  unfold bothF
  rw [cov_flat]
  induction rs with
  | nil => rfl
  | cons r rs ih => rw [List.any_cons, ih, e, cov_cons, Bool.and_or_distrib_right]
theorem bothF_le {rs os : List (Int × Int)} : ∀ z ∈ bothF rs os, z.1 ≤ z.2 := fun z hz => by
  unfold bothF at hz
  obtain ⟨r, _, hz⟩ := List.mem_flatMap.mp hz
  obtain ⟨o, _, hz⟩ := List.mem_flatMap.mp hz
  unfold bothR at hz
  split at hz
  · rw [List.mem_singleton.mp hz]; assumption
  · cases hz
theorem flat_len {α β : Type} {g : α → List β} {n : Nat} : ∀ {rs : List α}, (∀ r ∈ rs, (g r).length ≤ n) → (rs.flatMap g).length ≤ rs.length * n
  | [], _ => by simp
  | r :: rs, h => by
    have ih := flat_len (g := g) (rs := rs) fun q hq => h q (by simp [hq])
    have := h r (by simp)
    rw [List.flatMap_cons, List.length_append, List.length_cons, Nat.add_mul]
    omega
theorem bothF_len {rs os : List (Int × Int)} : (bothF rs os).length ≤ rs.length * os.length := flat_len fun r _ => by
  have := flat_len (g := bothR r) (n := 1) (rs := os) fun o _ => by unfold bothR; split <;> simp
  omega
theorem both_cut {rs os : List (Int × Int)} (h : Runs rs) (ho : Runs os) : runsOf (bothF rs os) = cutL rs (cutL rs os) := by
  have k := cutL_ok (os := os) h ho.le
  refine runs_ext (runs_ok bothF_le) (cutL_ok h k.le) fun x => ?_
  rw [cov_runs bothF_le, cov_bothF, cov_cutL, cov_cutL]
  cases cov x rs <;> cases cov x os <;> rfl
theorem Runs.one {o : Int × Int} (h : o.1 ≤ o.2) : Runs [o] := ⟨List.pairwise_singleton _ _, fun x hx => by rw [List.mem_singleton.mp hx]; exact h⟩
theorem app_le {rs os : List (Int × Int)} (h : Runs rs) (ho : Runs os) : ∀ z ∈ rs ++ os, z.1 ≤ z.2 := fun z hz => (List.mem_append.mp hz).elim (h.le z) (ho.le z)
theorem butF_len {hi : Int} : ∀ (os : List (Int × Int)) (z : Int × List (Int × Int)), (os.foldl (butF hi) z).2.length ≤ z.2.length + os.length
  | [], z => Nat.le_refl _
  | o :: os, z => by
    have h := butF_len (hi := hi) os (butF hi z o)
    have h2 : (butF hi z o).2.length ≤ z.2.length + 1 := by
      unfold butF
      split
      · dsimp only
        split <;> simp
      · omega
    rw [List.foldl_cons, List.length_cons]
    omega
theorem butG_len {hi : Int} : ∀ (os : List (Int × Int)) (a : Int), (butG os a hi).length ≤ os.length + 1
  | [], a => by unfold butG; split <;> simp
  | (c, d) :: os, a => by
    have h1 := butG_len (hi := hi) os (d + 1)
    have h2 := butG_len (hi := hi) os a
    rw [butG_cons, List.length_cons]
    split
    · rw [List.length_append]
      split <;> simp <;> omega
    · omega
theorem g_either_of {rs os : List (Int × Int)} {O : Sto} {Q : PV → Sto → Prop} (hr : rs.length ≤ 100) (ho : os.length ≤ 100) (k : ∀ O', Fr O O' → Q (.tup ((runsOf (rs ++ os)).map prP)) O') : Go (m_either_of [.tup (rs.map prP), .tup (os.map prP)] O) Q := by
  walk_at "def"
  walk_at "c"
  refine go_catA (rs := (rs ++ os).map prP) (sz_le (by simp only [List.length_map]; omega)) (by rw [List.map_append]) ?_
  walk_at "c"
  exact g_joinedX (fun _ _ => rfl) (by rw [List.length_append]; omega) k
theorem g_both_of {rs os : List (Int × Int)} {O : Sto} {Q : PV → Sto → Prop} (hr : rs.length ≤ 100) (ho : os.length ≤ 100) (hm : rs.length * os.length ≤ 1000) (k : ∀ O', Fr O O' → Q (.tup ((runsOf (bothF rs os)).map prP)) O') : Go (m_both_of [.tup (rs.map prP), .tup (os.map prP)] O) Q := by
  have lF : ∀ d : List (Int × Int), d.length ≤ 100 → (bothF d os).length ≤ 10000 := fun d hd => by
    have h1 := bothF_len (rs := d) (os := os)
    have h2 : d.length * os.length ≤ 100 * 100 := Nat.mul_le_mul hd ho
    omega
  walk_at "def"
  walk_at "g"
  refine go_loopP prP (fun d s1 O1 => (∃ x3 x4 x5 x6, s1 = [some (.tup (rs.map prP)), some (.tup (os.map prP)), some (.loc O.length), x3, x4, x5, x6]) ∧ O1[O.length]? = some (some (.lst ((bothF d os).map prP))) ∧ Fr O O1) rs (fun _ _ _ _ => trivial) ⟨⟨_, _, _, _, rfl⟩, get_app, Fr.refl.app⟩ (fun d r t s1 O1 ed hJ => ?_) (fun s1 O1 hJ => ?_)
  · obtain ⟨⟨x3, x4, x5, x6, rfl⟩, el, fr⟩ := hJ
    have hd : d.length ≤ 100 := by rw [ed] at hr; simp at hr; omega
    have hF := lF d hd
    obtain ⟨c, c'⟩ := r
    walk_at "g"
    refine go_loopP prP (fun d2 s2 O2 => (∃ x5 x6, s2 = [some (.tup (rs.map prP)), some (.tup (os.map prP)), some (.loc O.length), some (.int c), some (.int c'), x5, x6]) ∧ O2[O.length]? = some (some (.lst ((bothF d os ++ d2.flatMap (bothR (c, c'))).map prP))) ∧ Fr O O2) os (fun _ _ _ _ => trivial) ⟨⟨_, _, rfl⟩, by rw [List.flatMap_nil, List.append_nil]; exact el, fr⟩ (fun d2 q t2 s2 O2 ed2 hJ2 => ?_) (fun s2 O2 hJ2 => ?_)
    · obtain ⟨⟨x5, x6, rfl⟩, el2, fr2⟩ := hJ2
      have hd2 : d2.length ≤ 100 := by rw [ed2] at ho; simp at ho; omega
      have hB : (d2.flatMap (bothR (c, c'))).length ≤ 100 := by
        have := flat_len (g := bothR (c, c')) (n := 1) (rs := d2) fun o _ => by unfold bothR; split <;> simp
        omega
      obtain ⟨a, b⟩ := q
      have e1 : (d2 ++ [(a, b)]).flatMap (bothR (c, c')) = d2.flatMap (bothR (c, c')) ++ bothR (c, c') (a, b) := by rw [List.flatMap_append]; simp
      walk_at "g"
      refine qbr (fun c1 => ?_) (fun c1 => ?_)
      · walk_at "g"
        refine go_appF el2 (szl_le (by rw [List.length_map, List.length_append]; omega)) fun O3 e3 e4 e5 => ?_
        refine ⟨⟨_, _, rfl⟩, ?_, fr2.put (Nat.le_refl _) e4 e5⟩
        rw [e3, e1, show bothR (c, c') (a, b) = [(max c a, min c' b)] from if_pos c1, ← List.append_assoc, List.map_append (l₂ := [_])]
        rfl
      · refine ⟨⟨_, _, rfl⟩, ?_, fr2⟩
        rw [e1, show bothR (c, c') (a, b) = [] from if_neg c1, List.append_nil]
        exact el2
    · obtain ⟨⟨x5, x6, rfl⟩, el2, fr2⟩ := hJ2
      refine ⟨⟨_, _, _, _, rfl⟩, ?_, fr2⟩
      have e1 : bothF (d ++ [(c, c')]) os = bothF d os ++ os.flatMap (bothR (c, c')) := by unfold bothF; rw [List.flatMap_append]; simp
      rw [e1]
      exact el2
  · obtain ⟨⟨x3, x4, x5, x6, rfl⟩, el, fr⟩ := hJ
    walk_at "c"
    refine g_joinedX (zs := bothF rs os) (fun O' f => seq_loc (f.get el)) ?_ fun O' f => ?_
    · have := bothF_len (rs := rs) (os := os); omega
    · exact k _ (fr.trans f)
theorem g_but_of {rs os : List (Int × Int)} {O : Sto} {Q : PV → Sto → Prop} (hr : rs.length ≤ 100) (ho : os.length ≤ 100) (k : ∀ O', Fr O O' → Q (.tup ((butL rs os).map prP)) O') : Go (m_but_of [.tup (rs.map prP), .tup (os.map prP)] O) Q := by
  have lB : ∀ d : List (Int × Int), d.length ≤ 100 → (butL d os).length ≤ 20000 := fun d hd => by
    have h1 := flat_len (g := fun r : Int × Int => butG os r.1 r.2) (n := 101) (rs := d) fun o _ => by
      have := butG_len (hi := o.2) os o.1
      omega
    unfold butL
    omega
  walk_at "def"
  walk_at "g"
  refine go_loopP prP (fun d s1 O1 => (∃ x3 x4 x5 x6 x7, s1 = [some (.tup (rs.map prP)), some (.tup (os.map prP)), some (.loc O.length), x3, x4, x5, x6, x7]) ∧ O1[O.length]? = some (some (.lst ((butL d os).map prP))) ∧ Fr O O1) rs (fun _ _ _ _ => trivial) ⟨⟨_, _, _, _, _, rfl⟩, get_app, Fr.refl.app⟩ (fun d r t s1 O1 ed hJ => ?_) (fun s1 O1 hJ => ?_)
  · obtain ⟨⟨x3, x4, x5, x6, x7, rfl⟩, el, fr⟩ := hJ
    have hd : d.length ≤ 100 := by rw [ed] at hr; simp at hr; omega
    have hF := lB d hd
    obtain ⟨c, c'⟩ := r
    walk_at "g"
    refine go_loopP prP (fun d2 s2 O2 => (∃ x6 x7, s2 = [some (.tup (rs.map prP)), some (.tup (os.map prP)), some (.loc O.length), some (.int c), some (.int c'), some (.int (d2.foldl (butF c') (c, butL d os)).1), x6, x7]) ∧ O2[O.length]? = some (some (.lst (((d2.foldl (butF c') (c, butL d os)).2).map prP))) ∧ Fr O O2) os (fun _ _ _ _ => trivial) ⟨⟨_, _, rfl⟩, el, fr⟩ (fun d2 q t2 s2 O2 ed2 hJ2 => ?_) (fun s2 O2 hJ2 => ?_)
    · obtain ⟨⟨x6, x7, rfl⟩, el2, fr2⟩ := hJ2
      have hd2 : d2.length ≤ 100 := by rw [ed2] at ho; simp at ho; omega
      have hB := butF_len (hi := c') d2 (c, butL d os)
      dsimp only at hB
      obtain ⟨a, b⟩ := q
      rw [show (d2 ++ [(a, b)]).foldl (butF c') (c, butL d os) = butF c' (d2.foldl (butF c') (c, butL d os)) (a, b) by rw [List.foldl_append]; rfl]
      generalize d2.foldl (butF c') (c, butL d os) = z at el2 hB ⊢
      obtain ⟨at_, acc⟩ := z
      dsimp only at el2 hB ⊢
      walk_at "g"
      refine qbr (fun c1 => ?_) (fun c1 => ?_)
      · walk_at "g"
        refine qbr (fun c2 => ?_) (fun c2 => ?_)
        · rw [show butF c' (at_, acc) (a, b) = (b + 1, if at_ < a then acc ++ [(at_, a - 1)] else acc) from if_pos ⟨c1, c2⟩]
          dsimp only
          walk_at "g"
          refine qbr (fun c3 => ?_) (fun c3 => ?_)
          · walk_at "g"
            refine go_appF el2 (szl_le (by rw [List.length_map]; omega)) fun O3 e3 e4 e5 => ?_
            walk_at "g"
            refine ⟨⟨_, _, rfl⟩, ?_, fr2.put (Nat.le_refl _) e4 e5⟩
            rw [if_pos c3, e3, List.map_append]
            rfl
          · walk_at "g"
            refine ⟨⟨_, _, rfl⟩, ?_, fr2⟩
            rw [if_neg c3]
            exact el2
        · rw [show butF c' (at_, acc) (a, b) = (at_, acc) from if_neg fun z => c2 z.2]
          walk_at "g"
          exact ⟨⟨_, _, rfl⟩, el2, fr2⟩
      · rw [show butF c' (at_, acc) (a, b) = (at_, acc) from if_neg fun z => c1 z.1]
        walk_at "g"
        exact ⟨⟨_, _, rfl⟩, el2, fr2⟩
    · obtain ⟨⟨x6, x7, rfl⟩, el2, fr2⟩ := hJ2
      have e1 : butL (d ++ [(c, c')]) os = butE c' (os.foldl (butF c') (c, butL d os)) := by
        rw [butE_eq]
        unfold butL
        rw [List.flatMap_append]
        simp
      have hB := butF_len (hi := c') os (c, butL d os)
      dsimp only at hB
      rw [e1]
      generalize os.foldl (butF c') (c, butL d os) = z at el2 hB ⊢
      obtain ⟨at_, acc⟩ := z
      dsimp only at el2 hB ⊢
      walk_at "g"
      refine qbr (fun c1 => ?_) (fun c1 => ?_)
      · walk_at "g"
        refine go_appF el2 (szl_le (by rw [List.length_map]; omega)) fun O3 e3 e4 e5 => ?_
        refine ⟨⟨_, _, _, _, _, rfl⟩, ?_, fr2.put (Nat.le_refl _) e4 e5⟩
        unfold butE
        rw [if_pos c1, e3, List.map_append]
        rfl
      · walk_at "g"
        refine ⟨⟨_, _, _, _, _, rfl⟩, ?_, fr2⟩
        unfold butE
        rw [if_neg c1]
        exact el2
  · obtain ⟨⟨x3, x4, x5, x6, x7, rfl⟩, el, fr⟩ := hJ
    walk_at "g"
    exact k _ fr
theorem g_sieve_of {rs : List (Int × Int)} {O : Sto} {Q : PV → Sto → Prop} (h : Runs rs) (hl : rs.length ≤ 1000) (k : ∀ O', Fr O O' → Q (sieve rs) O') : Go (m_sieve_of [.tup (rs.map prP)] O) Q := by
  walk_at "def"
  walk_at "g"
  refine comp_M prP (fun r => spW (strW r)) rs (by omega) trivial (fun r hr => ?_) ?_
  · obtain ⟨a, b⟩ := r
    have := h.le (a, b) hr
    dsimp only at this
    walk_at "g"
    exact ⟨rfl, rfl⟩
  · walk_at "c"
    refine g_SvR (.inl (by rw [List.map_map]; rfl)) h hl fun O' f => ?_
    exact k _ f
theorem e_check_sieve {rs : List (Int × Int)} {O : Sto} : m_check_sieve [sieve rs] O = .ok .non O := Go.eq (by
  walk_at "def"
  walk_at "g"
  exact ⟨rfl, rfl⟩)
set_option hygiene false in
local macro_rules | `(tactic| walk_at "call") => `(tactic| ((with_reducible refine' go_at e_check_sieve ?_)))
theorem cutL_len : ∀ {os rs : List (Int × Int)}, Runs rs → (∀ o ∈ os, o.1 ≤ o.2) → (cutL rs os).length ≤ rs.length + os.length
  | [], _, _, _ => by simp [cutL]
  | o :: os, rs, h, ho => by
    have h1 := cut1_len (ho o List.mem_cons_self) h
    have h2 := cutL_len (os := os) (cut1_ok h (ho o List.mem_cons_self)) fun z hz => ho z (List.mem_cons_of_mem _ hz)
    show (cutL (cut1 rs o) os).length ≤ _
    rw [List.length_cons]
    omega
structure SvO (n : Nat) (rs : List (Int × Int)) : Prop where
  ok : Runs rs
  bd : ∀ x, cov x rs = true → -1000000 ≤ x ∧ x ≤ 1000000
  len : rs.length ≤ n
abbrev orL (rs os : List (Int × Int)) := runsOf (rs ++ os)
abbrev andL (rs os : List (Int × Int)) := runsOf (bothF rs os)
section
variable {n m : Nat} {rs os ts : List (Int × Int)} {x : Int}
theorem cov_or (h : SvO n rs) (ho : SvO m os) : cov x (orL rs os) = (cov x rs || cov x os) := by rw [cov_runs (app_le h.ok ho.ok), cov_app]
theorem cov_and : cov x (andL rs os) = (cov x rs && cov x os) := by rw [cov_runs bothF_le, cov_bothF]
theorem cov_but (ho : SvO m os) : cov x (butL rs os) = (cov x rs && !cov x os) := cov_butL ho.ok
theorem SvO.inB (h : SvO n rs) : ∀ r ∈ rs, inB 1000000 r := runs_inB h.ok h.bd
theorem SvO.or (h : SvO n rs) (ho : SvO m os) : SvO (n + m) (orL rs os) := ⟨runs_ok (app_le h.ok ho.ok), fun x hx => by
  rw [cov_or h ho] at hx
  rcases Bool.or_eq_true_iff.mp hx with z | z
  · exact h.bd x z
  · exact ho.bd x z, by
  show (runsOf (rs ++ os)).length ≤ _
  have := runs_len (rs ++ os)
  rw [List.length_append] at this
  have := h.len
  have := ho.len
  omega⟩
theorem SvO.and (h : SvO n rs) (ho : SvO m os) : SvO (2 * n + m) (andL rs os) := ⟨runs_ok bothF_le, fun x hx => by
  rw [cov_and] at hx
  exact h.bd x (Bool.and_eq_true_iff.mp hx).1, by
  show (runsOf (bothF rs os)).length ≤ _
  rw [both_cut h.ok ho.ok]
  have h1 := cutL_len h.ok ho.ok.le
  have h2 := cutL_len h.ok (cutL_ok h.ok ho.ok.le).le
  have := h.len
  have := ho.len
  omega⟩
theorem SvO.but (h : SvO n rs) (ho : SvO m os) : SvO (n + m) (butL rs os) := ⟨butL_ok h.ok ho.ok, fun x hx => by
  rw [cov_but ho] at hx
  exact h.bd x (Bool.and_eq_true_iff.mp hx).1, by
  rw [but_cut h.ok ho.ok]
  have h1 := cutL_len h.ok ho.ok.le
  have := h.len
  have := ho.len
  omega⟩
theorem SvO.eq (h : SvO n rs) (ho : SvO m os) (e : ∀ x, cov x rs = cov x os) : rs = os := runs_ext h.ok ho.ok e
theorem SvO.nil (h : SvO n rs) (e : ∀ x, cov x rs = false) : rs = [] := runs_ext h.ok Runs.nil fun x => by rw [e x]; rfl
theorem SvO.cnt (h : SvO n rs) : manyI rs = (cnt (fun x => cov x rs) (-1000000) 2000001 : Int) := many_cnt h.ok fun r hr => by
  have := h.inB r hr
  unfold Qg.inB at this
  omega
def unl (rs ts : List (Int × Int)) : Option (Bool × Int) := match butL rs ts, butL ts rs with
  | [], [] => none
  | a :: _, [] => some (true, a.1)
  | [], b :: _ => some (false, b.1)
  | a :: _, b :: _ => if b.1 < a.1 then some (false, b.1) else some (true, a.1)
def unlW : Bool → Str
  | true => Str.ofString "one"
  | false => Str.ofString "other"
def unlP : Option (Bool × Int) → PV
  | none => .non
  | some (b, x) => .tup [.str (unlW b), .int x]
theorem but_self (h : SvO n rs) : butL rs rs = [] := (h.but h).nil fun x => by rw [cov_but h]; cases cov x rs <;> rfl
theorem unl_self (h : SvO n rs) : unl rs rs = none := by
  unfold unl
  rw [but_self h]
end
section
variable {n m : Nat} {rs os : List (Int × Int)} {O : Sto} {Q : PV → Sto → Prop}
theorem g_Sv_either (h : SvO n rs) (ho : SvO m os) (hn : n ≤ 100) (hm : m ≤ 100) (k : ∀ O', Fr O O' → Q (sieve (orL rs os)) O') : Go (m_Sieve_either [sieve rs, sieve os] O) Q := by
  have l1 := h.len
  have l2 := ho.len
  have s := h.or ho
  have l3 : (runsOf (rs ++ os)).length ≤ n + m := s.len
  walk_at "def"
  walk_at "g"
  refine g_either_of (by omega) (by omega) fun O1 f1 => ?_
  walk_at "g"
  exact g_sieve_of s.ok (by omega) fun O2 f2 => k O2 (f1.trans f2)
theorem g_Sv_both (h : SvO n rs) (ho : SvO m os) (hn : n ≤ 100) (hm : m ≤ 100) (hp : n * m ≤ 1000) (k : ∀ O', Fr O O' → Q (sieve (andL rs os)) O') : Go (m_Sieve_both [sieve rs, sieve os] O) Q := by
  have l1 := h.len
  have l2 := ho.len
  have s := h.and ho
  have l3 : (runsOf (bothF rs os)).length ≤ 2 * n + m := s.len
  walk_at "def"
  walk_at "g"
  refine g_both_of (by omega) (by omega) (Nat.le_trans (Nat.mul_le_mul l1 l2) hp) fun O1 f1 => ?_
  walk_at "g"
  exact g_sieve_of s.ok (by omega) fun O2 f2 => k O2 (f1.trans f2)
theorem g_Sv_but (h : SvO n rs) (ho : SvO m os) (hn : n ≤ 100) (hm : m ≤ 100) (k : ∀ O', Fr O O' → Q (sieve (butL rs os)) O') : Go (m_Sieve_but [sieve rs, sieve os] O) Q := by
  have l1 := h.len
  have l2 := ho.len
  have s := h.but ho
  have l3 := s.len
  walk_at "def"
  walk_at "g"
  refine g_but_of (by omega) (by omega) fun O1 f1 => ?_
  walk_at "g"
  exact g_sieve_of s.ok (by omega) fun O2 f2 => k O2 (f1.trans f2)
end
theorem cut_1 {ps : List PV} : cutP ps none (some 1) = ps.take 1 := by
  have e1 : ∀ n, HT.sIx n 0 none = 0 := fun n => rfl
  unfold cutP
  rw [e1, List.drop_zero]
  have e2 : HT.sIx ps.length ps.length (some 1) = min 1 ps.length := by unfold HT.sIx; simp
  rw [e2]
  cases ps <;> simp
def one1 (b : Bool) (r : Int × Int) : PV := .tup [.str (unlW b), .int r.1]
theorem g_unlike {n m : Nat} {rs os : List (Int × Int)} {O : Sto} {Q : PV → Sto → Prop} (hT : O[0]? = some (some (.tbl tl_Sieve_unlike))) (h : SvO n rs) (ho : SvO m os) (hn : n ≤ 100) (hm : m ≤ 100) (k : ∀ O', Fr O O' → Q (unlP (unl rs os)) O') : Go (m_Sieve_unlike [sieve rs, sieve os] O) Q := by
  have l1 := h.len
  have l2 := ho.len
  walk_at "def"
  walk_at "g"
  refine g_but_of (by omega) (by omega) fun O1 f1 => ?_
  walk_at "g"
  rw [cut_1, ← List.map_take]
  refine comp_M prP (one1 true) ((butL rs os).take 1) (by simp; omega) trivial (fun r hr => ?_) ?_
  · obtain ⟨a, b⟩ := r
    unfold prP
    walk_at "g"
    exact ⟨rfl, rfl⟩
  walk_at "g"
  refine g_but_of (by omega) (by omega) fun O2 f2 => ?_
  walk_at "g"
  rw [cut_1, ← List.map_take]
  refine comp_M prP (one1 false) ((butL os rs).take 1) (by simp; omega) trivial (fun r hr => ?_) ?_
  · obtain ⟨a, b⟩ := r
    unfold prP
    walk_at "g"
    exact ⟨rfl, rfl⟩
  walk_at "g"
  have e1 : (O1 ++ [some (.lst (((butL rs os).take 1).map (one1 true)))])[O1.length]? = some (some (.lst (((butL rs os).take 1).map (one1 true)))) := get_app
  refine go_extF (f2.get e1) rfl (sz_le (by simp; omega)) fun O3 g1 g2 g3 => ?_
  have f3 : Fr O O3 := Fr.trans f1 (Fr.put (Fr.trans (Fr.refl.app) f2) (Nat.le_refl _) g2 g3)
  walk_at "g"
  walk_at "g"
  have gt := f3.get hT
  have hk := k O3 f3
  clear k
  unfold unl at hk
  cases ea : butL rs os with
  | nil =>
    cases eb : butL os rs with
    | nil =>
      simp only [ea, eb, List.take_nil, List.map_nil, List.append_nil] at g1 hk
      exact go_minKey gt (lst_loc g1) rfl ⟨fun _ => hk, fun v hv => by simp at hv⟩
    | cons b t2 =>
      simp only [ea, eb, List.take_nil, List.map_nil, List.nil_append, List.take_succ_cons, List.take_zero, List.map_cons] at g1 hk
      refine go_minKey gt (lst_loc g1) (ks := [b.1]) rfl ⟨fun z => (nomatch z), fun v hv => ?_⟩
      cases hv
      exact hk
  | cons a t1 =>
    cases eb : butL os rs with
    | nil =>
      simp only [ea, eb, List.take_nil, List.map_nil, List.append_nil, List.take_succ_cons, List.take_zero, List.map_cons] at g1 hk
      refine go_minKey gt (lst_loc g1) (ks := [a.1]) rfl ⟨fun z => (nomatch z), fun v hv => ?_⟩
      cases hv
      exact hk
    | cons b t2 =>
      simp only [ea, eb, List.map_nil, List.take_succ_cons, List.take_zero, List.map_cons, List.cons_append, List.nil_append] at g1 hk
      refine go_minKey gt (lst_loc g1) (ks := [a.1, b.1]) rfl ⟨fun z => (nomatch z), fun v hv => ?_⟩
      by_cases c : b.1 < a.1
      · rw [if_pos c] at hk
        have e : minIx [a.1, b.1] 2 = 1 := by
          show (if decide (b.1 < a.1) = true then 1 else 0) = 1
          rw [if_pos (decide_eq_true c)]
        rw [show [one1 true a, one1 false b].length = 2 from rfl, e] at hv
        cases hv
        exact hk
      · rw [if_neg c] at hk
        have e : minIx [a.1, b.1] 2 = 0 := by
          show (if decide (b.1 < a.1) = true then 1 else 0) = 0
          rw [if_neg (by simpa using c)]
        rw [show [one1 true a, one1 false b].length = 2 from rfl, e] at hv
        cases hv
        exact hk
def GoodW (w : W3) : Prop := 0 ≤ w.2.1 + w.2.2 ∧ (-995000 ≤ w.1 ∧ w.1 ≤ 995000) ∧ (-1000 ≤ w.2.1 ∧ w.2.1 ≤ 1000) ∧ -1000 ≤ w.2.2 ∧ w.2.2 ≤ 1000
theorem g__law_row {p : Nat} {n : Int} {b : Bool} {O : Sto} {Q : PV → Sto → Prop} (pu : Pu O p) (n0 : 0 ≤ n) (n1 : n ≤ 13) (k : ∀ (ws : List W3) O', (ws.length : Int) = n → (∀ w ∈ ws, GoodW w) → Pu O' p → (∀ m : Nat, m < O.length → m ≠ p → O'[m]? = O[m]?) → O.length ≤ O'.length → Q (.lst (ws.map rowP)) O') : Go (m__law_row [.loc p, .int n, .bl b] O) Q := by
  have hp : p < O.length := by
    obtain ⟨a, b, c, e, _⟩ := pu
    exact lt_of_get e
  cases hb : b
  all_goals
    walk_at "def"
    walk_at "g"
    refine go_loop (fun i s1 O1 => ∃ (ws : List W3) (x4 x5 x6 : Option PV), s1 = [some (.loc p), some (.int n), some (.bl _), some (.loc O.length), x4, x5, x6] ∧ O1[O.length]? = some (some (.lst (ws.map rowP))) ∧ Pu O1 p ∧ ws.length = i ∧ (∀ w ∈ ws, GoodW w) ∧ (∀ m : Nat, m < O.length → m ≠ p → O1[m]? = O[m]?) ∧ O.length < O1.length) _ 0 _ _ ⟨[], _, _, _, rfl, get_app, Fr.pu Fr.refl.app pu, rfl, (fun _ h => (nomatch h)), (fun m hm _ => List.getElem?_append_left hm), by simp⟩ (fun i q s1 O1 hi hJ => ?_) (fun s1 O1 hJ => ?_)
    · obtain ⟨ws, x4, x5, x6, rfl, el, pu, hw, ga, fr, ln⟩ := hJ
      obtain ⟨hi1, rfl⟩ := rgL_get hi
      have h := Ph.start pu
      walk_at "g"
      have el := (h.oth _ (by omega)).trans el
      have pu := h.pu
      have ol := h.len
      have oh := h.oth
      refine ⟨some_loc el, ?_⟩
      walk_at "g"
      refine go_catA rfl rfl ?_
      walk_at "g"
      refine go_appF el (szl_le (by rw [List.length_map]; omega)) fun O2 e1 e2 e3 => ?_
      refine ⟨ws ++ [(_, _, _)], _, _, _, rfl, by rw [e1, List.map_append]; rfl, ?_, by simp [hw], fun w hm => ?_, fun m hm hm2 => ?_, by omega⟩
      · obtain ⟨a, b, c, e, e4⟩ := pu
        exact ⟨a, b, c, by rw [e3 p (by omega)]; exact e, e4⟩
      · rcases List.mem_append.mp hm with hm | hm
        · exact ga w hm
        · rw [List.mem_singleton.mp hm]
          unfold GoodW
          dsimp only
          omega
      · rw [e3 m (by omega), oh m hm2]
        exact fr m hm hm2
    · obtain ⟨ws, x4, x5, x6, rfl, el, pu, hw, ga, fr, ln⟩ := hJ
      rw [rgL_len] at hw
      walk_at "g"
      refine go_frzL el (k ws _ (by omega) ga ?_ (fun m hm hm2 => by rw [List.getElem?_set_ne (by omega)]; exact fr m hm hm2) (by rw [List.length_set]; omega))
      obtain ⟨a, b, c, e, e4⟩ := pu
      exact ⟨a, b, c, by rw [List.getElem?_set_ne (by omega)]; exact e, e4⟩
set_option hygiene false in
local macro_rules | `(tactic| walk_at "call") => `(tactic| ((with_reducible refine' g__law_row ?h0 ?h1 ?h2 ?_); (case h0 => assumption); (case h1 => omega); (case h2 => omega); intro ws Ow hws gws pu frw lnw))
theorem SvO.row {ws : List W3} {n : Nat} (hz : ∀ w ∈ ws, GoodW w) (hl : ws.length ≤ n) : SvO n (runsOf (ws.map endsW)) := ⟨runs_ok fun z hm => by
  obtain ⟨w, hw, rfl⟩ := List.mem_map.mp hm
  have := (hz w hw).1
  unfold endsW
  dsimp only
  omega, inB_cov (runs_bd fun z hm => by
  obtain ⟨w, hw, rfl⟩ := List.mem_map.mp hm
  have := hz w hw
  unfold GoodW at this
  unfold Qg.inB endsW
  dsimp only
  omega), by
  have := runs_len (ws.map endsW)
  rw [List.length_map] at this
  omega⟩
theorem cov_row {ws : List W3} (hz : ∀ w ∈ ws, GoodW w) (x : Int) : cov x (runsOf (ws.map endsW)) = cov x (ws.map endsW) := cov_runs fun z hm => by
  obtain ⟨w, hw, rfl⟩ := List.mem_map.mp hm
  have := (hz w hw).1
  unfold endsW
  dsimp only
  omega
theorem row_or {ws us : List W3} (hz : ∀ w ∈ ws, GoodW w) (hu : ∀ w ∈ us, GoodW w) : orL (runsOf (ws.map endsW)) (runsOf (us.map endsW)) = runsOf ((ws ++ us).map endsW) := by
  have g : ∀ w ∈ ws ++ us, GoodW w := fun w hw => (List.mem_append.mp hw).elim (hz w) (hu w)
  have h := SvO.row hz (Nat.le_refl _)
  have ho := SvO.row hu (Nat.le_refl _)
  refine (h.or ho).eq (SvO.row g (Nat.le_refl _)) fun x => ?_
  rw [cov_or h ho, cov_row hz, cov_row hu, cov_row g, List.map_append, cov_app]
theorem bT {A B : Prop} {b : Bool} (h : b = true) (k : A) : if b = true then A else B := by rw [if_pos h]; exact k
theorem bF {A B : Prop} {b : Bool} (h : b = false) (k : B) : if b = true then A else B := by rw [if_neg (by rw [h]; exact Bool.false_ne_true)]; exact k
theorem goe_bindE {α β : Type} {X : PExc → Sto → Prop} {Q : β → Sto → Prop} {r : PR α} {h : α → Sto → PR β} (k : GoE X r fun v O1 => GoE X (h v O1) Q) : GoE X (r.bind h) Q := by
  cases r <;> exact k
theorem goe_frz {X : PExc → Sto → Prop} {a : EF} {s : Slots} {O : Sto} {Q : PV → Sto → Prop} (k : GoE X (a s O) fun p O1 => GoE X (frzP p O1) Q) : GoE X (eFrz a s O) Q := goe_bindE k
theorem goe_makeOX {X : PExc → Sto → Prop} {C : Str} {m : MF} {dps : List PV} {f : AF} {s : Slots} {O : Sto} {Q : PV → Sto → Prop} (k : Go (f s O) fun ps O1 => GoE X (m (.loc O1.length :: (ps ++ dps)) (O1 ++ [some (.ins C [] [])])) fun _ _ => False) : GoE X (eMakeOX C m dps f s O) Q := goe_bind (k.mono fun ps O1 h => by
  cases e : m (.loc O1.length :: (ps ++ dps)) (O1 ++ [some (.ins C [] [])]) with
  | ok v O2 => rw [e] at h; exact absurd h id
  | exc x O2 => rw [e] at h; exact h
  | bad => rw [e] at h; exact absurd h id)
abbrev xSp : PExc := ⟨.cls "NoSpan", [], []⟩
abbrev xSv : PExc := ⟨.cls "NoSieve", [], []⟩
abbrev xMs : PExc := ⟨.cls "NoMeasure", [], []⟩
def OddC (c : Str) (p : PV) : Prop := ∃ t, (∀ O, tyOf O p = some t) ∧ kitP cs t (.cls c) = some false
def OddR (p : PV) : Prop := ∀ O, isiTP cs p [.ty "list", .ty "tuple"] O = .ok (.bl false) O
def OddM (p : PV) : Prop := ∀ O, m_is_measure [p] O = .ok (.bl false) O
theorem x_check_span {p : PV} {O : Sto} (h : OddC "Span" p) : m_check_span [p] O = .exc xSp O := by
  obtain ⟨t, e, e2⟩ := h
  refine GoE.exc (goe_def rfl rfl ?_)
  refine go_ifS (go_tnot (go_tst (go_cb ?_)))
  walk_at "c"
  refine go_isi (e O) e2 ?_
  walk_at "c"
  exact gos_raise ⟨rfl, rfl⟩
theorem x_check_sieve {p : PV} {O : Sto} (h : OddC "Sieve" p) : m_check_sieve [p] O = .exc xSv O := by
  obtain ⟨t, e, e2⟩ := h
  refine GoE.exc (goe_def rfl rfl ?_)
  refine go_ifS (go_tnot (go_tst (go_cb ?_)))
  walk_at "c"
  refine go_isi (e O) e2 ?_
  walk_at "c"
  exact gos_raise ⟨rfl, rfl⟩
theorem x_check_measure {p : PV} {O : Sto} (h : OddM p) : m_check_measure [p] O = .exc xMs O := by
  refine GoE.exc (goe_def (s' := [some p]) rfl rfl ?_)
  refine go_ifS (go_tnot (go_tst (go_call ?_)))
  walk_at "c"
  first
    | refine go_at (h O) ?_
    | (refine g_m rfl ?_; first | refine go_at (h O) ?_ | refine go_noXM (go_at (h O) ?_))
  walk_at "c"
  exact gos_raise ⟨rfl, rfl⟩
theorem x_row_kind {p : PV} {O : Sto} (h : OddR p) : m_check_row [p] O = .exc xSp O := by
  refine GoE.exc (goe_def (s' := [some p, none]) rfl rfl ?_)
  refine go_seq (go_ifS (go_tnot (go_tst ?_)))
  refine go_isT ?_
  walk_at "c"
  refine go_at (h O) ?_
  walk_at "c"
  exact gos_raise ⟨rfl, rfl⟩
theorem x_row_item {ws : List W3} {q p : PV} {rest : List PV} {O : Sto} (hq : OddC "Span" q) (hp : p = .lst (ws.map spW ++ q :: rest) ∨ p = .tup (ws.map spW ++ q :: rest)) : m_check_row [p] O = .exc xSp O := by
  rcases hp with rfl | rfl
  all_goals
    refine GoE.exc (goe_def (s' := [some _, none]) rfl rfl ?_)
    refine go_seq (go_ifS (go_tnot (go_tst ?_)))
    refine go_isT ?_
    walk_at "c"
    refine go_at (v := .bl true) (O1 := O) rfl ?_
    walk_at "g"
    refine go_loop (fun i s1 O1 => ∃ x1, s1 = [some _, x1] ∧ O1 = O ∧ i ≤ ws.length) _ 0 _ _ ⟨_, rfl, rfl, Nat.zero_le _⟩ (fun i p s1 O1 hi hJ => ?_) (fun s1 O1 hJ => ?_)
    · obtain ⟨x1, rfl, rfl, hle⟩ := hJ
      by_cases c : i < ws.length
      · rw [List.getElem?_append_left (by rw [List.length_map]; exact c), List.getElem?_map, List.getElem?_eq_getElem c] at hi
        cases hi
        unfold spW
        walk_at "g"
        exact ⟨_, rfl, rfl, by omega⟩
      · obtain rfl : i = ws.length := by omega
        rw [List.getElem?_append_right (by rw [List.length_map]; omega), List.length_map, Nat.sub_self] at hi
        cases hi
        refine go_nm (s' := [some _, some q]) rfl ?_
        refine gos_expE (goe_call ?_)
        walk_at "c"
        refine g_me rfl ?_
        exact goe_at (x_check_span hq) ⟨rfl, rfl⟩
    · obtain ⟨x1, rfl, rfl, hle⟩ := hJ
      simp only [List.length_append, List.length_map, List.length_cons] at hle
      omega
theorem x_init {p : PV} {O : Sto} {X : PExc → Sto → Prop} (hn : isNon p = false) (h : ∀ O, m_check_row [p] O = .exc xSp O) (k : ∀ O', Fr O O' → X xSp O') : GoE X (m_Sieve___init__ [.loc O.length, p] (O ++ [some (.ins "Sieve" [] [])])) fun _ _ => False := by
  have el : (O ++ [some (PV.ins "Sieve" [] [])] : Sto)[O.length]? = some (some (.ins "Sieve" [] [])) := get_app
  have fr : Fr O (O ++ [some (PV.ins "Sieve" [] [])]) := Fr.refl.app
  refine goe_def (s' := [some (.loc O.length), some p, none]) rfl rfl ?_
  walk_at "c"
  refine g_fsE el (by decide) rfl rfl fun O2 e1 e2 e3 => ?_
  have fr := fr.put (Nat.le_refl _) e2 e3
  refine go_ifS (go_tst ?_)
  walk_at "c"
  rw [hn]
  refine bT rfl ?_
  walk_at "sx"
  exact goe_at (h O2) (k O2 fr)
theorem x_either {rs : List (Int × Int)} {p : PV} {O : Sto} (h : OddC "Sieve" p) : m_Sieve_either [sieve rs, p] O = .exc xSv O := by
  refine GoE.exc (goe_def (s' := [some (sieve rs), some p]) rfl rfl ?_)
  walk_at "sx"
  exact goe_at (x_check_sieve h) ⟨rfl, rfl⟩
theorem x_both {rs : List (Int × Int)} {p : PV} {O : Sto} (h : OddC "Sieve" p) : m_Sieve_both [sieve rs, p] O = .exc xSv O := by
  refine GoE.exc (goe_def (s' := [some (sieve rs), some p]) rfl rfl ?_)
  walk_at "sx"
  exact goe_at (x_check_sieve h) ⟨rfl, rfl⟩
theorem x_but {rs : List (Int × Int)} {p : PV} {O : Sto} (h : OddC "Sieve" p) : m_Sieve_but [sieve rs, p] O = .exc xSv O := by
  refine GoE.exc (goe_def (s' := [some (sieve rs), some p]) rfl rfl ?_)
  walk_at "sx"
  exact goe_at (x_check_sieve h) ⟨rfl, rfl⟩
theorem x_unlike {rs : List (Int × Int)} {p : PV} {O : Sto} (h : OddC "Sieve" p) : m_Sieve_unlike [sieve rs, p] O = .exc xSv O := by
  refine GoE.exc (goe_def (s' := [some (sieve rs), some p, none, none]) rfl rfl ?_)
  walk_at "sx"
  exact goe_at (x_check_sieve h) ⟨rfl, rfl⟩
theorem x_lets {rs : List (Int × Int)} {p : PV} {O : Sto} (h : OddM p) : m_Sieve_lets [sieve rs, p] O = .exc xMs O := by
  refine GoE.exc (goe_def (s' := [some (sieve rs), some p, none, none]) rfl rfl ?_)
  walk_at "sx"
  exact goe_at (x_check_measure h) ⟨rfl, rfl⟩
inductive ExK : PExc → Int → Prop
  | sp : ExK xSp 0
  | sv : ExK xSv 1
  | ms : ExK xMs 2
theorem e_kind0 {O : Sto} : m__law_kind_of [.xc "NoSpan" [] []] O = .ok (.int 0) O := by rfl
theorem e_kind1 {O : Sto} : m__law_kind_of [.xc "NoSieve" [] []] O = .ok (.int 1) O := by rfl
theorem e_kind2 {O : Sto} : m__law_kind_of [.xc "NoMeasure" [] []] O = .ok (.int 2) O := by rfl
theorem g_caught {rs : List (Int × Int)} {d kd : Int} {p : PV} {e : PExc} {O1 : Sto} {Q : PV → Sto → Prop} (hk : ExK e kd) (k : Q (.int kd) O1) : TryK { nx := fun s2 O2 => GoS { nx := fun _ O3 => Q .non O3, rt := Q, bk := fun _ _ => False, ct := fun _ _ => False } ((sSeq (sIf (tOrP (tTst (eOp isN (eVar 3) (eC .non))) (tNotP (tTst (eCB (isxP xt xa) (aCons (eVar 3) (aCons (eC (.ty "ValueError")) aNil)))))) (sRet (eC (.str "told"))) sSkip) (sRet (eCall m__law_kind_of [] (aCons (eVar 3) aNil)))) s2 O2), rt := Q, bk := fun _ _ => False, ct := fun _ _ => False } 4 (cmX xt (.own "FitError")) (sAsg (eVar 4) (gNm 3)) e [some (sieve rs), some (.int d), some p, some .non, none] O1 := by
  cases hk with
  | sp =>
    refine ⟨_, true, rfl, by decide +kernel, ?_⟩
    rw [if_pos rfl]
    walk_at "g"
    refine go_at (v := .bl true) (O1 := O1) rfl ?_
    walk_at "g"
    refine go_at e_kind0 ?_
    exact k
  | sv =>
    refine ⟨_, true, rfl, by decide +kernel, ?_⟩
    rw [if_pos rfl]
    walk_at "g"
    refine go_at (v := .bl true) (O1 := O1) rfl ?_
    walk_at "g"
    refine go_at e_kind1 ?_
    exact k
  | ms =>
    refine ⟨_, true, rfl, by decide +kernel, ?_⟩
    rw [if_pos rfl]
    walk_at "g"
    refine go_at (v := .bl true) (O1 := O1) rfl ?_
    walk_at "g"
    refine go_at e_kind2 ?_
    exact k
theorem g_asked0 {rs : List (Int × Int)} {p : PV} {O : Sto} {Q : PV → Sto → Prop} (hn : isNon p = false) (h : ∀ O, m_check_row [p] O = .exc xSp O) (k : ∀ O', Fr O O' → Q (.int 0) O') : Go (m__law_asked [sieve rs, .int 0, p] O) Q := by
  refine go_def (s' := [some (sieve rs), some (.int 0), some p, none, none]) rfl rfl ?_
  walk_at "c"
  refine gos_try ?_
  walk_at "c"
  refine bT rfl ?_
  refine gos_expE (goe_frz (goe_makeOX ?_))
  walk_at "c"
  exact x_init hn h fun O' f => g_caught .sp (k O' f)
theorem g_asked1 {rs : List (Int × Int)} {p : PV} {O : Sto} {Q : PV → Sto → Prop} (h : OddC "Sieve" p) (k : Q (.int 1) O) : Go (m__law_asked [sieve rs, .int 1, p] O) Q := by
  refine go_def (s' := [some (sieve rs), some (.int 1), some p, none, none]) rfl rfl ?_
  walk_at "c"
  refine gos_try ?_
  walk_at "c"
  refine bF rfl ?_
  refine go_ifS (go_tst ?_)
  walk_at "c"
  refine bT rfl ?_
  refine gos_expE (goe_meth ?_)
  walk_at "c"
  refine g_me rfl ?_
  exact goe_at (x_either h) (g_caught .sv k)
theorem g_asked2 {rs : List (Int × Int)} {p : PV} {O : Sto} {Q : PV → Sto → Prop} (h : OddC "Sieve" p) (k : Q (.int 1) O) : Go (m__law_asked [sieve rs, .int 2, p] O) Q := by
  refine go_def (s' := [some (sieve rs), some (.int 2), some p, none, none]) rfl rfl ?_
  walk_at "c"
  refine gos_try ?_
  walk_at "c"
  refine bF rfl ?_
  refine go_ifS (go_tst ?_)
  walk_at "c"
  refine bF rfl ?_
  refine go_ifS (go_tst ?_)
  walk_at "c"
  refine bT rfl ?_
  refine gos_expE (goe_meth ?_)
  walk_at "c"
  refine g_me rfl ?_
  exact goe_at (x_both h) (g_caught .sv k)
theorem g_asked3 {rs : List (Int × Int)} {p : PV} {O : Sto} {Q : PV → Sto → Prop} (h : OddC "Sieve" p) (k : Q (.int 1) O) : Go (m__law_asked [sieve rs, .int 3, p] O) Q := by
  refine go_def (s' := [some (sieve rs), some (.int 3), some p, none, none]) rfl rfl ?_
  walk_at "c"
  refine gos_try ?_
  walk_at "c"
  refine bF rfl ?_
  refine go_ifS (go_tst ?_)
  walk_at "c"
  refine bF rfl ?_
  refine go_ifS (go_tst ?_)
  walk_at "c"
  refine bF rfl ?_
  refine go_ifS (go_tst ?_)
  walk_at "c"
  refine bT rfl ?_
  refine gos_expE (goe_meth ?_)
  walk_at "c"
  refine g_me rfl ?_
  exact goe_at (x_but h) (g_caught .sv k)
theorem g_asked4 {rs : List (Int × Int)} {p : PV} {O : Sto} {Q : PV → Sto → Prop} (h : OddC "Sieve" p) (k : Q (.int 1) O) : Go (m__law_asked [sieve rs, .int 4, p] O) Q := by
  refine go_def (s' := [some (sieve rs), some (.int 4), some p, none, none]) rfl rfl ?_
  walk_at "c"
  refine gos_try ?_
  walk_at "c"
  refine bF rfl ?_
  refine go_ifS (go_tst ?_)
  walk_at "c"
  refine bF rfl ?_
  refine go_ifS (go_tst ?_)
  walk_at "c"
  refine bF rfl ?_
  refine go_ifS (go_tst ?_)
  walk_at "c"
  refine bF rfl ?_
  refine go_ifS (go_tst ?_)
  walk_at "c"
  refine bT rfl ?_
  refine gos_expE (goe_meth ?_)
  walk_at "c"
  refine g_me rfl ?_
  exact goe_at (x_unlike h) (g_caught .sv k)
theorem g_asked5 {rs : List (Int × Int)} {p : PV} {O : Sto} {Q : PV → Sto → Prop} (h : OddM p) (k : Q (.int 2) O) : Go (m__law_asked [sieve rs, .int 5, p] O) Q := by
  refine go_def (s' := [some (sieve rs), some (.int 5), some p, none, none]) rfl rfl ?_
  walk_at "c"
  refine gos_try ?_
  walk_at "c"
  refine bF rfl ?_
  refine go_ifS (go_tst ?_)
  walk_at "c"
  refine bF rfl ?_
  refine go_ifS (go_tst ?_)
  walk_at "c"
  refine bF rfl ?_
  refine go_ifS (go_tst ?_)
  walk_at "c"
  refine bF rfl ?_
  refine go_ifS (go_tst ?_)
  walk_at "c"
  refine bF rfl ?_
  refine gos_expE (goe_meth ?_)
  walk_at "c"
  refine g_me rfl ?_
  exact goe_at (x_lets h) (g_caught .ms k)
structure Sq (p : Nat) (O : Sto) : Prop where
  pu : Pu O p
  pos : 0 < p
  tb : O[0]? = some (some (.tbl tl_Sieve_unlike))
theorem Sq.fr {p : Nat} {O O' : Sto} (h : Sq p O) (f : Fr O O') : Sq p O' := ⟨f.pu h.pu, h.pos, f.get h.tb⟩
theorem Sq.ph {p : Nat} {O O' : Sto} (h : Sq p O) (f : Ph O p O') : Sq p O' := ⟨f.pu, h.pos, (f.oth 0 (by have := h.pos; omega)).trans h.tb⟩
theorem cut_takeP {ps : List PV} {j : Nat} {a : Int} (ha : a = (j : Int)) : cutP ps none (some a) = ps.take j := by
  subst ha
  have e1 : HT.sIx ps.length 0 none = 0 := rfl
  have e2 : HT.sIx ps.length ps.length (some (j : Int)) = min j ps.length := by
    unfold HT.sIx
    simp
    omega
  unfold cutP
  rw [e1, e2, List.drop_zero, Nat.sub_zero]
  by_cases c : j ≤ ps.length
  · rw [Nat.min_eq_left c]
  · rw [Nat.min_eq_right (by omega), List.take_length, List.take_of_length_le (by omega)]
theorem cutP_len9 {ps : List PV} {i j : Option Int} : (cutP ps i j).length ≤ ps.length := by
  unfold cutP
  rw [List.length_take, List.length_drop]
  omega
theorem odd11 : ∀ q, q ∈ [PV.tup [.int 5, .int 1, .int 1], .int 5, .str (Str.ofString "5"), .bl true, .lst [], .tup [], .dic [] [], .non, .tup [.lst []], .lst [.int 5], sieve []] → OddC "Span" q := by
  intro q hq
  simp only [List.mem_cons, List.not_mem_nil, or_false] at hq
  rcases hq with rfl | rfl | rfl | rfl | rfl | rfl | rfl | rfl | rfl | rfl | rfl <;> exact ⟨_, fun _ => rfl, by decide +kernel⟩
theorem odd6 {w : W3} {rs : List (Int × Int)} : ∀ q, q ∈ [PV.int 5, .str (Str.ofString "5"), .bl true, .dic [] [], spW w, sieve rs] → OddR q ∧ isNon q = false := by
  intro q hq
  simp only [List.mem_cons, List.not_mem_nil, or_false] at hq
  rcases hq with rfl | rfl | rfl | rfl | rfl | rfl <;> refine ⟨fun O => ?_, rfl⟩ <;> (unfold isiTP tyOf; first | rfl | (simp only; rfl))
theorem odd10 {w : W3} {ws : List W3} : ∀ q, q ∈ [PV.int 5, .str (Str.ofString "5"), .bl true, .dic [] [], .lst [], .tup [], .non, spW w, .lst (ws.map spW), .tup [.lst []]] → OddC "Sieve" q := by
  intro q hq
  simp only [List.mem_cons, List.not_mem_nil, or_false] at hq
  rcases hq with rfl | rfl | rfl | rfl | rfl | rfl | rfl | rfl | rfl | rfl <;> exact ⟨_, fun _ => rfl, by decide +kernel⟩
theorem oddMs {w : W3} : ∀ q, q ∈ [PV.str (Str.ofString "5"), .bl true, .bl false, .non, .lst [], .lst [.int 5], .tup [.int 5], .dic [] [], .tup [.lst []], spW w] → OddM q := by
  intro q hq O
  simp only [List.mem_cons, List.not_mem_nil, or_false] at hq
  rcases hq with rfl | rfl | rfl | rfl | rfl | rfl | rfl | rfl | rfl | rfl <;> refine Go.eq ?_ <;> (try unfold spW) <;> walk_at "def" <;> walk_at "g" <;> exact ⟨rfl, rfl⟩
theorem g__law_odd {p : Nat} {O : Sto} {Q : PV → Sto → Prop} (sq : Sq p O) (k : ∀ q O', OddC "Span" q → Sq p O' → Q q O') : Go (m__law_odd [.loc p] O) Q := by
  walk_at "def"
  walk_at "c"
  refine g_SvN fun O1 f1 => ?_
  have sq1 := sq.fr f1
  walk_at "c"
  refine g__law_take (Ph.start sq1.pu) (by omega) (by omega) fun i O2 a b h => ?_
  refine go_ixR rfl a (by simp only [List.length_cons, List.length_nil]; omega) fun q hq => ?_
  walk_at "c"
  exact k q O2 (odd11 q hq) (sq1.ph h)
theorem go_neI4 {a : List Int} {O : Sto} {Q : PV → Sto → Prop} (hl : SeqAt.shaped (.list (a.map .int)) = true) (k : Q (.bl false) O) : Go (neD (.lst (a.map .int)) (.lst (a.map .int)) O) Q := by
  have e : ∀ xs : List Int, toDL (xs.map PV.int) = some (xs.map PyData.int) := fun xs => by
    induction xs with
    | nil => rfl
    | cons x xs ih =>
      show (match some (PyData.int x), toDL (xs.map PV.int) with
        | some d, some ds => some (d :: ds)
        | _, _ => none) = _
      rw [ih]
      rfl
  refine go_neDd (d := .list (a.map .int)) (d' := .list (a.map .int)) (by show (toDL (a.map PV.int)).map PyData.list = _; rw [e]; rfl) (by show (toDL (a.map PV.int)).map PyData.list = _; rw [e]; rfl) (by rw [hl]; rfl) ?_
  have hc : PyData.canLay0 (.list (a.map .int)) = true := by
    have := hl
    unfold SeqAt.shaped at this
    simp only [Bool.and_eq_true] at this
    exact this.1
  rw [show PyData.eqv (.list (a.map .int)) (.list (a.map .int)) = true from SeqAt.eqv_refl _ hc]
  exact k
theorem g__law_refused {p : Nat} {ws : List W3} {O : Sto} {Q : PV → Sto → Prop} (sq : Sq p O) (hw : ∀ w ∈ ws, GoodW w) (h1 : 1 ≤ ws.length) (h5 : ws.length ≤ 5) (k : ∀ O', Sq p O' → Q (.bl true) O') : Go (m__law_refused [.loc p, .lst (ws.map rowP)] O) Q := by
  obtain ⟨w0, e0⟩ : ∃ w0, atI (ws.map spW) 0 = some (spW w0) := by
    cases ws with
    | nil => cases h1
    | cons w ws => exact ⟨w, atI_nat (j := 0) rfl⟩
  walk_at "def"
  refine comp_M rowP spW ws (by omega) trivial (fun w h => ?_) ?_
  · have g := (hw w h).1
    unfold rowP spW
    walk_at "g"
    exact ⟨rfl, rfl⟩
  walk_at "c"
  refine g_Sv (.inl rfl) (by omega) fun O1 f1 => ?_
  have sq1 := sq.fr f1
  obtain ⟨rs, hrs⟩ : ∃ rs, rs = runsOf (ws.map endsW) := ⟨_, rfl⟩
  rw [← hrs]
  walk_at "c"
  rw [List.length_map]
  refine g__law_take (Ph.start sq1.pu) (by omega) (by omega) fun at_ O2 a2 b2 h2 => ?_
  walk_at "c"
  refine g__law_take h2 (by omega) (by omega) fun pick O3 a3 b3 h3 => ?_
  have sq3 := sq1.ph h3
  walk_at "c"
  refine g__law_odd sq3 fun od O4 hod sq4 => ?_
  walk_at "c"
  rw [cut_takeP (j := at_.toNat) (by omega), ← List.map_take]
  refine go_catL rfl rfl (sz_le (by simp only [List.length_map, List.length_take, List.length_cons, List.length_nil]; omega)) ?_
  walk_at "c"
  refine g__law_take (Ph.start sq4.pu) (by omega) (by omega) fun i5 O5 a5 b5 h5' => ?_
  have sq5 := sq4.ph h5'
  obtain ⟨j, ej⟩ : ∃ j : Int, atI [PV.int 0, .int 1] i5 = some (.int j) := by
    rcases (by omega : i5 = 0 ∨ i5 = 1) with rfl | rfl
    · exact ⟨0, rfl⟩
    · exact ⟨1, rfl⟩
  refine go_ixL rfl ej ?_
  walk_at "c"
  have lc := cutP_len9 (ps := ws.map spW) (i := some (at_ + j)) (j := none)
  rw [List.length_map] at lc
  refine go_catL rfl rfl (sz_le (by simp only [List.length_append, List.length_map, List.length_take, List.length_cons, List.length_nil]; omega)) ?_
  generalize cutP (ws.map spW) (some (at_ + j)) none = rest at *
  walk_at "c"
  refine g__law_take (Ph.start sq5.pu) (by omega) (by omega) fun i6 O6 a6 b6 h6 => ?_
  have sq6 := sq5.ph h6
  refine go_ixR rfl a6 (by simp only [List.length_cons, List.length_nil]; omega) fun q hq => ?_
  have hq : q = .lst ((ws.take at_.toNat).map spW ++ od :: rest) ∨ q = .tup ((ws.take at_.toNat).map spW ++ od :: rest) := by
    simp only [List.mem_cons, List.not_mem_nil, or_false] at hq
    rcases hq with rfl | rfl
    · exact .inl (by rw [List.append_assoc]; rfl)
    · exact .inr (by rw [List.append_assoc]; rfl)
  walk_at "c"
  refine g_asked0 (by rcases hq with rfl | rfl <;> rfl) (fun O => x_row_item hod hq) fun O7 f7 => ?_
  have sq7 := sq6.fr f7
  walk_at "g"
  refine go_ixL rfl e0 ?_
  walk_at "c"
  refine go_ixR rfl a3 (by simp only [List.length_cons, List.length_nil]; omega) fun q2 hq2 => ?_
  obtain ⟨hq2, hn2⟩ := odd6 q2 hq2
  walk_at "c"
  refine g_asked0 hn2 (fun O => x_row_kind hq2) fun O8 f8 => ?_
  have sq8 := sq7.fr f8
  walk_at "g"
  refine go_ixL rfl e0 ?_
  walk_at "c"
  refine g__law_take (Ph.start sq8.pu) (by omega) (by omega) fun i9 O9 a9 b9 h9 => ?_
  have sq9 := sq8.ph h9
  refine go_ixR rfl a9 (by simp only [List.length_cons, List.length_nil]; omega) fun q3 hq3 => ?_
  have hq3 := odd10 q3 hq3
  walk_at "c"
  refine g_asked1 hq3 ?_
  walk_at "c"
  refine g_asked2 hq3 ?_
  walk_at "c"
  refine g_asked3 hq3 ?_
  walk_at "c"
  refine g_asked4 hq3 ?_
  walk_at "c"
  refine go_neI4 (a := [1, 1, 1, 1]) (by decide +kernel) ?_
  walk_at "g"
  refine go_ixL rfl e0 ?_
  walk_at "c"
  refine g__law_take (Ph.start sq9.pu) (by omega) (by omega) fun ia Oa aa ba ha => ?_
  have sqa := sq9.ph ha
  refine go_ixR rfl aa (by simp only [List.length_cons, List.length_nil]; omega) fun q4 hq4 => ?_
  have hq4 := oddMs q4 hq4
  walk_at "c"
  refine g_asked5 hq4 ?_
  walk_at "c"
  refine bT (by decide) ?_
  walk_at "c"
  refine g_Sv (ws := ws) (.inl rfl) (by omega) fun Ob fb => ?_
  have sqb := sqa.fr fb
  rw [← hrs]
  walk_at "c"
  refine go_at e_Sv_eq ?_
  walk_at "c"
  rw [decide_eq_true rfl]
  exact k _ sqb
abbrev tz (i : Int) : Str := Str.ofString (toString i)
theorem log_ok {i : Int} (h : -1000000000000 ≤ i ∧ i ≤ 1000000000000) : i.natAbs.log2 < 1920 := by
  by_cases c : i.natAbs = 0
  · rw [c]; decide
  · rw [Nat.log2_lt c]
    exact Nat.lt_of_le_of_lt (show i.natAbs ≤ 1000000000000 by omega) (Nat.lt_of_lt_of_le (show 1000000000000 < 2 ^ 40 by decide) (Nat.pow_le_pow_right (by decide) (by decide)))
theorem mul_1 (z : Str) : Txt.mul z 1 = z := rfl
theorem mul_0 (z : Str) : Txt.mul z 0 = Str.empty := rfl
theorem go_rep01 {z : Str} {b : Bool} {O : Sto} {Q : PV → Sto → Prop} (hz : z.length ≤ 1000) (k : Q (.str (if b = true then z else Str.empty)) O) : Go (repS (.str z) (.int (if b then 1 else 0)) O) Q := by
  unfold repS
  simp only
  have : mulOkS z (if b = true then 1 else 0) = true := by
    unfold mulOkS
    refine decide_eq_true ⟨by split <;> decide, by split <;> decide, ?_⟩
    cases b
    · simp
    · simp; omega
  rw [if_pos this]
  cases b
  · show Q (.str (Txt.mul z 0)) O
    rw [mul_0]; exact k
  · show Q (.str (Txt.mul z 1)) O
    rw [mul_1]; exact k
structure Sm (s u l : Int) : Prop where
  s : -100000000 ≤ s ∧ s ≤ 100000000
  u : -100000000 ≤ u ∧ u ≤ 100000000
  l : -100000000 ≤ l ∧ l ≤ 100000000
def reprT (s u l : Int) : Str := Str.empty ++ Str.ofString "Span(" ++ tz s ++ Str.ofString ", above=" ++ tz u ++ Str.ofString ", below=" ++ tz l ++ Str.ofString ")"
theorem e_span_repr {s u l : Int} {O : Sto} (h : -100000000000 ≤ s ∧ s ≤ 100000000000) (h1 : -100000000000 ≤ u ∧ u ≤ 100000000000) (h2 : -100000000000 ≤ l ∧ l ≤ 100000000000) (hz : (tz s).length ≤ 2000000 ∧ (tz u).length ≤ 2000000 ∧ (tz l).length ≤ 2000000) : m_Span___repr__ [span s u l] O = .ok (.str (reprT s u l)) O := by
  have l1 : (Str.ofString "Span(").length = 5 := rfl
  have l2 : (Str.ofString ", above=").length = 8 := rfl
  have l3 : (Str.ofString ", below=").length = 8 := rfl
  have l4 : (Str.ofString ")").length = 1 := rfl
  obtain ⟨z1, z2, z3⟩ := hz
  dsimp only [tz] at z1 z2 z3
  refine Go.eq ?_
  walk_at "def"
  walk_at "g"
  exact ⟨rfl, rfl⟩
theorem tz30 {i : Int} (h : -1000000000 ≤ i ∧ i ≤ 1000000000) : (tz i).length ≤ 11 := by
  have e := int_text_length_le10 (a := i) (k := 10) (by decide) (by rw [show (10 : Nat) ^ 10 = 10000000000 by decide]; omega)
  rw [PySem.ofString_length]
  exact e
theorem e_rp30 {s u l : Int} {O : Sto} (h : Sm s u l) : m_Span___repr__ [span s u l] O = .ok (.str (reprT s u l)) O := by
  have h1 := h.s
  have h2 := h.u
  have h3 := h.l
  have z1 := tz30 (i := s) (by omega)
  have z2 := tz30 (i := u) (by omega)
  have z3 := tz30 (i := l) (by omega)
  exact e_span_repr (by omega) (by omega) (by omega) ⟨by omega, by omega, by omega⟩
theorem reprT_len {s u l : Int} (h : Sm s u l) : (reprT s u l).length ≤ 60 := by
  have h1 := h.s
  have h2 := h.u
  have h3 := h.l
  have z1 := tz30 (i := s) (by omega)
  have z2 := tz30 (i := u) (by omega)
  have z3 := tz30 (i := l) (by omega)
  have l0 : (Str.empty).length = 0 := rfl
  have l1 : (Str.ofString "Span(").length = 5 := rfl
  have l2 : (Str.ofString ", above=").length = 8 := rfl
  have l3 : (Str.ofString ", below=").length = 8 := rfl
  have l4 : (Str.ofString ")").length = 1 := rfl
  unfold reprT
  simp only [PySem.strLen_append]
  omega
noncomputable abbrev tb37 : List (Str × MF) := [("Span", m_Span___repr__)]
theorem sum_le {α : Type} {f : α → Nat} {B : Nat} : ∀ {xs : List α}, (∀ x ∈ xs, f x ≤ B) → (xs.map f).sum ≤ B * xs.length
  | [], _ => by simp
  | x :: xs, h => by
    have h1 := h x List.mem_cons_self
    have h2 := sum_le (xs := xs) fun y hy => h y (List.mem_cons_of_mem _ hy)
    simp only [List.map_cons, List.sum_cons, List.length_cons, Nat.mul_add, Nat.mul_one]
    omega
abbrev spT (w : W3) : Str := reprT w.1 w.2.1 w.2.2
def SmW (w : W3) : Prop := Sm w.1 w.2.1 w.2.2
theorem GoodW.sm {w : W3} (h : GoodW w) : SmW w := by
  unfold GoodW at h
  exact ⟨by omega, by omega, by omega⟩
theorem sh_spW {O : Sto} {n : Nat} {w : W3} (h : SmW w) : shO tb37 O (n + 1) (spW w) = some (spT w) := by
  show rprI m_Span___repr__ (spW w) O = _
  exact rprI_of (e_rp30 h)
theorem sh_lst {O : Sto} {ws : List W3} (h : ∀ w ∈ ws, SmW w) : shO tb37 O 9 (.lst (ws.map spW)) = some (listText (ws.map spT)) := by
  show (shL (shO tb37 O 8) (ws.map spW)).map listText = _
  rw [shL_map ws fun w hw => sh_spW (h w hw)]
  rfl
theorem sh_tup {O : Sto} {ws : List W3} (h : ∀ w ∈ ws, SmW w) : shO tb37 O 9 (.tup (ws.map spW)) = some (tupleText (ws.map spT)) := by
  show (shL (shO tb37 O 8) (ws.map spW)).map tupleText = _
  rw [shL_map ws fun w hw => sh_spW (h w hw)]
  rfl
theorem rp_lst {ws : List W3} (h : ∀ w ∈ ws, SmW w) (hl : ws.length ≤ 1000) : (listText (ws.map spT)).length ≤ sizeLine := by
  have a1 := listText_len_le (ws.map spT)
  have b1 := sum_le (f := fun w => (spT w).length) (B := 60) fun w hw => reprT_len (h w hw)
  rw [List.map_map, List.length_map] at a1
  have c1 : (ws.map ((fun x => x.length) ∘ spT)).sum = (ws.map fun w => (spT w).length).sum := rfl
  have e : sizeLine = 16777216 := by decide
  omega
theorem rp_tup {ws : List W3} (h : ∀ w ∈ ws, SmW w) (hl : ws.length ≤ 1000) : (tupleText (ws.map spT)).length ≤ sizeLine := by
  have a1 := tupleText_len_le (ws.map spT)
  have b1 := sum_le (f := fun w => (spT w).length) (B := 60) fun w hw => reprT_len (h w hw)
  rw [List.map_map, List.length_map] at a1
  have c1 : (ws.map ((fun x => x.length) ∘ spT)).sum = (ws.map fun w => (spT w).length).sum := rfl
  have e : sizeLine = 16777216 := by decide
  omega
theorem str_sm {n : Nat} {rs : List (Int × Int)} (h : SvO n rs) : ∀ w ∈ rs.map strW, SmW w := fun w hw => by
  obtain ⟨r, hr, rfl⟩ := List.mem_map.mp hw
  have b := h.inB r hr
  unfold Qg.inB at b
  show Sm r.1 (r.2 - r.1) 0
  exact ⟨by omega, by omega, by decide⟩
theorem e_check_rowL {n : Nat} {ws : List W3} {O : Sto} (e : O[n]? = some (some (.lst (ws.map spW)))) : m_check_row [.loc n] O = .ok .non O := by
  refine Go.eq ?_
  walk_at "def"
  walk_at "g"
  refine go_isT ?_
  walk_at "g"
  refine go_at (v := .bl true) (O1 := O) (by unfold isiTP tyOf; simp only [e]; rfl) ?_
  walk_at "g"
  refine ⟨_, _, show (match tupOf (.loc n) with | some ps => some (ps, none) | none => itemsOf O (.loc n)) = some (ws.map spW, some (n, ws.map spW)) by show itemsOf O (.loc n) = _; unfold itemsOf; simp only [e], ?_⟩
  refine go_loopP spW (fun d s1 O1 => (∃ x1, s1 = [some (.loc n), x1]) ∧ O1 = O) ws (fun _ _ O1 h => by rw [h.2]; exact e) ⟨⟨_, rfl⟩, rfl⟩ (fun d r t s1 O1 ed hJ => ?_) (fun s1 O1 hJ => ?_)
  · obtain ⟨⟨x1, rfl⟩, rfl⟩ := hJ
    unfold spW
    walk_at "g"
    exact ⟨⟨_, rfl⟩, rfl⟩
  · obtain ⟨⟨x1, rfl⟩, rfl⟩ := hJ
    exact ⟨rfl, rfl⟩
theorem g_SvL {n : Nat} {ws : List W3} {O : Sto} {Q : PV → Sto → Prop} (e : O[n]? = some (some (.lst (ws.map spW)))) (hl : ws.length ≤ 1000) (k : ∀ O', Fr O O' → Q (sieve (runsOf (ws.map endsW))) O') : Go (m_Sieve___init__ [.loc O.length, .loc n] (O ++ [some (.ins "Sieve" [] [])])) fun r O2 => r = .non ∧ Go (frzP (.loc O.length) O2) Q := by
  have hn := lt_of_get e
  have el : (O ++ [some (PV.ins "Sieve" [] [])] : Sto)[O.length]? = some (some (.ins "Sieve" [] [])) := get_app
  have fr : Fr O (O ++ [some (PV.ins "Sieve" [] [])]) := Fr.refl.app
  walk_at "def"
  walk_at "c"
  refine g_fsE el (by decide) rfl rfl fun O2 e1 e2 e3 => ?_
  have fr := fr.put (Nat.le_refl _) e2 e3
  have en := fr.get e
  walk_at "c"
  refine go_at (e_check_rowL en) ?_
  walk_at "c"
  refine ⟨_, _, show (match tupOf (.loc n) with | some ps => some (ps, none) | none => itemsOf O2 (.loc n)) = some (ws.map spW, some (n, ws.map spW)) by show itemsOf O2 (.loc n) = _; unfold itemsOf; simp only [en], ?_⟩
  refine comp_M spW (fun w => prP (endsW w)) ws (by omega) en (fun w hw => ?_) ?_
  · unfold spW
    walk_at "g"
    exact ⟨rfl, rfl⟩
  · rw [show ws.map (fun w => prP (endsW w)) = (ws.map endsW).map prP by rw [List.map_map]; rfl]
    walk_at "c"
    refine g_joined (by rw [List.length_map]; omega) fun Oj frj => ?_
    walk_at "c"
    have e1 := frj.get e1
    have fr := fr.trans frj
    refine g_fsE e1 (by decide) rfl rfl fun O3 e4 e5 e6 => ?_
    have fr := fr.put (Nat.le_refl _) e5 e6
    refine ⟨rfl, go_frzL e4 (k _ (fr.put (Nat.le_refl _) (by simp) fun m hm => by rw [List.getElem?_set_ne (fun z => hm z.symm)]))⟩
theorem go_neB2 {a b : Bool} {O : Sto} {Q : PV → Sto → Prop} (k : Q (.bl false) O) : Go (neD (.lst [.bl a, .bl b]) (.lst [.bl a, .bl b]) O) Q := by
  refine go_neDd (d := .list [.bool a, .bool b]) (d' := .list [.bool a, .bool b]) rfl rfl (by cases a <;> cases b <;> decide +kernel) ?_
  rw [show PyData.eqv (.list [.bool a, .bool b]) (.list [.bool a, .bool b]) = true by cases a <;> cases b <;> decide +kernel]
  exact k
theorem e_Sv_eqN {rs : List (Int × Int)} {p : PV} {O : Sto} (h : OddC "Sieve" p) : m_Sieve___eq__ [sieve rs, p] O = .ok (.bl false) O := by
  obtain ⟨t, e, e2⟩ := h
  refine Go.eq ?_
  refine go_def (s' := [some (sieve rs), some p]) rfl rfl ?_
  walk_at "c"
  refine go_isi (e O) e2 ?_
  walk_at "c"
  exact ⟨rfl, rfl⟩
theorem e_lets {rs : List (Int × Int)} {x : Int} {O : Sto} (hl : rs.length ≤ 1000) : m_Sieve_lets [sieve rs, .int x] O = .ok (.bl (cov x rs)) O := e_Sv_lets hl
theorem e_len37 {rs : List (Int × Int)} {O : Sto} (hl : rs.length ≤ 1000) : m_Sieve___len__ [sieve rs] O = .ok (.int rs.length) O := Go.eq (by
  walk_at "def"
  walk_at "c"
  rw [List.length_map]
  exact ⟨rfl, rfl⟩)
theorem mem3 {ws : List W3} (hw : ∀ w ∈ ws, GoodW w) (h5 : ws.length ≤ 5) : ∀ l, l ∈ [ws, ws.reverse, [(9, 0, 0), (1, 0, 0), (5, 0, 0)]] → (∀ w ∈ l, SmW w) ∧ l.length ≤ 5 := by
  intro l hl
  simp only [List.mem_cons, List.not_mem_nil, or_false] at hl
  rcases hl with rfl | rfl | rfl
  · exact ⟨fun w h => (hw w h).sm, h5⟩
  · exact ⟨fun w h => (hw w (List.mem_reverse.mp h)).sm, by rw [List.length_reverse]; exact h5⟩
  · refine ⟨fun w h => ?_, by decide⟩
    simp only [List.mem_cons, List.not_mem_nil, or_false] at h
    rcases h with rfl | rfl | rfl <;> exact ⟨by decide, by decide, by decide⟩
theorem Sq.ne {p n : Nat} {O O' : Sto} (h : Sq p O) (hn : n ≠ p) (h0 : n ≠ 0) (e : ∀ m : Nat, m ≠ n → O'[m]? = O[m]?) : Sq p O' := ⟨by
  obtain ⟨a, b, c, e1, e2⟩ := h.pu
  exact ⟨a, b, c, (e p (Ne.symm hn)).trans e1, e2⟩, h.pos, (e 0 (Ne.symm h0)).trans h.tb⟩
theorem g__law_stays {p : Nat} {ws : List W3} {O : Sto} {Q : PV → Sto → Prop} (sq : Sq p O) (hw : ∀ w ∈ ws, GoodW w) (h1 : 1 ≤ ws.length) (h5 : ws.length ≤ 5) (k : ∀ O', Sq p O' → Q (.bl true) O') : Go (m__law_stays [.loc p, .lst (ws.map rowP)] O) Q := by
  obtain ⟨w0, wt, ew⟩ : ∃ w0 wt, ws = w0 :: wt := by
    cases ws with
    | nil => cases h1
    | cons w ws => exact ⟨w, ws, rfl⟩
  have e0 : atI (ws.map spW) 0 = some (spW w0) := by rw [ew]; exact atI_nat (j := 0) rfl
  have hh : ∀ w ∈ wt ++ [((7, 3, 0) : W3)], GoodW w := fun w h => by
    rcases List.mem_append.mp h with c | c
    · exact hw w (by rw [ew]; exact List.mem_cons_of_mem _ c)
    · rw [List.mem_singleton.mp c]
      exact ⟨by decide, ⟨by decide, by decide⟩, ⟨by decide, by decide⟩, by decide, by decide⟩
  have c7h : cov 7 (runsOf ((wt ++ [((7, 3, 0) : W3)]).map endsW)) = true := by
    rw [cov_row hh, List.map_append, cov_app]
    show (_ || cov 7 [((7 : Int) - 0, (7 : Int) + 3)]) = true
    rw [show cov 7 [((7 : Int) - 0, (7 : Int) + 3)] = true by decide]
    exact Bool.or_true _
  have hwl : (wt ++ [((7, 3, 0) : W3)]).length = ws.length := by rw [ew]; simp
  have H0 : SvO 5 (runsOf ((wt ++ [((7, 3, 0) : W3)]).map endsW)) := SvO.row hh (by omega)
  walk_at "def"
  refine comp_M rowP spW ws (by omega) trivial (fun w h => ?_) ?_
  · have g := (hw w h).1
    unfold rowP spW
    walk_at "g"
    exact ⟨rfl, rfl⟩
  walk_at "c"
  refine go_revLs ?_
  walk_at "c"
  refine ⟨_, rfl, ?_⟩
  walk_at "c"
  refine go_at (e_Span (by decide)) ?_
  walk_at "c"
  refine go_at (e_Span (by decide)) ?_
  walk_at "c"
  refine go_at (e_Span (by decide)) ?_
  walk_at "c"
  rw [← List.map_reverse]
  refine go_loopP (fun l : List W3 => PV.lst (l.map spW)) (fun d s1 O1 => ∃ x3 x9 x10, s1 = [some (.loc p), some (.lst (ws.map rowP)), some (.lst (ws.map spW)), x3, none, none, none, none, none, x9, x10, none, none, none, none] ∧ Sq p O1) [ws, ws.reverse, [(9, 0, 0), (1, 0, 0), (5, 0, 0)]] (fun _ _ _ _ => trivial) ⟨_, _, _, rfl, sq⟩ (fun d l t s1 O1 ed hJ => ?_) (fun s1 O1 hJ => ?_)
  · obtain ⟨x3, x9, x10, rfl, sq1⟩ := hJ
    obtain ⟨hsm, hll⟩ := mem3 hw h5 l (by rw [ed]; simp)
    walk_at "c"
    refine go_bLst rfl ?_
    walk_at "c"
    refine go_reprO (sh_lst hsm) (rp_lst hsm (by omega)) ?_
    walk_at "c"
    refine g_Sv (ws := l) (.inl rfl) (by omega) fun O2 f2 => ?_
    walk_at "c"
    refine g_Sv (ws := l) (.inr rfl) (by omega) fun O3 f3 => ?_
    walk_at "c"
    refine go_at e_Sv_eq ?_
    rw [decide_eq_true rfl]
    walk_at "c"
    refine go_reprO (sh_lst hsm) (rp_lst hsm (by omega)) ?_
    walk_at "c"
    refine bF (by rw [decide_eq_true rfl]; rfl) ?_
    walk_at "c"
    exact ⟨_, _, _, rfl, (sq1.fr f2).fr f3⟩
  obtain ⟨x3, x9, x10, rfl, sq1⟩ := hJ
  walk_at "c"
  refine go_bLstO rfl ?_
  have f2 : Fr O1 (O1 ++ [some (.lst (ws.map spW))]) := Fr.refl.app
  have e2 : (O1 ++ [some (PV.lst (ws.map spW))])[O1.length]? = some (some (.lst (ws.map spW))) := get_app
  have sq2 := sq1.fr f2
  have hn0 : 0 < O1.length := by
    have := lt_of_get sq1.tb
    omega
  have hnp : p < O1.length := by
    obtain ⟨a, b, c, e, _⟩ := sq1.pu
    exact lt_of_get e
  generalize (O1 ++ [some (PV.lst (ws.map spW))]) = O2 at *
  generalize O1.length = n at *
  walk_at "c"
  refine g_SvL e2 (by omega) fun O3 f3 => ?_
  have e3 := f3.get e2
  have sq3 := sq2.fr f3
  have S0 : SvO 5 (runsOf (ws.map endsW)) := SvO.row hw h5
  obtain ⟨rs, hrs⟩ : ∃ rs, rs = runsOf (ws.map endsW) := ⟨_, rfl⟩
  rw [← hrs] at S0 ⊢
  have l0 := S0.len
  have st := str_sm S0
  have stl : (rs.map strW).length ≤ 5 := by rw [List.length_map]; exact l0
  walk_at "c"
  refine go_at (e_Sv_str S0.ok (by omega)) ?_
  walk_at "c"
  refine go_at (e_Sv_str S0.ok (by omega)) ?_
  walk_at "c"
  have rT : ∀ O, shO tb37 O 9 (.tup ((rs.map strW).map spW)) = some (tupleText ((rs.map strW).map spT)) := fun O => sh_tup st
  have rl := rp_tup st (by omega)
  refine go_reprO (rT _) rl ?_
  generalize tupleText ((rs.map strW).map spT) = T at *
  walk_at "c"
  refine go_at (e_Span (by decide)) ?_
  walk_at "c"
  refine go_appF e3 (szl_le (by rw [List.length_map]; omega)) fun O4 g4 g5 g6 => ?_
  have sq4 := sq3.ne (by omega) (by omega) g6
  walk_at "c"
  refine go_popAt (j := 0) (q := spW w0) g4 ⟨by decide, by decide⟩ (seq_ix (by simp)) (by rw [ew]; rfl) fun O5 q1 q2 q3 => ?_
  have sq5 := sq4.ne (by omega) (by omega) q3
  have e5 : O5[n]? = some (some (.lst ((wt ++ [((7, 3, 0) : W3)]).map spW))) := by
    rw [q1, ew]
    simp [spW]
  clear g4 g5 g6 q1 q2 q3
  generalize wt ++ [((7, 3, 0) : W3)] = hs at *
  walk_at "c"
  refine g_SvL e5 (by omega) fun O6 f6 => ?_
  walk_at "c"
  refine g_Sv_either S0 H0 (by decide) (by decide) fun O7 f7 => ?_
  have sq7 := (sq5.fr f6).fr f7
  have e7 := f7.get (f6.get e5)
  have E0 := S0.or H0
  have hor : orL rs (runsOf (hs.map endsW)) = runsOf ((ws ++ hs).map endsW) := by rw [hrs]; exact row_or hw hh
  have cor := fun x => cov_or (x := x) S0 H0
  have c7 : cov 7 (orL rs (runsOf (hs.map endsW))) = true := by rw [cor, c7h]; exact Bool.or_true _
  generalize orL rs (runsOf (hs.map endsW)) = E at *
  have b0 : butL rs E = [] := (S0.but E0).nil fun x => by rw [cov_but E0, cor]; cases cov x rs <;> simp
  have b1 : andL rs E = rs := (S0.and E0).eq S0 fun x => by rw [cov_and, cor]; cases cov x rs <;> simp
  walk_at "c"
  refine g_Sv_but S0 E0 (by decide) (by decide) fun O8 f8 => ?_
  rw [b0]
  walk_at "c"
  refine g_SvN fun O9 f9 => ?_
  walk_at "c"
  refine go_at e_Sv_eq ?_
  rw [decide_eq_true rfl]
  walk_at "c"
  refine g_Sv_both S0 E0 (by decide) (by decide) (by decide) fun Oa fa => ?_
  rw [b1]
  walk_at "c"
  refine go_at e_Sv_eq ?_
  rw [decide_eq_true rfl]
  walk_at "c"
  have sqa := ((sq7.fr f8).fr f9).fr fa
  have ea := fa.get (f9.get (f8.get e7))
  refine g_unlike sqa.tb S0 S0 (by decide) (by decide) fun Ob fb => ?_
  rw [unl_self S0]
  have sqb := sqa.fr fb
  have eb := fb.get ea
  walk_at "c"
  refine go_at (e_lets (by omega)) ?_
  walk_at "c"
  refine go_at (e_lets (by omega)) ?_
  walk_at "c"
  refine go_at (e_lets (by omega)) ?_
  walk_at "c"
  refine go_at (e_lets (by omega)) ?_
  walk_at "c"
  refine go_neB2 ?_
  walk_at "c"
  refine g_asked5 (oddMs (w := w0) (.bl true) (by simp)) ?_
  walk_at "c"
  refine g_asked5 (oddMs (w := w0) (.bl false) (by simp)) ?_
  walk_at "c"
  refine go_neI4 (a := [2, 2]) (by decide +kernel) ?_
  walk_at "c"
  refine go_reprO (rT _) rl ?_
  walk_at "c"
  refine bF (by rw [decide_eq_true rfl]; rfl) ?_
  walk_at "c"
  refine go_at (e_Sv_str S0.ok (by omega)) ?_
  walk_at "c"
  refine go_reprO (rT _) rl ?_
  walk_at "c"
  refine bF (by rw [decide_eq_true rfl]; rfl) ?_
  walk_at "c"
  refine g_Sv (ws := ws) (.inl rfl) (by omega) fun Oc fc => ?_
  rw [← hrs]
  walk_at "c"
  refine go_at e_Sv_eq ?_
  rw [decide_eq_true rfl]
  walk_at "c"
  refine go_at (e_Sv_eqN ⟨_, fun _ => rfl, by decide +kernel⟩) ?_
  walk_at "c"
  refine go_at (e_len37 (by omega)) ?_
  refine ⟨_, rfl, ⟨by omega, by omega⟩, ?_⟩
  walk_at "c"
  refine go_ixL rfl e0 ?_
  walk_at "c"
  refine go_at (e_Sv_eqN ⟨_, fun _ => rfl, by decide +kernel⟩) ?_
  walk_at "c"
  refine go_at (e_Sv_eqN ⟨_, fun _ => rfl, by decide +kernel⟩) ?_
  walk_at "c"
  refine go_at (e_Sv_eqN ⟨_, fun _ => rfl, by decide +kernel⟩) ?_
  walk_at "c"
  refine go_at (e_Sv_eqN ⟨_, fun _ => rfl, by decide +kernel⟩) ?_
  walk_at "c"
  refine go_at (e_Sv_eqN ⟨_, fun _ => rfl, by decide +kernel⟩) ?_
  walk_at "c"
  refine go_at (e_Sv_eqN ⟨_, fun _ => rfl, by decide +kernel⟩) ?_
  walk_at "c"
  refine go_at (e_Sv_eqN ⟨_, fun _ => rfl, by decide +kernel⟩) ?_
  walk_at "c"
  refine go_at (e_lets (by have := E0.len; omega)) ?_
  rw [c7]
  walk_at "c"
  have ec := fc.get eb
  refine go_catL rfl (lstT_loc ec) (sz_le (by simp only [List.length_map]; omega)) ?_
  rw [← List.map_append]
  walk_at "c"
  refine g_Sv (ws := ws ++ hs) (.inl rfl) (by rw [List.length_append]; omega) fun Od fd => ?_
  rw [← hor]
  walk_at "c"
  refine go_at e_Sv_eq ?_
  rw [decide_eq_true rfl]
  walk_at "c"
  exact k _ ((sqb.fr fc).fr fd)
abbrev chP : PV := .ins "Chain" ["kept"] [.lst []]
theorem e_Ch {O : Sto} : mkIns "Chain" (m_Chain___init__ [] O) = .ok chP O := by
  refine Go.eq ?_
  walk_at "init"
  exact ⟨rfl, rfl⟩
theorem g_Tray {O : Sto} {Q : Sto → Prop} (k : ∀ O' q, Fr O O' → O'[O.length]? = some (some (.ins "Tray" ["kept"] [q])) → Q O') : Go (m_Tray___init__ [.loc O.length] (O ++ [some (.ins "Tray" [] [])])) fun r O2 => r = .non ∧ Q O2 := by
  have el : (O ++ [some (PV.ins "Tray" [] [])] : Sto)[O.length]? = some (some (.ins "Tray" [] [])) := get_app
  have fr : Fr O (O ++ [some (PV.ins "Tray" [] [])]) := Fr.refl.app
  walk_at "def"
  walk_at "c"
  refine g_fsE (by rw [List.getElem?_append_left (lt_of_get el)]; exact el) (by decide) rfl rfl fun O2 e1 e2 e3 => ?_
  have fr := (fr.app (x := [some (.lst [])])).put (Nat.le_refl _) e2 e3
  exact ⟨rfl, k O2 _ fr e1⟩
theorem tyT {O : Sto} {m : Nat} {q : PV} (e : O[m]? = some (some (.ins "Tray" ["kept"] [q]))) : tyOf O (.loc m) = some (.inr "Tray") := by
  unfold tyOf
  simp only [e]
theorem e_neSv {rs : List (Int × Int)} {p : PV} {t : Sum String Str} {O : Sto} (e : tyOf O p = some t) (e2 : kitP cs t (.cls "Sieve") = some false) : m_Sieve___eq__ [sieve rs, p] O = .ok (.bl false) O := by
  refine Go.eq ?_
  refine go_def (s' := [some (sieve rs), some p]) rfl rfl ?_
  walk_at "c"
  refine go_isi e e2 ?_
  walk_at "c"
  exact ⟨rfl, rfl⟩
theorem e_neCh {p : PV} {t : Sum String Str} {O : Sto} (e : tyOf O p = some t) (e2 : kitP cs t (.cls "Chain") = some false) : m_Chain___eq__ [chP, p] O = .ok (.bl false) O := by
  refine Go.eq ?_
  refine go_def (s' := [some chP, some p]) rfl rfl ?_
  walk_at "c"
  refine go_isi e e2 ?_
  walk_at "c"
  exact ⟨rfl, rfl⟩
theorem e_neTr {p q : PV} {t : Sum String Str} {O : Sto} (e : tyOf O p = some t) (e2 : kitP cs t (.cls "Tray") = some false) : m_Tray___eq__ [q, p] O = .ok (.bl false) O := by
  refine Go.eq ?_
  refine go_def (s' := [some q, some p]) rfl rfl ?_
  walk_at "c"
  refine go_isi e e2 ?_
  walk_at "c"
  exact ⟨rfl, rfl⟩
theorem law_true {ns : List Int} (hn : ns.length ≤ 63) : Go (m_law [.rol (ns.map .int)] [some (.tbl tl_Sieve_unlike)]) fun q _ => q = .bl true := by
  walk_at "def"
  walk_at "c"
  have t0 : ([some (.tbl tl_Sieve_unlike)] : Sto)[0]? = some (some (.tbl tl_Sieve_unlike)) := rfl
  refine g_SvN fun O1 f1 => ?_
  have t1 := f1.get t0
  walk_at "c"
  refine go_at e_Ch ?_
  walk_at "c"
  refine go_at (e_neSv rfl (by decide +kernel)) ?_
  walk_at "c"
  refine g_SvN fun O2 f2 => ?_
  have t2 := f2.get t1
  walk_at "c"
  refine g_Tray fun O3 q3 f3 e3 => ?_
  have t3 := f3.get t2
  walk_at "c"
  refine go_oeqA (tyT e3) rfl ?_
  refine go_at (e_neSv (tyT e3) (by decide +kernel)) ?_
  walk_at "c"
  refine go_at e_Ch ?_
  walk_at "c"
  refine g_Tray fun O4 q4 f4 e4 => ?_
  have t4 := f4.get t3
  walk_at "c"
  refine go_oeqA (tyT e4) rfl ?_
  refine go_at (e_neCh (tyT e4) (by decide +kernel)) ?_
  walk_at "c"
  refine g_Tray fun O5 q5 f5 e5 => ?_
  have t5 := f5.get t4
  walk_at "c"
  refine go_at e_Ch ?_
  walk_at "c"
  refine go_oeqA rfl (by unfold insIs insOf; simp only [e5]; rfl) ?_
  refine go_at (e_neTr rfl (by decide +kernel)) ?_
  walk_at "c"
  refine go_at e_Ch ?_
  walk_at "c"
  refine g_SvN fun O6 f6 => ?_
  have t6 := f6.get t5
  walk_at "c"
  refine go_at (e_neCh rfl (by decide +kernel)) ?_
  walk_at "c"
  rw [List.length_map]
  walk_at "g"
  refine go_loop (fun i s1 O' => (∃ x1 x2 x3 x4, s1 = [some (.rol (ns.map .int)), x1, x2, x3, x4]) ∧ O'[0]? = some (some (.tbl tl_Sieve_unlike))) _ 0 _ _ ⟨⟨_, _, _, _, rfl⟩, t6⟩ (fun i q s1 O' hi hJ => ?_) (fun s1 O' hJ => ?_)
  · obtain ⟨⟨x1, x2, x3, x4, rfl⟩, hT⟩ := hJ
    obtain ⟨hi1, rfl⟩ := rgL_get hi
    walk_at "c"
    refine g__law_cell (by omega) (by omega) fun z => ?_
    walk_at "c"
    have l0 := lt_of_get hT
    refine g__law_purse fun O7 h _ fr => ?_
    have sq : Sq _ O7 := ⟨h, l0, (fr 0 l0).trans hT⟩
    walk_at "c"
    refine g__law_take (Ph.start sq.pu) (by omega) (by omega) fun i2 O8 a2 b2 h2 => ?_
    have sq3 := sq.ph h2
    walk_at "c"
    refine g__law_take (Ph.start sq3.pu) (by omega) (by omega) fun i3 O9 a3 b3 h3 => ?_
    have sq4 := sq3.ph h3
    walk_at "c"
    refine g__law_row sq4.pu (by omega) (by omega) fun ws Oa hl hw pu5 fr5 ln5 => ?_
    have sq5 : Sq _ Oa := ⟨pu5, sq4.pos, (fr5 0 (lt_of_get sq4.tb) (by have := sq4.pos; omega)).trans sq4.tb⟩
    walk_at "c"
    refine g__law_refused sq5 hw (by omega) (by omega) fun Ob sq6 => ?_
    walk_at "c"
    refine g__law_stays sq6 hw (by omega) (by omega) fun Oc sq7 => ?_
    walk_at "c"
    exact ⟨⟨_, _, _, _, rfl⟩, sq7.tb⟩
  · obtain ⟨⟨x1, x2, x3, x4, rfl⟩, hT⟩ := hJ
    walk_at "c"
end Qg
namespace Qg
open PySem PySem.Spec PyProof.Rows L2 Gx Qx Hd
section
variable {K : PySem.W.Frag}
theorem bd_Chain___init___1 : Gx.BdD K d_Chain___init__ ["self"] [] := fun fd F => ⟨[], .nil, Gx.FunD.bdN F b_Chain___init__⟩
theorem bd_Sieve___init___1 : Gx.BdD K d_Sieve___init__ ["self", "spans"] [.non] := fun fd F => F.binds1 1 0 (List.cons_ne_nil _ _) (by rfl) fun _ _ _ _ _ _ _ us its h1 h2 => match us, its, h1, h2 with | [_], [_], _, _ => ⟨_, rfl, rfl⟩
theorem bd_Sieve___init___2 : Gx.BdD K d_Sieve___init__ ["self", "spans"] [] := fun fd F => F.binds1 2 1 (List.cons_ne_nil _ _) (by rfl) fun _ _ _ _ _ _ _ us its h1 h2 => match us, its, h1, h2 with | [_, _], [_], _, _ => ⟨_, rfl, rfl⟩
theorem bd_Span___init___2 : Gx.BdD K d_Span___init__ ["self", "size", "above", "below"] [.int (0), .int (0)] := fun fd F => F.binds1 2 0 (List.cons_ne_nil _ _) (by rfl) fun _ _ _ _ _ _ _ us its h1 h2 => match us, its, h1, h2 with | [_, _], [_, _], _, _ => ⟨_, rfl, rfl⟩
theorem bd_Span___init___3 : Gx.BdD K d_Span___init__ ["self", "size", "above", "below"] [.int (0)] := fun fd F => F.binds1 3 1 (List.cons_ne_nil _ _) (by rfl) fun _ _ _ _ _ _ _ us its h1 h2 => match us, its, h1, h2 with | [_, _, _], [_, _], _, _ => ⟨_, rfl, rfl⟩
theorem bd_Span___init___4 : Gx.BdD K d_Span___init__ ["self", "size", "above", "below"] [] := fun fd F => F.binds1 4 2 (List.cons_ne_nil _ _) (by rfl) fun _ _ _ _ _ _ _ us its h1 h2 => match us, its, h1, h2 with | [_, _, _, _], [_, _], _, _ => ⟨_, rfl, rfl⟩
theorem bd_Tray___init___1 : Gx.BdD K d_Tray___init__ ["self"] [] := fun fd F => ⟨[], .nil, Gx.FunD.bdN F b_Tray___init__⟩
theorem bk_Sieve_both_1_other : Gx.BdK K d_Sieve_both ["self", "other"] 1 ["other"] (fun us ws => us ++ (ws.drop 0).take 1) := fun fd F => ⟨_, Gx.kbN F 1 ["other"] (fun us ws => us ++ (ws.drop 0).take 1) (fun r1 r3 => (r1.append ((r3.drop 0).take 1))) fun _ _ _ _ _ _ us ws h1 h2 => match us, ws, h1, h2 with | [_], [_], _, _ => rfl⟩
theorem bk_Sieve_but_1_other : Gx.BdK K d_Sieve_but ["self", "other"] 1 ["other"] (fun us ws => us ++ (ws.drop 0).take 1) := fun fd F => ⟨_, Gx.kbN F 1 ["other"] (fun us ws => us ++ (ws.drop 0).take 1) (fun r1 r3 => (r1.append ((r3.drop 0).take 1))) fun _ _ _ _ _ _ us ws h1 h2 => match us, ws, h1, h2 with | [_], [_], _, _ => rfl⟩
theorem bk_Sieve_either_1_other : Gx.BdK K d_Sieve_either ["self", "other"] 1 ["other"] (fun us ws => us ++ (ws.drop 0).take 1) := fun fd F => ⟨_, Gx.kbN F 1 ["other"] (fun us ws => us ++ (ws.drop 0).take 1) (fun r1 r3 => (r1.append ((r3.drop 0).take 1))) fun _ _ _ _ _ _ us ws h1 h2 => match us, ws, h1, h2 with | [_], [_], _, _ => rfl⟩
theorem bk_Sieve_lets_1_measure : Gx.BdK K d_Sieve_lets ["self", "measure"] 1 ["measure"] (fun us ws => us ++ (ws.drop 0).take 1) := fun fd F => ⟨_, Gx.kbN F 1 ["measure"] (fun us ws => us ++ (ws.drop 0).take 1) (fun r1 r3 => (r1.append ((r3.drop 0).take 1))) fun _ _ _ _ _ _ us ws h1 h2 => match us, ws, h1, h2 with | [_], [_], _, _ => rfl⟩
theorem bk_Sieve_unlike_1_other : Gx.BdK K d_Sieve_unlike ["self", "other"] 1 ["other"] (fun us ws => us ++ (ws.drop 0).take 1) := fun fd F => ⟨_, Gx.kbN F 1 ["other"] (fun us ws => us ++ (ws.drop 0).take 1) (fun r1 r3 => (r1.append ((r3.drop 0).take 1))) fun _ _ _ _ _ _ us ws h1 h2 => match us, ws, h1, h2 with | [_], [_], _, _ => rfl⟩
theorem bk_Span___init___2_above : Gx.BdK K d_Span___init__ ["self", "size", "above", "below"] 2 ["above"] (fun us ws => (fun its => us ++ (ws.drop 0).take 1 ++ (its.drop 1).take 1) ([.int (0), .int (0)] : List V)) := fun fd F => by
  have e : (d_Span___init__).dvs K = ([.int (0), .int (0)] : List V) := by rfl
  rw [← e]
  obtain ⟨its, h⟩ := F.kbindsD (ps := ["self", "size", "above", "below"]) 2 ["above"] (fun us its ws => us ++ (ws.drop 0).take 1 ++ (its.drop 1).take 1) (List.cons_ne_nil _ _) (fun r1 r2 r3 => ((r1.append ((r3.drop 0).take 1)).append ((r2.drop 1).take 1))) (fun _ _ _ _ _ _ _ us its ws h1 h2 h3 => match us, its, ws, h1, h2, h3 with | [_, _], [_, _], [_], _, _, _ => ⟨_, rfl, rfl⟩)
  exact ⟨_, h⟩
end
section
variable {P : Program} {w : World} {K : PySem.W.Frag} {mg : Str → Option Value} {base : Heap} [TB : TbC K mg base [tl_Sieve_unlike]]
theorem sc_check_span : FnScope ["thing"] ["thing"] (defScope s_check_span) := ⟨rfl, rfl, rfl, by decide +kernel, rfl, by decide +kernel, by decide +kernel⟩
theorem ok_check_span (T : Tx w K mg) : DOk P w K mg base d_check_span (L2.CX P w) 1 ["thing"] (spM K true m_check_span) := by
  obtain ⟨fd, F⟩ := T.df_check_span
  exact ⟨fd, F, F.ok sc_check_span (fun vs H Q E h => spM_len h) (fun cdv A outer s H vs Q E hr h => ⟨_, (pss_one (ps_if (pt_not (pt_val (pe_callB (x_isi (K := K) rfl) (by rfl) T.f_isinstance (by decide +kernel) (pa_cons (pv 0) (pa_cons (pe_glob (v := .ref (He.ga K "Span")) rfl T.g_Span rfl) pa_nil))))) (pss_one (ps_raise rfl (takes_of rfl rfl rfl rfl) (pmk_own PySem.F.excBase_ValueError T.xq_NoSpan T.g_NoSpan T.xc_NoSpan.kp T.xc_NoSpan.raises rfl))) pss_nil)), spM_runX (E := E) (n := 1) (N := ["thing"]) (sim_ifS (sim_not (sim_B (sim_cb (cb_isi T.clsK) (sim_cons sim_var (sim_cons sim_cls sim_nil))))) sim_raiseP sim_next) h⟩)⟩
theorem sc_check_row : FnScope ["things", "thing"] ["things"] (defScope s_check_row) := ⟨rfl, rfl, rfl, by decide +kernel, rfl, by decide +kernel, by decide +kernel⟩
theorem ok_check_row (T : Tx w K mg) : DOk P w K mg base d_check_row (L2.CX P w) 2 ["things"] (spM K true m_check_row) := by
  have o_check_span := ok_check_span (P := P) (w := w) (base := base) T
  obtain ⟨fd, F⟩ := T.df_check_row
  exact ⟨fd, F, F.ok sc_check_row (fun vs H Q E h => spM_len h) (fun cdv A outer s H vs Q E hr h => ⟨_, (pss_cons (ps_if (pt_not (pt_val (pe_callB (x_isaT (K := K) rfl) (by rfl) T.f_isinstance (by decide +kernel) (pa_cons (pv 0) (pa_cons (pe_tup (pa_cons (pe_bltn (v := .ty "list") (u := .type "list") (by rfl) T.f_list (by decide +kernel) rfl) (pa_cons (pe_bltn (v := .ty "tuple") (u := .type "tuple") (by rfl) T.f_tuple (by decide +kernel) rfl) pa_nil))) pa_nil))))) (pss_one (ps_raise rfl (takes_of rfl rfl rfl rfl) (pmk_own PySem.F.excBase_ValueError T.xq_NoSpan T.g_NoSpan T.xc_NoSpan.kp T.xc_NoSpan.raises rfl))) pss_nil)
      (pss_one (ps_for PassesOwn.leaving rfl (pi_any (pv 0)) (pg_name (i := 1) sc_check_row.nd rfl (Or.inl rfl))
      (pss_one (ps_expr (pcS o_check_span (fun _ => passAt (takes_of rfl rfl rfl rfl) _) T.g_check_span b_check_span hr (by decide) (pa_cons (pv 1) pa_nil))))))), spM_runX (E := E) (n := 1) (N := ["things", "thing"]) (sim_seq (sim_ifS (sim_not (sim_B (sim_isT (it_isi T.clsK) sim_var (sim_cons sim_ty (sim_cons sim_ty sim_nil))))) sim_raiseP sim_next)
      (sim_for (sim_iA sim_var) (sim_g0 g0_nm) (sim_exp (sim_callS (sim_cons sim_var sim_nil) (fun _ _ => RepL.nilR))))) h⟩)⟩
theorem sc_joined : FnScope ["pairs", "runs", "low", "high"] ["pairs"] (defScope s_joined) := ⟨rfl, rfl, rfl, by decide +kernel, rfl, by decide +kernel, by decide +kernel⟩
theorem ok_joined (T : Tx w K mg) : DOk P w K mg base d_joined CX0 1 ["pairs"] (spM K false m_joined) := by
  obtain ⟨fd, F⟩ := T.df_joined
  exact ⟨fd, F, F.ok sc_joined (fun vs H Q E h => spM_len h) (fun cdv A outer s H vs Q E hr h => ⟨_, PSs.nox (pss_cons (ps_set (i := 1) sc_joined.nd rfl (Or.inl rfl) (pe_lst pa_nil))
      (pss_cons (ps_for PassesOwn.never rfl (pi_list (pe_callB (cr_sort2A (room65 hr)) (by rfl) T.f_sorted (by decide +kernel) (pa_cons (pv 0) pa_nil))) (pg_tup rfl (pgs_cons (pg_name (i := 2) sc_joined.nd rfl (Or.inl rfl)) (pgs_cons (pg_name (i := 3) sc_joined.nd rfl (Or.inl rfl)) pgs_nil)))
      (pss_one (ps_if (PW.pt (pw_and (pt_cmpR (op_neD hr.units) (pv 1) (pe_lst pa_nil) (nomark _)) (pw_and1 (pt_cmpR op_le (pv 2) (pe_op op_add (pe_ix ix_tup (pe_ix ix_list (pv 1) (pe_un un_neg pe_int) (fun _ _ => rfl)) pe_int (fun _ _ => rfl)) pe_int) (nomark _))))) (pss_one (ps_asg (pe_tup (pa_cons (pe_ix ix_tup (pe_ix ix_list (pv 1) (pe_un un_neg pe_int) (fun _ _ => rfl)) pe_int (fun _ _ => rfl)) (pa_cons (pe_callB (c_max rfl) (by rfl) T.f_max (by decide +kernel) (pa_cons (pe_ix ix_tup (pe_ix ix_list (pv 1) (pe_un un_neg pe_int) (fun _ _ => rfl)) pe_int (fun _ _ => rfl)) (pa_cons (pv 3) pa_nil))) pa_nil))) (pg_sub (pv 1) (pe_un un_neg pe_int) set_list))) (pss_one (ps_expr (pe_bm PySem.F.plainAttrs_list PySem.F.slot_list_append PySem.F.type_list_append mt_append (pv 1) (pa_cons (pe_tup (pa_cons (pv 2) (pa_cons (pv 3) pa_nil))) pa_nil)))))))
      (pss_one (ps_ret (pe_callTy (x_tup (K := K) rfl) (by rfl) T.f_tuple (by decide +kernel) (pa_cons (pv 1) pa_nil)))))), spM_run (n := 1) (N := ["pairs", "runs", "low", "high"]) (sim_seq (sim_asg (sim_lstO sim_nil) sim_nm)
      (sim_seq (sim_for (sim_iL (sim_cb cb_sort2A (sim_cons sim_var sim_nil))) (sim_g0 (g0_tup (E := none) (g0_cons g0_nm (g0_cons g0_nm g0_nil)))) (sim_ifS (sim_and (sim_test (sim_op os_neD sim_var (sim_lst sim_nil))) (sim_test (sim_op os_le sim_var (sim_op os_add (sim_op os_ixT (sim_op os_ixL sim_var (sim_un us_neg sim_int)) sim_int) sim_int)))) (sim_asg (sim_tup (sim_cons (sim_op os_ixT (sim_op os_ixL sim_var (sim_un us_neg sim_int)) sim_int) (sim_cons (sim_cb cb_max2 (sim_cons (sim_op os_ixT (sim_op os_ixL sim_var (sim_un us_neg sim_int)) sim_int) (sim_cons sim_var sim_nil))) sim_nil))) (sim_gSubL sim_var (sim_un us_neg sim_int))) (sim_exp (sim_bml ml_append sim_var (sim_cons (sim_tup (sim_cons sim_var (sim_cons sim_var sim_nil))) sim_nil)))))
      (sim_ret (sim_cb cb_tup (sim_cons sim_var sim_nil))))) h⟩)⟩
theorem sc_Sieve___init__ : FnScope ["self", "spans", "span"] ["self", "spans"] (defScope s_Sieve___init__) := ⟨rfl, rfl, rfl, by decide +kernel, rfl, by decide +kernel, by decide +kernel⟩
theorem ok_Sieve___init__ (T : Tx w K mg) : DOk P w K mg base d_Sieve___init__ (L2.CX P w) 3 ["self", "spans"] (spM K true m_Sieve___init__) := by
  have o_check_row := ok_check_row (P := P) (w := w) (base := base) T
  have o_joined := ok_joined (P := P) (w := w) (base := base) T
  obtain ⟨fd, F⟩ := T.df_Sieve___init__
  exact ⟨fd, F, F.ok sc_Sieve___init__ (fun vs H Q E h => spM_len h) (fun cdv A outer s H vs Q E hr h => ⟨_, (pss_cons (ps_fld (pv 0) (pe_tup pa_nil) rfl)
      (pss_one (ps_if (pt_cmpR op_notN (pv 1) pe_non (nomark _)) (pss_cons (ps_expr (pcS o_check_row (fun _ => passAt (takes_of rfl rfl rfl rfl) _) T.g_check_row b_check_row hr (by decide) (pa_cons (pv 1) pa_nil)))
      (pss_one (ps_fld (pv 0) (pc o_joined T.g_joined b_joined hr (by decide) (pa_cons (pe_lc (own := [("span", 2)]) (g := gName 2) (tt := tYes) rfl sc_Sieve___init__.nd (pi_any (pv 1)) (blkOk_by (N := ["self", "spans", "span"]) (sc := defScope s_Sieve___init__) (own := [("span", 2)]) (by decide +kernel)) (fun _ _ _ _ _ => (pg_name (i := 2) sc_Sieve___init__.nd rfl (Or.inl rfl))) (fun _ _ _ _ _ => pts_nil) (fun _ _ _ _ _ => (pe_tup (pa_cons (pe_fld (pv 2) rfl) (pa_cons (pe_fld (pv 2) rfl) pa_nil))))) pa_nil)) rfl))) pss_nil))), spM_runX (E := E) (n := 2) (N := ["self", "spans", "span"]) (sim_seq (sim_fldS T.cls_Sieve T.no_Sieve_runs (sim_tup sim_nil) sim_var)
      (sim_ifS (sim_test (sim_op os_notN sim_var sim_non)) (sim_seq (sim_exp (sim_callS (sim_cons sim_var sim_nil) (fun _ _ => RepL.nilR)))
      (sim_fldS T.cls_Sieve T.no_Sieve_runs (sim_callN (sim_cons (sim_lc (gw_nm (by decide)) mg_nm (sim_iA sim_var) g0_nm sim_yesP (sim_tup (sim_cons (sim_fld T.cls_Span T.no_Span_low sim_var) (sim_cons (sim_fld T.cls_Span T.no_Span_high sim_var) sim_nil)))) sim_nil) (fun _ _ => RepL.nilR)) sim_var)) sim_next)) h⟩)⟩
theorem sc_Chain___init__ : FnScope ["self"] ["self"] (defScope s_Chain___init__) := ⟨rfl, rfl, rfl, by decide +kernel, rfl, by decide +kernel, by decide +kernel⟩
theorem ok_Chain___init__ (T : Tx w K mg) : DOk P w K mg base d_Chain___init__ CX0 1 ["self"] (spI K "Chain" m_Chain___init__) := by
  obtain ⟨fd, F⟩ := T.df_Chain___init__
  exact ⟨fd, F, F.ok sc_Chain___init__ (fun vs H Q E h => spI_len h) (fun cdv A outer s H vs Q E hr h => ⟨_, PSs.nox (pss_one (ps_fld (pv 0) (pe_lst pa_nil) rfl)), spI_run (n := 0) (N := ["self"]) (sb_fld T.cls_Chain T.no_Chain_kept (sim_lst sim_nil)) h⟩)⟩
theorem sc_Sieve___eq__ : FnScope ["self", "other"] ["self", "other"] (defScope s_Sieve___eq__) := ⟨rfl, rfl, rfl, by decide +kernel, rfl, by decide +kernel, by decide +kernel⟩
theorem ok_Sieve___eq__ (T : Tx w K mg) : DOk P w K mg base d_Sieve___eq__ CX0 1 ["self", "other"] (spM K false m_Sieve___eq__) := by
  obtain ⟨fd, F⟩ := T.df_Sieve___eq__
  exact ⟨fd, F, F.ok sc_Sieve___eq__ (fun vs H Q E h => spM_len h) (fun cdv A outer s H vs Q E hr h => ⟨_, PSs.nox (pss_one (ps_ret (pe_and (pe_callB (x_isi (K := K) rfl) (by rfl) T.f_isinstance (by decide +kernel) (pa_cons (pv 1) (pa_cons (pe_glob (v := .ref (He.ga K "Sieve")) rfl T.g_Sieve rfl) pa_nil))) (pe_one (pe_cmpR (op_eqD hr.units) (pe_fld (pv 0) rfl) (pe_fld (pv 1) rfl) (nomark _)))))), spM_run (n := 2) (N := ["self", "other"]) (sim_ret (sim_andV (sim_cb (cb_isi T.clsK) (sim_cons sim_var (sim_cons sim_cls sim_nil))) (sim_op os_eqD (sim_fld T.cls_Sieve T.no_Sieve_runs sim_var) (sim_fld T.cls_Sieve T.no_Sieve_runs sim_var)))) h⟩)⟩
theorem sc_Tray___init__ : FnScope ["self"] ["self"] (defScope s_Tray___init__) := ⟨rfl, rfl, rfl, by decide +kernel, rfl, by decide +kernel, by decide +kernel⟩
theorem ok_Tray___init__ (T : Tx w K mg) : DOk P w K mg base d_Tray___init__ CX0 1 ["self"] (spM K false m_Tray___init__) := by
  obtain ⟨fd, F⟩ := T.df_Tray___init__
  exact ⟨fd, F, F.ok sc_Tray___init__ (fun vs H Q E h => spM_len h) (fun cdv A outer s H vs Q E hr h => ⟨_, PSs.nox (pss_one (ps_fld (pv 0) (pe_lst pa_nil) rfl)), spM_run (n := 1) (N := ["self"]) (sim_fldS T.cls_Tray T.no_Tray_kept (sim_lstO sim_nil) sim_var) h⟩)⟩
theorem sc_Chain___eq__ : FnScope ["self", "other"] ["self", "other"] (defScope s_Chain___eq__) := ⟨rfl, rfl, rfl, by decide +kernel, rfl, by decide +kernel, by decide +kernel⟩
theorem ok_Chain___eq__ (T : Tx w K mg) : DOk P w K mg base d_Chain___eq__ CX0 1 ["self", "other"] (spM K false m_Chain___eq__) := by
  obtain ⟨fd, F⟩ := T.df_Chain___eq__
  exact ⟨fd, F, F.ok sc_Chain___eq__ (fun vs H Q E h => spM_len h) (fun cdv A outer s H vs Q E hr h => ⟨_, PSs.nox (pss_one (ps_ret (pe_and (pe_callB (x_isi (K := K) rfl) (by rfl) T.f_isinstance (by decide +kernel) (pa_cons (pv 1) (pa_cons (pe_glob (v := .ref (He.ga K "Chain")) rfl T.g_Chain rfl) pa_nil))) (pe_one (pe_cmpR (op_eqD hr.units) (pe_fld (pv 0) rfl) (pe_fld (pv 1) rfl) (nomark _)))))), spM_run (n := 2) (N := ["self", "other"]) (sim_ret (sim_andV (sim_cb (cb_isi T.clsK) (sim_cons sim_var (sim_cons sim_cls sim_nil))) (sim_op os_eqD (sim_fld T.cls_Chain T.no_Chain_kept sim_var) (sim_fld T.cls_Chain T.no_Chain_kept sim_var)))) h⟩)⟩
theorem sc_Tray___eq__ : FnScope ["self", "other"] ["self", "other"] (defScope s_Tray___eq__) := ⟨rfl, rfl, rfl, by decide +kernel, rfl, by decide +kernel, by decide +kernel⟩
theorem ok_Tray___eq__ (T : Tx w K mg) : DOk P w K mg base d_Tray___eq__ CX0 1 ["self", "other"] (spM K false m_Tray___eq__) := by
  obtain ⟨fd, F⟩ := T.df_Tray___eq__
  exact ⟨fd, F, F.ok sc_Tray___eq__ (fun vs H Q E h => spM_len h) (fun cdv A outer s H vs Q E hr h => ⟨_, PSs.nox (pss_one (ps_ret (pe_and (pe_callB (x_isi (K := K) rfl) (by rfl) T.f_isinstance (by decide +kernel) (pa_cons (pv 1) (pa_cons (pe_glob (v := .ref (He.ga K "Tray")) rfl T.g_Tray rfl) pa_nil))) (pe_one (pe_cmpR (op_eqD hr.units) (pe_fld (pv 0) rfl) (pe_fld (pv 1) rfl) (nomark _)))))), spM_run (n := 2) (N := ["self", "other"]) (sim_ret (sim_andV (sim_cb (cb_isi T.clsK) (sim_cons sim_var (sim_cons sim_cls sim_nil))) (sim_op os_eqD (sim_fld T.cls_Tray T.no_Tray_kept sim_var) (sim_fld T.cls_Tray T.no_Tray_kept sim_var)))) h⟩)⟩
theorem sc__law_cell : FnScope ["_law_script", "_law_k"] ["_law_script", "_law_k"] (defScope s__law_cell) := ⟨rfl, rfl, rfl, by decide +kernel, rfl, by decide +kernel, by decide +kernel⟩
theorem ok__law_cell (T : Tx w K mg) : DOk P w K mg base d__law_cell CX0 1 ["_law_script", "_law_k"] (spM K false m__law_cell) := by
  obtain ⟨fd, F⟩ := T.df__law_cell
  exact ⟨fd, F, F.ok sc__law_cell (fun vs H Q E h => spM_len h) (fun cdv A outer s H vs Q E hr h => ⟨_, PSs.nox (pss_cons (ps_if (pt_cmpR op_lt (pv 1) (pe_callB (call_len_seq) (by rfl) T.f_len (by decide +kernel) (pa_cons (pv 0) pa_nil)) (nomark _)) (pss_one (ps_ret (pe_ix ix_list (pv 0) (pv 1) (fun _ _ => rfl)))) pss_nil)
      (pss_one (ps_ret (pe_op op_add (pe_op op_add (pe_op op_mul (pe_callB (x_sum (K := K) rfl rfl) (by rfl) T.f_sum (by decide +kernel) (pa_cons (pe_slice sl_list (pv 0) po_none (po_some pe_int)) pa_nil)) pe_int) (pe_op op_mul pe_int (pe_op op_add (pv 1) pe_int))) pe_int)))), spM_run (n := 2) (N := ["_law_script", "_law_k"]) (sim_seq (sim_ifS (sim_test (sim_op os_lt sim_var (sim_cb cb_len (sim_cons sim_var sim_nil)))) (sim_ret (sim_op os_ixL sim_var sim_var)) sim_next)
      (sim_ret (sim_op os_add (sim_op os_add (sim_op os_mul (sim_cb cb_sum (sim_cons (sim_sl ss_L sim_var sim_noP (sim_part sim_int)) sim_nil)) sim_int) (sim_op os_mul sim_int (sim_op os_add sim_var sim_int))) sim_int))) h⟩)⟩
theorem sc__law_purse : FnScope ["_law_cell_here", "_law_digits"] ["_law_cell_here"] (defScope s__law_purse) := ⟨rfl, rfl, rfl, by decide +kernel, rfl, by decide +kernel, by decide +kernel⟩
theorem ok__law_purse (T : Tx w K mg) : DOk P w K mg base d__law_purse CX0 1 ["_law_cell_here"] (spM K false m__law_purse) := by
  obtain ⟨fd, F⟩ := T.df__law_purse
  exact ⟨fd, F, F.ok sc__law_purse (fun vs H Q E h => spM_len h) (fun cdv A outer s H vs Q E hr h => ⟨_, PSs.nox (pss_cons (ps_set (i := 1) sc__law_purse.nd rfl (Or.inl rfl) pe_int)
      (pss_cons (ps_if (PW.pt (pw_or (pt_cmpR op_lt (pv 0) pe_int (nomark _)) (pw_or1 (pt_cmpR op_ge (pv 0) (pe_op op_pow pe_int pe_int) (nomark _))))) (pss_one (ps_set (i := 1) sc__law_purse.nd rfl (Or.inl rfl) (pe_callB (call_abs) (by rfl) T.f_abs (by decide +kernel) (pa_cons (pv 0) pa_nil)))) pss_nil)
      (pss_one (ps_ret (pe_lst (pa_cons (pe_op op_mod (pv 0) pe_int) (pa_cons (pv 1) (pa_cons pe_int pa_nil)))))))), spM_run (n := 1) (N := ["_law_cell_here", "_law_digits"]) (sim_seq (sim_asg sim_int sim_nm)
      (sim_seq (sim_ifS (sim_or (sim_test (sim_op os_lt sim_var sim_int)) (sim_test (sim_op os_ge sim_var (sim_op os_pow sim_int sim_int)))) (sim_asg (sim_cb cb_abs (sim_cons sim_var sim_nil)) sim_nm) sim_next)
      (sim_ret (sim_lstO (sim_cons (sim_op os_mod sim_var sim_int) (sim_cons sim_var (sim_cons sim_int sim_nil))))))) h⟩)⟩
theorem sc__law_take : FnScope ["_law_purse_here", "_law_many", "_law_old", "_law_taken"] ["_law_purse_here", "_law_many"] (defScope s__law_take) := ⟨rfl, rfl, rfl, by decide +kernel, rfl, by decide +kernel, by decide +kernel⟩
theorem ok__law_take (T : Tx w K mg) : DOk P w K mg base d__law_take CX0 1 ["_law_purse_here", "_law_many"] (spM K false m__law_take) := by
  obtain ⟨fd, F⟩ := T.df__law_take
  exact ⟨fd, F, F.ok sc__law_take (fun vs H Q E h => spM_len h) (fun cdv A outer s H vs Q E hr h => ⟨_, PSs.nox (pss_cons (ps_asg (pe_op op_add (pe_ix ix_list (pv 0) pe_int (fun _ _ => rfl)) pe_int) (pg_sub (pv 0) pe_int set_list))
      (pss_cons (ps_set (i := 2) sc__law_take.nd rfl (Or.inl rfl) (pe_ix ix_list (pv 0) pe_int (fun _ _ => rfl)))
      (pss_cons (ps_asg (pe_op op_mod (pe_op op_add (pe_op op_add (pe_op op_mul (pv 2) (pe_op op_add (pe_op op_mod (pv 2) pe_int) pe_int)) (pe_op op_mul pe_int (pe_ix ix_list (pv 0) pe_int (fun _ _ => rfl)))) pe_int) pe_int) (pg_sub (pv 0) pe_int set_list))
      (pss_cons (ps_if (pt_cmpR op_gt (pe_ix ix_list (pv 0) pe_int (fun _ _ => rfl)) pe_int (nomark _)) (pss_cons (ps_set (i := 3) sc__law_take.nd rfl (Or.inl rfl) (pe_op op_mod (pe_ix ix_list (pv 0) pe_int (fun _ _ => rfl)) (pv 1)))
      (pss_cons (ps_asg (pe_op op_fdiv (pe_ix ix_list (pv 0) pe_int (fun _ _ => rfl)) (pv 1)) (pg_sub (pv 0) pe_int set_list))
      (pss_one (ps_ret (pv 3))))) pss_nil)
      (pss_one (ps_ret (pe_op op_mod (pe_op op_fdiv (pe_ix ix_list (pv 0) pe_int (fun _ _ => rfl)) pe_int) (pv 1)))))))), spM_run (n := 2) (N := ["_law_purse_here", "_law_many", "_law_old", "_law_taken"]) (sim_seq (sim_asg (sim_op os_add (sim_op os_ixL sim_var sim_int) sim_int) (sim_gSubL sim_var sim_int))
      (sim_seq (sim_asg (sim_op os_ixL sim_var sim_int) sim_nm)
      (sim_seq (sim_asg (sim_op os_mod (sim_op os_add (sim_op os_add (sim_op os_mul sim_var (sim_op os_add (sim_op os_mod sim_var sim_int) sim_int)) (sim_op os_mul sim_int (sim_op os_ixL sim_var sim_int))) sim_int) sim_int) (sim_gSubL sim_var sim_int))
      (sim_seq (sim_ifS (sim_test (sim_op os_gt (sim_op os_ixL sim_var sim_int) sim_int)) (sim_seq (sim_asg (sim_op os_mod (sim_op os_ixL sim_var sim_int) sim_var) sim_nm)
      (sim_seq (sim_asg (sim_op os_fdiv (sim_op os_ixL sim_var sim_int) sim_var) (sim_gSubL sim_var sim_int))
      (sim_ret sim_var))) sim_next)
      (sim_ret (sim_op os_mod (sim_op os_fdiv (sim_op os_ixL sim_var sim_int) sim_int) sim_var)))))) h⟩)⟩
theorem sc__law_measure : FnScope ["_law_purse_here", "_law_size"] ["_law_purse_here"] (defScope s__law_measure) := ⟨rfl, rfl, rfl, by decide +kernel, rfl, by decide +kernel, by decide +kernel⟩
theorem ok__law_measure (T : Tx w K mg) : DOk P w K mg base d__law_measure CX0 2 ["_law_purse_here"] (spM K false m__law_measure) := by
  have o__law_take := ok__law_take (P := P) (w := w) (base := base) T
  obtain ⟨fd, F⟩ := T.df__law_measure
  exact ⟨fd, F, F.ok sc__law_measure (fun vs H Q E h => spM_len h) (fun cdv A outer s H vs Q E hr h => ⟨_, PSs.nox (pss_cons (ps_set (i := 1) sc__law_measure.nd rfl (Or.inl rfl) (pe_ix ix_list (pe_lst (pa_cons pe_int (pa_cons pe_int (pa_cons pe_int (pa_cons pe_int pa_nil))))) (pc o__law_take T.g__law_take b__law_take hr (by decide) (pa_cons (pv 0) (pa_cons pe_int pa_nil))) (fun _ _ => rfl)))
      (pss_one (ps_ret (pe_op op_sub (pc o__law_take T.g__law_take b__law_take hr (by decide) (pa_cons (pv 0) (pa_cons (pe_op op_add (pe_op op_mul pe_int (pv 1)) pe_int) pa_nil))) (pv 1))))), spM_run (n := 1) (N := ["_law_purse_here", "_law_size"]) (sim_seq (sim_asg (sim_op os_ixL (sim_lst (sim_cons sim_int (sim_cons sim_int (sim_cons sim_int (sim_cons sim_int sim_nil))))) (sim_call (sim_cons sim_var (sim_cons sim_int sim_nil)) (fun _ _ => RepL.nilR))) sim_nm)
      (sim_ret (sim_op os_sub (sim_call (sim_cons sim_var (sim_cons (sim_op os_add (sim_op os_mul sim_int sim_var) sim_int) sim_nil)) (fun _ _ => RepL.nilR)) sim_var))) h⟩)⟩
theorem sc__law_allowed : FnScope ["_law_purse_here", "_law_wide", "_law_spread", "_law_pick", "_law_above"] ["_law_purse_here", "_law_wide"] (defScope s__law_allowed) := ⟨rfl, rfl, rfl, by decide +kernel, rfl, by decide +kernel, by decide +kernel⟩
theorem ok__law_allowed (T : Tx w K mg) : DOk P w K mg base d__law_allowed CX0 2 ["_law_purse_here", "_law_wide"] (spM K false m__law_allowed) := by
  have o__law_take := ok__law_take (P := P) (w := w) (base := base) T
  obtain ⟨fd, F⟩ := T.df__law_allowed
  exact ⟨fd, F, F.ok sc__law_allowed (fun vs H Q E h => spM_len h) (fun cdv A outer s H vs Q E hr h => ⟨_, PSs.nox (pss_cons (ps_set (i := 2) sc__law_allowed.nd rfl (Or.inl rfl) (pc o__law_take T.g__law_take b__law_take hr (by decide) (pa_cons (pv 0) (pa_cons (pe_ix ix_list (pe_lst (pa_cons pe_int (pa_cons pe_int (pa_cons (pe_op op_add (pv 1) pe_int) pa_nil)))) (pc o__law_take T.g__law_take b__law_take hr (by decide) (pa_cons (pv 0) (pa_cons pe_int pa_nil))) (fun _ _ => rfl)) pa_nil))))
      (pss_cons (ps_set (i := 3) sc__law_allowed.nd rfl (Or.inl rfl) (pc o__law_take T.g__law_take b__law_take hr (by decide) (pa_cons (pv 0) (pa_cons pe_int pa_nil))))
      (pss_cons (ps_set (i := 4) sc__law_allowed.nd rfl (Or.inl rfl) (pe_ix ix_list (pe_lst (pa_cons (pv 2) (pa_cons pe_int (pa_cons (pc o__law_take T.g__law_take b__law_take hr (by decide) (pa_cons (pv 0) (pa_cons (pe_op op_add (pv 2) pe_int) pa_nil))) (pa_cons (pe_op op_sub pe_int (pc o__law_take T.g__law_take b__law_take hr (by decide) (pa_cons (pv 0) (pa_cons pe_int pa_nil)))) (pa_cons (pe_op op_add (pv 2) (pc o__law_take T.g__law_take b__law_take hr (by decide) (pa_cons (pv 0) (pa_cons pe_int pa_nil)))) pa_nil)))))) (pv 3) (fun _ _ => rfl)))
      (pss_one (ps_ret (pe_tup (pa_cons (pv 4) (pa_cons (pe_op op_sub (pv 2) (pv 4)) pa_nil)))))))), spM_run (n := 2) (N := ["_law_purse_here", "_law_wide", "_law_spread", "_law_pick", "_law_above"]) (sim_seq (sim_asg (sim_call (sim_cons sim_var (sim_cons (sim_op os_ixL (sim_lst (sim_cons sim_int (sim_cons sim_int (sim_cons (sim_op os_add sim_var sim_int) sim_nil)))) (sim_call (sim_cons sim_var (sim_cons sim_int sim_nil)) (fun _ _ => RepL.nilR))) sim_nil)) (fun _ _ => RepL.nilR)) sim_nm)
      (sim_seq (sim_asg (sim_call (sim_cons sim_var (sim_cons sim_int sim_nil)) (fun _ _ => RepL.nilR)) sim_nm)
      (sim_seq (sim_asg (sim_op os_ixL (sim_lst (sim_cons sim_var (sim_cons sim_int (sim_cons (sim_call (sim_cons sim_var (sim_cons (sim_op os_add sim_var sim_int) sim_nil)) (fun _ _ => RepL.nilR)) (sim_cons (sim_op os_sub sim_int (sim_call (sim_cons sim_var (sim_cons sim_int sim_nil)) (fun _ _ => RepL.nilR))) (sim_cons (sim_op os_add sim_var (sim_call (sim_cons sim_var (sim_cons sim_int sim_nil)) (fun _ _ => RepL.nilR))) sim_nil)))))) sim_var) sim_nm)
      (sim_ret (sim_tup (sim_cons sim_var (sim_cons (sim_op os_sub sim_var sim_var) sim_nil))))))) h⟩)⟩
theorem sc__law_row : FnScope ["_law_purse_here", "_law_many", "_law_near", "_law_row_here", "_law_k", "_law_size", "_law_allowed_here"] ["_law_purse_here", "_law_many", "_law_near"] (defScope s__law_row) := ⟨rfl, rfl, rfl, by decide +kernel, rfl, by decide +kernel, by decide +kernel⟩
theorem ok__law_row (T : Tx w K mg) : DOk P w K mg base d__law_row CX0 3 ["_law_purse_here", "_law_many", "_law_near"] (spM K false m__law_row) := by
  have o__law_measure := ok__law_measure (P := P) (w := w) (base := base) T
  have o__law_allowed := ok__law_allowed (P := P) (w := w) (base := base) T
  have o__law_take := ok__law_take (P := P) (w := w) (base := base) T
  obtain ⟨fd, F⟩ := T.df__law_row
  exact ⟨fd, F, F.ok sc__law_row (fun vs H Q E h => spM_len h) (fun cdv A outer s H vs Q E hr h => ⟨_, PSs.nox (pss_cons (ps_set (i := 3) sc__law_row.nd rfl (Or.inl rfl) (pe_lst pa_nil))
      (pss_cons (ps_for PassesOwn.never rfl (pi_range1 (by rfl) T.f_range (pa_cons (pv 1) pa_nil)) (pg_name (i := 4) sc__law_row.nd rfl (Or.inl rfl))
      (pss_cons (ps_par (i := 5) (j := 6) (by rfl) sc__law_row.nd rfl rfl (by decide) rfl rfl (pa_cons (pc o__law_measure T.g__law_measure b__law_measure hr (by decide) (pa_cons (pv 0) pa_nil)) (pa_cons (pc o__law_allowed T.g__law_allowed b__law_allowed hr (by decide) (pa_cons (pv 0) (pa_cons pe_int pa_nil))) pa_nil)) (by rfl))
      (pss_cons (ps_if (pt_val (pv 2)) (pss_one (ps_par (i := 5) (j := 6) (by rfl) sc__law_row.nd rfl rfl (by decide) rfl rfl (pa_cons (pe_op op_sub (pc o__law_take T.g__law_take b__law_take hr (by decide) (pa_cons (pv 0) (pa_cons pe_int pa_nil))) pe_int) (pa_cons (pc o__law_allowed T.g__law_allowed b__law_allowed hr (by decide) (pa_cons (pv 0) (pa_cons pe_int pa_nil))) pa_nil)) (by rfl))) pss_nil)
      (pss_one (ps_expr (pe_bm PySem.F.plainAttrs_list PySem.F.slot_list_append PySem.F.type_list_append mt_append (pv 3) (pa_cons (pe_op op_catA (pe_tup (pa_cons (pv 5) pa_nil)) (pv 6)) pa_nil)))))))
      (pss_one (ps_ret (pv 3))))), spM_run (n := 3) (N := ["_law_purse_here", "_law_many", "_law_near", "_law_row_here", "_law_k", "_law_size", "_law_allowed_here"]) (sim_seq (sim_asg (sim_lstO sim_nil) sim_nm)
      (sim_seq (sim_for (sim_iR1 (sim_cons sim_var sim_nil)) (sim_g0 g0_nm) (sim_seq (sim_par (sim_cons (sim_call (sim_cons sim_var sim_nil) (fun _ _ => RepL.nilR)) (sim_cons (sim_call (sim_cons sim_var (sim_cons sim_int sim_nil)) (fun _ _ => RepL.nilR)) sim_nil)))
      (sim_seq (sim_ifS (sim_B sim_var) (sim_par (sim_cons (sim_op os_sub (sim_call (sim_cons sim_var (sim_cons sim_int sim_nil)) (fun _ _ => RepL.nilR)) sim_int) (sim_cons (sim_call (sim_cons sim_var (sim_cons sim_int sim_nil)) (fun _ _ => RepL.nilR)) sim_nil))) sim_next)
      (sim_exp (sim_bml ml_append sim_var (sim_cons (sim_op os_catA (sim_tup (sim_cons sim_var sim_nil)) sim_var) sim_nil))))))
      (sim_ret (sim_frz sim_var)))) h⟩)⟩
theorem sc_is_measure : FnScope ["thing"] ["thing"] (defScope s_is_measure) := ⟨rfl, rfl, rfl, by decide +kernel, rfl, by decide +kernel, by decide +kernel⟩
theorem ok_is_measure (T : Tx w K mg) : DOk P w K mg base d_is_measure CX0 1 ["thing"] (spM K false m_is_measure) := by
  obtain ⟨fd, F⟩ := T.df_is_measure
  exact ⟨fd, F, F.ok sc_is_measure (fun vs H Q E h => spM_len h) (fun cdv A outer s H vs Q E hr h => ⟨_, PSs.nox (pss_one (ps_ret (pe_and (pe_callB (x_isi (K := K) rfl) (by rfl) T.f_isinstance (by decide +kernel) (pa_cons (pv 0) (pa_cons (pe_bltn (v := .ty "int") (u := .type "int") (by rfl) T.f_int (by decide +kernel) rfl) pa_nil))) (pe_one (pe_not (pe_callB (x_isi (K := K) rfl) (by rfl) T.f_isinstance (by decide +kernel) (pa_cons (pv 0) (pa_cons (pe_bltn (v := .ty "bool") (u := .type "bool") (by rfl) T.f_bool (by decide +kernel) rfl) pa_nil)))))))), spM_run (n := 1) (N := ["thing"]) (sim_ret (sim_andV (sim_cb (cb_isi T.clsK) (sim_cons sim_var (sim_cons sim_ty sim_nil))) (sim_notV (sim_cb (cb_isi T.clsK) (sim_cons sim_var (sim_cons sim_ty sim_nil)))))) h⟩)⟩
theorem sc_check_measure : FnScope ["thing"] ["thing"] (defScope s_check_measure) := ⟨rfl, rfl, rfl, by decide +kernel, rfl, by decide +kernel, by decide +kernel⟩
theorem ok_check_measure (T : Tx w K mg) : DOk P w K mg base d_check_measure (L2.CX P w) 2 ["thing"] (spM K true m_check_measure) := by
  have o_is_measure := ok_is_measure (P := P) (w := w) (base := base) T
  obtain ⟨fd, F⟩ := T.df_check_measure
  exact ⟨fd, F, F.ok sc_check_measure (fun vs H Q E h => spM_len h) (fun cdv A outer s H vs Q E hr h => ⟨_, (pss_one (ps_if (pt_not (pt_val (pc o_is_measure T.g_is_measure b_is_measure hr (by decide) (pa_cons (pv 0) pa_nil)))) (pss_one (ps_raise rfl (takes_of rfl rfl rfl rfl) (pmk_own PySem.F.excBase_ValueError T.xq_NoMeasure T.g_NoMeasure T.xc_NoMeasure.kp T.xc_NoMeasure.raises rfl))) pss_nil)), spM_runX (E := E) (n := 1) (N := ["thing"]) (sim_ifS (sim_not (sim_B (sim_callN (sim_cons sim_var sim_nil) (fun _ _ => RepL.nilR)))) sim_raiseP sim_next) h⟩)⟩
theorem sc_check_allowance : FnScope ["above", "below"] ["above", "below"] (defScope s_check_allowance) := ⟨rfl, rfl, rfl, by decide +kernel, rfl, by decide +kernel, by decide +kernel⟩
theorem ok_check_allowance (T : Tx w K mg) : DOk P w K mg base d_check_allowance (L2.CX P w) 2 ["above", "below"] (spM K true m_check_allowance) := by
  have o_is_measure := ok_is_measure (P := P) (w := w) (base := base) T
  obtain ⟨fd, F⟩ := T.df_check_allowance
  exact ⟨fd, F, F.ok sc_check_allowance (fun vs H Q E h => spM_len h) (fun cdv A outer s H vs Q E hr h => ⟨_, (pss_one (ps_if (PW.pt (pw_or (pt_not (pt_val (pc o_is_measure T.g_is_measure b_is_measure hr (by decide) (pa_cons (pv 0) pa_nil)))) (pw_or (pt_not (pt_val (pc o_is_measure T.g_is_measure b_is_measure hr (by decide) (pa_cons (pv 1) pa_nil)))) (pw_or1 (pt_cmpR op_lt (pe_op op_add (pv 0) (pv 1)) pe_int (nomark _)))))) (pss_one (ps_raise rfl (takes_of rfl rfl rfl rfl) (pmk_own PySem.F.excBase_ValueError T.xq_NoAllowance T.g_NoAllowance T.xc_NoAllowance.kp T.xc_NoAllowance.raises rfl))) pss_nil)), spM_runX (E := E) (n := 2) (N := ["above", "below"]) (sim_ifS (sim_or (sim_not (sim_B (sim_callN (sim_cons sim_var sim_nil) (fun _ _ => RepL.nilR)))) (sim_or (sim_not (sim_B (sim_callN (sim_cons sim_var sim_nil) (fun _ _ => RepL.nilR)))) (sim_test (sim_op os_lt (sim_op os_add sim_var sim_var) sim_int)))) sim_raiseP sim_next) h⟩)⟩
theorem sc_Span___init__ : FnScope ["self", "size", "above", "below"] ["self", "size", "above", "below"] (defScope s_Span___init__) := ⟨rfl, rfl, rfl, by decide +kernel, rfl, by decide +kernel, by decide +kernel⟩
theorem ok_Span___init__ (T : Tx w K mg) : DOk P w K mg base d_Span___init__ (L2.CX P w) 3 ["self", "size", "above", "below"] (spIX K "Span" m_Span___init__) := by
  have o_check_measure := ok_check_measure (P := P) (w := w) (base := base) T
  have o_check_allowance := ok_check_allowance (P := P) (w := w) (base := base) T
  obtain ⟨fd, F⟩ := T.df_Span___init__
  exact ⟨fd, F, F.ok sc_Span___init__ (fun vs H Q E h => spIX_len h) (fun cdv A outer s H vs Q E hr h => ⟨_, (pss_cons (ps_expr (pcS o_check_measure (fun _ => passAt (takes_of rfl rfl rfl rfl) _) T.g_check_measure b_check_measure hr (by decide) (pa_cons (pv 1) pa_nil)))
      (pss_cons (ps_expr (pcS o_check_allowance (fun _ => passAt (takes_of rfl rfl rfl rfl) _) T.g_check_allowance b_check_allowance hr (by decide) (pa_cons (pv 2) (pa_cons (pv 3) pa_nil))))
      (pss_cons (ps_fld (pv 0) (pv 1) rfl)
      (pss_cons (ps_fld (pv 0) (pv 2) rfl)
      (pss_cons (ps_fld (pv 0) (pv 3) rfl)
      (pss_cons (ps_fld (pv 0) (pe_op op_sub (pv 1) (pv 3)) rfl)
      (pss_one (ps_fld (pv 0) (pe_op op_add (pv 1) (pv 2)) rfl)))))))), spIX_run (E := E) (n := 3) (N := ["self", "size", "above", "below"]) (sbx_seq (sbx_exp (sim_callS (sim_cons sim_var sim_nil) (fun _ _ => RepL.nilR)))
      (sbx_seq (sbx_exp (sim_callS (sim_cons sim_var (sim_cons sim_var sim_nil)) (fun _ _ => RepL.nilR)))
      (sbx_seq (sbx_fld T.cls_Span T.no_Span_size sim_var)
      (sbx_seq (sbx_fld T.cls_Span T.no_Span_above sim_var)
      (sbx_seq (sbx_fld T.cls_Span T.no_Span_below sim_var)
      (sbx_seq (sbx_fld T.cls_Span T.no_Span_low (sim_op os_sub sim_var sim_var))
      (sbx_fld T.cls_Span T.no_Span_high (sim_op os_add sim_var sim_var)))))))) h⟩)⟩
theorem sc__law_odd : FnScope ["_law_purse_here", "_law_some"] ["_law_purse_here"] (defScope s__law_odd) := ⟨rfl, rfl, rfl, by decide +kernel, rfl, by decide +kernel, by decide +kernel⟩
theorem ok__law_odd (T : Tx w K mg) : DOk P w K mg base d__law_odd CX0 5 ["_law_purse_here"] (spM K false m__law_odd) := by
  have o_Sieve___init__ := ok_Sieve___init__ (P := P) (w := w) (base := base) T
  have o__law_take := ok__law_take (P := P) (w := w) (base := base) T
  obtain ⟨fd, F⟩ := T.df__law_odd
  exact ⟨fd, F, F.ok sc__law_odd (fun vs H Q E h => spM_len h) (fun cdv A outer s H vs Q E hr h => ⟨_, PSs.nox (pss_cons (ps_set (i := 1) sc__law_odd.nd rfl (Or.inl rfl) (pe_lst (pa_cons (pe_tup (pa_cons pe_int (pa_cons pe_int (pa_cons pe_int pa_nil)))) (pa_cons pe_int (pa_cons pe_str (pa_cons pe_bl (pa_cons (pe_lst pa_nil) (pa_cons (pe_tup pa_nil) (pa_cons pe_dnewK (pa_cons pe_non (pa_cons (pe_tup (pa_cons (pe_lst pa_nil) pa_nil)) (pa_cons (pe_lst (pa_cons pe_int pa_nil)) (pa_cons (pmk0S o_Sieve___init__ passE0 T.mkr_Sieve T.g_Sieve bd_Sieve___init___1 hr (by decide)) pa_nil)))))))))))))
      (pss_one (ps_ret (pe_ix ix_list (pv 1) (pc o__law_take T.g__law_take b__law_take hr (by decide) (pa_cons (pv 0) (pa_cons pe_int pa_nil))) (fun _ _ => rfl))))), spM_run (n := 1) (N := ["_law_purse_here", "_law_some"]) (sim_seq (sim_asg (sim_lst (sim_cons (sim_tup (sim_cons sim_int (sim_cons sim_int (sim_cons sim_int sim_nil)))) (sim_cons sim_int (sim_cons sim_str (sim_cons sim_bl (sim_cons (sim_lst sim_nil) (sim_cons (sim_tup sim_nil) (sim_cons sim_dic0 (sim_cons sim_non (sim_cons (sim_tup (sim_cons (sim_lst sim_nil) sim_nil)) (sim_cons (sim_lst (sim_cons sim_int sim_nil)) (sim_cons (sim_frz (sim_makeOX sim_nil (fun _ _ => (RepL.consR rp_non RepL.nilR)))) sim_nil)))))))))))) sim_nm)
      (sim_ret (sim_op os_ixL sim_var (sim_call (sim_cons sim_var (sim_cons sim_int sim_nil)) (fun _ _ => RepL.nilR))))) h⟩)⟩
theorem sc_check_sieve : FnScope ["thing"] ["thing"] (defScope s_check_sieve) := ⟨rfl, rfl, rfl, by decide +kernel, rfl, by decide +kernel, by decide +kernel⟩
theorem ok_check_sieve (T : Tx w K mg) : DOk P w K mg base d_check_sieve (L2.CX P w) 1 ["thing"] (spM K true m_check_sieve) := by
  obtain ⟨fd, F⟩ := T.df_check_sieve
  exact ⟨fd, F, F.ok sc_check_sieve (fun vs H Q E h => spM_len h) (fun cdv A outer s H vs Q E hr h => ⟨_, (pss_one (ps_if (pt_not (pt_val (pe_callB (x_isi (K := K) rfl) (by rfl) T.f_isinstance (by decide +kernel) (pa_cons (pv 0) (pa_cons (pe_glob (v := .ref (He.ga K "Sieve")) rfl T.g_Sieve rfl) pa_nil))))) (pss_one (ps_raise rfl (takes_of rfl rfl rfl rfl) (pmk_own PySem.F.excBase_ValueError T.xq_NoSieve T.g_NoSieve T.xc_NoSieve.kp T.xc_NoSieve.raises rfl))) pss_nil)), spM_runX (E := E) (n := 1) (N := ["thing"]) (sim_ifS (sim_not (sim_B (sim_cb (cb_isi T.clsK) (sim_cons sim_var (sim_cons sim_cls sim_nil))))) sim_raiseP sim_next) h⟩)⟩
theorem sc_either_of : FnScope ["runs", "others"] ["runs", "others"] (defScope s_either_of) := ⟨rfl, rfl, rfl, by decide +kernel, rfl, by decide +kernel, by decide +kernel⟩
theorem ok_either_of (T : Tx w K mg) : DOk P w K mg base d_either_of CX0 2 ["runs", "others"] (spM K false m_either_of) := by
  have o_joined := ok_joined (P := P) (w := w) (base := base) T
  obtain ⟨fd, F⟩ := T.df_either_of
  exact ⟨fd, F, F.ok sc_either_of (fun vs H Q E h => spM_len h) (fun cdv A outer s H vs Q E hr h => ⟨_, PSs.nox (pss_one (ps_ret (pc o_joined T.g_joined b_joined hr (by decide) (pa_cons (pe_op op_catA (pv 0) (pv 1)) pa_nil)))), spM_run (n := 2) (N := ["runs", "others"]) (sim_ret (sim_call (sim_cons (sim_op os_catA sim_var sim_var) sim_nil) (fun _ _ => RepL.nilR))) h⟩)⟩
theorem sc_sieve_of : FnScope ["runs", "low", "high"] ["runs"] (defScope s_sieve_of) := ⟨rfl, rfl, rfl, by decide +kernel, rfl, by decide +kernel, by decide +kernel⟩
theorem ok_sieve_of (T : Tx w K mg) : DOk P w K mg base d_sieve_of (L2.CX P w) 5 ["runs"] (spM K true m_sieve_of) := by
  have o_Span___init__ := ok_Span___init__ (P := P) (w := w) (base := base) T
  have o_Sieve___init__ := ok_Sieve___init__ (P := P) (w := w) (base := base) T
  obtain ⟨fd, F⟩ := T.df_sieve_of
  exact ⟨fd, F, F.ok sc_sieve_of (fun vs H Q E h => spM_len h) (fun cdv A outer s H vs Q E hr h => ⟨_, (pss_one (ps_ret (pmkS o_Sieve___init__ (fun _ => passAt (takes_of rfl rfl rfl rfl) _) T.mkr_Sieve T.g_Sieve bd_Sieve___init___2 hr (by decide) (pa_cons (pe_lc (own := [("low", 1), ("high", 2)]) (g := gTup K 2 (gCons (gName 1) (gCons (gName 2) gNil))) (tt := tYes) rfl sc_sieve_of.nd (pi_tup (pv 0)) (blkOk_by (N := ["runs", "low", "high"]) (sc := defScope s_sieve_of) (own := [("low", 1), ("high", 2)]) (by decide +kernel)) (fun _ _ _ _ _ => (pg_tup rfl (pgs_cons (pg_name (i := 1) sc_sieve_of.nd rfl (Or.inl rfl)) (pgs_cons (pg_name (i := 2) sc_sieve_of.nd rfl (Or.inl rfl)) pgs_nil)))) (fun _ _ _ _ _ => pts_nil) (fun _ _ _ _ _ => (pmkKS o_Span___init__ passE0 T.mkr_Span T.g_Span bk_Span___init___2_above hr (by decide) (pa_cons (pv 1) pa_nil) (pk_cons (pe_op op_sub (pv 2) (pv 1)) pk_nil)))) pa_nil)))), spM_runX (E := E) (n := 1) (N := ["runs", "low", "high"]) (sim_ret (sim_frz (sim_makeOS (sim_cons (sim_lc (gw_tup (gw_cons (gw_nm (by decide)) (gw_cons (gw_nm (by decide)) gw_nil mg_nm mgs_nil) mg_nm (mgs_cons mg_nm mgs_nil))) (mg_tup (mgs_cons mg_nm (mgs_cons mg_nm mgs_nil))) (sim_iT sim_var) (g0_tup (E := none) (g0_cons g0_nm (g0_cons g0_nm g0_nil))) sim_yesP (sim_makeKX (sim_cons sim_var sim_nil) (sim_cons (sim_op os_sub sim_var sim_var) sim_nil) (fun x ι G ps vs zs ws r1 r2 => ⟨_, rfl, ((r1.app ((r2.drop 0).take 1)).app (RepL.one rp_int))⟩))) sim_nil) (fun _ _ => RepL.nilR)))) h⟩)⟩
theorem sc_Sieve_either : FnScope ["self", "other"] ["self", "other"] (defScope s_Sieve_either) := ⟨rfl, rfl, rfl, by decide +kernel, rfl, by decide +kernel, by decide +kernel⟩
theorem ok_Sieve_either (T : Tx w K mg) : DOk P w K mg base d_Sieve_either (L2.CX P w) 6 ["self", "other"] (spM K true m_Sieve_either) := by
  have o_check_sieve := ok_check_sieve (P := P) (w := w) (base := base) T
  have o_either_of := ok_either_of (P := P) (w := w) (base := base) T
  have o_sieve_of := ok_sieve_of (P := P) (w := w) (base := base) T
  obtain ⟨fd, F⟩ := T.df_Sieve_either
  exact ⟨fd, F, F.ok sc_Sieve_either (fun vs H Q E h => spM_len h) (fun cdv A outer s H vs Q E hr h => ⟨_, (pss_cons (ps_expr (pcS o_check_sieve (fun _ => passAt (takes_of rfl rfl rfl rfl) _) T.g_check_sieve b_check_sieve hr (by decide) (pa_cons (pv 1) pa_nil)))
      (pss_one (ps_ret (pcS o_sieve_of (fun _ => passAt (takes_of rfl rfl rfl rfl) _) T.g_sieve_of b_sieve_of hr (by decide) (pa_cons (pc o_either_of T.g_either_of b_either_of hr (by decide) (pa_cons (pe_fld (pv 0) rfl) (pa_cons (pe_fld (pv 1) rfl) pa_nil))) pa_nil))))), spM_runX (E := E) (n := 2) (N := ["self", "other"]) (sim_seq (sim_exp (sim_callS (sim_cons sim_var sim_nil) (fun _ _ => RepL.nilR)))
      (sim_ret (sim_callS (sim_cons (sim_callN (sim_cons (sim_fld T.cls_Sieve T.no_Sieve_runs sim_var) (sim_cons (sim_fld T.cls_Sieve T.no_Sieve_runs sim_var) sim_nil)) (fun _ _ => RepL.nilR)) sim_nil) (fun _ _ => RepL.nilR)))) h⟩)⟩
theorem sc_both_of : FnScope ["runs", "others", "found", "low", "high", "least", "most"] ["runs", "others"] (defScope s_both_of) := ⟨rfl, rfl, rfl, by decide +kernel, rfl, by decide +kernel, by decide +kernel⟩
theorem ok_both_of (T : Tx w K mg) : DOk P w K mg base d_both_of CX0 2 ["runs", "others"] (spM K false m_both_of) := by
  have o_joined := ok_joined (P := P) (w := w) (base := base) T
  obtain ⟨fd, F⟩ := T.df_both_of
  exact ⟨fd, F, F.ok sc_both_of (fun vs H Q E h => spM_len h) (fun cdv A outer s H vs Q E hr h => ⟨_, PSs.nox (pss_cons (ps_set (i := 2) sc_both_of.nd rfl (Or.inl rfl) (pe_lst pa_nil))
      (pss_cons (ps_for PassesOwn.never rfl (pi_tup (pv 0)) (pg_tup rfl (pgs_cons (pg_name (i := 3) sc_both_of.nd rfl (Or.inl rfl)) (pgs_cons (pg_name (i := 4) sc_both_of.nd rfl (Or.inl rfl)) pgs_nil)))
      (pss_one (ps_for PassesOwn.never rfl (pi_tup (pv 1)) (pg_tup rfl (pgs_cons (pg_name (i := 5) sc_both_of.nd rfl (Or.inl rfl)) (pgs_cons (pg_name (i := 6) sc_both_of.nd rfl (Or.inl rfl)) pgs_nil)))
      (pss_one (ps_if (pt_cmpR op_le (pe_callB (c_max rfl) (by rfl) T.f_max (by decide +kernel) (pa_cons (pv 3) (pa_cons (pv 5) pa_nil))) (pe_callB (c_min rfl) (by rfl) T.f_min (by decide +kernel) (pa_cons (pv 4) (pa_cons (pv 6) pa_nil))) (nomark _)) (pss_one (ps_expr (pe_bm PySem.F.plainAttrs_list PySem.F.slot_list_append PySem.F.type_list_append mt_append (pv 2) (pa_cons (pe_tup (pa_cons (pe_callB (c_max rfl) (by rfl) T.f_max (by decide +kernel) (pa_cons (pv 3) (pa_cons (pv 5) pa_nil))) (pa_cons (pe_callB (c_min rfl) (by rfl) T.f_min (by decide +kernel) (pa_cons (pv 4) (pa_cons (pv 6) pa_nil))) pa_nil))) pa_nil)))) pss_nil)))))
      (pss_one (ps_ret (pc o_joined T.g_joined b_joined hr (by decide) (pa_cons (pv 2) pa_nil)))))), spM_run (n := 2) (N := ["runs", "others", "found", "low", "high", "least", "most"]) (sim_seq (sim_asg (sim_lstO sim_nil) sim_nm)
      (sim_seq (sim_for (sim_iT sim_var) (sim_g0 (g0_tup (E := none) (g0_cons g0_nm (g0_cons g0_nm g0_nil)))) (sim_for (sim_iT sim_var) (sim_g0 (g0_tup (E := none) (g0_cons g0_nm (g0_cons g0_nm g0_nil)))) (sim_ifS (sim_test (sim_op os_le (sim_cb cb_max2 (sim_cons sim_var (sim_cons sim_var sim_nil))) (sim_cb cb_min2 (sim_cons sim_var (sim_cons sim_var sim_nil))))) (sim_exp (sim_bml ml_append sim_var (sim_cons (sim_tup (sim_cons (sim_cb cb_max2 (sim_cons sim_var (sim_cons sim_var sim_nil))) (sim_cons (sim_cb cb_min2 (sim_cons sim_var (sim_cons sim_var sim_nil))) sim_nil))) sim_nil))) sim_next)))
      (sim_ret (sim_call (sim_cons sim_var sim_nil) (fun _ _ => RepL.nilR))))) h⟩)⟩
theorem sc_Sieve_both : FnScope ["self", "other"] ["self", "other"] (defScope s_Sieve_both) := ⟨rfl, rfl, rfl, by decide +kernel, rfl, by decide +kernel, by decide +kernel⟩
theorem ok_Sieve_both (T : Tx w K mg) : DOk P w K mg base d_Sieve_both (L2.CX P w) 6 ["self", "other"] (spM K true m_Sieve_both) := by
  have o_check_sieve := ok_check_sieve (P := P) (w := w) (base := base) T
  have o_both_of := ok_both_of (P := P) (w := w) (base := base) T
  have o_sieve_of := ok_sieve_of (P := P) (w := w) (base := base) T
  obtain ⟨fd, F⟩ := T.df_Sieve_both
  exact ⟨fd, F, F.ok sc_Sieve_both (fun vs H Q E h => spM_len h) (fun cdv A outer s H vs Q E hr h => ⟨_, (pss_cons (ps_expr (pcS o_check_sieve (fun _ => passAt (takes_of rfl rfl rfl rfl) _) T.g_check_sieve b_check_sieve hr (by decide) (pa_cons (pv 1) pa_nil)))
      (pss_one (ps_ret (pcS o_sieve_of (fun _ => passAt (takes_of rfl rfl rfl rfl) _) T.g_sieve_of b_sieve_of hr (by decide) (pa_cons (pc o_both_of T.g_both_of b_both_of hr (by decide) (pa_cons (pe_fld (pv 0) rfl) (pa_cons (pe_fld (pv 1) rfl) pa_nil))) pa_nil))))), spM_runX (E := E) (n := 2) (N := ["self", "other"]) (sim_seq (sim_exp (sim_callS (sim_cons sim_var sim_nil) (fun _ _ => RepL.nilR)))
      (sim_ret (sim_callS (sim_cons (sim_callN (sim_cons (sim_fld T.cls_Sieve T.no_Sieve_runs sim_var) (sim_cons (sim_fld T.cls_Sieve T.no_Sieve_runs sim_var) sim_nil)) (fun _ _ => RepL.nilR)) sim_nil) (fun _ _ => RepL.nilR)))) h⟩)⟩
theorem sc_but_of : FnScope ["runs", "others", "found", "low", "high", "at", "least", "most"] ["runs", "others"] (defScope s_but_of) := ⟨rfl, rfl, rfl, by decide +kernel, rfl, by decide +kernel, by decide +kernel⟩
theorem ok_but_of (T : Tx w K mg) : DOk P w K mg base d_but_of CX0 1 ["runs", "others"] (spM K false m_but_of) := by
  obtain ⟨fd, F⟩ := T.df_but_of
  exact ⟨fd, F, F.ok sc_but_of (fun vs H Q E h => spM_len h) (fun cdv A outer s H vs Q E hr h => ⟨_, PSs.nox (pss_cons (ps_set (i := 2) sc_but_of.nd rfl (Or.inl rfl) (pe_lst pa_nil))
      (pss_cons (ps_for PassesOwn.never rfl (pi_tup (pv 0)) (pg_tup rfl (pgs_cons (pg_name (i := 3) sc_but_of.nd rfl (Or.inl rfl)) (pgs_cons (pg_name (i := 4) sc_but_of.nd rfl (Or.inl rfl)) pgs_nil)))
      (pss_cons (ps_set (i := 5) sc_but_of.nd rfl (Or.inl rfl) (pv 3))
      (pss_cons (ps_for PassesOwn.never rfl (pi_tup (pv 1)) (pg_tup rfl (pgs_cons (pg_name (i := 6) sc_but_of.nd rfl (Or.inl rfl)) (pgs_cons (pg_name (i := 7) sc_but_of.nd rfl (Or.inl rfl)) pgs_nil)))
      (pss_one (ps_if (PW.pt (pw_and (pt_cmpR op_le (pv 5) (pv 7) (nomark _)) (pw_and1 (pt_cmpR op_le (pv 6) (pv 4) (nomark _))))) (pss_cons (ps_if (pt_cmpR op_lt (pv 5) (pv 6) (nomark _)) (pss_one (ps_expr (pe_bm PySem.F.plainAttrs_list PySem.F.slot_list_append PySem.F.type_list_append mt_append (pv 2) (pa_cons (pe_tup (pa_cons (pv 5) (pa_cons (pe_op op_sub (pv 6) pe_int) pa_nil))) pa_nil)))) pss_nil)
      (pss_one (ps_set (i := 5) sc_but_of.nd rfl (Or.inl rfl) (pe_op op_add (pv 7) pe_int)))) pss_nil)))
      (pss_one (ps_if (pt_cmpR op_le (pv 5) (pv 4) (nomark _)) (pss_one (ps_expr (pe_bm PySem.F.plainAttrs_list PySem.F.slot_list_append PySem.F.type_list_append mt_append (pv 2) (pa_cons (pe_tup (pa_cons (pv 5) (pa_cons (pv 4) pa_nil))) pa_nil)))) pss_nil)))))
      (pss_one (ps_ret (pe_callTy (x_tup (K := K) rfl) (by rfl) T.f_tuple (by decide +kernel) (pa_cons (pv 2) pa_nil)))))), spM_run (n := 2) (N := ["runs", "others", "found", "low", "high", "at", "least", "most"]) (sim_seq (sim_asg (sim_lstO sim_nil) sim_nm)
      (sim_seq (sim_for (sim_iT sim_var) (sim_g0 (g0_tup (E := none) (g0_cons g0_nm (g0_cons g0_nm g0_nil)))) (sim_seq (sim_asg sim_var sim_nm)
      (sim_seq (sim_for (sim_iT sim_var) (sim_g0 (g0_tup (E := none) (g0_cons g0_nm (g0_cons g0_nm g0_nil)))) (sim_ifS (sim_and (sim_test (sim_op os_le sim_var sim_var)) (sim_test (sim_op os_le sim_var sim_var))) (sim_seq (sim_ifS (sim_test (sim_op os_lt sim_var sim_var)) (sim_exp (sim_bml ml_append sim_var (sim_cons (sim_tup (sim_cons sim_var (sim_cons (sim_op os_sub sim_var sim_int) sim_nil))) sim_nil))) sim_next)
      (sim_asg (sim_op os_add sim_var sim_int) sim_nm)) sim_next))
      (sim_ifS (sim_test (sim_op os_le sim_var sim_var)) (sim_exp (sim_bml ml_append sim_var (sim_cons (sim_tup (sim_cons sim_var (sim_cons sim_var sim_nil))) sim_nil))) sim_next))))
      (sim_ret (sim_cb cb_tup (sim_cons sim_var sim_nil))))) h⟩)⟩
theorem sc_Sieve_but : FnScope ["self", "other"] ["self", "other"] (defScope s_Sieve_but) := ⟨rfl, rfl, rfl, by decide +kernel, rfl, by decide +kernel, by decide +kernel⟩
theorem ok_Sieve_but (T : Tx w K mg) : DOk P w K mg base d_Sieve_but (L2.CX P w) 6 ["self", "other"] (spM K true m_Sieve_but) := by
  have o_check_sieve := ok_check_sieve (P := P) (w := w) (base := base) T
  have o_but_of := ok_but_of (P := P) (w := w) (base := base) T
  have o_sieve_of := ok_sieve_of (P := P) (w := w) (base := base) T
  obtain ⟨fd, F⟩ := T.df_Sieve_but
  exact ⟨fd, F, F.ok sc_Sieve_but (fun vs H Q E h => spM_len h) (fun cdv A outer s H vs Q E hr h => ⟨_, (pss_cons (ps_expr (pcS o_check_sieve (fun _ => passAt (takes_of rfl rfl rfl rfl) _) T.g_check_sieve b_check_sieve hr (by decide) (pa_cons (pv 1) pa_nil)))
      (pss_one (ps_ret (pcS o_sieve_of (fun _ => passAt (takes_of rfl rfl rfl rfl) _) T.g_sieve_of b_sieve_of hr (by decide) (pa_cons (pc o_but_of T.g_but_of b_but_of hr (by decide) (pa_cons (pe_fld (pv 0) rfl) (pa_cons (pe_fld (pv 1) rfl) pa_nil))) pa_nil))))), spM_runX (E := E) (n := 2) (N := ["self", "other"]) (sim_seq (sim_exp (sim_callS (sim_cons sim_var sim_nil) (fun _ _ => RepL.nilR)))
      (sim_ret (sim_callS (sim_cons (sim_callN (sim_cons (sim_fld T.cls_Sieve T.no_Sieve_runs sim_var) (sim_cons (sim_fld T.cls_Sieve T.no_Sieve_runs sim_var) sim_nil)) (fun _ _ => RepL.nilR)) sim_nil) (fun _ _ => RepL.nilR)))) h⟩)⟩
theorem sc_Sieve_unlike : FnScope ["self", "other", "found", "run"] ["self", "other"] (defScope s_Sieve_unlike) := ⟨rfl, rfl, rfl, by decide +kernel, rfl, by decide +kernel, by decide +kernel⟩
theorem ok_Sieve_unlike (T : Tx w K mg) : DOk P w K mg base d_Sieve_unlike (L2.CX P w) 2 ["self", "other"] (spM K true m_Sieve_unlike) := by
  have o_check_sieve := ok_check_sieve (P := P) (w := w) (base := base) T
  have o_but_of := ok_but_of (P := P) (w := w) (base := base) T
  obtain ⟨fd, F⟩ := T.df_Sieve_unlike
  exact ⟨fd, F, okC (d := d_Sieve_unlike.at_) F sc_Sieve_unlike (fun vs H Q E h => spM_len h) (fun cdv hcd A outer s H vs Q E hr h => ⟨_, (pss_cons (ps_expr (pcS o_check_sieve (fun _ => passAt (takes_of rfl rfl rfl rfl) _) T.g_check_sieve b_check_sieve hr (by decide) (pa_cons (pv 1) pa_nil)))
      (pss_cons (ps_setLc (i := 2) (own := [("run", 3)]) (g := gName 3) (tt := tYes) rfl sc_Sieve_unlike.nd rfl rfl (sw_true rfl rfl rfl (by decide +kernel)) (pi_tup (pe_slice sl_tupA (pc o_but_of T.g_but_of b_but_of hr (by decide) (pa_cons (pe_fld (pv 0) rfl) (pa_cons (pe_fld (pv 1) rfl) pa_nil))) po_none (po_some pe_int))) (blkOk_by (N := ["self", "other", "found", "run"]) (sc := defScope s_Sieve_unlike) (own := [("run", 3)]) (by decide +kernel)) (fun _ _ _ _ _ => (pg_name (i := 3) sc_Sieve_unlike.nd rfl (Or.inl rfl))) (fun _ _ _ _ _ => pts_nil) (fun _ _ _ _ _ => (pe_tup (pa_cons pe_str (pa_cons (pe_ix ix_tup (pv 3) pe_int (fun _ _ => rfl)) pa_nil)))))
      (pss_cons (ps_expr (pe_bm PySem.F.plainAttrs_list PySem.F.slot_list_extend PySem.F.type_list_extend mt_extend (pv 2) (pa_cons (pe_lc (own := [("run", 3)]) (g := gName 3) (tt := tYes) rfl sc_Sieve_unlike.nd (pi_tup (pe_slice sl_tupA (pc o_but_of T.g_but_of b_but_of hr (by decide) (pa_cons (pe_fld (pv 1) rfl) (pa_cons (pe_fld (pv 0) rfl) pa_nil))) po_none (po_some pe_int))) (blkOk_by (N := ["self", "other", "found", "run"]) (sc := defScope s_Sieve_unlike) (own := [("run", 3)]) (by decide +kernel)) (fun _ _ _ _ _ => (pg_name (i := 3) sc_Sieve_unlike.nd rfl (Or.inl rfl))) (fun _ _ _ _ _ => pts_nil) (fun _ _ _ _ _ => (pe_tup (pa_cons pe_str (pa_cons (pe_ix ix_tup (pv 3) pe_int (fun _ _ => rfl)) pa_nil))))) pa_nil)))
      (pss_one (ps_ret (pe_minKey (t := tl_Sieve_unlike) (TB.tb tl_Sieve_unlike List.mem_cons_self) hcd rfl hr.depth hr.hd (pa_cons (pv 2) pa_nil) (by rfl) T.f_min rfl (by decide) (by decide) rfl rfl rfl rfl (by decide) (fun _ _ _ _ _ => rfl))))))), spM_runX (E := E) (n := 2) (N := ["self", "other", "found", "run"]) (sim_seq (sim_exp (sim_callS (sim_cons sim_var sim_nil) (fun _ _ => RepL.nilR)))
      (sim_seq (sim_asg (sim_lcO (gw_nm (by decide)) mg_nm (sim_iT (sim_sl ss_TA (sim_callN (sim_cons (sim_fld T.cls_Sieve T.no_Sieve_runs sim_var) (sim_cons (sim_fld T.cls_Sieve T.no_Sieve_runs sim_var) sim_nil)) (fun _ _ => RepL.nilR)) sim_noP (sim_part sim_int))) g0_nm sim_yesP (sim_tup (sim_cons sim_str (sim_cons (sim_op os_ixT sim_var sim_int) sim_nil)))) sim_nm)
      (sim_seq (sim_exp (sim_bml ml_extend sim_var (sim_cons (sim_lc (gw_nm (by decide)) mg_nm (sim_iT (sim_sl ss_TA (sim_callN (sim_cons (sim_fld T.cls_Sieve T.no_Sieve_runs sim_var) (sim_cons (sim_fld T.cls_Sieve T.no_Sieve_runs sim_var) sim_nil)) (fun _ _ => RepL.nilR)) sim_noP (sim_part sim_int))) g0_nm sim_yesP (sim_tup (sim_cons sim_str (sim_cons (sim_op os_ixT sim_var sim_int) sim_nil)))) sim_nil)))
      (sim_ret (sim_cb cb_minKey (sim_cons sim_var sim_nil)))))) h⟩)⟩
theorem sc_Sieve_lets : FnScope ["self", "measure", "low", "high"] ["self", "measure"] (defScope s_Sieve_lets) := ⟨rfl, rfl, rfl, by decide +kernel, rfl, by decide +kernel, by decide +kernel⟩
theorem ok_Sieve_lets (T : Tx w K mg) : DOk P w K mg base d_Sieve_lets (L2.CX P w) 3 ["self", "measure"] (spM K true m_Sieve_lets) := by
  have o_check_measure := ok_check_measure (P := P) (w := w) (base := base) T
  obtain ⟨fd, F⟩ := T.df_Sieve_lets
  exact ⟨fd, F, F.ok sc_Sieve_lets (fun vs H Q E h => spM_len h) (fun cdv A outer s H vs Q E hr h => ⟨_, (pss_cons (ps_expr (pcS o_check_measure (fun _ => passAt (takes_of rfl rfl rfl rfl) _) T.g_check_measure b_check_measure hr (by decide) (pa_cons (pv 1) pa_nil)))
      (pss_one (ps_ret (pe_callB (x_any (K := K) rfl rfl) (by rfl) T.f_any (by decide +kernel) (pa_cons (pe_lc (own := [("low", 2), ("high", 3)]) (g := gTup K 2 (gCons (gName 2) (gCons (gName 3) gNil))) (tt := tYes) rfl sc_Sieve_lets.nd (pi_tup (pe_fld (pv 0) rfl)) (blkOk_by (N := ["self", "measure", "low", "high"]) (sc := defScope s_Sieve_lets) (own := [("low", 2), ("high", 3)]) (by decide +kernel)) (fun _ _ _ _ _ => (pg_tup rfl (pgs_cons (pg_name (i := 2) sc_Sieve_lets.nd rfl (Or.inl rfl)) (pgs_cons (pg_name (i := 3) sc_Sieve_lets.nd rfl (Or.inl rfl)) pgs_nil)))) (fun _ _ _ _ _ => pts_nil) (fun _ _ _ _ _ => (pe_chain op_le op_le (pv 2) (pv 1) (pv 3)))) pa_nil))))), spM_runX (E := E) (n := 2) (N := ["self", "measure", "low", "high"]) (sim_seq (sim_exp (sim_callS (sim_cons sim_var sim_nil) (fun _ _ => RepL.nilR)))
      (sim_ret (sim_cb cb_any (sim_cons (sim_lc (gw_tup (gw_cons (gw_nm (by decide)) (gw_cons (gw_nm (by decide)) gw_nil mg_nm mgs_nil) mg_nm (mgs_cons mg_nm mgs_nil))) (mg_tup (mgs_cons mg_nm (mgs_cons mg_nm mgs_nil))) (sim_iT (sim_fld T.cls_Sieve T.no_Sieve_runs sim_var)) (g0_tup (E := none) (g0_cons g0_nm (g0_cons g0_nm g0_nil))) sim_yesP (sim_chain os_le os_le sim_var sim_var sim_var)) sim_nil)))) h⟩)⟩
theorem sc__law_kind_of : FnScope ["_law_e", "_law_kinds"] ["_law_e"] (defScope s__law_kind_of) := ⟨rfl, rfl, rfl, by decide +kernel, rfl, by decide +kernel, by decide +kernel⟩
theorem ok__law_kind_of (T : Tx w K mg) : DOk P w K mg base d__law_kind_of CX0 1 ["_law_e"] (spM K false m__law_kind_of) := by
  obtain ⟨fd, F⟩ := T.df__law_kind_of
  exact ⟨fd, F, F.ok sc__law_kind_of (fun vs H Q E h => spM_len h) (fun cdv A outer s H vs Q E hr h => ⟨_, PSs.nox (pss_cons (ps_set (i := 1) sc__law_kind_of.nd rfl (Or.inl rfl) (pe_lst (pa_cons (pe_callB (x_isa (K := K) rfl) (by rfl) T.f_isinstance (by decide +kernel) (pa_cons (pv 0) (pa_cons (pe_glob (v := .ref (He.ga K "NoSpan")) rfl T.g_NoSpan rfl) pa_nil))) (pa_cons (pe_callB (x_isa (K := K) rfl) (by rfl) T.f_isinstance (by decide +kernel) (pa_cons (pv 0) (pa_cons (pe_glob (v := .ref (He.ga K "NoSieve")) rfl T.g_NoSieve rfl) pa_nil))) (pa_cons (pe_callB (x_isa (K := K) rfl) (by rfl) T.f_isinstance (by decide +kernel) (pa_cons (pv 0) (pa_cons (pe_glob (v := .ref (He.ga K "NoMeasure")) rfl T.g_NoMeasure rfl) pa_nil))) pa_nil)))))
      (pss_cons (ps_if (pt_val (pe_callB (x_isaT (K := K) rfl) (by rfl) T.f_isinstance (by decide +kernel) (pa_cons (pv 0) (pa_cons (pe_tup (pa_cons (pe_glob (v := .ref (He.ga K "NoAllowance")) rfl T.g_NoAllowance rfl) (pa_cons (pe_glob (v := .ref (He.ga K "NoDrawing")) rfl T.g_NoDrawing rfl) (pa_cons (pe_glob (v := .ref (He.ga K "NoLimits")) rfl T.g_NoLimits rfl) (pa_cons (pe_glob (v := .ref (He.ga K "NoLine")) rfl T.g_NoLine rfl) (pa_cons (pe_glob (v := .ref (He.ga K "NoName")) rfl T.g_NoName rfl) (pa_cons (pe_glob (v := .ref (He.ga K "NoNew")) rfl T.g_NoNew rfl) (pa_cons (pe_glob (v := .ref (He.ga K "NoOption")) rfl T.g_NoOption rfl) pa_nil)))))))) pa_nil)))) (pss_one (ps_ret (pe_op op_sub pe_int pe_int))) pss_nil)
      (pss_cons (ps_if (pt_val (pe_callB (x_isaT (K := K) rfl) (by rfl) T.f_isinstance (by decide +kernel) (pa_cons (pv 0) (pa_cons (pe_tup (pa_cons (pe_glob (v := .ref (He.ga K "NoPlace")) rfl T.g_NoPlace rfl) (pa_cons (pe_glob (v := .ref (He.ga K "NoRow")) rfl T.g_NoRow rfl) (pa_cons (pe_glob (v := .ref (He.ga K "NoTray")) rfl T.g_NoTray rfl) (pa_cons (pe_glob (v := .ref (He.ga K "NoWants")) rfl T.g_NoWants rfl) (pa_cons (pe_glob (v := .ref (He.ga K "NoWord")) rfl T.g_NoWord rfl) (pa_cons (pe_glob (v := .ref (He.ga K "NoZeros")) rfl T.g_NoZeros rfl) (pa_cons (pe_glob (v := .ref (He.ga K "TooLong")) rfl T.g_TooLong rfl) pa_nil)))))))) pa_nil)))) (pss_one (ps_ret (pe_op op_sub pe_int pe_int))) pss_nil)
      (pss_cons (ps_if (PW.pt (pw_or (pt_cmpR op_ne (pe_bm PySem.F.plainAttrs_list PySem.F.slot_list_count PySem.F.type_list_count mt_cntV (pv 1) (pa_cons pe_bl pa_nil)) pe_int (nomark _)) (pw_or (pt_not (pt_val (pe_callB (x_isa (K := K) rfl) (by rfl) T.f_isinstance (by decide +kernel) (pa_cons (pv 0) (pa_cons (pe_glob (v := .ref (He.ga K "FitError")) rfl T.g_FitError rfl) pa_nil))))) (pw_or1 (pt_val (pe_callB (x_isaT (K := K) rfl) (by rfl) T.f_isinstance (by decide +kernel) (pa_cons (pv 0) (pa_cons (pe_tup (pa_cons (pe_glob (v := .ref (He.ga K "MissError")) rfl T.g_MissError rfl) (pa_cons (pe_glob (v := .ref (He.ga K "RoomError")) rfl T.g_RoomError rfl) (pa_cons (pe_glob (v := .ref (He.ga K "ReadError")) rfl T.g_ReadError rfl) pa_nil)))) pa_nil)))))))) (pss_one (ps_ret (pe_op op_sub pe_int pe_int))) pss_nil)
      (pss_one (ps_ret (pe_bm PySem.F.plainAttrs_list PySem.F.slot_list_index PySem.F.type_list_index mt_index (pv 1) (pa_cons pe_bl pa_nil)))))))), spM_run (n := 1) (N := ["_law_e", "_law_kinds"]) (sim_seq (sim_asg (sim_lst (sim_cons (sim_cb (cb_isx T.xk) (sim_cons sim_var (sim_cons sim_cls sim_nil))) (sim_cons (sim_cb (cb_isx T.xk) (sim_cons sim_var (sim_cons sim_cls sim_nil))) (sim_cons (sim_cb (cb_isx T.xk) (sim_cons sim_var (sim_cons sim_cls sim_nil))) sim_nil)))) sim_nm)
      (sim_seq (sim_ifS (sim_B (sim_isT (it_isx T.xk) sim_var (sim_cons sim_cls (sim_cons sim_cls (sim_cons sim_cls (sim_cons sim_cls (sim_cons sim_cls (sim_cons sim_cls (sim_cons sim_cls sim_nil))))))))) (sim_ret (sim_op os_sub sim_int sim_int)) sim_next)
      (sim_seq (sim_ifS (sim_B (sim_isT (it_isx T.xk) sim_var (sim_cons sim_cls (sim_cons sim_cls (sim_cons sim_cls (sim_cons sim_cls (sim_cons sim_cls (sim_cons sim_cls (sim_cons sim_cls sim_nil))))))))) (sim_ret (sim_op os_sub sim_int sim_int)) sim_next)
      (sim_seq (sim_ifS (sim_or (sim_test (sim_op os_neS (sim_bml ml_count sim_var (sim_cons sim_bl sim_nil)) sim_int)) (sim_or (sim_not (sim_B (sim_cb (cb_isx T.xk) (sim_cons sim_var (sim_cons sim_cls sim_nil))))) (sim_B (sim_isT (it_isx T.xk) sim_var (sim_cons sim_cls (sim_cons sim_cls (sim_cons sim_cls sim_nil))))))) (sim_ret (sim_op os_sub sim_int sim_int)) sim_next)
      (sim_ret (sim_bml ml_index sim_var (sim_cons sim_bl sim_nil))))))) h⟩)⟩
theorem sc__law_asked : FnScope ["_law_sieve", "_law_door", "_law_thing", "_law_caught", "_law_e"] ["_law_sieve", "_law_door", "_law_thing"] (defScope s__law_asked) := ⟨rfl, rfl, rfl, by decide +kernel, rfl, by decide +kernel, by decide +kernel⟩
theorem ok__law_asked (T : Tx w K mg) : DOk P w K mg base d__law_asked CX0 7 ["_law_sieve", "_law_door", "_law_thing"] (spM K false m__law_asked) := by
  have o_Sieve___init__ := ok_Sieve___init__ (P := P) (w := w) (base := base) T
  have o_Sieve_either := ok_Sieve_either (P := P) (w := w) (base := base) T
  have o_Sieve_both := ok_Sieve_both (P := P) (w := w) (base := base) T
  have o_Sieve_but := ok_Sieve_but (P := P) (w := w) (base := base) T
  have o_Sieve_unlike := ok_Sieve_unlike (P := P) (w := w) (base := base) T
  have o_Sieve_lets := ok_Sieve_lets (P := P) (w := w) (base := base) T
  have o__law_kind_of := ok__law_kind_of (P := P) (w := w) (base := base) T
  obtain ⟨fd, F⟩ := T.df__law_asked
  exact ⟨fd, F, F.ok sc__law_asked (fun vs H Q E h => spM_len h) (fun cdv A outer s H vs Q E hr h => ⟨_, PSs.nox (pss_cons (ps_set (i := 3) sc__law_asked.nd rfl (Or.inl rfl) pe_non)
      (pss_cons (ps_try_asT (i := 4) rfl rfl rfl sc__law_asked.nd rfl rfl ⟨rfl, by decide, .inl T.g_FitError⟩ takes0 (fun W pn xe tk po => (pss_one (ps_if (pt_cmpR op_eq (pv 1) pe_int (nomark _)) (pss_one (ps_expr (pmkS o_Sieve___init__ (fun _ => passAt tk _) T.mkr_Sieve T.g_Sieve bd_Sieve___init___2 hr (by decide) (pa_cons (pv 2) pa_nil)))) (pss_one (ps_if (pt_cmpR op_eq (pv 1) pe_int (nomark _)) (pss_one (ps_expr (pmS o_Sieve_either (fun _ => passAt tk _) T.cls_Sieve T.mt_Sieve_either b_Sieve_either hr (by decide) (pv 0) (pa_cons (pv 2) pa_nil)))) (pss_one (ps_if (pt_cmpR op_eq (pv 1) pe_int (nomark _)) (pss_one (ps_expr (pmS o_Sieve_both (fun _ => passAt tk _) T.cls_Sieve T.mt_Sieve_both b_Sieve_both hr (by decide) (pv 0) (pa_cons (pv 2) pa_nil)))) (pss_one (ps_if (pt_cmpR op_eq (pv 1) pe_int (nomark _)) (pss_one (ps_expr (pmS o_Sieve_but (fun _ => passAt tk _) T.cls_Sieve T.mt_Sieve_but b_Sieve_but hr (by decide) (pv 0) (pa_cons (pv 2) pa_nil)))) (pss_one (ps_if (pt_cmpR op_eq (pv 1) pe_int (nomark _)) (pss_one (ps_expr (pmS o_Sieve_unlike (fun _ => passAt tk _) T.cls_Sieve T.mt_Sieve_unlike b_Sieve_unlike hr (by decide) (pv 0) (pa_cons (pv 2) pa_nil)))) (pss_one (ps_expr (pmS o_Sieve_lets (fun _ => passAt tk _) T.cls_Sieve T.mt_Sieve_lets b_Sieve_lets hr (by decide) (pv 0) (pa_cons (pv 2) pa_nil)))))))))))))))
      (fun a pn => (pss_one (ps_set (i := 3) sc__law_asked.nd rfl (Or.inl rfl) (pv 4)))))
      (pss_cons (ps_if (PW.pt (pw_or (pt_cmpR op_isN (pv 3) pe_non (nomark _)) (pw_or1 (pt_not (pt_val (pe_callB (x_isa (K := K) rfl) (by rfl) T.f_isinstance (by decide +kernel) (pa_cons (pv 3) (pa_cons (pe_bltn (v := .ty "ValueError") (u := .type "ValueError") (by rfl) T.f_ValueError (by decide +kernel) rfl) pa_nil)))))))) (pss_one (ps_ret pe_str)) pss_nil)
      (pss_one (ps_ret (pc o__law_kind_of T.g__law_kind_of b__law_kind_of hr (by decide) (pa_cons (pv 3) pa_nil))))))), spM_run (n := 3) (N := ["_law_sieve", "_law_door", "_law_thing", "_law_caught", "_law_e"]) (sim_seq (sim_asg sim_non sim_nm)
      (sim_seq (sim_tryAs (fun _ z => by cases z) (T.xk.cm (q := .own "FitError") (by decide)) (fun W => (sim_ifS (sim_test (sim_op os_eqS sim_var sim_int)) (sim_exp (sim_frz (sim_makeOS (sim_cons sim_var sim_nil) (fun _ _ => RepL.nilR)))) (sim_ifS (sim_test (sim_op os_eqS sim_var sim_int)) (sim_exp (sim_methS sim_var (sim_cons sim_var sim_nil) (fun _ _ => RepL.nilR))) (sim_ifS (sim_test (sim_op os_eqS sim_var sim_int)) (sim_exp (sim_methS sim_var (sim_cons sim_var sim_nil) (fun _ _ => RepL.nilR))) (sim_ifS (sim_test (sim_op os_eqS sim_var sim_int)) (sim_exp (sim_methS sim_var (sim_cons sim_var sim_nil) (fun _ _ => RepL.nilR))) (sim_ifS (sim_test (sim_op os_eqS sim_var sim_int)) (sim_exp (sim_methS sim_var (sim_cons sim_var sim_nil) (fun _ _ => RepL.nilR))) (sim_exp (sim_methS sim_var (sim_cons sim_var sim_nil) (fun _ _ => RepL.nilR)))))))))
      (sim_asg sim_var sim_nm))
      (sim_seq (sim_ifS (sim_or (sim_test (sim_op os_isN sim_var sim_non)) (sim_not (sim_B (sim_cb (cb_isx T.xk) (sim_cons sim_var (sim_cons sim_ty sim_nil)))))) (sim_ret sim_str) sim_next)
      (sim_ret (sim_call (sim_cons sim_var sim_nil) (fun _ _ => RepL.nilR)))))) h⟩)⟩
theorem sc__law_refused : FnScope ["_law_purse_here", "_law_row_here", "_law_spans", "_law_sieve", "_law_odd_here", "_law_spoilt", "_law_none", "_law_at", "_law_pick", "_law_size", "_law_above", "_law_below", "_law_door"] ["_law_purse_here", "_law_row_here"] (defScope s__law_refused) := ⟨rfl, rfl, rfl, by decide +kernel, rfl, by decide +kernel, by decide +kernel⟩
theorem ok__law_refused (T : Tx w K mg) : DOk P w K mg base d__law_refused CX0 8 ["_law_purse_here", "_law_row_here"] (spM K false m__law_refused) := by
  have o_Span___init__ := ok_Span___init__ (P := P) (w := w) (base := base) T
  have o_Sieve___init__ := ok_Sieve___init__ (P := P) (w := w) (base := base) T
  have o__law_take := ok__law_take (P := P) (w := w) (base := base) T
  have o__law_odd := ok__law_odd (P := P) (w := w) (base := base) T
  have o__law_asked := ok__law_asked (P := P) (w := w) (base := base) T
  have o_Sieve___eq__ := ok_Sieve___eq__ (P := P) (w := w) (base := base) T
  obtain ⟨fd, F⟩ := T.df__law_refused
  exact ⟨fd, F, F.ok sc__law_refused (fun vs H Q E h => spM_len h) (fun cdv A outer s H vs Q E hr h => ⟨_, PSs.nox (pss_cons (ps_setLc (i := 2) (own := [("_law_size", 9), ("_law_above", 10), ("_law_below", 11)]) (g := gTup K 3 (gCons (gName 9) (gCons (gName 10) (gCons (gName 11) gNil)))) (tt := tYes) rfl sc__law_refused.nd rfl rfl (sw_true rfl rfl rfl (by decide +kernel)) (pi_list (pv 1)) (blkOk_by (N := ["_law_purse_here", "_law_row_here", "_law_spans", "_law_sieve", "_law_odd_here", "_law_spoilt", "_law_none", "_law_at", "_law_pick", "_law_size", "_law_above", "_law_below", "_law_door"]) (sc := defScope s__law_refused) (own := [("_law_size", 9), ("_law_above", 10), ("_law_below", 11)]) (by decide +kernel)) (fun _ _ _ _ _ => (pg_tup rfl (pgs_cons (pg_name (i := 9) sc__law_refused.nd rfl (Or.inl rfl)) (pgs_cons (pg_name (i := 10) sc__law_refused.nd rfl (Or.inl rfl)) (pgs_cons (pg_name (i := 11) sc__law_refused.nd rfl (Or.inl rfl)) pgs_nil))))) (fun _ _ _ _ _ => pts_nil) (fun _ _ _ _ _ => (pmkS o_Span___init__ passE0 T.mkr_Span T.g_Span bd_Span___init___4 hr (by decide) (pa_cons (pv 9) (pa_cons (pv 10) (pa_cons (pv 11) pa_nil))))))
      (pss_cons (ps_set (i := 3) sc__law_refused.nd rfl (Or.inr rfl) (pmkS o_Sieve___init__ passE0 T.mkr_Sieve T.g_Sieve bd_Sieve___init___2 hr (by decide) (pa_cons (pv 2) pa_nil)))
      (pss_cons (ps_par (i := 7) (j := 8) (by rfl) sc__law_refused.nd rfl rfl (by decide) rfl rfl (pa_cons (pc o__law_take T.g__law_take b__law_take hr (by decide) (pa_cons (pv 0) (pa_cons (pe_callB (call_len_seq) (by rfl) T.f_len (by decide +kernel) (pa_cons (pv 1) pa_nil)) pa_nil))) (pa_cons (pc o__law_take T.g__law_take b__law_take hr (by decide) (pa_cons (pv 0) (pa_cons pe_int pa_nil))) pa_nil)) (by rfl))
      (pss_cons (ps_set (i := 4) sc__law_refused.nd rfl (Or.inl rfl) (pc o__law_odd T.g__law_odd b__law_odd hr (by decide) (pa_cons (pv 0) pa_nil)))
      (pss_cons (ps_set (i := 5) sc__law_refused.nd rfl (Or.inl rfl) (pe_op op_cat (pe_op op_cat (pe_slice sl_list (pv 2) po_none (po_some (pv 7))) (pe_lst (pa_cons (pv 4) pa_nil))) (pe_slice sl_list (pv 2) (po_some (pe_op op_add (pv 7) (pe_ix ix_list (pe_lst (pa_cons pe_int (pa_cons pe_int pa_nil))) (pc o__law_take T.g__law_take b__law_take hr (by decide) (pa_cons (pv 0) (pa_cons pe_int pa_nil))) (fun _ _ => rfl)))) po_none)))
      (pss_cons (ps_if (pt_cmpR op_ne (pc o__law_asked T.g__law_asked b__law_asked hr (by decide) (pa_cons (pv 3) (pa_cons pe_int (pa_cons (pe_ix ix_list (pe_lst (pa_cons (pv 5) (pa_cons (pe_callTy (x_tup (K := K) rfl) (by rfl) T.f_tuple (by decide +kernel) (pa_cons (pv 5) pa_nil)) pa_nil))) (pc o__law_take T.g__law_take b__law_take hr (by decide) (pa_cons (pv 0) (pa_cons pe_int pa_nil))) (fun _ _ => rfl)) pa_nil)))) pe_int (nomark _)) (pss_one (ps_ret pe_bl)) pss_nil)
      (pss_cons (ps_if (pt_cmpR op_ne (pc o__law_asked T.g__law_asked b__law_asked hr (by decide) (pa_cons (pv 3) (pa_cons pe_int (pa_cons (pe_ix ix_list (pe_lst (pa_cons pe_int (pa_cons pe_str (pa_cons pe_bl (pa_cons pe_dnewK (pa_cons (pe_ix ix_list (pv 2) pe_int (fun _ _ => rfl)) (pa_cons (pv 3) pa_nil))))))) (pv 8) (fun _ _ => rfl)) pa_nil)))) pe_int (nomark _)) (pss_one (ps_ret pe_bl)) pss_nil)
      (pss_cons (ps_set (i := 6) sc__law_refused.nd rfl (Or.inr rfl) (pe_ix ix_list (pe_lst (pa_cons pe_int (pa_cons pe_str (pa_cons pe_bl (pa_cons pe_dnewK (pa_cons (pe_lst pa_nil) (pa_cons (pe_tup pa_nil) (pa_cons pe_non (pa_cons (pe_ix ix_list (pv 2) pe_int (fun _ _ => rfl)) (pa_cons (pv 2) (pa_cons (pe_tup (pa_cons (pe_lst pa_nil) pa_nil)) pa_nil))))))))))) (pc o__law_take T.g__law_take b__law_take hr (by decide) (pa_cons (pv 0) (pa_cons pe_int pa_nil))) (fun _ _ => rfl)))
      (pss_cons (ps_if (pt_cmpR (op_neD hr.units) (pe_lc (own := [("_law_door", 12)]) (g := gName 12) (tt := tYes) rfl sc__law_refused.nd (pi_tup (pe_tup (pa_cons pe_int (pa_cons pe_int (pa_cons pe_int (pa_cons pe_int pa_nil)))))) (blkOk_by (N := ["_law_purse_here", "_law_row_here", "_law_spans", "_law_sieve", "_law_odd_here", "_law_spoilt", "_law_none", "_law_at", "_law_pick", "_law_size", "_law_above", "_law_below", "_law_door"]) (sc := defScope s__law_refused) (own := [("_law_door", 12)]) (by decide +kernel)) (fun _ _ _ _ _ => (pg_name (i := 12) sc__law_refused.nd rfl (Or.inl rfl))) (fun _ _ _ _ _ => pts_nil) (fun _ _ _ _ _ => (pc o__law_asked T.g__law_asked b__law_asked hr (by decide) (pa_cons (pv 3) (pa_cons (pv 12) (pa_cons (pv 6) pa_nil)))))) (pe_lst (pa_cons pe_int (pa_cons pe_int (pa_cons pe_int (pa_cons pe_int pa_nil))))) (nomark _)) (pss_one (ps_ret pe_bl)) pss_nil)
      (pss_cons (ps_set (i := 6) sc__law_refused.nd rfl (Or.inr rfl) (pe_ix ix_list (pe_lst (pa_cons pe_str (pa_cons pe_bl (pa_cons pe_bl (pa_cons pe_non (pa_cons (pe_lst pa_nil) (pa_cons (pe_lst (pa_cons pe_int pa_nil)) (pa_cons (pe_tup (pa_cons pe_int pa_nil)) (pa_cons pe_dnewK (pa_cons (pe_tup (pa_cons (pe_lst pa_nil) pa_nil)) (pa_cons (pe_ix ix_list (pv 2) pe_int (fun _ _ => rfl)) pa_nil))))))))))) (pc o__law_take T.g__law_take b__law_take hr (by decide) (pa_cons (pv 0) (pa_cons pe_int pa_nil))) (fun _ _ => rfl)))
      (pss_one (ps_ret (pe_and (pe_cmpR op_eq (pc o__law_asked T.g__law_asked b__law_asked hr (by decide) (pa_cons (pv 3) (pa_cons pe_int (pa_cons (pv 6) pa_nil)))) pe_int (nomark _)) (pe_one (pe_cmpR (op_oeq o_Sieve___eq__ T.mt_Sieve___eq__ b_Sieve___eq__ hr (by decide)) (pv 3) (pmkS o_Sieve___init__ passE0 T.mkr_Sieve T.g_Sieve bd_Sieve___init___2 hr (by decide) (pa_cons (pv 2) pa_nil)) (nomark _)))))))))))))))), spM_run (n := 2) (N := ["_law_purse_here", "_law_row_here", "_law_spans", "_law_sieve", "_law_odd_here", "_law_spoilt", "_law_none", "_law_at", "_law_pick", "_law_size", "_law_above", "_law_below", "_law_door"]) (sim_seq (sim_asg (sim_lc (gw_tup (gw_cons (gw_nm (by decide)) (gw_cons (gw_nm (by decide)) (gw_cons (gw_nm (by decide)) gw_nil mg_nm mgs_nil) mg_nm (mgs_cons mg_nm mgs_nil)) mg_nm (mgs_cons mg_nm (mgs_cons mg_nm mgs_nil)))) (mg_tup (mgs_cons mg_nm (mgs_cons mg_nm (mgs_cons mg_nm mgs_nil)))) (sim_iL sim_var) (g0_tup (E := none) (g0_cons g0_nm (g0_cons g0_nm (g0_cons g0_nm g0_nil)))) sim_yesP (sim_makeX (sim_cons sim_var (sim_cons sim_var (sim_cons sim_var sim_nil))) (fun _ _ => RepL.nilR))) sim_nm)
      (sim_seq (sim_asg (sim_frz (sim_makeOX (sim_cons sim_var sim_nil) (fun _ _ => RepL.nilR))) sim_nm)
      (sim_seq (sim_par (sim_cons (sim_call (sim_cons sim_var (sim_cons (sim_cb cb_len (sim_cons sim_var sim_nil)) sim_nil)) (fun _ _ => RepL.nilR)) (sim_cons (sim_call (sim_cons sim_var (sim_cons sim_int sim_nil)) (fun _ _ => RepL.nilR)) sim_nil)))
      (sim_seq (sim_asg (sim_call (sim_cons sim_var sim_nil) (fun _ _ => RepL.nilR)) sim_nm)
      (sim_seq (sim_asg (sim_op os_catL (sim_op os_catL (sim_sl ss_L sim_var sim_noP (sim_part sim_var)) (sim_lst (sim_cons sim_var sim_nil))) (sim_sl ss_L sim_var (sim_part (sim_op os_add sim_var (sim_op os_ixL (sim_lst (sim_cons sim_int (sim_cons sim_int sim_nil))) (sim_call (sim_cons sim_var (sim_cons sim_int sim_nil)) (fun _ _ => RepL.nilR))))) sim_noP)) sim_nm)
      (sim_seq (sim_ifS (sim_test (sim_op os_neS (sim_call (sim_cons sim_var (sim_cons sim_int (sim_cons (sim_op os_ixL (sim_lst (sim_cons sim_var (sim_cons (sim_cb cb_tup (sim_cons sim_var sim_nil)) sim_nil))) (sim_call (sim_cons sim_var (sim_cons sim_int sim_nil)) (fun _ _ => RepL.nilR))) sim_nil))) (fun _ _ => RepL.nilR)) sim_int)) (sim_ret sim_bl) sim_next)
      (sim_seq (sim_ifS (sim_test (sim_op os_neS (sim_call (sim_cons sim_var (sim_cons sim_int (sim_cons (sim_op os_ixL (sim_lst (sim_cons sim_int (sim_cons sim_str (sim_cons sim_bl (sim_cons sim_dic0 (sim_cons (sim_op os_ixL sim_var sim_int) (sim_cons sim_var sim_nil))))))) sim_var) sim_nil))) (fun _ _ => RepL.nilR)) sim_int)) (sim_ret sim_bl) sim_next)
      (sim_seq (sim_asg (sim_op os_ixL (sim_lst (sim_cons sim_int (sim_cons sim_str (sim_cons sim_bl (sim_cons sim_dic0 (sim_cons (sim_lst sim_nil) (sim_cons (sim_tup sim_nil) (sim_cons sim_non (sim_cons (sim_op os_ixL sim_var sim_int) (sim_cons sim_var (sim_cons (sim_tup (sim_cons (sim_lst sim_nil) sim_nil)) sim_nil))))))))))) (sim_call (sim_cons sim_var (sim_cons sim_int sim_nil)) (fun _ _ => RepL.nilR))) sim_nm)
      (sim_seq (sim_ifS (sim_test (sim_op os_neD (sim_lc (gw_nm (by decide)) mg_nm (sim_iT (sim_tup (sim_cons sim_int (sim_cons sim_int (sim_cons sim_int (sim_cons sim_int sim_nil)))))) g0_nm sim_yesP (sim_call (sim_cons sim_var (sim_cons sim_var (sim_cons sim_var sim_nil))) (fun _ _ => RepL.nilR))) (sim_lst (sim_cons sim_int (sim_cons sim_int (sim_cons sim_int (sim_cons sim_int sim_nil))))))) (sim_ret sim_bl) sim_next)
      (sim_seq (sim_asg (sim_op os_ixL (sim_lst (sim_cons sim_str (sim_cons sim_bl (sim_cons sim_bl (sim_cons sim_non (sim_cons (sim_lst sim_nil) (sim_cons (sim_lst (sim_cons sim_int sim_nil)) (sim_cons (sim_tup (sim_cons sim_int sim_nil)) (sim_cons sim_dic0 (sim_cons (sim_tup (sim_cons (sim_lst sim_nil) sim_nil)) (sim_cons (sim_op os_ixL sim_var sim_int) sim_nil))))))))))) (sim_call (sim_cons sim_var (sim_cons sim_int sim_nil)) (fun _ _ => RepL.nilR))) sim_nm)
      (sim_ret (sim_andV (sim_op os_eqS (sim_call (sim_cons sim_var (sim_cons sim_int (sim_cons sim_var sim_nil))) (fun _ _ => RepL.nilR)) sim_int) (sim_op os_oeq sim_var (sim_frz (sim_makeOX (sim_cons sim_var sim_nil) (fun _ _ => RepL.nilR)))))))))))))))) h⟩)⟩
theorem sc_Span___repr__ : FnScope ["self"] ["self"] (defScope s_Span___repr__) := ⟨rfl, rfl, rfl, by decide +kernel, rfl, by decide +kernel, by decide +kernel⟩
theorem ok_Span___repr__ (T : Tx w K mg) : DOk P w K mg base d_Span___repr__ CX0 1 ["self"] (spM K false m_Span___repr__) := by
  obtain ⟨fd, F⟩ := T.df_Span___repr__
  exact ⟨fd, F, F.ok sc_Span___repr__ (fun vs H Q E h => spM_len h) (fun cdv A outer s H vs Q E hr h => ⟨_, PSs.nox (pss_one (ps_ret (pe_joined (PJ.cons pe_str (PJ.cons (pe_fmt (pe_fld (pv 0) rfl)) (PJ.cons pe_str (PJ.cons (pe_fmt (pe_fld (pv 0) rfl)) (PJ.cons pe_str (PJ.cons (pe_fmt (pe_fld (pv 0) rfl)) (PJ.cons pe_str PJ.nil)))))))))), spM_run (n := 1) (N := ["self"]) (sim_ret (sim_js (SimJs.cons sim_str (SimJs.cons (sim_fmt (sim_fld T.cls_Span T.no_Span_size sim_var)) (SimJs.cons sim_str (SimJs.cons (sim_fmt (sim_fld T.cls_Span T.no_Span_above sim_var)) (SimJs.cons sim_str (SimJs.cons (sim_fmt (sim_fld T.cls_Span T.no_Span_below sim_var)) (SimJs.cons sim_str SimJs.nil))))))))) h⟩)⟩
theorem sc_Sieve_stretches : FnScope ["self", "low", "high"] ["self"] (defScope s_Sieve_stretches) := ⟨rfl, rfl, rfl, by decide +kernel, rfl, by decide +kernel, by decide +kernel⟩
theorem ok_Sieve_stretches (T : Tx w K mg) : DOk P w K mg base d_Sieve_stretches CX0 5 ["self"] (spM K false m_Sieve_stretches) := by
  have o_Span___init__ := ok_Span___init__ (P := P) (w := w) (base := base) T
  obtain ⟨fd, F⟩ := T.df_Sieve_stretches
  exact ⟨fd, F, F.ok sc_Sieve_stretches (fun vs H Q E h => spM_len h) (fun cdv A outer s H vs Q E hr h => ⟨_, PSs.nox (pss_one (ps_ret (pe_callTy (x_tup (K := K) rfl) (by rfl) T.f_tuple (by decide +kernel) (pa_cons (pe_lc (own := [("low", 1), ("high", 2)]) (g := gTup K 2 (gCons (gName 1) (gCons (gName 2) gNil))) (tt := tYes) rfl sc_Sieve_stretches.nd (pi_tup (pe_fld (pv 0) rfl)) (blkOk_by (N := ["self", "low", "high"]) (sc := defScope s_Sieve_stretches) (own := [("low", 1), ("high", 2)]) (by decide +kernel)) (fun _ _ _ _ _ => (pg_tup rfl (pgs_cons (pg_name (i := 1) sc_Sieve_stretches.nd rfl (Or.inl rfl)) (pgs_cons (pg_name (i := 2) sc_Sieve_stretches.nd rfl (Or.inl rfl)) pgs_nil)))) (fun _ _ _ _ _ => pts_nil) (fun _ _ _ _ _ => (pmkKS o_Span___init__ passE0 T.mkr_Span T.g_Span bk_Span___init___2_above hr (by decide) (pa_cons (pv 1) pa_nil) (pk_cons (pe_op op_sub (pv 2) (pv 1)) pk_nil)))) pa_nil)))), spM_run (n := 1) (N := ["self", "low", "high"]) (sim_ret (sim_cb cb_tup (sim_cons (sim_lc (gw_tup (gw_cons (gw_nm (by decide)) (gw_cons (gw_nm (by decide)) gw_nil mg_nm mgs_nil) mg_nm (mgs_cons mg_nm mgs_nil))) (mg_tup (mgs_cons mg_nm (mgs_cons mg_nm mgs_nil))) (sim_iT (sim_fld T.cls_Sieve T.no_Sieve_runs sim_var)) (g0_tup (E := none) (g0_cons g0_nm (g0_cons g0_nm g0_nil))) sim_yesP (sim_makeKX (sim_cons sim_var sim_nil) (sim_cons (sim_op os_sub sim_var sim_var) sim_nil) (fun x ι G ps vs zs ws r1 r2 => ⟨_, rfl, ((r1.app ((r2.drop 0).take 1)).app (RepL.one rp_int))⟩))) sim_nil))) h⟩)⟩
theorem sc_Sieve___len__ : FnScope ["self"] ["self"] (defScope s_Sieve___len__) := ⟨rfl, rfl, rfl, by decide +kernel, rfl, by decide +kernel, by decide +kernel⟩
theorem ok_Sieve___len__ (T : Tx w K mg) : DOk P w K mg base d_Sieve___len__ CX0 1 ["self"] (spM K false m_Sieve___len__) := by
  obtain ⟨fd, F⟩ := T.df_Sieve___len__
  exact ⟨fd, F, F.ok sc_Sieve___len__ (fun vs H Q E h => spM_len h) (fun cdv A outer s H vs Q E hr h => ⟨_, PSs.nox (pss_one (ps_ret (pe_callB (call_len_seq) (by rfl) T.f_len (by decide +kernel) (pa_cons (pe_fld (pv 0) rfl) pa_nil)))), spM_run (n := 1) (N := ["self"]) (sim_ret (sim_cb cb_len (sim_cons (sim_fld T.cls_Sieve T.no_Sieve_runs sim_var) sim_nil))) h⟩)⟩
theorem sc__law_stays : FnScope ["_law_purse_here", "_law_row_here", "_law_spans", "_law_order", "_law_handed", "_law_sieve", "_law_others", "_law_first", "_law_text", "_law_found", "_law_before", "_law_size", "_law_above", "_law_below", "_law_thing"] ["_law_purse_here", "_law_row_here"] (defScope s__law_stays) := ⟨rfl, rfl, rfl, by decide +kernel, rfl, by decide +kernel, by decide +kernel⟩
theorem ok__law_stays (T : Tx w K mg) : DOkG P w K mg base d__law_stays CX0 12 ["_law_purse_here", "_law_row_here"] (spM K false m__law_stays) := by
  have o_Span___init__ := ok_Span___init__ (P := P) (w := w) (base := base) T
  have o_Span___repr__ := ok_Span___repr__ (P := P) (w := w) (base := base) T
  have o_Sieve___init__ := ok_Sieve___init__ (P := P) (w := w) (base := base) T
  have o_Sieve___eq__ := ok_Sieve___eq__ (P := P) (w := w) (base := base) T
  have o_Sieve_stretches := ok_Sieve_stretches (P := P) (w := w) (base := base) T
  have o_Sieve_either := ok_Sieve_either (P := P) (w := w) (base := base) T
  have o_Sieve_but := ok_Sieve_but (P := P) (w := w) (base := base) T
  have o_Sieve_both := ok_Sieve_both (P := P) (w := w) (base := base) T
  have o_Sieve_unlike := ok_Sieve_unlike (P := P) (w := w) (base := base) T
  have o_Sieve_lets := ok_Sieve_lets (P := P) (w := w) (base := base) T
  have o__law_asked := ok__law_asked (P := P) (w := w) (base := base) T
  have o_Sieve___len__ := ok_Sieve___len__ (P := P) (w := w) (base := base) T
  obtain ⟨fd, F⟩ := T.df__law_stays
  exact ⟨fd, F, okG F sc__law_stays (fun vs H Q E h => spM_len h) (fun cdv A outer s H vs Q E hr hg h => ⟨_, PSs.nox (pss_cons (ps_setLc (i := 2) (own := [("_law_size", 11), ("_law_above", 12), ("_law_below", 13)]) (g := gTup K 3 (gCons (gName 11) (gCons (gName 12) (gCons (gName 13) gNil)))) (tt := tYes) rfl sc__law_stays.nd rfl rfl (sw_true rfl rfl rfl (by decide +kernel)) (pi_list (pv 1)) (blkOk_by (N := ["_law_purse_here", "_law_row_here", "_law_spans", "_law_order", "_law_handed", "_law_sieve", "_law_others", "_law_first", "_law_text", "_law_found", "_law_before", "_law_size", "_law_above", "_law_below", "_law_thing"]) (sc := defScope s__law_stays) (own := [("_law_size", 11), ("_law_above", 12), ("_law_below", 13)]) (by decide +kernel)) (fun _ _ _ _ _ => (pg_tup rfl (pgs_cons (pg_name (i := 11) sc__law_stays.nd rfl (Or.inl rfl)) (pgs_cons (pg_name (i := 12) sc__law_stays.nd rfl (Or.inl rfl)) (pgs_cons (pg_name (i := 13) sc__law_stays.nd rfl (Or.inl rfl)) pgs_nil))))) (fun _ _ _ _ _ => pts_nil) (fun _ _ _ _ _ => (pmkS o_Span___init__ passE0 T.mkr_Span T.g_Span bd_Span___init___4 hr (by decide) (pa_cons (pv 11) (pa_cons (pv 12) (pa_cons (pv 13) pa_nil))))))
      (pss_cons (ps_for PassesOwn.never rfl (pi_list (pe_lst (pa_cons (pv 2) (pa_cons (pe_revLs (pv 2)) (pa_cons (pe_lst (pa_cons (pmkS o_Span___init__ passE0 T.mkr_Span T.g_Span bd_Span___init___2 hr (by decide) (pa_cons pe_int pa_nil)) (pa_cons (pmkS o_Span___init__ passE0 T.mkr_Span T.g_Span bd_Span___init___2 hr (by decide) (pa_cons pe_int pa_nil)) (pa_cons (pmkS o_Span___init__ passE0 T.mkr_Span T.g_Span bd_Span___init___2 hr (by decide) (pa_cons pe_int pa_nil)) pa_nil)))) pa_nil))))) (pg_name (i := 3) sc__law_stays.nd rfl (Or.inl rfl))
      (pss_cons (ps_par (i := 9) (j := 10) (by rfl) sc__law_stays.nd rfl rfl (by decide) rfl rfl (pa_cons (pe_callTy (call_list_of) (by rfl) T.f_list (by decide +kernel) (pa_cons (pv 3) pa_nil)) (pa_cons (pe_callB (call_reprO (k := _) (.cons o_Span___repr__ T.mt_Span___repr__ b_Span___repr__ .nil) hg hr (by decide)) (by rfl) T.f_repr (by decide +kernel) (pa_cons (pv 3) pa_nil)) pa_nil)) (by rfl))
      (pss_one (ps_if (PW.pt (pw_or (pt_cmpR (op_one o_Sieve___eq__ T.mt_Sieve___eq__ T.mo_Sieve T.ne_Sieve b_Sieve___eq__ hr (by decide)) (pmkS o_Sieve___init__ passE0 T.mkr_Sieve T.g_Sieve bd_Sieve___init___2 hr (by decide) (pa_cons (pv 9) pa_nil)) (pmkS o_Sieve___init__ passE0 T.mkr_Sieve T.g_Sieve bd_Sieve___init___2 hr (by decide) (pa_cons (pe_callTy (x_tup (K := K) rfl) (by rfl) T.f_tuple (by decide +kernel) (pa_cons (pv 3) pa_nil)) pa_nil)) (nomark _)) (pw_or1 (pt_cmpR op_ne (pe_callB (call_reprO (k := _) (.cons o_Span___repr__ T.mt_Span___repr__ b_Span___repr__ .nil) hg hr (by decide)) (by rfl) T.f_repr (by decide +kernel) (pa_cons (pv 9) pa_nil)) (pv 10) (nomark _))))) (pss_one (ps_ret pe_bl)) pss_nil))))
      (pss_cons (ps_set (i := 4) sc__law_stays.nd rfl (Or.inl rfl) (pe_callTy (call_list_of) (by rfl) T.f_list (by decide +kernel) (pa_cons (pv 2) pa_nil)))
      (pss_cons (ps_set (i := 5) sc__law_stays.nd rfl (Or.inr rfl) (pmkS o_Sieve___init__ passE0 T.mkr_Sieve T.g_Sieve bd_Sieve___init___2 hr (by decide) (pa_cons (pv 4) pa_nil)))
      (pss_cons (ps_par (i := 7) (j := 8) (by rfl) sc__law_stays.nd rfl rfl (by decide) rfl rfl (pa_cons (pm0 o_Sieve_stretches T.cls_Sieve T.mt_Sieve_stretches b_Sieve_stretches hr (by decide) (pv 5)) (pa_cons (pe_callB (call_reprO (k := _) (.cons o_Span___repr__ T.mt_Span___repr__ b_Span___repr__ .nil) hg hr (by decide)) (by rfl) T.f_repr (by decide +kernel) (pa_cons (pm0 o_Sieve_stretches T.cls_Sieve T.mt_Sieve_stretches b_Sieve_stretches hr (by decide) (pv 5)) pa_nil)) pa_nil)) (by rfl))
      (pss_cons (ps_expr (pe_bm PySem.F.plainAttrs_list PySem.F.slot_list_append PySem.F.type_list_append mt_append (pv 4) (pa_cons (pmkS o_Span___init__ passE0 T.mkr_Span T.g_Span bd_Span___init___3 hr (by decide) (pa_cons pe_int (pa_cons pe_int pa_nil))) pa_nil)))
      (pss_cons (ps_expr (pe_bm PySem.F.plainAttrs_list PySem.F.slot_list_pop PySem.F.type_list_pop mt_popAt (pv 4) (pa_cons pe_int pa_nil)))
      (pss_cons (ps_set (i := 6) sc__law_stays.nd rfl (Or.inl rfl) (pmK0S o_Sieve_either passE0 T.cls_Sieve T.mt_Sieve_either bk_Sieve_either_1_other hr (by decide) (pv 5) (pk_cons (pmkS o_Sieve___init__ passE0 T.mkr_Sieve T.g_Sieve bd_Sieve___init___2 hr (by decide) (pa_cons (pv 4) pa_nil)) pk_nil)))
      (pss_cons (ps_if (PW.pt (pw_or (pt_cmpR (op_one o_Sieve___eq__ T.mt_Sieve___eq__ T.mo_Sieve T.ne_Sieve b_Sieve___eq__ hr (by decide)) (pmK0S o_Sieve_but passE0 T.cls_Sieve T.mt_Sieve_but bk_Sieve_but_1_other hr (by decide) (pv 5) (pk_cons (pv 6) pk_nil)) (pmk0S o_Sieve___init__ passE0 T.mkr_Sieve T.g_Sieve bd_Sieve___init___1 hr (by decide)) (nomark _)) (pw_or (pt_cmpR (op_one o_Sieve___eq__ T.mt_Sieve___eq__ T.mo_Sieve T.ne_Sieve b_Sieve___eq__ hr (by decide)) (pmK0S o_Sieve_both passE0 T.cls_Sieve T.mt_Sieve_both bk_Sieve_both_1_other hr (by decide) (pv 5) (pk_cons (pv 6) pk_nil)) (pv 5) (nomark _)) (pw_or1 (pt_cmpR op_notN (pmK0S o_Sieve_unlike passE0 T.cls_Sieve T.mt_Sieve_unlike bk_Sieve_unlike_1_other hr (by decide) (pv 5) (pk_cons (pv 5) pk_nil)) pe_non (nomark _)))))) (pss_one (ps_ret pe_bl)) pss_nil)
      (pss_cons (ps_if (pt_cmpR (op_neD hr.units) (pe_lst (pa_cons (pmK0S o_Sieve_lets passE0 T.cls_Sieve T.mt_Sieve_lets bk_Sieve_lets_1_measure hr (by decide) (pv 5) (pk_cons pe_int pk_nil)) (pa_cons (pmS o_Sieve_lets passE0 T.cls_Sieve T.mt_Sieve_lets b_Sieve_lets hr (by decide) (pv 5) (pa_cons pe_int pa_nil)) pa_nil))) (pe_lst (pa_cons (pmS o_Sieve_lets passE0 T.cls_Sieve T.mt_Sieve_lets b_Sieve_lets hr (by decide) (pv 5) (pa_cons pe_int pa_nil)) (pa_cons (pmK0S o_Sieve_lets passE0 T.cls_Sieve T.mt_Sieve_lets bk_Sieve_lets_1_measure hr (by decide) (pv 5) (pk_cons pe_int pk_nil)) pa_nil))) (nomark _)) (pss_one (ps_ret pe_bl)) pss_nil)
      (pss_cons (ps_if (pt_cmpR (op_neD hr.units) (pe_lc (own := [("_law_thing", 14)]) (g := gName 14) (tt := tYes) rfl sc__law_stays.nd (pi_tup (pe_tup (pa_cons pe_bl (pa_cons pe_bl pa_nil)))) (blkOk_by (N := ["_law_purse_here", "_law_row_here", "_law_spans", "_law_order", "_law_handed", "_law_sieve", "_law_others", "_law_first", "_law_text", "_law_found", "_law_before", "_law_size", "_law_above", "_law_below", "_law_thing"]) (sc := defScope s__law_stays) (own := [("_law_thing", 14)]) (by decide +kernel)) (fun _ _ _ _ _ => (pg_name (i := 14) sc__law_stays.nd rfl (Or.inl rfl))) (fun _ _ _ _ _ => pts_nil) (fun _ _ _ _ _ => (pc o__law_asked T.g__law_asked b__law_asked hr (by decide) (pa_cons (pv 5) (pa_cons pe_int (pa_cons (pv 14) pa_nil)))))) (pe_lst (pa_cons pe_int (pa_cons pe_int pa_nil))) (nomark _)) (pss_one (ps_ret pe_bl)) pss_nil)
      (pss_cons (ps_if (PW.pt (pw_or (pt_cmpR op_ne (pe_callB (call_reprO (k := _) (.cons o_Span___repr__ T.mt_Span___repr__ b_Span___repr__ .nil) hg hr (by decide)) (by rfl) T.f_repr (by decide +kernel) (pa_cons (pv 7) pa_nil)) (pv 8) (nomark _)) (pw_or (pt_cmpR op_ne (pe_callB (call_reprO (k := _) (.cons o_Span___repr__ T.mt_Span___repr__ b_Span___repr__ .nil) hg hr (by decide)) (by rfl) T.f_repr (by decide +kernel) (pa_cons (pm0 o_Sieve_stretches T.cls_Sieve T.mt_Sieve_stretches b_Sieve_stretches hr (by decide) (pv 5)) pa_nil)) (pv 8) (nomark _)) (pw_or (pt_cmpR (op_one o_Sieve___eq__ T.mt_Sieve___eq__ T.mo_Sieve T.ne_Sieve b_Sieve___eq__ hr (by decide)) (pv 5) (pmkS o_Sieve___init__ passE0 T.mkr_Sieve T.g_Sieve bd_Sieve___init___2 hr (by decide) (pa_cons (pv 2) pa_nil)) (nomark _)) (pw_or1 (pt_cmpR (op_oeqA o_Sieve___eq__ T.mt_Sieve___eq__ b_Sieve___eq__ hr (by decide)) (pv 5) pe_int (nomark _))))))) (pss_one (ps_ret pe_bl)) pss_nil)
      (pss_cons (ps_if (pt_val (pe_callB (x_any (K := K) rfl rfl) (by rfl) T.f_any (by decide +kernel) (pa_cons (pe_lc (own := [("_law_thing", 14)]) (g := gName 14) (tt := tYes) rfl sc__law_stays.nd (pi_tup (pe_tup (pa_cons (pv 7) (pa_cons (pv 2) (pa_cons (pv 8) (pa_cons pe_non (pa_cons (pe_callB (call_olen o_Sieve___len__ T.mt_Sieve___len__ b_Sieve___len__ hr (by decide)) (by rfl) T.f_len (by decide +kernel) (pa_cons (pv 5) pa_nil)) (pa_cons (pe_ix ix_list (pv 2) pe_int (fun _ _ => rfl)) pa_nil)))))))) (blkOk_by (N := ["_law_purse_here", "_law_row_here", "_law_spans", "_law_order", "_law_handed", "_law_sieve", "_law_others", "_law_first", "_law_text", "_law_found", "_law_before", "_law_size", "_law_above", "_law_below", "_law_thing"]) (sc := defScope s__law_stays) (own := [("_law_thing", 14)]) (by decide +kernel)) (fun _ _ _ _ _ => (pg_name (i := 14) sc__law_stays.nd rfl (Or.inl rfl))) (fun _ _ _ _ _ => pts_nil) (fun _ _ _ _ _ => (pe_cmpR (op_oeqA o_Sieve___eq__ T.mt_Sieve___eq__ b_Sieve___eq__ hr (by decide)) (pv 5) (pv 14) (nomark _)))) pa_nil))) (pss_one (ps_ret pe_bl)) pss_nil)
      (pss_one (ps_ret (pe_and (pe_cmpR (op_oneA o_Sieve___eq__ T.mt_Sieve___eq__ T.mo_Sieve T.ne_Sieve b_Sieve___eq__ hr (by decide)) (pv 5) (pv 7) (nomark _)) (pe_and (pmS o_Sieve_lets passE0 T.cls_Sieve T.mt_Sieve_lets b_Sieve_lets hr (by decide) (pv 6) (pa_cons pe_int pa_nil)) (pe_one (pe_cmpR (op_oeq o_Sieve___eq__ T.mt_Sieve___eq__ b_Sieve___eq__ hr (by decide)) (pv 6) (pmkS o_Sieve___init__ passE0 T.mkr_Sieve T.g_Sieve bd_Sieve___init___2 hr (by decide) (pa_cons (pe_op op_cat (pv 2) (pv 4)) pa_nil)) (nomark _)))))))))))))))))))), spM_run (n := 2) (N := ["_law_purse_here", "_law_row_here", "_law_spans", "_law_order", "_law_handed", "_law_sieve", "_law_others", "_law_first", "_law_text", "_law_found", "_law_before", "_law_size", "_law_above", "_law_below", "_law_thing"]) (sim_seq (sim_asg (sim_lc (gw_tup (gw_cons (gw_nm (by decide)) (gw_cons (gw_nm (by decide)) (gw_cons (gw_nm (by decide)) gw_nil mg_nm mgs_nil) mg_nm (mgs_cons mg_nm mgs_nil)) mg_nm (mgs_cons mg_nm (mgs_cons mg_nm mgs_nil)))) (mg_tup (mgs_cons mg_nm (mgs_cons mg_nm (mgs_cons mg_nm mgs_nil)))) (sim_iL sim_var) (g0_tup (E := none) (g0_cons g0_nm (g0_cons g0_nm (g0_cons g0_nm g0_nil)))) sim_yesP (sim_makeX (sim_cons sim_var (sim_cons sim_var (sim_cons sim_var sim_nil))) (fun _ _ => RepL.nilR))) sim_nm)
      (sim_seq (sim_for (sim_iL (sim_lst (sim_cons sim_var (sim_cons (sim_revLs sim_var) (sim_cons (sim_lst (sim_cons (sim_makeX (sim_cons sim_int sim_nil) (fun _ _ => (RepL.consR rp_int (RepL.consR rp_int RepL.nilR)))) (sim_cons (sim_makeX (sim_cons sim_int sim_nil) (fun _ _ => (RepL.consR rp_int (RepL.consR rp_int RepL.nilR)))) (sim_cons (sim_makeX (sim_cons sim_int sim_nil) (fun _ _ => (RepL.consR rp_int (RepL.consR rp_int RepL.nilR)))) sim_nil)))) sim_nil))))) (sim_g0 g0_nm) (sim_seq (sim_par (sim_cons (sim_cb cb_lst (sim_cons sim_var sim_nil)) (sim_cons (sim_cb cb_reprO (sim_cons sim_var sim_nil)) sim_nil)))
      (sim_ifS (sim_or (sim_test (sim_op os_one (sim_frz (sim_makeOX (sim_cons sim_var sim_nil) (fun _ _ => RepL.nilR))) (sim_frz (sim_makeOX (sim_cons (sim_cb cb_tup (sim_cons sim_var sim_nil)) sim_nil) (fun _ _ => RepL.nilR))))) (sim_test (sim_op os_neS (sim_cb cb_reprO (sim_cons sim_var sim_nil)) sim_var))) (sim_ret sim_bl) sim_next)))
      (sim_seq (sim_asg (sim_cb cb_lstO (sim_cons sim_var sim_nil)) sim_nm)
      (sim_seq (sim_asg (sim_frz (sim_makeOX (sim_cons sim_var sim_nil) (fun _ _ => RepL.nilR))) sim_nm)
      (sim_seq (sim_par (sim_cons (sim_meth sim_var sim_nil (fun _ _ => RepL.nilR)) (sim_cons (sim_cb cb_reprO (sim_cons (sim_meth sim_var sim_nil (fun _ _ => RepL.nilR)) sim_nil)) sim_nil)))
      (sim_seq (sim_exp (sim_bml ml_append sim_var (sim_cons (sim_makeX (sim_cons sim_int (sim_cons sim_int sim_nil)) (fun _ _ => (RepL.consR rp_int RepL.nilR))) sim_nil)))
      (sim_seq (sim_exp (sim_bml ml_popAt sim_var (sim_cons sim_int sim_nil)))
      (sim_seq (sim_asg (sim_methKX sim_var sim_nil (sim_cons (sim_frz (sim_makeOX (sim_cons sim_var sim_nil) (fun _ _ => RepL.nilR))) sim_nil) (fun ι G ps vs zs ws r1 r2 => (r1.app ((r2.drop 0).take 1)))) sim_nm)
      (sim_seq (sim_ifS (sim_or (sim_test (sim_op os_one (sim_methKX sim_var sim_nil (sim_cons sim_var sim_nil) (fun ι G ps vs zs ws r1 r2 => (r1.app ((r2.drop 0).take 1)))) (sim_frz (sim_makeOX sim_nil (fun _ _ => (RepL.consR rp_non RepL.nilR)))))) (sim_or (sim_test (sim_op os_one (sim_methKX sim_var sim_nil (sim_cons sim_var sim_nil) (fun ι G ps vs zs ws r1 r2 => (r1.app ((r2.drop 0).take 1)))) sim_var)) (sim_test (sim_op os_notN (sim_methKX sim_var sim_nil (sim_cons sim_var sim_nil) (fun ι G ps vs zs ws r1 r2 => (r1.app ((r2.drop 0).take 1)))) sim_non)))) (sim_ret sim_bl) sim_next)
      (sim_seq (sim_ifS (sim_test (sim_op os_neD (sim_lst (sim_cons (sim_methKX sim_var sim_nil (sim_cons sim_int sim_nil) (fun ι G ps vs zs ws r1 r2 => (r1.app ((r2.drop 0).take 1)))) (sim_cons (sim_methX sim_var (sim_cons sim_int sim_nil) (fun _ _ => RepL.nilR)) sim_nil))) (sim_lst (sim_cons (sim_methX sim_var (sim_cons sim_int sim_nil) (fun _ _ => RepL.nilR)) (sim_cons (sim_methKX sim_var sim_nil (sim_cons sim_int sim_nil) (fun ι G ps vs zs ws r1 r2 => (r1.app ((r2.drop 0).take 1)))) sim_nil))))) (sim_ret sim_bl) sim_next)
      (sim_seq (sim_ifS (sim_test (sim_op os_neD (sim_lc (gw_nm (by decide)) mg_nm (sim_iT (sim_tup (sim_cons sim_bl (sim_cons sim_bl sim_nil)))) g0_nm sim_yesP (sim_call (sim_cons sim_var (sim_cons sim_int (sim_cons sim_var sim_nil))) (fun _ _ => RepL.nilR))) (sim_lst (sim_cons sim_int (sim_cons sim_int sim_nil))))) (sim_ret sim_bl) sim_next)
      (sim_seq (sim_ifS (sim_or (sim_test (sim_op os_neS (sim_cb cb_reprO (sim_cons sim_var sim_nil)) sim_var)) (sim_or (sim_test (sim_op os_neS (sim_cb cb_reprO (sim_cons (sim_meth sim_var sim_nil (fun _ _ => RepL.nilR)) sim_nil)) sim_var)) (sim_or (sim_test (sim_op os_one sim_var (sim_frz (sim_makeOX (sim_cons sim_var sim_nil) (fun _ _ => RepL.nilR))))) (sim_test (sim_op (os_oeqA T.clsK T.nfk) sim_var sim_int))))) (sim_ret sim_bl) sim_next)
      (sim_seq (sim_ifS (sim_B (sim_cb cb_any (sim_cons (sim_lc (gw_nm (by decide)) mg_nm (sim_iT (sim_tup (sim_cons sim_var (sim_cons sim_var (sim_cons sim_var (sim_cons sim_non (sim_cons (sim_cb cb_olen (sim_cons sim_var sim_nil)) (sim_cons (sim_op os_ixL sim_var sim_int) sim_nil)))))))) g0_nm sim_yesP (sim_op (os_oeqA T.clsK T.nfk) sim_var sim_var)) sim_nil))) (sim_ret sim_bl) sim_next)
      (sim_ret (sim_andV (sim_op (os_oneA T.clsK T.nfk) sim_var sim_var) (sim_andV (sim_methX sim_var (sim_cons sim_int sim_nil) (fun _ _ => RepL.nilR)) (sim_op os_oeq sim_var (sim_frz (sim_makeOX (sim_cons (sim_op os_catL sim_var sim_var) sim_nil) (fun _ _ => RepL.nilR)))))))))))))))))))) h⟩)⟩
theorem sc_law : FnScope ["_law_script", "_law_k", "_law_purse_here", "_law_near", "_law_row_here"] ["_law_script"] (defScope s_law) := ⟨rfl, rfl, rfl, by decide +kernel, rfl, by decide +kernel, by decide +kernel⟩
theorem ok_law (T : Tx w K mg) : DOkG P w K mg base d_law CX0 13 ["_law_script"] (spM K false m_law) := by
  have o_Sieve___init__ := ok_Sieve___init__ (P := P) (w := w) (base := base) T
  have o_Chain___init__ := ok_Chain___init__ (P := P) (w := w) (base := base) T
  have o_Sieve___eq__ := ok_Sieve___eq__ (P := P) (w := w) (base := base) T
  have o_Tray___init__ := ok_Tray___init__ (P := P) (w := w) (base := base) T
  have o_Chain___eq__ := ok_Chain___eq__ (P := P) (w := w) (base := base) T
  have o_Tray___eq__ := ok_Tray___eq__ (P := P) (w := w) (base := base) T
  have o__law_cell := ok__law_cell (P := P) (w := w) (base := base) T
  have o__law_purse := ok__law_purse (P := P) (w := w) (base := base) T
  have o__law_take := ok__law_take (P := P) (w := w) (base := base) T
  have o__law_row := ok__law_row (P := P) (w := w) (base := base) T
  have o__law_refused := ok__law_refused (P := P) (w := w) (base := base) T
  have o__law_stays := ok__law_stays (P := P) (w := w) (base := base) T
  obtain ⟨fd, F⟩ := T.df_law
  exact ⟨fd, F, okG F sc_law (fun vs H Q E h => spM_len h) (fun cdv A outer s H vs Q E hr hg h => ⟨_, PSs.nox (pss_cons (ps_if (PW.pt (pw_or (pt_cmpR (op_oeqA o_Sieve___eq__ T.mt_Sieve___eq__ b_Sieve___eq__ hr (by decide)) (pmk0S o_Sieve___init__ passE0 T.mkr_Sieve T.g_Sieve bd_Sieve___init___1 hr (by decide)) (pmk0 o_Chain___init__ T.mkr_Chain T.g_Chain bd_Chain___init___1 hr (by decide)) (nomark _)) (pw_or (pt_cmpR (op_oeqA o_Sieve___eq__ T.mt_Sieve___eq__ b_Sieve___eq__ hr (by decide)) (pmk0S o_Sieve___init__ passE0 T.mkr_Sieve T.g_Sieve bd_Sieve___init___1 hr (by decide)) (pmk0 o_Tray___init__ T.mkr_Tray T.g_Tray bd_Tray___init___1 hr (by decide)) (nomark _)) (pw_or (pt_cmpR (op_oeqA o_Chain___eq__ T.mt_Chain___eq__ b_Chain___eq__ hr (by decide)) (pmk0 o_Chain___init__ T.mkr_Chain T.g_Chain bd_Chain___init___1 hr (by decide)) (pmk0 o_Tray___init__ T.mkr_Tray T.g_Tray bd_Tray___init___1 hr (by decide)) (nomark _)) (pw_or (pt_cmpR (op_oeqA o_Tray___eq__ T.mt_Tray___eq__ b_Tray___eq__ hr (by decide)) (pmk0 o_Tray___init__ T.mkr_Tray T.g_Tray bd_Tray___init___1 hr (by decide)) (pmk0 o_Chain___init__ T.mkr_Chain T.g_Chain bd_Chain___init___1 hr (by decide)) (nomark _)) (pw_or1 (pt_cmpR (op_oeqA o_Chain___eq__ T.mt_Chain___eq__ b_Chain___eq__ hr (by decide)) (pmk0 o_Chain___init__ T.mkr_Chain T.g_Chain bd_Chain___init___1 hr (by decide)) (pmk0S o_Sieve___init__ passE0 T.mkr_Sieve T.g_Sieve bd_Sieve___init___1 hr (by decide)) (nomark _)))))))) (pss_one (ps_ret pe_bl)) pss_nil)
      (pss_cons (ps_for PassesOwn.never rfl (pi_range1 (by rfl) T.f_range (pa_cons (pe_callB (c_max rfl) (by rfl) T.f_max (by decide +kernel) (pa_cons pe_int (pa_cons (pe_callB (c_min rfl) (by rfl) T.f_min (by decide +kernel) (pa_cons (pe_callB (call_len_seq) (by rfl) T.f_len (by decide +kernel) (pa_cons (pv 0) pa_nil)) (pa_cons pe_int pa_nil))) pa_nil))) pa_nil)) (pg_name (i := 1) sc_law.nd rfl (Or.inl rfl))
      (pss_cons (ps_set (i := 2) sc_law.nd rfl (Or.inl rfl) (pc o__law_purse T.g__law_purse b__law_purse hr (by decide) (pa_cons (pc o__law_cell T.g__law_cell b__law_cell hr (by decide) (pa_cons (pv 0) (pa_cons (pv 1) pa_nil))) pa_nil)))
      (pss_cons (ps_set (i := 3) sc_law.nd rfl (Or.inl rfl) (pe_cmpR op_eq (pc o__law_take T.g__law_take b__law_take hr (by decide) (pa_cons (pv 2) (pa_cons pe_int pa_nil))) pe_int (nomark _)))
      (pss_cons (ps_set (i := 4) sc_law.nd rfl (Or.inl rfl) (pc o__law_row T.g__law_row b__law_row hr (by decide) (pa_cons (pv 2) (pa_cons (pe_op op_add pe_int (pc o__law_take T.g__law_take b__law_take hr (by decide) (pa_cons (pv 2) (pa_cons pe_int pa_nil)))) (pa_cons (pv 3) pa_nil)))))
      (pss_one (ps_if (PW.pt (pw_or (pt_not (pt_val (pc o__law_refused T.g__law_refused b__law_refused hr (by decide) (pa_cons (pv 2) (pa_cons (pv 4) pa_nil))))) (pw_or1 (pt_not (pt_val (pcG o__law_stays T.g__law_stays b__law_stays hr hg (by decide) (pa_cons (pv 2) (pa_cons (pv 4) pa_nil)))))))) (pss_one (ps_ret pe_bl)) pss_nil))))))
      (pss_one (ps_ret pe_bl)))), spM_run (n := 1) (N := ["_law_script", "_law_k", "_law_purse_here", "_law_near", "_law_row_here"]) (sim_seq (sim_ifS (sim_or (sim_test (sim_op (os_oeqA T.clsK T.nfk) (sim_frz (sim_makeOX sim_nil (fun _ _ => (RepL.consR rp_non RepL.nilR)))) (sim_make sim_nil (fun _ _ => RepL.nilR)))) (sim_or (sim_test (sim_op (os_oeqA T.clsK T.nfk) (sim_frz (sim_makeOX sim_nil (fun _ _ => (RepL.consR rp_non RepL.nilR)))) (sim_makeO sim_nil (fun _ _ => RepL.nilR)))) (sim_or (sim_test (sim_op (os_oeqA T.clsK T.nfk) (sim_make sim_nil (fun _ _ => RepL.nilR)) (sim_makeO sim_nil (fun _ _ => RepL.nilR)))) (sim_or (sim_test (sim_op (os_oeqA T.clsK T.nfk) (sim_makeO sim_nil (fun _ _ => RepL.nilR)) (sim_make sim_nil (fun _ _ => RepL.nilR)))) (sim_test (sim_op (os_oeqA T.clsK T.nfk) (sim_make sim_nil (fun _ _ => RepL.nilR)) (sim_frz (sim_makeOX sim_nil (fun _ _ => (RepL.consR rp_non RepL.nilR)))))))))) (sim_ret sim_bl) sim_next)
      (sim_seq (sim_for (sim_iR1 (sim_cons (sim_cb cb_max2 (sim_cons sim_int (sim_cons (sim_cb cb_min2 (sim_cons (sim_cb cb_len (sim_cons sim_var sim_nil)) (sim_cons sim_int sim_nil))) sim_nil))) sim_nil)) (sim_g0 g0_nm) (sim_seq (sim_asg (sim_call (sim_cons (sim_call (sim_cons sim_var (sim_cons sim_var sim_nil)) (fun _ _ => RepL.nilR)) sim_nil) (fun _ _ => RepL.nilR)) sim_nm)
      (sim_seq (sim_asg (sim_op os_eqS (sim_call (sim_cons sim_var (sim_cons sim_int sim_nil)) (fun _ _ => RepL.nilR)) sim_int) sim_nm)
      (sim_seq (sim_asg (sim_call (sim_cons sim_var (sim_cons (sim_op os_add sim_int (sim_call (sim_cons sim_var (sim_cons sim_int sim_nil)) (fun _ _ => RepL.nilR))) (sim_cons sim_var sim_nil))) (fun _ _ => RepL.nilR)) sim_nm)
      (sim_ifS (sim_or (sim_not (sim_B (sim_call (sim_cons sim_var (sim_cons sim_var sim_nil)) (fun _ _ => RepL.nilR)))) (sim_not (sim_B (sim_call (sim_cons sim_var (sim_cons sim_var sim_nil)) (fun _ _ => RepL.nilR))))) (sim_ret sim_bl) sim_next)))))
      (sim_ret sim_bl))) h⟩)⟩
end
end Qg
theorem PySem.Challenge.cw_fitwords_k37_sieves_refused_holds : PySem.Challenge.rw_fitwords_k37_sieves_refused.Holds :=
  Qe.end_gen Qg.tl_Sieve_unlike rfl Qg.m_law Qg.law_true Qg.ok_law
#print axioms PySem.Challenge.cw_fitwords_k37_sieves_refused_holds
