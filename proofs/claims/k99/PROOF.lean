import PyProof.Rows.All
import Wide.All
import OpenK.AllK
import Wide.FinOn
import HandS.ForMost
import HandS.HeadEnd
import HandS.HeadHook2
import HandS.Head2
import KE.KStateDown
import HandS.Exc
import HandS.TryMany
import HandS.ExcOwn
import HandS.ExcInit
import HandS.CallSlots
import HandS.Defaults
import HandS.IsInst
import HandS.Conv
import HandS.Walk
import HandS.Deep
import HandS.WordsExc
import HandS.ExcValue
import HandS.ExcField
import HandS.SortInts
import HandS.SortRule
import HandS.TupAny
import HandS.SetFor
import KE.GoesMore
import KE.KExcIs
import HandS.Small
import PyProof.ReprRoads
import PyProof.ReprBulk
import HandS.AnyAll
import PySem.Challenge.RW_behindwebs_k99_lists_looked_over
set_option Elab.async false
set_option linter.all false
section
set_option maxRecDepth 100000
set_option maxHeartbeats 4000000
namespace DF
open PySem PySem.Spec PyProof.Rows L2
/-! ### what the head's run looks at -/
def oexB (K : PySem.W.Frag) (C : Addr) : Bool := (match K.lookup C with
  | some ⟨.type "type", _, .cls cd, sl⟩ => (match cd.mro, sl.toList with
    | .ref C' :: bm, [_, _, _, _, some (.builtin n), _] => C' == C && (n == "ValueError.__new__" && (!cd.hasDel && (cd.hasDict && PySem.HandSPX.refsVE bm)))
    | _, _ => false)
  | _ => false) && (decide (PySem.W.findIn K (.ref C) "__setattr__" = some (some (.builtin "object.__setattr__"))) && (decide (PySem.W.subIn K (.ref C) (.type "BaseException") = some true) && (decide (PySem.W.typeIn K (.ref C) = some (.type "type")) && PySem.W.keepIn K (.ref C))))
def exfB (K : PySem.W.Frag) (C : Addr) : Bool := (PySem.W.clsIn K C).isSome && (decide (PySem.W.findIn K (.ref C) "__getattribute__" = some (some (.builtin "BaseException.__getattribute__"))) && (decide (PySem.W.findIn K (.ref C) "__getattr__" = some none) && (decide (PySem.W.subIn K (.ref C) (.type "BaseException") = some true) && (PySem.W.hasDictIn K C &&
  (decide (PySem.W.findIn K (.ref C) "__class__" = some (some (.builtin "object.__class__"))) && (decide (PySem.W.specialIn K (.builtin "object.__class__") "__get__" = some (some (.builtin "getset_descriptor.__get__"))) && (decide (PySem.W.takesIn K (.builtin "object.__class__") = some true) && decide (PySem.W.mroIn K C (.type "object") = some true))))))))
/-! ### the head's facts, with one more Bool -/
def obsB (n : Nat) (fa : List He.Fa) (fn : List He.DefD) (bx : PySem.W.Frag → Bool) (g : Addr → Option Obj) : He.AlD × Bool := (He.obsD fa fn (He.frG g (He.asD g n)), bx (He.frG g (He.asD g n)))
structure SaysB (fa : List He.Fa) (fn : List He.DefD) (bx : PySem.W.Frag → Bool) (K : PySem.W.Frag) : Prop where
  d : He.SaysD fa fn K
  b : bx K = true
def hookB (n : Nat) (fa : List He.Fa) (fn : List He.DefD) (bx : PySem.W.Frag → Bool) : PySem.W.Hook where
  α := He.AlD × Bool
  obs := fun s => obsB n fa fn bx s.heap.get?
  val := fun _ => (He.valD fn, true)
  says := fun _ h => ∃ K : PySem.W.Frag, K.In h ∧ SaysB fa fn bx K
  of := fun _ _ e => ⟨_, He.frG_in, ⟨congrArg Prod.fst e, congrArg Prod.snd e⟩⟩
  keeps := fun _ _ _ ⟨K, hK, c⟩ k => ⟨K, PySem.W.Frag.In.keeps hK k, c⟩
theorem obsB_eq {n : Nat} {fa : List He.Fa} {fn : List He.DefD} {bx : PySem.W.Frag → Bool} {g : Addr → Option Obj} {s : Shared} (h : ∀ a, g a = s.heap.get? a) : obsB n fa fn bx g = (hookB n fa fn bx).obs s := by
  have e : g = s.heap.get? := funext h
  rw [e] <;> rfl

def fldS (fs : List Str) (n : Nat) : Str := match fs[n]? with
  | some x => x
  | none => ⟨(List.replicate (n + 1000) 0).toArray⟩
structure ExRow where
  c : Nat
  fl : List Nat
  ini : Bool
def exRowB (K : PySem.W.Frag) (cs fs : List Str) (r : ExRow) : Bool :=
  exfB K (He.ga K (cs.getD r.c Str.empty)) && (r.fl.all (fun n => decide (PySem.W.findIn K (.ref (He.ga K (cs.getD r.c Str.empty))) (fldS fs n) = some none)) &&
  (if r.ini then oexB K (He.ga K (cs.getD r.c Str.empty)) && (decide (PySem.W.findIn K (.ref (He.ga K (cs.getD r.c Str.empty))) "__init__" = some (some (.ref (He.ma K (He.ga K (cs.getD r.c Str.empty)) "__init__")))) && decide (PySem.W.typeIn K (.ref (He.ma K (He.ga K (cs.getD r.c Str.empty)) "__init__")) = some (.type "function")))
   else PySem.W.excIn K (He.ga K (cs.getD r.c Str.empty)) He.veBase "ValueError.__new__" && PySem.W.keepIn K (.ref (He.ga K (cs.getD r.c Str.empty)))))
def subB1 (K : PySem.W.Frag) (cs : List Str) (tb : List (Nat × List Nat)) (ks : List Nat) : Bool := tb.all fun r => ks.all fun k => decide (PySem.W.kitOne K (.ref (He.ga K (cs.getD r.1 Str.empty))) (.ref (He.ga K (cs.getD k Str.empty))) = some (r.2.contains k))
def subB2 (K : PySem.W.Frag) (cs : List Str) (rs : List ExRow) : Bool := rs.all fun r => decide (PySem.W.kitOne K (.ref (He.ga K (cs.getD r.c Str.empty))) (.type "ValueError") = some true)
def subB3 (K : PySem.W.Frag) (cs : List Str) (ks : List Nat) : Bool := ks.all fun k => decide (PySem.W.exmOne K (.ref (He.ga K (cs.getD k Str.empty))) (.ref (He.ga K (cs.getD k Str.empty))) = some true)
/-- all of it: tb: the classes above each; ks: the classes that are asked for -/
def exB (cs fs : List Str) (rs : List ExRow) (tb : List (Nat × List Nat)) (ks : List Nat) (K : PySem.W.Frag) : Bool := rs.all (exRowB K cs fs) && (subB1 K cs tb ks && (subB2 K cs rs && subB3 K cs ks))
theorem map_join {α β γ δ ε : Type} {o : Option α} {f : α → β} {g : α → γ} {h : α → δ} {k : α → ε} {b : β} {c : γ} {d : δ} {e : ε} (h1 : o.map (fun s => (f s, g s, h s)) = some (b, c, d)) (h2 : o.map k = some e) : o.map (fun s => (f s, g s, (h s, k s))) = some (b, c, (d, e)) := by
  cases o with
  | none => cases h1
  | some x =>
    have a := Option.some.inj h1
    have a2 := Option.some.inj h2
    simp only [Prod.mk.injEq] at a
    show some (f x, g x, (h x, k x)) = some (b, c, (d, e))
    rw [a.1, a.2.1, a.2.2, a2]
end DF
end

section
set_option maxRecDepth 100000
set_option maxHeartbeats 0
namespace Gk99
open PySem PySem.Spec PyProof.Rows L2 DF

abbrev P : Program := PySem.Challenge.pw_behindwebs_k99_lists_looked_over
def stm (i : Nat) : Stmt := P.main.body.getD i (.Pass ⟨0, 0, 0, 0⟩)
def ini (i j : Nat) : Stmt := L2.inClass (stm i) j
def cs : List Str := ["BehindError", "BadNumber", "BadThing", "BadPair", "BadLot", "BadRow", "BadText", "BadWays", "BadSizes", "BadLevels", "BadSpan", "BadCrowds", "BadDeed", "NotCrowd", "NotBar", "NotHeld", "NotInLine", "NotDrawing", "NotArrow", "NotTied", "NotClosed", "NotBehind", "NotPart", "NotLoose", "NoOrders", "OtherWeb", "NoMiddle", "NoRows", "NoSpans", "TooMany", "NothingDone"]
def fs : List Str := ["name", "place", "line", "first", "second", "third", "thing", "ring", "things", "contrary", "four"]
def rs : List ExRow := [⟨0, [], false⟩, ⟨1, [0], true⟩, ⟨2, [0], true⟩, ⟨3, [1], true⟩, ⟨4, [1], true⟩, ⟨5, [1], true⟩, ⟨6, [2], true⟩, ⟨7, [1], true⟩, ⟨8, [1], true⟩, ⟨9, [1], true⟩, ⟨10, [1], true⟩, ⟨11, [1], true⟩, ⟨12, [1], true⟩, ⟨13, [], false⟩, ⟨14, [], false⟩, ⟨15, [], false⟩, ⟨16, [3, 4], true⟩, ⟨17, [3, 4], true⟩, ⟨18, [3, 4], true⟩, ⟨19, [3, 4], true⟩, ⟨20, [3, 4, 5], true⟩, ⟨21, [3, 4], true⟩, ⟨22, [6], true⟩, ⟨23, [3, 4], true⟩, ⟨24, [7], true⟩, ⟨25, [3, 4], true⟩, ⟨26, [8], true⟩, ⟨27, [7, 9], true⟩, ⟨28, [10, 7], true⟩, ⟨29, [0], true⟩, ⟨30, [], false⟩]
def tb : List (Nat × List Nat) := [(0, [0]), (1, [1, 0]), (2, [2, 0]), (3, [3, 0]), (4, [4, 0]), (5, [5, 0]), (6, [6, 0]), (7, [7, 0]), (8, [8, 0]), (9, [9, 0]), (10, [10, 0]), (11, [11, 0]), (12, [12, 0]), (13, [13, 0]), (14, [14, 0]), (15, [15, 0]), (16, [16, 0]), (17, [17, 0]), (18, [18, 0]), (19, [19, 0]), (20, [20, 0]), (21, [21, 0]), (22, [22, 0]), (23, [23, 0]), (24, [24, 0]), (25, [25, 0]), (26, [26, 0]), (27, [27, 0]), (28, [28, 0]), (29, [29, 0]), (30, [30, 0])]
def ks : List Nat := [0, 1, 2, 3, 4, 5, 6, 7, 8, 9, 10, 11, 12, 13, 14, 15, 16, 17, 18, 19, 20, 21, 22, 23, 24, 25, 26, 27, 28, 29, 30]
def bx (K : PySem.W.Frag) : Bool := exB cs fs rs tb ks K
theorem fs_nd : fs.Nodup := by decide +kernel
theorem fs_sm : fs.all (fun x => decide (x.cps.size < 1000)) = true := by decide +kernel
def D__law_draws : He.DefD := ⟨("_law_draws", none), "_law_draws", "_law_draws", L2.defArgs (stm 46), L2.defBody (stm 46), L2.defScope (stm 46), [], []⟩
def D__law_take : He.DefD := ⟨("_law_take", none), "_law_take", "_law_take", L2.defArgs (stm 47), L2.defBody (stm 47), L2.defScope (stm 47), [], []⟩
def D__law_marks : He.DefD := ⟨("_law_marks", none), "_law_marks", "_law_marks", L2.defArgs (stm 61), L2.defBody (stm 61), L2.defScope (stm 61), [], []⟩
def D__law_errors : He.DefD := ⟨("_law_errors", none), "_law_errors", "_law_errors", L2.defArgs (stm 62), L2.defBody (stm 62), L2.defScope (stm 62), [], []⟩
def D__law_entry : He.DefD := ⟨("_law_entry", none), "_law_entry", "_law_entry", L2.defArgs (stm 49), L2.defBody (stm 49), L2.defScope (stm 49), [], []⟩
def D__law_two : He.DefD := ⟨("_law_two", none), "_law_two", "_law_two", L2.defArgs (stm 51), L2.defBody (stm 51), L2.defScope (stm 51), [], []⟩
def D__law_several : He.DefD := ⟨("_law_several", none), "_law_several", "_law_several", L2.defArgs (stm 52), L2.defBody (stm 52), L2.defScope (stm 52), [], []⟩
def D__law_int : He.DefD := ⟨("_law_int", none), "_law_int", "_law_int", L2.defArgs (stm 48), L2.defBody (stm 48), L2.defScope (stm 48), [], []⟩
def D__law_is_thing : He.DefD := ⟨("_law_is_thing", none), "_law_is_thing", "_law_is_thing", L2.defArgs (stm 50), L2.defBody (stm 50), L2.defScope (stm 50), [], []⟩
def D__law_first_bad : He.DefD := ⟨("_law_first_bad", none), "_law_first_bad", "_law_first_bad", L2.defArgs (stm 54), L2.defBody (stm 54), L2.defScope (stm 54), [], []⟩
def D__law_due_things : He.DefD := ⟨("_law_due_things", none), "_law_due_things", "_law_due_things", L2.defArgs (stm 55), L2.defBody (stm 55), L2.defScope (stm 55), [], []⟩
def D_is_integer : He.DefD := ⟨("is_integer", none), "is_integer", "is_integer", L2.defArgs (stm 33), L2.defBody (stm 33), L2.defScope (stm 33), [], []⟩
def D_is_thing : He.DefD := ⟨("is_thing", none), "is_thing", "is_thing", L2.defArgs (stm 34), L2.defBody (stm 34), L2.defScope (stm 34), [], []⟩
def D_thing_of : He.DefD := ⟨("thing_of", none), "thing_of", "thing_of", L2.defArgs (stm 36), L2.defBody (stm 36), L2.defScope (stm 36), [(.str "thing")], []⟩
def D_number_of_kind : He.DefD := ⟨("number_of_kind", none), "number_of_kind", "number_of_kind", L2.defArgs (stm 37), L2.defBody (stm 37), L2.defScope (stm 37), [], []⟩
def D__law_single : He.DefD := ⟨("_law_single", none), "_law_single", "_law_single", L2.defArgs (stm 59), L2.defBody (stm 59), L2.defScope (stm 59), [], []⟩
def D__law_singles : He.DefD := ⟨("_law_singles", none), "_law_singles", "_law_singles", L2.defArgs (stm 60), L2.defBody (stm 60), L2.defScope (stm 60), [], []⟩
def D__law_good_pair : He.DefD := ⟨("_law_good_pair", none), "_law_good_pair", "_law_good_pair", L2.defArgs (stm 53), L2.defBody (stm 53), L2.defScope (stm 53), [], []⟩
def D__law_due_pairs : He.DefD := ⟨("_law_due_pairs", none), "_law_due_pairs", "_law_due_pairs", L2.defArgs (stm 56), L2.defBody (stm 56), L2.defScope (stm 56), [], []⟩
def D__law_same : He.DefD := ⟨("_law_same", none), "_law_same", "_law_same", L2.defArgs (stm 58), L2.defBody (stm 58), L2.defScope (stm 58), [], []⟩
def D_first_bad : He.DefD := ⟨("first_bad", none), "first_bad", "first_bad", L2.defArgs (stm 38), L2.defBody (stm 38), L2.defScope (stm 38), [], []⟩
def D_lot_of : He.DefD := ⟨("lot_of", none), "lot_of", "lot_of", L2.defArgs (stm 39), L2.defBody (stm 39), L2.defScope (stm 39), [], [("empty", (.bl false))]⟩
def D_row_of : He.DefD := ⟨("row_of", none), "row_of", "row_of", L2.defArgs (stm 40), L2.defBody (stm 40), L2.defScope (stm 40), [], []⟩
def D_is_pair : He.DefD := ⟨("is_pair", none), "is_pair", "is_pair", L2.defArgs (stm 35), L2.defBody (stm 35), L2.defScope (stm 35), [], []⟩
def D_several_pairs : He.DefD := ⟨("several_pairs", none), "several_pairs", "several_pairs", L2.defArgs (stm 42), L2.defBody (stm 42), L2.defScope (stm 42), [], []⟩
def D_ties_of : He.DefD := ⟨("ties_of", none), "ties_of", "ties_of", L2.defArgs (stm 43), L2.defBody (stm 43), L2.defScope (stm 43), [], []⟩
def D_arrows_of : He.DefD := ⟨("arrows_of", none), "arrows_of", "arrows_of", L2.defArgs (stm 44), L2.defBody (stm 44), L2.defScope (stm 44), [], []⟩
def D_pair_of : He.DefD := ⟨("pair_of", none), "pair_of", "pair_of", L2.defArgs (stm 41), L2.defBody (stm 41), L2.defScope (stm 41), [], []⟩
def D__law_asked : He.DefD := ⟨("_law_asked", none), "_law_asked", "_law_asked", L2.defArgs (stm 57), L2.defBody (stm 57), L2.defScope (stm 57), [], []⟩
def D_law : He.DefD := ⟨("law", none), "law", "law", L2.defArgs (stm 63), L2.defBody (stm 63), L2.defScope (stm 63), [], []⟩
def D_BadNumber : He.DefD := ⟨("BadNumber", some "__init__"), "__init__", "BadNumber.__init__", L2.defArgs (ini 2 0), L2.defBody (ini 2 0), L2.defScope (ini 2 0), [], []⟩
def D_BadThing : He.DefD := ⟨("BadThing", some "__init__"), "__init__", "BadThing.__init__", L2.defArgs (ini 3 0), L2.defBody (ini 3 0), L2.defScope (ini 3 0), [], []⟩
def D_BadPair : He.DefD := ⟨("BadPair", some "__init__"), "__init__", "BadPair.__init__", L2.defArgs (ini 4 0), L2.defBody (ini 4 0), L2.defScope (ini 4 0), [], []⟩
def D_BadLot : He.DefD := ⟨("BadLot", some "__init__"), "__init__", "BadLot.__init__", L2.defArgs (ini 5 0), L2.defBody (ini 5 0), L2.defScope (ini 5 0), [], []⟩
def D_BadRow : He.DefD := ⟨("BadRow", some "__init__"), "__init__", "BadRow.__init__", L2.defArgs (ini 6 0), L2.defBody (ini 6 0), L2.defScope (ini 6 0), [], []⟩
def D_BadText : He.DefD := ⟨("BadText", some "__init__"), "__init__", "BadText.__init__", L2.defArgs (ini 7 0), L2.defBody (ini 7 0), L2.defScope (ini 7 0), [], []⟩
def D_BadWays : He.DefD := ⟨("BadWays", some "__init__"), "__init__", "BadWays.__init__", L2.defArgs (ini 8 0), L2.defBody (ini 8 0), L2.defScope (ini 8 0), [], []⟩
def D_BadSizes : He.DefD := ⟨("BadSizes", some "__init__"), "__init__", "BadSizes.__init__", L2.defArgs (ini 9 0), L2.defBody (ini 9 0), L2.defScope (ini 9 0), [], []⟩
def D_BadLevels : He.DefD := ⟨("BadLevels", some "__init__"), "__init__", "BadLevels.__init__", L2.defArgs (ini 10 0), L2.defBody (ini 10 0), L2.defScope (ini 10 0), [], []⟩
def D_BadSpan : He.DefD := ⟨("BadSpan", some "__init__"), "__init__", "BadSpan.__init__", L2.defArgs (ini 11 0), L2.defBody (ini 11 0), L2.defScope (ini 11 0), [], []⟩
def D_BadCrowds : He.DefD := ⟨("BadCrowds", some "__init__"), "__init__", "BadCrowds.__init__", L2.defArgs (ini 12 0), L2.defBody (ini 12 0), L2.defScope (ini 12 0), [], []⟩
def D_BadDeed : He.DefD := ⟨("BadDeed", some "__init__"), "__init__", "BadDeed.__init__", L2.defArgs (ini 13 0), L2.defBody (ini 13 0), L2.defScope (ini 13 0), [], []⟩
def D_NotInLine : He.DefD := ⟨("NotInLine", some "__init__"), "__init__", "NotInLine.__init__", L2.defArgs (ini 17 0), L2.defBody (ini 17 0), L2.defScope (ini 17 0), [], []⟩
def D_NotDrawing : He.DefD := ⟨("NotDrawing", some "__init__"), "__init__", "NotDrawing.__init__", L2.defArgs (ini 18 0), L2.defBody (ini 18 0), L2.defScope (ini 18 0), [], []⟩
def D_NotArrow : He.DefD := ⟨("NotArrow", some "__init__"), "__init__", "NotArrow.__init__", L2.defArgs (ini 19 0), L2.defBody (ini 19 0), L2.defScope (ini 19 0), [], []⟩
def D_NotTied : He.DefD := ⟨("NotTied", some "__init__"), "__init__", "NotTied.__init__", L2.defArgs (ini 20 0), L2.defBody (ini 20 0), L2.defScope (ini 20 0), [], []⟩
def D_NotClosed : He.DefD := ⟨("NotClosed", some "__init__"), "__init__", "NotClosed.__init__", L2.defArgs (ini 21 0), L2.defBody (ini 21 0), L2.defScope (ini 21 0), [], []⟩
def D_NotBehind : He.DefD := ⟨("NotBehind", some "__init__"), "__init__", "NotBehind.__init__", L2.defArgs (ini 22 0), L2.defBody (ini 22 0), L2.defScope (ini 22 0), [], []⟩
def D_NotPart : He.DefD := ⟨("NotPart", some "__init__"), "__init__", "NotPart.__init__", L2.defArgs (ini 23 0), L2.defBody (ini 23 0), L2.defScope (ini 23 0), [], []⟩
def D_NotLoose : He.DefD := ⟨("NotLoose", some "__init__"), "__init__", "NotLoose.__init__", L2.defArgs (ini 24 0), L2.defBody (ini 24 0), L2.defScope (ini 24 0), [], []⟩
def D_NoOrders : He.DefD := ⟨("NoOrders", some "__init__"), "__init__", "NoOrders.__init__", L2.defArgs (ini 25 0), L2.defBody (ini 25 0), L2.defScope (ini 25 0), [], []⟩
def D_OtherWeb : He.DefD := ⟨("OtherWeb", some "__init__"), "__init__", "OtherWeb.__init__", L2.defArgs (ini 26 0), L2.defBody (ini 26 0), L2.defScope (ini 26 0), [], []⟩
def D_NoMiddle : He.DefD := ⟨("NoMiddle", some "__init__"), "__init__", "NoMiddle.__init__", L2.defArgs (ini 27 0), L2.defBody (ini 27 0), L2.defScope (ini 27 0), [], []⟩
def D_NoRows : He.DefD := ⟨("NoRows", some "__init__"), "__init__", "NoRows.__init__", L2.defArgs (ini 28 0), L2.defBody (ini 28 0), L2.defScope (ini 28 0), [], []⟩
def D_NoSpans : He.DefD := ⟨("NoSpans", some "__init__"), "__init__", "NoSpans.__init__", L2.defArgs (ini 29 0), L2.defBody (ini 29 0), L2.defScope (ini 29 0), [], []⟩
def D_TooMany : He.DefD := ⟨("TooMany", some "__init__"), "__init__", "TooMany.__init__", L2.defArgs (ini 30 0), L2.defBody (ini 30 0), L2.defScope (ini 30 0), [], []⟩
def fn : List He.DefD := [D__law_draws, D__law_take, D__law_marks, D__law_errors, D__law_entry, D__law_two, D__law_several, D__law_int, D__law_is_thing, D__law_first_bad, D__law_due_things, D_is_integer, D_is_thing, D_thing_of, D_number_of_kind, D__law_single, D__law_singles, D__law_good_pair, D__law_due_pairs, D__law_same, D_first_bad, D_lot_of, D_row_of, D_is_pair, D_several_pairs, D_ties_of, D_arrows_of, D_pair_of, D__law_asked, D_law, D_BadNumber, D_BadThing, D_BadPair, D_BadLot, D_BadRow, D_BadText, D_BadWays, D_BadSizes, D_BadLevels, D_BadSpan, D_BadCrowds, D_BadDeed, D_NotInLine, D_NotDrawing, D_NotArrow, D_NotTied, D_NotClosed, D_NotBehind, D_NotPart, D_NotLoose, D_NoOrders, D_OtherWeb, D_NoMiddle, D_NoRows, D_NoSpans, D_TooMany]
def fa : List He.Fa := [.glo "_law_draws", .glo "_law_take", .glo "_law_marks", .glo "_law_errors", .glo "_law_entry", .glo "_law_two", .glo "_law_several", .glo "_law_int", .glo "_law_is_thing", .glo "_law_first_bad", .glo "_law_due_things", .glo "is_integer", .glo "is_thing", .glo "thing_of", .glo "number_of_kind", .glo "_law_single", .glo "_law_singles", .glo "_law_good_pair", .glo "_law_due_pairs", .glo "_law_same", .glo "first_bad", .glo "lot_of", .glo "row_of", .glo "is_pair", .glo "several_pairs", .glo "ties_of", .glo "arrows_of", .glo "pair_of", .glo "_law_asked", .glo "law", .glo "BehindError", .glo "BadNumber", .glo "BadThing", .glo "BadPair", .glo "BadLot", .glo "BadRow", .glo "BadText", .glo "BadWays", .glo "BadSizes", .glo "BadLevels", .glo "BadSpan", .glo "BadCrowds", .glo "BadDeed", .glo "NotCrowd", .glo "NotBar", .glo "NotHeld", .glo "NotInLine", .glo "NotDrawing", .glo "NotArrow", .glo "NotTied", .glo "NotClosed", .glo "NotBehind", .glo "NotPart", .glo "NotLoose", .glo "NoOrders", .glo "OtherWeb", .glo "NoMiddle", .glo "NoRows", .glo "NoSpans", .glo "TooMany", .glo "NothingDone", .free "len", .free "int", .free "tuple", .free "list", .free "max", .free "min", .free "sorted", .free "repr", .free "all", .free "range", .free "enumerate", .free "isinstance", .free "bool", .free "ValueError"]
end Gk99
end

section
set_option maxRecDepth 100000
set_option maxHeartbeats 0
namespace H99
open PySem PySem.Spec PyProof.Rows L2 DF
abbrev R : PySem.W.OpenRow := PySem.W.OpenLaw.row PySem.Challenge.rw_behindwebs_k99_lists_looked_over
def nm0 : List PySem.Str := ["__name__", "BehindError", "BadNumber", "BadThing", "BadPair", "BadLot", "BadRow", "BadText", "BadWays", "BadSizes", "BadLevels", "BadSpan", "BadCrowds", "BadDeed", "NotCrowd", "NotBar", "NotHeld", "NotInLine", "NotDrawing", "NotArrow", "NotTied", "NotClosed", "NotBehind", "NotPart", "NotLoose", "NoOrders", "OtherWeb", "NoMiddle", "NoRows", "NoSpans"]
def nm1 : List PySem.Str := ["TooMany", "NothingDone", "is_integer", "is_thing", "is_pair", "thing_of", "number_of_kind", "first_bad", "lot_of", "row_of", "pair_of", "several_pairs", "ties_of", "arrows_of", "_law_draws", "_law_take", "_law_int", "_law_entry", "_law_is_thing", "_law_two", "_law_several", "_law_good_pair", "_law_first_bad", "_law_due_things", "_law_due_pairs", "_law_asked", "_law_same", "_law_single", "_law_singles", "_law_marks"]
def nm2 : List PySem.Str := ["_law_errors"]
def names : List PySem.Str := nm0 ++ nm1 ++ nm2
abbrev hk : PySem.W.Hook := hookB 5 Gk99.fa Gk99.fn Gk99.bx
def ob (s : PySem.W.SharedT) : He.AlD × Bool := obsB 5 Gk99.fa Gk99.fn Gk99.bx (HandSHeadRun.getT s)
theorem ob_eq (s : PySem.W.SharedT) : ob s = hk.obs s.abs := obsB_eq (HandSHeadRun.getT_eq s)
noncomputable abbrev E (w : World) (os : OsState) := HandSHeadRun.endF (HandSHeadRun.stepQ (HandSHeadRun.denQ HandSHeadRun.tabQ) R.prog w) 16000 R.prog w os
theorem run1 (w : World) (os : OsState) : (E w os).map (fun s => (HandSHeadRun.looksF R.prog (PySem.W.boot_heap w.params) s.abs, HandSHeadRun.seenQ (PySem.W.view R.prog [63]) names (PySem.importedModules R.prog.main.body) (fun s => PySem.W.xlAt (PySem.W.view R.prog [63]) [] s && PySem.W.recOk R.toRowW.records s) s.abs, He.obsD Gk99.fa Gk99.fn (He.frG (HandSHeadRun.getT s) (He.asD (HandSHeadRun.getT s) 5)))) = some (true, PySem.W.openGood (PySem.W.view R.prog [63]) names, He.valD Gk99.fn) := by
  kernel_rfl
theorem run2 (w : World) (os : OsState) : (E w os).map (fun s => Gk99.bx (He.frG (HandSHeadRun.getT s) (He.asD (HandSHeadRun.getT s) 5))) = some true := by
  kernel_rfl
theorem run (w : World) : HandSHeadRun.RunEq R (PySem.W.view R.prog [63]) hk ob 16000 names w := fun os => map_join (run1 w os) (run2 w os)
end H99
end

section
set_option maxRecDepth 100000
set_option maxHeartbeats 4000000
/-! DF: data in place of heaps. D: a value as data; O: the same with what is owned (may be changed) marked. -/
namespace DF
open PySem PySem.Spec PyProof.Rows L2

inductive D where
  | non
  | bl (b : Bool)
  | int (i : Int)
  | str (s : Str)
  | tup (ds : List D)
  | lst (ds : List D)
  | rol (ds : List D)
  | ty (n : Nat)
  | cl (c : Nat)
  | dk (ks : List Key) (ds : List D)
  | dt (ks : List (List Key)) (ds : List D)
  | ins (c : Nat) (fs : List Nat) (ds : List D)
  | ex (c : Nat) (fs : List Nat) (ds : List D)
  | any

/-- owned: t = 1, or t = k + 2: the object that stood in the k-th parameter -/
inductive O where
  | fr (d : D)
  | lst (t : Nat) (os : List O)
  | dk (t : Nat) (ks : List Key) (ds : List D)
  | dt (t : Nat) (ks : List (List Key)) (ds : List D)
  | ins (t : Nat) (c : Nat) (fs : List Nat) (ds : List D)
  | hd (t : Nat)

mutual
def fz : O → D
  | .fr d => d
  | .lst _ os => .lst (fzL os)
  | .dk _ ks ds => .dk ks ds
  | .dt _ ks ds => .dt ks ds
  | .ins _ c fs ds => .ins c fs ds
  | .hd _ => .any
def fzL : List O → List D
  | [] => []
  | o :: os => fz o :: fzL os
end
theorem fzL_fr (ds : List D) : fzL (ds.map O.fr) = ds := by
  induction ds with
  | nil => rfl
  | cons d ds ih => simp only [List.map_cons, fzL, fz, ih]
theorem fzL_map (os : List O) : fzL os = os.map fz := by
  induction os with
  | nil => rfl
  | cons d ds ih => simp only [List.map_cons, fzL, ih]

/-- built-in classes by numbers -/
def tyN : Nat → String
  | 0 => "int"
  | 1 => "bool"
  | 2 => "str"
  | 3 => "list"
  | 4 => "tuple"
  | 5 => "dict"
  | 6 => "ValueError"
  | _ => "NoneType"
structure Tab where
  K : PySem.W.Frag
  mg : Str → Option Value
  cls : Nat → Addr
  fld : Nat → Str
  inj : ∀ m n : Nat, fld m = fld n → m = n

mutual
/-- what a value is as data, over the frozen part G -/
inductive Dn (T : Tab) (G : Hp) : V → D → Prop
  | non : Dn T G .non .non
  | bl (b : Bool) : Dn T G (.bl b) (.bl b)
  | int (i : Int) : Dn T G (.int i) (.int i)
  | str (s : Str) : Dn T G (.str s) (.str s)
  | tup {a : Addr} {vs : List V} {ds : List D} : G a = some (.tup vs) → DnL T G vs ds → Dn T G (.ref a) (.tup ds)
  | tupE {a : Addr} : SqT T.K G a [] → Dn T G (.ref a) (.tup [])
  | lst {a : Addr} {vs : List V} {ds : List D} : G a = some (.lst vs) → DnL T G vs ds → Dn T G (.ref a) (.lst ds)
  | rol {a : Addr} {vs : List V} {ds : List D} : SqL T.K G a vs → DnL T G vs ds → Dn T G (.ref a) (.rol ds)
  | ty (n : Nat) : Dn T G (.ty (tyN n)) (.ty n)
  | cl (c : Nat) : Dn T G (.ref (T.cls c)) (.cl c)
  | dk {a : Addr} {kvs : List (Key × V)} {ds : List D} : G a = some (.dK kvs) → DnL T G (kvs.map Prod.snd) ds → Dn T G (.ref a) (.dk (kvs.map Prod.fst) ds)
  | dt {a : Addr} {kvs : List (List Key × V)} {ds : List D} : G a = some (.dT kvs) → DnL T G (kvs.map Prod.snd) ds → Dn T G (.ref a) (.dt (kvs.map Prod.fst) ds)
  | ins {a dx : Addr} {c : Nat} {fs : List Nat} {vs : List V} {ds : List D} : G a = some (.ins (T.cls c) dx ((fs.map T.fld).zip vs)) → fs.length = vs.length → DnL T G vs ds → Dn T G (.ref a) (.ins c fs ds)
  | ex {a dx : Addr} {c : Nat} {fs : List Nat} {vs : List V} {ds : List D} : G a = some (exo a (T.cls c) (some dx)) → G dx = some (exd dx ((fs.map T.fld).zip vs)) → fs.length = vs.length → DnL T G vs ds → Dn T G (.ref a) (.ex c fs ds)
  | ex0 {a : Addr} {c : Nat} : G a = some (ExO (.ref (T.cls c)) a) → Dn T G (.ref a) (.ex c [] [])
  | any (v : V) : Dn T G v .any
inductive DnL (T : Tab) (G : Hp) : List V → List D → Prop
  | nil : DnL T G [] []
  | cons {v : V} {vs : List V} {d : D} {ds : List D} : Dn T G v d → DnL T G vs ds → DnL T G (v :: vs) (d :: ds)
end

def Ex (H H' : Hp) : Prop := ∀ a o, H a = some o → H' a = some o
theorem Ex.refl (H : Hp) : Ex H H := fun _ _ h => h
theorem Ex.trans {H H1 H2 : Hp} (a : Ex H H1) (b : Ex H1 H2) : Ex H H2 := fun x o h => b x o (a x o h)
theorem Ex.new {H : Hp} {p : Addr} {o : HO} (h : H p = none) : Ex H (upd H p o) := fun a u e => by
  rw [upd_ne (ne_of_none e h)]; exact e
theorem ex_rd {H H' : Hp} {a : Addr} {u : HO} (e : Ex H H') (h : Rd H a u) : Rd H' a u := by
  rcases h with h | ⟨o, h⟩
  · exact .inl (e a _ h)
  · exact .inr ⟨o, e a _ h⟩
theorem ex_l {K : PySem.W.Frag} {H H' : Hp} {a : Addr} {xs : List V} (e : Ex H H') (h : SqL K H a xs) : SqL K H' a xs := by
  rcases h with h | h
  · exact .inl (ex_rd e h)
  · exact .inr h
theorem ex_t {K : PySem.W.Frag} {H H' : Hp} {a : Addr} {xs : List V} (e : Ex H H') (h : SqT K H a xs) : SqT K H' a xs := by
  rcases h with h | h
  · exact .inl (ex_rd e h)
  · exact .inr h

mutual
theorem Dn.mono {T : Tab} {G G' : Hp} (e : Ex G G') : ∀ {v : V} {d : D}, Dn T G v d → Dn T G' v d
  | _, _, .non => .non
  | _, _, .bl b => .bl b
  | _, _, .int i => .int i
  | _, _, .str s => .str s
  | _, _, .tup h l => .tup (e _ _ h) (DnL.mono e l)
  | _, _, .tupE h => .tupE (ex_t e h)
  | _, _, .lst h l => .lst (e _ _ h) (DnL.mono e l)
  | _, _, .rol h l => .rol (ex_l e h) (DnL.mono e l)
  | _, _, .ty n => .ty n
  | _, _, .cl n => .cl n
  | _, _, .dk h l => .dk (e _ _ h) (DnL.mono e l)
  | _, _, .dt h l => .dt (e _ _ h) (DnL.mono e l)
  | _, _, .ins h n l => .ins (e _ _ h) n (DnL.mono e l)
  | _, _, .ex h h2 n l => .ex (e _ _ h) (e _ _ h2) n (DnL.mono e l)
  | _, _, .ex0 h => .ex0 (e _ _ h)
  | _, _, .any v => .any v
theorem DnL.mono {T : Tab} {G G' : Hp} (e : Ex G G') : ∀ {vs : List V} {ds : List D}, DnL T G vs ds → DnL T G' vs ds
  | _, _, .nil => .nil
  | _, _, .cons h l => .cons (Dn.mono e h) (DnL.mono e l)
end

theorem Dn.sqT {T : Tab} {G : Hp} {v : V} {ds : List D} : Dn T G v (.tup ds) → ∃ a vs, v = .ref a ∧ SqT T.K G a vs ∧ DnL T G vs ds ∧ (ds ≠ [] → G a = some (.tup vs))
  | .tup h l => ⟨_, _, rfl, .of h, l, fun _ => h⟩
  | .tupE h => ⟨_, _, rfl, h, .nil, fun z => (z rfl).elim⟩
theorem Dn.sqL {T : Tab} {G : Hp} {v : V} {ds : List D} : Dn T G v (.lst ds) → ∃ a vs, v = .ref a ∧ G a = some (.lst vs) ∧ DnL T G vs ds
  | .lst h l => ⟨_, _, rfl, h, l⟩
theorem DnL.len {T : Tab} {G : Hp} : ∀ {vs : List V} {ds : List D}, DnL T G vs ds → vs.length = ds.length
  | _, _, .nil => rfl
  | _, _, .cons _ l => by rw [List.length_cons, List.length_cons, l.len]
theorem DnL.get {T : Tab} {G : Hp} : ∀ {vs : List V} {ds : List D} {i : Nat} {d : D}, DnL T G vs ds → ds[i]? = some d → ∃ v, vs[i]? = some v ∧ Dn T G v d
  | _, _, _, _, .nil, h => by simp at h
  | _, _, 0, _, .cons h _, e => by simp at e; subst e; exact ⟨_, by simp, h⟩
  | _, _, i + 1, _, .cons _ l, e => by
    obtain ⟨v, h1, h2⟩ := l.get (i := i) (by simpa using e)
    exact ⟨v, by simpa using h1, h2⟩
theorem DnL.getV {T : Tab} {G : Hp} : ∀ {vs : List V} {ds : List D} {i : Nat} {v : V}, DnL T G vs ds → vs[i]? = some v → ∃ d, ds[i]? = some d ∧ Dn T G v d
  | _, _, _, _, .nil, h => by simp at h
  | _, _, 0, _, .cons h _, e => by simp at e; subst e; exact ⟨_, by simp, h⟩
  | _, _, i + 1, _, .cons _ l, e => by
    obtain ⟨v, h1, h2⟩ := l.getV (i := i) (by simpa using e)
    exact ⟨v, by simpa using h1, h2⟩
theorem DnL.append {T : Tab} {G : Hp} : ∀ {vs ws : List V} {ds es : List D}, DnL T G vs ds → DnL T G ws es → DnL T G (vs ++ ws) (ds ++ es)
  | _, _, _, _, .nil, m => m
  | _, _, _, _, .cons h l, m => .cons h (l.append m)
theorem DnL.take {T : Tab} {G : Hp} : ∀ {vs : List V} {ds : List D} (n : Nat), DnL T G vs ds → DnL T G (vs.take n) (ds.take n)
  | _, _, 0, _ => by simp; exact .nil
  | _, _, n + 1, .nil => by simp; exact .nil
  | _, _, n + 1, .cons h l => by simp; exact .cons h (l.take n)
theorem DnL.drop {T : Tab} {G : Hp} : ∀ {vs : List V} {ds : List D} (n : Nat), DnL T G vs ds → DnL T G (vs.drop n) (ds.drop n)
  | _, _, 0, l => by simpa using l
  | _, _, n + 1, .nil => by simp; exact .nil
  | _, _, n + 1, .cons _ l => by simpa using l.drop n
theorem DnL.set {T : Tab} {G : Hp} {v : V} {d : D} (h : Dn T G v d) : ∀ {vs : List V} {ds : List D} (i : Nat), DnL T G vs ds → DnL T G (vs.set i v) (ds.set i d)
  | _, _, _, .nil => .nil
  | _, _, 0, .cons _ l => .cons h l
  | _, _, i + 1, .cons q l => .cons q (l.set h i)
theorem DnL.erase {T : Tab} {G : Hp} : ∀ {vs : List V} {ds : List D} (i : Nat), DnL T G vs ds → DnL T G (vs.eraseIdx i) (ds.eraseIdx i)
  | _, _, _, .nil => by simp; exact .nil
  | _, _, 0, .cons _ l => by simpa using l
  | _, _, i + 1, .cons q l => by simpa using .cons q (l.erase i)
theorem DnL.dropLast {T : Tab} {G : Hp} {vs : List V} {ds : List D} (h : DnL T G vs ds) : DnL T G vs.dropLast ds.dropLast := by
  rw [List.dropLast_eq_take, List.dropLast_eq_take, h.len]; exact h.take _
theorem DnL.reverse {T : Tab} {G : Hp} : ∀ {vs : List V} {ds : List D}, DnL T G vs ds → DnL T G vs.reverse ds.reverse
  | _, _, .nil => .nil
  | _, _, .cons h l => by rw [List.reverse_cons, List.reverse_cons]; exact l.reverse.append (.cons h .nil)
theorem DnL.rep {T : Tab} {G : Hp} {vs : List V} {ds : List D} (h : DnL T G vs ds) : ∀ k : Nat, DnL T G (List.replicate k vs).flatten (List.replicate k ds).flatten
  | 0 => .nil
  | k + 1 => by rw [List.replicate_succ, List.replicate_succ, List.flatten_cons, List.flatten_cons]; exact h.append (h.rep k)

/-- what may stand within an owned list -/
def inn : O → Bool
  | .fr _ => true
  | .lst _ _ => true
  | _ => false
mutual
/-- a value whose owned part stands at A in H -/
inductive Own (T : Tab) (G H : Hp) : V → O → List Addr → Prop
  | fr {v : V} {d : D} : Dn T G v d → Own T G H v (.fr d) []
  | lst {a : Addr} {t : Nat} {vs : List V} {os : List O} {A : List Addr} : H a = some (.lst vs) → OwnL T G H vs os A → Own T G H (.ref a) (.lst t os) (a :: A)
  | dk {a : Addr} {t : Nat} {kvs : List (Key × V)} {ds : List D} : H a = some (.dK kvs) → DnL T G (kvs.map Prod.snd) ds → Own T G H (.ref a) (.dk t (kvs.map Prod.fst) ds) [a]
  | dt {a : Addr} {t : Nat} {kvs : List (List Key × V)} {ds : List D} : H a = some (.dT kvs) → DnL T G (kvs.map Prod.snd) ds → Own T G H (.ref a) (.dt t (kvs.map Prod.fst) ds) [a]
  | ins {a dx : Addr} {t c : Nat} {fs : List Nat} {vs : List V} {ds : List D} : H a = some (.ins (T.cls c) dx ((fs.map T.fld).zip vs)) → fs.length = vs.length → DnL T G vs ds → Own T G H (.ref a) (.ins t c fs ds) [a]
  | hd (v : V) (t : Nat) : Own T G H v (.hd t) []
inductive OwnL (T : Tab) (G H : Hp) : List V → List O → List Addr → Prop
  | nil : OwnL T G H [] [] []
  | cons {v : V} {vs : List V} {o : O} {os : List O} {A B : List Addr} : inn o = true → Own T G H v o A → OwnL T G H vs os B → OwnL T G H (v :: vs) (o :: os) (A ++ B)
end
mutual
theorem Own.frame {T : Tab} {G G' H H' : Hp} (e : Ex G G') : ∀ {v : V} {o : O} {A : List Addr}, Own T G H v o A → (∀ a ∈ A, H' a = H a) → Own T G' H' v o A
  | _, _, _, .fr h, _ => .fr (h.mono e)
  | _, _, _, .lst h l, k => .lst (by rw [k _ List.mem_cons_self]; exact h) (OwnL.frame e l fun a ha => k a (List.mem_cons_of_mem _ ha))
  | _, _, _, .dk h l, k => .dk (by rw [k _ List.mem_cons_self]; exact h) (l.mono e)
  | _, _, _, .dt h l, k => .dt (by rw [k _ List.mem_cons_self]; exact h) (l.mono e)
  | _, _, _, .ins h n l, k => .ins (by rw [k _ List.mem_cons_self]; exact h) n (l.mono e)
  | _, _, _, .hd v t, _ => .hd v t
theorem OwnL.frame {T : Tab} {G G' H H' : Hp} (e : Ex G G') : ∀ {vs : List V} {os : List O} {A : List Addr}, OwnL T G H vs os A → (∀ a ∈ A, H' a = H a) → OwnL T G' H' vs os A
  | _, _, _, .nil, _ => .nil
  | _, _, _, .cons i h l, k => .cons i (Own.frame e h fun a ha => k a (List.mem_append_left _ ha)) (OwnL.frame e l fun a ha => k a (List.mem_append_right _ ha))
end
mutual
/-- the owned part is frozen -/
theorem Own.freeze {T : Tab} {G G' H : Hp} (e : Ex G G') : ∀ {v : V} {o : O} {A : List Addr}, Own T G H v o A → (∀ a ∈ A, ∀ o, H a = some o → G' a = some o) → Dn T G' v (fz o)
  | _, _, _, .fr h, _ => h.mono e
  | _, _, _, .lst h l, k => .lst (k _ List.mem_cons_self _ h) (OwnL.freeze e l fun a ha => k a (List.mem_cons_of_mem _ ha))
  | _, _, _, .dk h l, k => .dk (k _ List.mem_cons_self _ h) (l.mono e)
  | _, _, _, .dt h l, k => .dt (k _ List.mem_cons_self _ h) (l.mono e)
  | _, _, _, .ins h n l, k => .ins (k _ List.mem_cons_self _ h) n (l.mono e)
  | _, _, _, .hd v t, _ => .any v
theorem OwnL.freeze {T : Tab} {G G' H : Hp} (e : Ex G G') : ∀ {vs : List V} {os : List O} {A : List Addr}, OwnL T G H vs os A → (∀ a ∈ A, ∀ o, H a = some o → G' a = some o) → DnL T G' vs (fzL os)
  | _, _, _, .nil, _ => .nil
  | _, _, _, .cons _ h l, k => .cons (Own.freeze e h fun a ha => k a (List.mem_append_left _ ha)) (OwnL.freeze e l fun a ha => k a (List.mem_append_right _ ha))
end
mutual
theorem Own.there {T : Tab} {G H : Hp} : ∀ {v : V} {o : O} {A : List Addr}, Own T G H v o A → ∀ a ∈ A, ∃ o, H a = some o
  | _, _, _, .fr _, _, h => nomatch h
  | _, _, _, .lst h l, a, ha => (List.mem_cons.mp ha).elim (fun e => ⟨_, e ▸ h⟩) (OwnL.there l a)
  | _, _, _, .dk h _, a, ha => ⟨_, (List.mem_singleton.mp ha) ▸ h⟩
  | _, _, _, .dt h _, a, ha => ⟨_, (List.mem_singleton.mp ha) ▸ h⟩
  | _, _, _, .ins h _ _, a, ha => ⟨_, (List.mem_singleton.mp ha) ▸ h⟩
  | _, _, _, .hd _ _, _, h => nomatch h
theorem OwnL.there {T : Tab} {G H : Hp} : ∀ {vs : List V} {os : List O} {A : List Addr}, OwnL T G H vs os A → ∀ a ∈ A, ∃ o, H a = some o
  | _, _, _, .nil, _, h => nomatch h
  | _, _, _, .cons _ h l, a, ha => (List.mem_append.mp ha).elim (Own.there h a) (OwnL.there l a)
end
theorem ownL_fr {T : Tab} {G H : Hp} : ∀ {vs : List V} {ds : List D}, DnL T G vs ds → OwnL T G H vs (ds.map O.fr) []
  | _, _, .nil => .nil
  | _, _, .cons h l => .cons (A := []) rfl (.fr h) (ownL_fr l)
theorem OwnL.len {T : Tab} {G H : Hp} : ∀ {vs : List V} {os : List O} {A : List Addr}, OwnL T G H vs os A → vs.length = os.length
  | _, _, _, .nil => rfl
  | _, _, _, .cons _ _ l => by rw [List.length_cons, List.length_cons, l.len]

def tag : O → Nat
  | .fr _ => 0
  | .lst t _ => t
  | .dk t _ _ => t
  | .dt t _ _ => t
  | .ins t _ _ _ => t
  | .hd t => t
/-- what came in by the k-th parameter stands at τ k -/
structure Th where
  ad : Nat → Addr
  gb : Hp
def TagOk (τ : Th) (v : V) (o : O) : Prop := 2 ≤ tag o → v = .ref (τ.ad (tag o - 2))
/-- the slots -/
abbrev S := List (Option O)
inductive OwnS (T : Tab) (G H : Hp) (τ : Th) : L2.St → S → List Addr → Prop
  | nil : OwnS T G H τ [] [] []
  | un {x : Option V} {σ : L2.St} {s : S} {A : List Addr} : OwnS T G H τ σ s A → OwnS T G H τ (x :: σ) (none :: s) A
  | cons {v : V} {o : O} {σ : L2.St} {s : S} {A B : List Addr} : TagOk τ v o → Own T G H v o A → OwnS T G H τ σ s B → OwnS T G H τ (some v :: σ) (some o :: s) (A ++ B)
theorem OwnS.frame {T : Tab} {G G' H H' : Hp} {τ : Th} (e : Ex G G') : ∀ {σ : L2.St} {s : S} {A : List Addr}, OwnS T G H τ σ s A → (∀ a ∈ A, H' a = H a) → OwnS T G' H' τ σ s A
  | _, _, _, .nil, _ => .nil
  | _, _, _, .un l, k => .un (OwnS.frame e l k)
  | _, _, _, .cons t h l, k => .cons t (h.frame e fun a ha => k a (List.mem_append_left _ ha)) (OwnS.frame e l fun a ha => k a (List.mem_append_right _ ha))
theorem OwnS.there {T : Tab} {G H : Hp} {τ : Th} : ∀ {σ : L2.St} {s : S} {A : List Addr}, OwnS T G H τ σ s A → ∀ a ∈ A, ∃ o, H a = some o
  | _, _, _, .nil, _, h => nomatch h
  | _, _, _, .un l, a, ha => OwnS.there l a ha
  | _, _, _, .cons _ h l, a, ha => (List.mem_append.mp ha).elim (h.there a) (OwnS.there l a)

/-! ### what a step leaves -/
structure Wf (gb G H : Hp) (A : List Addr) : Prop where
  ex : Ex G H
  nd : A.Nodup
  ng : ∀ a ∈ A, G a = none
  th : ∀ a ∈ A, ∃ o, H a = some o
  bd : Ex gb G
structure Stp (gb G H : Hp) (A : List Addr) (G' H' : Hp) (A' : List Addr) : Prop where
  wf : Wf gb G' H' A'
  gg : Ex G G'
  fr : ∀ a o, H a = some o → a ∉ A → H' a = some o
  gn : ∀ a o, G' a = some o → G a = none → a ∈ A ∨ H a = none
  na : ∀ a ∈ A', a ∈ A ∨ H a = none
theorem Stp.refl {G H : Hp} {A : List Addr} (w : Wf gb G H A) : Stp gb G H A G H A := ⟨w, Ex.refl G, fun _ _ h _ => h, fun a o h n => (by rw [n] at h; cases h), fun _ h => .inl h⟩
theorem Stp.trans {G H G1 H1 G2 H2 : Hp} {A A1 A2 : List Addr} (x : Stp gb G H A G1 H1 A1) (y : Stp gb G1 H1 A1 G2 H2 A2) : Stp gb G H A G2 H2 A2 := by
  have old : ∀ a o, H a = some o → a ∉ A → a ∉ A1 := fun a o h n hm => (x.na a hm).elim n (fun e => by rw [e] at h; cases h)
  refine ⟨y.wf, x.gg.trans y.gg, fun a o h n => y.fr a o (x.fr a o h n) (old a o h n), fun a o h n => ?_, fun a h => ?_⟩
  · cases e : G1 a with
    | some u => exact x.gn a u e n
    | none =>
      rcases y.gn a o h e with q | q
      · exact x.na a q
      · cases e2 : H a with
        | none => exact .inr rfl
        | some u =>
          refine Classical.byContradiction fun z => ?_
          have z1 : a ∉ A := fun z2 => z (.inl z2)
          rw [x.fr a u e2 z1] at q; cases q
  · rcases y.na a h with q | q
    · exact x.na a q
    · cases e2 : H a with
      | none => exact .inr rfl
      | some u =>
        refine Classical.byContradiction fun z => ?_
        have z1 : a ∉ A := fun z2 => z (.inl z2)
        rw [x.fr a u e2 z1] at q; cases q
abbrev hE : Hp := fun _ => none
theorem exE (G : Hp) : Ex hE G := fun _ _ h => nomatch h
theorem Stp.up {g g' G H G1 H1 : Hp} {A A1 : List Addr} (x : Stp g G H A G1 H1 A1) (e : Ex g' G) : Stp g' G H A G1 H1 A1 := ⟨⟨x.wf.ex, x.wf.nd, x.wf.ng, x.wf.th, e.trans x.gg⟩, x.gg, x.fr, x.gn, x.na⟩
theorem Wf.up {g g' G H : Hp} {A : List Addr} (w : Wf g G H A) (e : Ex g' G) : Wf g' G H A := ⟨w.ex, w.nd, w.ng, w.th, e⟩
/-- less of the owned is remembered -/
theorem Stp.less {G H G1 H1 : Hp} {A A1 A2 : List Addr} (x : Stp gb G H A G1 H1 A1) (hs : ∀ a ∈ A2, a ∈ A1) (nd : A2.Nodup) : Stp gb G H A G1 H1 A2 :=
  ⟨⟨x.wf.ex, nd, fun a h => x.wf.ng a (hs a h), fun a h => x.wf.th a (hs a h), x.wf.bd⟩, x.gg, x.fr, x.gn, fun a h => x.na a (hs a h)⟩
/-- what is beside: C stands apart from A -/
theorem Stp.beside {G H G1 H1 : Hp} {A A1 C : List Addr} (x : Stp gb G H A G1 H1 A1) (w : Wf gb G H (A ++ C)) : Stp gb G H (A ++ C) G1 H1 (A1 ++ C) ∧ (∀ a ∈ C, H1 a = H a) := by
  have dis : ∀ a ∈ C, a ∉ A := fun a hc ha => (List.nodup_append.mp w.nd).2.2 a ha a hc rfl
  have keep : ∀ a ∈ C, H1 a = H a := fun a hc => by
    obtain ⟨o, e⟩ := w.th a (List.mem_append_right _ hc)
    rw [e]; exact x.fr a o e (dis a hc)
  refine ⟨⟨⟨x.wf.ex, ?_, fun a h => ?_, fun a h => ?_, x.wf.bd⟩, x.gg, fun a o h n => x.fr a o h (fun z => n (List.mem_append_left _ z)), fun a o h n => (x.gn a o h n).imp (List.mem_append_left _) id, fun a h => ?_⟩, keep⟩
  · refine List.nodup_append.mpr ⟨x.wf.nd, (List.nodup_append.mp w.nd).2.1, fun a ha b hb e => ?_⟩
    subst e
    rcases x.na a ha with q | q
    · exact dis a hb q
    · obtain ⟨o, e⟩ := w.th a (List.mem_append_right _ hb)
      rw [q] at e; cases e
  · rcases List.mem_append.mp h with q | q
    · exact x.wf.ng a q
    · cases e : G1 a with
      | none => rfl
      | some u =>
        rcases x.gn a u e (w.ng a (List.mem_append_right _ q)) with z | z
        · exact (dis a q z).elim
        · obtain ⟨o, e⟩ := w.th a (List.mem_append_right _ q)
          rw [z] at e; cases e
  · rcases List.mem_append.mp h with q | q
    · exact x.wf.th a q
    · rw [keep a q]; exact w.th a (List.mem_append_right _ q)
  · rcases List.mem_append.mp h with q | q
    · exact (x.na a q).imp (List.mem_append_left _) id
    · exact .inl (List.mem_append_right _ q)
/-- the owned at B is frozen -/
noncomputable def frz (G H : Hp) (B : List Addr) : Hp := fun a => open Classical in if a ∈ B then H a else G a
theorem frz_in {G H : Hp} {B : List Addr} {a : Addr} (h : a ∈ B) : frz G H B a = H a := by unfold frz; rw [if_pos h]
theorem frz_out {G H : Hp} {B : List Addr} {a : Addr} (h : a ∉ B) : frz G H B a = G a := by unfold frz; rw [if_neg h]
theorem frz_ex {G H : Hp} {B : List Addr} (ng : ∀ a ∈ B, G a = none) : Ex G (frz G H B) := fun a o h => by
  by_cases hb : a ∈ B
  · rw [ng a hb] at h; cases h
  · rw [frz_out hb]; exact h
theorem frz_step {G H : Hp} {A B : List Addr} (w : Wf gb G H (A ++ B)) : Stp gb G H (A ++ B) (frz G H B) H A := by
  have dis : ∀ a ∈ A, a ∉ B := fun a ha hb => (List.nodup_append.mp w.nd).2.2 a ha a hb rfl
  refine ⟨⟨fun a o h => ?_, (List.nodup_append.mp w.nd).1, fun a h => ?_, fun a h => w.th a (List.mem_append_left _ h), w.bd.trans (frz_ex fun a h => w.ng a (List.mem_append_right _ h))⟩, frz_ex fun a h => w.ng a (List.mem_append_right _ h), fun a o h _ => h, fun a o h n => ?_, fun a h => .inl (List.mem_append_left _ h)⟩
  · by_cases hb : a ∈ B
    · rw [frz_in hb] at h; exact h
    · rw [frz_out hb] at h; exact w.ex a o h
  · rw [frz_out (dis a h)]; exact w.ng a (List.mem_append_left _ h)
  · by_cases hb : a ∈ B
    · exact .inl (List.mem_append_right _ hb)
    · rw [frz_out hb, n] at h; cases h
end DF
end

section
set_option maxRecDepth 100000
set_option maxHeartbeats 4000000
namespace DF
open PySem PySem.Spec PyProof.Rows L2

structure Exn where
  c : Nat
  fs : List Nat
  ds : List D
inductive R (α : Type) where
  | no
  | ok (a : α) (s : S)
  | er (x : Exn) (s : S)
abbrev M (α : Type) := S → R α
@[reducible] def ret {α : Type} (a : α) : M α := fun s => .ok a s
def bnd {α β : Type} (f : M α) (g : α → M β) : M β := fun s => match f s with
  | .no => .no
  | .er x s1 => .er x s1
  | .ok a s1 => g a s1
theorem bnd_ok {α β : Type} {f : M α} {g : α → M β} {s s1 : S} {a : α} (h : f s = .ok a s1) : bnd f g s = g a s1 := by unfold bnd; rw [h]
theorem bnd_er {α β : Type} {f : M α} {g : α → M β} {s s1 : S} {x : Exn} (h : f s = .er x s1) : bnd f g s = .er x s1 := by unfold bnd; rw [h]
theorem bnd_no {α β : Type} {f : M α} {g : α → M β} {s : S} (h : f s = .no) : bnd f g s = .no := by unfold bnd; rw [h]
/-- a value or stuck -/
def opt {α : Type} (o : Option α) : M α := fun s => match o with
  | none => .no
  | some a => .ok a s

/-- an exception as it flies -/
structure ExD (T : Tab) (G : Hp) (x : Exn) (cls : Value) (d : Option Addr) : Prop where
  cls : cls = .ref (T.cls x.c)
  fld : (x.fs = [] ∧ d = none) ∨ ∃ (dd : Addr) (fs : List (Str × V)) (vs : List V), d = some dd ∧ G dd = some (.xd fs) ∧ DnL T G vs x.ds ∧ x.fs.length = vs.length ∧
    ∀ (i n : Nat) (v : V), x.fs[i]? = some n → vs[i]? = some v → fs.lookup (T.fld n) = some v
theorem ExD.mono {T : Tab} {G G' : Hp} {x : Exn} {cls : Value} {d : Option Addr} (e : Ex G G') (h : ExD T G x cls d) : ExD T G' x cls d :=
  ⟨h.cls, h.fld.imp id fun ⟨dd, fs, vs, a, b, c, l, k⟩ => ⟨dd, fs, vs, a, e _ _ b, c.mono e, l, k⟩⟩

section
variable (T : Tab) (τ : Th) (W : WX)
/-- what is wanted of an exception -/
def PostX (σ : L2.St) (G H : Hp) (A : List Addr) (x : Exn) (s' : S) : Prop := ∀ (cls : Value) (d : Option Addr) (G' H' : Hp) (A' : List Addr), Stp τ.gb G H A G' H' A' → OwnS T G' H' τ σ s' A' → ExD T G' x cls d → W cls d σ H'
/-- an outcome: k of the value and the slots -/
def PostG {α : Type} (k : Hp → Hp → List Addr → α → S → Prop) (σ : L2.St) (G H : Hp) (A : List Addr) : R α → Prop
  | .no => False
  | .ok a s' => k G H A a s'
  | .er x s' => PostX T τ W σ G H A x s'
def kE (Q : VK) (σ : L2.St) : Hp → Hp → List Addr → O → S → Prop := fun G H A o s' => ∀ (v : V) (G' H' : Hp) (A' B : List Addr), Stp τ.gb G H A G' H' (A' ++ B) → OwnS T G' H' τ σ s' A' → Own T G' H' v o B → Q v H'
def kA (Q : List V → Hp → Prop) (σ : L2.St) : Hp → Hp → List Addr → List D → S → Prop := fun G H A ds s' => ∀ (vs : List V) (G' H' : Hp) (A' : List Addr), Stp τ.gb G H A G' H' A' → OwnS T G' H' τ σ s' A' → DnL T G' vs ds → Q vs H'
def kT (Q : Bool → Hp → Prop) (σ : L2.St) : Hp → Hp → List Addr → Bool → S → Prop := fun G H A b s' => ∀ (G' H' : Hp) (A' : List Addr), Stp τ.gb G H A G' H' A' → OwnS T G' H' τ σ s' A' → Q b H'
/-- from some data that fits -/
def tD {α : Type} (k : L2.St → Hp → Hp → List Addr → α → S → Prop) (f : M α) (σ : L2.St) (H : Hp) : Prop := ∃ (G : Hp) (A : List Addr) (s : S), Wf τ.gb G H A ∧ OwnS T G H τ σ s A ∧ PostG T τ W (k σ) σ G H A (f s)
abbrev PostE (σ : L2.St) (G H : Hp) (A : List Addr) (Q : VK) : R O → Prop := PostG T τ W (kE T τ Q σ) σ G H A
def tDE (f : M O) : TE := fun σ H Q => tD T τ W (kE T τ Q) f σ H
def tDA (f : M (List D)) : TA := fun σ H Q => tD T τ W (kA T τ Q) f σ H
def tDT (f : M Bool) : TT := fun σ H Q => tD T τ W (kT T τ Q) f σ H
end

section
variable {T : Tab} {τ : Th} {W : WX} {σ : L2.St} {G H G1 H1 : Hp} {A A1 : List Addr}
theorem PostX.step {x : Exn} {s : S} (p : PostX T τ W σ G H A x s) (z : Stp τ.gb G H A G1 H1 A1) : PostX T τ W σ G1 H1 A1 x s := fun cls d G' H' A' z' => p cls d G' H' A' (z.trans z')
/-- k bears a step -/
structure KStep (τ : Th) {α : Type} (k : L2.St → Hp → Hp → List Addr → α → S → Prop) : Prop where
  st : ∀ {σ : L2.St} {G H G1 H1 : Hp} {A A1 : List Addr} {a : α} {s : S}, k σ G H A a s → Stp τ.gb G H A G1 H1 A1 → k σ G1 H1 A1 a s
theorem kE_step {Q : VK} : KStep τ (kE T τ Q) := ⟨fun p z v G' H' A' B z' => p v G' H' A' B (z.trans z')⟩
theorem kA_step {Q : List V → Hp → Prop} : KStep τ (kA T τ Q) := ⟨fun p z v G' H' A' z' => p v G' H' A' (z.trans z')⟩
theorem kT_step {Q : Bool → Hp → Prop} : KStep τ (kT T τ Q) := ⟨fun p z G' H' A' z' => p G' H' A' (z.trans z')⟩
theorem PostG.step {α : Type} {k : L2.St → Hp → Hp → List Addr → α → S → Prop} (hk : KStep τ k) : ∀ {r : R α}, PostG T τ W (k σ) σ G H A r → Stp τ.gb G H A G1 H1 A1 → PostG T τ W (k σ) σ G1 H1 A1 r
  | .no, p, _ => p
  | .er _ _, p, z => PostX.step p z
  | .ok _ _, p, z => hk.st p z
theorem PostE.step {Q : VK} {r : R O} (p : PostE T τ W σ G H A Q r) (z : Stp τ.gb G H A G1 H1 A1) : PostE T τ W σ G1 H1 A1 Q r := PostG.step (k := kE T τ Q) kE_step p z
theorem Stp.perm {G H G1 H1 : Hp} {A A1 A2 : List Addr} (x : Stp gb G H A G1 H1 A1) (p : A1.Perm A2) : Stp gb G H A G1 H1 A2 := x.less (fun a h => p.mem_iff.mpr h) (p.nodup_iff.mp x.wf.nd)
theorem Wf.perm {G H : Hp} {A A' : List Addr} (w : Wf gb G H A) (p : A.Perm A') : Wf gb G H A' := ⟨w.ex, p.nodup_iff.mp w.nd, fun a h => w.ng a (p.mem_iff.mpr h), fun a h => w.th a (p.mem_iff.mpr h), w.bd⟩
theorem Wf.left {G H : Hp} {A B : List Addr} (w : Wf gb G H (A ++ B)) : Wf gb G H A := ⟨w.ex, (List.nodup_append.mp w.nd).1, fun a h => w.ng a (List.mem_append_left _ h), fun a h => w.th a (List.mem_append_left _ h), w.bd⟩
theorem Wf.right {G H : Hp} {A B : List Addr} (w : Wf gb G H (A ++ B)) : Wf gb G H B := ⟨w.ex, (List.nodup_append.mp w.nd).2.1, fun a h => w.ng a (List.mem_append_right _ h), fun a h => w.th a (List.mem_append_right _ h), w.bd⟩
theorem Stp.nil {G H : Hp} (e : Ex G H) : Stp hE G H [] G H [] := Stp.refl ⟨e, List.nodup_nil, (fun _ h => nomatch h), (fun _ h => nomatch h), exE _⟩
/-- beside, the kept ones first -/
theorem Stp.beside' {A B : List Addr} (x : Stp τ.gb G H [] G1 H1 B) (w : Wf τ.gb G H A) : Stp τ.gb G H A G1 H1 (A ++ B) := (Stp.beside (A := []) (C := A) x w).1.perm List.perm_append_comm
theorem OwnS.step {s : S} (h : OwnS T G H τ σ s A) (e : Ex G G1) (k : ∀ a ∈ A, H1 a = H a) : OwnS T G1 H1 τ σ s A := h.frame e k
/-- after a step beside A, the owned at A stands -/
theorem beside_keep {C A B : List Addr} (x : Stp gb G H B G1 H1 C) (w : Wf gb G H (A ++ B)) : ∀ a ∈ A, H1 a = H a := fun a ha => by
  obtain ⟨o, e⟩ := w.th a (List.mem_append_left _ ha)
  rw [e]; exact x.fr a o e fun hb => (List.nodup_append.mp w.nd).2.2 a ha a hb rfl

/-- one after the other: the second runs beside the first's value -/
theorem E_bind {β : Type} {k : L2.St → Hp → Hp → List Addr → β → S → Prop} (hk : KStep τ k) {f : M O} {g : O → M β} (h : tD T τ W k (bnd f g) σ H) :
    tDE T τ W f σ H fun v H1 => ∃ (G1 : Hp) (A1 B1 : List Addr) (o : O) (s1 : S), Wf τ.gb G1 H1 (A1 ++ B1) ∧ OwnS T G1 H1 τ σ s1 A1 ∧ Own T G1 H1 v o B1 ∧ PostG T τ W (k σ) σ G1 H1 (A1 ++ B1) (g o s1) := by
  obtain ⟨G, A, s, w, os, p⟩ := h
  refine ⟨G, A, s, w, os, ?_⟩
  unfold bnd at p
  cases e : f s with
  | no => rw [e] at p; exact p
  | er x s1 => rw [e] at p; exact p
  | ok o s1 =>
    rw [e] at p
    exact fun v G1 H1 A1 B1 z os1 ow => ⟨G1, A1, B1, o, s1, z.wf, os1, ow, PostG.step hk p z⟩
/-- .. the value frozen at once -/
theorem F_bind {β : Type} {k : L2.St → Hp → Hp → List Addr → β → S → Prop} (hk : KStep τ k) {f : M O} {g : D → M β} (h : tD T τ W k (bnd f fun o => g (fz o)) σ H) :
    tDE T τ W f σ H fun v H1 => ∃ (G1 : Hp) (A1 : List Addr) (d : D) (s1 : S), Wf τ.gb G1 H1 A1 ∧ OwnS T G1 H1 τ σ s1 A1 ∧ Dn T G1 v d ∧ PostG T τ W (k σ) σ G1 H1 A1 (g d s1) := by
  obtain ⟨G, A, s, w, os, p⟩ := E_bind hk h
  refine ⟨G, A, s, w, os, ?_⟩
  cases e : f s with
  | no => rw [e] at p; exact p
  | er x s1 => rw [e] at p; exact p
  | ok o s1 =>
    rw [e] at p
    intro v G1' H1 A1' B1' z os1 ow1
    obtain ⟨G1, A1, B1, o1, s1', w1, os1, ow1, p1⟩ := p v G1' H1 A1' B1' z os1 ow1
    have fx := frz_ex (G := G1) (H := H1) (B := B1) fun a h => w1.ng a (List.mem_append_right _ h)
    have st := frz_step w1
    exact ⟨_, A1, fz o1, s1', st.wf, os1.frame fx fun _ _ => rfl, ow1.freeze fx (fun a ha o q => by rw [frz_in ha]; exact q), PostG.step hk p1 st⟩
/-- a computation beside an owned value: run g at A1, B1 hidden -/
theorem E_beside {β : Type} {k : L2.St → Hp → Hp → List Addr → β → S → Prop} (hk : KStep τ k) {g : M O} {h : O → M β} {v : V} {o : O} {A1 B1 : List Addr} {s1 : S} (w : Wf τ.gb G H (A1 ++ B1)) (os : OwnS T G H τ σ s1 A1) (ow : Own T G H v o B1) (p : PostG T τ W (k σ) σ G H (A1 ++ B1) (bnd g h s1)) :
    tDE T τ W g σ H fun u H2 => ∃ (G2 : Hp) (A2 B2 : List Addr) (o2 : O) (s2 : S), Wf τ.gb G2 H2 (A2 ++ (B2 ++ B1)) ∧ OwnS T G2 H2 τ σ s2 A2 ∧ Own T G2 H2 v o B1 ∧ Own T G2 H2 u o2 B2 ∧ PostG T τ W (k σ) σ G2 H2 (A2 ++ (B2 ++ B1)) (h o2 s2) := by
  refine ⟨G, A1, s1, w.left, os, ?_⟩
  unfold bnd at p
  cases e : g s1 with
  | no => rw [e] at p; exact p
  | er x s2 =>
    rw [e] at p
    exact fun cls d G' H' A' z os' xd => p cls d G' H' A' ((z.beside w).1.less (fun a h => List.mem_append_left _ h) z.wf.nd) os' xd
  | ok o2 s2 =>
    rw [e] at p
    intro u G2 H2 A2 B2 z os2 ow2
    obtain ⟨z1, k1⟩ := z.beside w
    rw [List.append_assoc] at z1
    exact ⟨G2, A2, B2, o2, s2, z1.wf, os2, ow.frame z.gg k1, ow2, PostG.step hk p z1⟩
end

/-! ### operators on frozen values -/
section
variable (T : Tab) (τ : Th)
/-- what an operation by values gives -/
def OpV (r : R2) (op : D → D → Option O) : Prop := ∀ {G H : Hp} {v w : V} {d e : D} {o : O} {Q : VK}, Ex G H → Dn T G v d → Dn T G w e → op d e = some o →
  (∀ (z : V) (G' H' : Hp) (B : List Addr), Stp hE G H [] G' H' B → Own T G' H' z o B → Q z H') → r v w H Q
def UnV (r : V → Hp → VK → Prop) (op : D → Option O) : Prop := ∀ {G H : Hp} {v : V} {d : D} {o : O} {Q : VK}, Ex G H → Dn T G v d → op d = some o →
  (∀ (z : V) (G' H' : Hp) (B : List Addr), Stp hE G H [] G' H' B → Own T G' H' z o B → Q z H') → r v H Q
def CallV (r : List V → Hp → VK → Prop) (op : List D → Option O) : Prop := ∀ {G H : Hp} {vs : List V} {ds : List D} {o : O} {Q : VK}, Ex G H → DnL T G vs ds → op ds = some o →
  (∀ (z : V) (G' H' : Hp) (B : List Addr), Stp hE G H [] G' H' B → Own T G' H' z o B → Q z H') → r vs H Q
def TruVd (r : V → Hp → (Bool → Hp → Prop) → Prop) (op : D → Option Bool) : Prop := ∀ {G H : Hp} {v : V} {d : D} {b : Bool} {Q : Bool → Hp → Prop}, Ex G H → Dn T G v d → op d = some b → Q b H → r v H Q
end
def eBin (op : D → D → Option O) (f g : M O) : M O := bnd f fun a => (fun d => bnd g fun b => opt (op d (fz b))) (fz a)
def eUn (op : D → Option O) (f : M O) : M O := bnd f fun a => (fun d => opt (op d)) (fz a)
section
variable {T : Tab} {τ : Th} {W : WX} {X : Cx} {a b : Expr} {f g : M O} {pos : Pos}
theorem _root_.L2.PE.weak {e : Expr} {t t' : TE} (h : PE X e t) (k : ∀ σ H Q, t' σ H Q → t σ H Q) : PE X e t' := ⟨fun pins s σ H Q I q => h.run pins s σ H Q I (k σ H Q q)⟩
theorem _root_.L2.PT.weak {e : Expr} {t t' : TT} (h : PT X e t) (k : ∀ σ H Q, t' σ H Q → t σ H Q) : PT X e t' := ⟨fun pins s σ H Q I q => h.run pins s σ H Q I (k σ H Q q)⟩
theorem _root_.L2.PW.weak {e : Expr} {t t' : TT} (h : PW X e t) (k : ∀ σ H Q, t' σ H Q → t σ H Q) : PW X e t' := ⟨fun wh pins s σ H Q I q => h.run wh pins s σ H Q I (k σ H Q q)⟩
theorem _root_.L2.PA.weak {es : List Expr} {t t' : TA} (h : PA X es t) (k : ∀ σ H Q, t' σ H Q → t σ H Q) : PA X es t' := ⟨fun p pins s σ H Q I q => h.run p pins s σ H Q I (k σ H Q q)⟩
theorem _root_.L2.PS.weak {e : Stmt} {t t' : TS} (h : PS X e t) (k : ∀ D σ H, t' D σ H → t D σ H) : PS X e t' := ⟨fun pins s σ H D I q => h.run pins s σ H D I (k D σ H q)⟩
theorem _root_.L2.PSs.weak {e : List Stmt} {t t' : TS} (h : PSs X e t) (k : ∀ D σ H, t' D σ H → t D σ H) : PSs X e t' := ⟨fun pins s σ H D I q => h.run pins s σ H D I (k D σ H q)⟩
/-- the end of an operation by values -/
theorem finV {σ : L2.St} {G H : Hp} {A : List Addr} {s : S} {o : O} {Q : VK} (w : Wf τ.gb G H A) (os : OwnS T G H τ σ s A) (p : PostE T τ W σ G H A Q (.ok o s)) {z : V} {G' H' : Hp} {C : List Addr} (st0 : Stp hE G H [] G' H' C) (ow : Own T G' H' z o C) : Q z H' := by
  have st := st0.up w.bd
  have k : ∀ a ∈ A, H' a = H a := fun a ha => beside_keep (A := A) (B := []) st (by rw [List.append_nil]; exact w) a ha
  exact p z G' H' A C (st.beside' w) (os.frame st.gg k) ow
theorem opt_ok {α : Type} {o : Option α} {s : S} {k : Hp → Hp → List Addr → α → S → Prop} {σ : L2.St} {G H : Hp} {A : List Addr} (p : PostG T τ W k σ G H A (opt o s)) : ∃ a, o = some a ∧ PostG T τ W k σ G H A (.ok a s) := by
  unfold opt at p
  cases o with
  | none => exact p.elim
  | some a => exact ⟨a, rfl, p⟩
theorem tr_bin {r : R2} {op : D → D → Option O} (hv : OpV T r op) {σ : L2.St} {H : Hp} {Q : VK} (h : tDE T τ W (eBin op f g) σ H Q) : tOp r (tDE T τ W f) (tDE T τ W g) σ H Q := by
  obtain ⟨G, A, s, w, os, p⟩ := F_bind kE_step (g := fun d => bnd g fun b => opt (op d (fz b))) h
  refine ⟨G, A, s, w, os, ?_⟩
  cases e : f s with
  | no => rw [e] at p; exact p
  | er x s1 => rw [e] at p; exact p
  | ok o s1 =>
    rw [e] at p
    intro v G1' H1 A1' B1' z os1 ow1
    obtain ⟨G1, A1, d1, s1', w1, os1, dn1, p1⟩ := p v G1' H1 A1' B1' z os1 ow1
    have h2 : tD T τ W (kE T τ Q) (bnd g fun b => opt (op d1 (fz b))) σ H1 := ⟨G1, A1, s1', w1, os1, p1⟩
    unfold bnd at p1
    refine ⟨G1, A1, s1', w1, os1, ?_⟩
    cases e2 : g s1' with
    | no => rw [e2] at p1; exact p1
    | er x s1 => rw [e2] at p1; exact p1
    | ok o2 s3 =>
      rw [e2] at p1
      intro u G3 H3 A3 B3 z3 os3 ow3
      obtain ⟨o, e5, p4⟩ := opt_ok p1
      have fx := frz_ex (G := G3) (H := H3) (B := B3) fun a h => z3.wf.ng a (List.mem_append_right _ h)
      have st := frz_step z3.wf
      exact hv st.wf.ex (dn1.mono (z3.gg.trans fx)) (ow3.freeze fx fun a ha o q => by rw [frz_in ha]; exact q) e5 fun z G' H' B st' ow => finV st.wf (os3.frame fx fun _ _ => rfl) (PostE.step p4 (z3.trans st)) st' ow
theorem tr_un {r : V → Hp → VK → Prop} {op : D → Option O} (hv : UnV T r op) {σ : L2.St} {H : Hp} {Q : VK} (h : tDE T τ W (eUn op f) σ H Q) : tDE T τ W f σ H fun x H1 => r x H1 Q := by
  obtain ⟨G, A, s, w, os, p⟩ := F_bind kE_step (g := fun d => opt (op d)) h
  refine ⟨G, A, s, w, os, ?_⟩
  cases e : f s with
  | no => rw [e] at p; exact p
  | er x s1 => rw [e] at p; exact p
  | ok o s1 =>
    rw [e] at p
    intro v G1' H1 A1' B1' z os1 ow1
    obtain ⟨G1, A1, d1, s4, w4, os4, dn1, p4⟩ := p v G1' H1 A1' B1' z os1 ow1
    obtain ⟨o, e5, p5⟩ := opt_ok p4
    exact hv w4.ex dn1 e5 fun z G' H' B st ow => finV w4 os4 p5 st ow
theorem de_bin {bop : Operator} {r : R2} {op : D → D → Option O} (ho : OpR X (binaryOp bop) r) (hv : OpV T r op) (ha : PE X a (tDE T τ W f)) (hb : PE X b (tDE T τ W g)) : PE X (.BinOp a bop b pos) (tDE T τ W (eBin op f g)) :=
  (pe_op ho ha hb).weak fun _ _ _ h => tr_bin hv h
theorem de_cmp {cop : CmpOp} {r : R2} {op : D → D → Option O} (ho : OpR X (compareOp cop) r) (hv : OpV T r op) (ha : PE X a (tDE T τ W f)) (hb : PE X b (tDE T τ W g)) (hm : behindInMarks cop b = false := by first | exact nomark _ | rfl) : PE X (.Compare a [cop] [b] pos) (tDE T τ W (eBin op f g)) :=
  (pe_cmpR ho ha hb hm).weak fun _ _ _ h => tr_bin hv h
theorem de_un {uop : UnaryOp} {r : V → Hp → VK → Prop} {op : D → Option O} (ho : UnR X (unaryOp uop) r) (hv : UnV T r op) (ha : PE X a (tDE T τ W f)) : PE X (.UnaryOp uop a pos) (tDE T τ W (eUn op f)) :=
  (pe_un ho ha).weak fun _ _ _ h => tr_un hv h
end

/-! ### names, constants -/
def eVar (i : Nat) : M O := fun s => match s[i]? with
  | some (some (.fr d)) => .ok (.fr d) s
  | _ => .no
def eC (d : D) : M O := ret (.fr d)
section
variable {T : Tab} {τ : Th} {W : WX} {X : Cx} {pos : Pos}
theorem OwnS.get {σ : L2.St} {G H : Hp} : ∀ {s : S} {A : List Addr} {i : Nat} {o : O} {σ : L2.St}, OwnS T G H τ σ s A → s[i]? = some (some o) → ∃ (v : V) (B C : List Addr), σ[i]? = some (some v) ∧ Own T G H v o B ∧ (∀ a ∈ B, a ∈ A)
  | _, _, _, _, _, .nil, h => by simp at h
  | _, _, 0, _, _, .un _, h => by simp at h
  | _, _, i + 1, _, _, .un l, h => by
    obtain ⟨v, B, C, a, b, c⟩ := l.get (σ := σ) (i := i) (by simpa using h)
    exact ⟨v, B, C, by simpa using a, b, c⟩
  | _, _, 0, _, _, .cons _ h l, e => by
    simp at e; subst e
    exact ⟨_, _, [], by simp, h, fun a ha => List.mem_append_left _ ha⟩
  | _, _, i + 1, _, _, .cons _ h l, e => by
    obtain ⟨v, B, C, a, b, c⟩ := l.get (σ := σ) (i := i) (by simpa using e)
    exact ⟨v, B, C, by simpa using a, b, fun a ha => List.mem_append_right _ (c a ha)⟩
theorem de_var (i : Nat) {x : Str} (hN : X.N[i]? = some x := by rfl) (hv : Vis X.env.scope x := by first | exact Or.inl rfl | exact Or.inr (Or.inl rfl) | exact Or.inr (Or.inr rfl)) (hd : (x == ("__debug__" : Str)) = false := by decide) (hcd : (x == ("__classdict__" : Str)) = false := by decide) :
    PE X (.Name x pos) (tDE T τ W (eVar i)) := (pe_var (i := i) hN hv hd hcd).weak fun σ H Q ⟨G, A, s, w, os, p⟩ => by
  unfold eVar at p
  cases e : s[i]? with
  | none => rw [e] at p; exact p.elim
  | some u =>
    cases u with
    | none => rw [e] at p; exact p.elim
    | some o =>
      cases o with
      | fr d =>
        rw [e] at p
        obtain ⟨v, B, C, a, b, c⟩ := os.get (σ := σ) e
        cases b with
        | fr h => exact ⟨v, a, p v G H A [] (by rw [List.append_nil]; exact Stp.refl w) os (.fr h)⟩
      | lst t os => rw [e] at p; exact p.elim
      | dk t ks ds => rw [e] at p; exact p.elim
      | dt t ks ds => rw [e] at p; exact p.elim
      | ins t c fs ds => rw [e] at p; exact p.elim
      | hd t => rw [e] at p; exact p.elim
theorem post_c {v : V} {d : D} {σ : L2.St} {H : Hp} {Q : VK} (hd : ∀ G, Dn T G v d) (h : tDE T τ W (eC d) σ H Q) : Q v H := by
  obtain ⟨G, A, s, w, os, p⟩ := h
  exact p v G H A [] (by rw [List.append_nil]; exact Stp.refl w) os (.fr (hd G))
theorem de_int {i : Int} {j : Nat} : PE X (.Constant (.int i) j pos) (tDE T τ W (eC (.int i))) := pe_int.weak fun _ _ _ h => post_c (fun _ => .int i) h
theorem de_bl {b : Bool} {j : Nat} : PE X (.Constant (.bool b) j pos) (tDE T τ W (eC (.bl b))) := pe_bl.weak fun _ _ _ h => post_c (fun _ => .bl b) h
theorem de_non {j : Nat} : PE X (.Constant .none j pos) (tDE T τ W (eC .non)) := pe_non.weak fun _ _ _ h => post_c (fun _ => .non) h
theorem de_str {x : Str} {j : Nat} : PE X (.Constant (.str x) j pos) (tDE T τ W (eC (.str x))) := pe_str.weak fun _ _ _ h => post_c (fun _ => .str x) h
end
end DF
end

section
set_option maxRecDepth 100000
set_option maxHeartbeats 4000000
namespace DF
open PySem PySem.Spec PyProof.Rows L2

theorem hu65 {A : Around} {k : Nat} (hr : Room k A) : A.units + 65 < cLine := by have := hr.un; omega
theorem hu64 {A : Around} {k : Nat} (hr : Room k A) : A.units + 64 < cLine := by have := hr.un; omega
theorem hu1 {A : Around} {k : Nat} (hr : Room k A) : A.units + 1 < cLine := by have := hr.un; omega
theorem hu0 {A : Around} {k : Nat} (hr : Room k A) : A.units < cLine := by have := hr.un; omega

/-! ### equality -/
mutual
def toPy : D → PyData
  | .non => .none
  | .bl b => .bool b
  | .int i => .int i
  | .str s => .str s
  | .tup ds => .tuple (toPyL ds)
  | .lst ds => .list (toPyL ds)
  | _ => .none
def toPyL : List D → List PyData
  | [] => []
  | d :: ds => toPy d :: toPyL ds
end
mutual
/-- may be compared: depth at most n -/
def okE : Nat → D → Bool
  | _, .non => true
  | _, .bl _ => true
  | _, .int _ => true
  | _, .str s => PyData.strOk s
  | n + 1, .tup ds => okEL n ds
  | n + 1, .lst ds => okEL n ds
  | _, _ => false
def okEL : Nat → List D → Bool
  | _, [] => true
  | n, d :: ds => okE n d && okEL n ds
end
def b2 (b : Bool) : Int := if b then 1 else 0
mutual
def deq : D → D → Bool
  | .non, .non => true
  | .bl a, .bl b => a == b
  | .bl a, .int j => b2 a == j
  | .int i, .bl b => i == b2 b
  | .int i, .int j => i == j
  | .str x, .str y => x == y
  | .lst xs, .lst ys => deqL xs ys
  | .tup xs, .tup ys => deqL xs ys
  | _, _ => false
def deqL : List D → List D → Bool
  | [], [] => true
  | x :: xs, y :: ys => deq x y && deqL xs ys
  | _, _ => false
end
mutual
theorem okE_ok : ∀ (n : Nat) (d : D), okE n d = true → (toPy d).canLay0 = true ∧ (toPy d).depth ≤ n + 1
  | _, .non, _ => by simp [toPy, PyData.canLay0, PyData.depth]
  | _, .bl _, _ => by simp [toPy, PyData.canLay0, PyData.depth]
  | _, .int _, _ => by simp [toPy, PyData.canLay0, PyData.depth]
  | n, .str s, h => by
    have h' : PyData.strOk s = true := by cases n <;> exact h
    simp [toPy, PyData.canLay0, PyData.depth, h']
  | 0, .tup _, h => nomatch h
  | 0, .lst _, h => nomatch h
  | n + 1, .tup ds, h => by
    have := okEL_ok n ds h
    simp only [toPy, PyData.canLay0, PyData.depth]; exact ⟨this.1, by omega⟩
  | n + 1, .lst ds, h => by
    have := okEL_ok n ds h
    simp only [toPy, PyData.canLay0, PyData.depth]; exact ⟨this.1, by omega⟩
  | 0, .dk _ _, h => nomatch h
  | 0, .rol _, h => nomatch h
  | 0, .ty _, h => nomatch h
  | 0, .cl _, h => nomatch h
  | _ + 1, .rol _, h => nomatch h
  | _ + 1, .ty _, h => nomatch h
  | _ + 1, .cl _, h => nomatch h
  | 0, .dt _ _, h => nomatch h
  | 0, .ins _ _ _, h => nomatch h
  | _ + 1, .dk _ _, h => nomatch h
  | _ + 1, .dt _ _, h => nomatch h
  | _ + 1, .ins _ _ _, h => nomatch h
theorem okEL_ok : ∀ (n : Nat) (ds : List D), okEL n ds = true → PyData.canLayAll0 (toPyL ds) = true ∧ PyData.depthAll (toPyL ds) ≤ n + 1
  | n, [], _ => by simp [toPyL, PyData.canLayAll0, PyData.depthAll]
  | n, d :: ds, h => by
    have h' : (okE n d && okEL n ds) = true := by cases n <;> exact h
    obtain ⟨h1, h2⟩ := Bool.and_eq_true_iff.mp h'
    have a := okE_ok n d h1
    have b := okEL_ok n ds h2
    simp only [toPyL, PyData.canLayAll0, PyData.depthAll, a.1, b.1, Bool.and_self, true_and]
    omega
end
theorem okE_shaped {n : Nat} {d : D} (hn : n ≤ 60) (h : okE n d = true) : SeqAt.shaped (toPy d) = true := by
  obtain ⟨a, b⟩ := okE_ok n d h
  unfold SeqAt.shaped
  rw [a, Bool.true_and]; exact decide_eq_true (by omega)
mutual
theorem deq_py : ∀ (n m : Nat) (a b : D), okE n a = true → okE m b = true → PyData.eqv (toPy a) (toPy b) = deq a b
  | n, m, .tup xs, .tup ys, h, h' => by
    cases n with
    | zero => exact nomatch h
    | succ n =>
      cases m with
      | zero => exact nomatch h'
      | succ m => simp only [toPy, PyData.eqv, deq]; exact deqL_py n m xs ys h h'
  | n, m, .lst xs, .lst ys, h, h' => by
    cases n with
    | zero => exact nomatch h
    | succ n =>
      cases m with
      | zero => exact nomatch h'
      | succ m => simp only [toPy, PyData.eqv, deq]; exact deqL_py n m xs ys h h'
  | n, m, .dk _ _, _, h, _ => by cases n <;> exact nomatch h
  | n, m, .rol _, _, h, _ => by cases n <;> exact nomatch h
  | n, m, .ty _, _, h, _ => by cases n <;> exact nomatch h
  | n, m, .cl _, _, h, _ => by cases n <;> exact nomatch h
  | n, m, _, .rol _, _, h => by cases m <;> exact nomatch h
  | n, m, _, .ty _, _, h => by cases m <;> exact nomatch h
  | n, m, _, .cl _, _, h => by cases m <;> exact nomatch h
  | n, m, .dt _ _, _, h, _ => by cases n <;> exact nomatch h
  | n, m, .ins _ _ _, _, h, _ => by cases n <;> exact nomatch h
  | n, m, _, .dk _ _, _, h => by cases m <;> exact nomatch h
  | n, m, _, .dt _ _, _, h => by cases m <;> exact nomatch h
  | n, m, _, .ins _ _ _, _, h => by cases m <;> exact nomatch h
  | _, _, .non, .non, _, _ => rfl
  | _, _, .non, .bl _, _, _ => rfl
  | _, _, .non, .int _, _, _ => rfl
  | _, _, .non, .str _, _, _ => rfl
  | _, _, .non, .tup _, _, _ => rfl
  | _, _, .non, .lst _, _, _ => rfl
  | _, _, .bl _, .non, _, _ => rfl
  | _, _, .bl _, .bl _, _, _ => rfl
  | _, _, .bl _, .int _, _, _ => rfl
  | _, _, .bl _, .str _, _, _ => rfl
  | _, _, .bl _, .tup _, _, _ => rfl
  | _, _, .bl _, .lst _, _, _ => rfl
  | _, _, .int _, .non, _, _ => rfl
  | _, _, .int _, .bl _, _, _ => rfl
  | _, _, .int _, .int _, _, _ => rfl
  | _, _, .int _, .str _, _, _ => rfl
  | _, _, .int _, .tup _, _, _ => rfl
  | _, _, .int _, .lst _, _, _ => rfl
  | _, _, .str _, .non, _, _ => rfl
  | _, _, .str _, .bl _, _, _ => rfl
  | _, _, .str _, .int _, _, _ => rfl
  | _, _, .str _, .str _, _, _ => rfl
  | _, _, .str _, .tup _, _, _ => rfl
  | _, _, .str _, .lst _, _, _ => rfl
  | _, _, .tup _, .non, _, _ => rfl
  | _, _, .tup _, .bl _, _, _ => rfl
  | _, _, .tup _, .int _, _, _ => rfl
  | _, _, .tup _, .str _, _, _ => rfl
  | _, _, .tup _, .lst _, _, _ => rfl
  | _, _, .lst _, .non, _, _ => rfl
  | _, _, .lst _, .bl _, _, _ => rfl
  | _, _, .lst _, .int _, _, _ => rfl
  | _, _, .lst _, .str _, _, _ => rfl
  | _, _, .lst _, .tup _, _, _ => rfl
theorem deqL_py : ∀ (n m : Nat) (a b : List D), okEL n a = true → okEL m b = true → PyData.eqvAll (toPyL a) (toPyL b) = deqL a b
  | _, _, [], [], _, _ => rfl
  | _, _, [], _ :: _, _, _ => rfl
  | _, _, _ :: _, [], _, _ => rfl
  | n, m, x :: xs, y :: ys, h, h' => by
    have h1 : (okE n x && okEL n xs) = true := by cases n <;> exact h
    have h2 : (okE m y && okEL m ys) = true := by cases m <;> exact h'
    obtain ⟨a, b⟩ := Bool.and_eq_true_iff.mp h1
    obtain ⟨c, d⟩ := Bool.and_eq_true_iff.mp h2
    simp only [toPyL, PyData.eqvAll, deqL, deq_py n m x y a c, deqL_py n m xs ys b d]
end
section
variable {T : Tab} {G : Hp}
mutual
theorem Dn.dp : ∀ {n : Nat} {d : D} {v : V}, okE n d = true → Dn T G v d → Dp T.K G v (toPy d)
  | _, _, _, _, .non => .non
  | _, _, _, _, .bl b => .bl b
  | _, _, _, _, .int b => .int b
  | _, _, _, _, .str b => .str b
  | 0, _, _, h, .tup _ _ => nomatch h
  | 0, _, _, h, .tupE _ => nomatch h
  | 0, _, _, h, .lst _ _ => nomatch h
  | _ + 1, _, _, h, .tup a l => .tup (.of a) (DnL.dp h l)
  | _ + 1, _, _, h, .tupE a => .tup a .nil
  | _ + 1, _, _, h, .lst a l => .lst (.of a) (DnL.dp h l)
  | n, _, _, h, .rol _ _ => by cases n <;> exact nomatch h
  | n, _, _, h, .ty _ => by cases n <;> exact nomatch h
  | n, _, _, h, .cl _ => by cases n <;> exact nomatch h
  | n, _, _, h, .dk _ _ => by cases n <;> exact nomatch h
  | n, _, _, h, .dt _ _ => by cases n <;> exact nomatch h
  | n, _, _, h, .ins _ _ _ => by cases n <;> exact nomatch h
theorem DnL.dp : ∀ {n : Nat} {ds : List D} {vs : List V}, okEL n ds = true → DnL T G vs ds → DpAll T.K G vs (toPyL ds)
  | _, [], _, _, .nil => .nil
  | n, d :: ds, _, h, .cons a l => by
    have h' : (okE n d && okEL n ds) = true := by cases n <;> exact h
    obtain ⟨h1, h2⟩ := Bool.and_eq_true_iff.mp h'
    exact .cons (Dn.dp h1 a) (DnL.dp h2 l)
end
mutual
theorem dp_mono {K : PySem.W.Frag} {H H' : Hp} (e : Ex H H') : ∀ {v : V} {d : PyData}, Dp K H v d → Dp K H' v d
  | _, _, .non => .non
  | _, _, .bl b => .bl b
  | _, _, .int b => .int b
  | _, _, .str b => .str b
  | _, _, .lst a l => .lst (ex_l e a) (dpAll_mono e l)
  | _, _, .tup a l => .tup (ex_t e a) (dpAll_mono e l)
theorem dpAll_mono {K : PySem.W.Frag} {H H' : Hp} (e : Ex H H') : ∀ {v : List V} {d : List PyData}, DpAll K H v d → DpAll K H' v d
  | _, _, .nil => .nil
  | _, _, .cons a l => .cons (dp_mono e a) (dpAll_mono e l)
end
end
theorem toPyL_map (ds : List D) : toPyL ds = ds.map toPy := by
  induction ds with
  | nil => rfl
  | cons d ds ih => simp only [toPyL, List.map_cons, ih]
theorem any_deq {n m : Nat} {d : D} (hd : okE m d = true) : ∀ {ds : List D}, okEL n ds = true → ((toPyL ds).any fun z => PyData.eqv z (toPy d)) = ds.any fun z => deq z d
  | [], _ => rfl
  | x :: xs, h => by
    have h1 : (okE n x && okEL n xs) = true := by cases n <;> exact h
    obtain ⟨a, b⟩ := Bool.and_eq_true_iff.mp h1
    simp only [toPyL, List.any_cons, deq_py n m x d a hd, any_deq hd b]

/-- k is among the keys -/
def hasK {κ : Type} [DecidableEq κ] (ks : List κ) (k : κ) : Bool := ks.any fun x => decide (x = k)
def dEq (neg : Bool) (a b : D) : Option O := if okE 16 a && okE 16 b then some (.fr (.bl (deq a b != neg))) else none
def dIn (neg : Bool) (a b : D) : Option O := match b with
  | .lst ds => if okE 16 a && okEL 16 ds then some (.fr (.bl ((ds.any fun z => deq z a) != neg))) else none
  | .tup ds => if okE 16 a && okEL 16 ds then some (.fr (.bl ((ds.any fun z => deq z a) != neg))) else none
  | .dk ks _ => match a with
    | .int i => some (.fr (.bl (hasK ks (Sum.inl i) != neg)))
    | .str i => some (.fr (.bl (hasK ks (Sum.inr i) != neg)))
    | _ => none
  | .dt ks _ => match a with
    | .tup (e :: es) => match keyL (e :: es) with
      | some k => some (.fr (.bl (hasK ks k != neg)))
      | none => none
    | _ => none
  | _ => none
where
  keyL : List D → Option (List Key)
  | [] => some []
  | .int i :: r => (keyL r).map (Sum.inl i :: ·)
  | .str i :: r => (keyL r).map (Sum.inr i :: ·)
  | _ :: _ => none
abbrev keyL := dIn.keyL
theorem keyL_vs {T : Tab} {G : Hp} : ∀ {ds : List D} {k : List Key} {vs : List V}, keyL ds = some k → DnL T G vs ds → vs = k.map kV
  | [], _, _, h, .nil => by cases h; rfl
  | d :: ds, k, _, h, .cons a l => by
    cases a with
    | int i =>
      unfold keyL dIn.keyL at h
      cases e : dIn.keyL ds with
      | none => rw [e] at h; cases h
      | some k' => rw [e] at h; cases h; rw [keyL_vs e l]; rfl
    | str i =>
      unfold keyL dIn.keyL at h
      cases e : dIn.keyL ds with
      | none => rw [e] at h; cases h
      | some k' => rw [e] at h; cases h; rw [keyL_vs e l]; rfl
    | non => cases h
    | bl b => cases h
    | _ => cases h
section
variable {T : Tab} {τ : Th} {X : Cx}
theorem xor_f (b : Bool) : (b != false) = b := by cases b <;> rfl
theorem xor_t (b : Bool) : (b != true) = !b := by cases b <;> rfl
theorem ov_eq (hK : T.K = X.K) : OpV T (rEqD X.K) (dEq false) := by
  intro G H v w d e o Q ex hd he h k
  unfold dEq at h
  split at h
  · rename_i c
    obtain ⟨c1, c2⟩ := Bool.and_eq_true_iff.mp c
    cases h
    refine ⟨toPy d, toPy e, hK ▸ dp_mono ex (hd.dp c1), hK ▸ dp_mono ex (he.dp c2), okE_shaped (by decide) c1, okE_shaped (by decide) c2, ?_⟩
    rw [deq_py 16 16 d e c1 c2]
    have q := k (.bl (deq d e)) G H [] (Stp.nil ex) (.fr (by rw [xor_f]; exact .bl _))
    exact q
  · cases h
theorem ov_ne (hK : T.K = X.K) : OpV T (rNeD X.K) (dEq true) := by
  intro G H v w d e o Q ex hd he h k
  unfold dEq at h
  split at h
  · rename_i c
    obtain ⟨c1, c2⟩ := Bool.and_eq_true_iff.mp c
    cases h
    refine ⟨toPy d, toPy e, hK ▸ dp_mono ex (hd.dp c1), hK ▸ dp_mono ex (he.dp c2), okE_shaped (by decide) c1, okE_shaped (by decide) c2, ?_⟩
    rw [deq_py 16 16 d e c1 c2]
    exact k (.bl (!deq d e)) G H [] (Stp.nil ex) (.fr (by rw [xor_t]; exact .bl _))
  · cases h
/-- x in y, for every kind of y -/
def rInA (K : PySem.W.Frag) (neg : Bool) : R2 := fun x y H Q =>
  (∃ d ds, Dp K H x d ∧ (Dp K H y (.list ds) ∨ Dp K H y (.tuple ds)) ∧ SeqAt.shaped d = true ∧ PyData.canLayAll0 ds = true ∧ Q (.bl ((ds.any fun z => PyData.eqv z d) != neg)) H) ∨
  ∃ (a : Addr) (o : Option V), y = .ref a ∧ DGet H a x o ∧ Q (.bl (o.isSome != neg)) H
theorem op_inA {k : Nat} (hr : Room k X.A) : OpR X (compareOp .In) (rInA X.K false) := by
  intro pins s σ H x y v u Q I rx ry h
  rcases h with ⟨d, ds, hd, he, sd, se, q⟩ | ⟨a, o, ey, g, q⟩
  · rw [xor_f] at q
    obtain ⟨as, r1⟩ := Dp.reads I d x v hd rx
    rcases he with he | he
    · obtain ⟨bs, r2⟩ := Dp.reads I (.list ds) y u he ry
      exact SeqAt.in_list_reads r2 r1 se (SeqAt.canLay_of_shaped sd) (room_in_shaped sd (hu65 hr)) ⟨.bl _, H, I, rfl, q⟩
    · obtain ⟨bs, r2⟩ := Dp.reads I (.tuple ds) y u he ry
      exact SeqAt.in_tuple_reads r2 r1 se (SeqAt.canLay_of_shaped sd) (room_in_shaped sd (hu65 hr)) ⟨.bl _, H, I, rfl, q⟩
  · subst ey
    obtain rfl : u = Value.ref a := ry
    rw [xor_f] at q
    exact d_in (hu1 hr) I g rx fun s3 I3 => ⟨.bl o.isSome, H, I3, rfl, q⟩
theorem op_ninA {k : Nat} (hr : Room k X.A) : OpR X (compareOp .NotIn) (rInA X.K true) := by
  intro pins s σ H x y v u Q I rx ry h
  rcases h with ⟨d, ds, hd, he, sd, se, q⟩ | ⟨a, o, ey, g, q⟩
  · rw [xor_t] at q
    obtain ⟨as, r1⟩ := Dp.reads I d x v hd rx
    rcases he with he | he
    · obtain ⟨bs, r2⟩ := Dp.reads I (.list ds) y u he ry
      exact SeqAt.notIn_list_reads r2 r1 se (SeqAt.canLay_of_shaped sd) (room_in_shaped sd (hu65 hr)) ⟨.bl _, H, I, rfl, q⟩
    · obtain ⟨bs, r2⟩ := Dp.reads I (.tuple ds) y u he ry
      exact SeqAt.notIn_tuple_reads r2 r1 se (SeqAt.canLay_of_shaped sd) (room_in_shaped sd (hu65 hr)) ⟨.bl _, H, I, rfl, q⟩
  · subst ey
    obtain rfl : u = Value.ref a := ry
    rw [xor_t] at q
    exact d_notIn (hu1 hr) I g rx fun s3 I3 => ⟨.bl _, H, I3, rfl, q⟩
theorem valV_some {κ : Type} [DecidableEq κ] (kvs : List (κ × V)) (k : κ) : (valV kvs k).isSome = hasK (kvs.map Prod.fst) k := by
  unfold valV hasK
  rw [Option.isSome_map]
  induction kvs with
  | nil => rfl
  | cons p r ih =>
    rw [List.find?_cons, List.map_cons, List.any_cons]
    cases e : decide (p.1 = k) with
    | true => rfl
    | false => rw [Bool.false_or]; exact ih
theorem ov_in (neg : Bool) (hK : T.K = X.K) : OpV T (rInA X.K neg) (dIn neg) := by
  intro G H v w d e o Q ex hd he h k
  have K : T.K = X.K := hK
  cases he with
  | lst a l =>
    rename_i ad vs ds
    simp only [dIn] at h
    split at h
    · rename_i c
      obtain ⟨c1, c2⟩ := Bool.and_eq_true_iff.mp c
      cases h
      refine .inl ⟨toPy d, toPyL ds, hK ▸ dp_mono ex (hd.dp c1), .inl (hK ▸ dp_mono ex (.lst (.of a) (l.dp c2))), okE_shaped (by decide) c1, (okEL_ok 16 _ c2).1, ?_⟩
      rw [any_deq c1 c2]
      exact k (.bl _) G H [] (Stp.nil ex) (.fr (.bl _))
    · cases h
  | tup a l =>
    rename_i ad vs ds
    simp only [dIn] at h
    split at h
    · rename_i c
      obtain ⟨c1, c2⟩ := Bool.and_eq_true_iff.mp c
      cases h
      refine .inl ⟨toPy d, toPyL ds, hK ▸ dp_mono ex (hd.dp c1), .inr (hK ▸ dp_mono ex (.tup (.of a) (l.dp c2))), okE_shaped (by decide) c1, (okEL_ok 16 _ c2).1, ?_⟩
      rw [any_deq c1 c2]
      exact k (.bl _) G H [] (Stp.nil ex) (.fr (.bl _))
    · cases h
  | tupE a =>
    simp only [dIn] at h
    split at h
    · rename_i c
      obtain ⟨c1, c2⟩ := Bool.and_eq_true_iff.mp c
      cases h
      refine .inl ⟨toPy d, [], hK ▸ dp_mono ex (hd.dp c1), .inr (hK ▸ dp_mono ex (.tup a .nil)), okE_shaped (by decide) c1, rfl, ?_⟩
      exact k (.bl _) G H [] (Stp.nil ex) (.fr (.bl _))
    · cases h
  | dk a l =>
    rename_i ad kvs ds
    simp only [dIn] at h
    cases hd with
    | int i =>
      cases h
      refine .inr ⟨ad, _, rfl, .inl ⟨kvs, Sum.inl i, .inl (ex _ _ a), rfl, rfl⟩, ?_⟩
      rw [valV_some]
      exact k (.bl _) G H [] (Stp.nil ex) (.fr (.bl _))
    | str i =>
      cases h
      refine .inr ⟨ad, _, rfl, .inl ⟨kvs, Sum.inr i, .inl (ex _ _ a), rfl, rfl⟩, ?_⟩
      rw [valV_some]
      exact k (.bl _) G H [] (Stp.nil ex) (.fr (.bl _))
    | _ => cases h
  | dt a l =>
    rename_i ad kvs ds
    simp only [dIn] at h
    cases hd with
    | tup b m =>
      rename_i bd ws es
      cases m with
      | nil => cases h
      | cons m1 m2 =>
        simp only at h
        split at h
        · rename_i ky e
          cases h
          have ew := keyL_vs (T := T) (G := G) e (.cons m1 m2)
          refine .inr ⟨ad, _, rfl, .inr ⟨kvs, ky, bd, .inl (ex _ _ a), rfl, by rw [← ew]; exact ex _ _ b, rfl⟩, ?_⟩
          rw [valV_some]
          exact k (.bl _) G H [] (Stp.nil ex) (.fr (.bl _))
        · cases h
    | _ => cases h
  | _ => cases h
end
end DF
end

section
set_option maxRecDepth 100000
set_option maxHeartbeats 4000000
namespace DF
open PySem PySem.Spec PyProof.Rows L2

/-- a new list of frozen items -/
def nl (ds : List D) : O := .lst 1 (ds.map .fr)
theorem fz_nl (ds : List D) : fz (nl ds) = .lst ds := by unfold nl; rw [fz, fzL_fr]
theorem big {n : Nat} (h : n ≤ 100000) : n ≤ sizeLine := Nat.le_trans h (by decide)
theorem bigl {n : Nat} (h : n < 100000) : n < sizeLine := Nat.lt_of_lt_of_le h (by decide)
section
variable {T : Tab} {τ : Th} {X : Cx} {G H : Hp} {Q : VK}
theorem free_up {p : Addr} (e : Ex G H) (h : H p = none) : G p = none := by
  cases q : G p with
  | none => rfl
  | some o => rw [e p o q] at h; cases h
/-- a new object, owned -/
theorem Stp.newO {p : Addr} {o : HO} (ex : Ex G H) (hp : H p = none) : Stp hE G H [] G (upd H p o) [p] := by
  refine ⟨⟨ex.trans (.new hp), by simp, fun a h => ?_, fun a h => ?_, exE _⟩, Ex.refl G, fun a u e _ => Ex.new hp a u e, fun a u e n => ?_, fun a h => ?_⟩
  · rw [List.mem_singleton.mp h]; exact free_up ex hp
  · rw [List.mem_singleton.mp h]; exact ⟨o, upd_same⟩
  · rw [n] at e; cases e
  · rw [List.mem_singleton.mp h]; exact .inr hp
/-- a new object, frozen -/
theorem Stp.newF {p : Addr} {o : HO} (ex : Ex G H) (hp : H p = none) : Stp hE G H [] (upd G p o) (upd H p o) [] := by
  have gp := free_up ex hp
  refine ⟨⟨fun a u e => ?_, List.nodup_nil, fun a h => (nomatch h), fun a h => (nomatch h), exE _⟩, .new gp, fun a u e _ => Ex.new hp a u e, fun a u e n => ?_, fun a h => nomatch h⟩
  · by_cases ha : a = p
    · subst ha; rw [upd_same] at e ⊢; exact e
    · rw [upd_ne ha] at e ⊢; exact ex a u e
  · by_cases ha : a = p
    · subst ha; exact .inr hp
    · rw [upd_ne ha, n] at e; cases e
theorem own_nl {p : Addr} {vs : List V} {ds : List D} (h : H p = some (.lst vs)) (l : DnL T G vs ds) : Own T G H (.ref p) (nl ds) [p] := .lst h (ownL_fr l)
/-- the end at a new list -/
theorem go_nl {vs : List V} {ds : List D} (ex : Ex G H) (l : DnL T G vs ds) (k : ∀ (z : V) (G' H' : Hp) (B : List Addr), Stp hE G H [] G' H' B → Own T G' H' z (nl ds) B → Q z H') {p : Addr} (hp : H p = none) : Q (.ref p) (upd H p (.lst vs)) :=
  k _ G _ [p] (.newO ex hp) (own_nl upd_same l)
theorem go_tup {vs : List V} {ds : List D} (ex : Ex G H) (l : DnL T G vs ds) (k : ∀ (z : V) (G' H' : Hp) (B : List Addr), Stp hE G H [] G' H' B → Own T G' H' z (.fr (.tup ds)) B → Q z H') {p : Addr} (hp : H p = none) : Q (.ref p) (upd H p (.tup vs)) :=
  k _ _ _ [] (.newF ex hp) (.fr (.tup upd_same (l.mono (.new (free_up ex hp)))))
theorem go_same {v : V} {d : D} (ex : Ex G H) (h : Dn T G v d) (k : ∀ (z : V) (G' H' : Hp) (B : List Addr), Stp hE G H [] G' H' B → Own T G' H' z (.fr d) B → Q z H') : Q v H := k v G H [] (Stp.nil ex) (.fr h)
end

/-! ### arithmetic -/
def dAdd : D → D → Option O
  | .int i, .int j => some (.fr (.int (i + j)))
  | .str a, .str b => if a.length + b.length ≤ 100000 then some (.fr (.str (a ++ b))) else none
  | .lst xs, .lst ys => if xs.length + ys.length ≤ 100000 then some (nl (xs ++ ys)) else none
  | .tup xs, .tup ys => if xs.length + ys.length ≤ 100000 then some (.fr (.tup (xs ++ ys))) else none
  | _, _ => none
def rAddA (K : PySem.W.Frag) : R2 := fun x y H Q => (rI0 fun i j => .int (i + j)) x y H Q ∨ (∃ i j, x = .str i ∧ y = .str j ∧ i.length + j.length ≤ sizeLine ∧ Q (.str (i ++ j)) H) ∨ rCat x y H Q ∨ rCatA K x y H Q
theorem op_addA {X : Cx} : OpR X (binaryOp .Add) (rAddA X.K) := op_add.or (op_add_str.or (op_cat.or op_catA))
section
variable {T : Tab} {τ : Th} {X : Cx}
theorem ov_add (hK : T.K = X.K) : OpV T (rAddA X.K) dAdd := by
  intro G H v w d e o Q ex hd he h k
  cases d with
  | int i =>
    cases e with
    | int j => cases hd; cases he; cases h; exact .inl ⟨i, j, rfl, rfl, go_same ex (.int _) k⟩
    | _ => cases h
  | str a =>
    cases e with
    | str b =>
      cases hd; cases he
      simp only [dAdd] at h
      split at h
      · rename_i c; cases h; exact .inr (.inl ⟨a, b, rfl, rfl, big c, go_same ex (.str _) k⟩)
      · cases h
    | _ => cases h
  | lst xs =>
    cases e with
    | lst ys =>
      obtain ⟨a, vs, rfl, ha, la⟩ := hd.sqL
      obtain ⟨b, ws, rfl, hb, lb⟩ := he.sqL
      simp only [dAdd] at h
      split at h
      · rename_i c
        cases h
        exact .inr (.inr (.inl ⟨a, b, vs, ws, rfl, rfl, ex _ _ ha, ex _ _ hb, by rw [la.len, lb.len]; exact big c, fun p hp => go_nl ex (la.append lb) k hp⟩))
      · cases h
    | _ => cases h
  | tup xs =>
    cases e with
    | tup ys =>
      obtain ⟨a, vs, rfl, ha, la, _⟩ := hd.sqT
      obtain ⟨b, ws, rfl, hb, lb, _⟩ := he.sqT
      simp only [dAdd] at h
      split at h
      · rename_i c
        cases h
        refine .inr (.inr (.inr ⟨a, b, vs, ws, rfl, rfl, hK ▸ ex_t ex ha, hK ▸ ex_t ex hb, by rw [la.len, lb.len]; exact big c, fun z => ?_, fun z1 z2 => ?_, fun _ _ p hp => go_tup ex (la.append lb) k hp⟩))
        · subst z
          cases la
          exact go_same ex he k
        · subst z2
          cases lb
          refine go_same ex ?_ k
          rw [List.append_nil]; exact hd
      · cases h
    | _ => cases h
  | _ => cases h
def dSub : D → D → Option O
  | .int i, .int j => some (.fr (.int (i - j)))
  | _, _ => none
theorem ov_sub : OpV T (rI0 fun i j => .int (i - j)) dSub := by
  intro G H v w d e o Q ex hd he h k
  cases d with
  | int i =>
    cases e with
    | int j => cases hd; cases he; cases h; exact ⟨i, j, rfl, rfl, go_same ex (.int _) k⟩
    | _ => cases h
  | _ => cases h
def okMul (i j : Int) : Bool := decide (-(2 ^ 64) < i ∧ i < 2 ^ 64) || decide (-(2 ^ 64) < j ∧ j < 2 ^ 64)
def dMul : D → D → Option O
  | .int i, .int j => if okMul i j then some (.fr (.int (i * j))) else none
  | .lst xs, .int k => if xs.length * k.toNat ≤ 100000 ∧ -(2 ^ 63) ≤ k ∧ k < 2 ^ 63 then some (nl (List.replicate k.toNat xs).flatten) else none
  | _, _ => none
def rMulA : R2 := fun x y H Q => (rI CMul fun i j => .int (i * j)) x y H Q ∨ rRep x y H Q
theorem op_mulA {X : Cx} : OpR X (binaryOp .Mult) rMulA := op_mul.or op_rep
theorem ov_mul : OpV T rMulA dMul := by
  intro G H v w d e o Q ex hd he h k
  cases d with
  | int i =>
    cases e with
    | int j =>
      cases hd; cases he
      simp only [dMul] at h
      split at h
      · rename_i c
        cases h
        refine .inl ⟨i, j, rfl, rfl, ?_, go_same ex (.int _) k⟩
        rcases Bool.or_eq_true_iff.mp c with c | c
        · exact .inl (of_decide_eq_true c)
        · exact .inr (of_decide_eq_true c)
      · cases h
    | _ => cases h
  | lst xs =>
    cases e with
    | int j =>
      cases he
      obtain ⟨a, vs, rfl, ha, la⟩ := hd.sqL
      simp only [dMul] at h
      split at h
      · rename_i c
        cases h
        exact .inr ⟨a, j, vs, rfl, rfl, ex _ _ ha, c.2.1, c.2.2, by rw [la.len]; exact big c.1, fun p hp => go_nl ex (la.rep _) k hp⟩
      · cases h
    | _ => cases h
  | _ => cases h
def dFdiv : D → D → Option O
  | .int i, .int j => if 0 < j ∧ j < 1073741824 then some (.fr (.int (i / j))) else none
  | _, _ => none
theorem ov_fdiv : OpV T (rI CDiv fun i j => .int (i / j)) dFdiv := by
  intro G H v w d e o Q ex hd he h k
  cases d with
  | int i =>
    cases e with
    | int j =>
      cases hd; cases he
      simp only [dFdiv] at h
      split at h
      · rename_i c; cases h; exact ⟨i, j, rfl, rfl, c, go_same ex (.int _) k⟩
      · cases h
    | _ => cases h
  | _ => cases h
def dMod : D → D → Option O
  | .int i, .int j => if 0 < j then some (.fr (.int (i % j))) else none
  | _, _ => none
theorem ov_mod : OpV T (rI (fun _ j => 0 < j) fun i j => .int (i % j)) dMod := by
  intro G H v w d e o Q ex hd he h k
  cases d with
  | int i =>
    cases e with
    | int j =>
      cases hd; cases he
      simp only [dMod] at h
      split at h
      · rename_i c; cases h; exact ⟨i, j, rfl, rfl, c, go_same ex (.int _) k⟩
      · cases h
    | _ => cases h
  | _ => cases h
def dPow : D → D → Option O
  | .int i, .int j => if 0 ≤ j ∧ j ≤ 1000 ∧ i.natAbs < 2 ^ 64 then some (.fr (.int (i ^ j.toNat))) else none
  | _, _ => none
theorem ov_pow : OpV T (rI CPow fun i j => .int (i ^ j.toNat)) dPow := by
  intro G H v w d e o Q ex hd he h k
  cases d with
  | int i =>
    cases e with
    | int j =>
      cases hd; cases he
      simp only [dPow] at h
      split at h
      · rename_i c; cases h; exact ⟨i, j, rfl, rfl, ⟨c.1, by omega, c.2.2⟩, go_same ex (.int _) k⟩
      · cases h
    | _ => cases h
  | _ => cases h
def dNeg : D → Option O
  | .int i => some (.fr (.int (-i)))
  | _ => none
theorem uv_neg : UnV T (rU fun i => .int (-i)) dNeg := by
  intro G H v d o Q ex hd h k
  cases d with
  | int i => cases hd; cases h; exact ⟨i, rfl, go_same ex (.int _) k⟩
  | _ => cases h

/-! ### comparisons -/
def intsOf : List D → Option (List Int)
  | [] => some []
  | .int i :: r => (intsOf r).map (i :: ·)
  | _ :: _ => none
theorem intsOf_vs {G : Hp} : ∀ {ds : List D} {ns : List Int} {vs : List V}, intsOf ds = some ns → DnL T G vs ds → vs = ns.map V.int ∧ ds = ns.map D.int
  | [], _, _, h, .nil => by cases h; exact ⟨rfl, rfl⟩
  | d :: ds, ns, _, h, .cons a l => by
    cases a with
    | int i =>
      unfold intsOf at h
      cases e : intsOf ds with
      | none => rw [e] at h; cases h
      | some k' => rw [e] at h; cases h; obtain ⟨h1, h2⟩ := intsOf_vs e l; rw [h1, h2]; exact ⟨rfl, rfl⟩
    | _ => cases h
theorem intsOf_map (ns : List Int) : intsOf (ns.map D.int) = some ns := by
  induction ns with
  | nil => rfl
  | cons n ns ih => simp only [List.map_cons, intsOf, ih, Option.map_some]
def dLt : D → D → Option O
  | .int i, .int j => some (.fr (.bl (decide (i < j))))
  | .tup xs, .tup ys => match intsOf xs, intsOf ys with
    | some ns, some ms => some (.fr (.bl (lexLt' ns ms)))
    | _, _ => none
  | _, _ => none
where lexLt' (a b : List Int) : Bool := HT.lexLt a b
def rLtA (K : PySem.W.Frag) : R2 := fun x y H Q => (rI0 fun i j => .bl (decide (i < j))) x y H Q ∨ rLtT K x y H Q
theorem op_ltA {k : Nat} (hr : Room k X.A) : OpR X (compareOp .Lt) (rLtA X.K) := op_lt.or (op_ltT (hu0 hr))
theorem ov_lt (hK : T.K = X.K) : OpV T (rLtA X.K) dLt := by
  intro G H v w d e o Q ex hd he h k
  cases d with
  | int i =>
    cases e with
    | int j => cases hd; cases he; cases h; exact .inl ⟨i, j, rfl, rfl, go_same ex (.bl _) k⟩
    | _ => cases h
  | tup xs =>
    cases e with
    | tup ys =>
      obtain ⟨a, vs, rfl, ha, la, _⟩ := hd.sqT
      obtain ⟨b, ws, rfl, hb, lb, _⟩ := he.sqT
      simp only [dLt] at h
      split at h
      · rename_i ns ms e1 e2
        cases h
        obtain ⟨rfl, _⟩ := intsOf_vs e1 la
        obtain ⟨rfl, _⟩ := intsOf_vs e2 lb
        exact .inr ⟨a, b, ns, ms, rfl, rfl, hK ▸ ex_t ex ha, hK ▸ ex_t ex hb, go_same ex (.bl _) k⟩
      · cases h
    | _ => cases h
  | _ => cases h
def dI2 (g : Int → Int → Bool) : D → D → Option O
  | .int i, .int j => some (.fr (.bl (g i j)))
  | _, _ => none
theorem ov_I2 (g : Int → Int → Bool) : OpV T (rI0 fun i j => .bl (g i j)) (dI2 g) := by
  intro G H v w d e o Q ex hd he h k
  cases d with
  | int i =>
    cases e with
    | int j => cases hd; cases he; cases h; exact ⟨i, j, rfl, rfl, go_same ex (.bl _) k⟩
    | _ => cases h
  | _ => cases h
abbrev dLe := dI2 fun i j => decide (i ≤ j)
abbrev dGt := dI2 fun i j => decide (j < i)
abbrev dGe := dI2 fun i j => decide (j ≤ i)
def isNonD : D → Bool
  | .non => true
  | _ => false
def isAny : D → Bool
  | .any => true
  | _ => false
def dIs (neg : Bool) (a b : D) : Option O := match b with
  | .non => if isAny a then none else some (.fr (.bl (isNonD a != neg)))
  | _ => none
theorem isNon_v {G : Hp} {v : V} {d : D} (h : Dn T G v d) (hn : ¬ isAny d = true) : decide (v = .non) = isNonD d := by
  cases h <;> first | rfl | exact absurd rfl hn | exact decide_eq_false (fun z => nomatch z)
theorem ov_is : OpV T (fun x y H Q => y = .non ∧ Q (.bl (decide (x = .non))) H) (dIs false) := by
  intro G H v w d e o Q ex hd he h k
  cases e with
  | non =>
    cases he
    unfold dIs at h
    simp only at h
    split at h
    · cases h
    rename_i hn
    cases h
    rw [isNon_v hd hn]
    exact ⟨rfl, k (.bl _) G H [] (Stp.nil ex) (.fr (by rw [xor_f]; exact .bl _))⟩
  | _ => cases h
theorem ov_isn : OpV T (fun x y H Q => y = .non ∧ Q (.bl (!decide (x = .non))) H) (dIs true) := by
  intro G H v w d e o Q ex hd he h k
  cases e with
  | non =>
    cases he
    unfold dIs at h
    simp only at h
    split at h
    · cases h
    rename_i hn
    cases h
    rw [isNon_v hd hn]
    exact ⟨rfl, k (.bl _) G H [] (Stp.nil ex) (.fr (by rw [xor_t]; exact .bl _))⟩
  | _ => cases h

/-! ### subscripts -/
def lookK {κ : Type} [DecidableEq κ] : List κ → List D → κ → Option D
  | k :: ks, d :: ds, x => if k = x then some d else lookK ks ds x
  | _, _, _ => none
def dIx : D → D → Option O
  | .lst ds, .int i => (atI ds i).map .fr
  | .rol ds, .int i => (atI ds i).map .fr
  | .tup ds, .int i => (atI ds i).map .fr
  | .dk ks ds, .int i => (lookK ks ds (Sum.inl i)).map .fr
  | .dk ks ds, .str i => (lookK ks ds (Sum.inr i)).map .fr
  | .dt ks ds, .tup (e :: es) => match keyL (e :: es) with
    | some k => (lookK ks ds k).map .fr
    | none => none
  | _, _ => none
theorem lookK_val {κ : Type} [DecidableEq κ] {G : Hp} : ∀ {kvs : List (κ × V)} {ds : List D} {k : κ} {d : D}, DnL T G (kvs.map Prod.snd) ds → lookK (kvs.map Prod.fst) ds k = some d → ∃ v, valV kvs k = some v ∧ Dn T G v d
  | [], _, _, _, .nil, h => by cases h
  | p :: r, d' :: ds, k, d, .cons a l, h => by
    simp only [List.map_cons, lookK] at h
    unfold valV
    rw [List.find?_cons]
    by_cases e : p.1 = k
    · rw [if_pos e] at h; cases h
      rw [decide_eq_true e]
      exact ⟨p.2, rfl, a⟩
    · rw [if_neg e] at h
      rw [decide_eq_false e]
      exact lookK_val l h
def rDG : R2 := fun x y H Q => ∃ a v, x = .ref a ∧ DGet H a y (some v) ∧ Q v H
theorem ix_dict {k : Nat} (hr : Room k X.A) : IxR X rDG := by
  intro value slice pins s σ H x y v u Q I rx ry h hs
  obtain ⟨a, z, rfl, g, q⟩ := h
  obtain rfl : v = Value.ref a := rx
  have hT := dict_typeIs I g
  unfold subscriptTail
  refine wpAny_bind ?_
  rw [getitemInPython_of_ne hT.not_modules]
  refine wpAny_bind (wpAny_specialOf hT PySem.F.slot_dict_getitem.lookup ?_)
  have fin : wpAny (model X.prog X.w) X.A (subscripted slice false (.ref a) u) (fun r s₃ => wpAny (model X.prog X.w) X.A (letTemporaryGo value (.ref a) r >>= fun _ => pure r) (EP X pins σ Q) X.xe s₃) X.xe s := by
    rw [hs]
    exact wpAny_operating (wpAny_mono (d_getItem (hu1 hr) I g ry fun w' s3 I3 rw' => (⟨z, H, I3, rw', q⟩ : EP X pins σ Q w' s3)) (fun r s₃ h₃ => wpAny_bind (wpAny_letTemporaryGo (wpAny_pure h₃))) fun _ _ x => x)
  first
    | exact wpAny_pure (wpAny_bind fin)
    | exact wpAny_bind (wpAny_pure (wpAny_bind fin))
    | exact wpAny_bind fin
def rIxA (K : PySem.W.Frag) : R2 := fun x y H Q => rIxL K x y H Q ∨ rIxT K x y H Q ∨ rDG x y H Q
theorem ix_all {k : Nat} (hr : Room k X.A) : IxR X (rIxA X.K) := ix_list.or (ix_tup.or (ix_dict hr))
theorem atI_rel {G : Hp} {vs : List V} {ds : List D} {i : Int} {d : D} (l : DnL T G vs ds) (h : atI ds i = some d) : ∃ v, atI vs i = some v ∧ Dn T G v d := by
  unfold atI at h ⊢
  rw [l.len]
  cases e : ixN ds.length i with
  | none => rw [e] at h; cases h
  | some j =>
    rw [e] at h
    exact l.get h
theorem ov_ix (hK : T.K = X.K) : OpV T (rIxA X.K) dIx := by
  intro G H v w d e o Q ex hd he h k
  cases d with
  | lst ds =>
    cases e with
    | int i =>
      cases he
      obtain ⟨a, vs, rfl, ha, la⟩ := hd.sqL
      simp only [dIx] at h
      cases e : atI ds i with
      | none => rw [e] at h; cases h
      | some z =>
        rw [e] at h; cases h
        obtain ⟨u, hu, du⟩ := atI_rel la e
        exact .inl ⟨a, vs, i, u, rfl, rfl, .of (ex _ _ ha), hu, go_same ex du k⟩
    | _ => cases h
  | rol ds =>
    cases e with
    | int i =>
      cases he
      cases hd with
      | rol ha la =>
        simp only [dIx] at h
        cases e : atI ds i with
        | none => rw [e] at h; cases h
        | some z =>
          rw [e] at h; cases h
          obtain ⟨u, hu, du⟩ := atI_rel la e
          exact .inl ⟨_, _, i, u, rfl, rfl, hK ▸ ex_l ex ha, hu, go_same ex du k⟩
    | _ => cases h
  | tup ds =>
    cases e with
    | int i =>
      cases he
      obtain ⟨a, vs, rfl, ha, la, _⟩ := hd.sqT
      simp only [dIx] at h
      cases e : atI ds i with
      | none => rw [e] at h; cases h
      | some z =>
        rw [e] at h; cases h
        obtain ⟨u, hu, du⟩ := atI_rel la e
        exact .inr (.inl ⟨a, vs, i, u, rfl, rfl, hK ▸ ex_t ex ha, hu, go_same ex du k⟩)
    | _ => cases h
  | dk ks ds =>
    cases hd with
    | dk ha la =>
      rename_i a kvs
      cases e with
      | int i =>
        cases he
        simp only [dIx] at h
        cases e : lookK (kvs.map Prod.fst) ds (Sum.inl i : Key) with
        | none => rw [e] at h; cases h
        | some z =>
          rw [e] at h; cases h
          obtain ⟨u, hu, du⟩ := lookK_val la e
          exact .inr (.inr ⟨a, u, rfl, .inl ⟨kvs, Sum.inl i, .inl (ex _ _ ha), rfl, hu.symm⟩, go_same ex du k⟩)
      | str i =>
        cases he
        simp only [dIx] at h
        cases e : lookK (kvs.map Prod.fst) ds (Sum.inr i : Key) with
        | none => rw [e] at h; cases h
        | some z =>
          rw [e] at h; cases h
          obtain ⟨u, hu, du⟩ := lookK_val la e
          exact .inr (.inr ⟨a, u, rfl, .inl ⟨kvs, Sum.inr i, .inl (ex _ _ ha), rfl, hu.symm⟩, go_same ex du k⟩)
      | _ => cases h
  | dt ks ds =>
    cases hd with
    | dt ha la =>
      rename_i a kvs
      cases e with
      | tup es =>
        cases es with
        | nil => cases h
        | cons e1 es =>
          obtain ⟨b, ws, rfl, _, lb, hb⟩ := he.sqT
          simp only [dIx] at h
          split at h
          · rename_i ky e2
            cases e : lookK (kvs.map Prod.fst) ds ky with
            | none => rw [e] at h; cases h
            | some z =>
              rw [e] at h; cases h
              obtain ⟨u, hu, du⟩ := lookK_val la e
              have ew := keyL_vs e2 lb
              exact .inr (.inr ⟨a, u, rfl, .inr ⟨kvs, ky, b, .inl (ex _ _ ha), rfl, by rw [← ew]; exact ex _ _ (hb (by simp)), hu.symm⟩, go_same ex du k⟩)
          · cases h
      | _ => cases h
  | _ => cases h
end
end DF
end

section
set_option maxRecDepth 100000
set_option maxHeartbeats 4000000
namespace DF
open PySem PySem.Spec PyProof.Rows L2

/-! ### arguments, displays, calls of built-ins -/
def aNil : M (List D) := ret []
def aCons (f : M O) (g : M (List D)) : M (List D) := bnd f fun o => (fun d => bnd g fun ds => ret (d :: ds)) (fz o)
section
variable {T : Tab} {τ : Th} {W : WX} {X : Cx} {σ : L2.St} {H : Hp} {e : Expr} {es : List Expr} {f : M O} {g : M (List D)} {pos : Pos}
theorem A_bind {β : Type} {k : L2.St → Hp → Hp → List Addr → β → S → Prop} (hk : KStep τ k) {g : M (List D)} {h : List D → M β} (p : tD T τ W k (bnd g h) σ H) :
    tDA T τ W g σ H fun vs H1 => ∃ (G1 : Hp) (A1 : List Addr) (ds : List D) (s1 : S), Wf τ.gb G1 H1 A1 ∧ OwnS T G1 H1 τ σ s1 A1 ∧ DnL T G1 vs ds ∧ PostG T τ W (k σ) σ G1 H1 A1 (h ds s1) := by
  obtain ⟨G, A, s, w, os, p⟩ := p
  refine ⟨G, A, s, w, os, ?_⟩
  unfold bnd at p
  cases e : g s with
  | no => rw [e] at p; exact p
  | er x s1 => rw [e] at p; exact p
  | ok ds s1 =>
    rw [e] at p
    exact fun vs G1 H1 A1 z os1 dl => ⟨G1, A1, ds, s1, z.wf, os1, dl, PostG.step hk p z⟩
theorem da_nil : PA X [] (tDA T τ W aNil) := pa_nil.weak fun σ H Q ⟨G, A, s, w, os, p⟩ => p [] G H A (Stp.refl w) os .nil
theorem da_cons (he : PE X e (tDE T τ W f)) (hr : PA X es (tDA T τ W g)) (hs : starEach (e :: es) X.env = (false, eval e X.env) :: starEach es X.env := by rfl) : PA X (e :: es) (tDA T τ W (aCons f g)) :=
  (pa_cons he hr hs).weak fun σ H Q h => by
    obtain ⟨G, A, s, w, os, p⟩ := F_bind kA_step (g := fun d => bnd g fun ds => ret (d :: ds)) h
    refine ⟨G, A, s, w, os, ?_⟩
    cases e : f s with
    | no => rw [e] at p; exact p
    | er x s1 => rw [e] at p; exact p
    | ok o s1 =>
      rw [e] at p
      intro v G1' H1 A1' B1' z os1 ow1
      obtain ⟨G1, A1, d1, s1', w1, os1, dn1, p1⟩ := p v G1' H1 A1' B1' z os1 ow1
      refine ⟨G1, A1, s1', w1, os1, ?_⟩
      unfold bnd at p1
      cases e2 : g s1' with
      | no => rw [e2] at p1; exact p1
      | er x s1 => rw [e2] at p1; exact p1
      | ok ds s3 =>
        rw [e2] at p1
        exact fun vs G3 H3 A3 z3 os3 dl => p1 (v :: vs) G3 H3 A3 z3 os3 (.cons (dn1.mono z3.gg) dl)
/-- what takes its arguments' values -/
def eCB (op : List D → Option O) (g : M (List D)) : M O := bnd g fun ds => opt (op ds)
theorem tr_call {r : List V → Hp → VK → Prop} {op : List D → Option O} (hv : CallV T r op) {Q : VK} (h : tDE T τ W (eCB op g) σ H Q) : tDA T τ W g σ H fun vs H1 => r vs H1 Q := by
  obtain ⟨G, A, s, w, os, p⟩ := A_bind kE_step h
  refine ⟨G, A, s, w, os, ?_⟩
  cases e : g s with
  | no => rw [e] at p; exact p
  | er x s1 => rw [e] at p; exact p
  | ok ds s1 =>
    rw [e] at p
    intro vs G1' H1 A1' z os1 dl
    obtain ⟨G1, A1, ds1, s4, w4, os4, dn1, p4⟩ := p vs G1' H1 A1' z os1 dl
    obtain ⟨o, e5, p5⟩ := opt_ok p4
    exact hv w4.ex dn1 e5 fun z G' H' B st ow => finV w4 os4 p5 st ow
theorem de_callB {id : String} {x : Str} {p : Pos} {r : List V → Hp → VK → Prop} {op : List D → Option O} (hc : CallR X (.builtin id) r) (hv : CallV T r op) (hg : Gl X x) (hm : X.mg x = none) (hb : bootBuiltins x = some (.builtin id)) (ha : PA X (e :: es) (tDA T τ W g))
    (hn : x ≠ "__name__" := by decide) (hdb : (x == ("__debug__" : Str)) = false := by decide) (he : starEach (e :: es) X.env = (false, eval e X.env) :: starEach es X.env := by rfl) (hpl : (backTo pos (starEach es X.env)).any (·.1) = false := by rfl) :
    PE X (.Call (.Name x p) (e :: es) [] pos) (tDE T τ W (eCB op g)) := (pe_callB hc hg hm hb ha hn hdb he hpl).weak fun _ _ _ h => tr_call hv h
theorem de_callTy {id : String} {x : Str} {p : Pos} {r : List V → Hp → VK → Prop} {op : List D → Option O} (hc : CallR X (.type id) r) (hv : CallV T r op) (hg : Gl X x) (hm : X.mg x = none) (hb : bootBuiltins x = some (.type id)) (ha : PA X (e :: es) (tDA T τ W g))
    (hn : x ≠ "__name__" := by decide) (hdb : (x == ("__debug__" : Str)) = false := by decide) (he : starEach (e :: es) X.env = (false, eval e X.env) :: starEach es X.env := by rfl) (hpl : (backTo pos (starEach es X.env)).any (·.1) = false := by rfl) :
    PE X (.Call (.Name x p) (e :: es) [] pos) (tDE T τ W (eCB op g)) := (pe_callTy hc hg hm hb ha hn hdb he hpl).weak fun _ _ _ h => tr_call hv h
def oTup (ds : List D) : Option O := if ds.length ≤ 1000 then some (.fr (.tup ds)) else none
def oLst (ds : List D) : Option O := if ds.length ≤ 1000 then some (nl ds) else none
theorem cv_tup : CallV T (fun xs H Q => xs.length ≤ sizeLine ∧ ∀ p, H p = none → Q (.ref p) (upd H p (.tup xs))) oTup := by
  intro G H vs ds o Q ex dl h k
  unfold oTup at h
  split at h
  · rename_i c
    cases h
    exact ⟨by rw [dl.len]; exact big (by omega), fun p hp => go_tup ex dl k hp⟩
  · cases h
theorem cv_lst : CallV T (fun xs H Q => xs.length ≤ sizeLine ∧ ∀ p, H p = none → Q (.ref p) (upd H p (.lst xs))) oLst := by
  intro G H vs ds o Q ex dl h k
  unfold oLst at h
  split at h
  · rename_i c
    cases h
    exact ⟨by rw [dl.len]; exact big (by omega), fun p hp => go_nl ex dl k hp⟩
  · cases h
theorem de_tup {x1} (h : PA X es (tDA T τ W g)) : PE X (.Tuple es x1 pos) (tDE T τ W (eCB oTup g)) := (pe_tup h).weak fun _ _ _ q => tr_call cv_tup q
theorem de_lst (h : PA X es (tDA T τ W g)) : PE X (.List es pos) (tDE T τ W (eCB oLst g)) := (pe_lst h).weak fun _ _ _ q => tr_call cv_lst q
/-- a built-in class, a class of the program, as values -/
theorem de_ty {x : Str} (n : Nat) (hg : Gl X x) (hm : X.mg x = none) (hv : bootBuiltins x = some (.type (tyN n))) (hn : x ≠ "__name__" := by decide) (hd : (x == ("__debug__" : Str)) = false := by decide) : PE X (.Name x pos) (tDE T τ W (eC (.ty n))) :=
  (pe_bltn (v := .ty (tyN n)) hg hm hv rfl hn hd).weak fun _ _ _ h => post_c (fun _ => .ty n) h
theorem de_cls {x : Str} (c : Nat) (hg : Gl X x) (hm : X.mg x = some (.ref (T.cls c))) (hd : (x == ("__debug__" : Str)) = false := by decide) : PE X (.Name x pos) (tDE T τ W (eC (.cl c))) :=
  (pe_glob (v := .ref (T.cls c)) hg hm rfl hd).weak fun _ _ _ h => post_c (fun _ => .cl c) h
theorem de_gint {x : Str} (i : Int) {t : Tok} (hg : Gl X x) (hm : X.mg x = some (.int i t)) (hd : (x == ("__debug__" : Str)) = false := by decide) : PE X (.Name x pos) (tDE T τ W (eC (.int i))) :=
  (pe_glob (v := .int i) hg hm ⟨t, rfl⟩ hd).weak fun _ _ _ h => post_c (fun _ => .int i) h

/-! ### built-ins -/
def oLen : List D → Option O
  | [.lst ds] => some (.fr (.int ds.length))
  | [.rol ds] => some (.fr (.int ds.length))
  | [.tup ds] => some (.fr (.int ds.length))
  | _ => none
theorem cv_len (hK : T.K = X.K) : CallV T (fun xs H Q => ∃ p ys, xs = [.ref p] ∧ (SqL X.K H p ys ∨ SqT X.K H p ys) ∧ Q (.int ys.length) H) oLen := by
  intro G H vs ds o Q ex dl h k
  cases dl with
  | nil => cases h
  | cons a l =>
    cases l with
    | cons _ _ => unfold oLen at h; split at h <;> simp_all
    | nil =>
      cases a with
      | lst e l => cases h; exact ⟨_, _, rfl, .inl (.of (ex _ _ e)), by rw [l.len]; exact go_same ex (.int _) k⟩
      | rol e l => cases h; exact ⟨_, _, rfl, .inl (hK ▸ ex_l ex e), by rw [l.len]; exact go_same ex (.int _) k⟩
      | tup e l => cases h; exact ⟨_, _, rfl, .inr (.of (ex _ _ e)), by rw [l.len]; exact go_same ex (.int _) k⟩
      | tupE e => cases h; exact ⟨_, _, rfl, .inr (hK ▸ ex_t ex e), go_same ex (.int _) k⟩
      | _ => cases h
def oInt : List D → Option O
  | [.int i] => some (.fr (.int i))
  | _ => none
theorem cv_int : CallV T (fun xs H Q => (∃ i, xs = [.int i] ∧ Q (.int i) H) ∨ ∃ k, xs = [.bl k] ∧ Q (.int (if k then 1 else 0)) H) oInt := by
  intro G H vs ds o Q ex dl h k
  cases dl with
  | nil => cases h
  | cons a l =>
    cases l with
    | cons _ _ => unfold oInt at h; split at h <;> simp_all
    | nil =>
      cases a with
      | int i => cases h; exact .inl ⟨i, rfl, go_same ex (.int _) k⟩
      | _ => cases h
def oTuple : List D → Option O
  | [.lst ds] => some (.fr (.tup ds))
  | [.rol ds] => some (.fr (.tup ds))
  | [.tup ds] => some (.fr (.tup ds))
  | _ => none
theorem cv_tuple (hK : T.K = X.K) : CallV T (fun xs H Q => ∃ p ys, xs = [.ref p] ∧ ((SqL X.K H p ys ∧ ∀ l, H l = none → Q (.ref l) (upd H l (.tup ys))) ∨ (SqT X.K H p ys ∧ Q (.ref p) H))) oTuple := by
  intro G H vs ds o Q ex dl h k
  cases dl with
  | nil => cases h
  | cons a l =>
    cases l with
    | cons _ _ => unfold oTuple at h; split at h <;> simp_all
    | nil =>
      cases a with
      | lst e l => cases h; exact ⟨_, _, rfl, .inl ⟨.of (ex _ _ e), fun p hp => go_tup ex l k hp⟩⟩
      | rol e l => cases h; exact ⟨_, _, rfl, .inl ⟨hK ▸ ex_l ex e, fun p hp => go_tup ex l k hp⟩⟩
      | tup e l => cases h; exact ⟨_, _, rfl, .inr ⟨.of (ex _ _ e), go_same ex (.tup e l) k⟩⟩
      | tupE e => cases h; exact ⟨_, _, rfl, .inr ⟨hK ▸ ex_t ex e, go_same ex (.tupE e) k⟩⟩
      | _ => cases h
def oList : List D → Option O
  | [.lst ds] => some (nl ds)
  | [.rol ds] => some (nl ds)
  | [.tup ds] => some (nl ds)
  | _ => none
theorem cv_list (hK : T.K = X.K) : CallV T (fun xs H Q => ∃ p ys, xs = [.ref p] ∧ (SqL X.K H p ys ∨ SqT X.K H p ys) ∧ ∀ l, H l = none → Q (.ref l) (upd H l (.lst ys))) oList := by
  intro G H vs ds o Q ex dl h k
  cases dl with
  | nil => cases h
  | cons a l =>
    cases l with
    | cons _ _ => unfold oList at h; split at h <;> simp_all
    | nil =>
      cases a with
      | lst e l => cases h; exact ⟨_, _, rfl, .inl (.of (ex _ _ e)), fun p hp => go_nl ex l k hp⟩
      | rol e l => cases h; exact ⟨_, _, rfl, .inl (hK ▸ ex_l ex e), fun p hp => go_nl ex l k hp⟩
      | tup e l => cases h; exact ⟨_, _, rfl, .inr (.of (ex _ _ e)), fun p hp => go_nl ex l k hp⟩
      | tupE e => cases h; exact ⟨_, _, rfl, .inr (hK ▸ ex_t ex e), fun p hp => go_nl ex .nil k hp⟩
      | _ => cases h
def oMax2 : List D → Option O
  | [.int i, .int j] => some (.fr (.int (if j > i then j else i)))
  | _ => none
def oMin2 : List D → Option O
  | [.int i, .int j] => some (.fr (.int (if j < i then j else i)))
  | _ => none
theorem cv_max2 : CallV T (fun xs H Q => ∃ i j, xs = [.int i, .int j] ∧ Q (.int (if j > i then j else i)) H) oMax2 := by
  intro G H vs ds o Q ex dl h k
  unfold oMax2 at h
  split at h
  · cases dl with
    | cons a l => cases l with
      | cons b m =>
        cases m; cases a; cases b; cases h
        exact ⟨_, _, rfl, go_same ex (.int _) k⟩
  · cases h
theorem cv_min2 : CallV T (fun xs H Q => ∃ i j, xs = [.int i, .int j] ∧ Q (.int (if j < i then j else i)) H) oMin2 := by
  intro G H vs ds o Q ex dl h k
  unfold oMin2 at h
  split at h
  · cases dl with
    | cons a l => cases l with
      | cons b m =>
        cases m; cases a; cases b; cases h
        exact ⟨_, _, rfl, go_same ex (.int _) k⟩
  · cases h
def blsOf : List D → Option (List Bool)
  | [] => some []
  | .bl i :: r => (blsOf r).map (i :: ·)
  | _ :: _ => none
theorem blsOf_vs {G : Hp} : ∀ {ds : List D} {ns : List Bool} {vs : List V}, blsOf ds = some ns → DnL T G vs ds → vs = ns.map V.bl
  | [], _, _, h, .nil => by cases h; rfl
  | d :: ds, ns, _, h, .cons a l => by
    cases a with
    | bl i =>
      unfold blsOf at h
      cases e : blsOf ds with
      | none => rw [e] at h; cases h
      | some k' => rw [e] at h; cases h; rw [blsOf_vs e l]; rfl
    | _ => cases h
theorem blsOf_map (ns : List Bool) : blsOf (ns.map D.bl) = some ns := by
  induction ns with
  | nil => rfl
  | cons n ns ih => simp only [List.map_cons, blsOf, ih, Option.map_some]
def oAll : List D → Option O
  | [.lst ds] => (blsOf ds).map fun bs => .fr (.bl (bs.all id))
  | _ => none
def oAny : List D → Option O
  | [.lst ds] => (blsOf ds).map fun bs => .fr (.bl (bs.any id))
  | _ => none
theorem cv_all (hK : T.K = X.K) : CallV T (rAll X.K) oAll := by
  intro G H vs ds o Q ex dl h k
  unfold oAll at h
  split at h
  · cases dl with
    | cons a l =>
      cases l
      rename_i es _
      obtain ⟨ad, ws, rfl, e, la⟩ := a.sqL
      cases e2 : blsOf es with
      | none => rw [e2] at h; cases h
      | some bs =>
        rw [e2] at h; cases h
        have := blsOf_vs e2 la
        subst this
        exact ⟨ad, bs, rfl, .of (ex _ _ e), go_same ex (.bl _) k⟩
  · cases h
theorem cv_any (hK : T.K = X.K) : CallV T (rAny X.K) oAny := by
  intro G H vs ds o Q ex dl h k
  unfold oAny at h
  split at h
  · cases dl with
    | cons a l =>
      cases l
      rename_i es _
      obtain ⟨ad, ws, rfl, e, la⟩ := a.sqL
      cases e2 : blsOf es with
      | none => rw [e2] at h; cases h
      | some bs =>
        rw [e2] at h; cases h
        have := blsOf_vs e2 la
        subst this
        exact ⟨ad, bs, rfl, .of (ex _ _ e), go_same ex (.bl _) k⟩
  · cases h

/-! ### tests -/
def dTru : D → Option Bool
  | .non => some false
  | .bl b => some b
  | .int i => some (i != 0)
  | .lst ds => some (!ds.isEmpty)
  | .rol ds => some (!ds.isEmpty)
  | .tup ds => some (!ds.isEmpty)
  | .dk ks _ => some (!ks.isEmpty)
  | _ => none
theorem emp_len {G : Hp} {vs : List V} {ds : List D} (l : DnL T G vs ds) : vs.isEmpty = ds.isEmpty := by cases l <;> rfl
theorem tv_tru (hK : T.K = X.K) : TruVd T (fun x H Q => ∃ k, TruV X.K x H k ∧ Q k H) dTru := by
  intro G H v d b Q ex hd h k
  refine ⟨b, ?_, k⟩
  cases hd with
  | non => cases h; rfl
  | bl b => cases h; rfl
  | int i => cases h; rfl
  | lst e l => cases h; exact .inl ⟨_, .of (ex _ _ e), by rw [emp_len l]⟩
  | rol e l => cases h; exact .inl ⟨_, hK ▸ ex_l ex e, by rw [emp_len l]⟩
  | tup e l => cases h; exact .inr (.inl ⟨_, .of (ex _ _ e), by rw [emp_len l]⟩)
  | tupE e => cases h; exact .inr (.inl ⟨_, hK ▸ ex_t ex e, rfl⟩)
  | dk e l => cases h; exact .inr (.inr ⟨_, ex _ _ e, by cases ‹List (Key × V)› <;> rfl⟩)
  | _ => cases h
def tE (op : D → Option Bool) (f : M O) : M Bool := bnd f fun o => (fun d => opt (op d)) (fz o)
theorem tr_tru {r : V → Hp → (Bool → Hp → Prop) → Prop} {op : D → Option Bool} (hv : TruVd T r op) {Q : Bool → Hp → Prop} (h : tDT T τ W (tE op f) σ H Q) : tDE T τ W f σ H fun x H1 => r x H1 Q := by
  obtain ⟨G, A, s, w, os, p⟩ := F_bind kT_step (g := fun d => opt (op d)) h
  refine ⟨G, A, s, w, os, ?_⟩
  cases e : f s with
  | no => rw [e] at p; exact p
  | er x s1 => rw [e] at p; exact p
  | ok o s1 =>
    rw [e] at p
    intro v G1' H1 A1' B1' z os1 ow1
    obtain ⟨G1, A1, d1, s4, w4, os4, dn1, p4⟩ := p v G1' H1 A1' B1' z os1 ow1
    obtain ⟨b, e5, p5⟩ := opt_ok p4
    exact hv w4.ex dn1 e5 (p5 G1 H1 A1 (Stp.refl w4) os4)
/-- any value's truth -/
theorem dt_tru (hK : T.K = X.K) (ha : PE X e (tDE T τ W f)) (he : ∀ whole, isTrue e X.env whole = (do let v ← whole; standAt e.pos; holding [v] (truthy v)) := by intro _; rfl) : PT X e (tDT T τ W (tE dTru f)) :=
  (pt_truth ha he).weak fun _ _ _ h => tr_tru (tv_tru hK) h
def blD : D → Option Bool
  | .bl b => some b
  | _ => none
theorem tv_bl : TruVd T (fun x H Q => ∃ k, x = .bl k ∧ Q k H) blD := by
  intro G H v d b Q ex hd h k
  cases hd with
  | bl b => cases h; exact ⟨_, rfl, k⟩
  | _ => cases h
theorem dt_cmp {a b : Expr} {g : M O} {cop : CmpOp} {r : R2} {op : D → D → Option O} (ho : OpR X (compareOp cop) r) (hv : OpV T r op) (ha : PE X a (tDE T τ W f)) (hb : PE X b (tDE T τ W g)) (hm : behindInMarks cop b = false := by first | exact nomark _ | rfl) : PT X (.Compare a [cop] [b] pos) (tDT T τ W (tE blD (eBin op f g))) :=
  (pt_cmpR ho ha hb hm).weak fun _ _ _ h => tr_bin hv (tr_tru tv_bl h)
def tNot (f : M Bool) : M Bool := bnd f fun b => ret (!b)
def tAnd (f g : M Bool) : M Bool := bnd f fun b => if b then g else ret false
def tOr (f g : M Bool) : M Bool := bnd f fun b => if b then ret true else g
theorem T_bind {β : Type} {k : L2.St → Hp → Hp → List Addr → β → S → Prop} (hk : KStep τ k) {g : M Bool} {h : Bool → M β} (p : tD T τ W k (bnd g h) σ H) :
    tDT T τ W g σ H fun b H1 => tD T τ W k (h b) σ H1 := by
  obtain ⟨G, A, s, w, os, p⟩ := p
  refine ⟨G, A, s, w, os, ?_⟩
  unfold bnd at p
  cases e : g s with
  | no => rw [e] at p; exact p
  | er x s1 => rw [e] at p; exact p
  | ok ds s1 =>
    rw [e] at p
    exact fun G1 H1 A1 z os1 => ⟨G1, A1, s1, z.wf, os1, PostG.step hk p z⟩
theorem ret_t {b : Bool} {Q : Bool → Hp → Prop} (h : tD T τ W (kT T τ Q) (ret b) σ H) : Q b H := by
  obtain ⟨G, A, s, w, os, p⟩ := h
  exact p G H A (Stp.refl w) os
variable {a b : Expr} {rest : List Expr} {t u : M Bool}
theorem dt_not (ha : PT X a (tDT T τ W t)) : PT X (.UnaryOp .Not a pos) (tDT T τ W (tNot t)) := (pt_not ha).weak fun σ H Q h => by
  have := T_bind kT_step h
  obtain ⟨G, A, s, w, os, p⟩ := this
  refine ⟨G, A, s, w, os, ?_⟩
  cases e : t s with
  | no => rw [e] at p; exact p
  | er x s1 => rw [e] at p; exact p
  | ok b s1 => rw [e] at p; exact fun G1 H1 A1 z os1 => ret_t (p G1 H1 A1 z os1)
theorem kT_imp {Q Q' : Bool → Hp → Prop} {f : M Bool} (h : tDT T τ W f σ H Q) (k : ∀ b H, Q b H → Q' b H) : tDT T τ W f σ H Q' := by
  obtain ⟨G, A, s, w, os, p⟩ := h
  refine ⟨G, A, s, w, os, ?_⟩
  cases e : f s with
  | no => rw [e] at p; exact p
  | er x s1 => rw [e] at p; exact p
  | ok b s1 => rw [e] at p; exact fun G1 H1 A1 z os1 => k _ _ (p G1 H1 A1 z os1)
theorem dw_and1 (ha : PT X a (tDT T τ W t)) : PW X (.BoolOp .And [a] pos) (tDT T τ W t) := pw_and1 ha
theorem dw_or1 (ha : PT X a (tDT T τ W t)) : PW X (.BoolOp .Or [a] pos) (tDT T τ W t) := pw_or1 ha
theorem dw_and (ha : PT X a (tDT T τ W t)) (hb : PW X (.BoolOp .And (b :: rest) pos) (tDT T τ W u)) : PW X (.BoolOp .And (a :: b :: rest) pos) (tDT T τ W (tAnd t u)) := (pw_and ha hb).weak fun σ H Q h =>
  kT_imp (T_bind kT_step h) fun b H1 q => by
    cases b with
    | true => exact q
    | false => exact ret_t q
theorem dw_or (ha : PT X a (tDT T τ W t)) (hb : PW X (.BoolOp .Or (b :: rest) pos) (tDT T τ W u)) : PW X (.BoolOp .Or (a :: b :: rest) pos) (tDT T τ W (tOr t u)) := (pw_or ha hb).weak fun σ H Q h =>
  kT_imp (T_bind kT_step h) fun b H1 q => by
    cases b with
    | true => exact ret_t q
    | false => exact q
/-- as values: and, or, not of bools -/
def eB (t : M Bool) : M O := bnd t fun b => ret (.fr (.bl b))
def eAndV (f g : M O) : M O := bnd f fun o => (fun d => match d with
  | .bl true => g
  | .bl false => ret (.fr (.bl false))
  | _ => fun _ => .no) (fz o)
def eOrV (f g : M O) : M O := bnd f fun o => (fun d => match d with
  | .bl true => ret (.fr (.bl true))
  | .bl false => g
  | _ => fun _ => .no) (fz o)
def eNotV (f : M O) : M O := bnd f fun o => (fun d => match d with
  | .bl b => ret (.fr (.bl (!b)))
  | _ => fun _ => .no) (fz o)
theorem ret_e {d : D} {v : V} {Q : VK} {G : Hp} {A : List Addr} {s : S} (w : Wf τ.gb G H A) (os : OwnS T G H τ σ s A) (hd : Dn T G v d) (p : PostG T τ W (kE T τ Q σ) σ G H A (ret (.fr d) s)) : Q v H := p v G H A [] (by rw [List.append_nil]; exact Stp.refl w) os (.fr hd)
theorem kE_imp {Q Q' : VK} {f : M O} (h : tDE T τ W f σ H Q) (k : ∀ b H, Q b H → Q' b H) : tDE T τ W f σ H Q' := by
  obtain ⟨G, A, s, w, os, p⟩ := h
  refine ⟨G, A, s, w, os, ?_⟩
  cases e : f s with
  | no => rw [e] at p; exact p
  | er x s1 => rw [e] at p; exact p
  | ok b s1 => rw [e] at p; exact fun v G1 H1 A1 B1 z os1 ow => k _ _ (p v G1 H1 A1 B1 z os1 ow)
theorem de_one {op : BoolOp} (h : PE X a (tDE T τ W f)) : PE X (.BoolOp op [a] pos) (tDE T τ W f) := pe_one h
theorem de_and {g : M O} (ha : PE X a (tDE T τ W f)) (hb : PE X (.BoolOp .And (b :: rest) pos) (tDE T τ W g)) : PE X (.BoolOp .And (a :: b :: rest) pos) (tDE T τ W (eAndV f g)) := (pe_and ha hb).weak fun σ H Q h =>
  kE_imp (F_bind kE_step (g := fun d => match d with
  | .bl true => g
  | .bl false => ret (.fr (.bl false))
  | _ => fun _ => .no) h) fun v H1 ⟨G1, A1, d, s1, w, os, dn, p⟩ => by
    cases dn with
    | bl c =>
      refine ⟨c, rfl, ?_⟩
      cases c with
      | true => exact ⟨G1, A1, s1, w, os, p⟩
      | false => exact ret_e w os (.bl false) p
    | _ => exact p.elim
theorem de_or {g : M O} (ha : PE X a (tDE T τ W f)) (hb : PE X (.BoolOp .Or (b :: rest) pos) (tDE T τ W g)) : PE X (.BoolOp .Or (a :: b :: rest) pos) (tDE T τ W (eOrV f g)) := (pe_or ha hb).weak fun σ H Q h =>
  kE_imp (F_bind kE_step (g := fun d => match d with
  | .bl true => ret (.fr (.bl true))
  | .bl false => g
  | _ => fun _ => .no) h) fun v H1 ⟨G1, A1, d, s1, w, os, dn, p⟩ => by
    cases dn with
    | bl c =>
      refine ⟨c, rfl, ?_⟩
      cases c with
      | true => exact ret_e w os (.bl true) p
      | false => exact ⟨G1, A1, s1, w, os, p⟩
    | _ => exact p.elim
theorem de_not (ha : PE X a (tDE T τ W f)) : PE X (.UnaryOp .Not a pos) (tDE T τ W (eNotV f)) := (pe_not ha).weak fun σ H Q h =>
  kE_imp (F_bind kE_step (g := fun d => match d with
  | .bl b => ret (.fr (.bl (!b)))
  | _ => fun _ => .no) h) fun v H1 ⟨G1, A1, d, s1, w, os, dn, p⟩ => by
    cases dn with
    | bl c => exact ⟨c, rfl, ret_e w os (.bl (!c)) p⟩
    | _ => exact p.elim
def eIf (t : M Bool) (f g : M O) : M O := bnd t fun b => if b then f else g
theorem de_if {c : Expr} {g : M O} (hc : PT X c (tDT T τ W t)) (ha : PE X a (tDE T τ W f)) (hb : PE X b (tDE T τ W g)) : PE X (.IfExp c a b pos) (tDE T τ W (eIf t f g)) := (pe_ifExp hc ha hb).weak fun σ H Q h =>
  kT_imp (T_bind kE_step h) fun b H1 q => by
    cases b with
    | true => exact q
    | false => exact q
end
end DF
end

section
set_option maxRecDepth 100000
set_option maxHeartbeats 4000000
namespace DF
open PySem PySem.Spec PyProof.Rows L2

/-! ### chains, attributes, slices -/
def onBl (t u : M O) : D → M O
  | .bl true => t
  | .bl false => u
  | _ => fun _ => .no
def chain4 (op' : D → D → Option O) (h : M O) (d2 : D) : D → M O := onBl (bnd h fun o3 => opt (op' d2 (fz o3))) (ret (.fr (.bl false)))
def chain3 (op op' : D → D → Option O) (h : M O) (d1 d2 : D) : M O := bnd (opt (op d1 d2)) fun z => chain4 op' h d2 (fz z)
def chain2 (op op' : D → D → Option O) (g h : M O) (d1 : D) : M O := bnd g fun o2 => chain3 op op' h d1 (fz o2)
def eChain (op op' : D → D → Option O) (f g h : M O) : M O := bnd f fun o1 => chain2 op op' g h (fz o1)
section
variable {T : Tab} {τ : Th} {W : WX} {X : Cx} {σ : L2.St} {H : Hp} {e : Expr} {es : List Expr} {f g h : M O} {pos : Pos}
/-- an operation by values, its value kept frozen -/
theorem V_bind {β : Type} {k : L2.St → Hp → Hp → List Addr → β → S → Prop} (hk : KStep τ k) {r : R2} {op : D → D → Option O} (hv : OpV T r op) {G : Hp} {A : List Addr} {s : S} {d1 d2 : D} {v w : V} {j : D → M β} (wf : Wf τ.gb G H A) (os : OwnS T G H τ σ s A) (h1 : Dn T G v d1) (h2 : Dn T G w d2)
    (p : PostG T τ W (k σ) σ G H A (bnd (opt (op d1 d2)) (fun z => j (fz z)) s)) {Q : VK} (q : ∀ (z : V) (G1 H1 : Hp) (A1 : List Addr) (d : D), Ex G G1 → Wf τ.gb G1 H1 A1 → OwnS T G1 H1 τ σ s A1 → Dn T G1 z d → PostG T τ W (k σ) σ G1 H1 A1 (j d s) → Q z H1) : r v w H Q := by
  unfold bnd opt at p
  cases e : op d1 d2 with
  | none => rw [e] at p; exact p.elim
  | some o =>
    rw [e] at p
    refine hv wf.ex h1 h2 e fun z G' H' B st0 ow => ?_
    have st := st0.up wf.bd
    have st2 := st.beside' wf
    have fx := frz_ex (G := G') (H := H') (B := B) fun a h => st2.wf.ng a (List.mem_append_right _ h)
    have st3 := frz_step st2.wf
    have kp : ∀ a ∈ A, H' a = H a := fun a ha => beside_keep (A := A) (B := []) st (by rw [List.append_nil]; exact wf) a ha
    exact q z _ H' A (fz o) (st.gg.trans fx) st3.wf (os.frame (st.gg.trans fx) kp) (ow.freeze fx fun a ha o q => by rw [frz_in ha]; exact q) (PostG.step hk p (st2.trans st3))
theorem tr_chain {r r' : R2} {op op' : D → D → Option O} (hv : OpV T r op) (hv' : OpV T r' op') {Q : VK} (q : tDE T τ W (eChain op op' f g h) σ H Q) : tChain r r' (tDE T τ W f) (tDE T τ W g) (tDE T τ W h) σ H Q := by
  refine kE_imp (F_bind kE_step (g := chain2 op op' g h) q) fun v H1 ⟨G1, A1, d1, s1, w1, os1, dn1, p1⟩ => ?_
  refine ⟨G1, A1, s1, w1, os1, ?_⟩
  unfold chain2 bnd at p1
  cases e2 : g s1 with
  | no => rw [e2] at p1; exact p1
  | er x s2 => rw [e2] at p1; exact p1
  | ok o2 s2 =>
    rw [e2] at p1
    intro u G2 H2 A2 B2 z2 os2 ow2
    have fx := frz_ex (G := G2) (H := H2) (B := B2) fun a h => z2.wf.ng a (List.mem_append_right _ h)
    have st := frz_step z2.wf
    have d2 := ow2.freeze fx fun a ha o q => by rw [frz_in ha]; exact q
    refine V_bind kE_step hv (j := chain4 op' h (fz o2)) st.wf (os2.frame fx fun _ _ => rfl) (dn1.mono (z2.gg.trans fx)) d2 (PostE.step p1 (z2.trans st)) fun z G3 H3 A3 d ex3 w3 os3 dz p3 => ?_
    cases dz with
    | bl c =>
      refine ⟨c, rfl, ?_⟩
      cases c with
      | true =>
        rw [if_pos rfl]
        refine ⟨G3, A3, s2, w3, os3, ?_⟩
        have p3' : PostG T τ W (kE T τ Q σ) σ G3 H3 A3 (bnd h (fun o3 => opt (op' (fz o2) (fz o3))) s2) := p3
        unfold bnd at p3'
        cases e3 : h s2 with
        | no => rw [e3] at p3'; exact p3'
        | er x s4 => rw [e3] at p3'; exact p3'
        | ok o3 s4 =>
          rw [e3] at p3'
          intro u4 G4 H4 A4 B4 z4 os4 ow4
          obtain ⟨o, e5, p5⟩ := opt_ok p3'
          have fx4 := frz_ex (G := G4) (H := H4) (B := B4) fun a h => z4.wf.ng a (List.mem_append_right _ h)
          have st4 := frz_step z4.wf
          exact hv' st4.wf.ex (d2.mono (ex3.trans (z4.gg.trans fx4))) (ow4.freeze fx4 fun a ha o q => by rw [frz_in ha]; exact q) e5 fun z G' H' B st' ow => finV st4.wf (os4.frame fx4 fun _ _ => rfl) (PostE.step p5 (z4.trans st4)) st' ow
      | false =>
        rw [if_neg Bool.false_ne_true]
        exact ret_e w3 os3 (.bl false) p3
    | _ => exact p3.elim
theorem de_chain {a b c : Expr} {op op' : CmpOp} {r r' : R2} {o o' : D → D → Option O} (ho : OpR X (compareOp op) r) (ho' : OpR X (compareOp op') r') (hv : OpV T r o) (hv' : OpV T r' o') (ha : PE X a (tDE T τ W f)) (hb : PE X b (tDE T τ W g)) (hc : PE X c (tDE T τ W h))
    (hm : lastMarks [op, op'] [b, c] = false := by with_unfolding_all rfl) : PE X (.Compare a [op, op'] [b, c] pos) (tDE T τ W (eChain o o' f g h)) := (pe_chain ho ho' ha hb hc hm).weak fun _ _ _ q => tr_chain hv hv' q
theorem dt_chain {a b c : Expr} {op op' : CmpOp} {r r' : R2} {o o' : D → D → Option O} (ho : OpR X (compareOp op) r) (ho' : OpR X (compareOp op') r') (hv : OpV T r o) (hv' : OpV T r' o') (ha : PE X a (tDE T τ W f)) (hb : PE X b (tDE T τ W g)) (hc : PE X c (tDE T τ W h))
    (hm : lastMarks [op, op'] [b, c] = false := by with_unfolding_all rfl) : PT X (.Compare a [op, op'] [b, c] pos) (tDT T τ W (tE blD (eChain o o' f g h))) := (pt_chain ho ho' ha hb hc hm).weak fun _ _ _ q => tr_chain hv hv' (tr_tru tv_bl q)

/-- x.f of an instance: the classes cs have it -/
def dFld (cs : List Nat) (n : Nat) : D → Option O
  | .ins c fs ds => if cs.contains c then (lookK fs ds n).map .fr else none
  | _ => none
theorem lookup_zip {T : Tab} {n : Nat} : ∀ {fs : List Nat} {ds : List D} {vs : List V} {G : Hp} {d : D}, lookK fs ds n = some d → fs.length = vs.length → DnL T G vs ds → ∃ v, List.lookup (T.fld n) ((fs.map T.fld).zip vs) = some v ∧ Dn T G v d
  | [], _, _, _, _, h, _, _ => by cases h
  | f :: fs, _, [], _, _, _, hl, _ => by simp at hl
  | f :: fs, d :: ds, v :: vs, _, _, h, hl, .cons a l => by
    unfold lookK at h
    simp only [List.map_cons, List.zip_cons_cons, List.lookup_cons]
    by_cases e : f = n
    · subst e
      rw [if_pos rfl] at h; cases h
      refine ⟨v, ?_, a⟩
      simp
    · rw [if_neg e] at h
      have ne : (T.fld n == T.fld f) = false := by
        rw [beq_eq_false_iff_ne]
        exact fun z => e (T.inj _ _ z).symm
      rw [ne]
      exact lookup_zip h (by simpa using hl) l
theorem de_fld {cs : List Nat} {n : Nat} {x : Str} (hx : x = T.fld n) (hc : ∀ c, cs.contains c = true → Cls X.K (T.cls c) ∧ NoAttr X.K (T.cls c) x) (he : PE X e (tDE T τ W f)) (hb : attributeBase e x X.env (eval e X.env) = eval e X.env := by rfl) : PE X (.Attribute e x pos) (tDE T τ W (eUn (dFld cs n) f)) :=
  (pe_fld he hb).weak fun σ H Q q => by
    refine tr_un (r := fun x' H' Q' => ∃ a C dx fs v, x' = .ref a ∧ H' a = some (.ins C dx fs) ∧ Cls X.K C ∧ NoAttr X.K C x ∧ fs.lookup x = some v ∧ Q' v H') ?_ q
    intro G H v d o Q ex hd h k
    cases hd with
    | ins a hl l =>
      rename_i ad dx c fs vs ds
      simp only [dFld] at h
      split at h
      · rename_i hcs
        cases e : lookK fs ds n with
        | none => rw [e] at h; cases h
        | some z =>
          rw [e] at h; cases h
          obtain ⟨u, hu, du⟩ := lookup_zip e hl l
          obtain ⟨k1, k2⟩ := hc c hcs
          subst hx
          exact ⟨ad, _, dx, _, u, rfl, ex _ _ a, k1, k2, hu, go_same ex du k⟩
      · cases h
    | _ => cases h

/-- slices -/
def pNo : M (Option Int) := ret none
def pAt (f : M O) : M (Option Int) := bnd f fun o => match fz o with
  | .int i => ret (some i)
  | _ => fun _ => .no
def cutD (ds : List D) (lo hi : Option Int) : List D := (ds.drop (HT.sIx ds.length 0 lo)).take (HT.sIx ds.length ds.length hi - HT.sIx ds.length 0 lo)
def dSl : D → Option Int → Option Int → Option O
  | .lst ds, l, u => some (nl (cutD ds l u))
  | .rol ds, l, u => some (nl (cutD ds l u))
  | .tup ds, l, u => some (.fr (.tup (cutD ds l u)))
  | _, _, _ => none
def eSl (f : M O) (lo hi : M (Option Int)) : M O := bnd f fun o => (fun d => bnd lo fun l => bnd hi fun u => opt (dSl d l u)) (fz o)
def kO (T : Tab) (τ : Th) (Q : Option Int → Hp → Prop) (σ : L2.St) : Hp → Hp → List Addr → Option Int → S → Prop := fun G H A b s' => ∀ (G' H' : Hp) (A' : List Addr), Stp τ.gb G H A G' H' A' → OwnS T G' H' τ σ s' A' → Q b H'
theorem kO_step {Q : Option Int → Hp → Prop} : KStep τ (kO T τ Q) := ⟨fun p z G' H' A' z' => p G' H' A' (z.trans z')⟩
def tDO (T : Tab) (τ : Th) (W : WX) (f : M (Option Int)) : TO := fun σ H Q => tD T τ W (kO T τ Q) f σ H
theorem _root_.L2.PO.weak {X : Cx} {e : Option Expr} {t t' : TO} (h : PO X e t) (k : ∀ σ H Q, t' σ H Q → t σ H Q) : PO X e t' := ⟨fun pins s σ H Q I q => h.run pins s σ H Q I (k σ H Q q)⟩
theorem do_no : PO X none (tDO T τ W pNo) := po_none.weak fun σ H Q ⟨G, A, s, w, os, p⟩ => p G H A (Stp.refl w) os
theorem do_at (h : PE X e (tDE T τ W f)) : PO X (some e) (tDO T τ W (pAt f)) := (po_some h).weak fun σ H Q q =>
  kE_imp (F_bind kO_step (g := fun d => match d with
  | .int i => ret (some i)
  | _ => fun _ => .no) q) fun v H1 ⟨G1, A1, d, s1, w, os, dn, p⟩ => by
    cases dn with
    | int i => exact ⟨i, rfl, p G1 H1 A1 (Stp.refl w) os⟩
    | _ => exact p.elim
theorem O_bind {β : Type} {k : L2.St → Hp → Hp → List Addr → β → S → Prop} (hk : KStep τ k) {g : M (Option Int)} {h : Option Int → M β} {G : Hp} {A : List Addr} {s : S} (w : Wf τ.gb G H A) (os : OwnS T G H τ σ s A) (p : PostG T τ W (k σ) σ G H A (bnd g h s)) :
    tDO T τ W g σ H fun b H1 => ∃ (G1 : Hp) (A1 : List Addr) (s1 : S), Ex G G1 ∧ Wf τ.gb G1 H1 A1 ∧ OwnS T G1 H1 τ σ s1 A1 ∧ PostG T τ W (k σ) σ G1 H1 A1 (h b s1) := by
  refine ⟨G, A, s, w, os, ?_⟩
  unfold bnd at p
  cases e : g s with
  | no => rw [e] at p; exact p
  | er x s1 => rw [e] at p; exact p
  | ok ds s1 =>
    rw [e] at p
    exact fun G1 H1 A1 z os1 => ⟨G1, A1, s1, z.gg, z.wf, os1, PostG.step hk p z⟩
theorem kO_imp {Q Q' : Option Int → Hp → Prop} {f : M (Option Int)} (h : tDO T τ W f σ H Q) (k : ∀ b H, Q b H → Q' b H) : tDO T τ W f σ H Q' := by
  obtain ⟨G, A, s, w, os, p⟩ := h
  refine ⟨G, A, s, w, os, ?_⟩
  cases e : f s with
  | no => rw [e] at p; exact p
  | er x s1 => rw [e] at p; exact p
  | ok b s1 => rw [e] at p; exact fun G1 H1 A1 z os1 => k _ _ (p G1 H1 A1 z os1)
def rSlAll (K : PySem.W.Frag) : V → Option Int → Option Int → Hp → VK → Prop := fun x lo hi H Q => rSlL K x lo hi H Q ∨ rSlA K x lo hi H Q
theorem sl_all : SlR X (rSlAll X.K) := sl_list.or sl_tupA
theorem cut_rel {G : Hp} {vs : List V} {ds : List D} (l : DnL T G vs ds) (lo hi : Option Int) : DnL T G (cutV vs lo hi) (cutD ds lo hi) := by
  unfold cutV cutD
  rw [l.len]
  exact (l.drop _).take _
theorem de_slice {lo hi : Option Expr} {p2 : Pos} {l u : M (Option Int)} (hK : T.K = X.K) (he : PE X e (tDE T τ W f)) (hl : PO X lo (tDO T τ W l)) (hu : PO X hi (tDO T τ W u)) : PE X (.Subscript e (.Slice lo hi none p2) pos) (tDE T τ W (eSl f l u)) :=
  (pe_slice sl_all he hl hu).weak fun σ H Q q => by
    refine kE_imp (F_bind kE_step (g := fun d => bnd l fun l => bnd u fun u => opt (dSl d l u)) q) fun v H1 ⟨G1, A1, d, s1, w, os, dn, p⟩ => ?_
    refine kO_imp (O_bind kE_step w os p) fun b H2 ⟨G2, A2, s2, x2, w2, os2, p2⟩ => ?_
    refine kO_imp (O_bind kE_step w2 os2 p2) fun c H3 ⟨G3, A3, s3, x3, w3, os3, p3⟩ => ?_
    obtain ⟨o, eo, p4⟩ := opt_ok p3
    have dn3 := dn.mono (x2.trans x3)
    have k : ∀ (z : V) (G' H' : Hp) (B : List Addr), Stp hE G3 H3 [] G' H' B → Own T G' H' z o B → Q z H' := fun z G' H' B st ow => finV w3 os3 p4 st ow
    cases dn3 with
    | lst a l => cases eo; exact .inl ⟨_, _, rfl, .of (w3.ex _ _ a), fun p hp => go_nl w3.ex (cut_rel l b c) k hp⟩
    | rol a l => cases eo; exact .inl ⟨_, _, rfl, hK ▸ ex_l w3.ex a, fun p hp => go_nl w3.ex (cut_rel l b c) k hp⟩
    | tup a l =>
      cases eo
      refine .inr ⟨_, _, rfl, .of (w3.ex _ _ a), fun z => ?_, fun _ p hp => go_tup w3.ex (cut_rel l b c) k hp⟩
      refine go_same w3.ex ?_ k
      have e : ∀ ds : List D, ds.length = ‹List V›.length → cutD ds b c = ds := fun ds hl => by
        unfold cutD
        rw [hl, z.1, z.2]
        simp [← hl]
      rw [e _ l.len.symm]
      exact .tup a l
    | tupE a =>
      cases eo
      refine .inr ⟨_, _, rfl, hK ▸ ex_t w3.ex a, fun z => ?_, fun _ p hp => go_tup w3.ex (cut_rel .nil b c) k hp⟩
      refine go_same w3.ex ?_ k
      have e : cutD [] b c = [] := by unfold cutD; simp
      rw [e]
      exact .tupE a
    | _ => cases eo
/-- the whole backwards -/
def dRev : D → Option O
  | .lst ds => some (nl ds.reverse)
  | .tup ds => if ds.length ≤ 100000 then some (.fr (.tup ds.reverse)) else none
  | _ => none
end
end DF
end

section
set_option maxRecDepth 100000
set_option maxHeartbeats 4000000
namespace DF
open PySem PySem.Spec PyProof.Rows L2

/-! ### owned slots -/
section
variable {T : Tab} {τ : Th} {W : WX} {X : Cx} {G H G' H' : Hp}
theorem OwnS.len : ∀ {σ : L2.St} {s : S} {A : List Addr}, OwnS T G H τ σ s A → σ.length = s.length
  | _, _, _, .nil => rfl
  | _, _, _, .un l => by rw [List.length_cons, List.length_cons, l.len]
  | _, _, _, .cons _ _ l => by rw [List.length_cons, List.length_cons, l.len]
/-- a slot is taken out -/
theorem OwnS.out : ∀ {σ : L2.St} {s : S} {A : List Addr} {j : Nat} {o : O}, OwnS T G H τ σ s A → s[j]? = some (some o) → ∃ (v : V) (B C : List Addr), σ[j]? = some (some v) ∧ TagOk τ v o ∧ Own T G H v o B ∧ A.Perm (B ++ C) ∧ OwnS T G H τ σ (s.set j none) C
  | _, _, _, _, _, .nil, h => by simp at h
  | _, _, _, 0, _, .un _, h => by simp at h
  | _, _, _, j + 1, _, .un l, h => by
    obtain ⟨v, B, C, a, t, b, p, c⟩ := l.out (j := j) (by simpa using h)
    exact ⟨v, B, C, by simpa using a, t, b, p, .un c⟩
  | _, _, _, 0, _, .cons t h l, e => by
    simp at e; subst e
    exact ⟨_, _, _, by simp, t, h, List.Perm.refl _, .un l⟩
  | _, _, _, j + 1, _, .cons (A := A0) (B := B0) t h l, e => by
    obtain ⟨v, B, C, a, t2, b, p, c⟩ := l.out (j := j) (by simpa using e)
    refine ⟨v, B, A0 ++ C, by simpa using a, t2, b, ?_, .cons t h c⟩
    have := List.Perm.append_left A0 p
    refine this.trans ?_
    rw [← List.append_assoc, ← List.append_assoc]
    exact List.Perm.append_right C List.perm_append_comm
/-- a slot is set -/
theorem OwnS.set : ∀ {σ : L2.St} {s : S} {C : List Addr} {v : V} {o : O} {B : List Addr} (j : Nat), OwnS T G H τ σ s C → TagOk τ v o → Own T G H v o B → ∃ A D : List Addr, OwnS T G H τ (σ.set j (some v)) (s.set j (some o)) A ∧ (A ++ D).Perm (B ++ C)
  | _, _, _, _, _, B, _, .nil, _, _ => ⟨[], B, .nil, by simp⟩
  | _, _, _, _, _, B, 0, .un (A := A0) l, t, h => ⟨B ++ A0, [], .cons t h l, by simp⟩
  | _, _, _, _, _, B, 0, .cons (A := A0) (B := B0) _ _ l, t, h => ⟨B ++ B0, A0, .cons t h l, by
      rw [List.append_assoc]; exact List.Perm.append_left B List.perm_append_comm⟩
  | _, _, _, _, _, B, j + 1, .un l, t, h => by
    obtain ⟨A, D, a, p⟩ := l.set j t h
    exact ⟨A, D, .un a, p⟩
  | _, _, _, _, _, B, j + 1, .cons (A := A0) (B := B0) t0 h0 l, t, h => by
    obtain ⟨A, D, a, p⟩ := l.set j t h
    refine ⟨A0 ++ A, D, .cons t0 h0 a, ?_⟩
    rw [List.append_assoc]
    refine (List.Perm.append_left A0 p).trans ?_
    rw [← List.append_assoc, ← List.append_assoc]
    exact List.Perm.append_right B0 List.perm_append_comm
theorem TagOk.fr {v : V} {d : D} : TagOk τ v (.fr d) := fun z => absurd (show 2 ≤ 0 from z) (by decide)
/-- an empty slot is filled with what stands there -/
theorem OwnS.fill {σ : L2.St} {s : S} {C : List Addr} {v : V} {o : O} {B : List Addr} {j : Nat} (h : OwnS T G H τ σ s C) (hv : σ[j]? = some (some v)) (t : TagOk τ v o) (ow : Own T G H v o B) : ∃ A D : List Addr, OwnS T G H τ σ (s.set j (some o)) A ∧ (A ++ D).Perm (B ++ C) := by
  obtain ⟨A, D, a, p⟩ := h.set j t ow
  have e : σ.set j (some v) = σ := by
    refine List.ext_getElem? fun i => ?_
    by_cases hi : j = i
    · subst hi
      rw [List.getElem?_set_self (by obtain ⟨z, _⟩ := List.getElem?_eq_some_iff.mp hv; exact z), hv]
    · rw [List.getElem?_set_ne hi]
  rw [e] at a
  exact ⟨A, D, a, p⟩
/-- a slot is forgotten -/
theorem OwnS.drop : ∀ {σ : L2.St} {s : S} {A : List Addr} (j : Nat), OwnS T G H τ σ s A → ∃ C D, OwnS T G H τ σ (s.set j none) C ∧ (C ++ D).Perm A
  | _, _, _, _, .nil => ⟨[], [], .nil, by simp⟩
  | _, _, _, 0, .un l => ⟨_, [], .un l, by simp⟩
  | _, _, _, 0, .cons (A := A0) (B := B0) _ _ l => ⟨B0, A0, .un l, List.perm_append_comm⟩
  | _, _, _, j + 1, .un l => by
    obtain ⟨C, D, c, p⟩ := l.drop j
    exact ⟨C, D, .un c, p⟩
  | _, _, _, j + 1, .cons (A := A0) t h l => by
    obtain ⟨C, D, c, p⟩ := l.drop j
    exact ⟨A0 ++ C, D, .cons t h c, by rw [List.append_assoc]; exact List.Perm.append_left A0 p⟩
theorem Wf.sub {A A' D : List Addr} (w : Wf gb G H A) (p : (A' ++ D).Perm A) : Wf gb G H A' := (w.perm p.symm).left
theorem Stp.sub {G1 H1 : Hp} {A A1 A2 D : List Addr} (x : Stp gb G H A G1 H1 A1) (p : (A2 ++ D).Perm A1) : Stp gb G H A G1 H1 A2 := (x.perm p.symm).less (fun a h => List.mem_append_left _ h) ((List.nodup_append.mp (p.nodup_iff.mpr x.wf.nd)).1)
/-- owned objects change, nothing else -/
theorem Stp.mut {A A' D : List Addr} (w : Wf gb G H A) (k : ∀ a, a ∉ A → H' a = H a) (th : ∀ a ∈ A', ∃ o, H' a = some o) (p : (A' ++ D).Perm A) : Stp gb G H A G H' A' := by
  refine ⟨⟨fun a o e => ?_, (List.nodup_append.mp (p.nodup_iff.mpr w.nd)).1, fun a h => w.ng a (p.mem_iff.mp (List.mem_append_left _ h)), th, w.bd⟩, Ex.refl G, fun a o e n => by rw [k a n]; exact e, fun a o e n => (by rw [n] at e; cases e), fun a h => .inl (p.mem_iff.mp (List.mem_append_left _ h))⟩
  have n : a ∉ A := fun z => by rw [w.ng a z] at e; cases e
  rw [k a n]; exact w.ex a o e

/-- a method that changes its receiver, by values -/
def MuV (T : Tab) (r : V → List V → Hp → VK → Prop) (op : O → List D → Option (O × O)) : Prop :=
  ∀ {gb G H : Hp} {v : V} {o res o' : O} {A : List Addr} {vs : List V} {ds : List D} {Q : VK}, Wf gb G H A → Own T G H v o A → DnL T G vs ds → op o ds = some (res, o') →
    (∀ (z : V) (H' : Hp) (A' B D : List Addr), (∀ a, a ∉ A → H' a = H a) → (A' ++ (B ++ D)).Perm A → Own T G H' v o' A' → Own T G H' z res B → Q z H') → r v vs H Q
def isLst : O → Bool
  | .lst t _ => t != 0
  | _ => false
def eMut (j : Nat) (op : O → List D → Option (O × O)) (g : M (List D)) : M O := fun s => match s[j]? with
  | some (some o) => if isLst o then bnd g (fun ds s1 => match s1[j]? with
    | some (some o1) => (match op o1 ds with
      | some (res, o2) => .ok res (s1.set j (some o2))
      | none => .no)
    | _ => .no) s else .no
  | _ => .no
theorem tr_mut {j : Nat} {op : O → List D → Option (O × O)} {g : M (List D)} {r : V → List V → Hp → VK → Prop} (hv : MuV T r op) (htag : ∀ o ds res o', op o ds = some (res, o') → tag o' = tag o)
    {K : PySem.W.Frag} {σ : L2.St} {H : Hp} {Q : VK} (h : tDE T τ W (eMut j op g) σ H Q) : tBM K "list" r (tVar j) (tDA T τ W g) σ H Q := by
  obtain ⟨G, A, s, w, os, q⟩ := h
  unfold eMut at q
  cases e1 : s[j]? with
  | none => rw [e1] at q; exact q.elim
  | some u =>
    cases u with
    | none => rw [e1] at q; exact q.elim
    | some o =>
      rw [e1] at q
      simp only at q
      split at q
      · rename_i hl
        obtain ⟨v, B, C, hv1, t, ow, pm, os1⟩ := os.out e1
        refine ⟨v, hv1, ?_, ?_⟩
        · cases ow with
          | lst h l => exact .inl ⟨rfl, _, .inl (.inl h)⟩
          | _ => cases hl
        · have q' : tD T τ W (kE T τ Q) (bnd g _) σ H := ⟨G, A, s, w, os, q⟩
          obtain ⟨G0, A0, s0, w0, os0, q0⟩ := A_bind kE_step q'
          refine ⟨G0, A0, s0, w0, os0, ?_⟩
          cases e2 : g s0 with
          | no => rw [e2] at q0; exact q0
          | er x s1 => rw [e2] at q0; exact q0
          | ok ds s1 =>
            rw [e2] at q0
            intro vs G1' H1 A1' z os1' dl'
            obtain ⟨G1, A1, ds1, s2, w2, os2, dl, q1⟩ := q0 vs G1' H1 A1' z os1' dl'
            cases e3 : s2[j]? with
            | none => rw [e3] at q1; exact q1.elim
            | some u =>
              cases u with
              | none => rw [e3] at q1; exact q1.elim
              | some o1 =>
                rw [e3] at q1
                simp only at q1
                cases e4 : op o1 ds1 with
                | none => rw [e4] at q1; exact q1.elim
                | some ro =>
                  obtain ⟨res, o2⟩ := ro
                  rw [e4] at q1
                  obtain ⟨v2, B2, C2, hv2, t2, ow2, pm2, os3⟩ := os2.out e3
                  have ev : v = v2 := Option.some.inj (Option.some.inj (hv1.symm.trans hv2))
                  subst ev
                  have w3 := w2.perm pm2
                  refine hv w3.left ow2 dl e4 fun z H' A' B' D' k pp owA owB => ?_
                  have dis : ∀ a ∈ C2, a ∉ B2 := fun a hc hb => (List.nodup_append.mp w3.nd).2.2 a hb a hc rfl
                  have os4 : OwnS T G1 H' τ σ (s2.set j none) C2 := os3.frame (Ex.refl _) fun a ha => k a (dis a ha)
                  have t3 : TagOk τ v o2 := fun z => by rw [htag _ _ _ _ e4] at z ⊢; exact t2 z
                  obtain ⟨A3, D3, os5, p5⟩ := os4.fill hv2 t3 owA
                  have es : (s2.set j none).set j (some o2) = s2.set j (some o2) := by rw [List.set_set]
                  rw [es] at os5
                  have pt : (A3 ++ B' ++ (D' ++ D3)).Perm A1 := by
                    refine List.Perm.trans ?_ pm2.symm
                    have a1 : (B2 ++ C2).Perm (A' ++ (B' ++ D') ++ C2) := (List.Perm.append_right C2 pp).symm
                    refine List.Perm.trans ?_ a1.symm
                    have a2 : (A3 ++ D3 ++ (B' ++ D')).Perm (A' ++ C2 ++ (B' ++ D')) := List.Perm.append_right _ p5
                    have a3 : (A3 ++ B' ++ (D' ++ D3)).Perm (A3 ++ D3 ++ (B' ++ D')) := by
                      rw [List.append_assoc, List.append_assoc]
                      refine List.Perm.append_left A3 ?_
                      rw [← List.append_assoc]
                      exact List.perm_append_comm
                    have a4 : (A' ++ C2 ++ (B' ++ D')).Perm (A' ++ (B' ++ D') ++ C2) := by
                      rw [List.append_assoc, List.append_assoc]
                      exact List.Perm.append_left A' List.perm_append_comm
                    exact a3.trans (a2.trans a4)
                  have kk : ∀ a, a ∉ A1 → H' a = H1 a := fun a n => k a fun z => n (pm2.mem_iff.mpr (List.mem_append_left _ z))
                  refine q1 z G1 H' A3 B' (Stp.mut w2 kk (fun a ha => ?_) pt) os5 owB
                  rcases List.mem_append.mp ha with h | h
                  · exact os5.there a h
                  · exact owB.there a h
      · exact q.elim
theorem de_mut {j : Nat} {ex : Expr} {op : O → List D → Option (O × O)} {g : M (List D)} {r : V → List V → Hp → VK → Prop} (hv : MuV T r op) (htag : ∀ o ds res o', op o ds = some (res, o') → tag o' = tag o)
    (pe : PE X ex (tBM X.K "list" r (tVar j) (tDA T τ W g))) : PE X ex (tDE T τ W (eMut j op g)) := pe.weak fun σ H Q h => tr_mut hv htag h
theorem de_mut0 {j : Nat} {ex : Expr} {op : O → List D → Option (O × O)} {r : V → List V → Hp → VK → Prop} (hv : MuV T r op) (htag : ∀ o ds res o', op o ds = some (res, o') → tag o' = tag o)
    (pe : PE X ex (tBM0 X.K "list" r (tVar j))) : PE X ex (tDE T τ W (eMut j op aNil)) := pe.weak fun σ H Q h => by
  obtain ⟨v, hv1, ty, ⟨G, A, s, w, os, p⟩⟩ := tr_mut (K := X.K) hv htag h
  exact ⟨v, hv1, ty, p [] G H A (Stp.refl w) os .nil⟩

/-! ### the methods -/
def mAppend : O → List D → Option (O × O)
  | .lst t os, [d] => if os.length < 100000 then some (.fr .non, .lst t (os ++ [.fr d])) else none
  | _, _ => none
theorem ownL_app {vs ws : List V} : ∀ {os : List O} {ps : List O} {A B : List Addr}, OwnL T G H vs os A → OwnL T G H ws ps B → OwnL T G H (vs ++ ws) (os ++ ps) (A ++ B) := by
  induction vs with
  | nil => intro os ps A B h l; cases h; exact l
  | cons v vs ih =>
    intro os ps A B h l
    cases h with
    | cons i a b => rw [List.append_assoc]; exact .cons i a (ih b l)
theorem mv_append : MuV T rAppend mAppend := by
  intro gb G H v o res o' A vs ds Q w ow dl h k
  unfold mAppend at h
  split at h
  · rename_i t os d
    split at h
    · rename_i c
      cases h
      cases dl with
      | cons a l =>
        cases l
        cases ow with
        | lst e l =>
          rename_i v1 ad ws A0
          have hne : ad ∉ A0 := (List.nodup_cons.mp w.nd).1
          refine ⟨ad, ws, _, rfl, rfl, e, by rw [l.len]; exact bigl c, ?_⟩
          refine k .non _ (ad :: A0) [] [] (fun a ha => upd_ne fun z => ha (z ▸ List.mem_cons_self)) (by simp) ?_ (.fr .non)
          have l' := l.frame (G' := G) (H' := upd H ad (.lst (ws ++ [v1]))) (Ex.refl _) fun a ha => upd_ne fun z => hne (z ▸ ha)
          have := ownL_app (ps := [.fr d]) (B := []) l' (ownL_fr (T := T) (G := G) (.cons a .nil))
          rw [List.append_nil] at this
          exact .lst upd_same this
    · cases h
  · cases h
theorem tg_append : ∀ o ds res o', mAppend o ds = some (res, o') → tag o' = tag o := by
  intro o ds res o' h
  unfold mAppend at h
  split at h
  · split at h
    · cases h; rfl
    · cases h
  · cases h
/-- an item taken out -/
theorem ownL_take : ∀ {vs : List V} {os : List O} {A : List Addr} {i : Nat} {o : O}, OwnL T G H vs os A → os[i]? = some o → ∃ (v : V) (B C : List Addr), vs[i]? = some v ∧ Own T G H v o B ∧ OwnL T G H (vs.eraseIdx i) (os.eraseIdx i) C ∧ A.Perm (C ++ B)
  | _, _, _, _, _, .nil, h => by simp at h
  | _, _, _, 0, _, .cons _ h l, e => by
    simp at e; subst e
    exact ⟨_, _, _, by simp, h, by simpa using l, List.perm_append_comm⟩
  | _, _, _, i + 1, _, .cons (A := A0) ii h l, e => by
    obtain ⟨v, B, C, a, b, c, p⟩ := ownL_take l (i := i) (by simpa using e)
    exact ⟨v, B, A0 ++ C, by simpa using a, b, by simpa using .cons ii h c, by rw [List.append_assoc]; exact List.Perm.append_left A0 p⟩
def mPopAt : O → List D → Option (O × O)
  | .lst t os, [.int i] => (if -(2 ^ 63) ≤ i ∧ i < 2 ^ 63 then seqIndex? i os.length else none).bind fun k => (os[k]?).map fun o => (o, .lst t (os.eraseIdx k))
  | _, _ => none
def mPop : O → List D → Option (O × O)
  | .lst t os, [] => (os[os.length - 1]?).map fun o => (o, .lst t os.dropLast)
  | _, _ => none
theorem take_end {ad : Addr} {t : Nat} {ws : List V} {os : List O} {A0 : List Addr} {i : Nat} {o : O} {Q : VK} (w : Wf gb G H (ad :: A0)) (e : H ad = some (.lst ws)) (l : OwnL T G H ws os A0) (h : os[i]? = some o)
    (k : ∀ (z : V) (H' : Hp) (A' B D : List Addr), (∀ a, a ∉ ad :: A0 → H' a = H a) → (A' ++ (B ++ D)).Perm (ad :: A0) → Own T G H' (.ref ad) (.lst t (os.eraseIdx i)) A' → Own T G H' z o B → Q z H') : ∃ v, ws[i]? = some v ∧ Q v (upd H ad (.lst (ws.eraseIdx i))) := by
  obtain ⟨v, B, C, a, b, c, p⟩ := ownL_take l h
  refine ⟨v, a, ?_⟩
  have hne : ad ∉ A0 := (List.nodup_cons.mp w.nd).1
  have keep : ∀ a ∈ A0, upd H ad (.lst (ws.eraseIdx i)) a = H a := fun a ha => upd_ne fun z => hne (z ▸ ha)
  refine k v _ (ad :: C) B [] (fun a ha => upd_ne fun z => ha (z ▸ List.mem_cons_self)) ?_ (.lst upd_same (c.frame (Ex.refl _) fun a ha => keep a (p.mem_iff.mpr (List.mem_append_left _ ha)))) (b.frame (Ex.refl _) fun a ha => keep a (p.mem_iff.mpr (List.mem_append_right _ ha)))
  rw [List.append_nil]
  exact List.Perm.cons ad p.symm
theorem mv_popAt : MuV T rPopAt mPopAt := by
  intro gb G H v o res o' A vs ds Q w ow dl h k
  unfold mPopAt at h
  split at h
  · rename_i t os i
    cases dl with
    | cons a l =>
      cases l; cases a
      cases ow with
      | lst e l =>
        rename_i ad ws A0
        split at h
        · rename_i c
          cases e1 : seqIndex? i os.length with
          | none => rw [e1] at h; cases h
          | some j =>
            rw [e1] at h
            simp only [Option.bind_some] at h
            cases e2 : os[j]? with
            | none => rw [e2] at h; cases h
            | some z =>
              rw [e2] at h; cases h
              obtain ⟨y, h1, h2⟩ := take_end w e l e2 k
              exact ⟨ad, ws, i, j, y, rfl, rfl, e, c.1, c.2, by rw [l.len]; exact e1, h1, h2⟩
        · cases h
  · cases h
theorem mv_pop : MuV T rPop mPop := by
  intro gb G H v o res o' A vs ds Q w ow dl h k
  unfold mPop at h
  split at h
  · rename_i t os
    cases dl
    cases ow with
    | lst e l =>
      rename_i ad ws A0
      cases e2 : os[os.length - 1]? with
      | none => rw [e2] at h; cases h
      | some z =>
        rw [e2] at h; cases h
        have ed : os.eraseIdx (os.length - 1) = os.dropLast := by rw [List.eraseIdx_eq_dropLast]; have := (List.getElem?_eq_some_iff.mp e2).1; omega
        rw [← ed] at k
        obtain ⟨y, h1, h2⟩ := take_end w e l e2 k
        have hl := l.len
        have ed2 : ws.eraseIdx (os.length - 1) = ws.dropLast := by rw [List.eraseIdx_eq_dropLast]; have := (List.getElem?_eq_some_iff.mp e2).1; omega
        rw [ed2] at h2
        exact ⟨ad, ws, y, rfl, rfl, e, by rw [hl]; exact h1, h2⟩
  · cases h
theorem tg_popAt : ∀ o ds res o', mPopAt o ds = some (res, o') → tag o' = tag o := by
  intro o ds res o' h
  unfold mPopAt at h
  split at h
  · obtain ⟨k, _, h⟩ := Option.bind_eq_some_iff.mp h
    obtain ⟨o2, _, h⟩ := Option.map_eq_some_iff.mp h
    cases h; rfl
  · cases h
theorem tg_pop : ∀ o ds res o', mPop o ds = some (res, o') → tag o' = tag o := by
  intro o ds res o' h
  unfold mPop at h
  split at h
  · obtain ⟨o2, _, h⟩ := Option.map_eq_some_iff.mp h
    cases h; rfl
  · cases h
def mReverse : O → List D → Option (O × O)
  | .lst t os, [] => some (.fr .non, .lst t os.reverse)
  | _, _ => none
theorem ownL_perm_rev {vs : List V} : ∀ {os : List O} {A : List Addr}, OwnL T G H vs os A → ∃ B, OwnL T G H vs.reverse os.reverse B ∧ B.Perm A := by
  induction vs with
  | nil => intro os A h; cases h; exact ⟨[], .nil, List.Perm.refl _⟩
  | cons v vs ih =>
    intro os A h
    cases h with
    | @cons _ _ o os' A0 B0 ii a b =>
      obtain ⟨B, l, p⟩ := ih b
      rw [List.reverse_cons, List.reverse_cons]
      refine ⟨B ++ A0, ?_, List.perm_append_comm.trans (List.Perm.append_left A0 p)⟩
      have := ownL_app l (OwnL.cons ii a .nil)
      rw [List.append_nil] at this
      exact this
theorem mv_reverse : MuV T rReverse mReverse := by
  intro gb G H v o res o' A vs ds Q w ow dl h k
  unfold mReverse at h
  split at h
  · cases h
    cases dl
    cases ow with
    | lst e l =>
      rename_i ad ws A0
      have hne : ad ∉ A0 := (List.nodup_cons.mp w.nd).1
      obtain ⟨B, l', p⟩ := ownL_perm_rev l
      refine ⟨ad, ws, rfl, rfl, e, ?_⟩
      refine k .non _ (ad :: B) [] [] (fun a ha => upd_ne fun z => ha (z ▸ List.mem_cons_self)) (by rw [List.append_nil, List.append_nil]; exact List.Perm.cons ad p) ?_ (.fr .non)
      exact .lst upd_same (l'.frame (Ex.refl _) fun a ha => upd_ne fun z => hne (z ▸ p.mem_iff.mp ha))
  · cases h
theorem tg_reverse : ∀ o ds res o', mReverse o ds = some (res, o') → tag o' = tag o := by
  intro o ds res o' h
  unfold mReverse at h
  split at h
  · cases h; rfl
  · cases h
def mExtend : O → List D → Option (O × O)
  | .lst t os, [.lst ds] => if os.length + ds.length ≤ 100000 then some (.fr .non, .lst t (os ++ ds.map .fr)) else none
  | _, _ => none
theorem mv_extend : MuV T rExtend mExtend := by
  intro gb G H v o res o' A vs ds Q w ow dl h k
  unfold mExtend at h
  split at h
  · rename_i t os es
    split at h
    · rename_i c
      cases h
      cases dl with
      | cons a l =>
        cases l
        obtain ⟨b, zs, rfl, eb, lb⟩ := a.sqL
        cases ow with
        | lst e l =>
          rename_i ad ws A0
          have hne : ad ∉ A0 := (List.nodup_cons.mp w.nd).1
          refine ⟨ad, b, ws, zs, rfl, rfl, e, w.ex _ _ eb, by rw [l.len, lb.len]; exact big c, ?_⟩
          refine k .non _ (ad :: A0) [] [] (fun a ha => upd_ne fun z => ha (z ▸ List.mem_cons_self)) (by simp) ?_ (.fr .non)
          have l' := l.frame (G' := G) (H' := upd H ad (.lst (ws ++ zs))) (Ex.refl _) fun a ha => upd_ne fun z => hne (z ▸ ha)
          have := ownL_app (B := []) l' (ownL_fr (T := T) (G := G) lb)
          rw [List.append_nil] at this
          exact .lst upd_same this
    · cases h
  · cases h
theorem tg_extend : ∀ o ds res o', mExtend o ds = some (res, o') → tag o' = tag o := by
  intro o ds res o' h
  unfold mExtend at h
  split at h
  · split at h
    · cases h; rfl
    · cases h
  · cases h
end
end DF
end

section
set_option maxRecDepth 100000
set_option maxHeartbeats 4000000
namespace DF
open PySem PySem.Spec PyProof.Rows L2

/-! ### a view of the slots: fv read, frozen for the while; M as they are; the rest hidden -/
mutual
/-- no list (k = 0), dict (1), instance (2) within -/
def cl (k : Nat) : D → Bool
  | .tup ds => clL k ds
  | .lst ds => k != 0 && clL k ds
  | .rol ds => k != 0 && clL k ds
  | .dk _ ds => k != 1 && clL k ds
  | .dt _ ds => k != 1 && clL k ds
  | .ins _ _ ds => k != 2 && clL k ds
  | .ex _ _ ds => clL k ds
  | _ => true
def clL (k : Nat) : List D → Bool
  | [] => true
  | d :: ds => cl k d && clL k ds
end
mutual
def clO (k : Nat) : O → Bool
  | .fr d => cl k d
  | .lst _ os => clOL k os
  | .dk _ _ ds => clL k ds
  | .dt _ _ ds => clL k ds
  | .ins _ _ _ ds => clL k ds
  | .hd _ => true
def clOL (k : Nat) : List O → Bool
  | [] => true
  | o :: os => clO k o && clOL k os
end
def hk : HO → Nat
  | .lst _ => 0
  | .dK _ => 1
  | .dT _ => 1
  | .ins _ _ _ => 2
  | _ => 3
def kd : O → Option Nat
  | .fr _ => none
  | .lst _ _ => some 0
  | .dk _ _ _ => some 1
  | .dt _ _ _ => some 1
  | .ins _ _ _ _ => some 2
  | .hd _ => none
def sel (p : Nat → Bool) : Nat → S → S
  | _, [] => []
  | n, x :: r => (if p n then x else none) :: sel p (n + 1) r
def joinS : S → S → S
  | some o :: r, _ :: r' => some o :: joinS r r'
  | none :: r, y :: r' => y :: joinS r r'
  | _, _ => []
def frzS (s : S) : S := s.map (Option.map fun o => .fr (fz o))
def kinds (s : S) : List Nat := s.filterMap fun x => x.bind kd
def clS (k : Nat) (s : S) : Bool := s.all fun x => match x with
  | none => true
  | some o => clO k o
def inM (M : List Nat) (i : Nat) : Bool := M.contains i
def inV (fv M : List Nat) (i : Nat) : Bool := fv.contains i && !M.contains i
def inH (fv M : List Nat) (i : Nat) : Bool := !(M.contains i || (fv.contains i && !M.contains i))
/-- the viewed part as it was, or frozen where the value may hold on to it -/
def settle (fv M : List Nat) (c : Nat → Bool) (s s1 : S) : S :=
  joinS (sel (inM M) 0 s1) (joinS (if (kinds (sel (inV fv M) 0 s)).all fun k => c k && clS k (sel (inM M) 0 s1) then sel (inV fv M) 0 s else frzS (sel (inV fv M) 0 s)) (sel (inH fv M) 0 s))
def mask (fv M : List Nat) (s : S) : S := joinS (sel (inM M) 0 s) (frzS (sel (inV fv M) 0 s))
def evG {α : Type} (c : Nat → α → Bool) (fv ms : List Nat) (f : M α) : M α := fun s => match f (mask fv ms s) with
  | .no => .no
  | .ok o s1 => .ok o (settle fv ms (fun k => c k o) s s1)
  | .er x s1 => .er x (settle fv ms (fun k => clL k x.ds) s s1)
abbrev ev (fv ms : List Nat) (f : M O) : M O := evG clO fv ms f
abbrev evT (fv ms : List Nat) (f : M Bool) : M Bool := evG (fun _ _ => true) fv ms f

section
variable {T : Tab} {τ : Th} {W : WX} {X : Cx} {G H G' H' : Hp}
theorem OwnS.split : ∀ (p : Nat → Bool) {σ : L2.St} {s : S} {A : List Addr} (n : Nat), OwnS T G H τ σ s A → ∃ B C, A.Perm (B ++ C) ∧ OwnS T G H τ σ (sel p n s) B ∧ OwnS T G H τ σ (sel (fun i => !p i) n s) C
  | _, _, _, _, _, .nil => ⟨[], [], List.Perm.refl _, .nil, .nil⟩
  | p, _, _, _, n, .un l => by
    obtain ⟨B, C, q, a, b⟩ := l.split p (n + 1)
    refine ⟨B, C, q, ?_, ?_⟩
    · unfold sel; split <;> exact .un a
    · unfold sel; split <;> exact .un b
  | p, _, _, _, n, .cons (A := A0) t h l => by
    obtain ⟨B, C, q, a, b⟩ := l.split p (n + 1)
    unfold sel
    cases e : p n with
    | true => exact ⟨A0 ++ B, C, by rw [List.append_assoc]; exact List.Perm.append_left A0 q, .cons t h a, .un b⟩
    | false =>
      refine ⟨B, A0 ++ C, ?_, .un a, .cons t h b⟩
      refine (List.Perm.append_left A0 q).trans ?_
      rw [← List.append_assoc, ← List.append_assoc]
      exact List.Perm.append_right C List.perm_append_comm
theorem OwnS.join : ∀ {σ : L2.St} {s s' : S} {B C : List Addr}, OwnS T G H τ σ s B → OwnS T G H τ σ s' C → ∃ A D, (A ++ D).Perm (B ++ C) ∧ OwnS T G H τ σ (joinS s s') A
  | _, _, _, _, _, .nil, .nil => ⟨[], [], List.Perm.refl _, .nil⟩
  | _, _, _, _, _, .un l, .un m => by
    obtain ⟨A, D, q, a⟩ := l.join m
    exact ⟨A, D, q, .un a⟩
  | _, _, _, _, _, .un (A := B0) l, .cons (A := A0) (B := C0) t h m => by
    obtain ⟨A, D, q, a⟩ := l.join m
    refine ⟨A0 ++ A, D, ?_, .cons t h a⟩
    rw [List.append_assoc]
    refine (List.Perm.append_left A0 q).trans ?_
    rw [← List.append_assoc, ← List.append_assoc]
    exact List.Perm.append_right C0 List.perm_append_comm
  | _, _, _, _, _, .cons (A := A0) t h l, .un m => by
    obtain ⟨A, D, q, a⟩ := l.join m
    exact ⟨A0 ++ A, D, by rw [List.append_assoc, List.append_assoc]; exact List.Perm.append_left A0 q, .cons t h a⟩
  | _, _, _, _, _, .cons (A := A0) (B := B0) t h l, .cons (A := A1) (B := B1) t' h' m => by
    obtain ⟨A, D, q, a⟩ := l.join m
    refine ⟨A0 ++ A, D ++ A1, ?_, .cons t h a⟩
    rw [List.append_assoc, List.append_assoc]
    refine List.Perm.append_left A0 ?_
    rw [← List.append_assoc]
    refine (List.Perm.append_right A1 q).trans ?_
    rw [List.append_assoc]
    exact List.Perm.append_left B0 List.perm_append_comm
theorem OwnS.frzS {σ : L2.St} : ∀ {σ : L2.St} {s : S} {A : List Addr}, OwnS T G H τ σ s A → Ex G G' → (∀ a ∈ A, ∀ o, H a = some o → G' a = some o) → OwnS T G' H' τ σ (frzS s) []
  | _, _, _, .nil, _, _ => .nil
  | _, _, _, .un l, e, k => .un (OwnS.frzS (σ := σ) l e k)
  | _, _, _, .cons t h l, e, k => .cons (A := []) TagOk.fr (.fr (h.freeze e fun a ha => k a (List.mem_append_left _ ha))) (OwnS.frzS (σ := σ) l e fun a ha => k a (List.mem_append_right _ ha))
mutual
theorem Dn.thin {k : Nat → Bool} (h3 : k 3 = false) (ke : ∀ a u, G a = some u → k (hk u) = false → G' a = some u) : ∀ {v : V} {d : D}, Dn T G v d → (∀ j, k j = true → cl j d = true) → Dn T G' v d
  | _, _, .non, _ => .non
  | _, _, .bl b, _ => .bl b
  | _, _, .int i, _ => .int i
  | _, _, .str s, _ => .str s
  | _, _, .ty n, _ => .ty n
  | _, _, .cl n, _ => .cl n
  | _, _, .tup h l, c => .tup (ke _ _ h h3) (DnL.thin h3 ke l c)
  | _, _, .tupE h, _ => .tupE (h.imp (fun z => z.imp (fun z => ke _ _ z h3) fun ⟨o, z⟩ => ⟨o, ke _ _ z h3⟩) id)
  | _, _, .lst h l, c => .lst (ke _ _ h (by
      cases e : k 0 with
      | false => exact e
      | true => have := c 0 e; simp [DF.cl] at this)) (DnL.thin h3 ke l fun j hj => by have := c j hj; simp only [DF.cl, Bool.and_eq_true] at this; exact this.2)
  | _, _, .rol h l, c => .rol (h.imp (fun z => z.imp (fun z => ke _ _ z (by
      cases e : k 0 with
      | false => exact e
      | true => have := c 0 e; simp [DF.cl] at this)) fun ⟨o, z⟩ => ⟨o, ke _ _ z h3⟩) id) (DnL.thin h3 ke l fun j hj => by have := c j hj; simp only [DF.cl, Bool.and_eq_true] at this; exact this.2)
  | _, _, .dk h l, c => .dk (ke _ _ h (by
      cases e : k 1 with
      | false => exact e
      | true => have := c 1 e; simp [DF.cl] at this)) (DnL.thin h3 ke l fun j hj => by have := c j hj; simp only [DF.cl, Bool.and_eq_true] at this; exact this.2)
  | _, _, .dt h l, c => .dt (ke _ _ h (by
      cases e : k 1 with
      | false => exact e
      | true => have := c 1 e; simp [DF.cl] at this)) (DnL.thin h3 ke l fun j hj => by have := c j hj; simp only [DF.cl, Bool.and_eq_true] at this; exact this.2)
  | _, _, .ins h n l, c => .ins (ke _ _ h (by
      cases e : k 2 with
      | false => exact e
      | true => have := c 2 e; simp [DF.cl] at this)) n (DnL.thin h3 ke l fun j hj => by have := c j hj; simp only [DF.cl, Bool.and_eq_true] at this; exact this.2)
  | _, _, .ex h h2 n l, c => .ex (ke _ _ h h3) (ke _ _ h2 h3) n (DnL.thin h3 ke l c)
  | _, _, .ex0 h, _ => .ex0 (ke _ _ h h3)
  | _, _, .any v, _ => .any v
theorem DnL.thin {k : Nat → Bool} (h3 : k 3 = false) (ke : ∀ a u, G a = some u → k (hk u) = false → G' a = some u) : ∀ {v : List V} {d : List D}, DnL T G v d → (∀ j, k j = true → clL j d = true) → DnL T G' v d
  | _, _, .nil, _ => .nil
  | _, _, .cons h l, c => .cons (Dn.thin h3 ke h fun j hj => by have := c j hj; simp only [clL, Bool.and_eq_true] at this; exact this.1) (DnL.thin h3 ke l fun j hj => by have := c j hj; simp only [clL, Bool.and_eq_true] at this; exact this.2)
end
mutual
theorem Own.thin {k : Nat → Bool} (h3 : k 3 = false) (ke : ∀ a u, G a = some u → k (hk u) = false → G' a = some u) : ∀ {v : V} {o : O} {A : List Addr}, Own T G H v o A → (∀ j, k j = true → clO j o = true) → Own T G' H v o A
  | _, _, _, .fr h, c => .fr (h.thin h3 ke c)
  | _, _, _, .lst h l, c => .lst h (OwnL.thin h3 ke l c)
  | _, _, _, .dk h l, c => .dk h (l.thin h3 ke c)
  | _, _, _, .dt h l, c => .dt h (l.thin h3 ke c)
  | _, _, _, .ins h n l, c => .ins h n (l.thin h3 ke c)
  | _, _, _, .hd v t, _ => .hd v t
theorem OwnL.thin {k : Nat → Bool} (h3 : k 3 = false) (ke : ∀ a u, G a = some u → k (hk u) = false → G' a = some u) : ∀ {v : List V} {o : List O} {A : List Addr}, OwnL T G H v o A → (∀ j, k j = true → clOL j o = true) → OwnL T G' H v o A
  | _, _, _, .nil, _ => .nil
  | _, _, _, .cons i h l, c => .cons i (Own.thin h3 ke h fun j hj => by have := c j hj; simp only [clOL, Bool.and_eq_true] at this; exact this.1) (OwnL.thin h3 ke l fun j hj => by have := c j hj; simp only [clOL, Bool.and_eq_true] at this; exact this.2)
end
theorem OwnS.thin {k : Nat → Bool} (h3 : k 3 = false) (ke : ∀ a u, G a = some u → k (hk u) = false → G' a = some u) : ∀ {σ : L2.St} {s : S} {A : List Addr}, OwnS T G H τ σ s A → (∀ j, k j = true → clS j s = true) → OwnS T G' H τ σ s A
  | _, _, _, .nil, _ => .nil
  | _, _, _, .un l, c => .un (l.thin h3 ke fun j hj => by have := c j hj; simpa [clS] using this)
  | _, _, _, .cons t h l, c => .cons t (h.thin h3 ke fun j hj => by have := c j hj; unfold clS at this; rw [List.all_cons, Bool.and_eq_true] at this; exact this.1) (l.thin h3 ke fun j hj => by have := c j hj; unfold clS at this; rw [List.all_cons, Bool.and_eq_true] at this; exact this.2)
mutual
theorem Own.kind : ∀ {v : V} {o : O} {A : List Addr}, Own T G H v o A → ∀ a ∈ A, ∃ u k, H a = some u ∧ kd o = some k ∧ hk u = k
  | _, _, _, .fr _, _, h => nomatch h
  | _, _, _, .lst h l, a, ha => (List.mem_cons.mp ha).elim (fun e => ⟨_, 0, e ▸ h, rfl, rfl⟩) (fun e => by
      obtain ⟨u, h1, h2⟩ := OwnL.kind l a e
      exact ⟨u, 0, h1, rfl, h2⟩)
  | _, _, _, .dk h _, a, ha => ⟨_, 1, (List.mem_singleton.mp ha) ▸ h, rfl, rfl⟩
  | _, _, _, .dt h _, a, ha => ⟨_, 1, (List.mem_singleton.mp ha) ▸ h, rfl, rfl⟩
  | _, _, _, .ins h _ _, a, ha => ⟨_, 2, (List.mem_singleton.mp ha) ▸ h, rfl, rfl⟩
theorem OwnL.kind : ∀ {vs : List V} {os : List O} {A : List Addr}, OwnL T G H vs os A → ∀ a ∈ A, ∃ u, H a = some u ∧ hk u = 0
  | _, _, _, .nil, _, h => nomatch h
  | _, _, _, .cons (o := o) i h l, a, ha => (List.mem_append.mp ha).elim (fun e => by
      obtain ⟨u, k, h1, h2, h3⟩ := Own.kind h a e
      cases o with
      | fr d => cases h2
      | lst t os => cases h2; exact ⟨u, h1, h3⟩
      | _ => cases i) (OwnL.kind l a)
end
theorem OwnS.kind : ∀ {σ : L2.St} {s : S} {A : List Addr}, OwnS T G H τ σ s A → ∀ a ∈ A, ∃ u, H a = some u ∧ hk u ∈ kinds s
  | _, _, _, .nil, _, h => nomatch h
  | _, _, _, .un l, a, ha => by
    obtain ⟨u, h1, h2⟩ := l.kind a ha
    exact ⟨u, h1, by simpa [kinds] using h2⟩
  | _, _, _, .cons (o := o) t h l, a, ha => by
    rcases List.mem_append.mp ha with e | e
    · obtain ⟨u, k, h1, h2, h3⟩ := h.kind a e
      refine ⟨u, h1, ?_⟩
      unfold kinds
      simp only [List.filterMap_cons, Option.bind_some, h2, h3, List.mem_cons, true_or]
    · obtain ⟨u, h1, h2⟩ := l.kind a e
      refine ⟨u, h1, ?_⟩
      unfold kinds at h2 ⊢
      rw [List.filterMap_cons]
      split
      · exact h2
      · exact List.mem_cons_of_mem _ h2
theorem kinds_3 (s : S) : 3 ∉ kinds s := by
  unfold kinds
  intro h
  obtain ⟨x, _, e⟩ := List.mem_filterMap.mp h
  cases x with
  | none => cases e
  | some o => cases o <;> cases e
noncomputable def cutG (G : Hp) (A : List Addr) : Hp := fun a => open Classical in if a ∈ A then none else G a
theorem cutG_in {A : List Addr} {a : Addr} (h : a ∈ A) : cutG G A a = none := by unfold cutG; rw [if_pos h]
theorem cutG_out {A : List Addr} {a : Addr} (h : a ∉ A) : cutG G A a = G a := by unfold cutG; rw [if_neg h]
theorem ite3 {α : Type} (m f : Bool) (x y : α) : (if (!(f && !m)) = true then (if (!m) = true then x else y) else y) = if (!(m || (f && !m))) = true then x else y := by cases m <;> cases f <;> rfl
theorem ite4 {α : Type} (m f : Bool) (x y : α) : (if (f && !m) = true then (if (!m) = true then x else y) else y) = if (f && !m) = true then x else y := by cases m <;> cases f <;> rfl
theorem sel_hid (fv M : List Nat) : ∀ (n : Nat) (s : S), sel (fun i => !inV fv M i) n (sel (fun i => !inM M i) n s) = sel (inH fv M) n s
  | _, [] => rfl
  | n, x :: r => by
    simp only [sel, sel_hid fv M (n + 1) r]
    refine congrArg (· :: _) ?_
    exact ite3 (M.contains n) (fv.contains n) x none
theorem sel_view (fv M : List Nat) : ∀ (n : Nat) (s : S), sel (inV fv M) n (sel (fun i => !inM M i) n s) = sel (inV fv M) n s
  | _, [] => rfl
  | n, x :: r => by
    simp only [sel, sel_view fv M (n + 1) r]
    refine congrArg (· :: _) ?_
    exact ite4 (M.contains n) (fv.contains n) x none
/-- THE VIEW: from the outcome of f on the masked slots to that on all of them -/
theorem view_ok {fv M : List Nat} {σ : L2.St} {s : S} {A : List Addr} (w : Wf τ.gb G H A) (os : OwnS T G H τ σ s A) :
    ∃ (G0 : Hp) (A0 : List Addr), Ex G G0 ∧ Wf τ.gb G0 H A0 ∧ OwnS T G0 H τ σ (mask fv M s) A0 ∧
      ∀ (c : Nat → Bool) (s1 : S) (G1 H1 : Hp) (A1 B : List Addr), Stp τ.gb G0 H A0 G1 H1 (A1 ++ B) → OwnS T G1 H1 τ σ s1 A1 →
        ∃ (G2 : Hp) (A2 : List Addr), Stp τ.gb G H A G2 H1 (A2 ++ B) ∧ OwnS T G2 H1 τ σ (settle fv M c s s1) A2 ∧
          (∀ {v : V} {o : O} {B' : List Addr}, Own T G1 H1 v o B' → (∀ j, c j = true → clO j o = true) → Own T G2 H1 v o B') ∧
          (∀ {vs : List V} {ds : List D}, DnL T G1 vs ds → (∀ j, c j = true → clL j ds = true) → DnL T G2 vs ds) ∧ (∀ a xs, G1 a = some (.xd xs) → G2 a = some (.xd xs)) := by
  obtain ⟨Am, An, p1, om, on⟩ := os.split (inM M) 0
  obtain ⟨Av, Ah, p2, ov, oh⟩ := on.split (inV fv M) 0
  rw [sel_view] at ov
  rw [sel_hid] at oh
  have pA : A.Perm (Am ++ (Av ++ Ah)) := p1.trans (List.Perm.append_left Am p2)
  have w1 := w.perm pA
  -- the ghost: the viewed part frozen
  have pB : (Am ++ (Av ++ Ah)).Perm ((Am ++ Ah) ++ Av) := by
    rw [List.append_assoc]; exact List.Perm.append_left Am List.perm_append_comm
  have w2 := w1.perm pB
  have fst := frz_step w2
  have ex0 : Ex G (frz G H Av) := fst.gg
  have om0 : OwnS T (frz G H Av) H τ σ (sel (inM M) 0 s) Am := om.frame ex0 fun _ _ => rfl
  have ov0 : OwnS T (frz G H Av) H τ σ (frzS (sel (inV fv M) 0 s)) [] := ov.frzS (σ := σ) ex0 fun a ha o e => by rw [frz_in ha]; exact e
  obtain ⟨A0, D0, q0, omask⟩ := om0.join ov0
  rw [List.append_nil] at q0
  have wAm : Wf τ.gb (frz G H Av) H Am := fst.wf.left
  refine ⟨frz G H Av, A0, ex0, wAm.sub q0, omask, fun c s1 G1 H1 A1 B z os1 => ?_⟩
  -- widen the step: from Am (A0 and the rest of it), Ah beside
  have z1 : Stp τ.gb (frz G H Av) H Am G1 H1 (A1 ++ B) := by
    refine ⟨z.wf, z.gg, fun a o e n => z.fr a o e fun h => n (q0.mem_iff.mp (List.mem_append_left _ h)), fun a o e n => (z.gn a o e n).imp (fun h => q0.mem_iff.mp (List.mem_append_left _ h)) id, fun a h => (z.na a h).imp (fun h => q0.mem_iff.mp (List.mem_append_left _ h)) id⟩
  obtain ⟨z2, keepH⟩ := z1.beside (C := Ah) fst.wf
  obtain ⟨B1, B2, q1, osm, _⟩ := os1.split (inM M) 0
  have exV : Ex G G1 := ex0.trans z.gg
  have ohn : ∀ (G2 : Hp), Ex G G2 → OwnS T G2 H1 τ σ (sel (inH fv M) 0 s) Ah := fun G2 e => oh.frame e keepH
  have whole : Stp τ.gb G H (Am ++ Ah ++ Av) G1 H1 (A1 ++ B ++ Ah) := fst.trans z2
  have wholeA : ∀ {G2 : Hp} {A2 : List Addr}, Stp τ.gb G H (Am ++ Ah ++ Av) G2 H1 A2 → Stp τ.gb G H A G2 H1 A2 := fun {G2 A2} x =>
    ⟨x.wf, x.gg, fun a o e n => x.fr a o e fun h => n ((pA.trans pB).mem_iff.mpr h), fun a o e n => (x.gn a o e n).imp (fun h => (pA.trans pB).mem_iff.mpr h) id, fun a h => (x.na a h).imp (fun h => (pA.trans pB).mem_iff.mpr h) id⟩
  unfold settle
  split
  · -- nothing holds on to the viewed part
    rename_i hc
    have hc1 : ∀ k ∈ kinds (sel (inV fv M) 0 s), c k = true ∧ clS k (sel (inM M) 0 s1) = true := fun k hk => Bool.and_eq_true_iff.mp (List.all_eq_true.mp hc k hk)
    obtain ⟨kk, hkk⟩ : ∃ kk : Nat → Bool, kk = fun j => (kinds (sel (inV fv M) 0 s)).contains j := ⟨_, rfl⟩
    have k3 : kk 3 = false := by
      rw [hkk]
      exact Bool.eq_false_iff.mpr fun z => kinds_3 _ (List.contains_iff_mem.mp z)
    have kin : ∀ j, kk j = true → j ∈ kinds (sel (inV fv M) 0 s) := fun j h => by rw [hkk] at h; exact List.contains_iff_mem.mp h
    have avH1 : ∀ a ∈ Av, H1 a = H a := fun a ha => by
      obtain ⟨o, e⟩ := ov.there a ha
      rw [e]
      exact z2.fr a o e fun h => (List.nodup_append.mp w2.nd).2.2 a h a ha rfl
    have ke : ∀ a u, G1 a = some u → kk (hk u) = false → cutG G1 Av a = some u := fun a u e h => by
      by_cases ha : a ∈ Av
      · obtain ⟨u', e1, e2⟩ := ov.kind a ha
        have e3 : H1 a = some u' := by rw [avH1 a ha]; exact e1
        have e4 := z.wf.ex a u e
        rw [e3] at e4; cases e4
        have h' : (kinds (sel (inV fv M) 0 s)).contains (hk u) = false := by rw [hkk] at h; exact h
        rw [List.contains_iff_mem.mpr e2] at h'; cases h'
      · rw [cutG_out ha]; exact e
    have exC : Ex G (cutG G1 Av) := fun a o e => by
      have ha : a ∉ Av := fun h => by rw [w2.ng a (List.mem_append_right _ h)] at e; cases e
      rw [cutG_out ha]; exact exV a o e
    have osm2 : OwnS T (cutG G1 Av) H1 τ σ (sel (inM M) 0 s1) B1 := osm.thin k3 ke fun j h => (hc1 j (kin j h)).2
    have ov2 : OwnS T (cutG G1 Av) H1 τ σ (sel (inV fv M) 0 s) Av := ov.frame exC avH1
    obtain ⟨C1, E1, r1, oj1⟩ := ov2.join (ohn _ exC)
    obtain ⟨C2, E2, r2, oj2⟩ := osm2.join oj1
    have ndAll : ((A1 ++ B ++ Ah) ++ Av).Nodup := by
      refine List.nodup_append.mpr ⟨whole.wf.nd, (List.nodup_append.mp w2.nd).2.1, fun a ha b hb e => ?_⟩
      subst e
      have g1 : G1 a = none := whole.wf.ng a ha
      obtain ⟨o, e⟩ := ov.there a hb
      have : frz G H Av a = some o := by rw [frz_in hb]; exact e
      rw [z.gg a o this] at g1; cases g1
    have stC : Stp τ.gb G H (Am ++ Ah ++ Av) (cutG G1 Av) H1 ((A1 ++ B ++ Ah) ++ Av) := by
      refine ⟨⟨fun a o e => ?_, ndAll, fun a h => ?_, fun a h => ?_, w.bd.trans exC⟩, exC, whole.fr, fun a o e n => ?_, fun a h => ?_⟩
      · by_cases ha : a ∈ Av
        · rw [cutG_in ha] at e; cases e
        · rw [cutG_out ha] at e; exact whole.wf.ex a o e
      · rcases List.mem_append.mp h with q | q
        · by_cases ha : a ∈ Av
          · exact cutG_in ha
          · rw [cutG_out ha]; exact whole.wf.ng a q
        · exact cutG_in q
      · rcases List.mem_append.mp h with q | q
        · exact whole.wf.th a q
        · rw [avH1 a q]; exact ov.there a q
      · by_cases ha : a ∈ Av
        · rw [cutG_in ha] at e; cases e
        · rw [cutG_out ha] at e; exact whole.gn a o e n
      · rcases List.mem_append.mp h with q | q
        · exact whole.na a q
        · exact .inl (List.mem_append_right _ q)
    refine ⟨cutG G1 Av, C2, wholeA ?_, oj2, fun ow hcl => ow.thin k3 ke fun j h => hcl j (hc1 j (kin j h)).1, fun dl hcl => dl.thin k3 ke fun j h => hcl j (hc1 j (kin j h)).1, fun a xs e => ke a _ e (by cases e : kk 3 with | false => exact e | true => rw [k3] at e; cases e)⟩
    refine stC.sub (D := E2 ++ (E1 ++ B2)) ?_
    have a1 : (C2 ++ B ++ (E2 ++ (E1 ++ B2))).Perm ((C2 ++ E2) ++ (B ++ (E1 ++ B2))) := by
      rw [List.append_assoc, List.append_assoc]
      refine List.Perm.append_left C2 ?_
      rw [← List.append_assoc, ← List.append_assoc E2]
      exact List.Perm.append_right _ List.perm_append_comm
    have a2 : ((C2 ++ E2) ++ (B ++ (E1 ++ B2))).Perm ((B1 ++ C1) ++ (B ++ (E1 ++ B2))) := List.Perm.append_right _ r2
    have a3 : ((B1 ++ C1) ++ (B ++ (E1 ++ B2))).Perm ((B1 ++ B2) ++ (B ++ (C1 ++ E1))) := by
      have : ∀ (x y z u t : List Addr), ((x ++ y) ++ (z ++ (u ++ t))).Perm ((x ++ t) ++ (z ++ (y ++ u))) := fun x y z u t => by
        refine List.perm_iff_count.mpr fun a => ?_
        simp only [List.count_append]; omega
      exact this B1 C1 B E1 B2
    have a4 : ((B1 ++ B2) ++ (B ++ (C1 ++ E1))).Perm (A1 ++ (B ++ (Av ++ Ah))) := List.Perm.append q1.symm (List.Perm.append_left B r1)
    have a5 : (A1 ++ (B ++ (Av ++ Ah))).Perm ((A1 ++ B ++ Ah) ++ Av) := by
      refine List.perm_iff_count.mpr fun a => ?_
      simp only [List.count_append]; omega
    exact a1.trans (a2.trans (a3.trans (a4.trans a5)))
  · -- it stays frozen
    have ov2 : OwnS T G1 H1 τ σ (frzS (sel (inV fv M) 0 s)) [] := ov0.frame z.gg fun a h => (nomatch h)
    obtain ⟨C1, E1, r1, oj1⟩ := ov2.join (ohn _ exV)
    obtain ⟨C2, E2, r2, oj2⟩ := osm.join oj1
    rw [List.nil_append] at r1
    refine ⟨G1, C2, wholeA ?_, oj2, fun ow _ => ow, fun dl _ => dl, fun _ _ e => e⟩
    refine whole.sub (D := E2 ++ (E1 ++ B2)) ?_
    have a1 : (C2 ++ B ++ (E2 ++ (E1 ++ B2))).Perm ((C2 ++ E2) ++ (B ++ (E1 ++ B2))) := by
      refine List.perm_iff_count.mpr fun a => ?_
      simp only [List.count_append]; omega
    have a2 : ((C2 ++ E2) ++ (B ++ (E1 ++ B2))).Perm ((B1 ++ C1) ++ (B ++ (E1 ++ B2))) := List.Perm.append_right _ r2
    have a3 : ((B1 ++ C1) ++ (B ++ (E1 ++ B2))).Perm ((B1 ++ B2) ++ (B ++ (C1 ++ E1))) := by
      refine List.perm_iff_count.mpr fun a => ?_
      simp only [List.count_append]; omega
    have a4 : ((B1 ++ B2) ++ (B ++ (C1 ++ E1))).Perm (A1 ++ (B ++ Ah)) := List.Perm.append q1.symm (List.Perm.append_left B r1)
    have a5 : (A1 ++ (B ++ Ah)).Perm (A1 ++ B ++ Ah) := by rw [List.append_assoc]
    exact a1.trans (a2.trans (a3.trans (a4.trans a5)))
end
end DF
end

section
set_option maxRecDepth 100000
set_option maxHeartbeats 4000000
namespace DF
open PySem PySem.Spec PyProof.Rows L2

section
variable {T : Tab} {τ : Th} {W : WX} {X : Cx} {G H G' H' : Hp} {σ : L2.St}
theorem ExD.thin' {x : Exn} {cls : Value} {d : Option Addr} (h : ExD T G x cls d) (k1 : ∀ {vs : List V} {ds : List D}, DnL T G vs ds → ds = x.ds → DnL T G' vs ds) (k2 : ∀ a xs, G a = some (.xd xs) → G' a = some (.xd xs)) : ExD T G' x cls d :=
  ⟨h.cls, h.fld.imp id fun ⟨dd, fs, vs, a, b, c, l, k⟩ => ⟨dd, fs, vs, a, k2 _ _ b, k1 c rfl, l, k⟩⟩
theorem tr_ev {fv ms : List Nat} {f : M O} {H : Hp} {Q : VK} (h : tDE T τ W (ev fv ms f) σ H Q) : tDE T τ W f σ H Q := by
  obtain ⟨G, A, s, w, os, p⟩ := h
  obtain ⟨G0, A0, e0, w0, os0, back⟩ := view_ok (fv := fv) (M := ms) w os
  refine ⟨G0, A0, _, w0, os0, ?_⟩
  unfold ev evG at p
  cases e : f (mask fv ms s) with
  | no => rw [e] at p; exact p
  | er x s1 =>
    rw [e] at p
    intro cls d G' H' A' z os1 xd
    obtain ⟨G2, A2, st, os2, _, kd, kx⟩ := back (fun k => clL k x.ds) s1 G' H' A' [] (by rw [List.append_nil]; exact z) os1
    rw [List.append_nil] at st
    exact p cls d G2 H' A2 st os2 (xd.thin' (fun dl e => kd dl (by rw [e]; exact fun j hj => hj)) kx)
  | ok o s1 =>
    rw [e] at p
    intro v G' H' A' B z os1 ow
    obtain ⟨G2, A2, st, os2, ko, _, _⟩ := back (fun k => clO k o) s1 G' H' A' B z os1
    exact p v G2 H' A2 B st os2 (ko ow fun j hj => hj)
theorem de_ev (fv ms : List Nat) {f : M O} {e : Expr} (h : PE X e (tDE T τ W f)) : PE X e (tDE T τ W (ev fv ms f)) := h.weak fun _ _ _ q => tr_ev q
theorem tr_evT {fv ms : List Nat} {f : M Bool} {H : Hp} {Q : Bool → Hp → Prop} (h : tDT T τ W (evT fv ms f) σ H Q) : tDT T τ W f σ H Q := by
  obtain ⟨G, A, s, w, os, p⟩ := h
  obtain ⟨G0, A0, e0, w0, os0, back⟩ := view_ok (fv := fv) (M := ms) w os
  refine ⟨G0, A0, _, w0, os0, ?_⟩
  unfold evT evG at p
  cases e : f (mask fv ms s) with
  | no => rw [e] at p; exact p
  | er x s1 =>
    rw [e] at p
    intro cls d G' H' A' z os1 xd
    obtain ⟨G2, A2, st, os2, _, kd, kx⟩ := back (fun k => clL k x.ds) s1 G' H' A' [] (by rw [List.append_nil]; exact z) os1
    rw [List.append_nil] at st
    exact p cls d G2 H' A2 st os2 (xd.thin' (fun dl e => kd dl (by rw [e]; exact fun j hj => hj)) kx)
  | ok o s1 =>
    rw [e] at p
    intro G' H' A' z os1
    obtain ⟨G2, A2, st, os2, _, _, _⟩ := back (fun _ => true) s1 G' H' A' [] (by rw [List.append_nil]; exact z) os1
    rw [List.append_nil] at st
    exact p G2 H' A2 st os2
theorem dt_ev (fv ms : List Nat) {f : M Bool} {e : Expr} (h : PT X e (tDT T τ W f)) : PT X e (tDT T τ W (evT fv ms f)) := h.weak fun _ _ _ q => tr_evT q
end

/-! ### statements -/
inductive Fl where
  | nx | bk | ct
  | rt (o : O)
section
variable (T : Tab) (τ : Th) (W : WX)
def PostXS (G H : Hp) (A : List Addr) (x : Exn) (s' : S) : Prop := ∀ (σ' : L2.St) (cls : Value) (d : Option Addr) (G' H' : Hp) (A' : List Addr), Stp τ.gb G H A G' H' A' → OwnS T G' H' τ σ' s' A' → ExD T G' x cls d → W cls d σ' H'
def PostN (q : L2.St → Hp → Prop) (G H : Hp) (A : List Addr) (s' : S) : Prop := ∀ (σ' : L2.St) (G' H' : Hp) (A' : List Addr), Stp τ.gb G H A G' H' A' → OwnS T G' H' τ σ' s' A' → q σ' H'
def PostS (D : Ends) (G H : Hp) (A : List Addr) : R Fl → Prop
  | .no => False
  | .er x s' => PostXS T τ W G H A x s'
  | .ok .nx s' => PostN T τ D.nx G H A s'
  | .ok .bk s' => PostN T τ D.bk G H A s'
  | .ok .ct s' => PostN T τ D.ct G H A s'
  | .ok (.rt o) s' => ∀ (v : V) (σ' : L2.St) (G' H' : Hp) (A' B : List Addr), Stp τ.gb G H A G' H' (A' ++ B) → OwnS T G' H' τ σ' s' A' → Own T G' H' v o B → D.rt v H'
def tDS (F : M Fl) : TS := fun D σ H => ∃ (G : Hp) (A : List Addr) (s : S), Wf τ.gb G H A ∧ OwnS T G H τ σ s A ∧ PostS T τ W D G H A (F s)
end
def sSeq (f g : M Fl) : M Fl := bnd f fun fl => match fl with
  | .nx => g
  | fl => ret fl
def sNx : M Fl := ret .nx
def retag (t : Nat) : O → O
  | .fr d => .fr d
  | .lst _ os => .lst t os
  | .dk _ ks ds => .dk t ks ds
  | .dt _ ks ds => .dt t ks ds
  | .ins _ c fs ds => .ins t c fs ds
  | .hd _ => .hd t
def sSet (i : Nat) (f : M O) : M Fl := bnd f fun o s => .ok .nx (s.set i (some (retag 1 o)))
def sExpr (f : M O) : M Fl := bnd f fun _ => ret .nx
def sRet (f : M O) : M Fl := bnd f fun o => ret (.rt o)
def sIf (t : M Bool) (f g : M Fl) : M Fl := bnd t fun b => if b then f else g
section
variable {T : Tab} {τ : Th} {W : WX} {X : Cx} {G H G' H' : Hp} {σ : L2.St} {A : List Addr} {e : Expr} {pos : Pos} {st : Stmt} {sts : List Stmt} {f : M O} {F F' : M Fl} {t : M Bool}
theorem PostN.step {q : L2.St → Hp → Prop} {A1 : List Addr} {s : S} (p : PostN T τ q G H A s) (z : Stp τ.gb G H A G' H' A1) : PostN T τ q G' H' A1 s := fun σ' G1 H1 A' z' => p σ' G1 H1 A' (z.trans z')
theorem PostXS.step {x : Exn} {A1 : List Addr} {s : S} (p : PostXS T τ W G H A x s) (z : Stp τ.gb G H A G' H' A1) : PostXS T τ W G' H' A1 x s := fun σ' cls d G1 H1 A' z' => p σ' cls d G1 H1 A' (z.trans z')
theorem PostS.step {D : Ends} {A1 : List Addr} : ∀ {r : R Fl}, PostS T τ W D G H A r → Stp τ.gb G H A G' H' A1 → PostS T τ W D G' H' A1 r
  | .no, p, _ => p
  | .er _ _, p, z => PostXS.step p z
  | .ok .nx _, p, z => PostN.step p z
  | .ok .bk _, p, z => PostN.step p z
  | .ok .ct _, p, z => PostN.step p z
  | .ok (.rt _) _, p, z => fun v σ' G1 H1 A' B z' => p v σ' G1 H1 A' B (z.trans z')
theorem PostXS.x {x : Exn} {s : S} (p : PostXS T τ W G H A x s) : PostX T τ W σ G H A x s := fun cls d G' H' A' => p σ cls d G' H' A'
/-- an expression, then what follows -/
theorem S_bind {h : O → M Fl} {D : Ends} (q : tDS T τ W (bnd f h) D σ H) : tDE T τ W f σ H fun v H1 => ∃ (G1 : Hp) (A1 B1 : List Addr) (o : O) (s1 : S), Wf τ.gb G1 H1 (A1 ++ B1) ∧ OwnS T G1 H1 τ σ s1 A1 ∧ Own T G1 H1 v o B1 ∧ PostS T τ W D G1 H1 (A1 ++ B1) (h o s1) := by
  obtain ⟨G, A, s, w, os, p⟩ := q
  refine ⟨G, A, s, w, os, ?_⟩
  unfold bnd at p
  cases e : f s with
  | no => rw [e] at p; exact p
  | er x s1 => rw [e] at p; exact PostXS.x p
  | ok o s1 =>
    rw [e] at p
    exact fun v G1 H1 A1 B1 z os1 ow => ⟨G1, A1, B1, o, s1, z.wf, os1, ow, PostS.step p z⟩
theorem ST_bind {h : Bool → M Fl} {D : Ends} (q : tDS T τ W (bnd t h) D σ H) : tDT T τ W t σ H fun b H1 => tDS T τ W (h b) D σ H1 := by
  obtain ⟨G, A, s, w, os, p⟩ := q
  refine ⟨G, A, s, w, os, ?_⟩
  unfold bnd at p
  cases e : t s with
  | no => rw [e] at p; exact p
  | er x s1 => rw [e] at p; exact PostXS.x p
  | ok o s1 =>
    rw [e] at p
    exact fun G1 H1 A1 z os1 => ⟨G1, A1, s1, z.wf, os1, PostS.step p z⟩
theorem tr_seq {D : Ends} (q : tDS T τ W (sSeq F F') D σ H) : tSeq (tDS T τ W F) (tDS T τ W F') D σ H := by
  obtain ⟨G, A, s, w, os, p⟩ := q
  refine ⟨G, A, s, w, os, ?_⟩
  unfold sSeq bnd at p
  cases e : F s with
  | no => rw [e] at p; exact p
  | er x s1 => rw [e] at p; exact p
  | ok o s1 =>
    rw [e] at p
    cases o with
    | nx => exact fun σ' G1 H1 A1 z os1 => ⟨G1, A1, s1, z.wf, os1, PostS.step p z⟩
    | bk => exact p
    | ct => exact p
    | rt o => exact p
theorem tr_nx {D : Ends} (q : tDS T τ W sNx D σ H) : D.nx σ H := by
  obtain ⟨G, A, s, w, os, p⟩ := q
  exact p σ G H A (Stp.refl w) os
theorem dss_nil : PSs X [] (tDS T τ W sNx) := pss_nil.weak fun _ _ _ q => tr_nx q
theorem dss_cons (h1 : PS X st (tDS T τ W F)) (h2 : PSs X sts (tDS T τ W F')) : PSs X (st :: sts) (tDS T τ W (sSeq F F')) := (pss_cons h1 h2).weak fun _ _ _ q => tr_seq q
theorem dss_one (h : PS X st (tDS T τ W F)) : PSs X [st] (tDS T τ W F) := pss_one h
theorem ds_pass : PS X (.Pass pos) (tDS T τ W sNx) := ps_pass.weak fun _ _ _ q => tr_nx q
theorem ds_break : PS X (.Break pos) (tDS T τ W (ret .bk)) := ps_break.weak fun D σ H ⟨G, A, s, w, os, p⟩ => p σ G H A (Stp.refl w) os
theorem ds_cont : PS X (.Continue pos) (tDS T τ W (ret .ct)) := ps_continue.weak fun D σ H ⟨G, A, s, w, os, p⟩ => p σ G H A (Stp.refl w) os
theorem ds_expr (he : PE X e (tDE T τ W f)) (hs : swapsWith e none pos.line X.env = pure false := by rfl) : PS X (.Expr e pos) (tDS T τ W (sExpr f)) := (ps_expr he hs).weak fun D σ H q =>
  kE_imp (S_bind q) fun v H1 ⟨G1, A1, B1, o, s1, w, os, ow, p⟩ => p σ G1 H1 A1 ((Stp.refl w).less (fun a h => List.mem_append_left _ h) w.left.nd) os
theorem ds_ret (he : PE X e (tDE T τ W f)) : PS X (.Return (some e) pos) (tDS T τ W (sRet f)) := (ps_ret he).weak fun D σ H q =>
  kE_imp (S_bind q) fun v H1 ⟨G1, A1, B1, o, s1, w, os, ow, p⟩ => p v σ G1 H1 A1 B1 (Stp.refl w) os ow
theorem ds_retN : PS X (.Return none pos) (tDS T τ W (ret (.rt (.fr .non)))) := ps_retN.weak fun D σ H ⟨G, A, s, w, os, p⟩ => p .non σ G H A [] (by rw [List.append_nil]; exact Stp.refl w) os (.fr .non)
theorem ds_if {c : Expr} {a b : List Stmt} (hc : PT X c (tDT T τ W t)) (ha : PSs X a (tDS T τ W F)) (hb : PSs X b (tDS T τ W F')) : PS X (.If c a b pos) (tDS T τ W (sIf t F F')) := (ps_if hc ha hb).weak fun D σ H q =>
  kT_imp (ST_bind q) fun b H1 q => by
    cases b with
    | true => exact q
    | false => exact q
theorem own_retag {v : V} {o : O} {B : List Addr} (t : Nat) (h : Own T G H v o B) : Own T G H v (retag t o) B := by
  cases h with
  | fr h => exact .fr h
  | lst h l => exact .lst h l
  | dk h l => exact .dk h l
  | dt h l => exact .dt h l
  | ins h n l => exact .ins h n l
  | hd v t0 => exact .hd v t
theorem tag_retag1 (o : O) : tag (retag 1 o) < 2 := by cases o <;> (simp [retag, tag])
theorem set_end {D : Ends} {i : Nat} {v : V} {o : O} {s : S} {B : List Addr} (w : Wf τ.gb G H (A ++ B)) (os : OwnS T G H τ σ s A) (ow : Own T G H v o B) (ht : tag o < 2) (p : PostN T τ D.nx G H (A ++ B) (s.set i (some o))) : D.nx (σ.set i (some v)) H := by
  obtain ⟨A2, D2, os2, q2⟩ := os.set i (fun z => absurd z (by omega)) ow
  exact p _ G H A2 ((Stp.refl w).sub (q2.trans List.perm_append_comm)) os2
theorem ds_set (i : Nat) {x : Str} {pos' : Pos} (he : PE X e (tDE T τ W f)) (hN : X.N.Nodup) (hi : X.N[i]? = some x := by rfl) (hx : Loc X.env.scope x := by first | exact .inl rfl | exact .inr rfl) (hs : swapsWith e (some (.Name x pos')) pos.line X.env = pure false := by rfl)
    (hf : X.fn x = true ∨ X.env.scope.names.lookup x = some .local := by first | exact .inl rfl | exact .inr rfl | assumption) : PS X (.Assign [.Name x pos'] e pos) (tDS T τ W (sSet i f)) := (ps_set hN hi hx he hs hf).weak fun D σ H q =>
  kE_imp (S_bind q) fun v H1 ⟨G1, A1, B1, o, s1, w, os, ow, p⟩ => set_end w os (own_retag 1 ow) (tag_retag1 o) p
end

/-! ### targets -/
abbrev Tg := D → S → Option S
def tgN (i : Nat) : Tg := fun d s => some (s.set i (some (.fr d)))
def tgL : List Tg → List D → S → Option S
  | [], [], s => some s
  | t :: ts, d :: ds, s => (t d s).bind fun s1 => tgL ts ds s1
  | _, _, _ => none
def tgT (ts : List Tg) : Tg := fun d s => match d with
  | .tup ds => tgL ts ds s
  | _ => none
section
variable (T : Tab) (τ : Th)
def tDG (ws : List Nat) (t : Tg) : TG := fun v σ H Q => ∃ (G : Hp) (A : List Addr) (s s' : S) (d : D), Wf τ.gb G H A ∧ OwnS T G H τ σ s A ∧ Dn T G v d ∧ t d s = some s' ∧ ∀ (σ' : L2.St) (A' D' : List Addr), (A' ++ D').Perm A → OwnS T G H τ σ' s' A' → wipe σ' ws = wipe σ ws → Q σ' H
def tDGs (ws : List Nat) (ts : List Tg) : TGs := fun vs σ H Q => ∃ (G : Hp) (A : List Addr) (s s' : S) (ds : List D), Wf τ.gb G H A ∧ OwnS T G H τ σ s A ∧ DnL T G vs ds ∧ tgL ts ds s = some s' ∧ ∀ (σ' : L2.St) (A' D' : List Addr), (A' ++ D').Perm A → OwnS T G H τ σ' s' A' → wipe σ' ws = wipe σ ws → Q σ' H
end
section
variable {T : Tab} {τ : Th} {W : WX} {X : Cx} {G H G' H' : Hp} {σ : L2.St} {A : List Addr} {e : Expr} {pos : Pos} {ws : List Nat}
theorem wipe_get (σ : L2.St) : ∀ (ws : List Nat) (i : Nat), i < σ.length → (wipe σ ws)[i]? = if i ∈ ws then some none else σ[i]?
  | [], i, h => by simp [wipe]
  | w :: ws, i, h => by
    unfold wipe
    by_cases e : w = i
    · subst e
      rw [List.getElem?_set_self (by rw [wipe_length]; exact h), if_pos List.mem_cons_self]
    · rw [List.getElem?_set_ne e, wipe_get σ ws i h]
      by_cases m : i ∈ ws
      · rw [if_pos m, if_pos (List.mem_cons_of_mem _ m)]
      · rw [if_neg m, if_neg fun z => (List.mem_cons.mp z).elim (fun q => e q.symm) m]
theorem wipe_set {σ : L2.St} {i : Nat} {x : Option V} (h : i ∈ ws) : wipe (σ.set i x) ws = wipe σ ws := by
  refine List.ext_getElem? fun j => ?_
  by_cases hj : j < σ.length
  · rw [wipe_get _ ws j (by rw [List.length_set]; exact hj), wipe_get _ ws j hj]
    by_cases m : j ∈ ws
    · rw [if_pos m, if_pos m]
    · rw [if_neg m, if_neg m, List.getElem?_set_ne fun z : i = j => m (z ▸ h)]
  · rw [List.getElem?_eq_none (by rw [wipe_length, List.length_set]; omega), List.getElem?_eq_none (by rw [wipe_length]; omega)]
theorem _root_.L2.PG.weak {e : Expr} {t t' : TG} (h : PG X e t) (k : ∀ v σ H Q, t' v σ H Q → t v σ H Q) : PG X e t' := ⟨fun pins s σ H v u Q I r q => h.run pins s σ H v u Q I r (k v σ H Q q)⟩
theorem _root_.L2.PGs.weak {e : List Expr} {t t' : TGs} (h : PGs X e t) (k : ∀ v σ H Q, t' v σ H Q → t v σ H Q) : PGs X e t' := ⟨fun pins s σ H v u Q I r q => h.run pins s σ H v u Q I r (k v σ H Q q)⟩
theorem dg_name (i : Nat) {x : Str} (hN : X.N.Nodup) (hi : X.N[i]? = some x := by rfl) (hx : Loc X.env.scope x := by first | exact .inl rfl | exact .inr rfl) (hf : X.fn x = true ∨ X.env.scope.names.lookup x = some .local := by first | exact .inl rfl | exact .inr rfl | assumption) (hw : i ∈ ws := by decide) : PG X (.Name x pos) (tDG T τ ws (tgN i)) :=
  (pg_name hN hi hx hf).weak fun v σ H Q ⟨G, A, s, s', d, w, os, dn, h, k⟩ => by
    cases h
    obtain ⟨A2, D2, os2, q2⟩ := os.set i TagOk.fr (.fr dn)
    exact k _ A2 D2 (by rw [List.nil_append] at q2; exact q2) os2 (wipe_set hw)
theorem dgs_nil : PGs X [] (tDGs T τ ws []) := pgs_nil.weak fun vs σ H Q ⟨G, A, s, s', ds, w, os, dn, h, k⟩ => by
  cases dn with
  | nil => cases h; exact ⟨rfl, k σ A [] (by simp) os rfl⟩
  | cons _ _ => cases h
theorem dgs_cons {e : Expr} {es : List Expr} {t : Tg} {ts : List Tg} (h1 : PG X e (tDG T τ ws t)) (h2 : PGs X es (tDGs T τ ws ts)) (hs : (assignEach (e :: es) X.env).map (·.2) = assign e X.env :: (assignEach es X.env).map (·.2) := by rfl) : PGs X (e :: es) (tDGs T τ ws (t :: ts)) :=
  (pgs_cons h1 h2 hs).weak fun vs σ H Q ⟨G, A, s, s', ds, w, os, dn, h, k⟩ => by
    cases dn with
    | nil => cases h
    | cons d1 dl =>
      obtain ⟨s1, e1, e2⟩ := Option.bind_eq_some_iff.mp h
      refine ⟨_, _, rfl, G, A, s, s1, _, w, os, d1, e1, fun σ1 A1 D1 p1 os1 hw1 => ?_⟩
      exact ⟨G, A1, s1, s', _, w.sub p1, os1, dl, e2, fun σ2 A2 D2 p2 os2 hw2 => k σ2 A2 (D2 ++ D1) (by rw [← List.append_assoc]; exact (List.Perm.append_right D1 p2).trans p1) os2 (hw2.trans hw1)⟩
theorem dg_tup {es : List Expr} {k : Nat} {ts : List Tg} {n : Nat} (hK : T.K = X.K) (hc : X.calm = true) (h : PGs X es (tDGs T τ ws ts)) (hl : ts.length = n := by rfl) (hn : (assignEach es X.env).length = n := by rfl) (hst : (assignEach es X.env).findIdx? (·.1) = none := by rfl) : PG X (.Tuple es k pos) (tDG T τ ws (tgT ts)) :=
  (pg_tup hc h hn hst).weak fun v σ H Q ⟨G, A, s, s', d, w, os, dn, h, k⟩ => by
    unfold tgT at h
    cases d with
    | tup ds =>
      obtain ⟨a, vs, rfl, hs, l, _⟩ := dn.sqT
      have hlen : ∀ (ts : List Tg) (ds : List D) (s s' : S), tgL ts ds s = some s' → ts.length = ds.length := by
        intro ts
        induction ts with
        | nil => intro ds s s' h; cases ds with
          | nil => rfl
          | cons _ _ => cases h
        | cons t ts ih => intro ds s s' h; cases ds with
          | nil => cases h
          | cons d ds =>
            obtain ⟨s1, _, e2⟩ := Option.bind_eq_some_iff.mp h
            rw [List.length_cons, List.length_cons, ih ds s1 s' e2]
      exact ⟨a, vs, rfl, hK ▸ ex_t w.ex hs, by rw [l.len, ← hlen ts ds s s' h, hl], G, A, s, s', ds, w, os, l, h, k⟩
    | _ => cases h
/-- target = value, the value frozen -/
def sAsg (t : Tg) (f : M O) : M Fl := bnd f fun o s => match t (fz o) s with
  | some s' => .ok .nx s'
  | none => .no
theorem ds_asg {tg : Expr} {t : Tg} {f : M O} (he : PE X e (tDE T τ W f)) (hg : PG X tg (tDG T τ ws t)) (hs : swapsWithSole [tg] e pos.line X.env = pure false := by rfl) (hw : swappedStores [tg] e X.env = pure none := by rfl)
    (h1 : (assignEach [tg] X.env).map (·.2) = [assign tg X.env] := by rfl) : PS X (.Assign [tg] e pos) (tDS T τ W (sAsg t f)) := (ps_asg he hg hs hw h1).weak fun D σ H q =>
  kE_imp (S_bind q) fun v H1 ⟨G1, A1, B1, o, s1, w, os, ow, p⟩ => by
    have fx := frz_ex (G := G1) (H := H1) (B := B1) fun a h => w.ng a (List.mem_append_right _ h)
    have st := frz_step w
    have dn := ow.freeze fx fun a ha o q => by rw [frz_in ha]; exact q
    cases e1 : t (fz o) s1 with
    | none => simp only [e1] at p; exact p.elim
    | some s' =>
      simp only [e1] at p
      refine ⟨_, A1, s1, s', fz o, st.wf, os.frame fx fun _ _ => rfl, dn, e1, fun σ' A' D' q' os' _ => p σ' _ H1 A' (st.sub q') os'⟩
end
end DF
end

section
set_option maxRecDepth 100000
set_option maxHeartbeats 4000000
namespace DF
open PySem PySem.Spec PyProof.Rows L2

/-! ### a def: the slots at its end, the promise -/
def outs : Nat → S → S → S
  | _, [], _ => []
  | k, none :: s0, _ :: s => none :: outs (k + 1) s0 s
  | k, some _ :: s0, none :: s => none :: outs (k + 1) s0 s
  | k, some o0 :: s0, some o :: s => (if tag o0 = k + 2 ∧ tag o = k + 2 then some o else none) :: outs (k + 1) s0 s
  | k, _ :: s0, [] => none :: outs (k + 1) s0 []
def runDef (n : Nat) (F : M Fl) : M O := fun os => match F (os ++ List.replicate n none) with
  | .no => .no
  | .er x s => .er x (outs 0 os s)
  | .ok .nx s => .ok (.fr .non) (outs 0 os s)
  | .ok (.rt o) s => .ok o (outs 0 os s)
  | .ok _ _ => .no
abbrev WD (E : XK) : WX := fun cls d _ H => E cls d H
def spD (T : Tab) (np : Nat) (den : M O) : Sp := fun vs H Q E => vs.length = np ∧ ∃ τ, tD T τ (WD E) (kE T τ Q) den (vs.map some) H
section
variable {T : Tab} {τ : Th} {G H : Hp}
theorem OwnS.nones : ∀ (σ : L2.St), OwnS T G H τ σ (List.replicate σ.length none) []
  | [] => .nil
  | _ :: σ => .un (OwnS.nones σ)
theorem OwnS.app {σ2 : L2.St} {s2 : S} {A2 : List Addr} (h2 : OwnS T G H τ σ2 s2 A2) : ∀ {σ : L2.St} {s : S} {A : List Addr}, OwnS T G H τ σ s A → OwnS T G H τ (σ ++ σ2) (s ++ s2) (A ++ A2)
  | _, _, _, .nil => h2
  | _, _, _, .un l => .un (OwnS.app h2 l)
  | _, _, _, .cons t h l => by rw [List.append_assoc]; exact .cons t h (OwnS.app h2 l)
theorem outs_ok : ∀ {s0 : S} {k : Nat} {σ0 σ : L2.St} {s : S} {A : List Addr}, OwnS T G H τ σ s A → σ0.length = s0.length → (∀ i o, s0[i]? = some (some o) → tag o = k + i + 2 → σ0[i]? = some (some (.ref (τ.ad (k + i))))) →
    ∃ C E, OwnS T G H τ σ0 (outs k s0 s) C ∧ (C ++ E).Perm A
  | [], k, [], σ, s, A, h, _, _ => ⟨[], A, by unfold outs; exact .nil, by simp⟩
  | x0 :: s0, k, [], _, _, _, _, hl, _ => by cases hl
  | x0 :: s0, k, v0 :: σ0, σ, s, A, h, hl, ht => by
    have hl' : σ0.length = s0.length := Nat.succ.inj hl
    have ht' : ∀ i o, s0[i]? = some (some o) → tag o = (k + 1) + i + 2 → σ0[i]? = some (some (.ref (τ.ad (k + 1 + i)))) := fun i o e q => by
      have := ht (i + 1) o (by simpa using e) (by omega)
      rw [show k + 1 + i = k + (i + 1) by omega]
      simpa using this
    cases h with
    | nil =>
      obtain ⟨C, E, a, b⟩ := outs_ok (k := k + 1) (s := []) OwnS.nil hl' ht'
      refine ⟨C, E, ?_, b⟩
      cases x0 <;> (unfold outs; exact .un a)
    | un l =>
      obtain ⟨C, E, a, b⟩ := outs_ok (k := k + 1) l hl' ht'
      refine ⟨C, E, ?_, b⟩
      cases x0 <;> (unfold outs; exact .un a)
    | cons t h l =>
      rename_i v o σ1 s1 A0 B0
      obtain ⟨C, E, a, b⟩ := outs_ok (k := k + 1) l hl' ht'
      have un : ∃ C E, OwnS T G H τ (v0 :: σ0) (none :: outs (k + 1) s0 s1) C ∧ (C ++ E).Perm (A0 ++ B0) := ⟨C, A0 ++ E, .un a, by
        refine List.Perm.trans ?_ (List.Perm.append_left A0 b)
        rw [← List.append_assoc, ← List.append_assoc]
        exact List.Perm.append_right E List.perm_append_comm⟩
      cases x0 with
      | none => unfold outs; exact un
      | some o0 =>
        unfold outs
        split
        · rename_i c
          have hv := ht 0 o0 (by simp) (by omega)
          simp only [List.getElem?_cons_zero, Option.some.injEq, Nat.add_zero] at hv
          have ev : v = .ref (τ.ad k) := by
            have := t (by omega)
            rw [this, c.2]; rfl
          subst ev
          subst hv
          exact ⟨A0 ++ C, E, .cons t h a, by rw [List.append_assoc]; exact List.Perm.append_left A0 b⟩
        · exact un
theorem tags_in {σ : L2.St} : ∀ {s : S} {A : List Addr} {i : Nat} {o : O} {σ : L2.St}, OwnS T G H τ σ s A → s[i]? = some (some o) → tag o = i + 2 → σ[i]? = some (some (.ref (τ.ad i))) := by
  intro s A i o σ os e t
  obtain ⟨v, B, C, a, tk, _, _, _⟩ := os.out e
  rw [a, tk (by omega), t]; rfl
/-- a body from its end -/
theorem body_ok {N : List Str} {vs : List V} {n : Nat} {F : M Fl} {Q : VK} {E : XK} (hn : N.length = vs.length + n) (h : tD T τ (WD E) (kE T τ Q) (runDef n F) (vs.map some) H) :
    tDS T τ (WD E) F { nx := fun _ H' => Q .non H', rt := Q } (L2.start N vs) H := by
  obtain ⟨G, A, os, w, hos, p⟩ := h
  have hst : L2.start N vs = vs.map some ++ List.replicate n none := by
    unfold L2.start; rw [hn, Nat.add_sub_cancel_left]
  have hlen := hos.len
  have os0 : OwnS T G H τ (L2.start N vs) (os ++ List.replicate n none) A := by
    rw [hst]
    have := OwnS.app (OwnS.nones (T := T) (G := G) (H := H) (τ := τ) (List.replicate n none)) hos
    rw [List.length_replicate, List.append_nil] at this
    exact this
  refine ⟨G, A, _, w, os0, ?_⟩
  have back : ∀ {G' H' : Hp} {σ' : L2.St} {s' : S} {A' : List Addr}, OwnS T G' H' τ σ' s' A' → ∃ C E, OwnS T G' H' τ (vs.map some) (outs 0 os s') C ∧ (C ++ E).Perm A' := fun h =>
    outs_ok h hlen fun i o e t => by
      rw [Nat.zero_add] at t ⊢
      exact tags_in (σ := []) hos e t
  unfold runDef at p
  cases e : F (os ++ List.replicate n none) with
  | no => rw [e] at p; exact p
  | er x s =>
    rw [e] at p
    intro σ' cls d G' H' A' z os' xd
    obtain ⟨C, D, a, b⟩ := back os'
    exact p cls d G' H' C (z.sub b) a xd
  | ok fl s =>
    rw [e] at p
    cases fl with
    | nx =>
      intro σ' G' H' A' z os'
      obtain ⟨C, D, a, b⟩ := back os'
      exact p .non G' H' C [] (by rw [List.append_nil]; exact z.sub b) a (.fr .non)
    | rt o =>
      intro v σ' G' H' A' B z os' ow
      obtain ⟨C, D, a, b⟩ := back os'
      refine p v G' H' C B (z.sub (D := D) ?_) a ow
      refine List.Perm.trans ?_ (List.Perm.append_right B b)
      rw [List.append_assoc, List.append_assoc]
      exact List.Perm.append_left C List.perm_append_comm
    | bk => exact p.elim
    | ct => exact p.elim
end

/-! ### a call: some arguments by value, some slots lent -/
abbrev J := Sum D Nat
def aNilJ : M (List J) := ret []
def aConsD (f : M O) (g : M (List J)) : M (List J) := bnd f fun o => (fun d => bnd g fun ds => ret (Sum.inl d :: ds)) (fz o)
def aConsV (j : Nat) (g : M (List J)) : M (List J) := fun s => match s[j]? with
  | some (some _) => bnd g (fun ds => ret (Sum.inr j :: ds)) s
  | _ => .no
inductive ArgJ (T : Tab) (G : Hp) (σ : L2.St) : List V → List J → Prop
  | nil : ArgJ T G σ [] []
  | d {v : V} {d : D} {vs : List V} {js : List J} : Dn T G v d → ArgJ T G σ vs js → ArgJ T G σ (v :: vs) (Sum.inl d :: js)
  | j {v : V} {j : Nat} {vs : List V} {js : List J} : σ[j]? = some (some v) → ArgJ T G σ vs js → ArgJ T G σ (v :: vs) (Sum.inr j :: js)
def isHd : O → Bool
  | .hd _ => true
  | _ => false
def takeA : Nat → List J → S → Option (S × S)
  | _, [], s => some ([], s)
  | k, .inl d :: js, s => (takeA (k + 1) js s).map fun p => (some (.fr d) :: p.1, p.2)
  | k, .inr j :: js, s => match s[j]? with
    | some (some o) => if isHd o then none else (takeA (k + 1) js (s.set j none)).map fun p => (some (retag (k + 2) o) :: p.1, p.2)
    | _ => none
def tgS (s : S) (j : Nat) : Nat := match s[j]? with
  | some (some o) => tag o
  | _ => 1
def putA (s0 : S) : List J → S → S → S
  | .inr j :: js, some o :: os, s => putA s0 js os (s.set j (some (retag (tgS s0 j) o)))
  | .inr _ :: js, none :: os, s => putA s0 js os s
  | .inl _ :: js, _ :: os, s => putA s0 js os s
  | _, _, s => s
def eCallJ (np : Nat) (den : M O) (dd : List D) (g : M (List J)) : M O := bnd g fun js s => if js.length + dd.length = np then match takeA 0 js s with
  | none => .no
  | some (os, s1) => match den (os ++ dd.map fun d => some (.fr d)) with
    | .no => .no
    | .er x os2 => .er x (putA s js os2 s1)
    | .ok o os2 => .ok (retag 1 o) (putA s js os2 s1)
  else .no
section
variable (T : Tab) (τ : Th) (W : WX)
def kJ (Q : List V → Hp → Prop) (σ : L2.St) : Hp → Hp → List Addr → List J → S → Prop := fun G H A ds s' => ∀ (vs : List V) (G' H' : Hp) (A' : List Addr), Stp τ.gb G H A G' H' A' → OwnS T G' H' τ σ s' A' → ArgJ T G' σ vs ds → Q vs H'
def tDJ (f : M (List J)) : TA := fun σ H Q => tD T τ W (kJ T τ Q) f σ H
end
section
variable {T : Tab} {τ : Th} {W : WX} {X : Cx} {σ : L2.St} {G H : Hp} {e : Expr} {es : List Expr} {f : M O} {g : M (List J)} {pos : Pos}
theorem kJ_step {Q : List V → Hp → Prop} : KStep τ (kJ T τ Q) := ⟨fun p z v G' H' A' z' => p v G' H' A' (z.trans z')⟩
theorem ArgJ.mono {G' : Hp} (e : Ex G G') : ∀ {vs : List V} {js : List J}, ArgJ T G σ vs js → ArgJ T G' σ vs js
  | _, _, .nil => .nil
  | _, _, .d h l => .d (h.mono e) (l.mono e)
  | _, _, .j h l => .j h (l.mono e)
theorem ArgJ.len : ∀ {vs : List V} {js : List J}, ArgJ T G σ vs js → vs.length = js.length
  | _, _, .nil => rfl
  | _, _, .d _ l => by rw [List.length_cons, List.length_cons, l.len]
  | _, _, .j _ l => by rw [List.length_cons, List.length_cons, l.len]
theorem dj_nil : PA X [] (tDJ T τ W aNilJ) := pa_nil.weak fun σ H Q ⟨G, A, s, w, os, p⟩ => p [] G H A (Stp.refl w) os .nil
theorem dj_d (he : PE X e (tDE T τ W f)) (hr : PA X es (tDJ T τ W g)) (hs : starEach (e :: es) X.env = (false, eval e X.env) :: starEach es X.env := by rfl) : PA X (e :: es) (tDJ T τ W (aConsD f g)) :=
  (pa_cons he hr hs).weak fun σ H Q h => by
    obtain ⟨G, A, s, w, os, p⟩ := F_bind kJ_step (g := fun d => bnd g fun ds => ret (Sum.inl d :: ds)) h
    refine ⟨G, A, s, w, os, ?_⟩
    cases e : f s with
    | no => rw [e] at p; exact p
    | er x s1 => rw [e] at p; exact p
    | ok o s1 =>
      rw [e] at p
      intro v G1' H1 A1' B1' z os1 ow1
      obtain ⟨G1, A1, d1, s1', w1, os1, dn1, p1⟩ := p v G1' H1 A1' B1' z os1 ow1
      refine ⟨G1, A1, s1', w1, os1, ?_⟩
      unfold bnd at p1
      cases e2 : g s1' with
      | no => rw [e2] at p1; exact p1
      | er x s1 => rw [e2] at p1; exact p1
      | ok ds s3 =>
        rw [e2] at p1
        exact fun vs G3 H3 A3 z3 os3 dl => p1 (v :: vs) G3 H3 A3 z3 os3 (.d (dn1.mono z3.gg) dl)
theorem dj_v (j : Nat) {x : Str} {p : Pos} (hr : PA X es (tDJ T τ W g)) (hN : X.N[j]? = some x := by rfl) (hv : Vis X.env.scope x := by first | exact Or.inl rfl | exact Or.inr (Or.inl rfl) | exact Or.inr (Or.inr rfl)) (hd : (x == ("__debug__" : Str)) = false := by decide)
    (hcd : (x == ("__classdict__" : Str)) = false := by decide) (hs : starEach (.Name x p :: es) X.env = (false, eval (.Name x p) X.env) :: starEach es X.env := by rfl) : PA X (.Name x p :: es) (tDJ T τ W (aConsV j g)) :=
  (pa_cons (pe_var (i := j) hN hv hd hcd) hr hs).weak fun σ H Q ⟨G, A, s, w, os, p⟩ => by
    unfold aConsV at p
    cases e : s[j]? with
    | none => rw [e] at p; exact p.elim
    | some u =>
      cases u with
      | none => rw [e] at p; exact p.elim
      | some o =>
        rw [e] at p
        obtain ⟨v, B, C, a, _, _⟩ := os.get (σ := σ) e
        refine ⟨v, a, G, A, s, w, os, ?_⟩
        simp only [bnd] at p
        cases e2 : g s with
        | no => rw [e2] at p; exact p
        | er x s1 => rw [e2] at p; exact p
        | ok ds s3 =>
          rw [e2] at p
          exact fun vs G3 H3 A3 z3 os3 dl => p (v :: vs) G3 H3 A3 z3 os3 (.j a dl)
theorem tagOk_retag {v : V} {o : O} {t : Nat} (h : 2 ≤ t → v = .ref (τ.ad (t - 2))) : TagOk τ v (retag t o) := by
  cases o with
  | fr d => exact TagOk.fr
  | lst t0 os => exact fun z => h z
  | dk t0 ks ds => exact fun z => h z
  | dt t0 ks ds => exact fun z => h z
  | ins t0 c fs ds => exact fun z => h z
  | hd t0 => exact fun z => h z
theorem tag_retag_le {o : O} {t : Nat} : tag (retag t o) = 0 ∨ (tag (retag t o) = t ∧ ∀ d, o ≠ .fr d) := by
  cases o with
  | fr d => exact .inl rfl
  | _ => exact .inr ⟨rfl, fun _ z => by cases z⟩
theorem take_ok {τ' : Th} : ∀ {js : List J} {vs : List V} {k : Nat} {s os s' : S} {A : List Addr}, ArgJ T G σ vs js → OwnS T G H τ σ s A → takeA k js s = some (os, s') → (∀ i a, vs[i]? = some (.ref a) → τ'.ad (k + i) = a) →
    ∃ B C, A.Perm (B ++ C) ∧ OwnS T G H τ' (vs.map some) os B ∧ OwnS T G H τ σ s' C
  | [], _, k, s, os, s', A, .nil, h, e, _ => by
    cases e
    exact ⟨[], A, List.Perm.refl _, .nil, h⟩
  | .inl d :: js, _, k, s, os, s', A, .d (v := v) (vs := vs) dn l, h, e, ht => by
    unfold takeA at e
    obtain ⟨p, e1, e2⟩ := Option.map_eq_some_iff.mp e
    cases e2
    obtain ⟨B, C, a, b, c⟩ := take_ok (k := k + 1) l h (show takeA (k + 1) js s = some (p.1, p.2) from e1) fun i a q => by
      have := ht (i + 1) a (by simpa using q)
      rw [← this]; congr 1; omega
    exact ⟨B, C, a, .cons (A := []) TagOk.fr (.fr dn) b, c⟩
  | .inr j :: js, _, k, s, os, s', A, .j (v := v) (vs := vs) hv l, h, e, ht => by
    unfold takeA at e
    cases e0 : s[j]? with
    | none => rw [e0] at e; cases e
    | some u =>
      cases u with
      | none => rw [e0] at e; cases e
      | some o =>
        rw [e0] at e
        simp only at e
        split at e
        · cases e
        rename_i hnh
        obtain ⟨p, e1, e2⟩ := Option.map_eq_some_iff.mp e
        cases e2
        obtain ⟨v', B1, C1, a1, tk, ow, pm, os1⟩ := h.out e0
        have ev : v = v' := Option.some.inj (Option.some.inj (hv.symm.trans a1))
        subst ev
        obtain ⟨B, C, a, b, c⟩ := take_ok (k := k + 1) l os1 (show takeA (k + 1) js (s.set j none) = some (p.1, p.2) from e1) fun i a q => by
          have := ht (i + 1) a (by simpa using q)
          rw [← this]; congr 1; omega
        refine ⟨B1 ++ B, C, ?_, .cons ?_ (own_retag _ ow) b, c⟩
        · rw [List.append_assoc]
          exact pm.trans (List.Perm.append_left B1 a)
        · cases ow with
          | fr _ => exact TagOk.fr
          | hd _ _ => exact absurd rfl hnh
          | _ => exact tagOk_retag fun _ => by rw [show k + 2 - 2 = k + 0 by omega, ht 0 _ rfl]
theorem put_ok {τ' : Th} {s0 : S} : ∀ {js : List J} {vs : List V} {ρ : L2.St} {os s : S} {B C : List Addr} {G0 : Hp}, ArgJ T G0 σ vs js → OwnS T G H τ' (vs.map some ++ ρ) os B → OwnS T G H τ σ s C →
    (∀ j v, σ[j]? = some (some v) → 2 ≤ tgS s0 j → v = .ref (τ.ad (tgS s0 j - 2))) → ∃ A E, OwnS T G H τ σ (putA s0 js os s) A ∧ (A ++ E).Perm (B ++ C)
  | [], _, ρ, os, s, B, C, G0, .nil, _, h, _ => ⟨C, B, by unfold putA; exact h, List.perm_append_comm⟩
  | .inl d :: js, _, ρ, os, s, B, C, G0, .d (v := v) (vs := vs) dn l, ho, h, ht => by
    cases ho with
    | un ho =>
      obtain ⟨A, E, a, b⟩ := put_ok l ho h ht
      exact ⟨A, E, by unfold putA; exact a, b⟩
    | cons t q ho =>
      rename_i o s1 A1 B1
      obtain ⟨A, E, a, b⟩ := put_ok l ho h ht
      refine ⟨A, A1 ++ E, by unfold putA; exact a, ?_⟩
      have h1 : (A ++ (A1 ++ E)).Perm (A1 ++ (A ++ E)) := by
        refine List.perm_iff_count.mpr fun a => ?_
        simp only [List.count_append]; omega
      rw [List.append_assoc]
      exact h1.trans (List.Perm.append_left A1 b)
  | .inr j :: js, _, ρ, os, s, B, C, G0, .j (v := v) (vs := vs) hv l, ho, h, ht => by
    cases ho with
    | un ho =>
      obtain ⟨A, E, a, b⟩ := put_ok l ho h ht
      exact ⟨A, E, by unfold putA; exact a, b⟩
    | cons t q ho =>
      rename_i o s1 A1 B1
      obtain ⟨A2, E2, a2, b2⟩ := h.fill (j := j) (o := retag (tgS s0 j) o) hv (tagOk_retag (ht j v hv)) (own_retag _ q)
      obtain ⟨A, E, a, b⟩ := put_ok l ho a2 ht
      refine ⟨A, E ++ E2, by unfold putA; exact a, ?_⟩
      have c1 : (A ++ (E ++ E2)).Perm ((B1 ++ A2) ++ E2) := by rw [← List.append_assoc]; exact List.Perm.append_right E2 b
      refine c1.trans ?_
      have c2 : ((B1 ++ A2) ++ E2).Perm (B1 ++ (A1 ++ C)) := by rw [List.append_assoc]; exact List.Perm.append_left B1 b2
      refine c2.trans ?_
      refine List.perm_iff_count.mpr fun a => ?_
      simp only [List.count_append]; omega
theorem OwnS.tgs {s : S} {A : List Addr} (os : OwnS T G H τ σ s A) (j : Nat) (v : V) (hv : σ[j]? = some (some v)) (h : 2 ≤ tgS s j) : v = .ref (τ.ad (tgS s j - 2)) := by
  unfold tgS at h ⊢
  split at h
  · rename_i o e
    obtain ⟨v', B, C, a, tk, _⟩ := os.out e
    have ev : v = v' := Option.some.inj (Option.some.inj (hv.symm.trans a))
    subst ev
    exact tk h
  · omega
def adr : V → Addr
  | .ref a => a
  | _ => 0
theorem ownS_fr {vs : List V} {ds : List D} (h : DnL T G vs ds) : OwnS T G H τ (vs.map some) (ds.map fun d => some (O.fr d)) [] := by
  induction ds generalizing vs with
  | nil => cases h; exact .nil
  | cons d ds ih =>
    cases h with
    | cons a l => exact .cons (A := []) TagOk.fr (.fr a) (ih l)
theorem tr_callJ {np : Nat} {den : M O} {dd : List D} {dvs : List V} {Q : VK} (hd : ∀ G, DnL T G dvs dd) (h : tDE T τ W (eCallJ np den dd g) σ H Q) : tDJ T τ W g σ H fun vs H1 => spD T np den (vs ++ dvs) H1 Q (WE W σ) := by
  obtain ⟨G, A, s, w, os, p⟩ := h
  refine ⟨G, A, s, w, os, ?_⟩
  unfold eCallJ bnd at p
  cases e : g s with
  | no => rw [e] at p; exact p
  | er x s1 => rw [e] at p; exact p
  | ok js s1 =>
    rw [e] at p
    intro vs G1 H1 A1 z os1 ar
    simp only at p
    split at p
    · rename_i hlen
      cases e1 : takeA 0 js s1 with
      | none => rw [e1] at p; exact p.elim
      | some q =>
        obtain ⟨ao, s2⟩ := q
        rw [e1] at p
        simp only at p
        have ht : ∀ i a, vs[i]? = some (V.ref a) → (Th.mk (fun n => adr ((vs[n]?).getD .non)) τ.gb).ad (0 + i) = a := fun i a e => by
          rw [Nat.zero_add]; show adr ((vs[i]?).getD .non) = a; rw [e]; rfl
        obtain ⟨B, C, pm, ob, oc⟩ := take_ok (τ' := Th.mk (fun n => adr ((vs[n]?).getD .non)) τ.gb) ar os1 e1 ht
        have lvs := ar.len
        refine ⟨by rw [List.length_append, lvs, (hd G).len]; exact hlen, Th.mk (fun n => adr ((vs[n]?).getD .non)) τ.gb, G1, B, ao ++ dd.map (fun d => some (.fr d)), (z.wf.perm pm).left, ?_, ?_⟩
        · rw [List.map_append]
          have := OwnS.app (ownS_fr (hd G1)) ob
          rw [List.append_nil] at this
          exact this
        · have w1 := z.wf.perm pm
          have fin : ∀ {G2 H2 : Hp} {A2 B2 : List Addr} {os2 : S}, Stp τ.gb G1 H1 B G2 H2 (A2 ++ B2) → OwnS T G2 H2 (Th.mk (fun n => adr ((vs[n]?).getD .non)) τ.gb) ((vs ++ dvs).map some) os2 A2 →
              ∃ A3, Stp τ.gb G1 H1 A1 G2 H2 (A3 ++ B2) ∧ OwnS T G2 H2 τ σ (putA s1 js os2 s2) A3 := by
            intro G2 H2 A2 B2 os2 z2 o2
            obtain ⟨z3, k3⟩ := z2.beside w1
            rw [List.map_append] at o2
            obtain ⟨A3, E3, o3, p3⟩ := put_ok ar o2 (oc.frame z2.gg k3) (os1.tgs)
            refine ⟨A3, ?_, o3⟩
            have z4 : Stp τ.gb G1 H1 A1 G2 H2 (A2 ++ B2 ++ C) := by
              refine ⟨z3.wf, z3.gg, fun a o e n => z3.fr a o e fun h => n (pm.mem_iff.mpr h), fun a o e n => (z3.gn a o e n).imp (fun h => pm.mem_iff.mpr h) id, fun a h => (z3.na a h).imp (fun h => pm.mem_iff.mpr h) id⟩
            refine z4.sub (D := E3) ?_
            have c1 : (A3 ++ B2 ++ E3).Perm ((A3 ++ E3) ++ B2) := by
              rw [List.append_assoc, List.append_assoc]; exact List.Perm.append_left A3 List.perm_append_comm
            refine c1.trans ((List.Perm.append_right B2 p3).trans ?_)
            rw [List.append_assoc, List.append_assoc]
            exact List.Perm.append_left A2 List.perm_append_comm
          cases e2 : den (ao ++ dd.map fun d => some (.fr d)) with
          | no => rw [e2] at p; exact p.elim
          | er x os2 =>
            rw [e2] at p
            intro cls d G2 H2 A2 z2 o2 xd
            obtain ⟨A3, z5, o5⟩ := fin (B2 := []) (by rw [List.append_nil]; exact z2) o2
            rw [List.append_nil] at z5
            exact p cls d G2 H2 A3 (z.trans z5) o5 xd
          | ok o os2 =>
            rw [e2] at p
            intro v G2 H2 A2 B2 z2 o2 ow
            obtain ⟨A3, z5, o5⟩ := fin z2 o2
            exact p v G2 H2 A3 B2 (z.trans z5) o5 (own_retag 1 ow)
    · exact p.elim
end

/-! ### defs that stand behind the top -/
/-- what is known of a def: np parameters, the last dd.length of which have the defaults dd -/
structure Df (T : Tab) (P : Program) (w : World) (K : PySem.W.Frag) (mg : Str → Option Value) (base : Heap) (x : Str) (k np : Nat) (dd : List D) (den : M O) : Prop where
  ok : ∃ (f : Addr) (fd : FuncData) (ps : List Str) (ds : List Value) (dvs : List V), FnOk P w K mg base (L2.CX P w) k f fd ps (spD T np den) ∧ mg x = some (.ref f) ∧ PySem.W.keepIn K (.ref f) = true ∧ Binds K fd ps ds ∧ Vals dvs ds ∧ ∀ G, DnL T G dvs dd
theorem Df.mono {T : Tab} {P : Program} {w : World} {K : PySem.W.Frag} {mg : Str → Option Value} {base : Heap} {x : Str} {j k np : Nat} {dd : List D} {den : M O} (F : Df T P w K mg base x j np dd den) (h : j ≤ k) : Df T P w K mg base x k np dd den := by
  obtain ⟨f, fd, ps, ds, dvs, a, b⟩ := F.ok
  exact ⟨f, fd, ps, ds, dvs, a.mono h, b⟩
theorem de_callD {T : Tab} {τ : Th} {W : WX} {X : Cx} {x : Str} {k np : Nat} {dd : List D} {den : M O} {e : Expr} {es : List Expr} {g : M (List J)} {p pos : Pos} (F : Df T X.prog X.w X.K X.mg X.base x k np dd den) (hr : Room k X.A) (tk : Takes X W) (hg : Gl X x)
    (ha : PA X (e :: es) (tDJ T τ W g)) (hdb : (x == ("__debug__" : Str)) = false := by decide) (he : starEach (e :: es) X.env = (false, eval e X.env) :: starEach es X.env := by rfl) (hpl : (backTo pos (starEach es X.env)).any (·.1) = false := by rfl) :
    PE X (.Call (.Name x p) (e :: es) [] pos) (tDE T τ W (eCallJ np den dd g)) := by
  obtain ⟨f, fd, ps, ds, dvs, F1, hm, hk, hb, hd, hv⟩ := F.ok
  exact (pe_callSD F1 hr hg hm hk hb hd (passAt tk) ha hdb he hpl).weak fun σ H Q h => tr_callJ hv h
end DF
end

section
set_option maxRecDepth 100000
set_option maxHeartbeats 4000000
namespace DF
open PySem PySem.Spec PyProof.Rows L2

/-! ### enumerate(tuple); what is a list or a tuple -/
set_option maxHeartbeats 1000000 in
theorem meets_enumerate_newT (l : Addr) (items : Array Value) (n : Nat) (dct : Option Addr) (sl : Array (Option Value)) :
    Meets (Builtin.«enumerate.__new__» ⟨[.type "enumerate", .ref l], []⟩) (fun _ R s => s.heap.get? l = some { cls := .type "tuple", dict := dct, data := .seq items n, slots := sl } ∧
      R (.ok (.ret (.ref (s.heap.push { cls := .type "tuple_iterator", data := .fields #[.ref l, .int 0 0] }).objs.size)))
        { s with heap := (s.heap.push { cls := .type "tuple_iterator", data := .fields #[.ref l, .int 0 0] }).push { cls := .type "enumerate", data := .fields #[.none, .bool false, .ref s.heap.objs.size, rawInt 0, .none, .none] } }) :=
  .of_wp fun prog w A R s h => by
    obtain ⟨hp, g, d, tk, os⟩ := s; obtain ⟨hl, h⟩ := h
    have hsub := sub_enumerate
    have hL : Heap.IsTuple (Shared.heap ⟨hp, g, d, tk, os⟩) l items := ⟨_, hl, rfl, n, rfl⟩
    wp_walk using AutoSeq1.wpAny_loadPart' hl
    refine wpAny_stack_any fun st => wpAny_pure ?_
    split
    · rename_i c _ _ _ _ _
      cases (c == Value.type "enumerate")
      · wp_walk using AutoSeq1.wpAny_loadPart' hl, wpAny_pyIter_tuple hL
        exact ⟨_, rfl, h⟩
      · wp_walk using AutoSeq1.wpAny_loadPart' hl, wpAny_pyIter_tuple hL
        exact ⟨_, rfl, h⟩
    · wp_walk using AutoSeq1.wpAny_loadPart' hl, wpAny_pyIter_tuple hL
      exact ⟨_, rfl, h⟩
section
variable {prog : Program} {w : World} {A : Around} {E : Value → Shared → Prop} {s : Shared}
theorem call_enumerate_tuple {l : Addr} {items : Array Value} {Q : Value → Shared → Prop} (hL : s.heap.IsTuple l items)
    (h : ∀ h', IsEnum h' (s.heap.objs.size + 1) s.heap.objs.size 0 .none → h'.IsTupleIter s.heap.objs.size l 0 → h'.objs.size = s.heap.objs.size + 2 →
      (∀ b o, s.heap.get? b = some o → h'.get? b = some o) → Q (.ref (s.heap.objs.size + 1)) { s with heap := h' }) :
    wpAny (model prog w) A (call (.type "enumerate") [.ref l]) Q E s := by
  obtain ⟨⟨c, dct, dt, sl⟩, hl, hc, n, hd⟩ := hL
  replace hc : c = .type "tuple" := hc
  replace hd : dt = .seq items n := hd
  subst hc hd
  refine callType_new F.called_enumerate (by decide) (F.typeCall_enumerate_1 _) (F.newCall_enumerate_1 _) (fun obj => F.args_object_init_2 obj _) F.entry_enumerate_new
    (meets_enumerate_newT l items n dct sl) ⟨hl, ?_⟩
  have hz : (s.heap.push { cls := .type "tuple_iterator", data := .fields #[.ref l, .int 0 0] }).objs.size = s.heap.objs.size + 1 := Heap.size_push ..
  show _ ∧ _
  rw [hz]
  have he : IsEnum ((s.heap.push { cls := .type "tuple_iterator", data := .fields #[.ref l, .int 0 0] }).push
      { cls := .type "enumerate", data := .fields #[.none, .bool false, .ref s.heap.objs.size, rawInt 0, .none, .none] }) (s.heap.objs.size + 1) s.heap.objs.size 0 .none := by
    have := Heap.get?_push_size (s.heap.push { cls := .type "tuple_iterator", data := .fields #[.ref l, .int 0 0] })
      (o := { cls := .type "enumerate", data := .fields #[.none, .bool false, .ref s.heap.objs.size, rawInt 0, .none, .none] }) rfl
    rw [hz] at this; exact this
  refine ⟨⟨_, he, rfl⟩, h _ he ⟨_, Heap.get?_push_of_some _ (Heap.get?_push_size _ rfl), rfl, rfl⟩ (by rw [Heap.size_push, hz]) fun b o x => Heap.get?_push_of_some _ (Heap.get?_push_of_some _ x)⟩
end
def IteT (K : PySem.W.Frag) (a : Addr) : It :=
  ⟨fun i H => ∃ (xs : List V) (x : V), SqT K H a xs ∧ xs[i]? = some x, fun i H v H' => ∃ T x, v = .ref T ∧ H T = none ∧ H' = upd H T (.tup [.int (i : Nat), x]) ∧ ∀ xs, SqT K H a xs → xs[i]? = some x, fun i H => ∃ xs : List V, SqT K H a xs ∧ xs.length ≤ i⟩
theorem turn_enumT {P : Program} {w : World} {K : PySem.W.Frag} {elts : List Expr} {kk : Nat} {tpos : Pos} (a e it : Addr) (hai : a ≠ it) :
    Turn P w K (.Tuple elts kk tpos) (IteT K a) [e, it] e (fun i h => (∃ old, IsEnum h e it ((i : Nat) : Int) old) ∧ h.IsTupleIter it a i ∧ e ≠ it) where
  mem := by simp
  obj := fun i h st b hb => by
    obtain ⟨⟨old, he⟩, ⟨o, ho, hc, hd⟩, _⟩ := st
    have e' : b = e ∨ b = it := by simpa using hb
    rcases e' with z | z
    · rw [z]; exact ⟨_, he, fun v q => nomatch q⟩
    · rw [z]; exact ⟨o, ho, fun v q => by rw [hd] at q; cases q⟩
  keep := fun i h h' st k => let ⟨⟨old, he⟩, ⟨o, ho, q⟩, hne⟩ := st; ⟨⟨old, k e (by simp) _ he⟩, ⟨o, k it (by simp) _ ho, q⟩, hne⟩
  item := by
    intro X hP hw hK hc i pins s σ H E I hf st hg
    subst hP hw hK
    obtain ⟨⟨old, he⟩, hit, hne⟩ := st
    obtain ⟨xs, x, hq, hx⟩ := hg
    obtain ⟨its, rv, p, hz⟩ := I.tuple hq
    obtain ⟨u, hu, ru⟩ := rv.get hx
    have hel : e < s.heap.objs.size := Heap.lt_size he
    have hil : it < s.heap.objs.size := by obtain ⟨_, q, _⟩ := hit; exact Heap.lt_size q
    have hh : X.A.in1.handled = none := I.ok.hd hc
    have pt : s.heap.IsTuple a its.toArray := p
    have hea : e ≠ a := fun z => by
      obtain ⟨o, q1, q2, _⟩ := pt
      rw [← z] at q1
      have he2 : s.heap.get? e = _ := he
      rw [he2] at q1
      cases q1
      have q3 : Value.type "enumerate" = Value.type "tuple" := q2
      injection q3 with q4
      exact absurd q4 (by decide)
    have hlt : i < its.toArray.size := by
      have := (List.getElem?_eq_some_iff.mp hu).1
      simpa using this
    have D := Draws.tuple (prog := X.prog) (w := X.w) (A := X.A.in1) hh it a hai its.toArray
    refine wpAny_pyNext_enum_itemD (n := its.toArray.size) D he ⟨hit, pt⟩ hlt hne (by simp [hne, hea]) fun y h' tk hP ho hst hT hsz hk => ?_
    have hy : y = u := by
      have h1 : its.toArray[i]? = some y := hP
      have h2 : its.toArray[i]? = some u := by simpa using hu
      rw [h1] at h2; exact Option.some.inj h2
    subst hy
    refine ⟨_, rfl, wpAny_letOwnedTupleGo_enum (s := { s with heap := h', toks := tk + 1 }) ho fun h'' he' sb => ?_⟩
    have hT2 : h''.get? s.heap.objs.size = some { cls := .type "tuple", data := .seq #[.int i tk, y] } := (sb.2 _ (Nat.ne_of_gt hel)).trans hT
    have new : ObjOk X.prog X.w (upd H s.heap.objs.size (.tup [.int (i : Nat), x])) h'' s.heap.objs.size (.tup [.int (i : Nat), x]) :=
      ⟨by show 2 ≤ sizeLine; decide, [.int i tk, y], .cons ⟨_, rfl⟩ (.cons ru .nil), ⟨_, hT2, rfl, _, rfl⟩⟩
    have I1 : Inv X pins σ (upd H s.heap.objs.size (.tup [.int (i : Nat), x])) { s with heap := h'', toks := tk + 1 } :=
      I.turnedNew (ch := [e, it]) (fun b ob hb q => (sb.2 b (fun z => hb (by simp [z]))).trans (hk b ob (fun z => hb (by simp [z])) (fun z => hb (by simp [z])) q)) hf (Nat.le_refl _) new
    obtain ⟨⟨oi, hoi, hci⟩, _⟩ := hst
    refine ⟨.ref s.heap.objs.size, _, I1, rfl, ⟨_, x, rfl, I.hok.fresh (Nat.le_refl _), rfl, fun ys hy => by rw [I.tuple_inj hy hq]; exact hx⟩, ⟨⟨y, ?_⟩, ⟨oi, (sb.2 it (Ne.symm hne)).trans hoi, hci⟩, hne⟩, fun b hb => ?_⟩
    · have e1 : ((i + 1 : Nat) : Int) = (i : Int) + 1 := by omega
      rw [e1]; exact he'
    · have hb' : b < s.heap.objs.size := by
        have e' : b = e ∨ b = it := by simpa using hb
        rcases e' with z | z
        · rw [z]; exact hel
        · rw [z]; exact hil
      rw [upd_ne (Nat.ne_of_lt hb')]
      exact (hf b hb).1
  done := by
    intro X hP hw hK hc i pins s σ H E I hf st hg
    subst hP hw hK
    obtain ⟨⟨old, he⟩, hit, hne⟩ := st
    obtain ⟨xs, hq, hx⟩ := hg
    obtain ⟨its, rv, p, hz⟩ := I.tuple hq
    obtain ⟨f0, f1, f2, f3, f4, f5⟩ := hf it (by simp)
    have hl := rv.length
    have hh : X.A.in1.handled = none := I.ok.hd hc
    have hh2 : X.A.handled = none := I.ok.hd hc
    have pt : s.heap.IsTuple a its.toArray := p
    have hT : s.TypeIs (.ref e) "enumerate" := ⟨_, he, rfl⟩
    unfold pyNext
    refine wpAny_bind (wpAny_attempt (wpAny_callSpecial?_slot (name := Str.ofString "__next__") hT F.slot_enumerate_next
      (wpAny_call_entry F.slot_enumerate_next hT F.entry_enumerate_next ?_ (F.args_enumerate_next_1 _))))
    show wpAny _ _ (field (.ref e) 2 >>= _) _ _ _
    refine wpAny_bind (wpAny_field he rfl (x := .ref it) rfl ?_)
    have hxn : its.toArray[i]? = none := by simp; omega
    refine wpAny_bind (wpAny_nextOf_tuple_end hh hit pt hxn fun h' x he' hx' => ?_)
    obtain ⟨o, ho, hc⟩ := hx'
    refine wpAny_bind (wpAny_isInstance (T := "StopIteration") (b := true) ⟨o, ho, hc⟩ isSubtype_stop ?_)
    exact wpAny_pure ⟨rfl, I.turned (t' := s.toks) (fun b o hb q => he' b o hb q) f0 f1 f3 f4 f5⟩
  self := fun A i s Q E st h => let ⟨⟨_, he⟩, _⟩ := st; wpAny_pyIter_enum he h
/-- a list or a tuple, walked; enumerated -/
def iSeq (K : PySem.W.Frag) (tl : TE) : TI := fun σ H R => tl σ H fun x H1 => ∃ a, x = .ref a ∧ (((∃ xs, SqL K H1 a xs) ∧ R (Itl K a) H1) ∨ ((∃ xs, SqT K H1 a xs) ∧ R (Itt K a) H1))
theorem pi_seq {X : Cx} {tg l : Expr} {tl : TE} (hl : PE X l tl) : PI X tg l (iSeq X.K tl) := by
  refine ⟨fun pins s σ H R I h => ?_⟩
  refine thn (hl.run pins s σ H _ I h) fun v s1 ⟨x, H1, I1, r1, q1⟩ => ?_
  obtain ⟨a, e, ⟨⟨xs, hq⟩, q⟩ | ⟨⟨xs, hq⟩, q⟩⟩ := q1
  · subst e
    cases r1
    obtain ⟨its, rv, p, hz⟩ := I1.list hq
    refine wpAny_pyIter_list p.isList ?_
    refine ⟨s1.heap.objs.size, [s1.heap.objs.size], _, _, H1, rfl, I1.kept (t' := s1.toks) fun b o e => Heap.get?_push_of_some _ e, turn_list a _, ⟨_, Heap.get?_push_size _ rfl, rfl, rfl⟩, fun b hb => ?_, q⟩
    have e : b = s1.heap.objs.size := by simpa using hb
    subst e
    exact I1.fpOk (Nat.le_refl _) (I1.hok.fresh (Nat.le_refl _))
  · subst e
    cases r1
    obtain ⟨its, rv, p, hz⟩ := I1.tuple hq
    refine wpAny_pyIter_tuple (show s1.heap.IsTuple a its.toArray from p) ?_
    refine ⟨s1.heap.objs.size, [s1.heap.objs.size], _, _, H1, rfl, I1.kept (t' := s1.toks) fun b o e => Heap.get?_push_of_some _ e, turn_tuple a _, ⟨_, Heap.get?_push_size _ rfl, rfl, rfl⟩, fun b hb => ?_, q⟩
    have e : b = s1.heap.objs.size := by simpa using hb
    subst e
    exact I1.fpOk (Nat.le_refl _) (I1.hok.fresh (Nat.le_refl _))
def iEnS (K : PySem.W.Frag) (ta : TA) : TI := fun σ H R => ta σ H fun vs H1 => ∃ a, vs = [.ref a] ∧ (((∃ xs, SqL K H1 a xs) ∧ R (Ite K a) H1) ∨ ((∃ xs, SqT K H1 a xs) ∧ R (IteT K a) H1))
theorem pi_enS {X : Cx} {e : Expr} {ta : TA} {p pos tpos : Pos} {elts : List Expr} {kk : Nat} (hg : Gl X "enumerate") (hm : X.mg "enumerate" = none) (ha : PA X [e] ta) (hs : starEach [e] X.env = [(false, eval e X.env)] := by rfl) :
    PI X (.Tuple elts kk tpos) (.Call (.Name "enumerate" p) [e] [] pos) (iEnS X.K ta) := by
  refine ⟨fun pins s σ H R I h => ?_⟩
  refine Call_ (ld_blt I hg hm boot_enumerate (PyProof.Rows.callWith_type1 (thn (ha.run pos pins s σ H _ I h) fun us s1 ⟨vs, H1, I1, r1, q1⟩ => ?_) hs rfl))
  obtain ⟨a, ex, q1⟩ := q1
  subst ex
  cases r1 with
  | cons r rr =>
    cases rr
    cases r
    rcases q1 with ⟨⟨xs, hq⟩, q⟩ | ⟨⟨xs, hq⟩, q⟩
    · obtain ⟨its, rv, p', hz⟩ := I1.list hq
      refine call_enumerate_list p'.isList fun h' he hit hsz hk => wpAny_pyIter_enum he ?_
      have I2 : Inv X pins σ H1 { s1 with heap := h' } := I1.kept (t' := s1.toks) hk
      refine ⟨s1.heap.objs.size + 1, [s1.heap.objs.size + 1, s1.heap.objs.size], _, _, H1, rfl, I2, turn_enum a (s1.heap.objs.size + 1) s1.heap.objs.size, ⟨⟨.none, he⟩, hit, Nat.succ_ne_self _⟩, fun b hb => ?_, q⟩
      have e' : b = s1.heap.objs.size + 1 ∨ b = s1.heap.objs.size := by simpa using hb
      have hle : s1.heap.objs.size ≤ b := by
        rcases e' with z | z
        · rw [z]; exact Nat.le_add_right _ _
        · rw [z]; exact Nat.le_refl _
      exact I1.fpOk hle (I1.hok.fresh hle)
    · obtain ⟨its, rv, p', hz⟩ := I1.tuple hq
      have pt : s1.heap.IsTuple a its.toArray := p'
      have la : a < s1.heap.objs.size := by
        obtain ⟨o, e, _⟩ := pt
        exact Heap.lt_size e
      refine call_enumerate_tuple pt fun h' he hit hsz hk => wpAny_pyIter_enum he ?_
      have I2 : Inv X pins σ H1 { s1 with heap := h' } := I1.kept (t' := s1.toks) hk
      refine ⟨s1.heap.objs.size + 1, [s1.heap.objs.size + 1, s1.heap.objs.size], _, _, H1, rfl, I2, turn_enumT a (s1.heap.objs.size + 1) s1.heap.objs.size (Nat.ne_of_lt la), ⟨⟨.none, he⟩, hit, Nat.succ_ne_self _⟩, fun b hb => ?_, q⟩
      have e' : b = s1.heap.objs.size + 1 ∨ b = s1.heap.objs.size := by simpa using hb
      have hle : s1.heap.objs.size ≤ b := by
        rcases e' with z | z
        · rw [z]; exact Nat.le_add_right _ _
        · rw [z]; exact Nat.le_refl _
      exact I1.fpOk hle (I1.hok.fresh hle)
theorem walk_enumT {K : PySem.W.Frag} {a : Addr} {xs : List V} : Walk (IteT K a) xs.length (fun H => SqT K H a xs) (YPair (fun i => some (.int (i : Nat))) (fun i => xs[i]?)) := by
  refine ⟨fun i _ hi q => ⟨xs, xs[i], q, by simp [hi]⟩, fun _ q => ⟨xs, q, Nat.le_refl _⟩, fun i H v H' _ q y => ?_⟩
  obtain ⟨T, x, h1, h2, h3, h4⟩ := y
  exact ⟨T, .int (i : Nat), x, h1, h2, h3, rfl, h4 xs q⟩
end DF
end

section
set_option maxRecDepth 100000
set_option maxHeartbeats 4000000
namespace DF
open PySem PySem.Spec PyProof.Rows L2

/-! ### what is walked, as data -/
structure DWalk (T : Tab) (J : It) (G0 : Hp) (ds : List D) : Prop where
  ex : ∃ (Gd : Hp → Prop) (Y : Nat → Hp → V → Hp → Prop), Walk J ds.length Gd Y ∧ (∀ H, Ex G0 H → Gd H) ∧
    ∀ (i : Nat) (x : V) (G H H' : Hp), Ex G0 G → Ex G H → i < ds.length → Y i H x H' → ∃ (d : D) (G' : Hp), ds[i]? = some d ∧ Stp hE G H [] G' H' [] ∧ Dn T G' x d
section
variable (T : Tab) (τ : Th) (W : WX)
def kI (R : It → Hp → Prop) (σ : L2.St) : Hp → Hp → List Addr → List D → S → Prop := fun G H A ds s' => ∀ (J : It) (G' H' : Hp) (A' : List Addr), Stp τ.gb G H A G' H' A' → OwnS T G' H' τ σ s' A' → DWalk T J G' ds → R J H'
def tDI (f : M (List D)) : TI := fun σ H R => tD T τ W (kI T τ R) f σ H
end
def ofSeq : D → Option (List D)
  | .lst ds => some ds
  | .rol ds => some ds
  | .tup ds => some ds
  | _ => none
def iSeqD (f : M O) : M (List D) := bnd f fun o => (fun d => opt (ofSeq d)) (fz o)
def pairI : Nat → List D → List D
  | _, [] => []
  | i, d :: ds => .tup [.int i, d] :: pairI (i + 1) ds
def iEnumD (g : M (List D)) : M (List D) := bnd g fun ds => opt (match ds with
  | [d] => (ofSeq d).map (pairI 0)
  | _ => none)
def rngD (lo : Int) (n : Nat) : List D := (List.range n).map fun (k : Nat) => .int (lo + (k : Int))
def iRng1D (g : M (List D)) : M (List D) := bnd g fun ds => opt (match ds with
  | [.int j] => if -(2 ^ 62) ≤ j ∧ j < 2 ^ 62 then some (rngD 0 j.toNat) else none
  | _ => none)
def iRng2D (g : M (List D)) : M (List D) := bnd g fun ds => opt (match ds with
  | [.int i, .int j] => if -(2 ^ 62) ≤ i ∧ i < 2 ^ 62 ∧ -(2 ^ 62) ≤ j ∧ j < 2 ^ 62 then some (rngD i (j - i).toNat) else none
  | _ => none)
section
variable {T : Tab} {τ : Th} {W : WX} {X : Cx} {G H G0 : Hp} {σ : L2.St} {A : List Addr} {e tg : Expr} {es : List Expr} {f : M O} {g : M (List D)} {pos p : Pos}
theorem kI_step {R : It → Hp → Prop} : KStep τ (kI T τ R) := ⟨fun p z J G' H' A' z' => p J G' H' A' (z.trans z')⟩
theorem same_walk {J : It} {ds : List D} {vs : List V} {Gd : Hp → Prop} (w : Walk J vs.length Gd (YAt vs)) (l : DnL T G0 vs ds) (h : ∀ H, Ex G0 H → Gd H) : DWalk T J G0 ds := by
  refine ⟨Gd, YAt vs, by rw [← l.len]; exact w, h, fun i x G H H' e1 e2 hi y => ?_⟩
  obtain ⟨rfl, hx⟩ := y
  obtain ⟨d, hd, dn⟩ := l.getV hx
  exact ⟨d, G, hd, Stp.nil e2, dn.mono e1⟩
theorem pairI_get : ∀ (k : Nat) (ds : List D) (i : Nat), (pairI k ds)[i]? = (ds[i]?).map fun d => .tup [.int ((k + i : Nat) : Int), d]
  | k, [], i => by simp [pairI]
  | k, d :: ds, 0 => by simp [pairI]
  | k, d :: ds, i + 1 => by
    simp only [pairI, List.getElem?_cons_succ]
    rw [pairI_get (k + 1) ds i, show k + 1 + i = k + (i + 1) by omega]
theorem pairI_len (k : Nat) (ds : List D) : (pairI k ds).length = ds.length := by
  induction ds generalizing k with
  | nil => rfl
  | cons d ds ih => simp only [pairI, List.length_cons, ih]
theorem pair_walk {J : It} {ds : List D} {vs : List V} {Gd : Hp → Prop} (w : Walk J vs.length Gd (YPair (fun i => some (.int (i : Nat))) (fun i => vs[i]?))) (l : DnL T G0 vs ds) (h : ∀ H, Ex G0 H → Gd H) : DWalk T J G0 (pairI 0 ds) := by
  refine ⟨Gd, _, by rw [pairI_len, ← l.len]; exact w, h, fun i x G H H' e1 e2 hi y => ?_⟩
  obtain ⟨T1, x1, y1, rfl, hn, rfl, hx, hy⟩ := y
  cases hx
  obtain ⟨d, hd, dn⟩ := l.getV hy
  refine ⟨.tup [.int i, d], upd G T1 (.tup [.int (i : Nat), y1]), by rw [pairI_get, hd]; simp, ?_, ?_⟩
  · exact Stp.newF e2 hn
  · refine .tup upd_same (.cons (.int _) (.cons (dn.mono (e1.trans (Ex.new ?_))) .nil))
    cases q : G T1 with
    | none => rfl
    | some o => rw [e2 _ _ q] at hn; cases hn
theorem di_seq (hK : T.K = X.K) (he : PE X e (tDE T τ W f)) : PI X tg e (tDI T τ W (iSeqD f)) := by
  refine ⟨fun pins s σ H R I h => (pi_seq he).run pins s σ H R I ?_⟩
  obtain ⟨G, A, s, w, os, p⟩ := F_bind (k := kI T τ R) kI_step (g := fun d => opt (ofSeq d)) h
  refine ⟨G, A, s, w, os, ?_⟩
  cases e : f s with
  | no => rw [e] at p; exact p
  | er x s1 => rw [e] at p; exact p
  | ok o s1 =>
    rw [e] at p
    intro v G1' H1 A1' B1' z os1 ow1
    obtain ⟨G1, A1, d1, s1', w1, os1, dn1, p1⟩ := p v G1' H1 A1' B1' z os1 ow1
    obtain ⟨ds, e5, p4⟩ := opt_ok p1
    cases dn1 with
    | lst e l => cases e5; exact ⟨_, rfl, .inl ⟨⟨_, .of (w1.ex _ _ e)⟩, p4 _ G1 H1 A1 (Stp.refl w1) os1 (same_walk walk_list l fun H ex => .of (ex _ _ e))⟩⟩
    | rol e l => cases e5; exact ⟨_, rfl, .inl ⟨⟨_, hK ▸ ex_l w1.ex e⟩, p4 _ G1 H1 A1 (Stp.refl w1) os1 (same_walk walk_list l fun H ex => hK ▸ ex_l ex e)⟩⟩
    | tup e l => cases e5; exact ⟨_, rfl, .inr ⟨⟨_, .of (w1.ex _ _ e)⟩, p4 _ G1 H1 A1 (Stp.refl w1) os1 (same_walk walk_tup l fun H ex => .of (ex _ _ e))⟩⟩
    | tupE e => cases e5; exact ⟨_, rfl, .inr ⟨⟨_, hK ▸ ex_t w1.ex e⟩, p4 _ G1 H1 A1 (Stp.refl w1) os1 (same_walk (vs := []) walk_tup .nil fun H ex => hK ▸ ex_t ex e)⟩⟩
    | _ => cases e5
theorem di_enum {tpos : Pos} {elts : List Expr} {kk : Nat} (hK : T.K = X.K) (hg : Gl X "enumerate") (hm : X.mg "enumerate" = none) (ha : PA X [e] (tDA T τ W g)) (hs : starEach [e] X.env = [(false, eval e X.env)] := by rfl) :
    PI X (.Tuple elts kk tpos) (.Call (.Name "enumerate" p) [e] [] pos) (tDI T τ W (iEnumD g)) := by
  refine ⟨fun pins s σ H R I h => (pi_enS hg hm ha hs).run pins s σ H R I ?_⟩
  obtain ⟨G, A, s, w, os, p⟩ := A_bind (k := kI T τ R) kI_step h
  refine ⟨G, A, s, w, os, ?_⟩
  cases e : g s with
  | no => rw [e] at p; exact p
  | er x s1 => rw [e] at p; exact p
  | ok o s1 =>
    rw [e] at p
    intro v G1' H1 A1' z os1 ow1
    obtain ⟨G1, A1, d1, s1', w1, os1, dl, p1⟩ := p v G1' H1 A1' z os1 ow1
    obtain ⟨ds, e5, p4⟩ := opt_ok p1
    cases dl with
    | nil => cases e5
    | cons dn l =>
      cases l with
      | cons _ _ => cases e5
      | nil =>
        cases dn with
        | lst e l => cases e5; exact ⟨_, rfl, .inl ⟨⟨_, .of (w1.ex _ _ e)⟩, p4 _ G1 H1 A1 (Stp.refl w1) os1 (pair_walk walk_enum l fun H ex => .of (ex _ _ e))⟩⟩
        | rol e l => cases e5; exact ⟨_, rfl, .inl ⟨⟨_, hK ▸ ex_l w1.ex e⟩, p4 _ G1 H1 A1 (Stp.refl w1) os1 (pair_walk walk_enum l fun H ex => hK ▸ ex_l ex e)⟩⟩
        | tup e l => cases e5; exact ⟨_, rfl, .inr ⟨⟨_, .of (w1.ex _ _ e)⟩, p4 _ G1 H1 A1 (Stp.refl w1) os1 (pair_walk walk_enumT l fun H ex => .of (ex _ _ e))⟩⟩
        | tupE e => cases e5; exact ⟨_, rfl, .inr ⟨⟨_, hK ▸ ex_t w1.ex e⟩, p4 _ G1 H1 A1 (Stp.refl w1) os1 (pair_walk (vs := []) walk_enumT .nil fun H ex => hK ▸ ex_t ex e)⟩⟩
        | _ => cases e5
theorem rng_walk {lo : Int} {n : Nat} : DWalk T (Itr lo n) G0 (rngD lo n) := by
  have hl : (rngD lo n).length = n := by unfold rngD; rw [List.length_map, List.length_range]
  refine ⟨fun _ => True, _, by rw [hl]; exact walk_range, fun _ _ => True.intro, fun i x G H H' e1 e2 hi y => ?_⟩
  obtain ⟨rfl, rfl⟩ := y
  rw [hl] at hi
  refine ⟨.int (lo + i), G, ?_, Stp.nil e2, .int _⟩
  unfold rngD
  rw [List.getElem?_map, List.getElem?_range hi]; rfl
theorem di_rng1 (hg : Gl X "range") (hm : X.mg "range" = none) (ha : PA X [e] (tDA T τ W g)) (hs : starEach [e] X.env = [(false, eval e X.env)] := by rfl) : PI X tg (.Call (.Name "range" p) [e] [] pos) (tDI T τ W (iRng1D g)) := by
  refine ⟨fun pins s σ H R I h => (pi_range1 hg hm ha hs).run pins s σ H R I ?_⟩
  obtain ⟨G, A, s, w, os, p⟩ := A_bind (k := kI T τ R) kI_step h
  refine ⟨G, A, s, w, os, ?_⟩
  cases e : g s with
  | no => rw [e] at p; exact p
  | er x s1 => rw [e] at p; exact p
  | ok o s1 =>
    rw [e] at p
    intro v G1' H1 A1' z os1 ow1
    obtain ⟨G1, A1, d1, s1', w1, os1, dl, p1⟩ := p v G1' H1 A1' z os1 ow1
    obtain ⟨ds, e5, p4⟩ := opt_ok p1
    split at e5
    · rename_i j
      cases dl with
      | cons dn l =>
        cases dn; cases l
        split at e5
        · rename_i c
          cases e5
          exact ⟨j, rfl, c.1, c.2, p4 _ G1 H1 A1 (Stp.refl w1) os1 rng_walk⟩
        · cases e5
    · cases e5
theorem di_rng2 {e2 : Expr} (hg : Gl X "range") (hm : X.mg "range" = none) (ha : PA X [e, e2] (tDA T τ W g)) (hs : starEach [e, e2] X.env = [(false, eval e X.env), (false, eval e2 X.env)] := by rfl) (hs2 : starEach [e2] X.env = [(false, eval e2 X.env)] := by rfl) :
    PI X tg (.Call (.Name "range" p) [e, e2] [] pos) (tDI T τ W (iRng2D g)) := by
  refine ⟨fun pins s σ H R I h => (pi_range2 hg hm ha hs hs2).run pins s σ H R I ?_⟩
  obtain ⟨G, A, s, w, os, p⟩ := A_bind (k := kI T τ R) kI_step h
  refine ⟨G, A, s, w, os, ?_⟩
  cases e : g s with
  | no => rw [e] at p; exact p
  | er x s1 => rw [e] at p; exact p
  | ok o s1 =>
    rw [e] at p
    intro v G1' H1 A1' z os1 ow1
    obtain ⟨G1, A1, d1, s1', w1, os1, dl, p1⟩ := p v G1' H1 A1' z os1 ow1
    obtain ⟨ds, e5, p4⟩ := opt_ok p1
    split at e5
    · rename_i i j
      cases dl with
      | cons dn l =>
        cases dn
        cases l with
        | cons dn l =>
          cases dn; cases l
          split at e5
          · rename_i c
            cases e5
            exact ⟨i, j, rfl, c, p4 _ G1 H1 A1 (Stp.refl w1) os1 rng_walk⟩
          · cases e5
    · cases e5
end

/-! ### for -/
def lpFor (t : Tg) (F : M Fl) : List D → M Fl
  | [] => ret .nx
  | d :: ds => fun s => match t d s with
    | none => .no
    | some s1 => match F s1 with
      | .no => .no
      | .er x s2 => .er x s2
      | .ok .nx s2 => lpFor t F ds s2
      | .ok .ct s2 => lpFor t F ds s2
      | .ok .bk s2 => .ok .nx s2
      | .ok (.rt o) s2 => .ok (.rt o) s2
def sFor (f : M (List D)) (t : Tg) (F : M Fl) : M Fl := bnd f (lpFor t F)
section
variable {T : Tab} {τ : Th} {W : WX} {X : Cx} {G H G0 : Hp} {σ : L2.St} {A : List Addr} {e tg iter : Expr} {body : List Stmt} {f : M (List D)} {t : Tg} {F : M Fl} {pos p : Pos} {ws : List Nat}
theorem tr_for {D0 : Ends} (q : tDS T τ W (sFor f t F) D0 σ H) : tFor (tDI T τ W f) (tDG T τ ws t) (tDS T τ W F) D0 σ H := by
  obtain ⟨G, A, s, w, os, p⟩ := q
  refine ⟨G, A, s, w, os, ?_⟩
  unfold sFor bnd at p
  cases e : f s with
  | no => rw [e] at p; exact p
  | er x s1 => rw [e] at p; exact PostXS.x p
  | ok ds s1 =>
    rw [e] at p
    intro J G1 H1 A1 z os1 dw
    obtain ⟨Gd, Y, wk, hG, hY⟩ := dw.ex
    refine for_it wk (fun i σ H => ∃ (G : Hp) (A : List Addr) (s : S), Ex G1 G ∧ Wf τ.gb G H A ∧ OwnS T G H τ σ s A ∧ PostS T τ W D0 G H A (lpFor t F (ds.drop i) s)) ?_ ?_ ?_ ?_
    · exact ⟨G1, A1, s1, Ex.refl _, z.wf, os1, by rw [List.drop_zero]; exact PostS.step p z⟩
    · rintro i σ H _ ⟨G, A, s, ex, w, _⟩
      exact hG H (ex.trans w.ex)
    · rintro i x σ H H' hi ⟨G, A, s, ex, w, os, p⟩ y
      obtain ⟨d, G', hd, st0, dn⟩ := hY i x G H H' ex w.ex hi y
      have st := st0.up w.bd
      have st2 : Stp τ.gb G H A G' H' A := by have := st.beside' w; rw [List.append_nil] at this; exact this
      have os2 : OwnS T G' H' τ σ s A := os.frame st.gg fun a ha => beside_keep (B := []) st (by rw [List.append_nil]; exact w) a ha
      have hdr : ds.drop i = d :: ds.drop (i + 1) := by
        rw [List.drop_eq_getElem_cons hi]
        congr 1
        have := List.getElem?_eq_getElem hi
        rw [this] at hd; exact Option.some.inj hd
      rw [hdr] at p
      unfold lpFor at p
      cases et : t d s with
      | none => rw [et] at p; exact p.elim
      | some s2 =>
        rw [et] at p
        simp only at p
        refine ⟨G', A, s, s2, d, st2.wf, os2, dn, et, fun σ' A' D' pm os3 _ => ?_⟩
        have st3 : Stp τ.gb G H A G' H' A' := st2.sub pm
        refine ⟨G', A', s2, st3.wf, os3, ?_⟩
        have p2 := PostS.step p st3
        have nxt : ∀ {s3 : S}, PostS T τ W D0 G' H' A' (lpFor t F (ds.drop (i + 1)) s3) → PostN T τ (fun σ H => ∃ (G : Hp) (A : List Addr) (s : S), Ex G1 G ∧ Wf τ.gb G H A ∧ OwnS T G H τ σ s A ∧ PostS T τ W D0 G H A (lpFor t F (ds.drop (i + 1)) s)) G' H' A' s3 :=
          fun {s3} p σ4 G4 H4 A4 z4 os4 => ⟨G4, A4, s3, ex.trans (st.gg.trans z4.gg), z4.wf, os4, PostS.step p z4⟩
        cases ef : F s2 with
        | no => rw [ef] at p2; exact p2
        | er x s3 => rw [ef] at p2; exact p2
        | ok fl s3 =>
          rw [ef] at p2
          cases fl with
          | nx => exact nxt p2
          | ct => exact nxt p2
          | bk => exact p2
          | rt o => exact p2
    · rintro σ H ⟨G, A, s, ex, w, os, p⟩
      rw [List.drop_length] at p
      exact p σ G H A (Stp.refl w) os
theorem ds_for (ws : List Nat) (hp : PassesOwn (model X.prog X.w) X.A X.env X.xe) (hc : X.calm = true) (hi : PI X tg iter (tDI T τ W f)) (hg : PG X tg (tDG T τ ws t)) (hb : PSs X body (tDS T τ W F)) (hs : ∀ x, foldedSetIterable iter X.env x = pure x := by intro _; rfl) :
    PS X (.For tg iter body [] pos) (tDS T τ W (sFor f t F)) := (ps_for hp hc hi hg hb hs).weak fun _ _ _ q => tr_for q
end

/-! ### comprehensions -/
def wipeS (vs : List Nat) (s : S) : S := vs.foldr (fun v s => s.set v none) s
def lpLc (t : Tg) (tt : M Bool) (te : M O) (vs : List Nat) : List D → List O → M O
  | [], acc => ret (.lst 1 acc)
  | d :: ds, acc => fun s => match t d s with
    | none => .no
    | some s1 => match tt s1 with
      | .ok true s2 => match te s2 with
        | .ok o s3 => if inn o = true ∧ acc.length < 100000 then lpLc t tt te vs ds (acc ++ [o]) (wipeS vs s3) else .no
        | _ => .no
      | .ok false s2 => lpLc t tt te vs ds acc (wipeS vs s2)
      | _ => .no
def eLc (f : M (List D)) (t : Tg) (tt : M Bool) (te : M O) (vs : List Nat) : M O := bnd f fun ds s => lpLc t tt te vs ds [] (wipeS vs s)
/-- a value that is frozen at once -/
def eFz (f : M O) : M O := bnd f fun o => (fun d => ret (.fr d)) (fz o)
section
variable {T : Tab} {τ : Th} {W : WX} {X : Cx} {G H G0 : Hp} {σ : L2.St} {A : List Addr} {e tg iter elt : Expr} {body : List Stmt} {f : M (List D)} {t : Tg} {pos p : Pos}
theorem tr_fz {g : M O} {Q : VK} (h : tDE T τ W (eFz g) σ H Q) : tDE T τ W g σ H Q := by
  obtain ⟨G, A, s, w, os, p⟩ := F_bind kE_step (g := fun d => ret (.fr d)) h
  refine ⟨G, A, s, w, os, ?_⟩
  cases e : g s with
  | no => rw [e] at p; exact p
  | er x s1 => rw [e] at p; exact p
  | ok o s1 =>
    rw [e] at p
    intro v G1' H1 A1' B1' z os1 ow1
    obtain ⟨G1, A1, d1, s1', w1, os1, dn1, p1⟩ := p v G1' H1 A1' B1' z os1 ow1
    exact p1 v G1 H1 A1 [] (by rw [List.append_nil]; exact Stp.refl w1) os1 (.fr dn1)
theorem de_fz {g : M O} (h : PE X e (tDE T τ W g)) : PE X e (tDE T τ W (eFz g)) := h.weak fun _ _ _ q => tr_fz q
theorem OwnS.wipe {s : S} (os : OwnS T G H τ σ s A) : ∀ vs : List Nat, ∃ C E, OwnS T G H τ (wipe σ vs) (wipeS vs s) C ∧ (C ++ E).Perm A
  | [] => ⟨A, [], os, by simp⟩
  | v :: vs => by
    obtain ⟨C, E, a, p⟩ := OwnS.wipe os vs
    obtain ⟨C2, E2, b, q⟩ : ∃ C2 E2, OwnS T G H τ ((L2.wipe σ vs).set v none) ((wipeS vs s).set v none) C2 ∧ (C2 ++ E2).Perm C := by
      have gen : ∀ {σ : L2.St} {s : S} {A : List Addr} (j : Nat), OwnS T G H τ σ s A → ∃ C E, OwnS T G H τ (σ.set j none) (s.set j none) C ∧ (C ++ E).Perm A := by
        intro σ s A j h
        induction h generalizing j with
        | nil => exact ⟨[], [], .nil, by simp⟩
        | un l ih =>
          rename_i A0
          cases j with
          | zero => exact ⟨A0, [], .un l, by simp⟩
          | succ j =>
            obtain ⟨C, E, a, p⟩ := ih j
            exact ⟨C, E, .un a, p⟩
        | cons tk h l ih =>
          rename_i A0 B0
          cases j with
          | zero => exact ⟨B0, A0, .un l, List.perm_append_comm⟩
          | succ j =>
            obtain ⟨C, E, a, p⟩ := ih j
            exact ⟨A0 ++ C, E, .cons tk h a, by rw [List.append_assoc]; exact List.Perm.append_left A0 p⟩
      exact gen v a
    refine ⟨C2, E2 ++ E, b, ?_⟩
    rw [← List.append_assoc]
    exact (List.Perm.append_right E q).trans p
theorem OwnS.up {σ1 σ2 : L2.St} (hl : σ1.length = σ2.length) (k : ∀ (i : Nat) (v : V), σ1[i]? = some (some v) → σ2[i]? = some (some v)) {s : S} (os : OwnS T G H τ σ1 s A) : OwnS T G H τ σ2 s A := by
  induction os generalizing σ2 with
  | nil =>
    cases σ2 with
    | nil => exact .nil
    | cons _ _ => cases hl
  | un l ih =>
    cases σ2 with
    | nil => cases hl
    | cons y σ2 => exact .un (ih (Nat.succ.inj hl) fun i v e => by simpa using k (i + 1) v (by simpa using e))
  | cons tk h l ih =>
    cases σ2 with
    | nil => cases hl
    | cons y σ2 =>
      rename_i v1 _ _ _ _ _
      have := k 0 v1 rfl
      simp at this
      subst this
      exact .cons tk h (ih (Nat.succ.inj hl) fun i v e => by simpa using k (i + 1) v (by simpa using e))
abbrev WN : WX := fun _ _ _ _ => False
theorem tr_lc {vs : List Nat} {tt : M Bool} {te : M O} {Q : VK} (h : tDE T τ W (eLc f t tt te vs) σ H Q) :
    tLc (tDI T τ W f) (tDG T τ vs t) (tDT T τ WN tt) (tDE T τ WN te) vs σ H Q := by
  obtain ⟨G, A, s, w, os, p⟩ := h
  refine ⟨G, A, s, w, os, ?_⟩
  unfold eLc bnd at p
  cases e : f s with
  | no => rw [e] at p; exact p
  | er x s1 => rw [e] at p; exact p
  | ok ds s1 =>
    rw [e] at p
    simp only at p
    intro J G1 H1 A1 z os1 dw D0 hD0
    obtain ⟨Gd, Y, wk, hG, hY⟩ := dw.ex
    refine lc_it wk (fun i H => ∃ (G : Hp) (A B : List Addr) (s : S) (xs : List V) (acc : List O), Ex G1 G ∧ Wf τ.gb G H (A ++ (D0 :: B)) ∧ OwnS T G H τ (wipe σ vs) s A ∧ H D0 = some (.lst xs) ∧ OwnL T G H xs acc B ∧
      PostE T τ W σ G H (A ++ (D0 :: B)) Q (lpLc t tt te vs (ds.drop i) acc s)) ?_ ?_ ?_ ?_
    · -- at first
      obtain ⟨C, E, osw, pm⟩ := os1.wipe vs
      have st0 : Stp τ.gb G1 H1 A1 G1 H1 C := (Stp.refl z.wf).sub pm
      have hg : G1 D0 = none := by
        cases q : G1 D0 with
        | none => rfl
        | some o => rw [z.wf.ex _ _ q] at hD0; cases hD0
      have st1 : Stp τ.gb G1 H1 [] G1 (upd H1 D0 (.lst [])) [D0] := (Stp.newO z.wf.ex hD0).up z.wf.bd
      have st2 := st1.beside' st0.wf
      have kp : ∀ a ∈ C, upd H1 D0 (.lst []) a = H1 a := fun a ha => beside_keep (B := []) st1 (by rw [List.append_nil]; exact st0.wf) a ha
      exact ⟨G1, C, [], wipeS vs s1, [], [], Ex.refl _, st2.wf, osw.frame (Ex.refl _) kp, upd_same, .nil, by
        rw [List.drop_zero]; exact PostE.step p ((z.trans st0).trans st2)⟩
    · rintro i H _ ⟨G, A, B, s, xs, acc, ex, w, _⟩
      exact hG H (ex.trans w.ex)
    · rintro i x H H' hi ⟨G, A, B, s, xs, acc, ex, w, os, hD, ol, p⟩ y
      obtain ⟨d, G', hd, st0, dn⟩ := hY i x G H H' ex w.ex hi y
      have st := st0.up w.bd
      have st2 : Stp τ.gb G H (A ++ (D0 :: B)) G' H' (A ++ (D0 :: B)) := by have := st.beside' w; rw [List.append_nil] at this; exact this
      have kp : ∀ a ∈ A ++ (D0 :: B), H' a = H a := fun a ha => beside_keep (B := []) st (by rw [List.append_nil]; exact w) a ha
      have os2 : OwnS T G' H' τ (wipe σ vs) s A := os.frame st.gg fun a ha => kp a (List.mem_append_left _ ha)
      have ol2 : OwnL T G' H' xs acc B := ol.frame st.gg fun a ha => kp a (List.mem_append_right _ (List.mem_cons_of_mem _ ha))
      have hD2 : H' D0 = some (.lst xs) := by rw [kp D0 (List.mem_append_right _ List.mem_cons_self)]; exact hD
      have hdr : ds.drop i = d :: ds.drop (i + 1) := by
        rw [List.drop_eq_getElem_cons hi]
        congr 1
        have := List.getElem?_eq_getElem hi
        rw [this] at hd; exact Option.some.inj hd
      rw [hdr] at p
      unfold lpLc at p
      cases et : t d s with
      | none => rw [et] at p; exact p.elim
      | some s2 =>
        rw [et] at p
        simp only at p
        refine ⟨G', A, s, s2, d, st2.wf.left, os2, dn, et, fun σ' A' D' pm os3 hw => ⟨hw.trans (by
          refine List.ext_getElem? fun j => ?_
          by_cases hj : j < σ.length
          · rw [wipe_get _ vs j (by rw [wipe_length]; exact hj), wipe_get _ vs j hj]
            by_cases m : j ∈ vs
            · rw [if_pos m, if_pos m]
            · rw [if_neg m, if_neg m]
          · rw [List.getElem?_eq_none (by rw [wipe_length, wipe_length]; omega), List.getElem?_eq_none (by rw [wipe_length]; omega)]), ?_⟩⟩
        have st3 : Stp τ.gb G H (A ++ (D0 :: B)) G' H' (A' ++ (D0 :: B)) := st2.sub (D := D') (by
          have c1 : (A' ++ (D0 :: B) ++ D').Perm ((A' ++ D') ++ (D0 :: B)) := by rw [List.append_assoc, List.append_assoc]; exact List.Perm.append_left A' List.perm_append_comm
          exact c1.trans (List.Perm.append_right _ pm))
        -- the slots again, at the turn's end
        have hw2 : L2.wipe σ' vs = L2.wipe σ vs := hw.trans (by
          refine List.ext_getElem? fun j => ?_
          by_cases hj : j < σ.length
          · rw [wipe_get _ vs j (by rw [wipe_length]; exact hj), wipe_get _ vs j hj]
            by_cases m : j ∈ vs
            · rw [if_pos m, if_pos m]
            · rw [if_neg m, if_neg m]
          · rw [List.getElem?_eq_none (by rw [wipe_length, wipe_length]; omega), List.getElem?_eq_none (by rw [wipe_length]; omega)])
        have again : ∀ {G5 H5 : Hp} {A5 B5 : List Addr} {s5 : S} {xs5 : List V} {acc5 : List O}, Stp τ.gb G H (A ++ (D0 :: B)) G5 H5 (A5 ++ (D0 :: B5)) → OwnS T G5 H5 τ σ' s5 A5 → H5 D0 = some (.lst xs5) → OwnL T G5 H5 xs5 acc5 B5 →
            PostE T τ W σ G H (A ++ (D0 :: B)) Q (lpLc t tt te vs (ds.drop (i + 1)) acc5 (wipeS vs s5)) → ∃ (G : Hp) (A B : List Addr) (s : S) (xs : List V) (acc : List O), Ex G1 G ∧ Wf τ.gb G H5 (A ++ (D0 :: B)) ∧ OwnS T G H5 τ (wipe σ vs) s A ∧ H5 D0 = some (.lst xs) ∧ OwnL T G H5 xs acc B ∧
              PostE T τ W σ G H5 (A ++ (D0 :: B)) Q (lpLc t tt te vs (ds.drop (i + 1)) acc s) := by
          intro G5 H5 A5 B5 s5 xs5 acc5 z5 os5 hD5 ol5 p5
          obtain ⟨C, E, osw, pm⟩ := os5.wipe vs
          have z6 : Stp τ.gb G H (A ++ (D0 :: B)) G5 H5 (C ++ (D0 :: B5)) := z5.sub (D := E) (by
            have c1 : (C ++ (D0 :: B5) ++ E).Perm ((C ++ E) ++ (D0 :: B5)) := by rw [List.append_assoc, List.append_assoc]; exact List.Perm.append_left C List.perm_append_comm
            exact c1.trans (List.Perm.append_right _ pm))
          rw [hw2] at osw
          exact ⟨G5, C, B5, wipeS vs s5, xs5, acc5, ex.trans z5.gg, z6.wf, osw, hD5, ol5, PostE.step p5 z6⟩
        refine ⟨G', A', s2, st3.wf.left, os3, ?_⟩
        cases e2 : tt s2 with
        | no => rw [e2] at p; exact p.elim
        | er _ _ => rw [e2] at p; exact p.elim
        | ok b s3 =>
          rw [e2] at p
          intro G3 H3 A3 z3 os4
          obtain ⟨z3b, k3⟩ := z3.beside st3.wf
          have z3c := st3.trans z3b
          have hD3 : H3 D0 = some (.lst xs) := by rw [k3 D0 List.mem_cons_self]; exact hD2
          have ol3 : OwnL T G3 H3 xs acc B := ol2.frame z3.gg fun a ha => k3 a (List.mem_cons_of_mem _ ha)
          cases b with
          | false =>
            simp only at p
            rw [if_neg Bool.false_ne_true]
            exact again z3c os4 hD3 ol3 p
          | true =>
            simp only at p
            rw [if_pos rfl]
            refine ⟨G3, A3, s3, z3c.wf.left, os4, ?_⟩
            cases e3 : te s3 with
            | no => rw [e3] at p; exact p.elim
            | er _ _ => rw [e3] at p; exact p.elim
            | ok o s4 =>
              rw [e3] at p
              simp only at p
              split at p
              · rename_i ho
                intro v G4 H4 A4 B4 z4 os5 ow
                obtain ⟨z4b, k4⟩ := z4.beside z3c.wf
                have z4c := z3c.trans z4b
                have hD4 : H4 D0 = some (.lst xs) := by rw [k4 D0 List.mem_cons_self]; exact hD3
                have ol4 : OwnL T G4 H4 xs acc B := ol3.frame z4.gg fun a ha => k4 a (List.mem_cons_of_mem _ ha)
                refine ⟨xs, hD4, by rw [ol4.len]; exact bigl ho.2, ?_⟩
                -- the item is appended
                have pm4 : (A4 ++ B4 ++ (D0 :: B)).Perm (A4 ++ (D0 :: (B ++ B4))) := by
                  rw [List.append_assoc]
                  refine List.Perm.append_left A4 ?_
                  refine List.perm_append_comm.trans ?_
                  rw [List.cons_append]
                have z5 := z4c.perm pm4
                have nD : D0 ∉ A4 ++ (B ++ B4) := fun hm => by
                  have nd := z5.wf.nd
                  have := (List.perm_middle (a := D0) (l₁ := A4) (l₂ := B ++ B4)).nodup_iff.mp nd
                  exact (List.nodup_cons.mp this).1 hm
                have kk : ∀ a ∈ A4 ++ (B ++ B4), upd H4 D0 (.lst (xs ++ [v])) a = H4 a := fun a ha => upd_ne fun z => nD (z ▸ ha)
                have st6 : Stp τ.gb G4 H4 (A4 ++ (D0 :: (B ++ B4))) G4 (upd H4 D0 (.lst (xs ++ [v]))) (A4 ++ (D0 :: (B ++ B4))) := by
                  refine Stp.mut (D := []) z5.wf (fun a n => upd_ne fun z => n (by rw [z]; exact List.mem_append_right _ List.mem_cons_self)) (fun a ha => ?_) (by simp)
                  by_cases hq : a = D0
                  · exact ⟨_, by rw [hq]; exact upd_same⟩
                  · rw [upd_ne hq]; exact z5.wf.th a ha
                refine again (z5.trans st6) (os5.frame (Ex.refl _) fun a ha => kk a (List.mem_append_left _ ha)) upd_same ?_ p
                have o1 : OwnL T G4 (upd H4 D0 (.lst (xs ++ [v]))) xs acc B := ol4.frame (Ex.refl _) fun a ha => kk a (List.mem_append_right _ (List.mem_append_left _ ha))
                have o2 : Own T G4 (upd H4 D0 (.lst (xs ++ [v]))) v o B4 := ow.frame (Ex.refl _) fun a ha => kk a (List.mem_append_right _ (List.mem_append_right _ ha))
                have := ownL_app (ps := [o]) (B := B4) o1 (by have := OwnL.cons (vs := []) (os := []) (B := []) ho.1 o2 .nil; rw [List.append_nil] at this; exact this)
                exact this
              · exact p.elim
    · rintro H ⟨G, A, B, s, xs, acc, ex, w, os, hD, ol, p⟩
      rw [List.drop_length] at p
      have os2 : OwnS T G H τ σ s A := OwnS.up (wipe_length σ vs) (fun i v e => (wipe_some e).1) os
      exact p (.ref D0) G H A (D0 :: B) (Stp.refl w) os2 (.lst hD ol)
theorem dts_nil : PTs X [] (tDT T τ W (ret true)) := ⟨fun pins s σ H Q I ⟨G, A, s', w, os, p⟩ => pts_nil.run pins s σ H Q I (p G H A (Stp.refl w) os)⟩
theorem dts_one {c : Expr} {tt : M Bool} (h : PT X c (tDT T τ W tt)) : PTs X [c] (tDT T τ W tt) := pts_one h
section
variable {ifs : List Expr} {scope : Scope} {own : List (Str × Nat)} {tt : M Bool} {te : M O} (vs : List Nat) (hc : X.calm = true) (hN : X.N.Nodup) (hi : PI X tg iter (tDI T τ W f)) (ok : BlkOk X.N X.env.scope scope own) (hv : own.map (·.2) = vs)
    (hg : ∀ (s : Shared) (H : Hp) (C : Addr) (cl : List (Str × Addr)) (fp : List Addr), PG (X.blk s H scope (compEnvC scope cl C X.env) fp) tg (tDG T τ vs t))
    (ht : ∀ (s : Shared) (H : Hp) (C : Addr) (cl : List (Str × Addr)) (fp : List Addr), PTs (X.blk s H scope (compEnvC scope cl C X.env) fp) ifs (tDT T τ WN tt))
    (he : ∀ (s : Shared) (H : Hp) (C : Addr) (cl : List (Str × Addr)) (fp : List Addr), PE (X.blk s H scope (compEnvC scope cl C X.env) fp) elt (tDE T τ WN te))
include hc hN hi ok hv hg ht he
theorem de_lc (hs : ∀ x, foldedSetIterable iter X.env x = pure x := by intro _; rfl) :
    PE X (.ListComp elt [⟨tg, iter, ifs, 0⟩] scope pos) (tDE T τ W (eLc f t tt te vs)) := by
  subst hv
  exact (pe_lc hc hN hi ok hg ht he hs).weak fun _ _ _ h => tr_lc h
theorem ds_setLc {spos py : Pos} (i : Nat) {y : Str} (hy : X.N[i]? = some y := by rfl) (hyl : X.env.scope.names.lookup y = some .local := by rfl)
    (hsw : swapsWith (.ListComp elt [⟨tg, iter, ifs, 0⟩] scope pos) (some (.Name y py)) spos.line X.env = pure true := by rfl) (hs : ∀ x, foldedSetIterable iter X.env x = pure x := by intro _; rfl) :
    PS X (.Assign [.Name y py] (.ListComp elt [⟨tg, iter, ifs, 0⟩] scope pos) spos) (tDS T τ W (sSet i (eLc f t tt te vs))) := by
  subst hv
  exact (ps_setLc hc hN hy hyl hsw hi ok hg ht he hs).weak fun D σ H q => tr_lc (kE_imp (S_bind q) fun v H1 ⟨G1, A1, B1, o, s1, w, os, ow, p⟩ => set_end w os (own_retag 1 ow) (tag_retag1 o) p)
end
end
end DF
end

section
set_option maxRecDepth 100000
set_option maxHeartbeats 4000000
namespace DF
open PySem PySem.Spec PyProof.Rows L2

/-! ### several clauses, with names -/
abbrev ends1 (i : Nat) (D : Ends) : Ends := { nx := fun σ' H' => D.nx (σ'.set i none) H', rt := D.rt, bk := fun σ' H' => D.bk (σ'.set i none) H', ct := fun σ' H' => D.ct (σ'.set i none) H' }
structure HdA where
  c : Value
  i : Nat
  ts : Addr → Value → Option Addr → TS
def wManyA (K : PySem.W.Frag) (Wout : WX) (D : Ends) : List HdA → WX
  | [] => Wout
  | h :: r => fun cls d σ H => ∃ b, PySem.W.exmOne K cls h.c = some b ∧ (b = true → ∀ a, H a = none → h.ts a cls d (ends1 h.i D) (σ.set h.i (some (.ref a))) H) ∧ (b = false → wManyA K Wout D r cls d σ H)
inductive HdsA (X : Cx) : List ExceptHandler → List HdA → Prop
  | nil : HdsA X [] []
  | cons {x n : Str} {c : Value} {i : Nat} {ts : Addr → Value → Option Addr → TS} {b₀ : Stmt} {suite : List Stmt} {np pos' : Pos} {hds : List ExceptHandler} {l : List HdA} (hi : X.N[i]? = some n) (hln : X.env.kindOf n = some .local) (hc : Names X x c)
      (hsu : ∀ (a : Addr) (oe : Obj) (cls : Value) (d : Option Addr) (pn : List (Addr × Obj)), Zc cls d oe → (∃ vs, oe.data = .fields vs) → PSs (X.suite a ((a, oe) :: pn)) (b₀ :: suite) (ts a cls d)) (r : HdsA X hds l) :
      HdsA X (.ExceptHandler (some (.Name x np)) (some n) (b₀ :: suite) pos' :: hds) (⟨c, i, ts⟩ :: l)
section
variable {X : Cx} {body : List Stmt} {h₀ : ExceptHandler} {hds : List ExceptHandler} {l : List HdA} {pos : Pos} {tb : WX → TS} {Wout : WX}
theorem ps_try_manyA (hs : X.stack = X.env :: X.outer) (hf : X.env.frame = some X.env.locals) (hN : X.N.Nodup) (tk : Takes X Wout)
    (hb : ∀ (W : WX) (pn : List (Addr × Obj)) (xe : Value → Shared → Prop), Takes (X.tr pn xe) W → PassesOwn (model X.prog X.w) X.A X.env xe → PSs (X.tr pn xe) body (tb W))
    (hh : HdsA X (h₀ :: hds) l) : PS X (.Try body (h₀ :: hds) [] [] pos) (fun D σ H => tb (wManyA X.K Wout D l) D σ H) := by
  refine ⟨fun pins s σ H D I h => ?_⟩
  have ok := I.ok
  have hfr : X.A.frames = some (X.env :: X.outer) := by rw [ok.frames, hs]
  refine wpAny_Try_except ?_
  refine wpAny_mono ((hb (wManyA X.K Wout D l) (X.pn ++ pins) (fun e s₁ => wpAny (model X.prog X.w) X.A (noteFrame e X.env) (fun _ s₂ => wpAny (model X.prog X.w) X.A (setFlight e none) (fun _ s₃ =>
    wpAny (model X.prog X.w) X.A (handleBy e X.env (h₀ :: hds)) (SP X pins D) X.xe s₃) X.xe s₂) X.xe s₁) (fun u s' xx => ?_) PassesOwn.looking).run [] s σ H D (I.toTry _) h) (fun f s1 hsp => ?_) (fun e s1 he => he)
  · -- the catch
    obtain ⟨a, B, sI, pins', σ', H', cls, d, rfl, J', nb, up, sky, na, os, ag, w⟩ := xx
    have J : Inv X pins σ' H' sI := J'.ofTry ok
    have sky' : Sky B (X.env :: X.outer) a (Zc cls d) X.env.locals s'.heap := by rw [← hs]; exact sky
    show wpAny (model X.prog X.w) X.A (noteFrame (.ref a) X.env) _ _ _
    refine Sky.land Zc.steady hfr hf sky' fun h3 fl3 up3 => ?_
    have J3 : Inv X pins σ' H' { s' with heap := h3 } := J.landed nb fl3.1 (up.trans up3) os ag
    obtain ⟨oe3, vs3, he3, hz3, hd3⟩ := fl3.there
    have notFr : ∀ {h : Heap} {o : Obj} {vs : Array Value}, h.FunFrames B (X.env :: X.outer) → h.get? a = some o → o.data = .fields vs → a ∉ frs (X.env :: X.outer) := fun {h o vs} ff e dd hm => by
      obtain ⟨_, o', e', hnf⟩ := ff.mem hm
      rw [e] at e'; cases e'
      exact hnf _ dd
    have nfr := notFr fl3.2.2.1 he3 hd3
    have nL : a ≠ X.env.locals := fun z => nfr (List.mem_filterMap.mpr ⟨X.env, List.mem_cons_self, by rw [hf, z]⟩)
    have nF : a ∉ X.fs := fun hm => by
      obtain ⟨e, he, q⟩ := List.mem_filterMap.mp hm
      exact nfr (List.mem_filterMap.mpr ⟨e, List.mem_cons_of_mem _ he, q⟩)
    have S3 := J3.suite he3 hd3 na nL nF
    have go : ∀ {hds' : List ExceptHandler} {l' : List HdA}, HdsA X hds' l' → wManyA X.K Wout D l' cls d σ' H' →
        wpAny (model X.prog X.w) X.A (handleBy (.ref a) X.env hds') (SP X pins D) X.xe { s' with heap := h3 } := by
      intro hds' l' hk
      induction hk with
      | nil =>
        intro w
        refine wpAny_handleBy_nil ?_
        obtain ⟨k1, k2, k3, oe, vs, T, oT, ts', he, hz, hd, h1, hr⟩ := id fl3
        unfold PySem.passOn
        refine wpAny_bind (wpAny_field he hd h1 ?_)
        rw [if_neg (show ¬ ((Value.ref T == Value.none) = true) from by simp)]
        have fin : wpAny (model X.prog X.w) X.A (setFlight (.ref a) X.env.frame) (fun _ s4 => wpAny (model X.prog X.w) X.A (throw (.ref a) : Sem Flow) (SP X pins D) X.xe s4) X.xe { s' with heap := h3 } := by
          rw [hf]
          refine HandSPX.setFlight_upZ fl3 fun h4 hh4 up4 => wpAny_throw (tk _ _ ?_)
          exact ⟨a, B, sI, pins, σ', H', cls, d, rfl, J, nb, (up.trans up3).trans up4, .inr (.inr (by rw [hs]; exact hh4)), na, os, ag, w⟩
        first
          | exact wpAny_bind (wpAny_pure (wpAny_bind fin))
          | exact wpAny_bind fin
      | @cons x n c i ts b₀ suite np pos' hds2 l2 hi hln hc hsu r ih =>
        intro w
        have hloc : Loc X.env.scope n := .inl hln
        obtain ⟨b, hb1, hyes, hno⟩ := w
        refine wpAny_handleBy_cons (codeAny_handlers_test ?_) (by intro q; cases q)
        have LT : PySem.W.Looks (model X.prog X.w) h3 (typeOf (.ref a)) cls := fun A Q E s k q => wpAny_typeOf_ref (k _ _ he3) (by rw [hz3.1]; exact q)
        have LM := PySem.W.exm_one (M := model X.prog X.w) (J3.kIn) LT hb1
        have test : ∀ {Q : Value → Shared → Prop} {E : Value → Shared → Prop}, Q c { s' with heap := h3 } → wpAny (model X.prog X.w) (X.A.mark (some (.ref a))) (eval (.Name x np) X.env) Q E { s' with heap := h3 } := fun {Q E} q => by
          obtain ⟨hg, hdbg, hm | ⟨hm, hv, hnn⟩⟩ := hc
          · exact ld_glob (X := X.suite a ((a, oe3) :: (X.pn ++ pins))) S3 hg hm q hdbg
          · exact ld_blt (X := X.suite a ((a, oe3) :: (X.pn ++ pins))) S3 hg hm hv q hnn hdbg
        refine test (LM.here ?_)
        cases b with
        | true =>
          refine codeAny_handlers_suite_as ?_
          refine HandSPX.lands_againZ fl3 fun h4 fl4 up4 => ?_
          have J4 : Inv X pins σ' H' { s' with heap := h4 } := J.landed nb fl4.1 ((up.trans up3).trans up4) os ag
          obtain ⟨oe4, vs4, he4, hz4, hd4⟩ := fl4.there
          have S4 := J4.suite he4 hd4 na nL nF
          refine store_ok (X := X.suite a ((a, oe4) :: (X.pn ++ pins))) (v := .ref a) S4 hN hi hloc rfl (fun s5 S5 => ?_) (.inr hln)
          refine wpAny_mono ((hsu a oe4 cls d (X.pn ++ pins) hz4 ⟨_, hd4⟩).run [] s5 _ H' _ S5 (hyes rfl a na)) (fun f s6 hsp => ?_) (fun _ _ z => False.elim z)
          have end_ : ∀ {σ6 : L2.St} {H6 : Hp} {Q : Shared → Prop}, Inv (X.suite a ((a, oe4) :: (X.pn ++ pins))) [] σ6 H6 s6 → (∀ s7, Inv X pins (σ6.set i none) H6 s7 → Q s7) →
              wpAny (model X.prog X.w) X.A (do bindName X.env n .none; unbindBehindTheSuite X.env n pos') (fun _ s7 => Q s7) X.xe s6 := fun {σ6 H6 Q} S6 hq => gone_ok (S6.unsuite ok) hN hi hln hq
          cases f with
          | next =>
            obtain ⟨σ6, H6, S6, q6⟩ := hsp
            exact end_ S6 fun s7 J7 => ⟨_, _, J7, q6⟩
          | brk =>
            obtain ⟨σ6, H6, S6, q6⟩ := hsp
            exact end_ S6 fun s7 J7 => ⟨_, _, J7, q6⟩
          | cont =>
            obtain ⟨σ6, H6, S6, q6⟩ := hsp
            exact end_ S6 fun s7 J7 => ⟨_, _, J7, q6⟩
          | ret u =>
            obtain ⟨v6, σ6, H6, S6, r6, q6⟩ := hsp
            exact end_ S6 fun s7 J7 => ⟨_, _, _, J7, r6, q6⟩
        | false =>
          show wpAny _ X.A (handleBy (.ref a) X.env hds2) _ _ _
          exact ih (hno rfl)
    exact go hh w
  · cases f with
    | next =>
      obtain ⟨σ', H', J', q⟩ := hsp
      exact wpAny_execs_nil ⟨σ', H', J'.ofTry ok, q⟩
    | brk =>
      obtain ⟨σ', H', J', q⟩ := hsp
      exact ⟨σ', H', J'.ofTry ok, q⟩
    | cont =>
      obtain ⟨σ', H', J', q⟩ := hsp
      exact ⟨σ', H', J'.ofTry ok, q⟩
    | ret u =>
      obtain ⟨v, σ', H', J', r, q⟩ := hsp
      exact ⟨v, σ', H', J'.ofTry ok, r, q⟩
end
end DF

namespace DF
open PySem PySem.Spec PyProof.Rows L2
/-! ### try, as data -/
structure Hd where
  t : Nat → Option Bool
  i : Nat
  f : Exn → M Fl
/-- no slot lent from the 1000th parameter -/
def cool (s : S) : Bool := s.all fun x => match x with
  | some o => tag o != 1002
  | none => true
def runH : List Hd → Exn → M Fl
  | [], x => fun s => .er x s
  | h :: r, x => fun s => match h.t x.c with
    | none => .no
    | some false => runH r x s
    | some true => if cool s = true then match h.f x (s.set h.i (some (.hd 1002))) with
      | .ok fl s2 => if cool (s2.set h.i none) = true then .ok fl (s2.set h.i none) else .no
      | _ => .no else .no
def sTry (F : M Fl) (hs : List Hd) : M Fl := fun s => match F s with
  | .er x s1 => runH hs x s1
  | r => r
/-- the held addresses with a caught exception's at 1000 -/
def Th.hot (τ : Th) (a : Addr) (G0 : Hp) : Th := ⟨fun n => if n = 1000 then a else τ.ad n, G0⟩
section
variable {T : Tab} {τ τ2 : Th} {W Wout : WX} {X : Cx} {G H G' H' : Hp} {σ : L2.St} {s : S} {A : List Addr}
theorem OwnS.hot (os : OwnS T G H τ σ s A) (h : cool s = true) (a : Addr) (G0 : Hp) : OwnS T G H (τ.hot a G0) σ s A := by
  induction os with
  | nil => exact .nil
  | un l ih => exact .un (ih (by simpa [cool] using h))
  | cons t q l ih =>
    simp only [cool, List.all_cons, Bool.and_eq_true, bne_iff_ne, ne_eq] at h
    refine .cons (fun z => ?_) q (ih (by simpa [cool] using h.2))
    rw [t z]
    show V.ref _ = V.ref (if _ then _ else _)
    rw [if_neg (by omega)]
theorem OwnS.unhot {a : Addr} {G0 : Hp} (os : OwnS T G H (τ.hot a G0) σ s A) (h : cool s = true) : OwnS T G H τ σ s A := by
  induction os with
  | nil => exact .nil
  | un l ih => exact .un (ih (by simpa [cool] using h))
  | cons t q l ih =>
    simp only [cool, List.all_cons, Bool.and_eq_true, bne_iff_ne, ne_eq] at h
    refine .cons (fun z => ?_) q (ih (by simpa [cool] using h.2))
    rw [t z]
    show V.ref (if _ then _ else _) = V.ref _
    rw [if_neg (by omega)]
theorem OwnS.put (x : Option V) : ∀ {σ : L2.St} {s : S} {A : List Addr} (j : Nat), OwnS T G H τ σ s A → ∃ C E, OwnS T G H τ (σ.set j x) (s.set j none) C ∧ (C ++ E).Perm A := by
  intro σ s A j h
  induction h generalizing j with
  | nil => exact ⟨[], [], .nil, by simp⟩
  | un l ih =>
    rename_i A0
    cases j with
    | zero => exact ⟨A0, [], .un l, by simp⟩
    | succ j =>
      obtain ⟨C, E, a, p⟩ := ih j
      exact ⟨C, E, .un a, p⟩
  | cons tk h l ih =>
    rename_i A0 B0
    cases j with
    | zero => exact ⟨B0, A0, .un l, List.perm_append_comm⟩
    | succ j =>
      obtain ⟨C, E, a, p⟩ := ih j
      exact ⟨A0 ++ C, E, .cons tk h a, by rw [List.append_assoc]; exact List.Perm.append_left A0 p⟩
theorem cool_none {s : S} (h : cool s = true) (j : Nat) : cool (s.set j none) = true := by
  refine List.all_eq_true.mpr fun x hx => ?_
  rcases List.mem_or_eq_of_mem_set hx with q | q
  · exact List.all_eq_true.mp h x q
  · subst q; rfl
inductive HdsD (T : Tab) (τ : Th) (X : Cx) : List ExceptHandler → List Hd → Prop
  | nil : HdsD T τ X [] []
  | cons {x n : Str} {c : Value} {h : Hd} {b₀ : Stmt} {suite : List Stmt} {np pos' : Pos} {hds : List ExceptHandler} {l : List Hd} (hi : X.N[h.i]? = some n) (hln : X.env.kindOf n = some .local) (hc : Names X x c) (ht : ∀ k b, h.t k = some b → PySem.W.exmOne X.K (.ref (T.cls k)) c = some b)
      (hsu : ∀ (a : Addr) (oe : Obj) (cls : Value) (d : Option Addr) (pn : List (Addr × Obj)) (x : Exn) (G0 : Hp), Zc cls d oe → (∃ vs, oe.data = .fields vs) → ExD T G0 x cls d → PSs (X.suite a ((a, oe) :: pn)) (b₀ :: suite) (tDS T (τ.hot a G0) WN (h.f x)))
      (r : HdsD T τ X hds l) : HdsD T τ X (.ExceptHandler (some (.Name x np)) (some n) (b₀ :: suite) pos' :: hds) (h :: l)
def tHd (T : Tab) (τ : Th) (h : Hd) : Addr → Value → Option Addr → TS := fun a cls d D σ H => ∃ (x : Exn) (G0 : Hp), ExD T G0 x cls d ∧ tDS T (τ.hot a G0) WN (h.f x) D σ H
theorem runH_ok {hds : List ExceptHandler} {hs : List Hd} (h : HdsD T τ X hds hs) : ∃ l : List HdA, HdsA X hds l ∧ ∀ {D : Ends} {x : Exn} {s1 : S} {G H : Hp} {A : List Addr}, PostS T τ Wout D G H A (runH hs x s1) → PostXS T τ (wManyA X.K Wout D l) G H A x s1 := by
  induction h with
  | nil => exact ⟨[], .nil, fun p => p⟩
  | cons hi hln hc ht hsu r ih =>
    rename_i xn n c h b₀ suite np pos' hds l
    obtain ⟨l2, hl2, post⟩ := ih
    refine ⟨⟨c, h.i, tHd T τ h⟩ :: l2, .cons hi hln hc (fun a oe cls d pn hz hf => ⟨fun pins s σ H D I ⟨x, G0, xd, q⟩ => (hsu a oe cls d pn x G0 hz hf xd).run pins s σ H D I q⟩) hl2, fun {D x s1 G H A} p => ?_⟩
    intro σ' cls d G' H' A' z os xd
    unfold runH at p
    cases e : h.t x.c with
    | none => rw [e] at p; exact p.elim
    | some b =>
      rw [e] at p
      refine ⟨b, by rw [xd.cls]; exact ht _ _ e, fun hb a na => ?_, fun hb => ?_⟩
      · subst hb
        simp only at p
        split at p
        · rename_i hcool
          obtain ⟨C, E, os1, pm⟩ := os.put (some (.ref a)) h.i
          have z1 := z.sub pm
          have os2 := os1.hot (cool_none hcool h.i) a G'
          obtain ⟨C2, E2, os3, pm2⟩ := os2.set (v := .ref a) (o := .hd 1002) (B := []) h.i (fun _ => by
            show V.ref a = V.ref (if (1002 - 2 : Nat) = 1000 then a else τ.ad (1002 - 2))
            rw [if_pos rfl]) (.hd _ _)
          rw [List.set_set, List.set_set, List.nil_append] at *
          have z2 := z1.sub pm2
          have w2 : Wf (τ.hot a G').gb G' H' C2 := z2.wf.up (Ex.refl _)
          refine ⟨x, G', xd, G', C2, _, w2, os3, ?_⟩
          have bk : ∀ {G4 H4 : Hp} {A4 : List Addr}, Stp (τ.hot a G').gb G' H' C2 G4 H4 A4 → Stp τ.gb G H A G4 H4 A4 := fun z4 => z2.trans (z4.up z2.wf.bd)
          cases ef : h.f x (s1.set h.i (some (.hd 1002))) with
          | no => rw [ef] at p; exact p.elim
          | er _ _ => rw [ef] at p; exact p.elim
          | ok fl s2 =>
            rw [ef] at p
            simp only at p
            split at p
            · rename_i hc2
              have nxt : ∀ {q : L2.St → Hp → Prop}, PostN T τ q G H A (s2.set h.i none) → PostN T (τ.hot a G') (fun σ' H' => q (σ'.set h.i none) H') G' H' C2 s2 := fun p σ4 G4 H4 A4 z4 os4 => by
                obtain ⟨C5, E5, os5, pm5⟩ := os4.put none h.i
                exact p _ G4 H4 C5 (bk (z4.sub pm5)) (os5.unhot hc2)
              cases fl with
              | nx => exact nxt p
              | bk => exact nxt p
              | ct => exact nxt p
              | rt o =>
                intro v σ4 G4 H4 A4 B4 z4 os4 ow4
                obtain ⟨C5, E5, os5, pm5⟩ := os4.put none h.i
                refine p v _ G4 H4 C5 B4 (bk (z4.sub (D := E5) ?_)) (os5.unhot hc2) ow4
                refine List.Perm.trans ?_ (List.Perm.append_right B4 pm5)
                rw [List.append_assoc, List.append_assoc]
                exact List.Perm.append_left C5 List.perm_append_comm
            · exact p.elim
        · exact p.elim
      · subst hb
        exact post p σ' cls d G' H' A' z os xd
theorem ds_try {body : List Stmt} {h₀ : ExceptHandler} {hds : List ExceptHandler} {hs : List Hd} {F : M Fl} {pos : Pos} (hst : X.stack = X.env :: X.outer) (hf : X.env.frame = some X.env.locals) (hN : X.N.Nodup) (tk : Takes X Wout)
    (hb : ∀ (W : WX) (pn : List (Addr × Obj)) (xe : Value → Shared → Prop), Takes (X.tr pn xe) W → PassesOwn (model X.prog X.w) X.A X.env xe → PSs (X.tr pn xe) body (tDS T τ W F)) (hh : HdsD T τ X (h₀ :: hds) hs) :
    PS X (.Try body (h₀ :: hds) [] [] pos) (tDS T τ Wout (sTry F hs)) := by
  obtain ⟨l, hl, post⟩ := runH_ok (Wout := Wout) hh
  refine (ps_try_manyA hst hf hN tk hb hl).weak fun D σ H q => ?_
  obtain ⟨G, A, s, w, os, p⟩ := q
  refine ⟨G, A, s, w, os, ?_⟩
  unfold sTry at p
  cases e : F s with
  | no => rw [e] at p; exact p
  | er x s1 => rw [e] at p; exact post p
  | ok fl s1 =>
    rw [e] at p
    cases fl with
    | nx => exact p
    | bk => exact p
    | ct => exact p
    | rt o => exact p
end
end DF
end

section
set_option maxRecDepth 100000
set_option maxHeartbeats 4000000
namespace DF
open PySem PySem.Spec PyProof.Rows L2

/-! ### __init__ that stores its arguments -/
def spI (K : PySem.W.Frag) (flds : List Str) : Sp := fun vs H Q E => ∃ (a C : Addr) (ws : List V), vs = .ref a :: ws ∧ ws.length = flds.length ∧ OexC K C ∧ (∀ f ∈ flds, PySem.W.findIn K (.ref C) f = some none) ∧ H a = some (exo a C none) ∧
  ∀ (H2 : Hp) (d : Addr), H d = none → d ≠ a → H2 a = some (exo a C (some d)) → H2 d = some (exd d ((flds.zip ws).reverse)) → (∀ b, b ≠ a → b ≠ d → H2 b = H b) → Q .non H2
def tInits (K : PySem.W.Frag) : Nat → List Str → TS
  | _, [] => tNext
  | i, f :: fs => tSeq (tOst K f (tVar 0) (tVar i)) (tInits K (i + 1) fs)
theorem inits_old {K : PySem.W.Frag} {D : Ends} {σ : L2.St} {a C dx : Addr} (hC : OexC K C) (h0 : σ[0]? = some (some (.ref a))) : ∀ (flds : List Str) (i : Nat) (ws : List V) (fs : List (Str × V)) (H : Hp), (∀ j v, ws[j]? = some v → σ[i + j]? = some (some v)) → ws.length = flds.length → fs.length + flds.length ≤ 900 → (∀ f ∈ flds, PySem.W.findIn K (.ref C) f = some none) →
    H a = some (exo a C (some dx)) → H dx = some (exd dx fs) → dx ≠ a → (∀ H2 : Hp, H2 a = some (exo a C (some dx)) → H2 dx = some (exd dx ((flds.zip ws).reverse ++ fs)) → (∀ b, b ≠ dx → H2 b = H b) → D.nx σ H2) → tInits K i flds D σ H
  | [], i, ws, fs, H, _, hl, _, _, ha, hd, hne, h => by
    cases ws with
    | nil => exact h H ha hd fun _ _ => rfl
    | cons _ _ => cases hl
  | f :: flds, i, ws, fs, H, hw, hl, hz, hf, ha, hd, hne, h => by
    cases ws with
    | nil => cases hl
    | cons y ws =>
      unfold tInits
      refine ⟨y, hw 0 y rfl, .ref a, h0, a, C, rfl, hC, hf f List.mem_cons_self, .inr ⟨dx, fs, ha, hd, by simp only [List.length_cons] at hz; omega, ?_⟩⟩
      refine inits_old hC h0 flds (i + 1) ws ((f, y) :: fs) _ (fun j v e => by rw [show i + 1 + j = i + (j + 1) by omega]; exact hw (j + 1) v (by simpa using e)) (Nat.succ.inj hl) (by simp only [List.length_cons] at hz ⊢; omega) (fun g hg => hf g (List.mem_cons_of_mem _ hg)) (by rw [upd_ne hne.symm]; exact ha) upd_same hne fun H2 e1 e2 e3 => h H2 e1 ?_ fun b hb => (e3 b hb).trans (upd_ne hb)
      rw [e2, List.zip_cons_cons, List.reverse_cons, List.append_assoc]; rfl
theorem init_ok {P : Program} {w : World} {K : PySem.W.Frag} {mg : Str → Option Value} {base : Heap} {qual : Str} {params : Arguments} {body : List Stmt} {scope : Scope} {f : Addr} {fd : FuncData} {N ps : List Str} {k : Nat} {flds : List Str}
    (F : FunD K "__init__" qual params body scope [] [] f fd) (S : FnScope N ps scope) (hN : N.length = ps.length) (hps : ps.length = flds.length + 1) (hz : flds ≠ [] ∧ flds.length ≤ 900)
    (hb : ∀ (cdv : Value) (A : Around) (outer : List Env) (s : Shared) (H : Hp) (E : XK), PSs (cxOf (L2.CX P w) P w K mg base N qual scope f cdv A outer s H E) body (tInits K 1 flds)) : FnOk P w K mg base (L2.CX P w) (k + 1) f fd ps (spI K flds) := by
  refine F.ok S (fun vs H Q E ⟨a, C, ws, e, l, _⟩ => by rw [e, List.length_cons, l, hps]) fun cdv A outer s H vs Q E hr h => ⟨_, hb cdv A outer s H E, ?_⟩
  obtain ⟨a, C, ws, rfl, hl, hC, hf, ha, h⟩ := h
  have hst : L2.start N (.ref a :: ws) = (some (.ref a)) :: ws.map some := by
    unfold L2.start
    rw [hN, hps, List.length_cons, hl, Nat.sub_self]
    simp
  rw [hst]
  cases flds with
  | nil => exact absurd rfl hz.1
  | cons g flds =>
    cases ws with
    | nil => cases hl
    | cons y ws =>
      unfold tInits
      have get : ∀ j v, ws[j]? = some v → (some (V.ref a) :: (y :: ws).map some)[1 + 1 + j]? = some (some v) := fun j v e => by
        rw [show 1 + 1 + j = j + 2 by omega]
        simp [e]
      refine ⟨y, rfl, .ref a, rfl, a, C, rfl, hC, hf g List.mem_cons_self, .inl ⟨ha, fun dx hn hne => ?_⟩⟩
      refine inits_old hC rfl flds 2 ws [(g, y)] _ (fun j v e => by rw [show 2 + j = 1 + 1 + j by omega]; exact get j v e) (Nat.succ.inj hl) (by have := hz.2; simp only [List.length_cons, List.length_nil] at this ⊢; omega) (fun g' hg => hf g' (List.mem_cons_of_mem _ hg)) upd_same (by rw [upd_ne hne]; exact upd_same) hne fun H2 e1 e2 e3 => ?_
      exact h H2 dx hn hne e1 (by rw [e2, List.zip_cons_cons, List.reverse_cons]) fun b hb1 hb2 => by rw [e3 b hb2, upd_ne hb1, upd_ne hb2]

/-! ### making one -/
def tMkV (C : Addr) (sp : Sp) (dvs : List V) (ta : TA) : TE := fun σ H Q => ta σ H fun vs H1 => vs.length ≤ 1000 ∧ ∀ a, H1 a = none → sp (.ref a :: (vs ++ dvs)) (upd H1 a (exo a C none)) (fun v H2 => v = .non ∧ Q (.ref a) H2) (fun _ _ _ => False)
section
variable {X : Cx} {e : Expr} {es : List Expr} {ta : TA} {p pos : Pos}
theorem pe_oex {CX : CXT} {x : Str} {C fI : Addr} {k : Nat} {fd : FuncData} {ps : List Str} {sp : Sp} {ds : List Value} {dvs : List V} (T : OexC X.K C) (iC : PySem.W.findIn X.K (.ref C) "__init__" = some (some (.ref fI))) (tI : PySem.W.typeIn X.K (.ref fI) = some (.type "function"))
    (F1 : FnOk X.prog X.w X.K X.mg X.base CX k fI fd ps sp) (hr : Room (k + 1) X.A) (hb : Binds X.K fd ps ds) (hd : Vals dvs ds) (hx : Passes CX X (fun _ _ _ => False)) (hg : Gl X x) (hm : X.mg x = some (.ref C)) (ha : PA X (e :: es) ta)
    (hdb : (x == ("__debug__" : Str)) = false := by decide) (he : starEach (e :: es) X.env = (false, eval e X.env) :: starEach es X.env := by rfl) (hpl : (backTo pos (starEach es X.env)).any (·.1) = false := by rfl) :
    PE X (.Call (.Name x p) (e :: es) [] pos) (tMkV C sp dvs ta) := by
  refine ⟨fun pins s σ H Q I h => ?_⟩
  obtain ⟨nm, q, N, bs, bm, sn, sub, ab, col, dd, k0, k1, k2, k3, k5, hC, hbm⟩ := T.cls
  refine wpAny_Call_Name_kw (ld_glob I hg hm ?_ hdb)
  refine PySem.W.callWith_K (h₀ := X.base) I.ok.mod.kin T.kC (thn (ha.run pos pins s σ H _ I h) fun us s1 ⟨vs, H1, I1, r1, hz, q1⟩ => ⟨I1.kIn, ?_⟩) he hpl
  show wpAny _ _ (call (.ref C) us) _ _ _
  obtain ⟨hp, g, dr, tk, os⟩ := s1
  have hsz : hp.objs.size ≤ hp.objs.size + 1 := Nat.le_succ _
  have hn : H1 (hp.objs.size + 1) = none := I1.hok.fresh hsz
  have hq := q1 (hp.objs.size + 1) hn
  have kk : ∀ b o, hp.get? b = some o → ((hp.push (PySem.W.kdv_tup us)).push (PySem.HandSPX.excO C hp.objs.size)).get? b = some o := fun b o e => Heap.get?_push_of_some _ (Heap.get?_push_of_some _ e)
  have hget : ((hp.push (PySem.W.kdv_tup us)).push (PySem.HandSPX.excO C hp.objs.size)).get? (hp.objs.size + 1) = some (PySem.HandSPX.excO C hp.objs.size) := by heap_get
  have I2 : Inv X pins σ (upd H1 (hp.objs.size + 1) (exo (hp.objs.size + 1) C none)) ⟨(hp.push (PySem.W.kdv_tup us)).push (PySem.HandSPX.excO C hp.objs.size), g, dr, tk, os⟩ :=
    I1.laid (t' := tk) (a := hp.objs.size + 1) (o := exo (hp.objs.size + 1) C none) (h' := (hp.push (PySem.W.kdv_tup us)).push (PySem.HandSPX.excO C hp.objs.size)) kk hsz (exo_ok hget)
  have r2 : Vals (V.ref (hp.objs.size + 1) :: (vs ++ dvs)) (Value.ref (hp.objs.size + 1) :: (us ++ ds)) := .cons rfl (r1.append hd)
  have hl : (Value.ref (hp.objs.size + 1) :: us ++ ds).length = ps.length := by
    have e := r2.length
    rw [F1.len _ _ _ _ hq] at e
    exact e.symm
  have hus : us.length ≤ sizeLine := by
    rw [← Paired.length r1, sizeLine_eq]
    omega
  refine wpAny_call (PySem.HandSPX.call_own F.excBase_ValueError (fun Y => PySem.HandSPX.refsVE_contains Y bm hbm) (I1.kIn _ _ hC) (PySem.W.looks_findIn I1.kIn iC) (fun self => PySem.W.bind_fn I1.kIn self tI) hus
    (codeAny_mono (F1.run _ X.stack _ _ ⟨Value.ref (hp.objs.size + 1) :: us, []⟩ (Value.ref (hp.objs.size + 1) :: (us ++ ds)) _ _ (fun _ _ _ => False) (hr.make C us []) (I2.env0.make C us []) (hb _ (Value.ref (hp.objs.size + 1) :: us) I2.kIn hl) r2 hq) fun r s' hq' => ?_))
  cases r with
  | error er => exact hx pins σ _ _ er s' I2 hq'
  | ok fl =>
    cases fl with
    | ret u =>
      obtain ⟨v, H2, J, rv, ev, q2⟩ := I2.after hq'
      subst ev
      exact ⟨rv, .ref (hp.objs.size + 1), H2, J, rfl, q2⟩
    | next => exact False.elim hq'
    | brk => exact False.elim hq'
    | cont => exact False.elim hq'
/-- X(), a class without own __init__ -/
theorem pe_exc0 {C : Addr} {bmB : List Value} {B newId initId : String} {x : Str} (F : ExcBaseFacts B newId initId bmB) (q : PySem.W.excIn X.K C bmB newId = true) (gC : X.mg x = some (.ref C)) (kC : PySem.W.keepIn X.K (.ref C) = true) (hg : Gl X x)
    (hdb : (x == ("__debug__" : Str)) = false := by decide) :
    PE X (.Call (.Name x p) [] [] pos) (fun σ H Q => ∀ a, H a = none → Q (.ref a) (upd H a (ExO (.ref C) a))) := by
  refine ⟨fun pins s σ H Q I h => ?_⟩
  refine wpAny_Call_Name_kw (ld_glob I hg gC ?_ hdb)
  refine PySem.W.callWith_K0 I.kIn kC ?_
  obtain ⟨bm, N, nm, qn, bs, hdct, sn, sub, ab, col, dd, k0, k1, k2, k3, k5, mN, hC, hN, hni, T⟩ := exc_obj I.kIn q
  show wpAny _ _ (call (.ref C) []) _ _ _
  refine wpAny_call_exc_subT F T hC hN hni (fun h' a hm => ?_) (by show 0 ≤ sizeLine; exact Nat.zero_le _)
  have hn : H a = none := I.hok.gone hm.new
  obtain ⟨t, ht, _, _⟩ := hm.there
  exact ⟨.ref a, upd H a (ExO (.ref C) a), I.laidN hm.keeps hm.new hn (exO_ok ht ⟨rfl, rfl⟩ rfl rfl rfl (show 4 < 6 by decide)), rfl, h a hn⟩
end
end DF

namespace DF
open PySem PySem.Spec PyProof.Rows L2
/-! ### the facts of the exception classes -/
theorem oexB_ok {K : PySem.W.Frag} {C : Addr} (h : oexB K C = true) : OexC K C := by
  unfold oexB at h
  obtain ⟨h1, h2⟩ := Bool.and_eq_true_iff.mp h
  obtain ⟨h3, h4⟩ := Bool.and_eq_true_iff.mp h2
  obtain ⟨h5, h6⟩ := Bool.and_eq_true_iff.mp h4
  obtain ⟨h7, h8⟩ := Bool.and_eq_true_iff.mp h6
  refine ⟨?_, of_decide_eq_true h3, of_decide_eq_true h5, of_decide_eq_true h7, h8⟩
  split at h1
  · rename_i dd cd sl ho
    split at h1
    · rename_i C' bm k0 k1 k2 k3 n k5 hm hs
      simp only [Bool.and_eq_true, beq_iff_eq, Bool.not_eq_true'] at h1
      obtain ⟨rfl, rfl, hdel, hdc, hr⟩ := h1
      obtain ⟨nm, bs, mro, ns, qn, hd, sn, sub, ab, col, del⟩ := cd
      dsimp only at hm hdel hdc
      subst hm hdel hdc
      have hsl : sl = #[k0, k1, k2, k3, some (.builtin "ValueError.__new__"), k5] := by
        obtain ⟨l⟩ := sl
        simp only at hs
        rw [hs]
      subst hsl
      exact ⟨nm, qn, ns, bs, bm, sn, sub, ab, col, dd, k0, k1, k2, k3, k5, ho, hr⟩
    · cases h1
  · cases h1
structure ExF (K : PySem.W.Frag) (C : Addr) : Prop where
  cl : (PySem.W.clsIn K C).isSome = true
  ga : PySem.W.findIn K (.ref C) "__getattribute__" = some (some (.builtin "BaseException.__getattribute__"))
  gg : PySem.W.findIn K (.ref C) "__getattr__" = some none
  exC : PySem.W.subIn K (.ref C) (.type "BaseException") = some true
  hdC : PySem.W.hasDictIn K C = true
  cc : PySem.W.findIn K (.ref C) "__class__" = some (some (.builtin "object.__class__"))
  sp : PySem.W.specialIn K (.builtin "object.__class__") "__get__" = some (some (.builtin "getset_descriptor.__get__"))
  tk : PySem.W.takesIn K (.builtin "object.__class__") = some true
  mo : PySem.W.mroIn K C (.type "object") = some true
theorem exfB_ok {K : PySem.W.Frag} {C : Addr} (h : exfB K C = true) : ExF K C := by
  unfold exfB at h
  simp only [Bool.and_eq_true, decide_eq_true_eq] at h
  obtain ⟨h1, h2, h3, h4, h5, h6, h7, h8, h9⟩ := h
  exact ⟨h1, h2, h3, h4, h5, h6, h7, h8, h9⟩
/-- the exception classes: which, their fields, their answers to isinstance (a class number, a built-in's number) -/
structure XT (T : Tab) (K : PySem.W.Frag) where
  ok : Nat → Bool
  fl : Nat → List Nat
  sub : Nat → Nat → Option Bool
  subB : Nat → Nat → Option Bool
  hf : ∀ c, ok c = true → ExF K (T.cls c)
  hfl : ∀ c n, ok c = true → (fl c).contains n = true → PySem.W.findIn K (.ref (T.cls c)) (T.fld n) = some none
  hsub : ∀ c k b, ok c = true → sub c k = some b → PySem.W.kitOne K (.ref (T.cls c)) (.ref (T.cls k)) = some b
  hsubB : ∀ c k b, ok c = true → subB c k = some b → PySem.W.kitOne K (.ref (T.cls c)) (.type (tyN k)) = some b

/-! ### lookups of fields -/
theorem lookup_mem {k : Str} {v : V} : ∀ {l : List (Str × V)}, (l.map Prod.fst).Nodup → (k, v) ∈ l → l.lookup k = some v
  | [], _, h => by cases h
  | (k', v') :: l, nd, h => by
    rw [lookup_put]
    rcases List.mem_cons.mp h with e | m
    · cases e; rw [if_pos rfl]
    · have hn := (List.nodup_cons.mp nd).1
      have : k ≠ k' := fun e => hn (by rw [← e]; exact List.mem_map.mpr ⟨_, m, rfl⟩)
      rw [if_neg this]
      exact lookup_mem (List.nodup_cons.mp nd).2 m
theorem zip_fst {α β : Type} : ∀ {l : List α} {m : List β}, l.length = m.length → (l.zip m).map Prod.fst = l
  | [], [], _ => rfl
  | a :: l, b :: m, h => by rw [List.zip_cons_cons, List.map_cons, zip_fst (Nat.succ.inj h)]
  | [], _ :: _, h => by cases h
  | _ :: _, [], h => by cases h
theorem fld_get {T : Tab} {fs : List Nat} {vs : List V} (nd : fs.Nodup) (hl : fs.length = vs.length) {i n : Nat} {v : V} (h1 : fs[i]? = some n) (h2 : vs[i]? = some v) : ((fs.map T.fld).zip vs).lookup (T.fld n) = some v := by
  refine lookup_mem ?_ ?_
  · rw [zip_fst (by rw [List.length_map]; exact hl)]
    exact List.Pairwise.map T.fld (fun a b h e => h (T.inj a b e)) nd
  · refine List.mem_of_getElem? (i := i) ?_
    rw [List.getElem?_zip_eq_some]
    exact ⟨by rw [List.getElem?_map, h1]; rfl, h2⟩
theorem zip_rev {α β : Type} : ∀ {l : List α} {m : List β}, l.length = m.length → (l.zip m).reverse = l.reverse.zip m.reverse
  | [], [], _ => rfl
  | a :: l, b :: m, h => by
    rw [List.zip_cons_cons, List.reverse_cons, List.reverse_cons, List.reverse_cons, zip_rev (Nat.succ.inj h), List.zip_append (by rw [List.length_reverse, List.length_reverse]; exact Nat.succ.inj h)]
    rfl
  | [], _ :: _, h => by cases h
  | _ :: _, [], h => by cases h
/-- the field n, as data -/
def fldD (n : Nat) (fs : List Nat) (ds : List D) : Option D := (fs.zip ds).lookup n
theorem lookup_ix {n : Nat} {d : D} : ∀ {fs : List Nat} {ds : List D}, (fs.zip ds).lookup n = some d → ∃ i : Nat, fs[i]? = some n ∧ ds[i]? = some d
  | [], _, h => by cases h
  | _ :: _, [], h => by cases h
  | f :: fs, d' :: ds, h => by
    rw [List.zip_cons_cons, List.lookup_cons] at h
    by_cases e : n == f
    · rw [e] at h
      cases h
      exact ⟨0, by rw [beq_iff_eq.mp e]; rfl, rfl⟩
    · rw [Bool.eq_false_iff.mpr e] at h
      obtain ⟨i, a, b⟩ := lookup_ix h
      exact ⟨i + 1, by simpa using a, by simpa using b⟩

/-! ### raise C(..) ; C(..) as a value -/
def sRaise (c : Nat) (fs : List Nat) (g : M (List D)) : M Fl := bnd g fun ds s => if ds.length = fs.length ∧ ds.length ≤ 1000 then .er ⟨c, fs.reverse, ds.reverse⟩ s else .no
def eMk (c : Nat) (fs : List Nat) (g : M (List D)) : M O := bnd g fun ds => if ds.length = fs.length ∧ ds.length ≤ 1000 then ret (.fr (.ex c fs.reverse ds.reverse)) else fun _ => .no
section
variable {T : Tab} {τ : Th} {W : WX} {X : Cx} {G H G' H' : Hp} {σ : L2.St} {s : S} {A : List Addr} {e : Expr} {es : List Expr} {g : M (List D)} {p pos pos' : Pos}
theorem tr_mko {c : Nat} {fs : List Nat} {D : Ends} (hC : OexC X.K (T.cls c)) (hfl : ∀ f ∈ fs.map T.fld, PySem.W.findIn X.K (.ref (T.cls c)) f = some none) (nd : fs.Nodup) (q : tDS T τ W (sRaise c fs g) D σ H) :
    tMkO (T.cls c) (spI X.K (fs.map T.fld)) [] (tDA T τ W g) σ H fun cls d H' => W cls d σ H' := by
  obtain ⟨G, A, s, w, os, p⟩ := q
  refine ⟨G, A, s, w, os, ?_⟩
  unfold sRaise bnd at p
  cases e : g s with
  | no => rw [e] at p; exact p
  | er x s1 => rw [e] at p; exact PostXS.x p
  | ok ds s1 =>
    rw [e] at p
    intro vs G1 H1 A1 z os1 dl
    simp only at p
    split at p
    · rename_i hl
      have hvl : vs.length = (fs.map T.fld).length := by rw [dl.len, hl.1, List.length_map]
      refine ⟨by rw [dl.len]; exact hl.2, fun a ha => ⟨a, T.cls c, vs, by rw [List.append_nil], hvl, hC, hfl, upd_same, fun H2 d hd hne e1 e2 e3 => ⟨rfl, d, _, e1, e2, by rw [upd_ne hne] at hd; exact hd, ?_⟩⟩⟩
      have hd1 : H1 d = none := by rw [upd_ne hne] at hd; exact hd
      have hh : upd (del H2 a) d (.xd (((fs.map T.fld).zip vs).reverse)) = upd H1 d (.xd (((fs.map T.fld).zip vs).reverse)) := by
        funext b
        by_cases hb : b = d
        · subst hb; rw [upd_same, upd_same]
        · rw [upd_ne hb, upd_ne hb]
          by_cases hb2 : b = a
          · subst hb2; rw [del_same, ha]
          · rw [del_ne hb2, e3 b hb2 hb, upd_ne hb2]
      rw [hh]
      have st : Stp hE G1 H1 [] _ _ [] := Stp.newF (o := .xd (((fs.map T.fld).zip vs).reverse)) z.wf.ex hd1
      have st2 := (st.up z.wf.bd).beside' z.wf
      rw [List.append_nil] at st2
      have kp : ∀ a ∈ A1, upd H1 d (.xd (((fs.map T.fld).zip vs).reverse)) a = H1 a := fun a ha => beside_keep (B := []) (st.up z.wf.bd) (by rw [List.append_nil]; exact z.wf) a ha
      refine p σ _ _ _ _ A1 (z.trans st2) (os1.frame st.gg kp) ⟨rfl, .inr ⟨d, _, vs.reverse, rfl, upd_same, (dl.mono st.gg).reverse, by rw [List.length_reverse, List.length_reverse, ← hl.1, dl.len], fun i n v h1 h2 => ?_⟩⟩
      rw [zip_rev (by rw [hvl]), ← List.map_reverse]
      exact fld_get ((List.reverse_perm fs).nodup_iff.mpr nd) (by rw [List.length_reverse, List.length_reverse, hvl, List.length_map]) h1 h2
    · exact p.elim
theorem ds_raise {c : Nat} {fs : List Nat} {x : Str} {fI : Addr} {k : Nat} {fd : FuncData} {ps : List Str} (hcm : X.calm = true) (tk : Takes X W) (hC : OexC X.K (T.cls c)) (iC : PySem.W.findIn X.K (.ref (T.cls c)) "__init__" = some (some (.ref fI))) (tI : PySem.W.typeIn X.K (.ref fI) = some (.type "function"))
    (F1 : FnOk X.prog X.w X.K X.mg X.base (L2.CX X.prog X.w) k fI fd ps (spI X.K (fs.map T.fld))) (hr : Room (k + 1) X.A) (hb : Binds X.K fd ps []) (hfl : ∀ f ∈ fs.map T.fld, PySem.W.findIn X.K (.ref (T.cls c)) f = some none) (nd : fs.Nodup) (hg : Gl X x) (hm : X.mg x = some (.ref (T.cls c)))
    (ha : PA X (e :: es) (tDA T τ W g)) (hdb : (x == ("__debug__" : Str)) = false := by decide) (he : starEach (e :: es) X.env = (false, eval e X.env) :: starEach es X.env := by rfl) (hpl : (backTo pos (starEach es X.env)).any (·.1) = false := by rfl) :
    PS X (.Raise (some (.Call (.Name x p) (e :: es) [] pos)) none pos') (tDS T τ W (sRaise c fs g)) :=
  (ps_raise hcm tk (pmk_oex hC iC tI F1 hr hb (dvs := []) .nil passL hg hm ha hdb he hpl)).weak fun D σ H q => tr_mko hC hfl nd q
theorem tr_mkv {c : Nat} {fs : List Nat} {Q : VK} (hC : OexC X.K (T.cls c)) (hfl : ∀ f ∈ fs.map T.fld, PySem.W.findIn X.K (.ref (T.cls c)) f = some none) (q : tDE T τ W (eMk c fs g) σ H Q) :
    tMkV (T.cls c) (spI X.K (fs.map T.fld)) [] (tDA T τ W g) σ H Q := by
  obtain ⟨G, A, s, w, os, p⟩ := q
  refine ⟨G, A, s, w, os, ?_⟩
  unfold eMk bnd at p
  cases e : g s with
  | no => rw [e] at p; exact p
  | er x s1 => rw [e] at p; exact p
  | ok ds s1 =>
    rw [e] at p
    intro vs G1 H1 A1 z os1 dl
    simp only at p
    split at p
    · rename_i hl
      have hvl : vs.length = (fs.map T.fld).length := by rw [dl.len, hl.1, List.length_map]
      refine ⟨by rw [dl.len]; exact hl.2, fun a ha => ⟨a, T.cls c, vs, by rw [List.append_nil], hvl, hC, hfl, upd_same, fun H2 d hd hne e1 e2 e3 => ⟨rfl, ?_⟩⟩⟩
      have hd1 : H1 d = none := by rw [upd_ne hne] at hd; exact hd
      have hh : H2 = upd (upd H1 d (exd d (((fs.map T.fld).zip vs).reverse))) a (exo a (T.cls c) (some d)) := by
        funext b
        by_cases hb : b = a
        · subst hb; rw [upd_same, e1]
        · rw [upd_ne hb]
          by_cases hb2 : b = d
          · subst hb2; rw [upd_same, e2]
          · rw [upd_ne hb2, e3 b hb hb2, upd_ne hb]
      rw [hh]
      have st : Stp hE G1 H1 [] _ _ [] := Stp.newF (o := exd d (((fs.map T.fld).zip vs).reverse)) z.wf.ex hd1
      have st' : Stp hE _ _ [] _ _ [] := Stp.newF (p := a) (o := exo a (T.cls c) (some d)) st.wf.ex (by rw [upd_ne hne.symm]; exact ha)
      have st3 := st.trans st'
      have st2 := (st3.up z.wf.bd).beside' z.wf
      rw [List.append_nil] at st2
      have kp := fun a ha => beside_keep (A := A1) (B := []) (st3.up z.wf.bd) (by rw [List.append_nil]; exact z.wf) a ha
      refine p (.ref a) _ _ A1 [] (by rw [List.append_nil]; exact z.trans st2) (os1.frame st3.gg kp) (.fr (.ex (vs := vs.reverse) (dx := d) upd_same ?_ ?_ (dl.mono st3.gg).reverse))
      · rw [upd_ne hne, upd_same, zip_rev (by rw [hvl]), ← List.map_reverse]
      · rw [List.length_reverse, List.length_reverse, hvl, List.length_map]
    · exact p.elim
theorem de_mk {c : Nat} {fs : List Nat} {x : Str} {fI : Addr} {k : Nat} {fd : FuncData} {ps : List Str} (hC : OexC X.K (T.cls c)) (iC : PySem.W.findIn X.K (.ref (T.cls c)) "__init__" = some (some (.ref fI))) (tI : PySem.W.typeIn X.K (.ref fI) = some (.type "function"))
    (F1 : FnOk X.prog X.w X.K X.mg X.base (L2.CX X.prog X.w) k fI fd ps (spI X.K (fs.map T.fld))) (hr : Room (k + 1) X.A) (hb : Binds X.K fd ps []) (hfl : ∀ f ∈ fs.map T.fld, PySem.W.findIn X.K (.ref (T.cls c)) f = some none) (hg : Gl X x) (hm : X.mg x = some (.ref (T.cls c)))
    (ha : PA X (e :: es) (tDA T τ W g)) (hdb : (x == ("__debug__" : Str)) = false := by decide) (he : starEach (e :: es) X.env = (false, eval e X.env) :: starEach es X.env := by rfl) (hpl : (backTo pos (starEach es X.env)).any (·.1) = false := by rfl) :
    PE X (.Call (.Name x p) (e :: es) [] pos) (tDE T τ W (eMk c fs g)) :=
  (pe_oex hC iC tI F1 hr hb (dvs := []) .nil passL hg hm ha hdb he hpl).weak fun σ H Q q => tr_mkv hC hfl q
theorem de_mk0 {c : Nat} {bmB : List Value} {B newId initId : String} {x : Str} (F : ExcBaseFacts B newId initId bmB) (q : PySem.W.excIn X.K (T.cls c) bmB newId = true) (hm : X.mg x = some (.ref (T.cls c))) (kC : PySem.W.keepIn X.K (.ref (T.cls c)) = true) (hg : Gl X x)
    (hdb : (x == ("__debug__" : Str)) = false := by decide) : PE X (.Call (.Name x p) [] [] pos) (tDE T τ W (eC (.ex c [] []))) :=
  (pe_exc0 F q hm kC hg hdb).weak fun σ H Q ⟨G, A, s, w, os, p⟩ => fun a ha => by
    have st : Stp hE G H [] _ _ [] := Stp.newF (o := ExO (.ref (T.cls c)) a) w.ex ha
    have st2 := (st.up w.bd).beside' w
    rw [List.append_nil] at st2
    have kp := fun a ha => beside_keep (A := A) (B := []) (st.up w.bd) (by rw [List.append_nil]; exact w) a ha
    exact p (.ref a) _ _ A [] (by rw [List.append_nil]; exact st2) (os.frame st.gg kp) (.fr (.ex0 upd_same))
end
end DF
end

section
set_option maxRecDepth 100000
set_option maxHeartbeats 4000000
namespace DF
open PySem PySem.Spec PyProof.Rows L2

/-! ### isinstance -/
def tyD : D → Option Nat
  | .non => some 7
  | .bl _ => some 1
  | .int _ => some 0
  | .str _ => some 2
  | .tup _ => some 4
  | .lst _ => some 3
  | .rol _ => some 3
  | .dk _ _ => some 5
  | .dt _ _ => some 5
  | _ => none
def tyOk (t k : Nat) : Option Bool := if t < 8 ∧ k < 8 then some (t == k || (t == 1 && k == 0)) else none
theorem tyOk_kit {K : PySem.W.Frag} {t k : Nat} {b : Bool} (h : tyOk t k = some b) : PySem.W.kitOne K (.type (tyN t)) (.type (tyN k)) = some b := by
  unfold tyOk at h
  split at h
  · rename_i c
    cases h
    refine kit_ty ?_
    have all : ∀ t < 8, ∀ k < 8, kitB (tyN t) (tyN k) = some (t == k || (t == 1 && k == 0)) := by decide +kernel
    exact all t c.1 k c.2
  · cases h
section
variable {T : Tab} {K : PySem.W.Frag} {G H : Hp}
theorem tyX_of (hK : T.K = K) {v : V} {d : D} {t : Nat} (ex : Ex G H) (h : Dn T G v d) (e : tyD d = some t) : TyX K H v (.type (tyN t)) := by
  cases h with
  | non => cases e; exact .base .non
  | bl b => cases e; exact .base (.bl b)
  | int i => cases e; exact .base (.int i)
  | str s => cases e; exact .base (.str s)
  | tup a l => cases e; exact .base (.tup (ex _ _ a))
  | tupE a =>
    cases e
    rcases a with (a | ⟨o, a⟩) | ⟨o, its, n, h1, h2, _⟩
    · exact .base (.tup (ex _ _ a))
    · exact .fTuple (ex _ _ a)
    · exact .kTuple (hK ▸ h1) h2
  | lst a l => cases e; exact .base (.lst (ex _ _ a))
  | rol a l =>
    cases e
    rcases a with (a | ⟨o, a⟩) | ⟨o, its, n, h1, h2, _⟩
    · exact .base (.lst (ex _ _ a))
    · exact .base (.frz (ex _ _ a))
    · exact .kList (hK ▸ h1) h2
  | dk a l => cases e; exact .base (.dK (ex _ _ a))
  | dt a l => cases e; exact .base (.dT (ex _ _ a))
  | _ => cases e
end
/-- an exception object -/
def rIsiX (K : PySem.W.Frag) : List V → Hp → VK → Prop := fun xs H Q => ∃ (a C : Addr) (c : V) (u : Value) (b : Bool), xs = [.ref a, c] ∧ ExF K C ∧ ((∃ dx fs, H a = some (exo a C (some dx)) ∧ H dx = some (exd dx fs)) ∨ H a = some (ExO (.ref C) a)) ∧ ClsV c u ∧ PySem.W.kitOne K (.ref C) u = some b ∧ Q (.bl b) H
theorem exf_kit {K : PySem.W.Frag} {C x : Addr} {ox : Obj} {od : Option Obj} (F : ExF K C) : PySem.W.KitX K (.ref x) (.ref C) (fun h => PySem.W.InstAt h x ox C od) := PySem.W.kitx_exc F.cl F.ga F.gg F.exC F.cc F.sp F.tk F.mo
section
variable {X : Cx} {pins : List (Addr × Obj)} {σ : L2.St} {H : Hp} {s : Shared}
theorem inst_of {a C : Addr} (I : Inv X pins σ H s) (h : (∃ dx fs, H a = some (exo a C (some dx)) ∧ H dx = some (exd dx fs)) ∨ H a = some (ExO (.ref C) a)) : ∃ ox od, PySem.W.InstAt s.heap a ox C od := by
  rcases h with ⟨dx, fs, h1, h2⟩ | h
  · obtain ⟨t1, ho⟩ := exo_at I.hok h1
    obtain ⟨mA, ⟨od, es, ep, hod, _⟩, _⟩ := exd_at I.hok h2
    exact ⟨_, some od, ho, rfl, rfl, hod⟩
  · have x : ObjOk X.prog X.w H s.heap a (.ext fun h => ∃ (oe : Obj) (vs : Array Value), h.get? a = some oe ∧ Zc (.ref C) none oe ∧ oe.data = .fields vs ∧ vs[1]? = some .none ∧ vs[2]? = some .none ∧ 4 < vs.size) := I.hok a _ h
    obtain ⟨oe, vs, ho, hz, hd, _⟩ := x.1
    refine ⟨oe, none, ho, hz.1, by unfold PySem.W.notCls; rw [hd] <;> rfl, ?_⟩
    rw [hz.2]; exact True.intro
theorem call_isiX : CallR X (.builtin "isinstance") (rIsiX X.K) := by
  intro pins s σ H xs us Q I r h
  obtain ⟨a, C, c, u, b, rfl, F, hx, k, e, q⟩ := h
  obtain ⟨u1, u2, rfl, r1, r2⟩ := vals2 r
  cases (show u1 = Value.ref a from r1)
  have e2 := k.eq r2
  subst e2
  obtain ⟨ox, od, J⟩ := inst_of I hx
  exact PySem.W.kia_one (exf_kit F) I.kIn J e (fun z => nomatch z) fun tk => ⟨.bl b, H, I.tok tk, rfl, q⟩
def rIsiA (K : PySem.W.Frag) : List V → Hp → VK → Prop := fun xs H Q => rIsi K xs H Q ∨ rIsiT K xs H Q ∨ rIsiX K xs H Q
theorem call_isiA : CallR X (.builtin "isinstance") (rIsiA X.K) := by
  intro pins s σ H xs us Q I r h
  rcases h with h | h | h
  · exact call_isi pins s σ H xs us Q I r h
  · exact call_isiT pins s σ H xs us Q I r h
  · exact call_isiX pins s σ H xs us Q I r h
end
/-- the answers for the classes in a tuple -/
def isiL (t : Nat) : List D → Option Bool
  | [] => some false
  | .ty k :: cs => match tyOk t k with
    | some true => (isiL t cs).map fun _ => true
    | some false => isiL t cs
    | none => none
  | _ => none
def oIsi {T : Tab} {K : PySem.W.Frag} (x : XT T K) : List D → Option O
  | [.ex c _ _, .cl k] => if x.ok c then (x.sub c k).map fun b => .fr (.bl b) else none
  | [.ex c _ _, .ty k] => if x.ok c then (x.subB c k).map fun b => .fr (.bl b) else none
  | [d, .ty k] => ((tyD d).bind fun t => tyOk t k).map fun b => .fr (.bl b)
  | [d, .tup cs] => if cs = [] then none else ((tyD d).bind fun t => isiL t cs).map fun b => .fr (.bl b)
  | _ => none
theorem isiL_ok {T : Tab} {K : PySem.W.Frag} {G : Hp} {t : Nat} : ∀ {cs : List D} {vs : List V} {b : Bool}, isiL t cs = some b → DnL T G vs cs → ∃ us, Paired ClsV vs us ∧ PySem.W.kitAny K (.type (tyN t)) us = some b
  | [], _, b, h, .nil => by cases h; exact ⟨[], .nil, kitAny_nil⟩
  | d :: cs, _, b, h, .cons dn l => by
    cases dn with
    | ty k =>
      unfold isiL at h
      cases e : tyOk t k with
      | none => rw [e] at h; cases h
      | some r =>
        rw [e] at h
        cases r with
        | true =>
          obtain ⟨b', e2, e3⟩ := Option.map_eq_some_iff.mp h
          subst e3
          obtain ⟨us, p, q⟩ := isiL_ok (K := K) e2 l
          exact ⟨_, .cons (.ty _) p, kitAny_cons (tyOk_kit e) (fun z => nomatch z) fun _ => rfl⟩
        | false =>
          obtain ⟨us, p, q⟩ := isiL_ok (K := K) h l
          exact ⟨_, .cons (.ty _) p, kitAny_cons (tyOk_kit e) (fun _ => q) fun z => nomatch z⟩
    | _ => cases h
theorem cv_isi {T : Tab} {X : Cx} (hK : T.K = X.K) (x : XT T X.K) : CallV T (rIsiA X.K) (oIsi x) := by
  intro G H vs ds o Q ex dl h k
  cases dl with
  | nil => cases h
  | cons a l =>
    cases l with
    | nil => unfold oIsi at h; split at h <;> simp_all
    | cons a2 l =>
      cases l with
      | cons _ _ => unfold oIsi at h; split at h <;> simp_all
      | nil =>
        unfold oIsi at h
        split at h
        · rename_i c fs es kk heq
          cases heq
          split at h
          · rename_i hc
            obtain ⟨b, e1, e2⟩ := Option.map_eq_some_iff.mp h
            cases e2
            cases a2 with
            | cl =>
              refine .inr (.inr ?_)
              cases a with
              | ex h1 h2 h3 h4 => exact ⟨_, _, _, _, b, rfl, x.hf c hc, .inl ⟨_, _, ex _ _ h1, ex _ _ h2⟩, .own _, x.hsub c kk b hc e1, go_same ex (.bl b) k⟩
              | ex0 h1 => exact ⟨_, _, _, _, b, rfl, x.hf c hc, .inr (ex _ _ h1), .own _, x.hsub c kk b hc e1, go_same ex (.bl b) k⟩
          · cases h
        · rename_i c fs es kk heq
          cases heq
          split at h
          · rename_i hc
            obtain ⟨b, e1, e2⟩ := Option.map_eq_some_iff.mp h
            cases e2
            cases a2 with
            | ty =>
              refine .inr (.inr ?_)
              cases a with
              | ex h1 h2 h3 h4 => exact ⟨_, _, _, _, b, rfl, x.hf c hc, .inl ⟨_, _, ex _ _ h1, ex _ _ h2⟩, .ty _, x.hsubB c kk b hc e1, go_same ex (.bl b) k⟩
              | ex0 h1 => exact ⟨_, _, _, _, b, rfl, x.hf c hc, .inr (ex _ _ h1), .ty _, x.hsubB c kk b hc e1, go_same ex (.bl b) k⟩
          · cases h
        · rename_i d kk _ heq
          cases heq
          obtain ⟨b, e1, e2⟩ := Option.map_eq_some_iff.mp h
          cases e2
          obtain ⟨t, e3, e4⟩ := Option.bind_eq_some_iff.mp e1
          cases a2 with
          | ty => exact .inl ⟨_, _, _, _, b, rfl, .ty _, tyX_of hK ex a e3, tyOk_kit e4, go_same ex (.bl b) k⟩
        · rename_i d cs heq
          cases heq
          split at h
          · cases h
          rename_i hne
          obtain ⟨b, e1, e2⟩ := Option.map_eq_some_iff.mp h
          cases e2
          obtain ⟨t, e3, e4⟩ := Option.bind_eq_some_iff.mp e1
          cases a2 with
          | tupE _ => exact absurd rfl hne
          | tup g l =>
            obtain ⟨us, p, q⟩ := isiL_ok (K := X.K) e4 l
            exact .inr (.inl ⟨_, _, _, _, us, b, rfl, ex _ _ g, p, tyX_of hK ex a e3, q, go_same ex (.bl b) k⟩)
        · cases h
theorem de_isi {T : Tab} {τ : Th} {W : WX} {X : Cx} {e : Expr} {es : List Expr} {g : M (List D)} {p pos : Pos} (hK : T.K = X.K) (x : XT T X.K) (hg : Gl X "isinstance") (hm : X.mg "isinstance" = none) (ha : PA X (e :: es) (tDA T τ W g))
    (he : starEach (e :: es) X.env = (false, eval e X.env) :: starEach es X.env := by rfl) (hpl : (backTo pos (starEach es X.env)).any (·.1) = false := by rfl) : PE X (.Call (.Name "isinstance" p) (e :: es) [] pos) (tDE T τ W (eCB (oIsi x) g)) :=
  de_callB call_isiA (cv_isi hK x) hg hm PyProof.Rows.Boot.«isinstance» ha (by decide) (by decide) he hpl

/-! ### fields of exceptions held as values -/
def tXv (K : PySem.W.Frag) (f : Str) (te : TE) : TE := fun σ H Q => te σ H fun x H1 => ∃ (a C dx : Addr) (fs : List (Str × V)) (v : V), x = .ref a ∧ ExF K C ∧ PySem.W.findIn K (.ref C) f = some none ∧ H1 a = some (exo a C (some dx)) ∧ H1 dx = some (exd dx fs) ∧ fs.lookup f = some v ∧ Q v H1
theorem pe_xv {X : Cx} {e : Expr} {te : TE} {pos : Pos} {n : Str} (he : PE X e te) (hb : attributeBase e n X.env (eval e X.env) = eval e X.env := by rfl) : PE X (.Attribute e n pos) (tXv X.K n te) := by
  refine ⟨fun pins s σ H Q I h => ?_⟩
  refine attr_of hb (thn (he.run pins s σ H _ I h) fun u s1 hh => ?_)
  obtain ⟨x, H1, I1, rx, a, C, dx, fs, v, ex, F, hno, ea, ed, l, q⟩ := hh
  subst ex
  obtain rfl : u = Value.ref a := rx
  obtain ⟨t1, ho⟩ := exo_at I1.hok ea
  obtain ⟨mA, hns, hr⟩ := exd_at I1.hok ed
  obtain ⟨od, hod, hl⟩ := lookIn_ns hns
  obtain ⟨u, hu, ru⟩ := RelO.some_of (v := v) (o := mA n) (by rw [← l]; exact hr n)
  have J : PySem.W.InstAt s1.heap a _ C (some od) := ⟨ho, rfl, rfl, hod⟩
  exact HandSPX.exc_get I1.kIn J F.ga F.gg F.exC (PySem.W.findObj_own F.hdC hno rfl (by rw [hl, hu])) (handed_of ru) ⟨v, H1, I1.tok _, ru, q⟩
def dXv {T : Tab} {K : PySem.W.Frag} (x : XT T K) (n : Nat) : D → Option O
  | .ex c fs ds => if x.ok c = true ∧ (x.fl c).contains n = true ∧ fs.Nodup then (fldD n fs ds).map .fr else none
  | _ => none
theorem de_xv {T : Tab} {τ : Th} {W : WX} {X : Cx} {e : Expr} {f : M O} {pos : Pos} {nm : Str} (x : XT T X.K) (n : Nat) (he : PE X e (tDE T τ W f)) (hn : T.fld n = nm := by rfl) (hb : attributeBase e nm X.env (eval e X.env) = eval e X.env := by rfl) :
    PE X (.Attribute e nm pos) (tDE T τ W (eUn (dXv x n) f)) := by
  subst hn
  refine (pe_xv he hb).weak fun σ H Q h => ?_
  refine tr_un (T := T) (r := fun y H1 Q => ∃ (a C dx : Addr) (fs : List (Str × V)) (v : V), y = .ref a ∧ ExF X.K C ∧ PySem.W.findIn X.K (.ref C) (T.fld n) = some none ∧ H1 a = some (exo a C (some dx)) ∧ H1 dx = some (exd dx fs) ∧ fs.lookup (T.fld n) = some v ∧ Q v H1) ?_ h
  intro G H v d o Q ex dn e k
  cases dn with
  | ex h1 h2 h3 l =>
    rename_i a dx c fs vs ds
    unfold dXv at e
    simp only at e
    split at e
    · rename_i hc
      obtain ⟨d, e1, e2⟩ := Option.map_eq_some_iff.mp e
      cases e2
      obtain ⟨i, e3, e4⟩ := lookup_ix e1
      obtain ⟨v, e5, e6⟩ := l.get e4
      exact ⟨a, _, dx, _, v, rfl, x.hf c hc.1, x.hfl c n hc.1 hc.2.1, ex _ _ h1, ex _ _ h2, fld_get hc.2.2 h3 e3 e5, go_same ex e6 k⟩
    · cases e
  | ex0 h1 =>
    unfold dXv at e
    simp only at e
    split at e
    · cases e
    · cases e
  | _ => cases e

/-! ### in an except suite: e.f, isinstance(e, C) -/
def eHeld (i : Nat) (r : Option D) : M O := fun s => match s[i]? with
  | some (some (.hd t)) => if t = 1002 then (match r with
    | some d => .ok (.fr d) s
    | none => .no) else .no
  | _ => .no
def rIsiE (K : PySem.W.Frag) (a : Addr) (cls : Value) (d : Option Addr) : List V → Hp → VK → Prop := fun xs H Q => ∃ (C : Addr) (c : V) (u : Value) (b : Bool), xs = [.ref a, c] ∧ cls = .ref C ∧ ExF K C ∧ (d = none ∨ ∃ dd fs, d = some dd ∧ H dd = some (.xd fs)) ∧ ClsV c u ∧ PySem.W.kitOne K (.ref C) u = some b ∧ Q (.bl b) H
section
variable {X : Cx} {a : Addr} {oe : Obj} {cls : Value} {d : Option Addr} {pn : List (Addr × Obj)} {T : Tab} {τ : Th} {W : WX}
theorem call_isiE (hz : Zc cls d oe) (hf : ∃ vs, oe.data = .fields vs) : CallR (X.suite a ((a, oe) :: pn)) (.builtin "isinstance") (rIsiE X.K a cls d) := by
  intro pins s σ H xs us Q I r h
  obtain ⟨C, c, u, b, rfl, rfl, F, hd, k, e, q⟩ := h
  obtain ⟨u1, u2, rfl, r1, r2⟩ := vals2 r
  cases (show u1 = Value.ref a from r1)
  have e2 := k.eq r2
  subst e2
  obtain ⟨ha, _⟩ := I.pin (a, oe) (List.mem_append_left _ List.mem_cons_self)
  obtain ⟨vs, hdt⟩ := hf
  have hnc : PySem.W.notCls oe = true := by unfold PySem.W.notCls; rw [hdt] <;> rfl
  have J : ∃ od, PySem.W.InstAt s.heap a oe C od := by
    rcases hd with rfl | ⟨dd, fs, rfl, hx⟩
    · exact ⟨none, ha, hz.1, hnc, by rw [hz.2]; exact True.intro⟩
    · have hx : ObjOk X.prog X.w H s.heap dd (.xd fs) := I.hok dd _ hx
      obtain ⟨mA, hns, hr⟩ := hx
      obtain ⟨od, ho, hl⟩ := lookIn_ns hns
      exact ⟨some od, ha, hz.1, hnc, by rw [hz.2]; exact ho⟩
  obtain ⟨od, J⟩ := J
  exact PySem.W.kia_one (exf_kit F) I.kIn J e (fun z => nomatch z) fun tk => ⟨.bl b, H, I.tok tk, rfl, q⟩
theorem held_at {G0 : Hp} {i : Nat} {r : Option D} {σ : L2.St} {H : Hp} {Q : VK} (h : tDE T (τ.hot a G0) W (eHeld i r) σ H Q) : σ[i]? = some (some (.ref a)) ∧ ∃ (G : Hp) (d : D), r = some d ∧ Ex G0 G ∧ Ex G H ∧ ∀ v, Dn T G v d → Q v H := by
  obtain ⟨G, A, s, w, os, p⟩ := h
  unfold eHeld at p
  cases e : s[i]? with
  | none => rw [e] at p; exact p.elim
  | some u =>
    cases u with
    | none => rw [e] at p; exact p.elim
    | some o =>
      cases o with
      | hd t =>
        rw [e] at p
        by_cases ht : t = 1002
        · subst ht
          obtain ⟨v, B, C, h1, tk, _⟩ := os.out e
          have hv : v = .ref a := by
            have := tk (by decide)
            rw [this]
            show V.ref (if (1002 - 2 : Nat) = 1000 then a else τ.ad (1002 - 2)) = V.ref a
            rw [if_pos rfl]
          subst hv
          refine ⟨h1, ?_⟩
          simp only [if_true] at p
          cases r with
          | none => exact p.elim
          | some d => exact ⟨G, d, rfl, w.bd, w.ex, fun v dn => p v G H A [] (by rw [List.append_nil]; exact Stp.refl w) os (.fr dn)⟩
        · simp only [if_neg ht] at p
          exact p.elim
      | fr d => rw [e] at p; exact p.elim
      | lst t os => rw [e] at p; exact p.elim
      | dk t ks ds => rw [e] at p; exact p.elim
      | dt t ks ds => rw [e] at p; exact p.elim
      | ins t c fs ds => rw [e] at p; exact p.elim
variable {x : Exn} {G0 : Hp} {en cn nm : Str} {p p1 p2 pos : Pos}
def xnF {K : PySem.W.Frag} (xt : XT T K) (n : Nat) (x : Exn) : Option D := if xt.ok x.c = true ∧ (xt.fl x.c).contains n = true then fldD n x.fs x.ds else none
def xnI {K : PySem.W.Frag} (xt : XT T K) (k : Nat) (x : Exn) : Option D := if xt.ok x.c = true then (xt.sub x.c k).map .bl else none
theorem de_hxf (xt : XT T X.K) (i n : Nat) (hK : T.K = X.K) (hz : Zc cls d oe) (hf : ∃ vs, oe.data = .fields vs) (xd : ExD T G0 x cls d) (hfld : T.fld n = nm := by rfl) (hN : X.N[i]? = some en := by rfl) (hv : Vis X.env.scope en := by first | exact Or.inl rfl | exact Or.inr (Or.inl rfl) | exact Or.inr (Or.inr rfl))
    (hd : (en == ("__debug__" : Str)) = false := by decide) (hcd : (en == ("__classdict__" : Str)) = false := by decide)
    (hb : attributeBase (.Name en p) nm X.env (eval (.Name en p) X.env) = eval (.Name en p) X.env := by rfl) : PE (X.suite a ((a, oe) :: pn)) (.Attribute (.Name en p) nm pos) (tDE T (τ.hot a G0) W (eHeld i (xnF xt n x))) := by
  subst hfld
  by_cases hc : xt.ok x.c = true ∧ (xt.fl x.c).contains n = true
  · have F := xt.hf x.c hc.1
    have T1 : XfC X.K (T.cls x.c) := ⟨F.ga, F.gg, F.exC, F.hdC⟩
    refine (pe_xf (C := T.cls x.c) T1 (xt.hfl x.c n hc.1 hc.2) hz hf (pe_var (i := i) hN hv hd hcd) hb).weak fun σ H Q h => ?_
    obtain ⟨h1, G, d1, h2, h3, h4, h5⟩ := held_at h
    unfold xnF at h2
    rw [if_pos hc] at h2
    obtain ⟨j, e1, e2⟩ := lookup_ix h2
    rcases xd.fld with ⟨e0, _⟩ | ⟨dd, fs, vs, e3, e4, e5, e6, e7⟩
    · rw [e0] at e1; cases e1
    · obtain ⟨v, e8, e9⟩ := e5.get e2
      exact ⟨.ref a, h1, rfl, xd.cls, dd, fs, v, e3, h4 _ _ (h3 _ _ e4), e7 j n v e1 e8, h5 v (e9.mono h3)⟩
  · refine ⟨fun pins s σ H Q I h => ?_⟩
    obtain ⟨h1, G, d1, h2, _⟩ := held_at h
    unfold xnF at h2
    rw [if_neg hc] at h2
    cases h2
theorem de_hxi (xt : XT T X.K) (i k : Nat) (hK : T.K = X.K) (hz : Zc cls d oe) (hf : ∃ vs, oe.data = .fields vs) (xd : ExD T G0 x cls d) (hg : Gl X "isinstance") (hm : X.mg "isinstance" = none) (hgc : Gl X cn) (hmc : X.mg cn = some (.ref (T.cls k)))
    (hN : X.N[i]? = some en := by rfl) (hv : Vis X.env.scope en := by first | exact Or.inl rfl | exact Or.inr (Or.inl rfl) | exact Or.inr (Or.inr rfl)) (hd : (en == ("__debug__" : Str)) = false := by decide) (hcd : (en == ("__classdict__" : Str)) = false := by decide) (hdc : (cn == ("__debug__" : Str)) = false := by decide)
    (he : starEach [.Name en p1, .Name cn p2] X.env = (false, eval (.Name en p1) X.env) :: starEach [.Name cn p2] X.env := by rfl) (he2 : starEach [.Name cn p2] X.env = (false, eval (.Name cn p2) X.env) :: starEach [] X.env := by rfl) (hpl : (backTo pos (starEach [.Name cn p2] X.env)).any (·.1) = false := by rfl) :
    PE (X.suite a ((a, oe) :: pn)) (.Call (.Name "isinstance" p) [.Name en p1, .Name cn p2] [] pos) (tDE T (τ.hot a G0) W (eHeld i (xnI xt k x))) := by
  have pa : PA (X.suite a ((a, oe) :: pn)) [.Name en p1, .Name cn p2] (tCons (tVar i) (tCons (tC (.ref (T.cls k))) tNil)) :=
    pa_cons (pe_var (X := X.suite a ((a, oe) :: pn)) (i := i) hN hv hd hcd) (pa_cons (pe_glob (X := X.suite a ((a, oe) :: pn)) (v := .ref (T.cls k)) hgc hmc rfl hdc) pa_nil he2) he
  refine (pe_callB (X := X.suite a ((a, oe) :: pn)) (call_isiE hz hf) hg hm PyProof.Rows.Boot.«isinstance» pa (by decide) (by decide) he hpl).weak fun σ H Q h => ?_
  obtain ⟨h1, G, d1, h2, h3, h4, h5⟩ := held_at h
  unfold xnI at h2
  split at h2
  · rename_i hc
    obtain ⟨b, e1, e2⟩ := Option.map_eq_some_iff.mp h2
    subst e2
    refine ⟨.ref a, h1, T.cls x.c, _, _, b, rfl, xd.cls, xt.hf _ hc, ?_, .own _, xt.hsub _ _ _ hc e1, h5 _ (.bl b)⟩
    rcases xd.fld with ⟨_, e0⟩ | ⟨dd, fs, vs, e3, e4, _⟩
    · exact .inl e0
    · exact .inr ⟨dd, fs, e3, h4 _ _ (h3 _ _ e4)⟩
  · cases h2
end
end DF
end

section
set_option maxRecDepth 100000
set_option maxHeartbeats 4000000
namespace SrtO
open PySem PySem.Spec PyProof.Rows
section
variable {prog : Program} {w : World} {A : Around} {E : Value → Shared → Prop} {s : Shared}
/-- sorted(a list or a tuple) -/
theorem sorted_seq {l : Addr} {T : String} {o : Obj} {vs : List Value} {n : Nat} {ltv : Value → Value → Bool} {Q : Value → Shared → Prop} (O : Swo ltv) (hT : T = "list" ∨ T = "tuple") (ho : s.heap.get? l = some o) (hc : o.cls = .type T) (hd : o.data = .seq vs.toArray n) (hz : vs.length ≤ sizeLine)
    (hS : 2 ≤ vs.length → ∀ (h₁ : Heap) (a : Addr), h₁.get? a = some (seqObj "list" vs.toArray 0) → (∀ b o, s.heap.get? b = some o → b ≠ a ∧ h₁.get? b = some o) → SortableO prog w A.in1.in1 { s with heap := h₁ } a vs ltv)
    (h : ∀ (out : List Value) (d : Addr) (h2 : Heap), Srtd ltv out → Stb ltv out vs → s.heap.get? d = none → (∃ ep, h2.get? d = some (seqObj "list" out.toArray ep)) → (∀ b o, s.heap.get? b = some o → h2.get? b = some o) → Q (.ref d) { s with heap := h2 }) :
    wpAny (model prog w) A (call (.builtin "sorted") [.ref l]) Q E s := by
  refine Calls.call_function_entry kind_sorted plain_sorted entry_sorted (args_sorted1 _) ?_
  unfold Builtin.«sorted»
  refine wpAny_bind (m := checkCount "sorted" 1 1 _) (wpAny_pure ?_)
  refine wpAny_bind (wpAny_collect_seq l hT ho hc hd (fun h' kp => ?_) (by simpa using hz))
  refine wpAny_bind (wpAny_newList ?_ hz)
  have hnd : s.heap.get? h'.objs.size = none := by
    cases e : s.heap.get? h'.objs.size with
    | none => rfl
    | some u => exact absurd (Heap.lt_size (kp _ _ e)) (Nat.lt_irrefl _)
  have hoL : (h'.push (seqObj "list" vs.toArray 0)).get? h'.objs.size = some (seqObj "list" vs.toArray 0) := Heap.get?_push_size _ rfl
  have keep : ∀ b o, s.heap.get? b = some o → b ≠ h'.objs.size ∧ (h'.push (seqObj "list" vs.toArray 0)).get? b = some o := fun b o q =>
    ⟨fun z => (by rw [z, hnd] at q; cases q), Heap.get?_push_of_some _ (kp b o q)⟩
  show wpAny _ _ _ _ _ { s with heap := h'.push (seqObj "list" vs.toArray 0) }
  refine wpAny_bind (wpAny_holding (wpAny_call_entry slot_list_sort ⟨_, hoL, rfl⟩ entry_list_sort (list_sort_ord O hoL hz (fun h2 => hS h2 _ _ hoL keep) fun out hs hb => ⟨_, rfl, ?_⟩) (args_list_sort _)))
  refine wpAny_pure ⟨_, rfl, ?_⟩
  obtain ⟨ep, he'⟩ := PyProof.Rows.sortedHeap_at (vs := vs) (out := out.toArray) hoL
  exact h out _ _ hs hb hnd ⟨ep, he'⟩ fun b o q => by
    rw [PyProof.Rows.sortedHeap_old (keep b o q).1 (Heap.lt_size (keep b o q).2)]
    exact (keep b o q).2
end
end SrtO
namespace DF
open PySem PySem.Spec PyProof.Rows L2
/-! ### sorted -/
def rSrtI (K : PySem.W.Frag) : List V → Hp → VK → Prop := fun vs H Q => ∃ (a : Addr) (ns : List Int), vs = [V.ref a] ∧ (SqL K H a (ns.map V.int) ∨ SqT K H a (ns.map V.int)) ∧
  ∀ (ns' : List Int) (p : Addr), ns'.Perm ns → ns'.Pairwise (· ≤ ·) → H p = none → Q (.ref p) (upd H p (.lst (ns'.map V.int)))
def rSrtP (K : PySem.W.Frag) : List V → Hp → VK → Prop := fun vs H Q => ∃ (a : Addr) (xs : List V) (k : V → Int × Int), vs = [V.ref a] ∧ (SqL K H a xs ∨ SqT K H a xs) ∧ (∀ x ∈ xs, ∃ t, x = V.ref t ∧ H t = some (.tup [.int (k x).1, .int (k x).2])) ∧
  ∀ ys p, SrtO.Srtd (ltP k) ys → SrtO.Stb (ltP k) ys xs → H p = none → Q (.ref p) (upd H p (.lst ys))
section
variable {X : Cx} {pins : List (Addr × Obj)} {σ : L2.St} {H : Hp} {s : Shared}
theorem seq_obj {a : Addr} {xs : List V} (I : Inv X pins σ H s) (h : SqL X.K H a xs ∨ SqT X.K H a xs) : ∃ (T : String) (o : Obj) (its : List Value) (n : Nat), (T = "list" ∨ T = "tuple") ∧ s.heap.get? a = some o ∧ o.cls = .type T ∧ o.data = .seq its.toArray n ∧ Vals xs its ∧ xs.length ≤ sizeLine := by
  rcases h with h | h
  · obtain ⟨its, rv, hl, hz⟩ := I.list h
    obtain ⟨o, ho, hc, n, hd⟩ := hl.isList
    exact ⟨_, o, its, n, .inl rfl, ho, hc, hd, rv, hz⟩
  · obtain ⟨its, rv, p, hz⟩ := I.tuple h
    obtain ⟨o, ho, hc, n, hd⟩ := p
    exact ⟨_, o, its, n, .inr rfl, ho, hc, hd, rv, hz⟩
theorem cr_srtI : CallR X (.builtin "sorted") (rSrtI X.K) := by
  intro pins s σ H vs us Q I r h
  obtain ⟨a, ns, rfl, hs, q⟩ := h
  obtain ⟨T, o, its, n, hT, ho, hc, hd, rv, hz⟩ := seq_obj I hs
  rw [Vals.ref1 r]
  have hi := rv.ints
  refine SrtO.sorted_seq SrtO.swo_int hT ho hc hd (by rw [← rv.length]; exact hz) (fun h2 h₁ a' _ _ => SrtO.ints_sortable hi h2) fun out d h2 h1 hb hnd he kp => ?_
  obtain ⟨k1, k2, k3⟩ := SrtO.ints_out hi h1 hb
  obtain ⟨ep, he'⟩ := he
  have hlen : ((out.map SrtO.iv).map V.int).length ≤ sizeLine := by
    rw [List.length_map, k2.length_eq]
    rw [List.length_map] at hz
    exact hz
  have hn := I.hok.gone hnd
  exact ⟨.ref d, upd H d (.lst ((out.map SrtO.iv).map V.int)), I.laidN (t' := s.toks) kp hnd hn ⟨hlen, out, ep, vals_of_ints k1, he'⟩, rfl, q _ _ k2 k3 hn⟩
theorem cr_srtP : CallR X (.builtin "sorted") (rSrtP X.K) := by
  intro pins s σ H vs us Q I r h
  obtain ⟨a, xs, k, rfl, hs, hx, q⟩ := h
  obtain ⟨T, o, its, n, hT, ho, hc, hd, rv, hz⟩ := seq_obj I hs
  obtain ⟨u, rfl, ru⟩ := vals1 r
  obtain rfl : u = Value.ref a := ru
  obtain ⟨e1, e2⟩ := refs_back rv fun x m => by
    obtain ⟨t, e, _⟩ := hx x m
    exact ⟨t, e⟩
  have hp : ∀ v ∈ its, Srt.IsPair s.heap v (k (backV v)).1 (k (backV v)).2 := fun v hv => by
    obtain ⟨t, rfl⟩ := e2 v hv
    have hm : V.ref t ∈ xs := by rw [e1]; exact List.mem_map.mpr ⟨_, hv, rfl⟩
    obtain ⟨t', e, ht⟩ := hx _ hm
    cases e
    obtain ⟨_, its2, r2, o, ho, hc, n, hd⟩ := I.hok _ _ ht
    obtain ⟨u1, u2, rfl, ri, rj⟩ := vals2 r2
    obtain ⟨t1, rfl⟩ := ri
    obtain ⟨t2, rfl⟩ := rj
    exact ⟨t, o, t1, t2, n, rfl, ho, hc, hd⟩
  refine SrtO.sorted_seq (SrtO.swo_lex fun u => k (backV u)) hT ho hc hd (by rw [← rv.length]; exact hz) (fun h2 h₁ a' ha' kk => ?_) fun out d h2 h1 hb hnd he kp => ?_
  · refine SrtO.pairs_sortableO (s := { s with heap := h₁ }) (by omega) (fun v hm => (hp v hm).keeps fun b o e _ => (kk b o e).2) fun o e => ?_
    have e' : some o = some (seqObj "list" its.toArray 0) := e.symm.trans ha'
    cases e'
    intro c
    exact absurd (Value.type.inj c) (by decide)
  · have h3 : ∀ u ∈ out, ∃ a, u = Value.ref a := fun u hu => e2 u (hb.perm.mem_iff.mp hu)
    obtain ⟨n, hn⟩ := he
    have hb' : SrtO.Stb (ltP k) (out.map backV) xs := by
      rw [e1]
      exact SrtO.Stb.map (ltP_swo k) backV hb
    have hg := I.hok.gone hnd
    refine ⟨.ref d, upd H d (.lst (out.map backV)), I.laidN (t' := s.toks) kp hnd hg ⟨?_, out, n, vals_back h3, hn⟩, rfl, q _ d (SrtO.srtd_map h1) hb' hg⟩
    rw [hb'.len]
    exact hz
end
def intsD : List D → Option (List Int)
  | [] => some []
  | .int i :: ds => (intsD ds).map (i :: ·)
  | _ => none
def pairsD : List D → Option (List (Int × Int))
  | [] => some []
  | .tup [.int i, .int j] :: ds => (pairsD ds).map ((i, j) :: ·)
  | _ => none
def srtI (ns : List Int) : List Int := ns.mergeSort
def leP (p q : Int × Int) : Bool := !SrtO.lexB q p
def srtP (ps : List (Int × Int)) : List (Int × Int) := ps.mergeSort leP
def pairD (p : Int × Int) : D := .tup [.int p.1, .int p.2]
def oSorted : List D → Option O
  | [d] => (ofSeq d).bind fun ds => if ds.length ≤ 100000 then match intsD ds with
    | some ns => some (nl ((srtI ns).map .int))
    | none => (pairsD ds).map fun ps => nl ((srtP ps).map pairD)
  else none
  | _ => none
section
variable {T : Tab} {G H : Hp}
theorem intsD_vs : ∀ {ds : List D} {ns : List Int} {vs : List V}, intsD ds = some ns → DnL T G vs ds → vs = ns.map V.int
  | [], _, _, h, .nil => by cases h; rfl
  | d :: ds, ns, _, h, .cons a l => by
    cases a with
    | int i =>
      obtain ⟨ms, e1, e2⟩ := Option.map_eq_some_iff.mp h
      subst e2
      rw [intsD_vs e1 l]; rfl
    | _ => cases h
theorem dnL_ints : ∀ (ns : List Int), DnL T G (ns.map V.int) (ns.map D.int)
  | [] => .nil
  | i :: ns => .cons (.int i) (dnL_ints ns)
theorem srtI_eq {ns ns' : List Int} (p : ns'.Perm ns) (h : ns'.Pairwise (· ≤ ·)) : ns' = srtI ns := by
  refine List.Perm.eq_of_pairwise (le := (· ≤ ·)) (fun a b _ _ h1 h2 => Int.le_antisymm h1 h2) h ?_ (p.trans (List.mergeSort_perm ns _).symm)
  have := List.pairwise_mergeSort (le := fun a b : Int => decide (a ≤ b)) (fun a b c h1 h2 => by simp at *; omega) (fun a b => by simp; omega) ns
  exact this.imp fun h => by simpa using h
/-- the pairs at the values -/
theorem pairsD_vs : ∀ {ds : List D} {ps : List (Int × Int)} {vs : List V}, pairsD ds = some ps → DnL T G vs ds → Paired (fun v p => ∃ t, v = V.ref t ∧ G t = some (.tup [.int p.1, .int p.2])) vs ps
  | [], _, _, h, .nil => by cases h; exact .nil
  | d :: ds, ps, _, h, .cons a l => by
    unfold pairsD at h
    split at h
    · rename_i heq; cases heq
    · rename_i i j ds' heq
      cases heq
      obtain ⟨ms, e1, e2⟩ := Option.map_eq_some_iff.mp h
      subst e2
      refine .cons ?_ (pairsD_vs e1 l)
      cases a with
      | tup g l =>
        cases l with
        | cons a l =>
          cases a
          cases l with
          | cons a l =>
            cases a; cases l
            exact ⟨_, rfl, g⟩
    · cases h
def kP (G : Hp) : V → Int × Int
  | .ref t => match G t with
    | some (.tup [.int i, .int j]) => (i, j)
    | _ => (0, 0)
  | _ => (0, 0)
theorem lexP_tot (p q : Int × Int) : (leP p q || leP q p) = true := by
  unfold leP
  cases h1 : SrtO.lexB q p <;> cases h2 : SrtO.lexB p q <;> simp
  have a := SrtO.lexB_iff.mp h1
  have b := SrtO.lexB_iff.mp h2
  omega
theorem lexP_iff {p q : Int × Int} : leP p q = true ↔ ¬ (q.1 < p.1 ∨ (q.1 = p.1 ∧ q.2 < p.2)) := by
  unfold leP
  rw [Bool.not_eq_true', SrtO.lexB_no]
theorem srtP_eq {ps ps' : List (Int × Int)} (p : ps'.Perm ps) (h : ps'.Pairwise fun a b => leP a b = true) : ps' = srtP ps := by
  refine List.Perm.eq_of_pairwise (le := fun a b => leP a b = true) (fun a b _ _ h1 h2 => ?_) h ?_ (p.trans (List.mergeSort_perm ps _).symm)
  · have x := lexP_iff.mp h1
    have y := lexP_iff.mp h2
    exact Prod.ext (by omega) (by omega)
  · exact List.pairwise_mergeSort (le := leP) (fun a b c h1 h2 => by
      have x := lexP_iff.mp h1
      have y := lexP_iff.mp h2
      exact lexP_iff.mpr (by omega)) (fun a b => lexP_tot a b) ps
theorem kP_of {v : V} {p : Int × Int} (h : ∃ t, v = V.ref t ∧ G t = some (.tup [.int p.1, .int p.2])) : kP G v = p ∧ ∃ t, v = V.ref t ∧ G t = some (.tup [.int (kP G v).1, .int (kP G v).2]) := by
  obtain ⟨t, rfl, e⟩ := h
  have : kP G (.ref t) = p := by
    show (match G t with
      | some (.tup [.int i, .int j]) => (i, j)
      | _ => (0, 0)) = p
    rw [e]
  exact ⟨this, t, rfl, by rw [this]; exact e⟩
theorem paired_all {vs : List V} {ps : List (Int × Int)} (h : Paired (fun v p => ∃ t, v = V.ref t ∧ G t = some (.tup [.int p.1, .int p.2])) vs ps) : vs.map (kP G) = ps ∧ ∀ v ∈ vs, ∃ t, v = V.ref t ∧ G t = some (.tup [.int (kP G v).1, .int (kP G v).2]) := by
  induction h with
  | nil => exact ⟨rfl, fun _ h => nomatch h⟩
  | cons a l ih =>
    obtain ⟨a1, a2⟩ := kP_of a
    refine ⟨by rw [List.map_cons, a1, ih.1], fun v hv => ?_⟩
    rcases List.mem_cons.mp hv with e | e
    · subst e; exact a2
    · exact ih.2 v e
theorem dnL_pairs : ∀ {vs : List V}, (∀ v ∈ vs, ∃ t, v = V.ref t ∧ G t = some (.tup [.int (kP G v).1, .int (kP G v).2])) → DnL T G vs ((vs.map (kP G)).map pairD)
  | [], _ => .nil
  | v :: vs, h => by
    obtain ⟨t, e, g⟩ := h v List.mem_cons_self
    refine .cons ?_ (dnL_pairs fun u hu => h u (List.mem_cons_of_mem _ hu))
    generalize hk : kP G v = k at g ⊢
    subst e
    exact .tup g (.cons (.int _) (.cons (.int _) .nil))
def rSrtA (K : PySem.W.Frag) : List V → Hp → VK → Prop := fun vs H Q => rSrtI K vs H Q ∨ rSrtP K vs H Q
theorem cr_srtA {X : Cx} : CallR X (.builtin "sorted") (rSrtA X.K) := by
  intro pins s σ H vs us Q I r h
  rcases h with h | h
  · exact cr_srtI pins s σ H vs us Q I r h
  · exact cr_srtP pins s σ H vs us Q I r h
theorem ofSeq_sq {X : Cx} (hK : T.K = X.K) (ex : Ex G H) {v : V} {d : D} {ds : List D} (h : Dn T G v d) (e : ofSeq d = some ds) : ∃ a vs, v = .ref a ∧ (SqL X.K H a vs ∨ SqT X.K H a vs) ∧ DnL T G vs ds := by
  cases h with
  | lst g l => cases e; exact ⟨_, _, rfl, .inl (.of (ex _ _ g)), l⟩
  | rol g l => cases e; exact ⟨_, _, rfl, .inl (hK ▸ ex_l ex g), l⟩
  | tup g l => cases e; exact ⟨_, _, rfl, .inr (.of (ex _ _ g)), l⟩
  | tupE g => cases e; exact ⟨_, _, rfl, .inr (hK ▸ ex_t ex g), .nil⟩
  | _ => cases e
theorem cv_sorted {X : Cx} (hK : T.K = X.K) : CallV T (rSrtA X.K) oSorted := by
  intro G H vs ds o Q ex dl h k
  cases dl with
  | nil => cases h
  | cons a l =>
    cases l with
    | cons _ _ => cases h
    | nil =>
      unfold oSorted at h
      simp only at h
      obtain ⟨ds, e1, e2⟩ := Option.bind_eq_some_iff.mp h
      split at e2
      · rename_i hz
        obtain ⟨ad, ws, rfl, sq, l⟩ := ofSeq_sq hK ex a e1
        split at e2
        · rename_i ns hn
          cases e2
          have hw := intsD_vs hn l
          subst hw
          refine .inl ⟨ad, ns, rfl, sq, fun ns' p pm hs hp => ?_⟩
          rw [srtI_eq pm hs]
          exact go_nl ex (dnL_ints _) k hp
        · obtain ⟨ps, hp, e3⟩ := Option.map_eq_some_iff.mp e2
          subst e3
          obtain ⟨p1, p2⟩ := paired_all (pairsD_vs hp l)
          refine .inr ⟨ad, ws, kP G, rfl, sq, fun x hx => ?_, fun ys p hs hb hp => ?_⟩
          · obtain ⟨t, e, g⟩ := p2 x hx
            exact ⟨t, e, ex _ _ g⟩
          · have pm : ys.Perm ws := hb.perm
            have hy := dnL_pairs (T := T) (G := G) (vs := ys) fun v hv => p2 v (pm.mem_iff.mp hv)
            have : ys.map (kP G) = srtP ps := by
              refine srtP_eq (by rw [← p1]; exact pm.map _) (List.pairwise_map.mpr (hs.imp fun {x y} h => ?_))
              unfold leP
              have h : SrtO.lexB (kP G y) (kP G x) = false := h
              rw [h]; rfl
            rw [this] at hy
            exact go_nl ex hy k hp
      · cases e2
end
end DF
end

section
set_option maxRecDepth 100000
set_option maxHeartbeats 4000000
namespace DF
open PySem PySem.Spec PyProof.Rows L2

/-! ### repr -/
def rReprA (K : PySem.W.Frag) : List V → Hp → VK → Prop := fun xs H Q => ∃ (v : V) (d : PyData), xs = [v] ∧ Dp K H v d ∧ d.showable = true ∧ d.hasDict = false ∧ d.depth ≤ 32 ∧ d.shown.length ≤ 100000 ∧ Q (.str d.shown) H
theorem call_reprA {X : Cx} {k : Nat} (hr : Room k X.A) (hg : X.A.guards = some []) : CallR X (.builtin "repr") (rReprA X.K) := by
  intro pins s σ H xs us Q I r h
  obtain ⟨v, d, rfl, dp, hs, hd, hz, hl, q⟩ := h
  obtain ⟨u, rfl, ru⟩ := vals1 r
  have hl2 : d.shown.length ≤ sizeLine := big hl
  have isref : ∀ a, u = .ref a → wpAny (model X.prog X.w) X.A (call (.builtin "repr") [u]) (EP X pins σ Q) X.xe s := by
    rintro a rfl
    obtain ⟨as, rd⟩ := Dp.reads I d v _ dp ru
    refine repr_of_reads' rd hs (fun z => by rw [hd] at z; cases z) hg (by have := hr.un; omega) (fun _ _ e => e) (fun h' u tk k => ?_) hl2
    exact ⟨.str d.shown, H, I.kept (t' := tk) k, ⟨u, rfl⟩, q⟩
  cases dp with
  | non => cases ru; exact PySem.P.repr_of_none ⟨.str _, H, I.tok _, ⟨_, rfl⟩, q⟩
  | bl b =>
    cases ru
    cases b with
    | true => exact PySem.P.repr_of_bool ⟨.str (PyData.shown (.bool true)), H, I.tok _, ⟨_, rfl⟩, q⟩
    | false => exact PySem.P.repr_of_bool ⟨.str (PyData.shown (.bool false)), H, I.tok _, ⟨_, rfl⟩, q⟩
  | int i =>
    obtain ⟨t, rfl⟩ := ru
    exact PySem.P.repr_of_int (of_decide_eq_true hs) ⟨.str _, H, I.tok _, ⟨_, rfl⟩, q⟩
  | str x =>
    obtain ⟨t, rfl⟩ := ru
    exact PySem.P.repr_of_str ⟨.str _, H, I.tok _, ⟨_, rfl⟩, q⟩ hl2
  | lst _ _ => exact isref _ ru
  | tup _ _ => exact isref _ ru
def oRepr : List D → Option O
  | [d] => if okE 16 d = true ∧ (toPy d).showable = true ∧ (toPy d).hasDict = false ∧ (toPy d).depth ≤ 32 ∧ (toPy d).shown.length ≤ 100000 then some (.fr (.str (toPy d).shown)) else none
  | _ => none
theorem cv_repr {T : Tab} {X : Cx} (hK : T.K = X.K) : CallV T (rReprA X.K) oRepr := by
  intro G H vs ds o Q ex dl h k
  cases dl with
  | nil => cases h
  | cons a l =>
    cases l with
    | cons _ _ => cases h
    | nil =>
      unfold oRepr at h
      simp only at h
      split at h
      · rename_i c
        cases h
        exact ⟨_, _, rfl, hK ▸ dp_mono ex (a.dp c.1), c.2.1, c.2.2.1, c.2.2.2.1, c.2.2.2.2, go_same ex (.str _) k⟩
      · cases h

/-! ### is True, is False (of bools) -/
def dIsB (neg : Bool) (a b : D) : Option O := match a, b with
  | .bl x, .bl y => some (.fr (.bl ((x == y) != neg)))
  | _, _ => none
theorem ov_isB {T : Tab} : OpV T (fun x y H Q => ∃ a b, x = .bl a ∧ y = .bl b ∧ Q (.bl (a == b)) H) (dIsB false) := by
  intro G H v w d e o Q ex hd he h k
  cases hd with
  | bl x =>
    cases he with
    | bl y =>
      cases h
      refine ⟨x, y, rfl, rfl, ?_⟩
      exact k (.bl _) G H [] (Stp.nil ex) (.fr (by rw [xor_f]; exact .bl _))
    | _ => cases h
  | _ => unfold dIsB at h; split at h <;> simp_all

/-! ### new dicts -/
def eDk : M O := ret (.dk 1 [] [])
def eDt : M O := ret (.dt 1 [] [])
section
variable {T : Tab} {τ : Th} {W : WX} {X : Cx} {G H : Hp} {σ : L2.St} {pos : Pos}
theorem de_dk : PE X (.Dict [] [] pos) (tDE T τ W eDk) := pe_dnewK.weak fun σ H Q ⟨G, A, s, w, os, p⟩ => fun a ha => by
  have st : Stp hE G H [] _ _ _ := Stp.newO (o := .dK []) w.ex ha
  exact finV w os p st (.dk (kvs := []) upd_same .nil)
theorem de_dt : PE X (.Dict [] [] pos) (tDE T τ W eDt) := pe_dnewT.weak fun σ H Q ⟨G, A, s, w, os, p⟩ => fun a ha => by
  have st : Stp hE G H [] _ _ _ := Stp.newO (o := .dT []) w.ex ha
  exact finV w os p st (.dt (kvs := []) upd_same .nil)
end

/-! ### stores -/
def StV (T : Tab) (r : TSet) (op : O → D → D → Option O) : Prop :=
  ∀ {gb G H : Hp} {v i u : V} {o o' : O} {di d : D} {A : List Addr} {Q : Hp → Prop}, Wf gb G H A → Own T G H v o A → Dn T G i di → Dn T G u d → op o di d = some o' →
    (∀ (H' : Hp) (A' D : List Addr), (∀ a, a ∉ A → H' a = H a) → (A' ++ D).Perm A → Own T G H' v o' A' → Q H') → r v i u H Q
def putD {κ : Type} [DecidableEq κ] : List κ → List D → κ → D → List κ × List D
  | k :: ks, d :: ds, x, e => if k = x then (k :: ks, e :: ds) else let r := putD ks ds x e; (k :: r.1, d :: r.2)
  | _, _, x, e => ([x], [e])
def stSet : O → D → D → Option O
  | .lst t os, .int i, d => (ixN os.length i).map fun k => .lst t (os.set k (.fr d))
  | .dk t ks ds, .int i, d => if ks.Nodup ∧ ks.length < 100000 then let r := putD ks ds (Sum.inl i) d; some (.dk t r.1 r.2) else none
  | .dk t ks ds, .str i, d => if ks.Nodup ∧ ks.length < 100000 then let r := putD ks ds (Sum.inr i) d; some (.dk t r.1 r.2) else none
  | .dt t ks ds, .tup es, d => if es = [] then none else if ks.Nodup ∧ ks.length < 100000 then match keyL es with
    | some k => let r := putD ks ds k d; some (.dt t r.1 r.2)
    | none => none else none
  | _, _, _ => none
section
variable {T : Tab} {τ : Th} {W : WX} {X : Cx} {G H : Hp} {σ : L2.St} {pos : Pos}
theorem ownL_set {u : V} {d : D} (dn : Dn T G u d) : ∀ {vs : List V} {os : List O} {A : List Addr} (j : Nat), OwnL T G H vs os A → ∃ A' E, OwnL T G H (vs.set j u) (os.set j (.fr d)) A' ∧ (A' ++ E).Perm A
  | _, _, _, _, .nil => ⟨[], [], .nil, by simp⟩
  | _, _, _, 0, .cons (A := A0) (B := B0) i h l => ⟨B0, A0, .cons (A := []) rfl (.fr dn) l, List.perm_append_comm⟩
  | _, _, _, j + 1, .cons (A := A0) i h l => by
    obtain ⟨A', E, a, p⟩ := ownL_set dn j l
    exact ⟨A0 ++ A', E, .cons i h a, by rw [List.append_assoc]; exact List.Perm.append_left A0 p⟩
theorem putD_ok {κ : Type} [DecidableEq κ] {u : V} {x : κ} {d : D} (dn : Dn T G u d) : ∀ {kvs : List (κ × V)} {ds : List D}, (kvs.map Prod.fst).Nodup → DnL T G (kvs.map Prod.snd) ds →
    (putK kvs x u).map Prod.fst = (putD (kvs.map Prod.fst) ds x d).1 ∧ DnL T G ((putK kvs x u).map Prod.snd) (putD (kvs.map Prod.fst) ds x d).2
  | [], _, _, .nil => ⟨rfl, .cons dn .nil⟩
  | p :: r, _, nd, .cons (d := d0) (ds := ds0) a l => by
    have nd1 := (List.nodup_cons.mp nd).1
    have nd2 := (List.nodup_cons.mp nd).2
    obtain ⟨ih1, ih2⟩ := putD_ok dn nd2 l (x := x)
    by_cases e : p.1 = x
    · have any1 : ((p :: r).any fun kv => decide (kv.1 = x)) = true := by simp [e]
      have same : r.map (fun kv => if kv.1 = x then (kv.1, u) else kv) = r := by
        conv => rhs; rw [← List.map_id r]
        refine List.map_congr_left fun kv hkv => ?_
        rw [if_neg fun z => nd1 (by rw [e, ← z]; exact List.mem_map.mpr ⟨kv, hkv, rfl⟩)]; rfl
      have e1 : putK (p :: r) x u = (p.1, u) :: r := by
        unfold putK; rw [if_pos any1, List.map_cons, if_pos e, same]
      simp only [List.map_cons, putD, if_pos e]
      rw [e1]
      exact ⟨rfl, .cons dn l⟩
    · have e1 : putK (p :: r) x u = p :: putK r x u := by
        unfold putK
        rw [List.any_cons, decide_eq_false e, Bool.false_or]
        by_cases c : (r.any fun kv => decide (kv.1 = x)) = true
        · rw [if_pos c, if_pos c, List.map_cons, if_neg e]
        · rw [if_neg c, if_neg c]; rfl
      simp only [List.map_cons, putD, if_neg e]
      rw [e1]
      exact ⟨by rw [List.map_cons, ih1], by rw [List.map_cons]; exact .cons a ih2⟩
def rSetA : TSet := fun o i v H Q => rSetL o i v H Q ∨ rSetD o i v H Q
theorem set_any {k : Nat} (hr : Room k X.A) : PSet X rSetA := by
  intro pins s σ H o i v ov iv u Q I ro ri rv h
  rcases h with h | h
  · exact set_list pins s σ H o i v ov iv u Q I ro ri rv h
  · exact set_dict (hu1 hr) pins s σ H o i v ov iv u Q I ro ri rv h
theorem sv_set : StV T rSetA stSet := by
  intro gb G H v i u o o' di d A Q w ow dni dn h k
  unfold stSet at h
  split at h
  · rename_i t os i
    cases dni
    cases ow with
    | lst e l =>
      rename_i ad vs A0
      obtain ⟨j, e1, e2⟩ := Option.map_eq_some_iff.mp h
      subst e2
      have hne : ad ∉ A0 := (List.nodup_cons.mp w.nd).1
      refine .inl ⟨ad, vs, i, j, rfl, rfl, e, by rw [l.len]; exact e1, ?_⟩
      have l' := l.frame (G' := G) (H' := upd H ad (.lst (vs.set j u))) (Ex.refl _) fun a ha => upd_ne fun z => hne (z ▸ ha)
      obtain ⟨A', E, o2, pm⟩ := ownL_set dn j l'
      exact k _ (ad :: A') E (fun a ha => upd_ne fun z => ha (z ▸ List.mem_cons_self)) (List.Perm.cons ad pm) (.lst upd_same o2)
  · rename_i t ks ds i
    split at h
    · rename_i c
      cases h
      cases dni
      cases ow with
      | dk e l =>
        rename_i ad kvs
        obtain ⟨h1, h2⟩ := putD_ok dn c.1 l (x := (Sum.inl i : Key))
        refine .inr ⟨ad, _, rfl, .inl ⟨kvs, Sum.inl i, e, rfl, by have := c.2; rw [List.length_map] at this; exact bigl this, rfl⟩, ?_⟩
        refine k _ [ad] [] (fun a ha => upd_ne fun z => ha (z ▸ List.mem_cons_self)) (by simp) ?_
        rw [← h1]
        exact .dk upd_same h2
    · cases h
  · rename_i t ks ds i
    split at h
    · rename_i c
      cases h
      cases dni
      cases ow with
      | dk e l =>
        rename_i ad kvs
        obtain ⟨h1, h2⟩ := putD_ok dn c.1 l (x := (Sum.inr i : Key))
        refine .inr ⟨ad, _, rfl, .inl ⟨kvs, Sum.inr i, e, rfl, by have := c.2; rw [List.length_map] at this; exact bigl this, rfl⟩, ?_⟩
        refine k _ [ad] [] (fun a ha => upd_ne fun z => ha (z ▸ List.mem_cons_self)) (by simp) ?_
        rw [← h1]
        exact .dk upd_same h2
    · cases h
  · rename_i t ks ds es
    split at h
    · cases h
    rename_i hne
    split at h
    · rename_i c
      split at h
      · rename_i ky hk
        cases h
        cases dni with
        | tupE _ => exact absurd rfl hne
        | tup g m =>
          rename_i bd ws
          have ew := keyL_vs hk m
          cases ow with
          | dt e l =>
            rename_i ad kvs
            obtain ⟨h1, h2⟩ := putD_ok dn c.1 l (x := ky)
            refine .inr ⟨ad, _, rfl, .inr ⟨kvs, ky, bd, e, rfl, by rw [← ew]; exact w.ex _ _ g, by have := c.2; rw [List.length_map] at this; exact bigl this, rfl⟩, ?_⟩
            refine k _ [ad] [] (fun a ha => upd_ne fun z => ha (z ▸ List.mem_cons_self)) (by simp) ?_
            rw [← h1]
            exact .dt upd_same h2
      · cases h
    · cases h
  · cases h
theorem tg_set : ∀ o i d o', stSet o i d = some o' → tag o' = tag o := by
  intro o i d o' h
  unfold stSet at h
  split at h
  · obtain ⟨j, _, e⟩ := Option.map_eq_some_iff.mp h; subst e; rfl
  · split at h
    · cases h; rfl
    · cases h
  · split at h
    · cases h; rfl
    · cases h
  · split at h
    · cases h
    · split at h
      · split at h
        · cases h; rfl
        · cases h
      · cases h
  · cases h
/-- x[i] = e: x the slot j -/
def stAt (j : Nat) (o d : D) : M Fl := fun s => match s[j]? with
  | some (some oj) => match stSet oj o d with
    | some o' => .ok .nx (s.set j (some o'))
    | none => .no
  | _ => .no
def stIx (j : Nat) (fi : M O) (d : D) : M Fl := fun s => match s[j]? with
  | some (some _) => bnd fi (fun i => stAt j (fz i) d) s
  | _ => .no
def sStore (j : Nat) (fe fi : M O) : M Fl := bnd fe fun o => stIx j fi (fz o)
theorem S_freeze {f : M O} {h : D → M Fl} {D : Ends} (q : tDS T τ W (bnd f fun o => h (fz o)) D σ H) : tDE T τ W f σ H fun v H1 => ∃ (G1 : Hp) (A1 : List Addr) (d : DF.D) (s1 : S), Wf τ.gb G1 H1 A1 ∧ OwnS T G1 H1 τ σ s1 A1 ∧ Dn T G1 v d ∧ PostS T τ W D G1 H1 A1 (h d s1) :=
  kE_imp (S_bind q) fun v H1 ⟨G1, A1, B1, o, s1, w, os, ow, p⟩ => by
    have fx := frz_ex (G := G1) (H := H1) (B := B1) fun a h => w.ng a (List.mem_append_right _ h)
    have st := frz_step w
    exact ⟨_, A1, fz o, s1, st.wf, os.frame fx fun _ _ => rfl, ow.freeze fx fun a ha o q => by rw [frz_in ha]; exact q, PostS.step p st⟩
theorem ds_store {e i : Expr} {x : Str} {p p2 : Pos} {fe fi : M O} {k : Nat} (j : Nat) (hr : Room k X.A) (he : PE X e (tDE T τ W fe)) (hi : PE X i (tDE T τ W fi)) (hN : X.N[j]? = some x := by rfl) (hv : Vis X.env.scope x := by first | exact Or.inl rfl | exact Or.inr (Or.inl rfl) | exact Or.inr (Or.inr rfl))
    (hd : (x == ("__debug__" : Str)) = false := by decide) (hcd : (x == ("__classdict__" : Str)) = false := by decide)
    (ha : ∀ v, assign (.Subscript (.Name x p) i p2) X.env v = (do
      let ov ← holding [v] (eval (.Name x p) X.env)
      let iv ← holding [v, ov] (eval i X.env)
      standAt p2
      holding [v, ov, iv] (setItem ov iv v)
      release [v, ov, iv] []) := by intro _; rfl)
    (hs : swapsWithSole [.Subscript (.Name x p) i p2] e pos.line X.env = pure false := by rfl) (hw : swappedStores [.Subscript (.Name x p) i p2] e X.env = pure none := by rfl)
    (h1 : (assignEach [.Subscript (.Name x p) i p2] X.env).map (·.2) = [assign (.Subscript (.Name x p) i p2) X.env] := by rfl) : PS X (.Assign [.Subscript (.Name x p) i p2] e pos) (tDS T τ W (sStore j fe fi)) :=
  (ps_asg he (pg_sub (pe_var (i := j) hN hv hd hcd) hi (set_any hr) ha) hs hw h1).weak fun D σ H q => by
    refine kE_imp (S_freeze (h := stIx j fi) q) fun v H1 h => ?_
    obtain ⟨G1, A1, d, s1, w, os, dn, p⟩ := h
    unfold stIx at p
    cases e0 : s1[j]? with
    | none => rw [e0] at p; exact p.elim
    | some u0 =>
      cases u0 with
      | none => rw [e0] at p; exact p.elim
      | some o0 =>
        rw [e0] at p
        simp only at p
        obtain ⟨v0, B0, C0, hv0, _, _⟩ := os.get (σ := σ) e0
        refine ⟨v0, hv0, ?_⟩
        refine ⟨G1, A1, s1, w, os, ?_⟩
        unfold bnd at p
        cases e2 : fi s1 with
        | no => rw [e2] at p; exact p
        | er x s2 => rw [e2] at p; exact PostXS.x p
        | ok o2 s2 =>
          rw [e2] at p
          intro iv G2' H2 A2' B2' z os2' ow2
          have fx := frz_ex (G := G2') (H := H2) (B := B2') fun a h => z.wf.ng a (List.mem_append_right _ h)
          have st := frz_step z.wf
          have os2 : OwnS T (frz G2' H2 B2') H2 τ σ s2 A2' := os2'.frame fx fun _ _ => rfl
          have dni : Dn T (frz G2' H2 B2') iv (fz o2) := ow2.freeze fx fun a ha o q => by rw [frz_in ha]; exact q
          have dn2 := dn.mono (z.gg.trans fx)
          have p2 := PostS.step p (z.trans st)
          simp only [stAt] at p2
          cases e3 : s2[j]? with
          | none => rw [e3] at p2; exact p2.elim
          | some uu =>
            cases uu with
            | none => rw [e3] at p2; exact p2.elim
            | some oj =>
              rw [e3] at p2
              simp only at p2
              cases e4 : stSet oj (fz o2) d with
              | none => rw [e4] at p2; exact p2.elim
              | some o' =>
                rw [e4] at p2
                obtain ⟨v', B, C, hv', tk, ow, pm, os3⟩ := os2.out e3
                have ev : v0 = v' := Option.some.inj (Option.some.inj (hv0.symm.trans hv'))
                subst ev
                have w3 := st.wf.perm pm
                refine sv_set w3.left ow dni dn2 e4 fun H' A' E k pp owA => ?_
                have dis : ∀ a ∈ C, a ∉ B := fun a hc hb => (List.nodup_append.mp w3.nd).2.2 a hb a hc rfl
                have os4 := os3.frame (Ex.refl _) fun a ha => k a (dis a ha)
                obtain ⟨A3, E3, os5, p5⟩ := os4.fill hv' (o := o') (fun z => by rw [tg_set _ _ _ _ e4] at z ⊢; exact tk z) owA
                rw [List.set_set] at os5
                have pt : (A3 ++ (E3 ++ E)).Perm A2' := by
                  refine List.Perm.trans ?_ pm.symm
                  refine List.Perm.trans ?_ (List.Perm.append_right C pp)
                  rw [← List.append_assoc]
                  refine (List.Perm.append_right E p5).trans ?_
                  refine List.perm_iff_count.mpr fun a => ?_
                  simp only [List.count_append]; omega
                have kk : ∀ a, a ∉ A2' → H' a = H2 a := fun a n => k a fun z => n (pm.mem_iff.mpr (List.mem_append_left _ z))
                exact p2 σ _ H' A3 (Stp.mut st.wf kk (fun a ha => os5.there a ha) pt) os5
end
end DF
end

section
set_option maxRecDepth 100000
set_option maxHeartbeats 4000000
namespace DF
open PySem PySem.Spec PyProof.Rows L2

/-! ### a def keeps its promise -/
theorem fnD_ok {T : Tab} {P : Program} {w : World} {K : PySem.W.Frag} {mg : Str → Option Value} {base : Heap} {x qual : Str} {params : Arguments} {body : List Stmt} {scope : Scope} {dvs : List V} {kws : List (Str × V)} {f : Addr} {fd : FuncData} {N ps : List Str} {k n : Nat} {F : M Fl}
    (FD : FunD K x qual params body scope dvs kws f fd) (S : FnScope N ps scope) (hN : N.length = ps.length + n)
    (hb : ∀ (cdv : Value) (A : Around) (outer : List Env) (s : Shared) (H : Hp) (E : XK) (τ : Th), Room k (A.deeper (envOfC qual scope s.heap.objs.size f cdv)) → PSs (cxOf (L2.CX P w) P w K mg base N qual scope f cdv A outer s H E) body (tDS T τ (WD E) F)) :
    FnOk P w K mg base (L2.CX P w) (k + 1) f fd ps (spD T ps.length (runDef n F)) :=
  FD.ok S (fun vs H Q E h => h.1) fun cdv A outer s H vs Q E hr h => by
    obtain ⟨hl, τ, h⟩ := h
    exact ⟨_, hb cdv A outer s H E τ hr, body_ok (by rw [hN, hl]) h⟩

/-! ### a call with keywords -/
def aAppK (n : Nat) (g : M (List J)) (gk : M (List D)) : M (List J) := bnd g fun js => if js.length = n then bnd gk fun ds => ret (js ++ ds.map Sum.inl) else fun _ => .no
def tCallNS (n m : Nat) (sp : Sp) (gV : List V → List V → List V) (E : L2.St → XK) (t tk : TA) : TE := fun σ H Q => t σ H fun vs H1 => tk σ H1 fun zs H2 => vs.length = n ∧ zs.length = m ∧ sp (gV vs zs) H2 Q (E σ)
section
variable {X : Cx} {CX : CXT} {k n : Nat} {f : Addr} {fd : FuncData} {ps ks : List Str} {sp : Sp} {E : L2.St → XK} {x : Str} {p pos : Pos} {e : Expr} {es : List Expr} {kws : List Keyword} {t tk : TA} {g : List Value → List Value → List Value} {gV : List V → List V → List V}
theorem pe_callNS (F : FnOk X.prog X.w X.K X.mg X.base CX k f fd ps sp) (hr : Room k X.A) (hg : Gl X x) (hm : X.mg x = some (.ref f)) (hk : PySem.W.keepIn X.K (.ref f) = true) (hb : KBn X.K fd ps n ks g gV) (hx : ∀ σ, PassesAt CX X σ (E σ))
    (ha : PA X (e :: es) t) (hkw : PK X kws tk) (hall : (backToKw pos (keywordEach kws X.env)).all (·.1.isSome) = true := by rfl) (hks : (backToKw pos (keywordEach kws X.env)).filterMap (·.1) = ks := by rfl)
    (hdb : (x == ("__debug__" : Str)) = false := by decide) (he : starEach (e :: es) X.env = (false, eval e X.env) :: starEach es X.env := by rfl)
    (hpl : ((backTo pos (starEach (e :: es) X.env)).any (·.1) || (backToKw pos (keywordEach kws X.env)).any (·.1.isNone)) = false := by rfl) :
    PE X (.Call (.Name x p) (e :: es) kws pos) (tCallNS n ks.length sp gV E t tk) := by
  refine ⟨fun pins s σ H Q I h => ?_⟩
  refine wpAny_Call_Name_kw (ld_glob I hg hm ?_ hdb)
  refine PySem.W.callWith_KW (h₀ := X.base) I.ok.mod.kin hk hall (thn (ha.run pos pins s σ H _ I h) fun us s1 ⟨vs, H1, I1, r, q⟩ => ?_) hpl he
  refine thn (hkw.run pos pins s1 σ H1 _ I1 q) fun ws s2 ⟨zs, H2, I2, rz, l1, l2, q2⟩ => ⟨I2.kIn, ?_⟩
  rw [hks]
  have r2 := hb.rel r rz
  refine wpAny_call (codeAny_mono (F.run X.A X.stack s2 H2 ⟨us, ks.zip ws⟩ (g us ws) (gV vs zs) Q (E σ) hr I2.env0 (hb.to s2 us ws I2.kIn (r.length.symm.trans l1) (rz.length.symm.trans l2)) r2 q2) fun r s' hq => ?_)
  cases r with
  | error e => exact hx σ pins H2 s2 e s' I2 hq
  | ok fl =>
    cases fl with
    | ret u => exact I2.after hq
    | next => exact False.elim hq
    | brk => exact False.elim hq
    | cont => exact False.elim hq
end
section
variable {T : Tab} {τ : Th} {W : WX} {X : Cx} {σ : L2.St} {H : Hp} {g : M (List J)} {gk : M (List D)}
theorem argJ_app {G : Hp} : ∀ {vs : List V} {js : List J} {zs : List V} {ds : List D}, ArgJ T G σ vs js → DnL T G zs ds → ArgJ T G σ (vs ++ zs) (js ++ ds.map Sum.inl)
  | _, _, _, _, .nil, l => by
    induction l using DnL.rec (motive_1 := fun _ _ _ => True) with
    | nil => exact .nil
    | cons a l _ ih => exact .d a ih
    | _ => trivial
  | _, _, _, _, .d h l, m => .d h (argJ_app l m)
  | _, _, _, _, .j h l, m => .j h (argJ_app l m)
theorem tr_appK {n : Nat} {Q : List V → Hp → Prop} (h : tDJ T τ W (aAppK n g gk) σ H Q) : tDJ T τ W g σ H fun vs H1 => vs.length = n ∧ tDA T τ W gk σ H1 fun zs H2 => Q (vs ++ zs) H2 := by
  obtain ⟨G, A, s, w, os, p⟩ := h
  refine ⟨G, A, s, w, os, ?_⟩
  unfold aAppK bnd at p
  cases e : g s with
  | no => rw [e] at p; exact p
  | er x s1 => rw [e] at p; exact p
  | ok js s1 =>
    rw [e] at p
    intro vs G1 H1 A1 z os1 ar
    simp only at p
    split at p
    · rename_i hl
      refine ⟨ar.len.trans hl, G1, A1, s1, z.wf, os1, ?_⟩
      have p1 := PostG.step (k := kJ T τ Q) kJ_step p z
      simp only at p1
      cases e2 : gk s1 with
      | no => rw [e2] at p1; exact p1
      | er x s2 => rw [e2] at p1; exact p1
      | ok ds s2 =>
        rw [e2] at p1
        exact fun zs G2 H2 A2 z2 os2 dl => p1 (vs ++ zs) G2 H2 A2 z2 os2 (argJ_app (ar.mono z2.gg) dl)
    · exact p.elim
end
/-- f(e, .., k = v, ..): the keywords are the parameters behind the positional ones, in order -/
theorem de_callK {T : Tab} {τ : Th} {W : WX} {X : Cx} {x : Str} {k n : Nat} {den : M O} {e : Expr} {es : List Expr} {kws : List Keyword} {g : M (List J)} {gk : M (List D)} {p pos : Pos} {f : Addr} {fd : FuncData} {ps ks : List Str}
    (F1 : FnOk X.prog X.w X.K X.mg X.base (L2.CX X.prog X.w) k f fd ps (spD T (n + ks.length) den)) (hm : X.mg x = some (.ref f)) (hk : PySem.W.keepIn X.K (.ref f) = true) (hb : KBn X.K fd ps n ks (fun us ws => us ++ ws) (fun vs zs => vs ++ zs)) (hr : Room k X.A) (tk : Takes X W) (hg : Gl X x)
    (ha : PA X (e :: es) (tDJ T τ W g)) (hkw : PK X kws (tDA T τ W gk)) (hall : (backToKw pos (keywordEach kws X.env)).all (·.1.isSome) = true := by rfl) (hks : (backToKw pos (keywordEach kws X.env)).filterMap (·.1) = ks := by rfl)
    (hdb : (x == ("__debug__" : Str)) = false := by decide) (he : starEach (e :: es) X.env = (false, eval e X.env) :: starEach es X.env := by rfl)
    (hpl : ((backTo pos (starEach (e :: es) X.env)).any (·.1) || (backToKw pos (keywordEach kws X.env)).any (·.1.isNone)) = false := by rfl) :
    PE X (.Call (.Name x p) (e :: es) kws pos) (tDE T τ W (eCallJ (n + ks.length) den [] (aAppK n g gk))) := by
  refine (pe_callNS F1 hr hg hm hk hb (passAt tk) ha hkw hall hks hdb he hpl).weak fun σ H Q h => ?_
  have q := tr_appK (tr_callJ (dvs := []) (fun _ => .nil) h)
  obtain ⟨G, A, s, w, os, p⟩ := q
  refine ⟨G, A, s, w, os, ?_⟩
  cases e1 : g s with
  | no => rw [e1] at p; exact p
  | er x s1 => rw [e1] at p; exact p
  | ok js s1 =>
    rw [e1] at p
    intro vs G1 H1 A1 z os1 ar
    obtain ⟨l1, q⟩ := p vs G1 H1 A1 z os1 ar
    obtain ⟨G2, A2, s2, w2, os2, p2⟩ := q
    refine ⟨G2, A2, s2, w2, os2, ?_⟩
    cases e2 : gk s2 with
    | no => rw [e2] at p2; exact p2
    | er x s3 => rw [e2] at p2; exact p2
    | ok ds s3 =>
      rw [e2] at p2
      intro zs G3 H3 A3 z3 os3 dl
      have q3 := p2 zs G3 H3 A3 z3 os3 dl
      simp only [List.append_nil] at q3
      have hlen := q3.1
      rw [List.length_append, l1] at hlen
      exact ⟨l1, by omega, q3⟩
theorem dk_nil {T : Tab} {τ : Th} {W : WX} {X : Cx} : PK X [] (tDA T τ W aNil) := ⟨fun p pins s σ H Q I h => (pk_nil (X := X)).run p pins s σ H Q I (by
  obtain ⟨G, A, s, w, os, q⟩ := h
  exact q [] G H A (Stp.refl w) os .nil)⟩
theorem dk_cons {T : Tab} {τ : Th} {W : WX} {X : Cx} {nm : Option Str} {e : Expr} {kpos : Pos} {kws : List Keyword} {f : M O} {g : M (List D)} (he : PE X e (tDE T τ W f)) (hr : PK X kws (tDA T τ W g)) : PK X (⟨nm, e, kpos⟩ :: kws) (tDA T τ W (aCons f g)) :=
  ⟨fun pp pins s σ H Q I h => (pk_cons he hr).run pp pins s σ H Q I (by
    obtain ⟨G, A, s, w, os, p⟩ := F_bind kA_step (g := fun d => bnd g fun ds => ret (d :: ds)) h
    refine ⟨G, A, s, w, os, ?_⟩
    cases e : f s with
    | no => rw [e] at p; exact p
    | er x s1 => rw [e] at p; exact p
    | ok o s1 =>
      rw [e] at p
      intro v G1' H1 A1' B1' z os1 ow1
      obtain ⟨G1, A1, d1, s1', w1, os1, dn1, p1⟩ := p v G1' H1 A1' B1' z os1 ow1
      refine ⟨G1, A1, s1', w1, os1, ?_⟩
      unfold bnd at p1
      cases e2 : g s1' with
      | no => rw [e2] at p1; exact p1
      | er x s1 => rw [e2] at p1; exact p1
      | ok ds s3 =>
        rw [e2] at p1
        exact fun vs G3 H3 A3 z3 os3 dl => p1 (v :: vs) G3 H3 A3 z3 os3 (.cons (dn1.mono z3.gg) dl))⟩
end DF
end

section
set_option maxRecDepth 100000
set_option maxHeartbeats 4000000
namespace DF
open PySem PySem.Spec PyProof.Rows L2

/-! ### a law's def, called where no repr is under way (the library's FnOk, fn_of, law_call, walk_ofE with that premise) -/
structure FnG (P : Program) (w : World) (K : PySem.W.Frag) (mg : Str → Option Value) (base : Heap) (CX : CXT) (k : Nat) (f : Addr) (fd : FuncData) (ps : List Str) (sp : Sp) : Prop where
  len : ∀ vs H Q E, sp vs H Q E → vs.length = ps.length
  run : ∀ (A : Around), A.guards = some [] → ∀ (outer : List Env) (s : Shared) (H : Hp) (args : Args) (us : List Value) (vs : List V) (Q : VK) (E : XK), Room k A → Env0 P w K mg base A outer s H → BindsTo s fd args (ps.zip us) → Vals vs us → sp vs H Q E →
    codeAny (model P w) A (.call (.ref f) args) (CR CX outer P w H s Q E) s
theorem fnG_of {CX : CXT} {P : Program} {w : World} {K : PySem.W.Frag} {mg : Str → Option Value} {base : Heap} {k : Nat} {f : Addr} {name qual : Str} {params : Arguments} {body : List Stmt} {scope : Scope} {dV kV doc pm cdv ct oc : Value} {an od : Option Addr}
    {osl : Array (Option Value)} {N ps : List Str} {sp : Sp} (lk : K.lookup f = some ⟨oc, od, .func (PySem.W.fnOf name qual params body scope dV kV doc pm an cdv ct), osl⟩) (hcd : PySem.W.codeIn K cdv qual = true) (S : FnScope N ps scope)
    (len : ∀ vs H Q E, sp vs H Q E → vs.length = ps.length)
    (hbody : ∀ (A : Around), A.guards = some [] → ∀ (outer : List Env) (s : Shared) (H : Hp) (vs : List V) (Q : VK) (E : XK), Room k (A.deeper (envOfC qual scope s.heap.objs.size f cdv)) → sp vs H Q E →
      ∃ t, PSs (cxOf CX P w K mg base N qual scope f cdv A outer s H E) body t ∧ t { nx := fun _ H' => Q .non H', rt := Q } (start N vs) H) :
    FnG P w K mg base CX (k + 1) f (PySem.W.fnOf name qual params body scope dV kV doc pm an cdv ct) ps sp := by
  refine ⟨len, fun A hgd outer s H args us vs Q E hr e0 hb r hsp => ?_⟩
  have hl := len _ _ _ _ hsp
  have KX : K.In s.heap := e0.mod.kin.keeps fun b o e => (e0.bs b o e).1
  have lim : s.heap.NoLimit := e0.mod.nolimit.keeps fun b o e => (e0.bs b o e).1
  have hkind : ∀ y ∈ ps.zip us, scope.names.lookup y.1 = some .local ∨ (scope.names.lookup y.1 = some .cell ∧ ((cellsFrom (s.heap.objs.size + 1) scope.names []).lookup y.1).isSome = true) := fun ⟨n, v⟩ hy => by
    rcases S.par n (List.of_mem_zip hy).1 with q | q
    · exact .inl q
    · exact .inr ⟨q, PySem.W.cellsFrom_some _ _ _ (.inl q)⟩
  refine codeAny_call_function hr.depth (KX _ _ lk) rfl S.co S.gen rfl (PySem.W.codeRec_of KX hcd) (hb _ _ _ _ ?_)
  refine wpAny_newFunctionEnv_cells S.kind hkind fun env he s1 x => ?_
  subst he
  refine ⟨lim.keeps x.toInCall.keep, codeAny_func ?_⟩
  obtain ⟨t, ht, hq⟩ := hbody A hgd outer s H vs Q E (hr.deeper _) hsp
  have I : Inv (cxOf CX P w K mg base N qual scope f cdv A outer s H E) [] (start N vs) H s1 := inv_start S hr.hd e0 hl r x
  refine wpAny_mono (ht.run [] s1 (start N vs) H _ I hq) (fun fl s' hs => ?_) fun e s' hs => hs
  have fin : ∀ {σ' : L2.St} {H' : Hp} {v : V} {u : Value}, Inv (cxOf CX P w K mg base N qual scope f cdv A outer s H E) [] σ' H' s' → RelV v u → Q v H' → CE outer P w H s Q u s' :=
    fun {σ' H' v u} J rv q => ⟨v, H', J.os, J.bare, J.base, J.hok, rv, q⟩
  cases fl with
  | ret u =>
    obtain ⟨v, σ', H', J, rv, q⟩ := hs
    exact fin J rv q
  | next =>
    obtain ⟨σ', H', J, q⟩ := hs
    exact fin (v := V.non) (u := Value.none) J rfl q
  | brk =>
    obtain ⟨_, _, _, q⟩ := hs
    exact False.elim q
  | cont =>
    obtain ⟨_, _, _, q⟩ := hs
    exact False.elim q
theorem law_callG {P : Program} {w : World} {K : PySem.W.Frag} {mg mb : Str → Option Value} {CX : CXT} {k : Nat} {fa a : Addr} {fd : FuncData} {x : Str} {sp : Sp} {s₁ : Shared} {vs : List Value} {ns : List Int}
    (KX : K.In s₁.heap) (hns : s₁.heap.Ns mainGlobals mg) (hb : s₁.heap.Ns builtinsNs mb) (hbb : ∀ x : Str, x ≠ "__name__" → mb x = bootBuiltins x) (hlim : s₁.heap.NoLimit) (hg : s₁.gens = #[])
    (ha : s₁.heap.get? a = some { cls := .type "list", data := .seq vs.toArray }) (hi : IntsAre vs ns) (hl : ns.length ≤ sizeLine) (hr : Room k callerA)
    (F : ∀ base : Heap, K.In base → base.Ns mainGlobals mg → FnG P w K mg base CX k fa fd [x] sp) (hbind : ∀ (s : Shared) (u : Value), BindsTo s fd ⟨[u], []⟩ [(x, u)])
    (hsp : ∀ H : Hp, Only H → SqL K H a (ns.map V.int) → sp [.ref a] H (fun v _ => v = .bl true) fun _ _ _ => False)
    (hCX : ∀ H e s', CX [] H s₁ (fun _ _ _ => False) e s' → False) :
    codeAny (model P w) callerA (.call (.ref fa) ⟨[.ref a], []⟩) (fun r s' => r = .ok (.ret (.bool true)) ∧ OldK s₁.heap s'.heap ∧ s'.os = s₁.os ∧ AllBare s'.gens) s₁ := by
  have rv := vals_ints hi
  have lenV := hi.length
  -- from an abstract heap in which nothing but the script may be tracked
  have core : ∀ H : Hp, Only H → SqL K H a (ns.map V.int) → HOk P w H s₁.heap → (∀ b, H b ≠ none → b = a) → (H a ≠ none → K.lookup a = none) →
      codeAny (model P w) callerA (.call (.ref fa) ⟨[.ref a], []⟩) (fun r s' => r = .ok (.ret (.bool true)) ∧ OldK s₁.heap s'.heap ∧ s'.os = s₁.os ∧ AllBare s'.gens) s₁ := by
    intro H hO hS hok hA hK
    have base_of : ∀ {b : Addr} {o : Obj}, s₁.heap.get? b = some o → H b = none → (hidT s₁.heap H).get? b = some o := fun e n => hidT_get e n
    have noA : ∀ {b : Addr} {o : Obj} {es : Array DictEntry} {ep : Nat}, s₁.heap.get? b = some o → o.data = .dict es ep → H b = none := fun {b o es ep} e d => by
      cases q : H b with
      | none => rfl
      | some u =>
        have e' : b = a := hA b (by rw [q]; simp)
        subst e'
        rw [ha] at e; cases e
        have d' : Data.seq vs.toArray _ = Data.dict es ep := d
        cases d'
    have nsK : ∀ {b : Addr} {m : Str → Option Value}, s₁.heap.Ns b m → (hidT s₁.heap H).Ns b m := fun {b m} ⟨o, es, ep, e, d, r⟩ => ⟨o, es, ep, base_of e (noA e d), d, r⟩
    have hKb : K.In (hidT s₁.heap H) := fun b o e => base_of (KX b o e) (by
      cases q : H b with
      | none => rfl
      | some u =>
        have e' : b = a := hA b (by rw [q]; simp)
        subst e'
        rw [hK (by rw [q]; simp)] at e; cases e)
    have hM : Mod K mg (hidT s₁.heap H) := ⟨hKb, nsK hns, ⟨mb, nsK hb, hbb⟩, let ⟨mc, h1, h2⟩ := hlim; ⟨mc, nsK h1, h2⟩⟩
    have e0 : Env0 P w K mg (hidT s₁.heap H) callerA [] s₁ H := ⟨rfl, hM, fun b o e => of_hidT e, Nat.le_of_eq (hidT_size _ _), trivial, fun b hb => absurd (show b ∈ ([] : List Addr) from hb) (by simp), hok, .of_eq hg⟩
    refine codeAny_mono ((F _ hKb (nsK hns)).run callerA rfl [] s₁ H ⟨[.ref a], []⟩ [.ref a] [.ref a] _ _ hr e0 (hbind s₁ (.ref a)) (.cons rfl .nil) (hsp H hO hS)) fun r s' h => ?_
    cases r with
    | error e => exact (hCX H e s' h).elim
    | ok fl =>
      cases fl with
      | next => exact False.elim h
      | brk => exact False.elim h
      | cont => exact False.elim h
      | ret u =>
        obtain ⟨v, H', os, bare, un, hok', r', q⟩ := h
        have q' : v = .bl true := q
        subst q'
        obtain rfl : u = Value.bool true := r'
        refine ⟨rfl, OldK.of_keep fun b o e => ?_, os, bare⟩
        cases q : H b with
        | none => exact un.keep b o e q (by intro z; exact absurd (show b ∈ ([] : List Addr) from z) (by simp)) (by simp)
        | some u =>
          rcases hO b with z | ⟨ob, xs, z⟩
          · rw [q] at z; cases z
          · have z2 := un.frzs b ob _ z
            obtain ⟨e1, _⟩ := hok b _ z
            obtain ⟨e2, _⟩ := hok' b _ z2
            rw [e] at e1; cases e1
            exact e2
  cases hk : K.lookup a with
  | some o =>
    -- the script is one of the module's own objects
    have e := KX a o hk
    rw [ha] at e
    cases e
    refine core (fun _ => none) (fun _ => .inl rfl) (.inr ⟨_, vs.toArray, _, hk, rfl, rfl, rfl, by rw [List.size_toArray, lenV]; exact hl, by simpa using rv⟩) (fun b u z => by have z' : (none : Option HO) = some u := z; cases z') (fun b z => absurd rfl z) fun z => absurd rfl z
  | none =>
    refine core (fun b => if b = a then some (.frz { cls := .type "list", data := .seq vs.toArray } (.lst (ns.map V.int))) else none) (fun b => ?_) (.inl (.inr ⟨{ cls := .type "list", data := .seq vs.toArray }, if_pos rfl⟩)) (fun b u z => ?_) (fun b z => ?_) fun _ => hk
    · by_cases hb : b = a
      · exact .inr ⟨_, _, if_pos hb⟩
      · exact .inl (if_neg hb)
    · by_cases hb : b = a
      · have z' := (if_pos hb).symm.trans z
        cases z'
        subst hb
        exact ⟨ha, by rw [List.length_map]; exact hl, vs, _, rv, ha⟩
      · have z' := (if_neg hb).symm.trans z
        cases z'
    · by_cases hb : b = a
      · exact hb
      · exact absurd (if_neg hb) z
theorem fnDG_ok {T : Tab} {P : Program} {w : World} {K : PySem.W.Frag} {mg : Str → Option Value} {base : Heap} {x qual : Str} {params : Arguments} {body : List Stmt} {scope : Scope} {dvs : List V} {kws : List (Str × V)} {f : Addr} {fd : FuncData} {N ps : List Str} {k n : Nat} {F : M Fl}
    (FD : FunD K x qual params body scope dvs kws f fd) (S : FnScope N ps scope) (hN : N.length = ps.length + n)
    (hb : ∀ (cdv : Value) (A : Around) (outer : List Env) (s : Shared) (H : Hp) (E : XK) (τ : Th), A.guards = some [] → Room k (A.deeper (envOfC qual scope s.heap.objs.size f cdv)) → PSs (cxOf (L2.CX P w) P w K mg base N qual scope f cdv A outer s H E) body (tDS T τ (WD E) F)) :
    FnG P w K mg base (L2.CX P w) (k + 1) f fd ps (spD T ps.length (runDef n F)) := by
  obtain ⟨oc, od, dV, kV, doc, pm, an, cdv, ct, osl, rfl, lk, hcd, _, _⟩ := FD.ex
  refine fnG_of lk hcd S (fun vs H Q E h => h.1) fun A hg outer s H vs Q E hr h => ?_
  obtain ⟨hl, τ, h⟩ := h
  exact ⟨_, hb cdv A outer s H E τ hg hr, body_ok (by rw [hN, hl]) h⟩
/-- the script as data -/
def scriptD (ns : List Int) : D := .rol (ns.map .int)
theorem walk_G {l : PySem.W.OpenLaw} {n k : Nat} {q : Program} {loose : List Str} {XP : (Str → Option Value) → Heap → Prop} {YP : World → Heap → Prop} {d : DefRec} {x : Str}
    (hn : l.most = some n) (hn2 : n ≤ sizeLine) (hdf : d.params.defaults = []) (hr : Room k callerA)
    (F : ∀ (w : World) (mg : Str → Option Value) (fa : Addr) (h : Heap), YP w h → h.Ns mainGlobals mg → mg d.name = some (.ref fa) →
      ∃ (K : PySem.W.Frag) (fd : FuncData) (T : Tab) (den : M O), T.K = K ∧ K.In h ∧ (∀ (s : Shared) (u : Value), BindsTo s fd ⟨[u], []⟩ [(x, u)]) ∧
        (∀ ns : List Int, ns.length ≤ n → ∃ s1, den [some (.fr (scriptD ns))] = .ok (.fr (.bl true)) s1) ∧
        ∀ base : Heap, K.In base → base.Ns mainGlobals mg → FnG l.prog w K mg base (L2.CX l.prog w) k fa fd [x] (spD T 1 den)) :
    PySem.W.WalkO q loose XP YP l.row.toRowW d [] (fun f vs => PySem.call f vs) := by
  refine Att.attach_call hn hdf fun w s₀ s₁ mg mb fa o pm cd doc a vs ns G Y ho hd hcd hmg hobj hints hlen hg => ?_
  obtain ⟨K, fd, T, den, hTK, KX, hb, hden, hF⟩ := F w mg fa _ Y G.T.g hmg
  refine law_callG KX G.T.g G.T.b G.T.builtins G.T.nolimit hg hobj hints (Nat.le_trans hlen hn2) hr hF hb (fun H hO hS => ?_) fun H e s' z => ?_
  · obtain ⟨s1, e⟩ := hden ns hlen
    refine ⟨rfl, ⟨fun _ => 0, hE⟩, H, [], [some (.fr (scriptD ns))], ⟨Ex.refl H, List.nodup_nil, fun _ h => (nomatch h), fun _ h => (nomatch h), exE _⟩, .cons (A := []) TagOk.fr (.fr (.rol (hTK ▸ hS) (dnL_ints ns))) .nil, ?_⟩
    rw [e]
    intro v G' H' A' B z os ow
    cases ow with
    | fr dn => cases dn; rfl
  · obtain ⟨_, _, _, _, _, _, _, _, _, _, _, _, z⟩ := z
    exact z.elim
end DF
end

section
set_option maxRecDepth 100000
set_option maxHeartbeats 4000000
namespace DF
open PySem PySem.Spec PyProof.Rows L2

/-! ### an owned slot given away -/
def eTake (i : Nat) : M O := fun s => match s[i]? with
  | some (some o) => if isHd o then .no else .ok o (s.set i none)
  | _ => .no
section
variable {T : Tab} {τ : Th} {W : WX} {X : Cx} {σ : L2.St} {a b c e : Expr} {es : List Expr} {f g h : M O} {ga : M (List D)} {x : Str} {p p2 apos pos : Pos}
theorem de_take (i : Nat) (hN : X.N[i]? = some x := by rfl) (hv : Vis X.env.scope x := by first | exact Or.inl rfl | exact Or.inr (Or.inl rfl) | exact Or.inr (Or.inr rfl)) (hd : (x == ("__debug__" : Str)) = false := by decide) (hcd : (x == ("__classdict__" : Str)) = false := by decide) :
    PE X (.Name x pos) (tDE T τ W (eTake i)) := (pe_var (i := i) hN hv hd hcd).weak fun σ H Q ⟨G, A, s, w, os, p⟩ => by
  unfold eTake at p
  cases e : s[i]? with
  | none => rw [e] at p; exact p.elim
  | some u =>
    cases u with
    | none => rw [e] at p; exact p.elim
    | some o =>
      rw [e] at p
      simp only at p
      split at p
      · exact p.elim
      · obtain ⟨v, B, C, hv, _, ow, pm, os2⟩ := os.out e
        exact ⟨v, hv, p v G H C B ((Stp.refl w).perm (pm.trans List.perm_append_comm)) os2 ow⟩
/-! ### rules in short -/
theorem x_add (ha : PE X a (tDE T τ W f)) (hb : PE X b (tDE T τ W g)) (hK : T.K = X.K := by rfl) : PE X (.BinOp a .Add b pos) (tDE T τ W (eBin dAdd f g)) := de_bin op_addA (ov_add hK) ha hb
theorem x_sub (ha : PE X a (tDE T τ W f)) (hb : PE X b (tDE T τ W g)) : PE X (.BinOp a .Sub b pos) (tDE T τ W (eBin dSub f g)) := de_bin op_sub ov_sub ha hb
theorem x_mul (ha : PE X a (tDE T τ W f)) (hb : PE X b (tDE T τ W g)) : PE X (.BinOp a .Mult b pos) (tDE T τ W (eBin dMul f g)) := de_bin op_mulA ov_mul ha hb
theorem x_fdiv (ha : PE X a (tDE T τ W f)) (hb : PE X b (tDE T τ W g)) : PE X (.BinOp a .FloorDiv b pos) (tDE T τ W (eBin dFdiv f g)) := de_bin op_fdiv ov_fdiv ha hb
theorem x_mod (ha : PE X a (tDE T τ W f)) (hb : PE X b (tDE T τ W g)) : PE X (.BinOp a .Mod b pos) (tDE T τ W (eBin dMod f g)) := de_bin op_mod ov_mod ha hb
theorem x_pow (ha : PE X a (tDE T τ W f)) (hb : PE X b (tDE T τ W g)) : PE X (.BinOp a .Pow b pos) (tDE T τ W (eBin dPow f g)) := de_bin op_pow ov_pow ha hb
theorem un_of : UnV T (rU fun i => .int (-i)) dNeg := by
  intro G H v d o Q ex dn e k
  cases dn with
  | int i => cases e; exact ⟨i, rfl, go_same ex (.int _) k⟩
  | _ => cases e
theorem x_neg (ha : PE X a (tDE T τ W f)) : PE X (.UnaryOp .USub a pos) (tDE T τ W (eUn dNeg f)) := de_un un_neg un_of ha
/-- a comparison: as a value, as a test -/
structure Cmp1 (T : Tab) (X : Cx) (cop : CmpOp) (op : D → D → Option O) : Prop where
  ex : ∃ r, OpR X (compareOp cop) r ∧ OpV T r op
theorem c_eq {k : Nat} (hr : Room k X.A) (hK : T.K = X.K := by rfl) : Cmp1 T X .Eq (dEq false) := ⟨⟨_, op_eqD (hu64 hr), ov_eq hK⟩⟩
theorem c_ne {k : Nat} (hr : Room k X.A) (hK : T.K = X.K := by rfl) : Cmp1 T X .NotEq (dEq true) := ⟨⟨_, op_neD (hu64 hr), ov_ne hK⟩⟩
theorem c_lt {k : Nat} (hr : Room k X.A) (hK : T.K = X.K := by rfl) : Cmp1 T X .Lt dLt := ⟨⟨_, op_ltA hr, ov_lt hK⟩⟩
theorem c_le : Cmp1 T X .LtE (dI2 fun i j => decide (i ≤ j)) := ⟨⟨_, op_le, ov_I2 _⟩⟩
theorem c_gt : Cmp1 T X .Gt (dI2 fun i j => decide (j < i)) := ⟨⟨_, op_gt, ov_I2 _⟩⟩
theorem c_ge : Cmp1 T X .GtE (dI2 fun i j => decide (j ≤ i)) := ⟨⟨_, op_ge, ov_I2 _⟩⟩
theorem c_in {k : Nat} (hr : Room k X.A) (hK : T.K = X.K := by rfl) : Cmp1 T X .In (dIn false) := ⟨⟨_, op_inA hr, ov_in false hK⟩⟩
theorem c_nin {k : Nat} (hr : Room k X.A) (hK : T.K = X.K := by rfl) : Cmp1 T X .NotIn (dIn true) := ⟨⟨_, op_ninA hr, ov_in true hK⟩⟩
theorem c_is : Cmp1 T X .Is (dIs false) := ⟨⟨_, op_isN, ov_is⟩⟩
theorem c_isn : Cmp1 T X .IsNot (dIs true) := ⟨⟨_, op_notN, ov_isn⟩⟩
theorem op_isBl : OpR X (compareOp .Is) (fun x y H Q => ∃ a b, x = .bl a ∧ y = .bl b ∧ Q (.bl (a == b)) H) := by
  intro pins s σ H x y v u Q I rx ry h
  obtain ⟨a, b, rfl, rfl, q⟩ := h
  cases rx
  cases ry
  have e : compareOp .Is (.bool a) (.bool b) = (do pure (.bool (Value.bool a == Value.bool b)) : Sem Value) := by
    first | rfl | (unfold compareOp; rfl)
  rw [e]
  exact wpAny_pure ⟨.bl (a == b), H, I, (by cases a <;> cases b <;> rfl), q⟩
theorem c_isB : Cmp1 T X .Is (dIsB false) := ⟨⟨_, op_isBl, ov_isB⟩⟩
theorem x_cmp {cop : CmpOp} {op : D → D → Option O} (hc : Cmp1 T X cop op) (ha : PE X a (tDE T τ W f)) (hb : PE X b (tDE T τ W g)) (hm : behindInMarks cop b = false := by first | exact nomark _ | rfl) : PE X (.Compare a [cop] [b] pos) (tDE T τ W (eBin op f g)) := by
  obtain ⟨r, h1, h2⟩ := hc.ex
  exact de_cmp h1 h2 ha hb hm
theorem y_cmp {cop : CmpOp} {op : D → D → Option O} (hc : Cmp1 T X cop op) (ha : PE X a (tDE T τ W f)) (hb : PE X b (tDE T τ W g)) (hm : behindInMarks cop b = false := by first | exact nomark _ | rfl) : PT X (.Compare a [cop] [b] pos) (tDT T τ W (tE blD (eBin op f g))) := by
  obtain ⟨r, h1, h2⟩ := hc.ex
  exact dt_cmp h1 h2 ha hb hm
theorem x_chain {c1 c2 : CmpOp} {o1 o2 : D → D → Option O} (h1 : Cmp1 T X c1 o1) (h2 : Cmp1 T X c2 o2) (ha : PE X a (tDE T τ W f)) (hb : PE X b (tDE T τ W g)) (hc : PE X c (tDE T τ W h)) (hm : lastMarks [c1, c2] [b, c] = false := by with_unfolding_all rfl) :
    PE X (.Compare a [c1, c2] [b, c] pos) (tDE T τ W (eChain o1 o2 f g h)) := by
  obtain ⟨r, a1, a2⟩ := h1.ex
  obtain ⟨r', b1, b2⟩ := h2.ex
  exact de_chain a1 b1 a2 b2 ha hb hc hm
theorem y_chain {c1 c2 : CmpOp} {o1 o2 : D → D → Option O} (h1 : Cmp1 T X c1 o1) (h2 : Cmp1 T X c2 o2) (ha : PE X a (tDE T τ W f)) (hb : PE X b (tDE T τ W g)) (hc : PE X c (tDE T τ W h)) (hm : lastMarks [c1, c2] [b, c] = false := by with_unfolding_all rfl) :
    PT X (.Compare a [c1, c2] [b, c] pos) (tDT T τ W (tE blD (eChain o1 o2 f g h))) := by
  obtain ⟨r, a1, a2⟩ := h1.ex
  obtain ⟨r', b1, b2⟩ := h2.ex
  exact dt_chain a1 b1 a2 b2 ha hb hc hm
theorem x_ix {k : Nat} (hr : Room k X.A) (ha : PE X a (tDE T τ W f)) (hb : PE X b (tDE T τ W g)) (hK : T.K = X.K := by rfl) (hs : PlainIx b := by intro _ _; rfl) : PE X (.Subscript a b pos) (tDE T τ W (eBin dIx f g)) :=
  (pe_ix (ix_all hr) ha hb hs).weak fun _ _ _ q => tr_bin (ov_ix hK) q
section
variable (ha : PA X (e :: es) (tDA T τ W ga))
variable (he : starEach (e :: es) X.env = (false, eval e X.env) :: starEach es X.env := by rfl) (hpl : (backTo pos (starEach es X.env)).any (·.1) = false := by rfl)
include ha he hpl
theorem x_len (hm : X.mg "len" = none) (hg : Gl X "len" := by rfl) (hK : T.K = X.K := by rfl) : PE X (.Call (.Name "len" p) (e :: es) [] pos) (tDE T τ W (eCB oLen ga)) := de_callB call_len_seq (cv_len hK) hg hm boot_len ha (by decide) (by decide) he hpl
theorem x_int (hm : X.mg "int" = none) (hg : Gl X "int" := by rfl) : PE X (.Call (.Name "int" p) (e :: es) [] pos) (tDE T τ W (eCB oInt ga)) := de_callTy call_int1 cv_int hg hm PyProof.Rows.Boot.«int» ha (by decide) (by decide) he hpl
theorem x_tuple (hm : X.mg "tuple" = none) (hg : Gl X "tuple" := by rfl) (hK : T.K = X.K := by rfl) : PE X (.Call (.Name "tuple" p) (e :: es) [] pos) (tDE T τ W (eCB oTuple ga)) := de_callTy call_tuple_of (cv_tuple hK) hg hm PyProof.Rows.Boot.«tuple» ha (by decide) (by decide) he hpl
theorem x_list (hm : X.mg "list" = none) (hg : Gl X "list" := by rfl) (hK : T.K = X.K := by rfl) : PE X (.Call (.Name "list" p) (e :: es) [] pos) (tDE T τ W (eCB oList ga)) := de_callTy call_list_of (cv_list hK) hg hm PyProof.Rows.Boot.«list» ha (by decide) (by decide) he hpl
theorem x_max (hm : X.mg "max" = none) (hc : X.calm = true := by rfl) (hg : Gl X "max" := by rfl) : PE X (.Call (.Name "max" p) (e :: es) [] pos) (tDE T τ W (eCB oMax2 ga)) := de_callB (call_max2 hc) cv_max2 hg hm PyProof.Rows.Boot.«max» ha (by decide) (by decide) he hpl
theorem x_min (hm : X.mg "min" = none) (hc : X.calm = true := by rfl) (hg : Gl X "min" := by rfl) : PE X (.Call (.Name "min" p) (e :: es) [] pos) (tDE T τ W (eCB oMin2 ga)) := de_callB (call_min2 hc) cv_min2 hg hm PyProof.Rows.Boot.«min» ha (by decide) (by decide) he hpl
theorem x_sorted (hm : X.mg "sorted" = none) (hg : Gl X "sorted" := by rfl) (hK : T.K = X.K := by rfl) : PE X (.Call (.Name "sorted" p) (e :: es) [] pos) (tDE T τ W (eCB oSorted ga)) := de_callB cr_srtA (cv_sorted hK) hg hm PyProof.Rows.Boot.«sorted» ha (by decide) (by decide) he hpl
theorem x_repr {k : Nat} (hr : Room k X.A) (hgd : X.A.guards = some []) (hm : X.mg "repr" = none) (hg : Gl X "repr" := by rfl) (hK : T.K = X.K := by rfl) : PE X (.Call (.Name "repr" p) (e :: es) [] pos) (tDE T τ W (eCB oRepr ga)) := de_callB (call_reprA hr hgd) (cv_repr hK) hg hm PyProof.Rows.Boot.«repr» ha (by decide) (by decide) he hpl
theorem x_all (hm : X.mg "all" = none) (hc : X.calm = true := by rfl) (hg : Gl X "all" := by rfl) (hK : T.K = X.K := by rfl) : PE X (.Call (.Name "all" p) (e :: es) [] pos) (tDE T τ W (eCB oAll ga)) := de_callB (cr_all hc) (cv_all hK) hg hm PyProof.Rows.Boot.«all» ha (by decide) (by decide) he hpl
theorem x_any (hm : X.mg "any" = none) (hc : X.calm = true := by rfl) (hg : Gl X "any" := by rfl) (hK : T.K = X.K := by rfl) : PE X (.Call (.Name "any" p) (e :: es) [] pos) (tDE T τ W (eCB oAny ga)) := de_callB (cr_any hc) (cv_any hK) hg hm PyProof.Rows.Boot.«any» ha (by decide) (by decide) he hpl
end
section
variable (j : Nat) (hN : X.N[j]? = some x := by rfl) (hv : Vis X.env.scope x := by first | exact Or.inl rfl | exact Or.inr (Or.inl rfl) | exact Or.inr (Or.inr rfl)) (hd : (x == ("__debug__" : Str)) = false := by decide) (hcd : (x == ("__classdict__" : Str)) = false := by decide)
include hN hv hd hcd
theorem x_append (ha : PA X [e] (tDA T τ W ga)) (hbase : attributeBase (.Name x p) "append" X.env (eval (.Name x p) X.env) = eval (.Name x p) X.env := by rfl)
    (hfew : ((backTo pos (starEach [e] X.env)).all (fun x => !x.1) && (backToKw pos (keywordEach [] X.env)).all (fun x => x.1.isSome) && decide (([e] : List Expr).length + ([] : List Keyword).length + (if ([] : List Keyword).isEmpty then 0 else 1) < 30)) = true := by rfl)
    (hline : (apos.endLine == pos.line) = true := by rfl) (hs : starEach [e] X.env = (false, eval e X.env) :: starEach [] X.env := by rfl) : PE X (.Call (.Attribute (.Name x p) "append" apos) [e] [] pos) (tDE T τ W (eMut j mAppend ga)) :=
  de_mut mv_append tg_append (pe_bm PySem.F.plainAttrs_list PySem.F.slot_list_append PySem.F.type_list_append mt_append (pe_var (i := j) hN hv hd hcd) ha hbase hfew hline hs rfl)
theorem x_pop (hbase : attributeBase (.Name x p) "pop" X.env (eval (.Name x p) X.env) = eval (.Name x p) X.env := by rfl) (hline : (apos.endLine == pos.line) = true := by rfl) : PE X (.Call (.Attribute (.Name x p) "pop" apos) [] [] pos) (tDE T τ W (eMut j mPop aNil)) :=
  de_mut0 mv_pop tg_pop (pe_bm0 PySem.F.plainAttrs_list PySem.F.slot_list_pop PySem.F.type_list_pop mt_pop (pe_var (i := j) hN hv hd hcd) hbase hline)
theorem x_reverse (hbase : attributeBase (.Name x p) "reverse" X.env (eval (.Name x p) X.env) = eval (.Name x p) X.env := by rfl) (hline : (apos.endLine == pos.line) = true := by rfl) : PE X (.Call (.Attribute (.Name x p) "reverse" apos) [] [] pos) (tDE T τ W (eMut j mReverse aNil)) :=
  de_mut0 mv_reverse tg_reverse (pe_bm0 PySem.F.plainAttrs_list PySem.F.slot_list_reverse PySem.F.type_list_reverse mt_reverse (pe_var (i := j) hN hv hd hcd) hbase hline)
end
end
end DF
end

section
set_option maxRecDepth 100000
set_option maxHeartbeats 4000000
namespace DF
open PySem PySem.Spec PyProof.Rows L2

/-! ### the table of a program: class names, field names -/
theorem fldS_inj {fs : List Str} (hn : fs.Nodup) (hl : fs.all (fun x => decide (x.cps.size < 1000)) = true) (m n : Nat) (h : fldS fs m = fldS fs n) : m = n := by
  have small : ∀ {i : Nat} {x : Str}, fs[i]? = some x → x.cps.size < 1000 := fun e => of_decide_eq_true (List.all_eq_true.mp hl _ (List.mem_of_getElem? e))
  have sz : ∀ k : Nat, (⟨(List.replicate (k + 1000) 0).toArray⟩ : Str).cps.size = k + 1000 := fun k => by simp
  unfold fldS at h
  cases e1 : fs[m]? with
  | some x =>
    cases e2 : fs[n]? with
    | some y =>
      rw [e1, e2] at h
      have h : x = y := h
      subst h
      exact nodup_ix hn e1 e2
    | none =>
      rw [e1, e2] at h
      have h : x = _ := h
      have := small e1
      rw [h, sz] at this
      omega
  | none =>
    cases e2 : fs[n]? with
    | some y =>
      rw [e1, e2] at h
      have h : _ = y := h
      have := small e2
      rw [← h, sz] at this
      omega
    | none =>
      rw [e1, e2] at h
      have h : (⟨(List.replicate (m + 1000) 0).toArray⟩ : Str) = ⟨(List.replicate (n + 1000) 0).toArray⟩ := h
      have h2 := congrArg (fun x : Str => x.cps.size) h
      simp only [sz] at h2
      omega
def tabOf (K : PySem.W.Frag) (mg : Str → Option Value) (cs fs : List Str) (hn : fs.Nodup) (hl : fs.all (fun x => decide (x.cps.size < 1000)) = true) : Tab where
  K := K
  mg := mg
  cls := fun c => He.ga K (cs.getD c Str.empty)
  fld := fldS fs
  inj := fldS_inj hn hl

/-! ### the exception classes' facts, as one Bool -/
section
variable {K : PySem.W.Frag} {mg : Str → Option Value} {cs fs : List Str} {hn : fs.Nodup} {hl : fs.all (fun x => decide (x.cps.size < 1000)) = true} {rs : List ExRow} {tb : List (Nat × List Nat)} {ks : List Nat}
def okX (rs : List ExRow) (c : Nat) : Bool := rs.any fun r => r.c == c
def flX (rs : List ExRow) (c : Nat) : List Nat := match rs.find? fun r => r.c == c with
  | some r => r.fl
  | none => []
def subX (tb : List (Nat × List Nat)) (ks : List Nat) (c k : Nat) : Option Bool := match tb.find? fun r => r.1 == c with
  | some r => if ks.contains k then some (r.2.contains k) else none
  | none => none
theorem rowX (h : rs.all (exRowB K cs fs) = true) {c : Nat} {r : ExRow} (e : rs.find? (fun r => r.c == c) = some r) : exRowB K cs fs r = true ∧ r.c = c := by
  have := List.find?_some e
  exact ⟨List.all_eq_true.mp h r (List.mem_of_find?_eq_some e), beq_iff_eq.mp this⟩
def xtOf (h : exB cs fs rs tb ks K = true) : XT (tabOf K mg cs fs hn hl) K where
  ok := okX rs
  fl := flX rs
  sub := subX tb ks
  subB := fun c k => if k = 6 then some true else none
  hf := fun c hc => by
    obtain ⟨r, hr, e⟩ := List.any_eq_true.mp hc
    have hb := List.all_eq_true.mp (Bool.and_eq_true_iff.mp h).1 r hr
    have := exfB_ok (Bool.and_eq_true_iff.mp hb).1
    rw [beq_iff_eq.mp e] at this
    exact this
  hfl := fun c n hc hcn => by
    unfold flX at hcn
    cases e : rs.find? fun r => r.c == c with
    | none => rw [e] at hcn; cases hcn
    | some r =>
      rw [e] at hcn
      obtain ⟨hb, e2⟩ := rowX (Bool.and_eq_true_iff.mp h).1 e
      have h2 := (Bool.and_eq_true_iff.mp (Bool.and_eq_true_iff.mp hb).2).1
      have := of_decide_eq_true (List.all_eq_true.mp h2 n (List.contains_iff_mem.mp hcn))
      rw [e2] at this
      exact this
  hsub := fun c k b _ hs => by
    unfold subX at hs
    cases e : tb.find? fun r => r.1 == c with
    | none => rw [e] at hs; cases hs
    | some r =>
      rw [e] at hs
      simp only at hs
      split at hs
      · rename_i hk
        cases hs
        have h1 := (Bool.and_eq_true_iff.mp (Bool.and_eq_true_iff.mp h).2).1
        have h2 := List.all_eq_true.mp h1 r (List.mem_of_find?_eq_some e)
        have h3 := of_decide_eq_true (List.all_eq_true.mp h2 k (List.contains_iff_mem.mp hk))
        have e2 : r.1 = c := beq_iff_eq.mp (List.find?_some (p := fun r : Nat × List Nat => r.1 == c) e)
        rw [e2] at h3
        exact h3
      · cases hs
  hsubB := fun c k b hc hs => by
    split at hs
    · rename_i hk
      subst hk
      cases hs
      obtain ⟨r, hr, e⟩ := List.any_eq_true.mp hc
      have h1 := (Bool.and_eq_true_iff.mp (Bool.and_eq_true_iff.mp (Bool.and_eq_true_iff.mp h).2).2).1
      have h2 := of_decide_eq_true (List.all_eq_true.mp h1 r hr)
      rw [beq_iff_eq.mp e] at h2
      exact h2
    · cases hs
theorem sub_of (h : exB cs fs rs tb ks K = true) {c k : Nat} {b : Bool} (hs : subX tb ks c k = some b) : PySem.W.kitOne K (.ref (He.ga K (cs.getD c Str.empty))) (.ref (He.ga K (cs.getD k Str.empty))) = some b ∧ ks.contains k = true := by
  unfold subX at hs
  cases e : tb.find? fun r => r.1 == c with
  | none => rw [e] at hs; cases hs
  | some r =>
    rw [e] at hs
    simp only at hs
    split at hs
    · rename_i hk
      cases hs
      have h1 := (Bool.and_eq_true_iff.mp (Bool.and_eq_true_iff.mp h).2).1
      have h2 := List.all_eq_true.mp h1 r (List.mem_of_find?_eq_some e)
      have h3 := of_decide_eq_true (List.all_eq_true.mp h2 k (List.contains_iff_mem.mp hk))
      have e2 : r.1 = c := beq_iff_eq.mp (List.find?_some (p := fun r : Nat × List Nat => r.1 == c) e)
      rw [e2] at h3
      exact ⟨h3, hk⟩
    · cases hs
theorem exm_of (h : exB cs fs rs tb ks K = true) {c k : Nat} {b : Bool} (hs : subX tb ks c k = some b) : PySem.W.exmOne K (.ref (He.ga K (cs.getD c Str.empty))) (.ref (He.ga K (cs.getD k Str.empty))) = some b := by
  obtain ⟨h1, hk⟩ := sub_of h hs
  have h4 := (Bool.and_eq_true_iff.mp (Bool.and_eq_true_iff.mp (Bool.and_eq_true_iff.mp h).2).2).2
  have h5 := of_decide_eq_true (List.all_eq_true.mp h4 k (List.contains_iff_mem.mp hk))
  unfold PySem.W.kitOne at h1
  unfold PySem.W.exmOne at h5 ⊢
  split at h5
  · rename_i h6
    rw [if_pos h6]
    split at h1
    · rename_i h7
      rw [beq_iff_eq.mp h7]
      cases h1
      exact h5
    · exact h1
  · cases h5
/-- what a class with an __init__ of its own gives to raise, to make -/
theorem iniX (h : exB cs fs rs tb ks K = true) {c : Nat} {r : ExRow} (e : rs.find? (fun r => r.c == c) = some r) (hi : r.ini = true) :
    OexC K (He.ga K (cs.getD c Str.empty)) ∧ PySem.W.findIn K (.ref (He.ga K (cs.getD c Str.empty))) "__init__" = some (some (.ref (He.ma K (He.ga K (cs.getD c Str.empty)) "__init__"))) ∧
      PySem.W.typeIn K (.ref (He.ma K (He.ga K (cs.getD c Str.empty)) "__init__")) = some (.type "function") ∧ ∀ f ∈ r.fl.map (fldS fs), PySem.W.findIn K (.ref (He.ga K (cs.getD c Str.empty))) f = some none := by
  obtain ⟨hb, e2⟩ := rowX (Bool.and_eq_true_iff.mp h).1 e
  have h2 := (Bool.and_eq_true_iff.mp (Bool.and_eq_true_iff.mp hb).2)
  have h3 := h2.2
  rw [hi, if_pos rfl] at h3
  obtain ⟨h4, h5⟩ := Bool.and_eq_true_iff.mp h3
  obtain ⟨h6, h7⟩ := Bool.and_eq_true_iff.mp h5
  rw [e2] at h4 h6 h7
  refine ⟨oexB_ok h4, of_decide_eq_true h6, of_decide_eq_true h7, fun f hf => ?_⟩
  obtain ⟨n, hn, rfl⟩ := List.mem_map.mp hf
  have := of_decide_eq_true (List.all_eq_true.mp h2.1 n hn)
  rw [e2] at this
  exact this
theorem iniX0 (h : exB cs fs rs tb ks K = true) {c : Nat} {r : ExRow} (e : rs.find? (fun r => r.c == c) = some r) (hi : r.ini = false) :
    PySem.W.excIn K (He.ga K (cs.getD c Str.empty)) He.veBase "ValueError.__new__" = true ∧ PySem.W.keepIn K (.ref (He.ga K (cs.getD c Str.empty))) = true := by
  obtain ⟨hb, e2⟩ := rowX (Bool.and_eq_true_iff.mp h).1 e
  have h2 := (Bool.and_eq_true_iff.mp (Bool.and_eq_true_iff.mp hb).2)
  have h3 := h2.2
  rw [hi, if_neg Bool.false_ne_true] at h3
  rw [e2] at h3
  exact Bool.and_eq_true_iff.mp h3
end

/-! ### a class of exceptions with __init__, ready to be raised, made -/
structure Cx1 (T : Tab) (P : Program) (w : World) (K : PySem.W.Frag) (mg : Str → Option Value) (base : Heap) (x : Str) (c : Nat) (fs : List Nat) : Prop where
  ok : ∃ (fI : Addr) (fd : FuncData) (ps : List Str), OexC K (T.cls c) ∧ PySem.W.findIn K (.ref (T.cls c)) "__init__" = some (some (.ref fI)) ∧ PySem.W.typeIn K (.ref fI) = some (.type "function") ∧ FnOk P w K mg base (L2.CX P w) 1 fI fd ps (spI K (fs.map T.fld)) ∧ Binds K fd ps [] ∧
    (∀ f ∈ fs.map T.fld, PySem.W.findIn K (.ref (T.cls c)) f = some none) ∧ mg x = some (.ref (T.cls c))
section
variable {T : Tab} {τ : Th} {W : WX} {X : Cx} {e : Expr} {es : List Expr} {g : M (List D)} {p pos pos' : Pos} {x : Str} {c : Nat} {fs : List Nat}
theorem x_raise (C : Cx1 T X.prog X.w X.K X.mg X.base x c fs) (tk : Takes X W) (hr : Room 2 X.A) (ha : PA X (e :: es) (tDA T τ W g)) (hcm : X.calm = true := by rfl) (nd : fs.Nodup := by decide) (hg : Gl X x := by rfl)
    (hdb : (x == ("__debug__" : Str)) = false := by decide) (he : starEach (e :: es) X.env = (false, eval e X.env) :: starEach es X.env := by rfl) (hpl : (backTo pos (starEach es X.env)).any (·.1) = false := by rfl) :
    PS X (.Raise (some (.Call (.Name x p) (e :: es) [] pos)) none pos') (tDS T τ W (sRaise c fs g)) := by
  obtain ⟨fI, fd, ps, h1, h2, h3, h4, h5, h6, h7⟩ := C.ok
  exact ds_raise hcm tk h1 h2 h3 h4 hr h5 h6 nd hg h7 ha hdb he hpl
theorem x_mk (C : Cx1 T X.prog X.w X.K X.mg X.base x c fs) (hr : Room 2 X.A) (ha : PA X (e :: es) (tDA T τ W g)) (hg : Gl X x := by rfl)
    (hdb : (x == ("__debug__" : Str)) = false := by decide) (he : starEach (e :: es) X.env = (false, eval e X.env) :: starEach es X.env := by rfl) (hpl : (backTo pos (starEach es X.env)).any (·.1) = false := by rfl) :
    PE X (.Call (.Name x p) (e :: es) [] pos) (tDE T τ W (eMk c fs g)) := by
  obtain ⟨fI, fd, ps, h1, h2, h3, h4, h5, h6, h7⟩ := C.ok
  exact de_mk h1 h2 h3 h4 hr h5 h6 hg h7 ha hdb he hpl
end
end DF
end

section
set_option maxRecDepth 100000
set_option maxHeartbeats 4000000
namespace DF
open PySem PySem.Spec PyProof.Rows L2

/-! ### an owned slot frozen as it is read -/
def eRd (i : Nat) : M O := fun s => match s[i]? with
  | some (some (.fr d)) => .ok (.fr d) s
  | some (some o) => if isHd o then .no else .ok (.fr (fz o)) (s.set i (some (.fr (fz o))))
  | _ => .no
section
variable {T : Tab} {τ : Th} {W : WX} {X : Cx} {σ : L2.St} {x : Str} {pos : Pos}
theorem de_rd (i : Nat) (hN : X.N[i]? = some x := by rfl) (hv : Vis X.env.scope x := by first | exact Or.inl rfl | exact Or.inr (Or.inl rfl) | exact Or.inr (Or.inr rfl)) (hd : (x == ("__debug__" : Str)) = false := by decide) (hcd : (x == ("__classdict__" : Str)) = false := by decide) :
    PE X (.Name x pos) (tDE T τ W (eRd i)) := (pe_var (i := i) hN hv hd hcd).weak fun σ H Q ⟨G, A, s, w, os, p⟩ => by
  unfold eRd at p
  cases e : s[i]? with
  | none => rw [e] at p; exact p.elim
  | some u =>
    cases u with
    | none => rw [e] at p; exact p.elim
    | some o =>
      rw [e] at p
      obtain ⟨v, B, C, hv, tk, ow, pm, os2⟩ := os.out e
      have gen : PostE T τ W σ G H A Q (.ok (.fr (fz o)) (s.set i (some (.fr (fz o))))) → Q v H := fun p => by
        have w2 := w.perm (pm.trans List.perm_append_comm)
        have fx := frz_ex (G := G) (H := H) (B := B) fun a h => w2.ng a (List.mem_append_right _ h)
        have st := frz_step w2
        have dn := ow.freeze fx fun a ha o q => by rw [frz_in ha]; exact q
        obtain ⟨A3, D3, os3, p3⟩ := (os2.frame (T := T) (τ := τ) fx fun _ _ => rfl).fill hv (o := .fr (fz o)) TagOk.fr (.fr dn)
        rw [List.set_set] at os3
        rw [List.nil_append] at p3
        have st1 : Stp τ.gb G H A _ H C := ⟨st.wf, st.gg, fun a u e n => st.fr a u e fun h => n (pm.mem_iff.mpr (List.mem_append.mpr ((List.mem_append.mp h).symm))), fun a u e n => (st.gn a u e n).imp (fun h => pm.mem_iff.mpr (List.mem_append.mpr ((List.mem_append.mp h).symm))) id, fun a h => (st.na a h).imp (fun h => pm.mem_iff.mpr (List.mem_append.mpr ((List.mem_append.mp h).symm))) id⟩
        exact p v _ H A3 [] (by rw [List.append_nil]; exact st1.sub p3) os3 (.fr dn)
      refine ⟨v, hv, ?_⟩
      cases o with
      | fr d =>
        cases ow with
        | fr dn => exact p v G H A [] (by rw [List.append_nil]; exact Stp.refl w) os (.fr dn)
      | hd t => exact p.elim
      | lst t os => exact gen p
      | dk t ks ds => exact gen p
      | dt t ks ds => exact gen p
      | ins t c fs ds => exact gen p
end
end DF
end

section
set_option maxRecDepth 100000
set_option maxHeartbeats 0
namespace Gk99
open PySem PySem.Spec PyProof.Rows L2 DF


structure Hy (K : PySem.W.Frag) (mg : Str → Option Value) : Prop where
  s : SaysB fa fn bx K
  g : ∃ h : Heap, K.In h ∧ h.Ns mainGlobals mg
section
variable {K : PySem.W.Frag} {mg : Str → Option Value} {w : World} {base : Heap}
theorem Hy.fr (h : Hy K mg) (i : Nat) {x : Str} (e : fa[i]? = some (.free x) := by rfl) : mg x = none := by
  obtain ⟨hp, X, G⟩ := h.g
  exact He.free_ok X G (h.s.d.fact i e)
theorem Hy.gl (h : Hy K mg) (i : Nat) {x : Str} (e : fa[i]? = some (.glo x) := by rfl) : mg x = some (.ref (He.ga K x)) := by
  obtain ⟨hp, X, G⟩ := h.g
  exact He.glo_ok X G (h.s.d.fact i e)
abbrev Tb (K : PySem.W.Frag) (mg : Str → Option Value) : Tab := tabOf K mg cs fs fs_nd fs_sm
abbrev XTn (h : Hy K mg) : XT (Tb K mg) K := xtOf h.s.b
theorem Hy.ini0 (h : Hy K mg) (c : Nat) {r : ExRow} (e : rs.find? (fun r => r.c == c) = some r := by rfl) (hi : r.ini = false := by rfl) :
    PySem.W.excIn K (He.ga K (cs.getD c Str.empty)) He.veBase "ValueError.__new__" = true ∧ PySem.W.keepIn K (.ref (He.ga K (cs.getD c Str.empty))) = true := iniX0 h.s.b e hi

theorem cx_BadNumber (h : Hy K mg) : Cx1 (Tb K mg) P w K mg base "BadNumber" 1 [0] := by
  obtain ⟨fd, F⟩ := h.s.d.def_ 30 (d := D_BadNumber) rfl
  obtain ⟨a1, a2, a3, a4⟩ := iniX h.s.b (c := 1) (r := ⟨1, [0], true⟩) rfl rfl
  exact ⟨_, fd, ["self", "name"], a1, a2, a3, init_ok (N := ["self", "name"]) (flds := ["name"]) F ⟨rfl, rfl, rfl, by decide +kernel, rfl, by decide +kernel, by decide +kernel⟩ rfl rfl ⟨by decide, by decide⟩ (fun cdv A outer s H E => (pss_cons (ps_ost (pv 0) (pv 1)) pss_nil)), F.bindsN (fun _ _ _ _ _ _ us hl => match us, hl with | [_, _], _ => rfl), a4, h.gl 31⟩
theorem cx_BadThing (h : Hy K mg) : Cx1 (Tb K mg) P w K mg base "BadThing" 2 [0] := by
  obtain ⟨fd, F⟩ := h.s.d.def_ 31 (d := D_BadThing) rfl
  obtain ⟨a1, a2, a3, a4⟩ := iniX h.s.b (c := 2) (r := ⟨2, [0], true⟩) rfl rfl
  exact ⟨_, fd, ["self", "name"], a1, a2, a3, init_ok (N := ["self", "name"]) (flds := ["name"]) F ⟨rfl, rfl, rfl, by decide +kernel, rfl, by decide +kernel, by decide +kernel⟩ rfl rfl ⟨by decide, by decide⟩ (fun cdv A outer s H E => (pss_cons (ps_ost (pv 0) (pv 1)) pss_nil)), F.bindsN (fun _ _ _ _ _ _ us hl => match us, hl with | [_, _], _ => rfl), a4, h.gl 32⟩
theorem cx_BadPair (h : Hy K mg) : Cx1 (Tb K mg) P w K mg base "BadPair" 3 [1] := by
  obtain ⟨fd, F⟩ := h.s.d.def_ 32 (d := D_BadPair) rfl
  obtain ⟨a1, a2, a3, a4⟩ := iniX h.s.b (c := 3) (r := ⟨3, [1], true⟩) rfl rfl
  exact ⟨_, fd, ["self", "place"], a1, a2, a3, init_ok (N := ["self", "place"]) (flds := ["place"]) F ⟨rfl, rfl, rfl, by decide +kernel, rfl, by decide +kernel, by decide +kernel⟩ rfl rfl ⟨by decide, by decide⟩ (fun cdv A outer s H E => (pss_cons (ps_ost (pv 0) (pv 1)) pss_nil)), F.bindsN (fun _ _ _ _ _ _ us hl => match us, hl with | [_, _], _ => rfl), a4, h.gl 33⟩
theorem cx_BadLot (h : Hy K mg) : Cx1 (Tb K mg) P w K mg base "BadLot" 4 [1] := by
  obtain ⟨fd, F⟩ := h.s.d.def_ 33 (d := D_BadLot) rfl
  obtain ⟨a1, a2, a3, a4⟩ := iniX h.s.b (c := 4) (r := ⟨4, [1], true⟩) rfl rfl
  exact ⟨_, fd, ["self", "place"], a1, a2, a3, init_ok (N := ["self", "place"]) (flds := ["place"]) F ⟨rfl, rfl, rfl, by decide +kernel, rfl, by decide +kernel, by decide +kernel⟩ rfl rfl ⟨by decide, by decide⟩ (fun cdv A outer s H E => (pss_cons (ps_ost (pv 0) (pv 1)) pss_nil)), F.bindsN (fun _ _ _ _ _ _ us hl => match us, hl with | [_, _], _ => rfl), a4, h.gl 34⟩
theorem cx_BadRow (h : Hy K mg) : Cx1 (Tb K mg) P w K mg base "BadRow" 5 [1] := by
  obtain ⟨fd, F⟩ := h.s.d.def_ 34 (d := D_BadRow) rfl
  obtain ⟨a1, a2, a3, a4⟩ := iniX h.s.b (c := 5) (r := ⟨5, [1], true⟩) rfl rfl
  exact ⟨_, fd, ["self", "place"], a1, a2, a3, init_ok (N := ["self", "place"]) (flds := ["place"]) F ⟨rfl, rfl, rfl, by decide +kernel, rfl, by decide +kernel, by decide +kernel⟩ rfl rfl ⟨by decide, by decide⟩ (fun cdv A outer s H E => (pss_cons (ps_ost (pv 0) (pv 1)) pss_nil)), F.bindsN (fun _ _ _ _ _ _ us hl => match us, hl with | [_, _], _ => rfl), a4, h.gl 35⟩
theorem cx_BadText (h : Hy K mg) : Cx1 (Tb K mg) P w K mg base "BadText" 6 [2] := by
  obtain ⟨fd, F⟩ := h.s.d.def_ 35 (d := D_BadText) rfl
  obtain ⟨a1, a2, a3, a4⟩ := iniX h.s.b (c := 6) (r := ⟨6, [2], true⟩) rfl rfl
  exact ⟨_, fd, ["self", "line"], a1, a2, a3, init_ok (N := ["self", "line"]) (flds := ["line"]) F ⟨rfl, rfl, rfl, by decide +kernel, rfl, by decide +kernel, by decide +kernel⟩ rfl rfl ⟨by decide, by decide⟩ (fun cdv A outer s H E => (pss_cons (ps_ost (pv 0) (pv 1)) pss_nil)), F.bindsN (fun _ _ _ _ _ _ us hl => match us, hl with | [_, _], _ => rfl), a4, h.gl 36⟩
theorem cx_BadWays (h : Hy K mg) : Cx1 (Tb K mg) P w K mg base "BadWays" 7 [1] := by
  obtain ⟨fd, F⟩ := h.s.d.def_ 36 (d := D_BadWays) rfl
  obtain ⟨a1, a2, a3, a4⟩ := iniX h.s.b (c := 7) (r := ⟨7, [1], true⟩) rfl rfl
  exact ⟨_, fd, ["self", "place"], a1, a2, a3, init_ok (N := ["self", "place"]) (flds := ["place"]) F ⟨rfl, rfl, rfl, by decide +kernel, rfl, by decide +kernel, by decide +kernel⟩ rfl rfl ⟨by decide, by decide⟩ (fun cdv A outer s H E => (pss_cons (ps_ost (pv 0) (pv 1)) pss_nil)), F.bindsN (fun _ _ _ _ _ _ us hl => match us, hl with | [_, _], _ => rfl), a4, h.gl 37⟩
theorem cx_BadSizes (h : Hy K mg) : Cx1 (Tb K mg) P w K mg base "BadSizes" 8 [1] := by
  obtain ⟨fd, F⟩ := h.s.d.def_ 37 (d := D_BadSizes) rfl
  obtain ⟨a1, a2, a3, a4⟩ := iniX h.s.b (c := 8) (r := ⟨8, [1], true⟩) rfl rfl
  exact ⟨_, fd, ["self", "place"], a1, a2, a3, init_ok (N := ["self", "place"]) (flds := ["place"]) F ⟨rfl, rfl, rfl, by decide +kernel, rfl, by decide +kernel, by decide +kernel⟩ rfl rfl ⟨by decide, by decide⟩ (fun cdv A outer s H E => (pss_cons (ps_ost (pv 0) (pv 1)) pss_nil)), F.bindsN (fun _ _ _ _ _ _ us hl => match us, hl with | [_, _], _ => rfl), a4, h.gl 38⟩
theorem cx_BadLevels (h : Hy K mg) : Cx1 (Tb K mg) P w K mg base "BadLevels" 9 [1] := by
  obtain ⟨fd, F⟩ := h.s.d.def_ 38 (d := D_BadLevels) rfl
  obtain ⟨a1, a2, a3, a4⟩ := iniX h.s.b (c := 9) (r := ⟨9, [1], true⟩) rfl rfl
  exact ⟨_, fd, ["self", "place"], a1, a2, a3, init_ok (N := ["self", "place"]) (flds := ["place"]) F ⟨rfl, rfl, rfl, by decide +kernel, rfl, by decide +kernel, by decide +kernel⟩ rfl rfl ⟨by decide, by decide⟩ (fun cdv A outer s H E => (pss_cons (ps_ost (pv 0) (pv 1)) pss_nil)), F.bindsN (fun _ _ _ _ _ _ us hl => match us, hl with | [_, _], _ => rfl), a4, h.gl 39⟩
theorem cx_BadSpan (h : Hy K mg) : Cx1 (Tb K mg) P w K mg base "BadSpan" 10 [1] := by
  obtain ⟨fd, F⟩ := h.s.d.def_ 39 (d := D_BadSpan) rfl
  obtain ⟨a1, a2, a3, a4⟩ := iniX h.s.b (c := 10) (r := ⟨10, [1], true⟩) rfl rfl
  exact ⟨_, fd, ["self", "place"], a1, a2, a3, init_ok (N := ["self", "place"]) (flds := ["place"]) F ⟨rfl, rfl, rfl, by decide +kernel, rfl, by decide +kernel, by decide +kernel⟩ rfl rfl ⟨by decide, by decide⟩ (fun cdv A outer s H E => (pss_cons (ps_ost (pv 0) (pv 1)) pss_nil)), F.bindsN (fun _ _ _ _ _ _ us hl => match us, hl with | [_, _], _ => rfl), a4, h.gl 40⟩
theorem cx_BadCrowds (h : Hy K mg) : Cx1 (Tb K mg) P w K mg base "BadCrowds" 11 [1] := by
  obtain ⟨fd, F⟩ := h.s.d.def_ 40 (d := D_BadCrowds) rfl
  obtain ⟨a1, a2, a3, a4⟩ := iniX h.s.b (c := 11) (r := ⟨11, [1], true⟩) rfl rfl
  exact ⟨_, fd, ["self", "place"], a1, a2, a3, init_ok (N := ["self", "place"]) (flds := ["place"]) F ⟨rfl, rfl, rfl, by decide +kernel, rfl, by decide +kernel, by decide +kernel⟩ rfl rfl ⟨by decide, by decide⟩ (fun cdv A outer s H E => (pss_cons (ps_ost (pv 0) (pv 1)) pss_nil)), F.bindsN (fun _ _ _ _ _ _ us hl => match us, hl with | [_, _], _ => rfl), a4, h.gl 41⟩
theorem cx_BadDeed (h : Hy K mg) : Cx1 (Tb K mg) P w K mg base "BadDeed" 12 [1] := by
  obtain ⟨fd, F⟩ := h.s.d.def_ 41 (d := D_BadDeed) rfl
  obtain ⟨a1, a2, a3, a4⟩ := iniX h.s.b (c := 12) (r := ⟨12, [1], true⟩) rfl rfl
  exact ⟨_, fd, ["self", "place"], a1, a2, a3, init_ok (N := ["self", "place"]) (flds := ["place"]) F ⟨rfl, rfl, rfl, by decide +kernel, rfl, by decide +kernel, by decide +kernel⟩ rfl rfl ⟨by decide, by decide⟩ (fun cdv A outer s H E => (pss_cons (ps_ost (pv 0) (pv 1)) pss_nil)), F.bindsN (fun _ _ _ _ _ _ us hl => match us, hl with | [_, _], _ => rfl), a4, h.gl 42⟩
theorem cx_NotInLine (h : Hy K mg) : Cx1 (Tb K mg) P w K mg base "NotInLine" 16 [3, 4] := by
  obtain ⟨fd, F⟩ := h.s.d.def_ 42 (d := D_NotInLine) rfl
  obtain ⟨a1, a2, a3, a4⟩ := iniX h.s.b (c := 16) (r := ⟨16, [3, 4], true⟩) rfl rfl
  exact ⟨_, fd, ["self", "first", "second"], a1, a2, a3, init_ok (N := ["self", "first", "second"]) (flds := ["first", "second"]) F ⟨rfl, rfl, rfl, by decide +kernel, rfl, by decide +kernel, by decide +kernel⟩ rfl rfl ⟨by decide, by decide⟩ (fun cdv A outer s H E => (pss_cons (ps_ost (pv 0) (pv 1)) (pss_cons (ps_ost (pv 0) (pv 2)) pss_nil))), F.bindsN (fun _ _ _ _ _ _ us hl => match us, hl with | [_, _, _], _ => rfl), a4, h.gl 46⟩
theorem cx_NotDrawing (h : Hy K mg) : Cx1 (Tb K mg) P w K mg base "NotDrawing" 17 [3, 4] := by
  obtain ⟨fd, F⟩ := h.s.d.def_ 43 (d := D_NotDrawing) rfl
  obtain ⟨a1, a2, a3, a4⟩ := iniX h.s.b (c := 17) (r := ⟨17, [3, 4], true⟩) rfl rfl
  exact ⟨_, fd, ["self", "first", "second"], a1, a2, a3, init_ok (N := ["self", "first", "second"]) (flds := ["first", "second"]) F ⟨rfl, rfl, rfl, by decide +kernel, rfl, by decide +kernel, by decide +kernel⟩ rfl rfl ⟨by decide, by decide⟩ (fun cdv A outer s H E => (pss_cons (ps_ost (pv 0) (pv 1)) (pss_cons (ps_ost (pv 0) (pv 2)) pss_nil))), F.bindsN (fun _ _ _ _ _ _ us hl => match us, hl with | [_, _, _], _ => rfl), a4, h.gl 47⟩
theorem cx_NotArrow (h : Hy K mg) : Cx1 (Tb K mg) P w K mg base "NotArrow" 18 [3, 4] := by
  obtain ⟨fd, F⟩ := h.s.d.def_ 44 (d := D_NotArrow) rfl
  obtain ⟨a1, a2, a3, a4⟩ := iniX h.s.b (c := 18) (r := ⟨18, [3, 4], true⟩) rfl rfl
  exact ⟨_, fd, ["self", "first", "second"], a1, a2, a3, init_ok (N := ["self", "first", "second"]) (flds := ["first", "second"]) F ⟨rfl, rfl, rfl, by decide +kernel, rfl, by decide +kernel, by decide +kernel⟩ rfl rfl ⟨by decide, by decide⟩ (fun cdv A outer s H E => (pss_cons (ps_ost (pv 0) (pv 1)) (pss_cons (ps_ost (pv 0) (pv 2)) pss_nil))), F.bindsN (fun _ _ _ _ _ _ us hl => match us, hl with | [_, _, _], _ => rfl), a4, h.gl 48⟩
theorem cx_NotTied (h : Hy K mg) : Cx1 (Tb K mg) P w K mg base "NotTied" 19 [3, 4] := by
  obtain ⟨fd, F⟩ := h.s.d.def_ 45 (d := D_NotTied) rfl
  obtain ⟨a1, a2, a3, a4⟩ := iniX h.s.b (c := 19) (r := ⟨19, [3, 4], true⟩) rfl rfl
  exact ⟨_, fd, ["self", "first", "second"], a1, a2, a3, init_ok (N := ["self", "first", "second"]) (flds := ["first", "second"]) F ⟨rfl, rfl, rfl, by decide +kernel, rfl, by decide +kernel, by decide +kernel⟩ rfl rfl ⟨by decide, by decide⟩ (fun cdv A outer s H E => (pss_cons (ps_ost (pv 0) (pv 1)) (pss_cons (ps_ost (pv 0) (pv 2)) pss_nil))), F.bindsN (fun _ _ _ _ _ _ us hl => match us, hl with | [_, _, _], _ => rfl), a4, h.gl 49⟩
theorem cx_NotClosed (h : Hy K mg) : Cx1 (Tb K mg) P w K mg base "NotClosed" 20 [3, 4, 5] := by
  obtain ⟨fd, F⟩ := h.s.d.def_ 46 (d := D_NotClosed) rfl
  obtain ⟨a1, a2, a3, a4⟩ := iniX h.s.b (c := 20) (r := ⟨20, [3, 4, 5], true⟩) rfl rfl
  exact ⟨_, fd, ["self", "first", "second", "third"], a1, a2, a3, init_ok (N := ["self", "first", "second", "third"]) (flds := ["first", "second", "third"]) F ⟨rfl, rfl, rfl, by decide +kernel, rfl, by decide +kernel, by decide +kernel⟩ rfl rfl ⟨by decide, by decide⟩ (fun cdv A outer s H E => (pss_cons (ps_ost (pv 0) (pv 1)) (pss_cons (ps_ost (pv 0) (pv 2)) (pss_cons (ps_ost (pv 0) (pv 3)) pss_nil)))), F.bindsN (fun _ _ _ _ _ _ us hl => match us, hl with | [_, _, _, _], _ => rfl), a4, h.gl 50⟩
theorem cx_NotBehind (h : Hy K mg) : Cx1 (Tb K mg) P w K mg base "NotBehind" 21 [3, 4] := by
  obtain ⟨fd, F⟩ := h.s.d.def_ 47 (d := D_NotBehind) rfl
  obtain ⟨a1, a2, a3, a4⟩ := iniX h.s.b (c := 21) (r := ⟨21, [3, 4], true⟩) rfl rfl
  exact ⟨_, fd, ["self", "first", "second"], a1, a2, a3, init_ok (N := ["self", "first", "second"]) (flds := ["first", "second"]) F ⟨rfl, rfl, rfl, by decide +kernel, rfl, by decide +kernel, by decide +kernel⟩ rfl rfl ⟨by decide, by decide⟩ (fun cdv A outer s H E => (pss_cons (ps_ost (pv 0) (pv 1)) (pss_cons (ps_ost (pv 0) (pv 2)) pss_nil))), F.bindsN (fun _ _ _ _ _ _ us hl => match us, hl with | [_, _, _], _ => rfl), a4, h.gl 51⟩
theorem cx_NotPart (h : Hy K mg) : Cx1 (Tb K mg) P w K mg base "NotPart" 22 [6] := by
  obtain ⟨fd, F⟩ := h.s.d.def_ 48 (d := D_NotPart) rfl
  obtain ⟨a1, a2, a3, a4⟩ := iniX h.s.b (c := 22) (r := ⟨22, [6], true⟩) rfl rfl
  exact ⟨_, fd, ["self", "thing"], a1, a2, a3, init_ok (N := ["self", "thing"]) (flds := ["thing"]) F ⟨rfl, rfl, rfl, by decide +kernel, rfl, by decide +kernel, by decide +kernel⟩ rfl rfl ⟨by decide, by decide⟩ (fun cdv A outer s H E => (pss_cons (ps_ost (pv 0) (pv 1)) pss_nil)), F.bindsN (fun _ _ _ _ _ _ us hl => match us, hl with | [_, _], _ => rfl), a4, h.gl 52⟩
theorem cx_NotLoose (h : Hy K mg) : Cx1 (Tb K mg) P w K mg base "NotLoose" 23 [3, 4] := by
  obtain ⟨fd, F⟩ := h.s.d.def_ 49 (d := D_NotLoose) rfl
  obtain ⟨a1, a2, a3, a4⟩ := iniX h.s.b (c := 23) (r := ⟨23, [3, 4], true⟩) rfl rfl
  exact ⟨_, fd, ["self", "first", "second"], a1, a2, a3, init_ok (N := ["self", "first", "second"]) (flds := ["first", "second"]) F ⟨rfl, rfl, rfl, by decide +kernel, rfl, by decide +kernel, by decide +kernel⟩ rfl rfl ⟨by decide, by decide⟩ (fun cdv A outer s H E => (pss_cons (ps_ost (pv 0) (pv 1)) (pss_cons (ps_ost (pv 0) (pv 2)) pss_nil))), F.bindsN (fun _ _ _ _ _ _ us hl => match us, hl with | [_, _, _], _ => rfl), a4, h.gl 53⟩
theorem cx_NoOrders (h : Hy K mg) : Cx1 (Tb K mg) P w K mg base "NoOrders" 24 [7] := by
  obtain ⟨fd, F⟩ := h.s.d.def_ 50 (d := D_NoOrders) rfl
  obtain ⟨a1, a2, a3, a4⟩ := iniX h.s.b (c := 24) (r := ⟨24, [7], true⟩) rfl rfl
  exact ⟨_, fd, ["self", "ring"], a1, a2, a3, init_ok (N := ["self", "ring"]) (flds := ["ring"]) F ⟨rfl, rfl, rfl, by decide +kernel, rfl, by decide +kernel, by decide +kernel⟩ rfl rfl ⟨by decide, by decide⟩ (fun cdv A outer s H E => (pss_cons (ps_ost (pv 0) (pv 1)) pss_nil)), F.bindsN (fun _ _ _ _ _ _ us hl => match us, hl with | [_, _], _ => rfl), a4, h.gl 54⟩
theorem cx_OtherWeb (h : Hy K mg) : Cx1 (Tb K mg) P w K mg base "OtherWeb" 25 [3, 4] := by
  obtain ⟨fd, F⟩ := h.s.d.def_ 51 (d := D_OtherWeb) rfl
  obtain ⟨a1, a2, a3, a4⟩ := iniX h.s.b (c := 25) (r := ⟨25, [3, 4], true⟩) rfl rfl
  exact ⟨_, fd, ["self", "first", "second"], a1, a2, a3, init_ok (N := ["self", "first", "second"]) (flds := ["first", "second"]) F ⟨rfl, rfl, rfl, by decide +kernel, rfl, by decide +kernel, by decide +kernel⟩ rfl rfl ⟨by decide, by decide⟩ (fun cdv A outer s H E => (pss_cons (ps_ost (pv 0) (pv 1)) (pss_cons (ps_ost (pv 0) (pv 2)) pss_nil))), F.bindsN (fun _ _ _ _ _ _ us hl => match us, hl with | [_, _, _], _ => rfl), a4, h.gl 55⟩
theorem cx_NoMiddle (h : Hy K mg) : Cx1 (Tb K mg) P w K mg base "NoMiddle" 26 [8] := by
  obtain ⟨fd, F⟩ := h.s.d.def_ 52 (d := D_NoMiddle) rfl
  obtain ⟨a1, a2, a3, a4⟩ := iniX h.s.b (c := 26) (r := ⟨26, [8], true⟩) rfl rfl
  exact ⟨_, fd, ["self", "things"], a1, a2, a3, init_ok (N := ["self", "things"]) (flds := ["things"]) F ⟨rfl, rfl, rfl, by decide +kernel, rfl, by decide +kernel, by decide +kernel⟩ rfl rfl ⟨by decide, by decide⟩ (fun cdv A outer s H E => (pss_cons (ps_ost (pv 0) (pv 1)) pss_nil)), F.bindsN (fun _ _ _ _ _ _ us hl => match us, hl with | [_, _], _ => rfl), a4, h.gl 56⟩
theorem cx_NoRows (h : Hy K mg) : Cx1 (Tb K mg) P w K mg base "NoRows" 27 [7, 9] := by
  obtain ⟨fd, F⟩ := h.s.d.def_ 53 (d := D_NoRows) rfl
  obtain ⟨a1, a2, a3, a4⟩ := iniX h.s.b (c := 27) (r := ⟨27, [7, 9], true⟩) rfl rfl
  exact ⟨_, fd, ["self", "ring", "contrary"], a1, a2, a3, init_ok (N := ["self", "ring", "contrary"]) (flds := ["ring", "contrary"]) F ⟨rfl, rfl, rfl, by decide +kernel, rfl, by decide +kernel, by decide +kernel⟩ rfl rfl ⟨by decide, by decide⟩ (fun cdv A outer s H E => (pss_cons (ps_ost (pv 0) (pv 1)) (pss_cons (ps_ost (pv 0) (pv 2)) pss_nil))), F.bindsN (fun _ _ _ _ _ _ us hl => match us, hl with | [_, _, _], _ => rfl), a4, h.gl 57⟩
theorem cx_NoSpans (h : Hy K mg) : Cx1 (Tb K mg) P w K mg base "NoSpans" 28 [10, 7] := by
  obtain ⟨fd, F⟩ := h.s.d.def_ 54 (d := D_NoSpans) rfl
  obtain ⟨a1, a2, a3, a4⟩ := iniX h.s.b (c := 28) (r := ⟨28, [10, 7], true⟩) rfl rfl
  exact ⟨_, fd, ["self", "four", "ring"], a1, a2, a3, init_ok (N := ["self", "four", "ring"]) (flds := ["four", "ring"]) F ⟨rfl, rfl, rfl, by decide +kernel, rfl, by decide +kernel, by decide +kernel⟩ rfl rfl ⟨by decide, by decide⟩ (fun cdv A outer s H E => (pss_cons (ps_ost (pv 0) (pv 1)) (pss_cons (ps_ost (pv 0) (pv 2)) pss_nil))), F.bindsN (fun _ _ _ _ _ _ us hl => match us, hl with | [_, _, _], _ => rfl), a4, h.gl 58⟩
theorem cx_TooMany (h : Hy K mg) : Cx1 (Tb K mg) P w K mg base "TooMany" 29 [0] := by
  obtain ⟨fd, F⟩ := h.s.d.def_ 55 (d := D_TooMany) rfl
  obtain ⟨a1, a2, a3, a4⟩ := iniX h.s.b (c := 29) (r := ⟨29, [0], true⟩) rfl rfl
  exact ⟨_, fd, ["self", "name"], a1, a2, a3, init_ok (N := ["self", "name"]) (flds := ["name"]) F ⟨rfl, rfl, rfl, by decide +kernel, rfl, by decide +kernel, by decide +kernel⟩ rfl rfl ⟨by decide, by decide⟩ (fun cdv A outer s H E => (pss_cons (ps_ost (pv 0) (pv 1)) pss_nil)), F.bindsN (fun _ _ _ _ _ _ us hl => match us, hl with | [_, _], _ => rfl), a4, h.gl 59⟩
def exT (c : Nat) : Nat → Option Bool := fun k => subX tb ks k c
theorem Hy.exT (h : Hy K mg) (c : Nat) : ∀ k b, Gk99.exT c k = some b → PySem.W.exmOne K (.ref ((Tb K mg).cls k)) (.ref ((Tb K mg).cls c)) = some b := fun k b e => exm_of h.s.b e

theorem nd__law_draws : (["script", "draws", "place", "raw", "cell", "k", "mixed"] : List Str).Nodup := by decide +kernel
def d__law_draws : M Fl :=
  (sSeq (sSet 1 (eCB oLst aNil))
  (sSeq (sAsg (tgN 2) (eC (.int 0)))
  (sSeq (sFor (iSeqD (eSl (eVar 0) pNo (pAt (eC (.int 63))))) (tgN 3) (sSeq (sAsg (tgN 4) (eCB oInt (aCons (eVar 3) aNil)))
  (sSeq (sAsg (tgN 2) (eBin dAdd (eVar 2) (eC (.int 1))))
  (sSeq (sIf (tE blD (eBin dLt (eVar 4) (eC (.int 0)))) (sAsg (tgN 4) (eBin dSub (eC (.int 3)) (eBin dMul (eC (.int 2)) (eVar 4)))) sNx)
  (sIf (tE blD (eBin (dI2 fun i j => decide (j ≤ i)) (eVar 4) (eBin dPow (eC (.int 10)) (eC (.int 18))))) (sFor (iRng1D (aCons (eC (.int 60)) aNil)) (tgN 5) (sIf (tE blD (eBin (dI2 fun i j => decide (j < i)) (eVar 4) (eC (.int 0)))) (sSeq (sExpr (eMut 1 mAppend (aCons (eBin dMod (eCB oInt (aCons (eVar 4) aNil)) (eC (.int 24))) aNil)))
  (sAsg (tgN 4) (eBin dFdiv (eVar 4) (eC (.int 24))))) sNx)) (sSeq (sAsg (tgN 6) (eBin dMod (eCB oInt (aCons (eBin dAdd (eBin dAdd (eBin dMul (eVar 4) (eC (.int 69069))) (eBin dMul (eVar 2) (eC (.int 40503)))) (eC (.int 17))) aNil)) (eC (.int 2147483629))))
  (sFor (iRng1D (aCons (eC (.int 5)) aNil)) (tgN 5) (sSeq (sAsg (tgN 6) (eBin dMod (eCB oInt (aCons (eBin dAdd (eBin dAdd (eBin dMul (eVar 6) (eBin dAdd (eBin dAdd (eVar 6) (eBin dMul (eC (.int 2)) (eVar 5))) (eC (.int 3)))) (eBin dMul (eVar 2) (eC (.int 7919)))) (eC (.int 11))) aNil)) (eC (.int 2147483587))))
  (sExpr (eMut 1 mAppend (aCons (eBin dFdiv (eVar 6) (eC (.int 64))) aNil)))))))))))
  (sSeq (sExpr (eMut 1 mReverse aNil))
  (sRet (eTake 1))))))
theorem sc__law_draws : FnScope ["script", "draws", "place", "raw", "cell", "k", "mixed"] ["script"] (L2.defScope (stm 46)) := ⟨rfl, rfl, rfl, nd__law_draws, rfl, by decide +kernel, by decide +kernel⟩
theorem fo__law_draws (h : Hy K mg) {f : Addr} {fd : FuncData} (F : FunD K D__law_draws.name D__law_draws.qual D__law_draws.params D__law_draws.body D__law_draws.scope (D__law_draws.dvs K) (D__law_draws.kws K) f fd) : FnOk P w K mg base (L2.CX P w) 1 f fd ["script"] (spD (Tb K mg) 1 (runDef 6 d__law_draws)) :=
  fnD_ok F sc__law_draws rfl (fun cdv A outer s H E τ hr =>
  (dss_cons (ds_set 1 (de_lst da_nil) nd__law_draws)
  (dss_cons (ds_asg (ws := [2]) de_int (dg_name 2 nd__law_draws))
  (dss_cons (ds_for [3] (passes_of rfl) rfl (di_seq (by rfl) (de_slice (by rfl) (de_var 0) do_no (do_at de_int))) (dg_name 3 nd__law_draws) (dss_cons (ds_asg (ws := [4]) (x_int (hm := (h.fr 62)) (ha := (da_cons (de_var 3) da_nil))) (dg_name 4 nd__law_draws))
  (dss_cons (ds_asg (ws := [2]) (x_add (de_var 2) de_int) (dg_name 2 nd__law_draws))
  (dss_cons (ds_if (y_cmp (c_lt hr) (de_var 4) de_int) (dss_one (ds_asg (ws := [4]) (x_sub de_int (x_mul de_int (de_var 4))) (dg_name 4 nd__law_draws))) dss_nil)
  (dss_one (ds_if (y_cmp c_ge (de_var 4) (x_pow de_int de_int)) (dss_one (ds_for [5] (passes_of rfl) rfl (di_rng1 (by rfl) (h.fr 70) (da_cons de_int da_nil)) (dg_name 5 nd__law_draws) (dss_one (ds_if (y_cmp c_gt (de_var 4) de_int) (dss_cons (ds_expr (x_append 1 (ha := (da_cons (x_mod (x_int (hm := (h.fr 62)) (ha := (da_cons (de_var 4) da_nil))) de_int) da_nil))))
  (dss_one (ds_asg (ws := [4]) (x_fdiv (de_var 4) de_int) (dg_name 4 nd__law_draws)))) dss_nil)))) (dss_cons (ds_asg (ws := [6]) (x_mod (x_int (hm := (h.fr 62)) (ha := (da_cons (x_add (x_add (x_mul (de_var 4) de_int) (x_mul (de_var 2) de_int)) de_int) da_nil))) de_int) (dg_name 6 nd__law_draws))
  (dss_one (ds_for [5] (passes_of rfl) rfl (di_rng1 (by rfl) (h.fr 70) (da_cons de_int da_nil)) (dg_name 5 nd__law_draws) (dss_cons (ds_asg (ws := [6]) (x_mod (x_int (hm := (h.fr 62)) (ha := (da_cons (x_add (x_add (x_mul (de_var 6) (x_add (x_add (de_var 6) (x_mul de_int (de_var 5))) de_int)) (x_mul (de_var 2) de_int)) de_int) da_nil))) de_int) (dg_name 6 nd__law_draws))
  (dss_one (ds_expr (x_append 1 (ha := (da_cons (x_fdiv (de_var 6) de_int) da_nil)))))))))))))))
  (dss_cons (ds_expr (x_reverse 1))
  (dss_one (ds_ret (de_take 1))))))))
theorem ok__law_draws (h : Hy K mg) : Df (Tb K mg) P w K mg base "_law_draws" 1 1 [] (runDef 6 d__law_draws) := by
  obtain ⟨fd, F⟩ := h.s.d.def_ 0 (d := D__law_draws) rfl
  exact ⟨_, fd, _, [], [], fo__law_draws h F, h.gl 0, F.kp, F.bindsN (fun _ _ _ _ _ _ us hl => match us, hl with | [_], _ => rfl), .nil, fun _ => .nil⟩
theorem nd__law_take : (["draws", "many"] : List Str).Nodup := by decide +kernel
def d__law_take : M Fl :=
  (sSeq (sIf (tE blD (eBin (dEq false) (ev [0] [] (eCB oLen (aCons (eVar 0) aNil))) (eC (.int 0)))) (sRet (eC (.int 0))) sNx)
  (sRet (eBin dMod (eCB oInt (aCons (eMut 0 mPop aNil) aNil)) (eVar 1))))
theorem sc__law_take : FnScope ["draws", "many"] ["draws", "many"] (L2.defScope (stm 47)) := ⟨rfl, rfl, rfl, nd__law_take, rfl, by decide +kernel, by decide +kernel⟩
theorem fo__law_take (h : Hy K mg) {f : Addr} {fd : FuncData} (F : FunD K D__law_take.name D__law_take.qual D__law_take.params D__law_take.body D__law_take.scope (D__law_take.dvs K) (D__law_take.kws K) f fd) : FnOk P w K mg base (L2.CX P w) 1 f fd ["draws", "many"] (spD (Tb K mg) 2 (runDef 0 d__law_take)) :=
  fnD_ok F sc__law_take rfl (fun cdv A outer s H E τ hr =>
  (dss_cons (ds_if (y_cmp (c_eq hr) (de_ev [0] [] (x_len (hm := (h.fr 61)) (ha := (da_cons (de_var 0) da_nil)))) de_int) (dss_one (ds_ret de_int)) dss_nil)
  (dss_one (ds_ret (x_mod (x_int (hm := (h.fr 62)) (ha := (da_cons (x_pop 0) da_nil))) (de_var 1))))))
theorem ok__law_take (h : Hy K mg) : Df (Tb K mg) P w K mg base "_law_take" 1 2 [] (runDef 0 d__law_take) := by
  obtain ⟨fd, F⟩ := h.s.d.def_ 1 (d := D__law_take) rfl
  exact ⟨_, fd, _, [], [], fo__law_take h F, h.gl 1, F.kp, F.bindsN (fun _ _ _ _ _ _ us hl => match us, hl with | [_, _], _ => rfl), .nil, fun _ => .nil⟩
theorem nd__law_marks : (["one", "marks"] : List Str).Nodup := by decide +kernel
def d__law_marks (h : Hy K mg) : M Fl :=
  (sSeq (sSet 1 (eCB oLst (aCons (eCB (oIsi (XTn h)) (aCons (eVar 0) (aCons (eC (.cl 1)) aNil))) (aCons (eCB (oIsi (XTn h)) (aCons (eVar 0) (aCons (eC (.cl 2)) aNil))) (aCons (eCB (oIsi (XTn h)) (aCons (eVar 0) (aCons (eC (.cl 29)) aNil))) aNil)))))
  (sSeq (sSet 1 (eBin dAdd (eRd 1) (eCB oLst (aCons (eCB (oIsi (XTn h)) (aCons (eVar 0) (aCons (eC (.cl 3)) aNil))) (aCons (eCB (oIsi (XTn h)) (aCons (eVar 0) (aCons (eC (.cl 4)) aNil))) (aCons (eCB (oIsi (XTn h)) (aCons (eVar 0) (aCons (eC (.cl 5)) aNil))) aNil))))))
  (sSeq (sSet 1 (eBin dAdd (eRd 1) (eCB oLst (aCons (eCB (oIsi (XTn h)) (aCons (eVar 0) (aCons (eC (.cl 7)) aNil))) (aCons (eCB (oIsi (XTn h)) (aCons (eVar 0) (aCons (eC (.cl 8)) aNil))) (aCons (eCB (oIsi (XTn h)) (aCons (eVar 0) (aCons (eC (.cl 9)) aNil))) aNil))))))
  (sSeq (sExpr (eMut 1 mAppend (aCons (eCB (oIsi (XTn h)) (aCons (eVar 0) (aCons (eC (.cl 10)) aNil))) aNil)))
  (sSeq (sSet 1 (eBin dAdd (eRd 1) (eCB oLst (aCons (eCB (oIsi (XTn h)) (aCons (eVar 0) (aCons (eC (.cl 11)) aNil))) (aCons (eCB (oIsi (XTn h)) (aCons (eVar 0) (aCons (eC (.cl 12)) aNil))) (aCons (eCB (oIsi (XTn h)) (aCons (eVar 0) (aCons (eC (.cl 19)) aNil))) aNil))))))
  (sSeq (sSet 1 (eBin dAdd (eRd 1) (eCB oLst (aCons (eCB (oIsi (XTn h)) (aCons (eVar 0) (aCons (eC (.cl 18)) aNil))) (aCons (eCB (oIsi (XTn h)) (aCons (eVar 0) (aCons (eC (.cl 21)) aNil))) (aCons (eCB (oIsi (XTn h)) (aCons (eVar 0) (aCons (eC (.cl 25)) aNil))) aNil))))))
  (sSeq (sSet 1 (eBin dAdd (eRd 1) (eCB oLst (aCons (eCB (oIsi (XTn h)) (aCons (eVar 0) (aCons (eC (.cl 23)) aNil))) (aCons (eCB (oIsi (XTn h)) (aCons (eVar 0) (aCons (eC (.cl 16)) aNil))) (aCons (eCB (oIsi (XTn h)) (aCons (eVar 0) (aCons (eC (.cl 17)) aNil))) aNil))))))
  (sSeq (sSet 1 (eBin dAdd (eRd 1) (eCB oLst (aCons (eCB (oIsi (XTn h)) (aCons (eVar 0) (aCons (eC (.cl 6)) aNil))) (aCons (eCB (oIsi (XTn h)) (aCons (eVar 0) (aCons (eC (.cl 20)) aNil))) (aCons (eCB (oIsi (XTn h)) (aCons (eVar 0) (aCons (eC (.cl 22)) aNil))) aNil))))))
  (sSeq (sSet 1 (eBin dAdd (eRd 1) (eCB oLst (aCons (eCB (oIsi (XTn h)) (aCons (eVar 0) (aCons (eC (.cl 24)) aNil))) (aCons (eCB (oIsi (XTn h)) (aCons (eVar 0) (aCons (eC (.cl 27)) aNil))) (aCons (eCB (oIsi (XTn h)) (aCons (eVar 0) (aCons (eC (.cl 28)) aNil))) aNil))))))
  (sSeq (sSet 1 (eBin dAdd (eRd 1) (eCB oLst (aCons (eCB (oIsi (XTn h)) (aCons (eVar 0) (aCons (eC (.cl 26)) aNil))) (aCons (eCB (oIsi (XTn h)) (aCons (eVar 0) (aCons (eC (.cl 15)) aNil))) (aCons (eCB (oIsi (XTn h)) (aCons (eVar 0) (aCons (eC (.cl 14)) aNil))) aNil))))))
  (sRet (eBin dAdd (eRd 1) (eCB oLst (aCons (eCB (oIsi (XTn h)) (aCons (eVar 0) (aCons (eC (.cl 13)) aNil))) (aCons (eCB (oIsi (XTn h)) (aCons (eVar 0) (aCons (eC (.cl 30)) aNil))) aNil)))))))))))))))
theorem sc__law_marks : FnScope ["one", "marks"] ["one"] (L2.defScope (stm 61)) := ⟨rfl, rfl, rfl, nd__law_marks, rfl, by decide +kernel, by decide +kernel⟩
theorem fo__law_marks (h : Hy K mg) {f : Addr} {fd : FuncData} (F : FunD K D__law_marks.name D__law_marks.qual D__law_marks.params D__law_marks.body D__law_marks.scope (D__law_marks.dvs K) (D__law_marks.kws K) f fd) : FnOk P w K mg base (L2.CX P w) 1 f fd ["one"] (spD (Tb K mg) 1 (runDef 1 (d__law_marks h))) :=
  fnD_ok F sc__law_marks rfl (fun cdv A outer s H E τ hr =>
  (dss_cons (ds_set 1 (de_lst (da_cons (de_isi (by rfl) (XTn h) (by rfl) (h.fr 72) (da_cons (de_var 0) (da_cons (de_cls 1 (by rfl) (h.gl 31)) da_nil))) (da_cons (de_isi (by rfl) (XTn h) (by rfl) (h.fr 72) (da_cons (de_var 0) (da_cons (de_cls 2 (by rfl) (h.gl 32)) da_nil))) (da_cons (de_isi (by rfl) (XTn h) (by rfl) (h.fr 72) (da_cons (de_var 0) (da_cons (de_cls 29 (by rfl) (h.gl 59)) da_nil))) da_nil)))) nd__law_marks)
  (dss_cons (ds_set 1 (x_add (de_rd 1) (de_lst (da_cons (de_isi (by rfl) (XTn h) (by rfl) (h.fr 72) (da_cons (de_var 0) (da_cons (de_cls 3 (by rfl) (h.gl 33)) da_nil))) (da_cons (de_isi (by rfl) (XTn h) (by rfl) (h.fr 72) (da_cons (de_var 0) (da_cons (de_cls 4 (by rfl) (h.gl 34)) da_nil))) (da_cons (de_isi (by rfl) (XTn h) (by rfl) (h.fr 72) (da_cons (de_var 0) (da_cons (de_cls 5 (by rfl) (h.gl 35)) da_nil))) da_nil))))) nd__law_marks)
  (dss_cons (ds_set 1 (x_add (de_rd 1) (de_lst (da_cons (de_isi (by rfl) (XTn h) (by rfl) (h.fr 72) (da_cons (de_var 0) (da_cons (de_cls 7 (by rfl) (h.gl 37)) da_nil))) (da_cons (de_isi (by rfl) (XTn h) (by rfl) (h.fr 72) (da_cons (de_var 0) (da_cons (de_cls 8 (by rfl) (h.gl 38)) da_nil))) (da_cons (de_isi (by rfl) (XTn h) (by rfl) (h.fr 72) (da_cons (de_var 0) (da_cons (de_cls 9 (by rfl) (h.gl 39)) da_nil))) da_nil))))) nd__law_marks)
  (dss_cons (ds_expr (x_append 1 (ha := (da_cons (de_isi (by rfl) (XTn h) (by rfl) (h.fr 72) (da_cons (de_var 0) (da_cons (de_cls 10 (by rfl) (h.gl 40)) da_nil))) da_nil))))
  (dss_cons (ds_set 1 (x_add (de_rd 1) (de_lst (da_cons (de_isi (by rfl) (XTn h) (by rfl) (h.fr 72) (da_cons (de_var 0) (da_cons (de_cls 11 (by rfl) (h.gl 41)) da_nil))) (da_cons (de_isi (by rfl) (XTn h) (by rfl) (h.fr 72) (da_cons (de_var 0) (da_cons (de_cls 12 (by rfl) (h.gl 42)) da_nil))) (da_cons (de_isi (by rfl) (XTn h) (by rfl) (h.fr 72) (da_cons (de_var 0) (da_cons (de_cls 19 (by rfl) (h.gl 49)) da_nil))) da_nil))))) nd__law_marks)
  (dss_cons (ds_set 1 (x_add (de_rd 1) (de_lst (da_cons (de_isi (by rfl) (XTn h) (by rfl) (h.fr 72) (da_cons (de_var 0) (da_cons (de_cls 18 (by rfl) (h.gl 48)) da_nil))) (da_cons (de_isi (by rfl) (XTn h) (by rfl) (h.fr 72) (da_cons (de_var 0) (da_cons (de_cls 21 (by rfl) (h.gl 51)) da_nil))) (da_cons (de_isi (by rfl) (XTn h) (by rfl) (h.fr 72) (da_cons (de_var 0) (da_cons (de_cls 25 (by rfl) (h.gl 55)) da_nil))) da_nil))))) nd__law_marks)
  (dss_cons (ds_set 1 (x_add (de_rd 1) (de_lst (da_cons (de_isi (by rfl) (XTn h) (by rfl) (h.fr 72) (da_cons (de_var 0) (da_cons (de_cls 23 (by rfl) (h.gl 53)) da_nil))) (da_cons (de_isi (by rfl) (XTn h) (by rfl) (h.fr 72) (da_cons (de_var 0) (da_cons (de_cls 16 (by rfl) (h.gl 46)) da_nil))) (da_cons (de_isi (by rfl) (XTn h) (by rfl) (h.fr 72) (da_cons (de_var 0) (da_cons (de_cls 17 (by rfl) (h.gl 47)) da_nil))) da_nil))))) nd__law_marks)
  (dss_cons (ds_set 1 (x_add (de_rd 1) (de_lst (da_cons (de_isi (by rfl) (XTn h) (by rfl) (h.fr 72) (da_cons (de_var 0) (da_cons (de_cls 6 (by rfl) (h.gl 36)) da_nil))) (da_cons (de_isi (by rfl) (XTn h) (by rfl) (h.fr 72) (da_cons (de_var 0) (da_cons (de_cls 20 (by rfl) (h.gl 50)) da_nil))) (da_cons (de_isi (by rfl) (XTn h) (by rfl) (h.fr 72) (da_cons (de_var 0) (da_cons (de_cls 22 (by rfl) (h.gl 52)) da_nil))) da_nil))))) nd__law_marks)
  (dss_cons (ds_set 1 (x_add (de_rd 1) (de_lst (da_cons (de_isi (by rfl) (XTn h) (by rfl) (h.fr 72) (da_cons (de_var 0) (da_cons (de_cls 24 (by rfl) (h.gl 54)) da_nil))) (da_cons (de_isi (by rfl) (XTn h) (by rfl) (h.fr 72) (da_cons (de_var 0) (da_cons (de_cls 27 (by rfl) (h.gl 57)) da_nil))) (da_cons (de_isi (by rfl) (XTn h) (by rfl) (h.fr 72) (da_cons (de_var 0) (da_cons (de_cls 28 (by rfl) (h.gl 58)) da_nil))) da_nil))))) nd__law_marks)
  (dss_cons (ds_set 1 (x_add (de_rd 1) (de_lst (da_cons (de_isi (by rfl) (XTn h) (by rfl) (h.fr 72) (da_cons (de_var 0) (da_cons (de_cls 26 (by rfl) (h.gl 56)) da_nil))) (da_cons (de_isi (by rfl) (XTn h) (by rfl) (h.fr 72) (da_cons (de_var 0) (da_cons (de_cls 15 (by rfl) (h.gl 45)) da_nil))) (da_cons (de_isi (by rfl) (XTn h) (by rfl) (h.fr 72) (da_cons (de_var 0) (da_cons (de_cls 14 (by rfl) (h.gl 44)) da_nil))) da_nil))))) nd__law_marks)
  (dss_one (ds_ret (x_add (de_rd 1) (de_lst (da_cons (de_isi (by rfl) (XTn h) (by rfl) (h.fr 72) (da_cons (de_var 0) (da_cons (de_cls 13 (by rfl) (h.gl 43)) da_nil))) (da_cons (de_isi (by rfl) (XTn h) (by rfl) (h.fr 72) (da_cons (de_var 0) (da_cons (de_cls 30 (by rfl) (h.gl 60)) da_nil))) da_nil)))))))))))))))))
theorem ok__law_marks (h : Hy K mg) : Df (Tb K mg) P w K mg base "_law_marks" 1 1 [] (runDef 1 (d__law_marks h)) := by
  obtain ⟨fd, F⟩ := h.s.d.def_ 2 (d := D__law_marks) rfl
  exact ⟨_, fd, _, [], [], fo__law_marks h F, h.gl 2, F.kp, F.bindsN (fun _ _ _ _ _ _ us hl => match us, hl with | [_], _ => rfl), .nil, fun _ => .nil⟩
theorem nd__law_errors : (["draws", "a", "b", "name", "ring", "named", "placed", "paired", "others", "rows", "at", "told", "k", "one"] : List Str).Nodup := by decide +kernel
def d__law_errors (h : Hy K mg) : M Fl :=
  (sSeq (sAsg (tgN 1) (eBin dSub (eCallJ 2 (runDef 0 d__law_take) [] (aConsV 0 (aConsD (eC (.int 24)) aNilJ))) (eC (.int 1))))
  (sSeq (sAsg (tgN 2) (eBin dAdd (eCallJ 2 (runDef 0 d__law_take) [] (aConsV 0 (aConsD (eC (.int 24)) aNilJ))) (eC (.int 1))))
  (sSeq (sAsg (tgN 3) (eBin dIx (eCB oLst (aCons (eC (.str "size")) (aCons (eC (.str "first")) (aCons (eC (.str "orders")) aNil)))) (eCallJ 2 (runDef 0 d__law_take) [] (aConsV 0 (aConsD (eC (.int 3)) aNilJ)))))
  (sSeq (sAsg (tgN 4) (eCB oTup (aCons (eVar 1) (aCons (eVar 2) (aCons (eC (.int 7)) aNil)))))
  (sSeq (sAsg (tgN 5) (eCB oLst (aCons (eMk 1 [0] (aCons (eVar 3) aNil)) (aCons (eMk 2 [0] (aCons (eVar 3) aNil)) (aCons (eMk 29 [0] (aCons (eVar 3) aNil)) aNil)))))
  (sSeq (sAsg (tgN 6) (eCB oLst (aCons (eMk 3 [1] (aCons (eVar 1) aNil)) (aCons (eMk 4 [1] (aCons (eVar 1) aNil)) (aCons (eMk 5 [1] (aCons (eVar 1) aNil)) (aCons (eMk 7 [1] (aCons (eVar 1) aNil)) (aCons (eMk 8 [1] (aCons (eVar 1) aNil)) (aCons (eMk 9 [1] (aCons (eVar 1) aNil)) aNil))))))))
  (sSeq (sAsg (tgN 6) (eBin dAdd (eVar 6) (eCB oLst (aCons (eMk 10 [1] (aCons (eVar 1) aNil)) (aCons (eMk 11 [1] (aCons (eVar 1) aNil)) (aCons (eMk 12 [1] (aCons (eVar 1) aNil)) aNil))))))
  (sSeq (sSet 7 (eCB oLst (aCons (eMk 19 [3, 4] (aCons (eVar 1) (aCons (eVar 2) aNil))) (aCons (eMk 18 [3, 4] (aCons (eVar 1) (aCons (eVar 2) aNil))) (aCons (eMk 21 [3, 4] (aCons (eVar 1) (aCons (eVar 2) aNil))) (aCons (eMk 25 [3, 4] (aCons (eVar 1) (aCons (eVar 2) aNil))) (aCons (eMk 23 [3, 4] (aCons (eVar 1) (aCons (eVar 2) aNil))) (aCons (eMk 16 [3, 4] (aCons (eVar 1) (aCons (eVar 2) aNil))) aNil))))))))
  (sSeq (sExpr (eMut 7 mAppend (aCons (eMk 17 [3, 4] (aCons (eVar 1) (aCons (eVar 2) aNil))) aNil)))
  (sSeq (sAsg (tgN 8) (eCB oLst (aCons (eMk 6 [2] (aCons (eVar 2) aNil)) (aCons (eMk 20 [3, 4, 5] (aCons (eVar 1) (aCons (eVar 2) (aCons (eC (.int 9)) aNil)))) (aCons (eMk 22 [6] (aCons (eVar 1) aNil)) (aCons (eMk 24 [7] (aCons (eVar 4) aNil)) (aCons (eMk 27 [7, 9] (aCons (eVar 4) (aCons (eC (.bl true)) aNil))) (aCons (eMk 28 [10, 7] (aCons (eCB oTup (aCons (eVar 1) (aCons (eVar 2) aNil))) (aCons (eVar 4) aNil))) aNil))))))))
  (sSeq (sAsg (tgN 9) (eBin dAdd (eBin dAdd (eBin dAdd (eBin dAdd (eVar 5) (eVar 6)) (eRd 7)) (eVar 8)) (eCB oLst (aCons (eMk 26 [8] (aCons (eVar 4) aNil)) (aCons (eC (.ex 15 [] [])) (aCons (eC (.ex 14 [] [])) (aCons (eC (.ex 13 [] [])) (aCons (eC (.ex 30 [] [])) aNil))))))))
  (sSeq (sFor (iRng1D (aCons (eCB oLen (aCons (eVar 9) aNil)) aNil)) (tgN 10) (sSeq (sIf (tOr (tNot (tE dTru (eCB (oIsi (XTn h)) (aCons (eBin dIx (eVar 9) (eVar 10)) (aCons (eC (.cl 0)) aNil))))) (tNot (tE dTru (eCB (oIsi (XTn h)) (aCons (eBin dIx (eVar 9) (eVar 10)) (aCons (eC (.ty 6)) aNil)))))) (sRet (eC (.bl false))) sNx)
  (sIf (tE blD (eBin (dEq true) (eCallJ 1 (runDef 1 (d__law_marks h)) [] (aConsD (eBin dIx (eVar 9) (eVar 10)) aNilJ)) (eLc (iRng1D (aCons (eC (.int 30)) aNil)) (tgN 12) (ret true) (eBin (dEq false) (eVar 12) (eVar 10)) [12]))) (sRet (eC (.bl false))) sNx)))
  (sSeq (sIf (tOr (tNot (tE dTru (eCB oAll (aCons (eLc (iSeqD (eVar 5)) (tgN 13) (ret true) (eBin (dEq false) (eUn (dXv (XTn h) 0) (eVar 13)) (eVar 3)) [13]) aNil)))) (tNot (tE dTru (eCB oAll (aCons (eLc (iSeqD (eVar 6)) (tgN 13) (ret true) (eBin (dEq false) (eUn (dXv (XTn h) 1) (eVar 13)) (eVar 1)) [13]) aNil))))) (sRet (eC (.bl false))) sNx)
  (sSeq (sIf (tOr (tNot (tE dTru (eCB oAll (aCons (eLc (iSeqD (eRd 7)) (tgN 13) (ret true) (eAndV (eBin (dEq false) (eUn (dXv (XTn h) 3) (eVar 13)) (eVar 1)) (eBin (dEq false) (eUn (dXv (XTn h) 4) (eVar 13)) (eVar 2))) [13]) aNil)))) (tE blD (eBin (dEq true) (eUn (dXv (XTn h) 2) (eBin dIx (eVar 8) (eC (.int 0)))) (eVar 2)))) (sRet (eC (.bl false))) sNx)
  (sSeq (sAsg (tgN 11) (eCB oLst (aCons (eUn (dXv (XTn h) 3) (eBin dIx (eVar 8) (eC (.int 1)))) (aCons (eUn (dXv (XTn h) 4) (eBin dIx (eVar 8) (eC (.int 1)))) (aCons (eUn (dXv (XTn h) 5) (eBin dIx (eVar 8) (eC (.int 1)))) (aCons (eUn (dXv (XTn h) 6) (eBin dIx (eVar 8) (eC (.int 2)))) (aCons (eUn (dXv (XTn h) 7) (eBin dIx (eVar 8) (eC (.int 3)))) (aCons (eUn (dXv (XTn h) 7) (eBin dIx (eVar 8) (eC (.int 4)))) aNil))))))))
  (sSeq (sAsg (tgN 11) (eBin dAdd (eVar 11) (eCB oLst (aCons (eUn (dXv (XTn h) 9) (eBin dIx (eVar 8) (eC (.int 4)))) (aCons (eUn (dXv (XTn h) 10) (eBin dIx (eVar 8) (eC (.int 5)))) (aCons (eUn (dXv (XTn h) 7) (eBin dIx (eVar 8) (eC (.int 5)))) (aCons (eUn (dXv (XTn h) 8) (eBin dIx (eVar 9) (eC (.int 25)))) aNil)))))))
  (sRet (eAndV (eBin (dEq false) (eVar 11) (eCB oLst (aCons (eVar 1) (aCons (eVar 2) (aCons (eC (.int 9)) (aCons (eVar 1) (aCons (eVar 4) (aCons (eVar 4) (aCons (eC (.bl true)) (aCons (eCB oTup (aCons (eVar 1) (aCons (eVar 2) aNil))) (aCons (eVar 4) (aCons (eVar 4) aNil)))))))))))) (eBin (dEq false) (eCB oLen (aCons (eVar 9) aNil)) (eC (.int 30)))))))))))))))))))))
theorem sc__law_errors : FnScope ["draws", "a", "b", "name", "ring", "named", "placed", "paired", "others", "rows", "at", "told", "k", "one"] ["draws"] (L2.defScope (stm 62)) := ⟨rfl, rfl, rfl, nd__law_errors, rfl, by decide +kernel, by decide +kernel⟩
theorem fo__law_errors (h : Hy K mg) {f : Addr} {fd : FuncData} (F : FunD K D__law_errors.name D__law_errors.qual D__law_errors.params D__law_errors.body D__law_errors.scope (D__law_errors.dvs K) (D__law_errors.kws K) f fd) : FnOk P w K mg base (L2.CX P w) 3 f fd ["draws"] (spD (Tb K mg) 1 (runDef 13 (d__law_errors h))) :=
  fnD_ok F sc__law_errors rfl (fun cdv A outer s H E τ hr =>
  (dss_cons (ds_asg (ws := [1]) (x_sub (de_callD ((ok__law_take h).mono (by decide)) hr (takes_of rfl rfl rfl rfl) (by rfl) (dj_v 0 (dj_d de_int dj_nil))) de_int) (dg_name 1 nd__law_errors))
  (dss_cons (ds_asg (ws := [2]) (x_add (de_callD ((ok__law_take h).mono (by decide)) hr (takes_of rfl rfl rfl rfl) (by rfl) (dj_v 0 (dj_d de_int dj_nil))) de_int) (dg_name 2 nd__law_errors))
  (dss_cons (ds_asg (ws := [3]) (x_ix hr (de_lst (da_cons de_str (da_cons de_str (da_cons de_str da_nil)))) (de_callD ((ok__law_take h).mono (by decide)) hr (takes_of rfl rfl rfl rfl) (by rfl) (dj_v 0 (dj_d de_int dj_nil)))) (dg_name 3 nd__law_errors))
  (dss_cons (ds_asg (ws := [4]) (de_tup (da_cons (de_var 1) (da_cons (de_var 2) (da_cons de_int da_nil)))) (dg_name 4 nd__law_errors))
  (dss_cons (ds_asg (ws := [5]) (de_lst (da_cons (x_mk (cx_BadNumber h) (hr.mono (by decide)) (da_cons (de_var 3) da_nil)) (da_cons (x_mk (cx_BadThing h) (hr.mono (by decide)) (da_cons (de_var 3) da_nil)) (da_cons (x_mk (cx_TooMany h) (hr.mono (by decide)) (da_cons (de_var 3) da_nil)) da_nil)))) (dg_name 5 nd__law_errors))
  (dss_cons (ds_asg (ws := [6]) (de_lst (da_cons (x_mk (cx_BadPair h) (hr.mono (by decide)) (da_cons (de_var 1) da_nil)) (da_cons (x_mk (cx_BadLot h) (hr.mono (by decide)) (da_cons (de_var 1) da_nil)) (da_cons (x_mk (cx_BadRow h) (hr.mono (by decide)) (da_cons (de_var 1) da_nil)) (da_cons (x_mk (cx_BadWays h) (hr.mono (by decide)) (da_cons (de_var 1) da_nil)) (da_cons (x_mk (cx_BadSizes h) (hr.mono (by decide)) (da_cons (de_var 1) da_nil)) (da_cons (x_mk (cx_BadLevels h) (hr.mono (by decide)) (da_cons (de_var 1) da_nil)) da_nil))))))) (dg_name 6 nd__law_errors))
  (dss_cons (ds_asg (ws := [6]) (x_add (de_var 6) (de_lst (da_cons (x_mk (cx_BadSpan h) (hr.mono (by decide)) (da_cons (de_var 1) da_nil)) (da_cons (x_mk (cx_BadCrowds h) (hr.mono (by decide)) (da_cons (de_var 1) da_nil)) (da_cons (x_mk (cx_BadDeed h) (hr.mono (by decide)) (da_cons (de_var 1) da_nil)) da_nil))))) (dg_name 6 nd__law_errors))
  (dss_cons (ds_set 7 (de_lst (da_cons (x_mk (cx_NotTied h) (hr.mono (by decide)) (da_cons (de_var 1) (da_cons (de_var 2) da_nil))) (da_cons (x_mk (cx_NotArrow h) (hr.mono (by decide)) (da_cons (de_var 1) (da_cons (de_var 2) da_nil))) (da_cons (x_mk (cx_NotBehind h) (hr.mono (by decide)) (da_cons (de_var 1) (da_cons (de_var 2) da_nil))) (da_cons (x_mk (cx_OtherWeb h) (hr.mono (by decide)) (da_cons (de_var 1) (da_cons (de_var 2) da_nil))) (da_cons (x_mk (cx_NotLoose h) (hr.mono (by decide)) (da_cons (de_var 1) (da_cons (de_var 2) da_nil))) (da_cons (x_mk (cx_NotInLine h) (hr.mono (by decide)) (da_cons (de_var 1) (da_cons (de_var 2) da_nil))) da_nil))))))) nd__law_errors)
  (dss_cons (ds_expr (x_append 7 (ha := (da_cons (x_mk (cx_NotDrawing h) (hr.mono (by decide)) (da_cons (de_var 1) (da_cons (de_var 2) da_nil))) da_nil))))
  (dss_cons (ds_asg (ws := [8]) (de_lst (da_cons (x_mk (cx_BadText h) (hr.mono (by decide)) (da_cons (de_var 2) da_nil)) (da_cons (x_mk (cx_NotClosed h) (hr.mono (by decide)) (da_cons (de_var 1) (da_cons (de_var 2) (da_cons de_int da_nil)))) (da_cons (x_mk (cx_NotPart h) (hr.mono (by decide)) (da_cons (de_var 1) da_nil)) (da_cons (x_mk (cx_NoOrders h) (hr.mono (by decide)) (da_cons (de_var 4) da_nil)) (da_cons (x_mk (cx_NoRows h) (hr.mono (by decide)) (da_cons (de_var 4) (da_cons de_bl da_nil))) (da_cons (x_mk (cx_NoSpans h) (hr.mono (by decide)) (da_cons (de_tup (da_cons (de_var 1) (da_cons (de_var 2) da_nil))) (da_cons (de_var 4) da_nil))) da_nil))))))) (dg_name 8 nd__law_errors))
  (dss_cons (ds_asg (ws := [9]) (x_add (x_add (x_add (x_add (de_var 5) (de_var 6)) (de_rd 7)) (de_var 8)) (de_lst (da_cons (x_mk (cx_NoMiddle h) (hr.mono (by decide)) (da_cons (de_var 4) da_nil)) (da_cons (de_mk0 PySem.F.excBase_ValueError (h.ini0 15 rfl rfl).1 (h.gl 45) (h.ini0 15 rfl rfl).2 (by rfl)) (da_cons (de_mk0 PySem.F.excBase_ValueError (h.ini0 14 rfl rfl).1 (h.gl 44) (h.ini0 14 rfl rfl).2 (by rfl)) (da_cons (de_mk0 PySem.F.excBase_ValueError (h.ini0 13 rfl rfl).1 (h.gl 43) (h.ini0 13 rfl rfl).2 (by rfl)) (da_cons (de_mk0 PySem.F.excBase_ValueError (h.ini0 30 rfl rfl).1 (h.gl 60) (h.ini0 30 rfl rfl).2 (by rfl)) da_nil))))))) (dg_name 9 nd__law_errors))
  (dss_cons (ds_for [10] (passes_of rfl) rfl (di_rng1 (by rfl) (h.fr 70) (da_cons (x_len (hm := (h.fr 61)) (ha := (da_cons (de_var 9) da_nil))) da_nil)) (dg_name 10 nd__law_errors) (dss_cons (ds_if ((dw_or (dt_not (dt_tru (by rfl) (de_isi (by rfl) (XTn h) (by rfl) (h.fr 72) (da_cons (x_ix hr (de_var 9) (de_var 10)) (da_cons (de_cls 0 (by rfl) (h.gl 30)) da_nil))))) (dw_or1 (dt_not (dt_tru (by rfl) (de_isi (by rfl) (XTn h) (by rfl) (h.fr 72) (da_cons (x_ix hr (de_var 9) (de_var 10)) (da_cons (de_ty 6 (by rfl) (h.fr 74) PyProof.Rows.Boot.«ValueError») da_nil)))))))).pt (dss_one (ds_ret de_bl)) dss_nil)
  (dss_one (ds_if (y_cmp (c_ne hr) (de_callD ((ok__law_marks h).mono (by decide)) hr (takes_of rfl rfl rfl rfl) (by rfl) (dj_d (x_ix hr (de_var 9) (de_var 10)) dj_nil)) (de_lc [12] (by rfl) nd__law_errors (di_rng1 (by rfl) (h.fr 70) (da_cons de_int da_nil)) (own := [("k", 12)]) (blkOk_by (own := [("k", 12)]) (N := ["draws", "a", "b", "name", "ring", "named", "placed", "paired", "others", "rows", "at", "told", "k", "one"]) (sc := L2.defScope (stm 62)) (by decide +kernel)) (by rfl) (fun _ _ _ _ _ => (dg_name 12 nd__law_errors)) (fun _ _ _ _ _ => dts_nil) (fun _ _ _ _ _ => (x_cmp (c_eq hr) (de_var 12) (de_var 10))))) (dss_one (ds_ret de_bl)) dss_nil))))
  (dss_cons (ds_if ((dw_or (dt_not (dt_tru (by rfl) (x_all (hm := (h.fr 69)) (ha := (da_cons (de_lc [13] (by rfl) nd__law_errors (di_seq (by rfl) (de_var 5)) (own := [("one", 13)]) (blkOk_by (own := [("one", 13)]) (N := ["draws", "a", "b", "name", "ring", "named", "placed", "paired", "others", "rows", "at", "told", "k", "one"]) (sc := L2.defScope (stm 62)) (by decide +kernel)) (by rfl) (fun _ _ _ _ _ => (dg_name 13 nd__law_errors)) (fun _ _ _ _ _ => dts_nil) (fun _ _ _ _ _ => (x_cmp (c_eq hr) (de_xv (XTn h) 0 (de_var 13)) (de_var 3)))) da_nil))))) (dw_or1 (dt_not (dt_tru (by rfl) (x_all (hm := (h.fr 69)) (ha := (da_cons (de_lc [13] (by rfl) nd__law_errors (di_seq (by rfl) (de_var 6)) (own := [("one", 13)]) (blkOk_by (own := [("one", 13)]) (N := ["draws", "a", "b", "name", "ring", "named", "placed", "paired", "others", "rows", "at", "told", "k", "one"]) (sc := L2.defScope (stm 62)) (by decide +kernel)) (by rfl) (fun _ _ _ _ _ => (dg_name 13 nd__law_errors)) (fun _ _ _ _ _ => dts_nil) (fun _ _ _ _ _ => (x_cmp (c_eq hr) (de_xv (XTn h) 1 (de_var 13)) (de_var 1)))) da_nil)))))))).pt (dss_one (ds_ret de_bl)) dss_nil)
  (dss_cons (ds_if ((dw_or (dt_not (dt_tru (by rfl) (x_all (hm := (h.fr 69)) (ha := (da_cons (de_lc [13] (by rfl) nd__law_errors (di_seq (by rfl) (de_rd 7)) (own := [("one", 13)]) (blkOk_by (own := [("one", 13)]) (N := ["draws", "a", "b", "name", "ring", "named", "placed", "paired", "others", "rows", "at", "told", "k", "one"]) (sc := L2.defScope (stm 62)) (by decide +kernel)) (by rfl) (fun _ _ _ _ _ => (dg_name 13 nd__law_errors)) (fun _ _ _ _ _ => dts_nil) (fun _ _ _ _ _ => (de_and (x_cmp (c_eq hr) (de_xv (XTn h) 3 (de_var 13)) (de_var 1)) (de_one (x_cmp (c_eq hr) (de_xv (XTn h) 4 (de_var 13)) (de_var 2)))))) da_nil))))) (dw_or1 (y_cmp (c_ne hr) (de_xv (XTn h) 2 (x_ix hr (de_var 8) de_int)) (de_var 2))))).pt (dss_one (ds_ret de_bl)) dss_nil)
  (dss_cons (ds_asg (ws := [11]) (de_lst (da_cons (de_xv (XTn h) 3 (x_ix hr (de_var 8) de_int)) (da_cons (de_xv (XTn h) 4 (x_ix hr (de_var 8) de_int)) (da_cons (de_xv (XTn h) 5 (x_ix hr (de_var 8) de_int)) (da_cons (de_xv (XTn h) 6 (x_ix hr (de_var 8) de_int)) (da_cons (de_xv (XTn h) 7 (x_ix hr (de_var 8) de_int)) (da_cons (de_xv (XTn h) 7 (x_ix hr (de_var 8) de_int)) da_nil))))))) (dg_name 11 nd__law_errors))
  (dss_cons (ds_asg (ws := [11]) (x_add (de_var 11) (de_lst (da_cons (de_xv (XTn h) 9 (x_ix hr (de_var 8) de_int)) (da_cons (de_xv (XTn h) 10 (x_ix hr (de_var 8) de_int)) (da_cons (de_xv (XTn h) 7 (x_ix hr (de_var 8) de_int)) (da_cons (de_xv (XTn h) 8 (x_ix hr (de_var 9) de_int)) da_nil)))))) (dg_name 11 nd__law_errors))
  (dss_one (ds_ret (de_and (x_cmp (c_eq hr) (de_var 11) (de_lst (da_cons (de_var 1) (da_cons (de_var 2) (da_cons de_int (da_cons (de_var 1) (da_cons (de_var 4) (da_cons (de_var 4) (da_cons de_bl (da_cons (de_tup (da_cons (de_var 1) (da_cons (de_var 2) da_nil))) (da_cons (de_var 4) (da_cons (de_var 4) da_nil)))))))))))) (de_one (x_cmp (c_eq hr) (x_len (hm := (h.fr 61)) (ha := (da_cons (de_var 9) da_nil))) de_int))))))))))))))))))))))
theorem ok__law_errors (h : Hy K mg) : Df (Tb K mg) P w K mg base "_law_errors" 3 1 [] (runDef 13 (d__law_errors h)) := by
  obtain ⟨fd, F⟩ := h.s.d.def_ 3 (d := D__law_errors) rfl
  exact ⟨_, fd, _, [], [], fo__law_errors h F, h.gl 3, F.kp, F.bindsN (fun _ _ _ _ _ _ us hl => match us, hl with | [_], _ => rfl), .nil, fun _ => .nil⟩
theorem nd__law_entry : (["draws", "size", "word"] : List Str).Nodup := by decide +kernel
def d__law_entry : M Fl :=
  (sSeq (sAsg (tgN 2) (eCallJ 2 (runDef 0 d__law_take) [] (aConsV 0 (aConsD (eC (.int 12)) aNilJ))))
  (sSeq (sIf (tE blD (eBin (dEq false) (eVar 2) (eC (.int 8)))) (sRet (eBin dIx (eCB oLst (aCons (eUn dNeg (eC (.int 1))) (aCons (eUn dNeg (eC (.int 2))) (aCons (eUn dNeg (eVar 1)) aNil)))) (eCallJ 2 (runDef 0 d__law_take) [] (aConsV 0 (aConsD (eC (.int 3)) aNilJ))))) sNx)
  (sSeq (sIf (tE blD (eBin (dEq false) (eVar 2) (eC (.int 9)))) (sRet (eBin dAdd (eVar 1) (eCallJ 2 (runDef 0 d__law_take) [] (aConsV 0 (aConsD (eC (.int 3)) aNilJ))))) sNx)
  (sSeq (sIf (tE blD (eBin (dEq false) (eVar 2) (eC (.int 10)))) (sRet (eBin dIx (eCB oLst (aCons (eC (.bl true)) (aCons (eC (.bl false)) (aCons (eC .non) (aCons (eC (.str "0")) (aCons (eC (.str "a")) (aCons (eCB oTup (aCons (eC (.int 0)) aNil)) aNil))))))) (eCallJ 2 (runDef 0 d__law_take) [] (aConsV 0 (aConsD (eC (.int 6)) aNilJ))))) sNx)
  (sRet (eCallJ 2 (runDef 0 d__law_take) [] (aConsV 0 (aConsD (eCB oMin2 (aCons (eVar 1) (aCons (eC (.int 24)) aNil))) aNilJ))))))))
theorem sc__law_entry : FnScope ["draws", "size", "word"] ["draws", "size"] (L2.defScope (stm 49)) := ⟨rfl, rfl, rfl, nd__law_entry, rfl, by decide +kernel, by decide +kernel⟩
theorem fo__law_entry (h : Hy K mg) {f : Addr} {fd : FuncData} (F : FunD K D__law_entry.name D__law_entry.qual D__law_entry.params D__law_entry.body D__law_entry.scope (D__law_entry.dvs K) (D__law_entry.kws K) f fd) : FnOk P w K mg base (L2.CX P w) 2 f fd ["draws", "size"] (spD (Tb K mg) 2 (runDef 1 d__law_entry)) :=
  fnD_ok F sc__law_entry rfl (fun cdv A outer s H E τ hr =>
  (dss_cons (ds_asg (ws := [2]) (de_callD ((ok__law_take h).mono (by decide)) hr (takes_of rfl rfl rfl rfl) (by rfl) (dj_v 0 (dj_d de_int dj_nil))) (dg_name 2 nd__law_entry))
  (dss_cons (ds_if (y_cmp (c_eq hr) (de_var 2) de_int) (dss_one (ds_ret (x_ix hr (de_lst (da_cons (x_neg de_int) (da_cons (x_neg de_int) (da_cons (x_neg (de_var 1)) da_nil)))) (de_callD ((ok__law_take h).mono (by decide)) hr (takes_of rfl rfl rfl rfl) (by rfl) (dj_v 0 (dj_d de_int dj_nil)))))) dss_nil)
  (dss_cons (ds_if (y_cmp (c_eq hr) (de_var 2) de_int) (dss_one (ds_ret (x_add (de_var 1) (de_callD ((ok__law_take h).mono (by decide)) hr (takes_of rfl rfl rfl rfl) (by rfl) (dj_v 0 (dj_d de_int dj_nil)))))) dss_nil)
  (dss_cons (ds_if (y_cmp (c_eq hr) (de_var 2) de_int) (dss_one (ds_ret (x_ix hr (de_lst (da_cons de_bl (da_cons de_bl (da_cons de_non (da_cons de_str (da_cons de_str (da_cons (de_tup (da_cons de_int da_nil)) da_nil))))))) (de_callD ((ok__law_take h).mono (by decide)) hr (takes_of rfl rfl rfl rfl) (by rfl) (dj_v 0 (dj_d de_int dj_nil)))))) dss_nil)
  (dss_one (ds_ret (de_callD ((ok__law_take h).mono (by decide)) hr (takes_of rfl rfl rfl rfl) (by rfl) (dj_v 0 (dj_d (x_min (hm := (h.fr 66)) (ha := (da_cons (de_var 1) (da_cons de_int da_nil)))) dj_nil))))))))))
theorem ok__law_entry (h : Hy K mg) : Df (Tb K mg) P w K mg base "_law_entry" 2 2 [] (runDef 1 d__law_entry) := by
  obtain ⟨fd, F⟩ := h.s.d.def_ 4 (d := D__law_entry) rfl
  exact ⟨_, fd, _, [], [], fo__law_entry h F, h.gl 4, F.kp, F.bindsN (fun _ _ _ _ _ _ us hl => match us, hl with | [_, _], _ => rfl), .nil, fun _ => .nil⟩
theorem nd__law_two : (["draws", "size", "word", "first", "second", "k"] : List Str).Nodup := by decide +kernel
def d__law_two : M Fl :=
  (sSeq (sAsg (tgN 2) (eCallJ 2 (runDef 0 d__law_take) [] (aConsV 0 (aConsD (eC (.int 12)) aNilJ))))
  (sSeq (sIf (tE blD (eBin (dEq false) (eVar 2) (eC (.int 10)))) (sRet (eLc (iRng1D (aCons (eBin dIx (eCB oLst (aCons (eC (.int 1)) (aCons (eC (.int 3)) (aCons (eC (.int 0)) aNil)))) (eCallJ 2 (runDef 0 d__law_take) [] (aConsV 0 (aConsD (eC (.int 3)) aNilJ)))) aNil)) (tgN 5) (ret true) (eCallJ 2 (runDef 1 d__law_entry) [] (aConsV 0 (aConsD (eVar 1) aNilJ))) [5])) sNx)
  (sSeq (sIf (tE blD (eBin (dEq false) (eVar 2) (eC (.int 11)))) (sRet (eBin dIx (eCB oLst (aCons (eC .non) (aCons (eC (.int 5)) (aCons (eC (.str "01")) aNil)))) (eCallJ 2 (runDef 0 d__law_take) [] (aConsV 0 (aConsD (eC (.int 3)) aNilJ))))) sNx)
  (sSeq (sAsg (tgN 3) (eCallJ 2 (runDef 1 d__law_entry) [] (aConsV 0 (aConsD (eVar 1) aNilJ))))
  (sSeq (sAsg (tgN 4) (eCallJ 2 (runDef 1 d__law_entry) [] (aConsV 0 (aConsD (eVar 1) aNilJ))))
  (sSeq (sIf (tE blD (eBin (dIn false) (eVar 2) (eCB oTup (aCons (eC (.int 2)) (aCons (eC (.int 5)) aNil))))) (sRet (eCB oTup (aCons (eVar 3) (aCons (eVar 4) aNil)))) sNx)
  (sRet (eCB oLst (aCons (eVar 3) (aCons (eVar 4) aNil))))))))))
theorem sc__law_two : FnScope ["draws", "size", "word", "first", "second", "k"] ["draws", "size"] (L2.defScope (stm 51)) := ⟨rfl, rfl, rfl, nd__law_two, rfl, by decide +kernel, by decide +kernel⟩
theorem fo__law_two (h : Hy K mg) {f : Addr} {fd : FuncData} (F : FunD K D__law_two.name D__law_two.qual D__law_two.params D__law_two.body D__law_two.scope (D__law_two.dvs K) (D__law_two.kws K) f fd) : FnOk P w K mg base (L2.CX P w) 3 f fd ["draws", "size"] (spD (Tb K mg) 2 (runDef 4 d__law_two)) :=
  fnD_ok F sc__law_two rfl (fun cdv A outer s H E τ hr =>
  (dss_cons (ds_asg (ws := [2]) (de_callD ((ok__law_take h).mono (by decide)) hr (takes_of rfl rfl rfl rfl) (by rfl) (dj_v 0 (dj_d de_int dj_nil))) (dg_name 2 nd__law_two))
  (dss_cons (ds_if (y_cmp (c_eq hr) (de_var 2) de_int) (dss_one (ds_ret (de_lc [5] (by rfl) nd__law_two (di_rng1 (by rfl) (h.fr 70) (da_cons (x_ix hr (de_lst (da_cons de_int (da_cons de_int (da_cons de_int da_nil)))) (de_callD ((ok__law_take h).mono (by decide)) hr (takes_of rfl rfl rfl rfl) (by rfl) (dj_v 0 (dj_d de_int dj_nil)))) da_nil)) (own := [("k", 5)]) (blkOk_by (own := [("k", 5)]) (N := ["draws", "size", "word", "first", "second", "k"]) (sc := L2.defScope (stm 51)) (by decide +kernel)) (by rfl) (fun _ _ _ _ _ => (dg_name 5 nd__law_two)) (fun _ _ _ _ _ => dts_nil) (fun _ _ _ _ _ => (de_callD ((ok__law_entry h).mono (by decide)) hr takes0 (by rfl) (dj_v 0 (dj_d (de_var 1) dj_nil))))))) dss_nil)
  (dss_cons (ds_if (y_cmp (c_eq hr) (de_var 2) de_int) (dss_one (ds_ret (x_ix hr (de_lst (da_cons de_non (da_cons de_int (da_cons de_str da_nil)))) (de_callD ((ok__law_take h).mono (by decide)) hr (takes_of rfl rfl rfl rfl) (by rfl) (dj_v 0 (dj_d de_int dj_nil)))))) dss_nil)
  (dss_cons (ds_asg (ws := [3]) (de_callD ((ok__law_entry h).mono (by decide)) hr (takes_of rfl rfl rfl rfl) (by rfl) (dj_v 0 (dj_d (de_var 1) dj_nil))) (dg_name 3 nd__law_two))
  (dss_cons (ds_asg (ws := [4]) (de_callD ((ok__law_entry h).mono (by decide)) hr (takes_of rfl rfl rfl rfl) (by rfl) (dj_v 0 (dj_d (de_var 1) dj_nil))) (dg_name 4 nd__law_two))
  (dss_cons (ds_if (y_cmp (c_in hr) (de_var 2) (de_tup (da_cons de_int (da_cons de_int da_nil)))) (dss_one (ds_ret (de_tup (da_cons (de_var 3) (da_cons (de_var 4) da_nil))))) dss_nil)
  (dss_one (ds_ret (de_lst (da_cons (de_var 3) (da_cons (de_var 4) da_nil))))))))))))
theorem ok__law_two (h : Hy K mg) : Df (Tb K mg) P w K mg base "_law_two" 3 2 [] (runDef 4 d__law_two) := by
  obtain ⟨fd, F⟩ := h.s.d.def_ 5 (d := D__law_two) rfl
  exact ⟨_, fd, _, [], [], fo__law_two h F, h.gl 5, F.kp, F.bindsN (fun _ _ _ _ _ _ us hl => match us, hl with | [_, _], _ => rfl), .nil, fun _ => .nil⟩
theorem nd__law_several : (["draws", "size", "pairs", "word", "many", "rows", "k", "at"] : List Str).Nodup := by decide +kernel
def d__law_several : M Fl :=
  (sSeq (sAsg (tgN 3) (eCallJ 2 (runDef 0 d__law_take) [] (aConsV 0 (aConsD (eC (.int 16)) aNilJ))))
  (sSeq (sIf (tE blD (eBin (dEq false) (eVar 3) (eC (.int 15)))) (sRet (eBin dIx (eCB oLst (aCons (eC .non) (aCons (eC (.int 3)) (aCons (eC (.str "01")) (aCons (eC (.bl true)) aNil))))) (eCallJ 2 (runDef 0 d__law_take) [] (aConsV 0 (aConsD (eC (.int 4)) aNilJ))))) sNx)
  (sSeq (sAsg (tgN 4) (eBin dIx (eCB oLst (aCons (eC (.int 2)) (aCons (eC (.int 1)) (aCons (eC (.int 3)) (aCons (eC (.int 0)) (aCons (eC (.int 4)) (aCons (eC (.int 5)) (aCons (eC (.int 6)) (aCons (eC (.int 7)) (aCons (eC (.int 8)) aNil)))))))))) (eCallJ 2 (runDef 0 d__law_take) [] (aConsV 0 (aConsD (eC (.int 9)) aNilJ)))))
  (sSeq (sSet 5 (eCB oLst aNil))
  (sSeq (sFor (iRng1D (aCons (eVar 4) aNil)) (tgN 6) (sIf (tE dTru (eVar 2)) (sExpr (eMut 5 mAppend (aCons (eCallJ 2 (runDef 4 d__law_two) [] (aConsV 0 (aConsD (eVar 1) aNilJ))) aNil))) (sExpr (eMut 5 mAppend (aCons (eCallJ 2 (runDef 1 d__law_entry) [] (aConsV 0 (aConsD (eVar 1) aNilJ))) aNil)))))
  (sSeq (sIf (tAnd (tNot (tE dTru (eVar 2))) (tE blD (eBin (dIn false) (eVar 3) (eCB oTup (aCons (eC (.int 11)) (aCons (eC (.int 12)) (aCons (eC (.int 13)) aNil))))))) (sSeq (sSet 5 (eLc (iRng1D (aCons (eVar 1) aNil)) (tgN 6) (ret true) (eBin dMod (eCB oInt (aCons (eBin dAdd (eVar 6) (eVar 4)) aNil)) (eVar 1)) [6]))
  (sIf (tE blD (eBin (dEq false) (eVar 3) (eC (.int 13)))) (sSeq (sAsg (tgN 7) (eCallJ 2 (runDef 0 d__law_take) [] (aConsV 0 (aConsD (eCB oMin2 (aCons (eVar 1) (aCons (eC (.int 24)) aNil))) aNilJ))))
  (sStore 5 (eCallJ 2 (runDef 1 d__law_entry) [] (aConsV 0 (aConsD (eVar 1) aNilJ))) (eVar 7))) sNx)) sNx)
  (sSeq (sIf (tE blD (eBin (dIn false) (eVar 3) (eCB oTup (aCons (eC (.int 3)) (aCons (eC (.int 7)) (aCons (eC (.int 12)) aNil)))))) (sRet (eCB oTuple (aCons (eRd 5) aNil))) sNx)
  (sRet (eTake 5)))))))))
theorem sc__law_several : FnScope ["draws", "size", "pairs", "word", "many", "rows", "k", "at"] ["draws", "size", "pairs"] (L2.defScope (stm 52)) := ⟨rfl, rfl, rfl, nd__law_several, rfl, by decide +kernel, by decide +kernel⟩
theorem fo__law_several (h : Hy K mg) {f : Addr} {fd : FuncData} (F : FunD K D__law_several.name D__law_several.qual D__law_several.params D__law_several.body D__law_several.scope (D__law_several.dvs K) (D__law_several.kws K) f fd) : FnOk P w K mg base (L2.CX P w) 4 f fd ["draws", "size", "pairs"] (spD (Tb K mg) 3 (runDef 5 d__law_several)) :=
  fnD_ok F sc__law_several rfl (fun cdv A outer s H E τ hr =>
  (dss_cons (ds_asg (ws := [3]) (de_callD ((ok__law_take h).mono (by decide)) hr (takes_of rfl rfl rfl rfl) (by rfl) (dj_v 0 (dj_d de_int dj_nil))) (dg_name 3 nd__law_several))
  (dss_cons (ds_if (y_cmp (c_eq hr) (de_var 3) de_int) (dss_one (ds_ret (x_ix hr (de_lst (da_cons de_non (da_cons de_int (da_cons de_str (da_cons de_bl da_nil))))) (de_callD ((ok__law_take h).mono (by decide)) hr (takes_of rfl rfl rfl rfl) (by rfl) (dj_v 0 (dj_d de_int dj_nil)))))) dss_nil)
  (dss_cons (ds_asg (ws := [4]) (x_ix hr (de_lst (da_cons de_int (da_cons de_int (da_cons de_int (da_cons de_int (da_cons de_int (da_cons de_int (da_cons de_int (da_cons de_int (da_cons de_int da_nil)))))))))) (de_callD ((ok__law_take h).mono (by decide)) hr (takes_of rfl rfl rfl rfl) (by rfl) (dj_v 0 (dj_d de_int dj_nil)))) (dg_name 4 nd__law_several))
  (dss_cons (ds_set 5 (de_lst da_nil) nd__law_several)
  (dss_cons (ds_for [6] (passes_of rfl) rfl (di_rng1 (by rfl) (h.fr 70) (da_cons (de_var 4) da_nil)) (dg_name 6 nd__law_several) (dss_one (ds_if (dt_tru (by rfl) (de_var 2)) (dss_one (ds_expr (x_append 5 (ha := (da_cons (de_callD ((ok__law_two h).mono (by decide)) hr (takes_of rfl rfl rfl rfl) (by rfl) (dj_v 0 (dj_d (de_var 1) dj_nil))) da_nil))))) (dss_one (ds_expr (x_append 5 (ha := (da_cons (de_callD ((ok__law_entry h).mono (by decide)) hr (takes_of rfl rfl rfl rfl) (by rfl) (dj_v 0 (dj_d (de_var 1) dj_nil))) da_nil))))))))
  (dss_cons (ds_if ((dw_and (dt_not (dt_tru (by rfl) (de_var 2))) (dw_and1 (y_cmp (c_in hr) (de_var 3) (de_tup (da_cons de_int (da_cons de_int (da_cons de_int da_nil)))))))).pt (dss_cons (ds_setLc [6] (by rfl) nd__law_several (di_rng1 (by rfl) (h.fr 70) (da_cons (de_var 1) da_nil)) (own := [("k", 6)]) (blkOk_by (own := [("k", 6)]) (N := ["draws", "size", "pairs", "word", "many", "rows", "k", "at"]) (sc := L2.defScope (stm 52)) (by decide +kernel)) (by rfl) (fun _ _ _ _ _ => (dg_name 6 nd__law_several)) (fun _ _ _ _ _ => dts_nil) (fun _ _ _ _ _ => (x_mod (x_int (hm := (h.fr 62)) (ha := (da_cons (x_add (de_var 6) (de_var 4)) da_nil))) (de_var 1))) 5)
  (dss_one (ds_if (y_cmp (c_eq hr) (de_var 3) de_int) (dss_cons (ds_asg (ws := [7]) (de_callD ((ok__law_take h).mono (by decide)) hr (takes_of rfl rfl rfl rfl) (by rfl) (dj_v 0 (dj_d (x_min (hm := (h.fr 66)) (ha := (da_cons (de_var 1) (da_cons de_int da_nil)))) dj_nil))) (dg_name 7 nd__law_several))
  (dss_one (ds_store 5 hr (de_callD ((ok__law_entry h).mono (by decide)) hr (takes_of rfl rfl rfl rfl) (by rfl) (dj_v 0 (dj_d (de_var 1) dj_nil))) (de_var 7)))) dss_nil))) dss_nil)
  (dss_cons (ds_if (y_cmp (c_in hr) (de_var 3) (de_tup (da_cons de_int (da_cons de_int (da_cons de_int da_nil))))) (dss_one (ds_ret (x_tuple (hm := (h.fr 63)) (ha := (da_cons (de_rd 5) da_nil))))) dss_nil)
  (dss_one (ds_ret (de_take 5)))))))))))
theorem ok__law_several (h : Hy K mg) : Df (Tb K mg) P w K mg base "_law_several" 4 3 [] (runDef 5 d__law_several) := by
  obtain ⟨fd, F⟩ := h.s.d.def_ 6 (d := D__law_several) rfl
  exact ⟨_, fd, _, [], [], fo__law_several h F, h.gl 6, F.kp, F.bindsN (fun _ _ _ _ _ _ us hl => match us, hl with | [_, _, _], _ => rfl), .nil, fun _ => .nil⟩
theorem nd__law_int : (["value"] : List Str).Nodup := by decide +kernel
def d__law_int (h : Hy K mg) : M Fl :=
  (sRet (eAndV (eCB (oIsi (XTn h)) (aCons (eVar 0) (aCons (eC (.ty 0)) aNil))) (eNotV (eCB (oIsi (XTn h)) (aCons (eVar 0) (aCons (eC (.ty 1)) aNil))))))
theorem sc__law_int : FnScope ["value"] ["value"] (L2.defScope (stm 48)) := ⟨rfl, rfl, rfl, nd__law_int, rfl, by decide +kernel, by decide +kernel⟩
theorem fo__law_int (h : Hy K mg) {f : Addr} {fd : FuncData} (F : FunD K D__law_int.name D__law_int.qual D__law_int.params D__law_int.body D__law_int.scope (D__law_int.dvs K) (D__law_int.kws K) f fd) : FnOk P w K mg base (L2.CX P w) 1 f fd ["value"] (spD (Tb K mg) 1 (runDef 0 (d__law_int h))) :=
  fnD_ok F sc__law_int rfl (fun cdv A outer s H E τ hr =>
  (dss_one (ds_ret (de_and (de_isi (by rfl) (XTn h) (by rfl) (h.fr 72) (da_cons (de_var 0) (da_cons (de_ty 0 (by rfl) (h.fr 62) PyProof.Rows.Boot.«int») da_nil))) (de_one (de_not (de_isi (by rfl) (XTn h) (by rfl) (h.fr 72) (da_cons (de_var 0) (da_cons (de_ty 1 (by rfl) (h.fr 73) PyProof.Rows.Boot.«bool») da_nil)))))))))
theorem ok__law_int (h : Hy K mg) : Df (Tb K mg) P w K mg base "_law_int" 1 1 [] (runDef 0 (d__law_int h)) := by
  obtain ⟨fd, F⟩ := h.s.d.def_ 7 (d := D__law_int) rfl
  exact ⟨_, fd, _, [], [], fo__law_int h F, h.gl 7, F.kp, F.bindsN (fun _ _ _ _ _ _ us hl => match us, hl with | [_], _ => rfl), .nil, fun _ => .nil⟩
theorem nd__law_is_thing : (["value", "size"] : List Str).Nodup := by decide +kernel
def d__law_is_thing (h : Hy K mg) : M Fl :=
  (sRet (eAndV (eCallJ 1 (runDef 0 (d__law_int h)) [] (aConsD (eVar 0) aNilJ)) (eChain (dI2 fun i j => decide (i ≤ j)) dLt (eC (.int 0)) (eVar 0) (eVar 1))))
theorem sc__law_is_thing : FnScope ["value", "size"] ["value", "size"] (L2.defScope (stm 50)) := ⟨rfl, rfl, rfl, nd__law_is_thing, rfl, by decide +kernel, by decide +kernel⟩
theorem fo__law_is_thing (h : Hy K mg) {f : Addr} {fd : FuncData} (F : FunD K D__law_is_thing.name D__law_is_thing.qual D__law_is_thing.params D__law_is_thing.body D__law_is_thing.scope (D__law_is_thing.dvs K) (D__law_is_thing.kws K) f fd) : FnOk P w K mg base (L2.CX P w) 2 f fd ["value", "size"] (spD (Tb K mg) 2 (runDef 0 (d__law_is_thing h))) :=
  fnD_ok F sc__law_is_thing rfl (fun cdv A outer s H E τ hr =>
  (dss_one (ds_ret (de_and (de_callD ((ok__law_int h).mono (by decide)) hr (takes_of rfl rfl rfl rfl) (by rfl) (dj_d (de_var 0) dj_nil)) (de_one (x_chain c_le (c_lt hr) de_int (de_var 0) (de_var 1)))))))
theorem ok__law_is_thing (h : Hy K mg) : Df (Tb K mg) P w K mg base "_law_is_thing" 2 2 [] (runDef 0 (d__law_is_thing h)) := by
  obtain ⟨fd, F⟩ := h.s.d.def_ 8 (d := D__law_is_thing) rfl
  exact ⟨_, fd, _, [], [], fo__law_is_thing h F, h.gl 8, F.kp, F.bindsN (fun _ _ _ _ _ _ us hl => match us, hl with | [_, _], _ => rfl), .nil, fun _ => .nil⟩
theorem nd__law_first_bad : (["value", "size", "seen", "at"] : List Str).Nodup := by decide +kernel
def d__law_first_bad (h : Hy K mg) : M Fl :=
  (sSeq (sSet 2 (eCB oLst aNil))
  (sSeq (sFor (iRng1D (aCons (eCB oLen (aCons (eVar 0) aNil)) aNil)) (tgN 3) (sSeq (sIf (tOr (tNot (tE dTru (eCallJ 2 (runDef 0 (d__law_is_thing h)) [] (aConsD (eBin dIx (eVar 0) (eVar 3)) (aConsD (eVar 1) aNilJ))))) (evT [0, 2, 3] [] (tE blD (eBin (dIn false) (eBin dIx (eVar 0) (eVar 3)) (eVar 2))))) (sRet (eVar 3)) sNx)
  (sExpr (eMut 2 mAppend (aCons (eBin dIx (eVar 0) (eVar 3)) aNil)))))
  (sRet (eUn dNeg (eC (.int 1))))))
theorem sc__law_first_bad : FnScope ["value", "size", "seen", "at"] ["value", "size"] (L2.defScope (stm 54)) := ⟨rfl, rfl, rfl, nd__law_first_bad, rfl, by decide +kernel, by decide +kernel⟩
theorem fo__law_first_bad (h : Hy K mg) {f : Addr} {fd : FuncData} (F : FunD K D__law_first_bad.name D__law_first_bad.qual D__law_first_bad.params D__law_first_bad.body D__law_first_bad.scope (D__law_first_bad.dvs K) (D__law_first_bad.kws K) f fd) : FnOk P w K mg base (L2.CX P w) 3 f fd ["value", "size"] (spD (Tb K mg) 2 (runDef 2 (d__law_first_bad h))) :=
  fnD_ok F sc__law_first_bad rfl (fun cdv A outer s H E τ hr =>
  (dss_cons (ds_set 2 (de_lst da_nil) nd__law_first_bad)
  (dss_cons (ds_for [3] (passes_of rfl) rfl (di_rng1 (by rfl) (h.fr 70) (da_cons (x_len (hm := (h.fr 61)) (ha := (da_cons (de_var 0) da_nil))) da_nil)) (dg_name 3 nd__law_first_bad) (dss_cons (ds_if ((dw_or (dt_not (dt_tru (by rfl) (de_callD ((ok__law_is_thing h).mono (by decide)) hr (takes_of rfl rfl rfl rfl) (by rfl) (dj_d (x_ix hr (de_var 0) (de_var 3)) (dj_d (de_var 1) dj_nil))))) (dw_or1 (dt_ev [0, 2, 3] [] (y_cmp (c_in hr) (x_ix hr (de_var 0) (de_var 3)) (de_var 2)))))).pt (dss_one (ds_ret (de_var 3))) dss_nil)
  (dss_one (ds_expr (x_append 2 (ha := (da_cons (x_ix hr (de_var 0) (de_var 3)) da_nil)))))))
  (dss_one (ds_ret (x_neg de_int))))))
theorem ok__law_first_bad (h : Hy K mg) : Df (Tb K mg) P w K mg base "_law_first_bad" 3 2 [] (runDef 2 (d__law_first_bad h)) := by
  obtain ⟨fd, F⟩ := h.s.d.def_ 9 (d := D__law_first_bad) rfl
  exact ⟨_, fd, _, [], [], fo__law_first_bad h F, h.gl 9, F.kp, F.bindsN (fun _ _ _ _ _ _ us hl => match us, hl with | [_, _], _ => rfl), .nil, fun _ => .nil⟩
theorem nd__law_due_things : (["value", "size", "word", "at", "bad"] : List Str).Nodup := by decide +kernel
def d__law_due_things (h : Hy K mg) : M Fl :=
  (sSeq (sIf (tE blD (eBin (dEq false) (eVar 2) (eC (.int 2)))) (sAsg (tgN 4) (eOrV (eNotV (eCB (oIsi (XTn h)) (aCons (eVar 0) (aCons (eCB oTup (aCons (eC (.ty 3)) (aCons (eC (.ty 4)) aNil))) aNil)))) (eBin (dEq true) (eCB oLen (aCons (eVar 0) aNil)) (eVar 1)))) (sAsg (tgN 4) (eOrV (eNotV (eCB (oIsi (XTn h)) (aCons (eVar 0) (aCons (eCB oTup (aCons (eC (.ty 3)) (aCons (eC (.ty 4)) aNil))) aNil)))) (eAndV (eBin (dEq false) (eCB oLen (aCons (eVar 0) aNil)) (eC (.int 0))) (eBin (dEq false) (eVar 2) (eC (.int 0)))))))
  (sSeq (sAsg (tgN 3) (eUn dNeg (eC (.int 1))))
  (sSeq (sIf (tNot (tE dTru (eVar 4))) (sAsg (tgN 3) (eCallJ 2 (runDef 2 (d__law_first_bad h)) [] (aConsD (eVar 0) (aConsD (eVar 1) aNilJ)))) sNx)
  (sSeq (sIf (tOr (tE dTru (eVar 4)) (tE blD (eBin (dI2 fun i j => decide (j ≤ i)) (eVar 3) (eC (.int 0))))) (sRet (eCB oLst (aCons (eBin dIx (eCB oLst (aCons (eC (.str "lot")) (aCons (eC (.str "lot")) (aCons (eC (.str "row")) aNil)))) (eVar 2)) (aCons (eVar 3) aNil)))) sNx)
  (sSeq (sIf (tE blD (eBin (dEq false) (eVar 2) (eC (.int 2)))) (sRet (eCB oLst (aCons (eC (.str "told")) (aCons (eCB oTuple (aCons (eVar 0) aNil)) aNil)))) sNx)
  (sRet (eCB oLst (aCons (eC (.str "told")) (aCons (eCB oTuple (aCons (eCB oSorted (aCons (eVar 0) aNil)) aNil)) aNil)))))))))
theorem sc__law_due_things : FnScope ["value", "size", "word", "at", "bad"] ["value", "size", "word"] (L2.defScope (stm 55)) := ⟨rfl, rfl, rfl, nd__law_due_things, rfl, by decide +kernel, by decide +kernel⟩
theorem fo__law_due_things (h : Hy K mg) {f : Addr} {fd : FuncData} (F : FunD K D__law_due_things.name D__law_due_things.qual D__law_due_things.params D__law_due_things.body D__law_due_things.scope (D__law_due_things.dvs K) (D__law_due_things.kws K) f fd) : FnOk P w K mg base (L2.CX P w) 4 f fd ["value", "size", "word"] (spD (Tb K mg) 3 (runDef 2 (d__law_due_things h))) :=
  fnD_ok F sc__law_due_things rfl (fun cdv A outer s H E τ hr =>
  (dss_cons (ds_if (y_cmp (c_eq hr) (de_var 2) de_int) (dss_one (ds_asg (ws := [4]) (de_or (de_not (de_isi (by rfl) (XTn h) (by rfl) (h.fr 72) (da_cons (de_var 0) (da_cons (de_tup (da_cons (de_ty 3 (by rfl) (h.fr 64) PyProof.Rows.Boot.«list») (da_cons (de_ty 4 (by rfl) (h.fr 63) PyProof.Rows.Boot.«tuple») da_nil))) da_nil)))) (de_one (x_cmp (c_ne hr) (x_len (hm := (h.fr 61)) (ha := (da_cons (de_var 0) da_nil))) (de_var 1)))) (dg_name 4 nd__law_due_things))) (dss_one (ds_asg (ws := [4]) (de_or (de_not (de_isi (by rfl) (XTn h) (by rfl) (h.fr 72) (da_cons (de_var 0) (da_cons (de_tup (da_cons (de_ty 3 (by rfl) (h.fr 64) PyProof.Rows.Boot.«list») (da_cons (de_ty 4 (by rfl) (h.fr 63) PyProof.Rows.Boot.«tuple») da_nil))) da_nil)))) (de_one (de_and (x_cmp (c_eq hr) (x_len (hm := (h.fr 61)) (ha := (da_cons (de_var 0) da_nil))) de_int) (de_one (x_cmp (c_eq hr) (de_var 2) de_int))))) (dg_name 4 nd__law_due_things))))
  (dss_cons (ds_asg (ws := [3]) (x_neg de_int) (dg_name 3 nd__law_due_things))
  (dss_cons (ds_if (dt_not (dt_tru (by rfl) (de_var 4))) (dss_one (ds_asg (ws := [3]) (de_callD ((ok__law_first_bad h).mono (by decide)) hr (takes_of rfl rfl rfl rfl) (by rfl) (dj_d (de_var 0) (dj_d (de_var 1) dj_nil))) (dg_name 3 nd__law_due_things))) dss_nil)
  (dss_cons (ds_if ((dw_or (dt_tru (by rfl) (de_var 4)) (dw_or1 (y_cmp c_ge (de_var 3) de_int)))).pt (dss_one (ds_ret (de_lst (da_cons (x_ix hr (de_lst (da_cons de_str (da_cons de_str (da_cons de_str da_nil)))) (de_var 2)) (da_cons (de_var 3) da_nil))))) dss_nil)
  (dss_cons (ds_if (y_cmp (c_eq hr) (de_var 2) de_int) (dss_one (ds_ret (de_lst (da_cons de_str (da_cons (x_tuple (hm := (h.fr 63)) (ha := (da_cons (de_var 0) da_nil))) da_nil))))) dss_nil)
  (dss_one (ds_ret (de_lst (da_cons de_str (da_cons (x_tuple (hm := (h.fr 63)) (ha := (da_cons (x_sorted (hm := (h.fr 67)) (ha := (da_cons (de_var 0) da_nil))) da_nil))) da_nil)))))))))))
theorem ok__law_due_things (h : Hy K mg) : Df (Tb K mg) P w K mg base "_law_due_things" 4 3 [] (runDef 2 (d__law_due_things h)) := by
  obtain ⟨fd, F⟩ := h.s.d.def_ 10 (d := D__law_due_things) rfl
  exact ⟨_, fd, _, [], [], fo__law_due_things h F, h.gl 10, F.kp, F.bindsN (fun _ _ _ _ _ _ us hl => match us, hl with | [_, _, _], _ => rfl), .nil, fun _ => .nil⟩
theorem nd_is_integer : (["value"] : List Str).Nodup := by decide +kernel
def d_is_integer (h : Hy K mg) : M Fl :=
  (sRet (eAndV (eCB (oIsi (XTn h)) (aCons (eVar 0) (aCons (eC (.ty 0)) aNil))) (eNotV (eCB (oIsi (XTn h)) (aCons (eVar 0) (aCons (eC (.ty 1)) aNil))))))
theorem sc_is_integer : FnScope ["value"] ["value"] (L2.defScope (stm 33)) := ⟨rfl, rfl, rfl, nd_is_integer, rfl, by decide +kernel, by decide +kernel⟩
theorem fo_is_integer (h : Hy K mg) {f : Addr} {fd : FuncData} (F : FunD K D_is_integer.name D_is_integer.qual D_is_integer.params D_is_integer.body D_is_integer.scope (D_is_integer.dvs K) (D_is_integer.kws K) f fd) : FnOk P w K mg base (L2.CX P w) 1 f fd ["value"] (spD (Tb K mg) 1 (runDef 0 (d_is_integer h))) :=
  fnD_ok F sc_is_integer rfl (fun cdv A outer s H E τ hr =>
  (dss_one (ds_ret (de_and (de_isi (by rfl) (XTn h) (by rfl) (h.fr 72) (da_cons (de_var 0) (da_cons (de_ty 0 (by rfl) (h.fr 62) PyProof.Rows.Boot.«int») da_nil))) (de_one (de_not (de_isi (by rfl) (XTn h) (by rfl) (h.fr 72) (da_cons (de_var 0) (da_cons (de_ty 1 (by rfl) (h.fr 73) PyProof.Rows.Boot.«bool») da_nil)))))))))
theorem ok_is_integer (h : Hy K mg) : Df (Tb K mg) P w K mg base "is_integer" 1 1 [] (runDef 0 (d_is_integer h)) := by
  obtain ⟨fd, F⟩ := h.s.d.def_ 11 (d := D_is_integer) rfl
  exact ⟨_, fd, _, [], [], fo_is_integer h F, h.gl 11, F.kp, F.bindsN (fun _ _ _ _ _ _ us hl => match us, hl with | [_], _ => rfl), .nil, fun _ => .nil⟩
theorem nd_is_thing : (["size", "value"] : List Str).Nodup := by decide +kernel
def d_is_thing (h : Hy K mg) : M Fl :=
  (sRet (eAndV (eCallJ 1 (runDef 0 (d_is_integer h)) [] (aConsD (eVar 1) aNilJ)) (eChain (dI2 fun i j => decide (i ≤ j)) dLt (eC (.int 0)) (eVar 1) (eVar 0))))
theorem sc_is_thing : FnScope ["size", "value"] ["size", "value"] (L2.defScope (stm 34)) := ⟨rfl, rfl, rfl, nd_is_thing, rfl, by decide +kernel, by decide +kernel⟩
theorem fo_is_thing (h : Hy K mg) {f : Addr} {fd : FuncData} (F : FunD K D_is_thing.name D_is_thing.qual D_is_thing.params D_is_thing.body D_is_thing.scope (D_is_thing.dvs K) (D_is_thing.kws K) f fd) : FnOk P w K mg base (L2.CX P w) 2 f fd ["size", "value"] (spD (Tb K mg) 2 (runDef 0 (d_is_thing h))) :=
  fnD_ok F sc_is_thing rfl (fun cdv A outer s H E τ hr =>
  (dss_one (ds_ret (de_and (de_callD ((ok_is_integer h).mono (by decide)) hr (takes_of rfl rfl rfl rfl) (by rfl) (dj_d (de_var 1) dj_nil)) (de_one (x_chain c_le (c_lt hr) de_int (de_var 1) (de_var 0)))))))
theorem ok_is_thing (h : Hy K mg) : Df (Tb K mg) P w K mg base "is_thing" 2 2 [] (runDef 0 (d_is_thing h)) := by
  obtain ⟨fd, F⟩ := h.s.d.def_ 12 (d := D_is_thing) rfl
  exact ⟨_, fd, _, [], [], fo_is_thing h F, h.gl 12, F.kp, F.bindsN (fun _ _ _ _ _ _ us hl => match us, hl with | [_, _], _ => rfl), .nil, fun _ => .nil⟩
theorem nd_thing_of : (["size", "value", "name"] : List Str).Nodup := by decide +kernel
def d_thing_of (h : Hy K mg) : M Fl :=
  (sSeq (sIf (tNot (tE dTru (eCallJ 2 (runDef 0 (d_is_thing h)) [] (aConsD (eVar 0) (aConsD (eVar 1) aNilJ))))) (sRaise 2 [0] (aCons (eVar 2) aNil)) sNx)
  (sRet (eVar 1)))
theorem sc_thing_of : FnScope ["size", "value", "name"] ["size", "value", "name"] (L2.defScope (stm 36)) := ⟨rfl, rfl, rfl, nd_thing_of, rfl, by decide +kernel, by decide +kernel⟩
theorem fo_thing_of (h : Hy K mg) {f : Addr} {fd : FuncData} (F : FunD K D_thing_of.name D_thing_of.qual D_thing_of.params D_thing_of.body D_thing_of.scope (D_thing_of.dvs K) (D_thing_of.kws K) f fd) : FnOk P w K mg base (L2.CX P w) 3 f fd ["size", "value", "name"] (spD (Tb K mg) 3 (runDef 0 (d_thing_of h))) :=
  fnD_ok F sc_thing_of rfl (fun cdv A outer s H E τ hr =>
  (dss_cons (ds_if (dt_not (dt_tru (by rfl) (de_callD ((ok_is_thing h).mono (by decide)) hr (takes_of rfl rfl rfl rfl) (by rfl) (dj_d (de_var 0) (dj_d (de_var 1) dj_nil))))) (dss_one (x_raise (cx_BadThing h) (takes_of rfl rfl rfl rfl) (hr.mono (by decide)) (da_cons (de_var 2) da_nil))) dss_nil)
  (dss_one (ds_ret (de_var 1)))))
theorem ok_thing_of_2 (h : Hy K mg) : Df (Tb K mg) P w K mg base "thing_of" 3 3 [(.str "thing")] (runDef 0 (d_thing_of h)) := by
  obtain ⟨fd, F⟩ := h.s.d.def_ 13 (d := D_thing_of) rfl
  obtain ⟨ds, h1, h2⟩ := FunD.binds1 (ps := ["size", "value", "name"]) F 2 0 (by intro z; cases z) rfl (fun T kV doc pm an cdv ct us its l1 l2 => match us, its, l1, l2 with | [_, _], [_], _, _ => ⟨_, rfl, rfl⟩)
  exact ⟨_, fd, _, ds, _, fo_thing_of h F, h.gl 13, F.kp, h2, h1, fun _ => (.cons (.str _) .nil)⟩
theorem ok_thing_of_3 (h : Hy K mg) : Df (Tb K mg) P w K mg base "thing_of" 3 3 [] (runDef 0 (d_thing_of h)) := by
  obtain ⟨fd, F⟩ := h.s.d.def_ 13 (d := D_thing_of) rfl
  obtain ⟨ds, h1, h2⟩ := FunD.binds1 (ps := ["size", "value", "name"]) F 3 1 (by intro z; cases z) rfl (fun T kV doc pm an cdv ct us its l1 l2 => match us, its, l1, l2 with | [_, _, _], [_], _, _ => ⟨_, rfl, rfl⟩)
  exact ⟨_, fd, _, ds, _, fo_thing_of h F, h.gl 13, F.kp, h2, h1, fun _ => .nil⟩
theorem nd_number_of_kind : (["value", "low", "high", "name"] : List Str).Nodup := by decide +kernel
def d_number_of_kind (h : Hy K mg) : M Fl :=
  (sSeq (sIf (tOr (tNot (tE dTru (eCallJ 1 (runDef 0 (d_is_integer h)) [] (aConsD (eVar 0) aNilJ)))) (tNot (tE blD (eChain (dI2 fun i j => decide (i ≤ j)) (dI2 fun i j => decide (i ≤ j)) (eVar 1) (eVar 0) (eVar 2))))) (sRaise 1 [0] (aCons (eVar 3) aNil)) sNx)
  (sRet (eVar 0)))
theorem sc_number_of_kind : FnScope ["value", "low", "high", "name"] ["value", "low", "high", "name"] (L2.defScope (stm 37)) := ⟨rfl, rfl, rfl, nd_number_of_kind, rfl, by decide +kernel, by decide +kernel⟩
theorem fo_number_of_kind (h : Hy K mg) {f : Addr} {fd : FuncData} (F : FunD K D_number_of_kind.name D_number_of_kind.qual D_number_of_kind.params D_number_of_kind.body D_number_of_kind.scope (D_number_of_kind.dvs K) (D_number_of_kind.kws K) f fd) : FnOk P w K mg base (L2.CX P w) 3 f fd ["value", "low", "high", "name"] (spD (Tb K mg) 4 (runDef 0 (d_number_of_kind h))) :=
  fnD_ok F sc_number_of_kind rfl (fun cdv A outer s H E τ hr =>
  (dss_cons (ds_if ((dw_or (dt_not (dt_tru (by rfl) (de_callD ((ok_is_integer h).mono (by decide)) hr (takes_of rfl rfl rfl rfl) (by rfl) (dj_d (de_var 0) dj_nil)))) (dw_or1 (dt_not (y_chain c_le c_le (de_var 1) (de_var 0) (de_var 2)))))).pt (dss_one (x_raise (cx_BadNumber h) (takes_of rfl rfl rfl rfl) (hr.mono (by decide)) (da_cons (de_var 3) da_nil))) dss_nil)
  (dss_one (ds_ret (de_var 0)))))
theorem ok_number_of_kind (h : Hy K mg) : Df (Tb K mg) P w K mg base "number_of_kind" 3 4 [] (runDef 0 (d_number_of_kind h)) := by
  obtain ⟨fd, F⟩ := h.s.d.def_ 14 (d := D_number_of_kind) rfl
  exact ⟨_, fd, _, [], [], fo_number_of_kind h F, h.gl 14, F.kp, F.bindsN (fun _ _ _ _ _ _ us hl => match us, hl with | [_, _, _, _], _ => rfl), .nil, fun _ => .nil⟩
theorem nd__law_single : (["word", "value", "low", "high", "got", "e"] : List Str).Nodup := by decide +kernel
def d__law_single (h : Hy K mg) : M Fl :=
  (sSeq (sAsg (tgN 4) (eC .non))
  (sSeq (sTry (sIf (tE blD (eBin (dEq false) (eVar 0) (eC (.int 0)))) (sAsg (tgN 4) (eCB oLst (aCons (eC (.str "told")) (aCons (eCallJ 3 (runDef 0 (d_thing_of h)) [(.str "thing")] (aConsD (eBin dAdd (eVar 3) (eC (.int 1))) (aConsD (eVar 1) aNilJ))) aNil)))) (sIf (tE blD (eBin (dEq false) (eVar 0) (eC (.int 1)))) (sAsg (tgN 4) (eCB oLst (aCons (eC (.str "told")) (aCons (eCallJ 3 (runDef 0 (d_thing_of h)) [] (aConsD (eBin dAdd (eVar 3) (eC (.int 1))) (aConsD (eVar 1) (aConsD (eC (.str "first")) aNilJ)))) aNil)))) (sAsg (tgN 4) (eCB oLst (aCons (eC (.str "told")) (aCons (eCallJ 4 (runDef 0 (d_number_of_kind h)) [] (aConsD (eVar 1) (aConsD (eVar 2) (aConsD (eVar 3) (aConsD (eC (.str "many")) aNilJ))))) aNil)))))) [⟨exT 2, 5, fun x => (sAsg (tgN 4) (eCB oLst (aCons (eC (.str "thing")) (aCons (eHeld 5 (xnF (XTn h) 0 x)) aNil))))⟩, ⟨exT 1, 5, fun x => (sAsg (tgN 4) (eCB oLst (aCons (eC (.str "number")) (aCons (eHeld 5 (xnF (XTn h) 0 x)) aNil))))⟩])
  (sRet (eVar 4))))
theorem sc__law_single : FnScope ["word", "value", "low", "high", "got", "e"] ["word", "value", "low", "high"] (L2.defScope (stm 59)) := ⟨rfl, rfl, rfl, nd__law_single, rfl, by decide +kernel, by decide +kernel⟩
theorem fo__law_single (h : Hy K mg) {f : Addr} {fd : FuncData} (F : FunD K D__law_single.name D__law_single.qual D__law_single.params D__law_single.body D__law_single.scope (D__law_single.dvs K) (D__law_single.kws K) f fd) : FnOk P w K mg base (L2.CX P w) 4 f fd ["word", "value", "low", "high"] (spD (Tb K mg) 4 (runDef 2 (d__law_single h))) :=
  fnD_ok F sc__law_single rfl (fun cdv A outer s H E τ hr =>
  (dss_cons (ds_asg (ws := [4]) de_non (dg_name 4 nd__law_single))
  (dss_cons (ds_try rfl rfl nd__law_single (takes_of rfl rfl rfl rfl) (fun W pn xe tk po => (dss_one (ds_if (y_cmp (c_eq hr) (de_var 0) de_int) (dss_one (ds_asg (ws := [4]) (de_lst (da_cons de_str (da_cons (de_callD ((ok_thing_of_2 h).mono (by decide)) hr tk (by rfl) (dj_d (x_add (de_var 3) de_int) (dj_d (de_var 1) dj_nil))) da_nil))) (dg_name 4 nd__law_single))) (dss_one (ds_if (y_cmp (c_eq hr) (de_var 0) de_int) (dss_one (ds_asg (ws := [4]) (de_lst (da_cons de_str (da_cons (de_callD ((ok_thing_of_3 h).mono (by decide)) hr tk (by rfl) (dj_d (x_add (de_var 3) de_int) (dj_d (de_var 1) (dj_d de_str dj_nil)))) da_nil))) (dg_name 4 nd__law_single))) (dss_one (ds_asg (ws := [4]) (de_lst (da_cons de_str (da_cons (de_callD ((ok_number_of_kind h).mono (by decide)) hr tk (by rfl) (dj_d (de_var 1) (dj_d (de_var 2) (dj_d (de_var 3) (dj_d de_str dj_nil))))) da_nil))) (dg_name 4 nd__law_single)))))))) (HdsD.cons rfl rfl ⟨rfl, rfl, .inl (h.gl 32)⟩ (h.exT 2) (fun _ _ _ _ _ x _ hz hf xd => (dss_one (ds_asg (ws := [4]) (de_lst (da_cons de_str (da_cons (de_hxf (XTn h) 5 0 (by rfl) hz hf xd) da_nil))) (dg_name 4 nd__law_single)))) (HdsD.cons rfl rfl ⟨rfl, rfl, .inl (h.gl 31)⟩ (h.exT 1) (fun _ _ _ _ _ x _ hz hf xd => (dss_one (ds_asg (ws := [4]) (de_lst (da_cons de_str (da_cons (de_hxf (XTn h) 5 0 (by rfl) hz hf xd) da_nil))) (dg_name 4 nd__law_single)))) HdsD.nil)))
  (dss_one (ds_ret (de_var 4))))))
theorem ok__law_single (h : Hy K mg) : Df (Tb K mg) P w K mg base "_law_single" 4 4 [] (runDef 2 (d__law_single h)) := by
  obtain ⟨fd, F⟩ := h.s.d.def_ 15 (d := D__law_single) rfl
  exact ⟨_, fd, _, [], [], fo__law_single h F, h.gl 15, F.kp, F.bindsN (fun _ _ _ _ _ _ us hl => match us, hl with | [_, _, _, _], _ => rfl), .nil, fun _ => .nil⟩
theorem nd__law_singles : (["draws", "size", "one", "low", "dues", "way"] : List Str).Nodup := by decide +kernel
def d__law_singles (h : Hy K mg) : M Fl :=
  (sSeq (sAsg (tgN 2) (eCallJ 2 (runDef 1 d__law_entry) [] (aConsV 0 (aConsD (eVar 1) aNilJ))))
  (sSeq (sAsg (tgN 3) (eBin dSub (eC (.int 0)) (eBin dMul (eC (.int 2)) (eCallJ 2 (runDef 0 d__law_take) [] (aConsV 0 (aConsD (eC (.int 2)) aNilJ))))))
  (sSeq (sSet 4 (eCB oLst (aCons (eCB oLst (aCons (eC (.str "thing")) (aCons (eC (.str "thing")) aNil))) (aCons (eCB oLst (aCons (eC (.str "thing")) (aCons (eC (.str "first")) aNil))) (aCons (eCB oLst (aCons (eC (.str "number")) (aCons (eC (.str "many")) aNil))) aNil)))))
  (sSeq (sIf (tE dTru (eCallJ 2 (runDef 0 (d__law_is_thing h)) [] (aConsD (eVar 2) (aConsD (eVar 1) aNilJ)))) (sSeq (sStore 4 (eCB oLst (aCons (eC (.str "told")) (aCons (eVar 2) aNil))) (eC (.int 0)))
  (sStore 4 (eCB oLst (aCons (eC (.str "told")) (aCons (eVar 2) aNil))) (eC (.int 1)))) sNx)
  (sSeq (sIf (tAnd (tE dTru (eCallJ 1 (runDef 0 (d__law_int h)) [] (aConsD (eVar 2) aNilJ))) (tE blD (eChain (dI2 fun i j => decide (i ≤ j)) dLt (eVar 3) (eVar 2) (eVar 1)))) (sStore 4 (eCB oLst (aCons (eC (.str "told")) (aCons (eVar 2) aNil))) (eC (.int 2))) sNx)
  (sSeq (sFor (iRng1D (aCons (eC (.int 3)) aNil)) (tgN 5) (sIf (tE blD (eBin (dEq true) (eCallJ 4 (runDef 2 (d__law_single h)) [] (aConsD (eVar 5) (aConsD (eVar 2) (aConsD (eVar 3) (aConsD (eBin dSub (eVar 1) (eC (.int 1))) aNilJ))))) (eBin dIx (eRd 4) (eVar 5)))) (sRet (eC (.bl false))) sNx))
  (sRet (eC (.bl true)))))))))
theorem sc__law_singles : FnScope ["draws", "size", "one", "low", "dues", "way"] ["draws", "size"] (L2.defScope (stm 60)) := ⟨rfl, rfl, rfl, nd__law_singles, rfl, by decide +kernel, by decide +kernel⟩
theorem fo__law_singles (h : Hy K mg) {f : Addr} {fd : FuncData} (F : FunD K D__law_singles.name D__law_singles.qual D__law_singles.params D__law_singles.body D__law_singles.scope (D__law_singles.dvs K) (D__law_singles.kws K) f fd) : FnOk P w K mg base (L2.CX P w) 5 f fd ["draws", "size"] (spD (Tb K mg) 2 (runDef 4 (d__law_singles h))) :=
  fnD_ok F sc__law_singles rfl (fun cdv A outer s H E τ hr =>
  (dss_cons (ds_asg (ws := [2]) (de_callD ((ok__law_entry h).mono (by decide)) hr (takes_of rfl rfl rfl rfl) (by rfl) (dj_v 0 (dj_d (de_var 1) dj_nil))) (dg_name 2 nd__law_singles))
  (dss_cons (ds_asg (ws := [3]) (x_sub de_int (x_mul de_int (de_callD ((ok__law_take h).mono (by decide)) hr (takes_of rfl rfl rfl rfl) (by rfl) (dj_v 0 (dj_d de_int dj_nil))))) (dg_name 3 nd__law_singles))
  (dss_cons (ds_set 4 (de_lst (da_cons (de_lst (da_cons de_str (da_cons de_str da_nil))) (da_cons (de_lst (da_cons de_str (da_cons de_str da_nil))) (da_cons (de_lst (da_cons de_str (da_cons de_str da_nil))) da_nil)))) nd__law_singles)
  (dss_cons (ds_if (dt_tru (by rfl) (de_callD ((ok__law_is_thing h).mono (by decide)) hr (takes_of rfl rfl rfl rfl) (by rfl) (dj_d (de_var 2) (dj_d (de_var 1) dj_nil)))) (dss_cons (ds_store 4 hr (de_lst (da_cons de_str (da_cons (de_var 2) da_nil))) de_int)
  (dss_one (ds_store 4 hr (de_lst (da_cons de_str (da_cons (de_var 2) da_nil))) de_int))) dss_nil)
  (dss_cons (ds_if ((dw_and (dt_tru (by rfl) (de_callD ((ok__law_int h).mono (by decide)) hr (takes_of rfl rfl rfl rfl) (by rfl) (dj_d (de_var 2) dj_nil))) (dw_and1 (y_chain c_le (c_lt hr) (de_var 3) (de_var 2) (de_var 1))))).pt (dss_one (ds_store 4 hr (de_lst (da_cons de_str (da_cons (de_var 2) da_nil))) de_int)) dss_nil)
  (dss_cons (ds_for [5] (passes_of rfl) rfl (di_rng1 (by rfl) (h.fr 70) (da_cons de_int da_nil)) (dg_name 5 nd__law_singles) (dss_one (ds_if (y_cmp (c_ne hr) (de_callD ((ok__law_single h).mono (by decide)) hr (takes_of rfl rfl rfl rfl) (by rfl) (dj_d (de_var 5) (dj_d (de_var 2) (dj_d (de_var 3) (dj_d (x_sub (de_var 1) de_int) dj_nil))))) (x_ix hr (de_rd 4) (de_var 5))) (dss_one (ds_ret de_bl)) dss_nil)))
  (dss_one (ds_ret de_bl)))))))))
theorem ok__law_singles (h : Hy K mg) : Df (Tb K mg) P w K mg base "_law_singles" 5 2 [] (runDef 4 (d__law_singles h)) := by
  obtain ⟨fd, F⟩ := h.s.d.def_ 16 (d := D__law_singles) rfl
  exact ⟨_, fd, _, [], [], fo__law_singles h F, h.gl 16, F.kp, F.bindsN (fun _ _ _ _ _ _ us hl => match us, hl with | [_, _], _ => rfl), .nil, fun _ => .nil⟩
theorem nd__law_good_pair : (["value", "size"] : List Str).Nodup := by decide +kernel
def d__law_good_pair (h : Hy K mg) : M Fl :=
  (sSeq (sIf (tOr (tNot (tE dTru (eCB (oIsi (XTn h)) (aCons (eVar 0) (aCons (eCB oTup (aCons (eC (.ty 3)) (aCons (eC (.ty 4)) aNil))) aNil))))) (tE blD (eBin (dEq true) (eCB oLen (aCons (eVar 0) aNil)) (eC (.int 2))))) (sRet (eC (.bl false))) sNx)
  (sSeq (sIf (tOr (tNot (tE dTru (eCallJ 2 (runDef 0 (d__law_is_thing h)) [] (aConsD (eBin dIx (eVar 0) (eC (.int 0))) (aConsD (eVar 1) aNilJ))))) (tNot (tE dTru (eCallJ 2 (runDef 0 (d__law_is_thing h)) [] (aConsD (eBin dIx (eVar 0) (eC (.int 1))) (aConsD (eVar 1) aNilJ)))))) (sRet (eC (.bl false))) sNx)
  (sRet (eBin (dEq true) (eBin dIx (eVar 0) (eC (.int 0))) (eBin dIx (eVar 0) (eC (.int 1)))))))
theorem sc__law_good_pair : FnScope ["value", "size"] ["value", "size"] (L2.defScope (stm 53)) := ⟨rfl, rfl, rfl, nd__law_good_pair, rfl, by decide +kernel, by decide +kernel⟩
theorem fo__law_good_pair (h : Hy K mg) {f : Addr} {fd : FuncData} (F : FunD K D__law_good_pair.name D__law_good_pair.qual D__law_good_pair.params D__law_good_pair.body D__law_good_pair.scope (D__law_good_pair.dvs K) (D__law_good_pair.kws K) f fd) : FnOk P w K mg base (L2.CX P w) 3 f fd ["value", "size"] (spD (Tb K mg) 2 (runDef 0 (d__law_good_pair h))) :=
  fnD_ok F sc__law_good_pair rfl (fun cdv A outer s H E τ hr =>
  (dss_cons (ds_if ((dw_or (dt_not (dt_tru (by rfl) (de_isi (by rfl) (XTn h) (by rfl) (h.fr 72) (da_cons (de_var 0) (da_cons (de_tup (da_cons (de_ty 3 (by rfl) (h.fr 64) PyProof.Rows.Boot.«list») (da_cons (de_ty 4 (by rfl) (h.fr 63) PyProof.Rows.Boot.«tuple») da_nil))) da_nil))))) (dw_or1 (y_cmp (c_ne hr) (x_len (hm := (h.fr 61)) (ha := (da_cons (de_var 0) da_nil))) de_int)))).pt (dss_one (ds_ret de_bl)) dss_nil)
  (dss_cons (ds_if ((dw_or (dt_not (dt_tru (by rfl) (de_callD ((ok__law_is_thing h).mono (by decide)) hr (takes_of rfl rfl rfl rfl) (by rfl) (dj_d (x_ix hr (de_var 0) de_int) (dj_d (de_var 1) dj_nil))))) (dw_or1 (dt_not (dt_tru (by rfl) (de_callD ((ok__law_is_thing h).mono (by decide)) hr (takes_of rfl rfl rfl rfl) (by rfl) (dj_d (x_ix hr (de_var 0) de_int) (dj_d (de_var 1) dj_nil)))))))).pt (dss_one (ds_ret de_bl)) dss_nil)
  (dss_one (ds_ret (x_cmp (c_ne hr) (x_ix hr (de_var 0) de_int) (x_ix hr (de_var 0) de_int)))))))
theorem ok__law_good_pair (h : Hy K mg) : Df (Tb K mg) P w K mg base "_law_good_pair" 3 2 [] (runDef 0 (d__law_good_pair h)) := by
  obtain ⟨fd, F⟩ := h.s.d.def_ 17 (d := D__law_good_pair) rfl
  exact ⟨_, fd, _, [], [], fo__law_good_pair h F, h.gl 17, F.kp, F.bindsN (fun _ _ _ _ _ _ us hl => match us, hl with | [_, _], _ => rfl), .nil, fun _ => .nil⟩
theorem nd__law_due_pairs : (["value", "size", "way", "seen", "found", "at", "a", "b"] : List Str).Nodup := by decide +kernel
def d__law_due_pairs (h : Hy K mg) : M Fl :=
  (sSeq (sIf (tNot (tE dTru (eCB (oIsi (XTn h)) (aCons (eVar 0) (aCons (eCB oTup (aCons (eC (.ty 3)) (aCons (eC (.ty 4)) aNil))) aNil))))) (sRet (eCB oLst (aCons (eC (.str "pair")) (aCons (eUn dNeg (eC (.int 1))) aNil)))) sNx)
  (sSeq (sSet 3 (eCB oLst aNil))
  (sSeq (sSet 4 (eCB oLst aNil))
  (sSeq (sFor (iRng1D (aCons (eCB oLen (aCons (eVar 0) aNil)) aNil)) (tgN 5) (sSeq (sIf (tNot (tE dTru (eCallJ 2 (runDef 0 (d__law_good_pair h)) [] (aConsD (eBin dIx (eVar 0) (eVar 5)) (aConsD (eVar 1) aNilJ))))) (sRet (eCB oLst (aCons (eC (.str "pair")) (aCons (eVar 5) aNil)))) sNx)
  (sSeq (sAsg (tgN 6) (eBin dIx (eBin dIx (eVar 0) (eVar 5)) (eC (.int 0))))
  (sSeq (sAsg (tgN 7) (eBin dIx (eBin dIx (eVar 0) (eVar 5)) (eC (.int 1))))
  (sSeq (sIf (evT [3, 6, 7] [] (tE blD (eBin (dIn false) (eCB oTup (aCons (eCB oMin2 (aCons (eVar 6) (aCons (eVar 7) aNil))) (aCons (eCB oMax2 (aCons (eVar 6) (aCons (eVar 7) aNil))) aNil))) (eVar 3)))) (sRet (eCB oLst (aCons (eC (.str "pair")) (aCons (eVar 5) aNil)))) sNx)
  (sSeq (sExpr (eMut 3 mAppend (aCons (eCB oTup (aCons (eCB oMin2 (aCons (eVar 6) (aCons (eVar 7) aNil))) (aCons (eCB oMax2 (aCons (eVar 6) (aCons (eVar 7) aNil))) aNil))) aNil)))
  (sExpr (eMut 4 mAppend (aCons (eCB oTup (aCons (eVar 6) (aCons (eVar 7) aNil))) aNil)))))))))
  (sSeq (sIf (tE dTru (eVar 2)) (sRet (eCB oLst (aCons (eC (.str "told")) (aCons (eCB oTuple (aCons (eCB oSorted (aCons (eRd 4) aNil)) aNil)) aNil)))) sNx)
  (sRet (eCB oLst (aCons (eC (.str "told")) (aCons (eCB oTuple (aCons (eCB oSorted (aCons (eRd 3) aNil)) aNil)) aNil)))))))))
theorem sc__law_due_pairs : FnScope ["value", "size", "way", "seen", "found", "at", "a", "b"] ["value", "size", "way"] (L2.defScope (stm 56)) := ⟨rfl, rfl, rfl, nd__law_due_pairs, rfl, by decide +kernel, by decide +kernel⟩
theorem fo__law_due_pairs (h : Hy K mg) {f : Addr} {fd : FuncData} (F : FunD K D__law_due_pairs.name D__law_due_pairs.qual D__law_due_pairs.params D__law_due_pairs.body D__law_due_pairs.scope (D__law_due_pairs.dvs K) (D__law_due_pairs.kws K) f fd) : FnOk P w K mg base (L2.CX P w) 4 f fd ["value", "size", "way"] (spD (Tb K mg) 3 (runDef 5 (d__law_due_pairs h))) :=
  fnD_ok F sc__law_due_pairs rfl (fun cdv A outer s H E τ hr =>
  (dss_cons (ds_if (dt_not (dt_tru (by rfl) (de_isi (by rfl) (XTn h) (by rfl) (h.fr 72) (da_cons (de_var 0) (da_cons (de_tup (da_cons (de_ty 3 (by rfl) (h.fr 64) PyProof.Rows.Boot.«list») (da_cons (de_ty 4 (by rfl) (h.fr 63) PyProof.Rows.Boot.«tuple») da_nil))) da_nil))))) (dss_one (ds_ret (de_lst (da_cons de_str (da_cons (x_neg de_int) da_nil))))) dss_nil)
  (dss_cons (ds_set 3 (de_lst da_nil) nd__law_due_pairs)
  (dss_cons (ds_set 4 (de_lst da_nil) nd__law_due_pairs)
  (dss_cons (ds_for [5] (passes_of rfl) rfl (di_rng1 (by rfl) (h.fr 70) (da_cons (x_len (hm := (h.fr 61)) (ha := (da_cons (de_var 0) da_nil))) da_nil)) (dg_name 5 nd__law_due_pairs) (dss_cons (ds_if (dt_not (dt_tru (by rfl) (de_callD ((ok__law_good_pair h).mono (by decide)) hr (takes_of rfl rfl rfl rfl) (by rfl) (dj_d (x_ix hr (de_var 0) (de_var 5)) (dj_d (de_var 1) dj_nil))))) (dss_one (ds_ret (de_lst (da_cons de_str (da_cons (de_var 5) da_nil))))) dss_nil)
  (dss_cons (ds_asg (ws := [6]) (x_ix hr (x_ix hr (de_var 0) (de_var 5)) de_int) (dg_name 6 nd__law_due_pairs))
  (dss_cons (ds_asg (ws := [7]) (x_ix hr (x_ix hr (de_var 0) (de_var 5)) de_int) (dg_name 7 nd__law_due_pairs))
  (dss_cons (ds_if (dt_ev [3, 6, 7] [] (y_cmp (c_in hr) (de_tup (da_cons (x_min (hm := (h.fr 66)) (ha := (da_cons (de_var 6) (da_cons (de_var 7) da_nil)))) (da_cons (x_max (hm := (h.fr 65)) (ha := (da_cons (de_var 6) (da_cons (de_var 7) da_nil)))) da_nil))) (de_var 3))) (dss_one (ds_ret (de_lst (da_cons de_str (da_cons (de_var 5) da_nil))))) dss_nil)
  (dss_cons (ds_expr (x_append 3 (ha := (da_cons (de_tup (da_cons (x_min (hm := (h.fr 66)) (ha := (da_cons (de_var 6) (da_cons (de_var 7) da_nil)))) (da_cons (x_max (hm := (h.fr 65)) (ha := (da_cons (de_var 6) (da_cons (de_var 7) da_nil)))) da_nil))) da_nil))))
  (dss_one (ds_expr (x_append 4 (ha := (da_cons (de_tup (da_cons (de_var 6) (da_cons (de_var 7) da_nil))) da_nil)))))))))))
  (dss_cons (ds_if (dt_tru (by rfl) (de_var 2)) (dss_one (ds_ret (de_lst (da_cons de_str (da_cons (x_tuple (hm := (h.fr 63)) (ha := (da_cons (x_sorted (hm := (h.fr 67)) (ha := (da_cons (de_rd 4) da_nil))) da_nil))) da_nil))))) dss_nil)
  (dss_one (ds_ret (de_lst (da_cons de_str (da_cons (x_tuple (hm := (h.fr 63)) (ha := (da_cons (x_sorted (hm := (h.fr 67)) (ha := (da_cons (de_rd 3) da_nil))) da_nil))) da_nil)))))))))))
theorem ok__law_due_pairs (h : Hy K mg) : Df (Tb K mg) P w K mg base "_law_due_pairs" 4 3 [] (runDef 5 (d__law_due_pairs h)) := by
  obtain ⟨fd, F⟩ := h.s.d.def_ 18 (d := D__law_due_pairs) rfl
  exact ⟨_, fd, _, [], [], fo__law_due_pairs h F, h.gl 18, F.kp, F.bindsN (fun _ _ _ _ _ _ us hl => match us, hl with | [_, _, _], _ => rfl), .nil, fun _ => .nil⟩
theorem nd__law_same : (["got", "due", "deep", "rows", "row", "a"] : List Str).Nodup := by decide +kernel
def d__law_same (h : Hy K mg) : M Fl :=
  (sSeq (sIf (tOr (tE blD (eBin (dIs false) (eVar 0) (eC .non))) (tOr (tE blD (eBin (dEq true) (eBin dIx (eVar 0) (eC (.int 0))) (eBin dIx (eVar 1) (eC (.int 0))))) (tE blD (eBin (dEq true) (eBin dIx (eVar 0) (eC (.int 1))) (eBin dIx (eVar 1) (eC (.int 1))))))) (sRet (eC (.bl false))) sNx)
  (sSeq (sIf (tE blD (eBin (dEq true) (eBin dIx (eVar 1) (eC (.int 0))) (eC (.str "told")))) (sRet (eAndV (eCallJ 1 (runDef 0 (d__law_int h)) [] (aConsD (eBin dIx (eVar 0) (eC (.int 1))) aNilJ)) (eBin (dIsB false) (eBin dIx (eVar 0) (eC (.int 2))) (eC (.bl true))))) sNx)
  (sSeq (sAsg (tgN 3) (eCB oLst (aCons (eBin dIx (eVar 0) (eC (.int 1))) aNil)))
  (sSeq (sIf (tE dTru (eVar 2)) (sAsg (tgN 3) (eCB oList (aCons (eBin dIx (eVar 0) (eC (.int 1))) aNil))) sNx)
  (sSeq (sIf (tOr (tNot (tE dTru (eCB (oIsi (XTn h)) (aCons (eBin dIx (eVar 0) (eC (.int 1))) (aCons (eC (.ty 4)) aNil))))) (tNot (tE dTru (eCB oAll (aCons (eLc (iSeqD (eVar 3)) (tgN 4) (ret true) (eCB (oIsi (XTn h)) (aCons (eVar 4) (aCons (eC (.ty 4)) aNil))) [4]) aNil))))) (sRet (eC (.bl false))) sNx)
  (sRet (eCB oAll (aCons (eLc (iSeqD (eVar 3)) (tgN 4) (ret true) (eCB oAll (aCons (eLc (iSeqD (eVar 4)) (tgN 5) (ret true) (eCallJ 1 (runDef 0 (d__law_int h)) [] (aConsD (eVar 5) aNilJ)) [5]) aNil)) [4]) aNil))))))))
theorem sc__law_same : FnScope ["got", "due", "deep", "rows", "row", "a"] ["got", "due", "deep"] (L2.defScope (stm 58)) := ⟨rfl, rfl, rfl, nd__law_same, rfl, by decide +kernel, by decide +kernel⟩
theorem fo__law_same (h : Hy K mg) {f : Addr} {fd : FuncData} (F : FunD K D__law_same.name D__law_same.qual D__law_same.params D__law_same.body D__law_same.scope (D__law_same.dvs K) (D__law_same.kws K) f fd) : FnOk P w K mg base (L2.CX P w) 2 f fd ["got", "due", "deep"] (spD (Tb K mg) 3 (runDef 3 (d__law_same h))) :=
  fnD_ok F sc__law_same rfl (fun cdv A outer s H E τ hr =>
  (dss_cons (ds_if ((dw_or (y_cmp c_is (de_var 0) de_non) (dw_or (y_cmp (c_ne hr) (x_ix hr (de_var 0) de_int) (x_ix hr (de_var 1) de_int)) (dw_or1 (y_cmp (c_ne hr) (x_ix hr (de_var 0) de_int) (x_ix hr (de_var 1) de_int)))))).pt (dss_one (ds_ret de_bl)) dss_nil)
  (dss_cons (ds_if (y_cmp (c_ne hr) (x_ix hr (de_var 1) de_int) de_str) (dss_one (ds_ret (de_and (de_callD ((ok__law_int h).mono (by decide)) hr (takes_of rfl rfl rfl rfl) (by rfl) (dj_d (x_ix hr (de_var 0) de_int) dj_nil)) (de_one (x_cmp c_isB (x_ix hr (de_var 0) de_int) de_bl))))) dss_nil)
  (dss_cons (ds_asg (ws := [3]) (de_lst (da_cons (x_ix hr (de_var 0) de_int) da_nil)) (dg_name 3 nd__law_same))
  (dss_cons (ds_if (dt_tru (by rfl) (de_var 2)) (dss_one (ds_asg (ws := [3]) (x_list (hm := (h.fr 64)) (ha := (da_cons (x_ix hr (de_var 0) de_int) da_nil))) (dg_name 3 nd__law_same))) dss_nil)
  (dss_cons (ds_if ((dw_or (dt_not (dt_tru (by rfl) (de_isi (by rfl) (XTn h) (by rfl) (h.fr 72) (da_cons (x_ix hr (de_var 0) de_int) (da_cons (de_ty 4 (by rfl) (h.fr 63) PyProof.Rows.Boot.«tuple») da_nil))))) (dw_or1 (dt_not (dt_tru (by rfl) (x_all (hm := (h.fr 69)) (ha := (da_cons (de_lc [4] (by rfl) nd__law_same (di_seq (by rfl) (de_var 3)) (own := [("row", 4)]) (blkOk_by (own := [("row", 4)]) (N := ["got", "due", "deep", "rows", "row", "a"]) (sc := L2.defScope (stm 58)) (by decide +kernel)) (by rfl) (fun _ _ _ _ _ => (dg_name 4 nd__law_same)) (fun _ _ _ _ _ => dts_nil) (fun _ _ _ _ _ => (de_isi (by rfl) (XTn h) (by rfl) (h.fr 72) (da_cons (de_var 4) (da_cons (de_ty 4 (by rfl) (h.fr 63) PyProof.Rows.Boot.«tuple») da_nil))))) da_nil)))))))).pt (dss_one (ds_ret de_bl)) dss_nil)
  (dss_one (ds_ret (x_all (hm := (h.fr 69)) (ha := (da_cons (de_lc [4] (by rfl) nd__law_same (di_seq (by rfl) (de_var 3)) (own := [("row", 4)]) (blkOk_by (own := [("row", 4)]) (N := ["got", "due", "deep", "rows", "row", "a"]) (sc := L2.defScope (stm 58)) (by decide +kernel)) (by rfl) (fun _ _ _ _ _ => (dg_name 4 nd__law_same)) (fun _ _ _ _ _ => dts_nil) (fun _ _ _ _ _ => (x_all (hm := (h.fr 69)) (ha := (da_cons (de_lc [5] (by rfl) nd__law_same (di_seq (by rfl) (de_var 4)) (own := [("a", 5)]) (blkOk_by (own := [("a", 5)]) (N := ["got", "due", "deep", "rows", "row", "a"]) (by kernel_rfl)) (by rfl) (fun _ _ _ _ _ => (dg_name 5 nd__law_same)) (fun _ _ _ _ _ => dts_nil) (fun _ _ _ _ _ => (de_callD ((ok__law_int h).mono (by decide)) hr takes0 (by rfl) (dj_d (de_var 5) dj_nil)))) da_nil))))) da_nil)))))))))))
theorem ok__law_same (h : Hy K mg) : Df (Tb K mg) P w K mg base "_law_same" 2 3 [] (runDef 3 (d__law_same h)) := by
  obtain ⟨fd, F⟩ := h.s.d.def_ 19 (d := D__law_same) rfl
  exact ⟨_, fd, _, [], [], fo__law_same h F, h.gl 19, F.kp, F.bindsN (fun _ _ _ _ _ _ us hl => match us, hl with | [_, _, _], _ => rfl), .nil, fun _ => .nil⟩
theorem nd_first_bad : (["size", "things", "met", "place", "value"] : List Str).Nodup := by decide +kernel
def d_first_bad (h : Hy K mg) : M Fl :=
  (sSeq (sSet 2 eDk)
  (sSeq (sFor (iEnumD (aCons (eVar 1) aNil)) (tgT [(tgN 3), (tgN 4)]) (sSeq (sIf (tOr (tNot (tE dTru (eCallJ 2 (runDef 0 (d_is_thing h)) [] (aConsD (eVar 0) (aConsD (eVar 4) aNilJ))))) (evT [2, 4] [] (tE blD (eBin (dIn false) (eVar 4) (eVar 2))))) (sRet (eVar 3)) sNx)
  (sStore 2 (eC (.bl true)) (eVar 4))))
  (sRet (eC .non))))
theorem sc_first_bad : FnScope ["size", "things", "met", "place", "value"] ["size", "things"] (L2.defScope (stm 38)) := ⟨rfl, rfl, rfl, nd_first_bad, rfl, by decide +kernel, by decide +kernel⟩
theorem fo_first_bad (h : Hy K mg) {f : Addr} {fd : FuncData} (F : FunD K D_first_bad.name D_first_bad.qual D_first_bad.params D_first_bad.body D_first_bad.scope (D_first_bad.dvs K) (D_first_bad.kws K) f fd) : FnOk P w K mg base (L2.CX P w) 3 f fd ["size", "things"] (spD (Tb K mg) 2 (runDef 3 (d_first_bad h))) :=
  fnD_ok F sc_first_bad rfl (fun cdv A outer s H E τ hr =>
  (dss_cons (ds_set 2 de_dk nd_first_bad)
  (dss_cons (ds_for [3, 4] (passes_of rfl) rfl (di_enum (by rfl) (by rfl) (h.fr 71) (da_cons (de_var 1) da_nil)) (dg_tup rfl rfl (dgs_cons (dg_name 3 nd_first_bad) (dgs_cons (dg_name 4 nd_first_bad) dgs_nil))) (dss_cons (ds_if ((dw_or (dt_not (dt_tru (by rfl) (de_callD ((ok_is_thing h).mono (by decide)) hr (takes_of rfl rfl rfl rfl) (by rfl) (dj_d (de_var 0) (dj_d (de_var 4) dj_nil))))) (dw_or1 (dt_ev [2, 4] [] (y_cmp (c_in hr) (de_var 4) (de_var 2)))))).pt (dss_one (ds_ret (de_var 3))) dss_nil)
  (dss_one (ds_store 2 hr de_bl (de_var 4)))))
  (dss_one (ds_ret de_non)))))
theorem ok_first_bad (h : Hy K mg) : Df (Tb K mg) P w K mg base "first_bad" 3 2 [] (runDef 3 (d_first_bad h)) := by
  obtain ⟨fd, F⟩ := h.s.d.def_ 20 (d := D_first_bad) rfl
  exact ⟨_, fd, _, [], [], fo_first_bad h F, h.gl 20, F.kp, F.bindsN (fun _ _ _ _ _ _ us hl => match us, hl with | [_, _], _ => rfl), .nil, fun _ => .nil⟩
theorem nd_lot_of : (["size", "things", "empty", "place"] : List Str).Nodup := by decide +kernel
def d_lot_of (h : Hy K mg) : M Fl :=
  (sSeq (sIf (tOr (tNot (tE dTru (eCB (oIsi (XTn h)) (aCons (eVar 1) (aCons (eCB oTup (aCons (eC (.ty 3)) (aCons (eC (.ty 4)) aNil))) aNil))))) (tAnd (tNot (tE dTru (eVar 1))) (tNot (tE dTru (eVar 2))))) (sRaise 4 [1] (aCons (eUn dNeg (eC (.int 1))) aNil)) sNx)
  (sSeq (sAsg (tgN 3) (eCallJ 2 (runDef 3 (d_first_bad h)) [] (aConsD (eVar 0) (aConsD (eVar 1) aNilJ))))
  (sSeq (sIf (tE blD (eBin (dIs true) (eVar 3) (eC .non))) (sRaise 4 [1] (aCons (eVar 3) aNil)) sNx)
  (sRet (eCB oTuple (aCons (eCB oSorted (aCons (eVar 1) aNil)) aNil))))))
theorem sc_lot_of : FnScope ["size", "things", "empty", "place"] ["size", "things", "empty"] (L2.defScope (stm 39)) := ⟨rfl, rfl, rfl, nd_lot_of, rfl, by decide +kernel, by decide +kernel⟩
theorem fo_lot_of (h : Hy K mg) {f : Addr} {fd : FuncData} (F : FunD K D_lot_of.name D_lot_of.qual D_lot_of.params D_lot_of.body D_lot_of.scope (D_lot_of.dvs K) (D_lot_of.kws K) f fd) : FnOk P w K mg base (L2.CX P w) 4 f fd ["size", "things", "empty"] (spD (Tb K mg) 3 (runDef 1 (d_lot_of h))) :=
  fnD_ok F sc_lot_of rfl (fun cdv A outer s H E τ hr =>
  (dss_cons (ds_if ((dw_or (dt_not (dt_tru (by rfl) (de_isi (by rfl) (XTn h) (by rfl) (h.fr 72) (da_cons (de_var 1) (da_cons (de_tup (da_cons (de_ty 3 (by rfl) (h.fr 64) PyProof.Rows.Boot.«list») (da_cons (de_ty 4 (by rfl) (h.fr 63) PyProof.Rows.Boot.«tuple») da_nil))) da_nil))))) (dw_or1 ((dw_and (dt_not (dt_tru (by rfl) (de_var 1))) (dw_and1 (dt_not (dt_tru (by rfl) (de_var 2)))))).pt))).pt (dss_one (x_raise (cx_BadLot h) (takes_of rfl rfl rfl rfl) (hr.mono (by decide)) (da_cons (x_neg de_int) da_nil))) dss_nil)
  (dss_cons (ds_asg (ws := [3]) (de_callD ((ok_first_bad h).mono (by decide)) hr (takes_of rfl rfl rfl rfl) (by rfl) (dj_d (de_var 0) (dj_d (de_var 1) dj_nil))) (dg_name 3 nd_lot_of))
  (dss_cons (ds_if (y_cmp c_isn (de_var 3) de_non) (dss_one (x_raise (cx_BadLot h) (takes_of rfl rfl rfl rfl) (hr.mono (by decide)) (da_cons (de_var 3) da_nil))) dss_nil)
  (dss_one (ds_ret (x_tuple (hm := (h.fr 63)) (ha := (da_cons (x_sorted (hm := (h.fr 67)) (ha := (da_cons (de_var 1) da_nil))) da_nil)))))))))
theorem ok_lot_of_2 (h : Hy K mg) : Df (Tb K mg) P w K mg base "lot_of" 4 3 [(.bl false)] (runDef 1 (d_lot_of h)) := by
  obtain ⟨fd, F⟩ := h.s.d.def_ 21 (d := D_lot_of) rfl
  obtain ⟨ds, h1, h2⟩ := FunD.binds0 (ps := ["size", "things", "empty"]) F 2 (by intro z; cases z) rfl (fun D doc pm an cdv ct us ks l1 l2 => match us, ks, l1, l2 with | [_, _], [_], _, _ => ⟨_, _, _, _, _, _, rfl, rfl, rfl⟩)
  exact ⟨_, fd, _, ds, _, fo_lot_of h F, h.gl 21, F.kp, h2, h1, fun _ => (.cons (.bl _) .nil)⟩
theorem callK_lot_of {X : Cx} {τ : Th} {W : WX} {e : Expr} {es : List Expr} {kws : List Keyword} {g : M (List J)} {gk : M (List D)} {p pos : Pos} {k : Nat} (h : Hy X.K X.mg) (hr : Room k X.A) (tk : Takes X W) (ha : PA X (e :: es) (tDJ (Tb X.K X.mg) τ W g)) (hkw : PK X kws (tDA (Tb X.K X.mg) τ W gk)) (hP : X.prog = P := by rfl) (hk : 4 ≤ k := by decide) (hg : Gl X "lot_of" := by rfl)
    (hall : (backToKw pos (keywordEach kws X.env)).all (·.1.isSome) = true := by rfl) (hks : (backToKw pos (keywordEach kws X.env)).filterMap (·.1) = (["empty"] : List Str) := by rfl) (he : starEach (e :: es) X.env = (false, eval e X.env) :: starEach es X.env := by rfl) (hpl : ((backTo pos (starEach (e :: es) X.env)).any (·.1) || (backToKw pos (keywordEach kws X.env)).any (·.1.isNone)) = false := by rfl) :
    PE X (.Call (.Name "lot_of" p) (e :: es) kws pos) (tDE (Tb X.K X.mg) τ W (eCallJ (2 + 1) (runDef 1 (d_lot_of h)) [] (aAppK 2 g gk))) := by
  obtain ⟨fd, F⟩ := h.s.d.def_ 21 (d := D_lot_of) rfl
  have b : KBn X.K fd ["size", "things", "empty"] 2 ["empty"] (fun us ws => us ++ ws) (fun vs zs => vs ++ zs) := by
    obtain ⟨oc, od, dV, kV, doc, pm, an, cdv, ct, osl, rfl, lk, hcd, hD, hK⟩ := F.ex
    rcases hD with ⟨_, rfl⟩ | ⟨e, _⟩
    · exact ⟨fun s us ws X l1 l2 => match us, ws, l1, l2 with | [_, _], [_], _, _ => .of_eq rfl, fun r1 r2 => r1.append r2⟩
    · exact absurd rfl e
  have fo : FnOk P X.w X.K X.mg X.base (L2.CX P X.w) 4 _ fd ["size", "things", "empty"] (spD (Tb X.K X.mg) 3 (runDef 1 (d_lot_of h))) := fo_lot_of h F
  rw [← hP] at fo
  exact de_callK (n := 2) (ks := ["empty"]) (fo.mono hk) (h.gl 21) F.kp b hr tk hg ha hkw hall hks rfl he hpl
theorem nd_row_of : (["size", "things", "place"] : List Str).Nodup := by decide +kernel
def d_row_of (h : Hy K mg) : M Fl :=
  (sSeq (sIf (tOr (tNot (tE dTru (eCB (oIsi (XTn h)) (aCons (eVar 1) (aCons (eCB oTup (aCons (eC (.ty 3)) (aCons (eC (.ty 4)) aNil))) aNil))))) (tE blD (eBin (dEq true) (eCB oLen (aCons (eVar 1) aNil)) (eVar 0)))) (sRaise 5 [1] (aCons (eUn dNeg (eC (.int 1))) aNil)) sNx)
  (sSeq (sAsg (tgN 2) (eCallJ 2 (runDef 3 (d_first_bad h)) [] (aConsD (eVar 0) (aConsD (eVar 1) aNilJ))))
  (sSeq (sIf (tE blD (eBin (dIs true) (eVar 2) (eC .non))) (sRaise 5 [1] (aCons (eVar 2) aNil)) sNx)
  (sRet (eCB oTuple (aCons (eVar 1) aNil))))))
theorem sc_row_of : FnScope ["size", "things", "place"] ["size", "things"] (L2.defScope (stm 40)) := ⟨rfl, rfl, rfl, nd_row_of, rfl, by decide +kernel, by decide +kernel⟩
theorem fo_row_of (h : Hy K mg) {f : Addr} {fd : FuncData} (F : FunD K D_row_of.name D_row_of.qual D_row_of.params D_row_of.body D_row_of.scope (D_row_of.dvs K) (D_row_of.kws K) f fd) : FnOk P w K mg base (L2.CX P w) 4 f fd ["size", "things"] (spD (Tb K mg) 2 (runDef 1 (d_row_of h))) :=
  fnD_ok F sc_row_of rfl (fun cdv A outer s H E τ hr =>
  (dss_cons (ds_if ((dw_or (dt_not (dt_tru (by rfl) (de_isi (by rfl) (XTn h) (by rfl) (h.fr 72) (da_cons (de_var 1) (da_cons (de_tup (da_cons (de_ty 3 (by rfl) (h.fr 64) PyProof.Rows.Boot.«list») (da_cons (de_ty 4 (by rfl) (h.fr 63) PyProof.Rows.Boot.«tuple») da_nil))) da_nil))))) (dw_or1 (y_cmp (c_ne hr) (x_len (hm := (h.fr 61)) (ha := (da_cons (de_var 1) da_nil))) (de_var 0))))).pt (dss_one (x_raise (cx_BadRow h) (takes_of rfl rfl rfl rfl) (hr.mono (by decide)) (da_cons (x_neg de_int) da_nil))) dss_nil)
  (dss_cons (ds_asg (ws := [2]) (de_callD ((ok_first_bad h).mono (by decide)) hr (takes_of rfl rfl rfl rfl) (by rfl) (dj_d (de_var 0) (dj_d (de_var 1) dj_nil))) (dg_name 2 nd_row_of))
  (dss_cons (ds_if (y_cmp c_isn (de_var 2) de_non) (dss_one (x_raise (cx_BadRow h) (takes_of rfl rfl rfl rfl) (hr.mono (by decide)) (da_cons (de_var 2) da_nil))) dss_nil)
  (dss_one (ds_ret (x_tuple (hm := (h.fr 63)) (ha := (da_cons (de_var 1) da_nil)))))))))
theorem ok_row_of (h : Hy K mg) : Df (Tb K mg) P w K mg base "row_of" 4 2 [] (runDef 1 (d_row_of h)) := by
  obtain ⟨fd, F⟩ := h.s.d.def_ 22 (d := D_row_of) rfl
  exact ⟨_, fd, _, [], [], fo_row_of h F, h.gl 22, F.kp, F.bindsN (fun _ _ _ _ _ _ us hl => match us, hl with | [_, _], _ => rfl), .nil, fun _ => .nil⟩
theorem nd_is_pair : (["size", "pair"] : List Str).Nodup := by decide +kernel
def d_is_pair (h : Hy K mg) : M Fl :=
  (sSeq (sIf (tOr (tNot (tE dTru (eCB (oIsi (XTn h)) (aCons (eVar 1) (aCons (eCB oTup (aCons (eC (.ty 3)) (aCons (eC (.ty 4)) aNil))) aNil))))) (tE blD (eBin (dEq true) (eCB oLen (aCons (eVar 1) aNil)) (eC (.int 2))))) (sRet (eC (.bl false))) sNx)
  (sRet (eAndV (eCallJ 2 (runDef 0 (d_is_thing h)) [] (aConsD (eVar 0) (aConsD (eBin dIx (eVar 1) (eC (.int 0))) aNilJ))) (eAndV (eCallJ 2 (runDef 0 (d_is_thing h)) [] (aConsD (eVar 0) (aConsD (eBin dIx (eVar 1) (eC (.int 1))) aNilJ))) (eBin (dEq true) (eBin dIx (eVar 1) (eC (.int 0))) (eBin dIx (eVar 1) (eC (.int 1))))))))
theorem sc_is_pair : FnScope ["size", "pair"] ["size", "pair"] (L2.defScope (stm 35)) := ⟨rfl, rfl, rfl, nd_is_pair, rfl, by decide +kernel, by decide +kernel⟩
theorem fo_is_pair (h : Hy K mg) {f : Addr} {fd : FuncData} (F : FunD K D_is_pair.name D_is_pair.qual D_is_pair.params D_is_pair.body D_is_pair.scope (D_is_pair.dvs K) (D_is_pair.kws K) f fd) : FnOk P w K mg base (L2.CX P w) 3 f fd ["size", "pair"] (spD (Tb K mg) 2 (runDef 0 (d_is_pair h))) :=
  fnD_ok F sc_is_pair rfl (fun cdv A outer s H E τ hr =>
  (dss_cons (ds_if ((dw_or (dt_not (dt_tru (by rfl) (de_isi (by rfl) (XTn h) (by rfl) (h.fr 72) (da_cons (de_var 1) (da_cons (de_tup (da_cons (de_ty 3 (by rfl) (h.fr 64) PyProof.Rows.Boot.«list») (da_cons (de_ty 4 (by rfl) (h.fr 63) PyProof.Rows.Boot.«tuple») da_nil))) da_nil))))) (dw_or1 (y_cmp (c_ne hr) (x_len (hm := (h.fr 61)) (ha := (da_cons (de_var 1) da_nil))) de_int)))).pt (dss_one (ds_ret de_bl)) dss_nil)
  (dss_one (ds_ret (de_and (de_callD ((ok_is_thing h).mono (by decide)) hr (takes_of rfl rfl rfl rfl) (by rfl) (dj_d (de_var 0) (dj_d (x_ix hr (de_var 1) de_int) dj_nil))) (de_and (de_callD ((ok_is_thing h).mono (by decide)) hr (takes_of rfl rfl rfl rfl) (by rfl) (dj_d (de_var 0) (dj_d (x_ix hr (de_var 1) de_int) dj_nil))) (de_one (x_cmp (c_ne hr) (x_ix hr (de_var 1) de_int) (x_ix hr (de_var 1) de_int)))))))))
theorem ok_is_pair (h : Hy K mg) : Df (Tb K mg) P w K mg base "is_pair" 3 2 [] (runDef 0 (d_is_pair h)) := by
  obtain ⟨fd, F⟩ := h.s.d.def_ 23 (d := D_is_pair) rfl
  exact ⟨_, fd, _, [], [], fo_is_pair h F, h.gl 23, F.kp, F.bindsN (fun _ _ _ _ _ _ us hl => match us, hl with | [_, _], _ => rfl), .nil, fun _ => .nil⟩
theorem nd_several_pairs : (["size", "pairs", "met", "found", "place", "pair"] : List Str).Nodup := by decide +kernel
def d_several_pairs (h : Hy K mg) : M Fl :=
  (sSeq (sIf (tNot (tE dTru (eCB (oIsi (XTn h)) (aCons (eVar 1) (aCons (eCB oTup (aCons (eC (.ty 3)) (aCons (eC (.ty 4)) aNil))) aNil))))) (sRaise 3 [1] (aCons (eUn dNeg (eC (.int 1))) aNil)) sNx)
  (sSeq (sSet 2 eDt)
  (sSeq (sSet 3 (eCB oLst aNil))
  (sSeq (sFor (iEnumD (aCons (eVar 1) aNil)) (tgT [(tgN 4), (tgN 5)]) (sSeq (sIf (tOr (tNot (tE dTru (eCallJ 2 (runDef 0 (d_is_pair h)) [] (aConsD (eVar 0) (aConsD (eVar 5) aNilJ))))) (evT [2, 5] [] (tE blD (eBin (dIn false) (eCB oTup (aCons (eBin dIx (eVar 5) (eC (.int 0))) (aCons (eBin dIx (eVar 5) (eC (.int 1))) aNil))) (eVar 2))))) (sRaise 3 [1] (aCons (eVar 4) aNil)) sNx)
  (sSeq (sStore 2 (eC (.bl true)) (eCB oTup (aCons (eBin dIx (eVar 5) (eC (.int 0))) (aCons (eBin dIx (eVar 5) (eC (.int 1))) aNil))))
  (sSeq (sStore 2 (eC (.bl true)) (eCB oTup (aCons (eBin dIx (eVar 5) (eC (.int 1))) (aCons (eBin dIx (eVar 5) (eC (.int 0))) aNil))))
  (sExpr (eMut 3 mAppend (aCons (eCB oTup (aCons (eBin dIx (eVar 5) (eC (.int 0))) (aCons (eBin dIx (eVar 5) (eC (.int 1))) aNil))) aNil)))))))
  (sRet (eTake 3))))))
theorem sc_several_pairs : FnScope ["size", "pairs", "met", "found", "place", "pair"] ["size", "pairs"] (L2.defScope (stm 42)) := ⟨rfl, rfl, rfl, nd_several_pairs, rfl, by decide +kernel, by decide +kernel⟩
theorem fo_several_pairs (h : Hy K mg) {f : Addr} {fd : FuncData} (F : FunD K D_several_pairs.name D_several_pairs.qual D_several_pairs.params D_several_pairs.body D_several_pairs.scope (D_several_pairs.dvs K) (D_several_pairs.kws K) f fd) : FnOk P w K mg base (L2.CX P w) 4 f fd ["size", "pairs"] (spD (Tb K mg) 2 (runDef 4 (d_several_pairs h))) :=
  fnD_ok F sc_several_pairs rfl (fun cdv A outer s H E τ hr =>
  (dss_cons (ds_if (dt_not (dt_tru (by rfl) (de_isi (by rfl) (XTn h) (by rfl) (h.fr 72) (da_cons (de_var 1) (da_cons (de_tup (da_cons (de_ty 3 (by rfl) (h.fr 64) PyProof.Rows.Boot.«list») (da_cons (de_ty 4 (by rfl) (h.fr 63) PyProof.Rows.Boot.«tuple») da_nil))) da_nil))))) (dss_one (x_raise (cx_BadPair h) (takes_of rfl rfl rfl rfl) (hr.mono (by decide)) (da_cons (x_neg de_int) da_nil))) dss_nil)
  (dss_cons (ds_set 2 de_dt nd_several_pairs)
  (dss_cons (ds_set 3 (de_lst da_nil) nd_several_pairs)
  (dss_cons (ds_for [4, 5] (passes_of rfl) rfl (di_enum (by rfl) (by rfl) (h.fr 71) (da_cons (de_var 1) da_nil)) (dg_tup rfl rfl (dgs_cons (dg_name 4 nd_several_pairs) (dgs_cons (dg_name 5 nd_several_pairs) dgs_nil))) (dss_cons (ds_if ((dw_or (dt_not (dt_tru (by rfl) (de_callD ((ok_is_pair h).mono (by decide)) hr (takes_of rfl rfl rfl rfl) (by rfl) (dj_d (de_var 0) (dj_d (de_var 5) dj_nil))))) (dw_or1 (dt_ev [2, 5] [] (y_cmp (c_in hr) (de_tup (da_cons (x_ix hr (de_var 5) de_int) (da_cons (x_ix hr (de_var 5) de_int) da_nil))) (de_var 2)))))).pt (dss_one (x_raise (cx_BadPair h) (takes_of rfl rfl rfl rfl) (hr.mono (by decide)) (da_cons (de_var 4) da_nil))) dss_nil)
  (dss_cons (ds_store 2 hr de_bl (de_tup (da_cons (x_ix hr (de_var 5) de_int) (da_cons (x_ix hr (de_var 5) de_int) da_nil))))
  (dss_cons (ds_store 2 hr de_bl (de_tup (da_cons (x_ix hr (de_var 5) de_int) (da_cons (x_ix hr (de_var 5) de_int) da_nil))))
  (dss_one (ds_expr (x_append 3 (ha := (da_cons (de_tup (da_cons (x_ix hr (de_var 5) de_int) (da_cons (x_ix hr (de_var 5) de_int) da_nil))) da_nil)))))))))
  (dss_one (ds_ret (de_take 3))))))))
theorem ok_several_pairs (h : Hy K mg) : Df (Tb K mg) P w K mg base "several_pairs" 4 2 [] (runDef 4 (d_several_pairs h)) := by
  obtain ⟨fd, F⟩ := h.s.d.def_ 24 (d := D_several_pairs) rfl
  exact ⟨_, fd, _, [], [], fo_several_pairs h F, h.gl 24, F.kp, F.bindsN (fun _ _ _ _ _ _ us hl => match us, hl with | [_, _], _ => rfl), .nil, fun _ => .nil⟩
theorem nd_ties_of : (["size", "pairs", "found", "a", "b"] : List Str).Nodup := by decide +kernel
def d_ties_of (h : Hy K mg) : M Fl :=
  (sSeq (sAsg (tgN 2) (eCallJ 2 (runDef 4 (d_several_pairs h)) [] (aConsD (eVar 0) (aConsD (eVar 1) aNilJ))))
  (sRet (eCB oTuple (aCons (eCB oSorted (aCons (eLc (iSeqD (eVar 2)) (tgT [(tgN 3), (tgN 4)]) (ret true) (eIf (tE blD (eBin dLt (eVar 3) (eVar 4))) (eCB oTup (aCons (eVar 3) (aCons (eVar 4) aNil))) (eCB oTup (aCons (eVar 4) (aCons (eVar 3) aNil)))) [3, 4]) aNil)) aNil))))
theorem sc_ties_of : FnScope ["size", "pairs", "found", "a", "b"] ["size", "pairs"] (L2.defScope (stm 43)) := ⟨rfl, rfl, rfl, nd_ties_of, rfl, by decide +kernel, by decide +kernel⟩
theorem fo_ties_of (h : Hy K mg) {f : Addr} {fd : FuncData} (F : FunD K D_ties_of.name D_ties_of.qual D_ties_of.params D_ties_of.body D_ties_of.scope (D_ties_of.dvs K) (D_ties_of.kws K) f fd) : FnOk P w K mg base (L2.CX P w) 5 f fd ["size", "pairs"] (spD (Tb K mg) 2 (runDef 3 (d_ties_of h))) :=
  fnD_ok F sc_ties_of rfl (fun cdv A outer s H E τ hr =>
  (dss_cons (ds_asg (ws := [2]) (de_callD ((ok_several_pairs h).mono (by decide)) hr (takes_of rfl rfl rfl rfl) (by rfl) (dj_d (de_var 0) (dj_d (de_var 1) dj_nil))) (dg_name 2 nd_ties_of))
  (dss_one (ds_ret (x_tuple (hm := (h.fr 63)) (ha := (da_cons (x_sorted (hm := (h.fr 67)) (ha := (da_cons (de_lc [3, 4] (by rfl) nd_ties_of (di_seq (by rfl) (de_var 2)) (own := [("a", 3), ("b", 4)]) (blkOk_by (own := [("a", 3), ("b", 4)]) (N := ["size", "pairs", "found", "a", "b"]) (sc := L2.defScope (stm 43)) (by decide +kernel)) (by rfl) (fun _ _ _ _ _ => (dg_tup rfl rfl (dgs_cons (dg_name 3 nd_ties_of) (dgs_cons (dg_name 4 nd_ties_of) dgs_nil)))) (fun _ _ _ _ _ => dts_nil) (fun _ _ _ _ _ => (de_if (y_cmp (c_lt hr) (de_var 3) (de_var 4)) (de_tup (da_cons (de_var 3) (da_cons (de_var 4) da_nil))) (de_tup (da_cons (de_var 4) (da_cons (de_var 3) da_nil)))))) da_nil))) da_nil)))))))
theorem ok_ties_of (h : Hy K mg) : Df (Tb K mg) P w K mg base "ties_of" 5 2 [] (runDef 3 (d_ties_of h)) := by
  obtain ⟨fd, F⟩ := h.s.d.def_ 25 (d := D_ties_of) rfl
  exact ⟨_, fd, _, [], [], fo_ties_of h F, h.gl 25, F.kp, F.bindsN (fun _ _ _ _ _ _ us hl => match us, hl with | [_, _], _ => rfl), .nil, fun _ => .nil⟩
theorem nd_arrows_of : (["size", "pairs"] : List Str).Nodup := by decide +kernel
def d_arrows_of (h : Hy K mg) : M Fl :=
  (sRet (eCB oTuple (aCons (eCB oSorted (aCons (eCallJ 2 (runDef 4 (d_several_pairs h)) [] (aConsD (eVar 0) (aConsD (eVar 1) aNilJ))) aNil)) aNil)))
theorem sc_arrows_of : FnScope ["size", "pairs"] ["size", "pairs"] (L2.defScope (stm 44)) := ⟨rfl, rfl, rfl, nd_arrows_of, rfl, by decide +kernel, by decide +kernel⟩
theorem fo_arrows_of (h : Hy K mg) {f : Addr} {fd : FuncData} (F : FunD K D_arrows_of.name D_arrows_of.qual D_arrows_of.params D_arrows_of.body D_arrows_of.scope (D_arrows_of.dvs K) (D_arrows_of.kws K) f fd) : FnOk P w K mg base (L2.CX P w) 5 f fd ["size", "pairs"] (spD (Tb K mg) 2 (runDef 0 (d_arrows_of h))) :=
  fnD_ok F sc_arrows_of rfl (fun cdv A outer s H E τ hr =>
  (dss_one (ds_ret (x_tuple (hm := (h.fr 63)) (ha := (da_cons (x_sorted (hm := (h.fr 67)) (ha := (da_cons (de_callD ((ok_several_pairs h).mono (by decide)) hr (takes_of rfl rfl rfl rfl) (by rfl) (dj_d (de_var 0) (dj_d (de_var 1) dj_nil))) da_nil))) da_nil))))))
theorem ok_arrows_of (h : Hy K mg) : Df (Tb K mg) P w K mg base "arrows_of" 5 2 [] (runDef 0 (d_arrows_of h)) := by
  obtain ⟨fd, F⟩ := h.s.d.def_ 26 (d := D_arrows_of) rfl
  exact ⟨_, fd, _, [], [], fo_arrows_of h F, h.gl 26, F.kp, F.bindsN (fun _ _ _ _ _ _ us hl => match us, hl with | [_, _], _ => rfl), .nil, fun _ => .nil⟩
theorem nd_pair_of : (["size", "pair"] : List Str).Nodup := by decide +kernel
def d_pair_of (h : Hy K mg) : M Fl :=
  (sSeq (sIf (tNot (tE dTru (eCallJ 2 (runDef 0 (d_is_pair h)) [] (aConsD (eVar 0) (aConsD (eVar 1) aNilJ))))) (sRaise 3 [1] (aCons (eC (.int 0)) aNil)) sNx)
  (sRet (eCB oTup (aCons (eBin dIx (eVar 1) (eC (.int 0))) (aCons (eBin dIx (eVar 1) (eC (.int 1))) aNil)))))
theorem sc_pair_of : FnScope ["size", "pair"] ["size", "pair"] (L2.defScope (stm 41)) := ⟨rfl, rfl, rfl, nd_pair_of, rfl, by decide +kernel, by decide +kernel⟩
theorem fo_pair_of (h : Hy K mg) {f : Addr} {fd : FuncData} (F : FunD K D_pair_of.name D_pair_of.qual D_pair_of.params D_pair_of.body D_pair_of.scope (D_pair_of.dvs K) (D_pair_of.kws K) f fd) : FnOk P w K mg base (L2.CX P w) 4 f fd ["size", "pair"] (spD (Tb K mg) 2 (runDef 0 (d_pair_of h))) :=
  fnD_ok F sc_pair_of rfl (fun cdv A outer s H E τ hr =>
  (dss_cons (ds_if (dt_not (dt_tru (by rfl) (de_callD ((ok_is_pair h).mono (by decide)) hr (takes_of rfl rfl rfl rfl) (by rfl) (dj_d (de_var 0) (dj_d (de_var 1) dj_nil))))) (dss_one (x_raise (cx_BadPair h) (takes_of rfl rfl rfl rfl) (hr.mono (by decide)) (da_cons de_int da_nil))) dss_nil)
  (dss_one (ds_ret (de_tup (da_cons (x_ix hr (de_var 1) de_int) (da_cons (x_ix hr (de_var 1) de_int) da_nil)))))))
theorem ok_pair_of (h : Hy K mg) : Df (Tb K mg) P w K mg base "pair_of" 4 2 [] (runDef 0 (d_pair_of h)) := by
  obtain ⟨fd, F⟩ := h.s.d.def_ 27 (d := D_pair_of) rfl
  exact ⟨_, fd, _, [], [], fo_pair_of h F, h.gl 27, F.kp, F.bindsN (fun _ _ _ _ _ _ us hl => match us, hl with | [_, _], _ => rfl), .nil, fun _ => .nil⟩
theorem nd__law_asked : (["word", "size", "value", "got", "e"] : List Str).Nodup := by decide +kernel
def d__law_asked (h : Hy K mg) : M Fl :=
  (sSeq (sAsg (tgN 3) (eC .non))
  (sSeq (sTry (sIf (tE blD (eBin (dEq false) (eVar 0) (eC (.int 0)))) (sAsg (tgN 3) (eCB oLst (aCons (eC (.str "told")) (aCons (eCallJ 3 (runDef 1 (d_lot_of h)) [(.bl false)] (aConsD (eVar 1) (aConsD (eVar 2) aNilJ))) aNil)))) (sIf (tE blD (eBin (dEq false) (eVar 0) (eC (.int 1)))) (sAsg (tgN 3) (eCB oLst (aCons (eC (.str "told")) (aCons (eCallJ (2 + 1) (runDef 1 (d_lot_of h)) [] (aAppK 2 (aConsD (eVar 1) (aConsD (eVar 2) aNilJ)) (aCons (eC (.bl true)) aNil))) aNil)))) (sIf (tE blD (eBin (dEq false) (eVar 0) (eC (.int 2)))) (sAsg (tgN 3) (eCB oLst (aCons (eC (.str "told")) (aCons (eCallJ 2 (runDef 1 (d_row_of h)) [] (aConsD (eVar 1) (aConsD (eVar 2) aNilJ))) aNil)))) (sIf (tE blD (eBin (dEq false) (eVar 0) (eC (.int 3)))) (sAsg (tgN 3) (eCB oLst (aCons (eC (.str "told")) (aCons (eCallJ 2 (runDef 3 (d_ties_of h)) [] (aConsD (eVar 1) (aConsD (eVar 2) aNilJ))) aNil)))) (sIf (tE blD (eBin (dEq false) (eVar 0) (eC (.int 4)))) (sAsg (tgN 3) (eCB oLst (aCons (eC (.str "told")) (aCons (eCallJ 2 (runDef 0 (d_arrows_of h)) [] (aConsD (eVar 1) (aConsD (eVar 2) aNilJ))) aNil)))) (sAsg (tgN 3) (eCB oLst (aCons (eC (.str "told")) (aCons (eCallJ 2 (runDef 0 (d_pair_of h)) [] (aConsD (eVar 1) (aConsD (eVar 2) aNilJ))) aNil))))))))) [⟨exT 4, 4, fun x => (sAsg (tgN 3) (eCB oLst (aCons (eC (.str "lot")) (aCons (eHeld 4 (xnF (XTn h) 1 x)) (aCons (eHeld 4 (xnI (XTn h) 0 x)) aNil)))))⟩, ⟨exT 5, 4, fun x => (sAsg (tgN 3) (eCB oLst (aCons (eC (.str "row")) (aCons (eHeld 4 (xnF (XTn h) 1 x)) (aCons (eHeld 4 (xnI (XTn h) 0 x)) aNil)))))⟩, ⟨exT 3, 4, fun x => (sAsg (tgN 3) (eCB oLst (aCons (eC (.str "pair")) (aCons (eHeld 4 (xnF (XTn h) 1 x)) (aCons (eHeld 4 (xnI (XTn h) 0 x)) aNil)))))⟩])
  (sRet (eVar 3))))
theorem sc__law_asked : FnScope ["word", "size", "value", "got", "e"] ["word", "size", "value"] (L2.defScope (stm 57)) := ⟨rfl, rfl, rfl, nd__law_asked, rfl, by decide +kernel, by decide +kernel⟩
theorem fo__law_asked (h : Hy K mg) {f : Addr} {fd : FuncData} (F : FunD K D__law_asked.name D__law_asked.qual D__law_asked.params D__law_asked.body D__law_asked.scope (D__law_asked.dvs K) (D__law_asked.kws K) f fd) : FnOk P w K mg base (L2.CX P w) 6 f fd ["word", "size", "value"] (spD (Tb K mg) 3 (runDef 2 (d__law_asked h))) :=
  fnD_ok F sc__law_asked rfl (fun cdv A outer s H E τ hr =>
  (dss_cons (ds_asg (ws := [3]) de_non (dg_name 3 nd__law_asked))
  (dss_cons (ds_try rfl rfl nd__law_asked (takes_of rfl rfl rfl rfl) (fun W pn xe tk po => (dss_one (ds_if (y_cmp (c_eq hr) (de_var 0) de_int) (dss_one (ds_asg (ws := [3]) (de_lst (da_cons de_str (da_cons (de_callD ((ok_lot_of_2 h).mono (by decide)) hr tk (by rfl) (dj_d (de_var 1) (dj_d (de_var 2) dj_nil))) da_nil))) (dg_name 3 nd__law_asked))) (dss_one (ds_if (y_cmp (c_eq hr) (de_var 0) de_int) (dss_one (ds_asg (ws := [3]) (de_lst (da_cons de_str (da_cons (callK_lot_of h hr tk (dj_d (de_var 1) (dj_d (de_var 2) dj_nil)) (dk_cons de_bl dk_nil)) da_nil))) (dg_name 3 nd__law_asked))) (dss_one (ds_if (y_cmp (c_eq hr) (de_var 0) de_int) (dss_one (ds_asg (ws := [3]) (de_lst (da_cons de_str (da_cons (de_callD ((ok_row_of h).mono (by decide)) hr tk (by rfl) (dj_d (de_var 1) (dj_d (de_var 2) dj_nil))) da_nil))) (dg_name 3 nd__law_asked))) (dss_one (ds_if (y_cmp (c_eq hr) (de_var 0) de_int) (dss_one (ds_asg (ws := [3]) (de_lst (da_cons de_str (da_cons (de_callD ((ok_ties_of h).mono (by decide)) hr tk (by rfl) (dj_d (de_var 1) (dj_d (de_var 2) dj_nil))) da_nil))) (dg_name 3 nd__law_asked))) (dss_one (ds_if (y_cmp (c_eq hr) (de_var 0) de_int) (dss_one (ds_asg (ws := [3]) (de_lst (da_cons de_str (da_cons (de_callD ((ok_arrows_of h).mono (by decide)) hr tk (by rfl) (dj_d (de_var 1) (dj_d (de_var 2) dj_nil))) da_nil))) (dg_name 3 nd__law_asked))) (dss_one (ds_asg (ws := [3]) (de_lst (da_cons de_str (da_cons (de_callD ((ok_pair_of h).mono (by decide)) hr tk (by rfl) (dj_d (de_var 1) (dj_d (de_var 2) dj_nil))) da_nil))) (dg_name 3 nd__law_asked)))))))))))))) (HdsD.cons rfl rfl ⟨rfl, rfl, .inl (h.gl 34)⟩ (h.exT 4) (fun _ _ _ _ _ x _ hz hf xd => (dss_one (ds_asg (ws := [3]) (de_lst (da_cons de_str (da_cons (de_hxf (XTn h) 4 1 (by rfl) hz hf xd) (da_cons (de_hxi (XTn h) 4 0 (by rfl) hz hf xd (by rfl) (h.fr 72) (by rfl) (h.gl 30)) da_nil)))) (dg_name 3 nd__law_asked)))) (HdsD.cons rfl rfl ⟨rfl, rfl, .inl (h.gl 35)⟩ (h.exT 5) (fun _ _ _ _ _ x _ hz hf xd => (dss_one (ds_asg (ws := [3]) (de_lst (da_cons de_str (da_cons (de_hxf (XTn h) 4 1 (by rfl) hz hf xd) (da_cons (de_hxi (XTn h) 4 0 (by rfl) hz hf xd (by rfl) (h.fr 72) (by rfl) (h.gl 30)) da_nil)))) (dg_name 3 nd__law_asked)))) (HdsD.cons rfl rfl ⟨rfl, rfl, .inl (h.gl 33)⟩ (h.exT 3) (fun _ _ _ _ _ x _ hz hf xd => (dss_one (ds_asg (ws := [3]) (de_lst (da_cons de_str (da_cons (de_hxf (XTn h) 4 1 (by rfl) hz hf xd) (da_cons (de_hxi (XTn h) 4 0 (by rfl) hz hf xd (by rfl) (h.fr 72) (by rfl) (h.gl 30)) da_nil)))) (dg_name 3 nd__law_asked)))) HdsD.nil))))
  (dss_one (ds_ret (de_var 3))))))
theorem ok__law_asked (h : Hy K mg) : Df (Tb K mg) P w K mg base "_law_asked" 6 3 [] (runDef 2 (d__law_asked h)) := by
  obtain ⟨fd, F⟩ := h.s.d.def_ 28 (d := D__law_asked) rfl
  exact ⟨_, fd, _, [], [], fo__law_asked h F, h.gl 28, F.kp, F.bindsN (fun _ _ _ _ _ _ us hl => match us, hl with | [_, _, _], _ => rfl), .nil, fun _ => .nil⟩
theorem nd_law : (["script", "draws", "k", "size", "word", "value", "kept", "due"] : List Str).Nodup := by decide +kernel
def d_law (h : Hy K mg) : M Fl :=
  (sSeq (sSet 1 (eCallJ 1 (runDef 6 d__law_draws) [] (aConsD (eVar 0) aNilJ)))
  (sSeq (sFor (iRng1D (aCons (eC (.int 6)) aNil)) (tgN 2) (sSeq (sAsg (tgN 3) (eBin dAdd (eC (.int 1)) (eCallJ 2 (runDef 0 d__law_take) [] (aConsV 1 (aConsD (eC (.int 9)) aNilJ)))))
  (sSeq (sIf (tE blD (eBin (dEq false) (eVar 3) (eC (.int 9)))) (sAsg (tgN 3) (eC (.int 40))) sNx)
  (sSeq (sAsg (tgN 4) (eBin dIx (eCB oLst (aCons (eC (.int 0)) (aCons (eC (.int 2)) (aCons (eC (.int 3)) (aCons (eC (.int 4)) (aCons (eC (.int 1)) (aCons (eC (.int 5)) aNil))))))) (eBin dMod (eCB oInt (aCons (eBin dAdd (eVar 2) (eCallJ 2 (runDef 0 d__law_take) [] (aConsV 1 (aConsD (eC (.int 6)) aNilJ)))) aNil)) (eC (.int 6)))))
  (sSeq (sAsg (tgN 5) (eCallJ 3 (runDef 5 d__law_several) [] (aConsV 1 (aConsD (eVar 3) (aConsD (eBin (dI2 fun i j => decide (j < i)) (eVar 4) (eC (.int 2))) aNilJ)))))
  (sSeq (sIf (tE blD (eBin (dEq false) (eVar 4) (eC (.int 5)))) (sAsg (tgN 5) (eCallJ 2 (runDef 4 d__law_two) [] (aConsV 1 (aConsD (eVar 3) aNilJ)))) sNx)
  (sSeq (sAsg (tgN 6) (eCB oRepr (aCons (eVar 5) aNil)))
  (sSeq (sIf (tE blD (eBin dLt (eVar 4) (eC (.int 3)))) (sAsg (tgN 7) (eCallJ 3 (runDef 2 (d__law_due_things h)) [] (aConsD (eVar 5) (aConsD (eVar 3) (aConsD (eVar 4) aNilJ))))) (sIf (tE blD (eBin dLt (eVar 4) (eC (.int 5)))) (sAsg (tgN 7) (eCallJ 3 (runDef 5 (d__law_due_pairs h)) [] (aConsD (eVar 5) (aConsD (eVar 3) (aConsD (eBin (dEq false) (eVar 4) (eC (.int 4))) aNilJ))))) (sIf (tE dTru (eCallJ 2 (runDef 0 (d__law_good_pair h)) [] (aConsD (eVar 5) (aConsD (eVar 3) aNilJ)))) (sAsg (tgN 7) (eCB oLst (aCons (eC (.str "told")) (aCons (eCB oTup (aCons (eBin dIx (eVar 5) (eC (.int 0))) (aCons (eBin dIx (eVar 5) (eC (.int 1))) aNil))) aNil)))) (sAsg (tgN 7) (eCB oLst (aCons (eC (.str "pair")) (aCons (eC (.int 0)) aNil)))))))
  (sSeq (sIf (tOr (tNot (tE dTru (eCallJ 3 (runDef 3 (d__law_same h)) [] (aConsD (eCallJ 3 (runDef 2 (d__law_asked h)) [] (aConsD (eVar 4) (aConsD (eVar 3) (aConsD (eVar 5) aNilJ)))) (aConsD (eVar 7) (aConsD (eBin (dIn false) (eVar 4) (eCB oTup (aCons (eC (.int 3)) (aCons (eC (.int 4)) aNil)))) aNilJ)))))) (tE blD (eBin (dEq true) (eCB oRepr (aCons (eVar 5) aNil)) (eVar 6)))) (sRet (eC (.bl false))) sNx)
  (sIf (tNot (tE dTru (eCallJ 2 (runDef 4 (d__law_singles h)) [] (aConsV 1 (aConsD (eVar 3) aNilJ))))) (sRet (eC (.bl false))) sNx))))))))))
  (sRet (eCallJ 1 (runDef 13 (d__law_errors h)) [] (aConsV 1 aNilJ)))))
theorem sc_law : FnScope ["script", "draws", "k", "size", "word", "value", "kept", "due"] ["script"] (L2.defScope (stm 63)) := ⟨rfl, rfl, rfl, nd_law, rfl, by decide +kernel, by decide +kernel⟩
theorem fo_law (h : Hy K mg) {f : Addr} {fd : FuncData} (F : FunD K D_law.name D_law.qual D_law.params D_law.body D_law.scope (D_law.dvs K) (D_law.kws K) f fd) : FnG P w K mg base (L2.CX P w) 7 f fd ["script"] (spD (Tb K mg) 1 (runDef 7 (d_law h))) :=
  fnDG_ok F sc_law rfl (fun cdv A outer s H E τ hgd hr =>
  (dss_cons (ds_set 1 (de_callD ((ok__law_draws h).mono (by decide)) hr (takes_of rfl rfl rfl rfl) (by rfl) (dj_d (de_var 0) dj_nil)) nd_law)
  (dss_cons (ds_for [2] (passes_of rfl) rfl (di_rng1 (by rfl) (h.fr 70) (da_cons de_int da_nil)) (dg_name 2 nd_law) (dss_cons (ds_asg (ws := [3]) (x_add de_int (de_callD ((ok__law_take h).mono (by decide)) hr (takes_of rfl rfl rfl rfl) (by rfl) (dj_v 1 (dj_d de_int dj_nil)))) (dg_name 3 nd_law))
  (dss_cons (ds_if (y_cmp (c_eq hr) (de_var 3) de_int) (dss_one (ds_asg (ws := [3]) de_int (dg_name 3 nd_law))) dss_nil)
  (dss_cons (ds_asg (ws := [4]) (x_ix hr (de_lst (da_cons de_int (da_cons de_int (da_cons de_int (da_cons de_int (da_cons de_int (da_cons de_int da_nil))))))) (x_mod (x_int (hm := (h.fr 62)) (ha := (da_cons (x_add (de_var 2) (de_callD ((ok__law_take h).mono (by decide)) hr (takes_of rfl rfl rfl rfl) (by rfl) (dj_v 1 (dj_d de_int dj_nil)))) da_nil))) de_int)) (dg_name 4 nd_law))
  (dss_cons (ds_asg (ws := [5]) (de_callD ((ok__law_several h).mono (by decide)) hr (takes_of rfl rfl rfl rfl) (by rfl) (dj_v 1 (dj_d (de_var 3) (dj_d (x_cmp c_gt (de_var 4) de_int) dj_nil)))) (dg_name 5 nd_law))
  (dss_cons (ds_if (y_cmp (c_eq hr) (de_var 4) de_int) (dss_one (ds_asg (ws := [5]) (de_callD ((ok__law_two h).mono (by decide)) hr (takes_of rfl rfl rfl rfl) (by rfl) (dj_v 1 (dj_d (de_var 3) dj_nil))) (dg_name 5 nd_law))) dss_nil)
  (dss_cons (ds_asg (ws := [6]) (x_repr (hr := hr) (hgd := hgd) (hm := (h.fr 68)) (ha := (da_cons (de_var 5) da_nil))) (dg_name 6 nd_law))
  (dss_cons (ds_if (y_cmp (c_lt hr) (de_var 4) de_int) (dss_one (ds_asg (ws := [7]) (de_callD ((ok__law_due_things h).mono (by decide)) hr (takes_of rfl rfl rfl rfl) (by rfl) (dj_d (de_var 5) (dj_d (de_var 3) (dj_d (de_var 4) dj_nil)))) (dg_name 7 nd_law))) (dss_one (ds_if (y_cmp (c_lt hr) (de_var 4) de_int) (dss_one (ds_asg (ws := [7]) (de_callD ((ok__law_due_pairs h).mono (by decide)) hr (takes_of rfl rfl rfl rfl) (by rfl) (dj_d (de_var 5) (dj_d (de_var 3) (dj_d (x_cmp (c_eq hr) (de_var 4) de_int) dj_nil)))) (dg_name 7 nd_law))) (dss_one (ds_if (dt_tru (by rfl) (de_callD ((ok__law_good_pair h).mono (by decide)) hr (takes_of rfl rfl rfl rfl) (by rfl) (dj_d (de_var 5) (dj_d (de_var 3) dj_nil)))) (dss_one (ds_asg (ws := [7]) (de_lst (da_cons de_str (da_cons (de_tup (da_cons (x_ix hr (de_var 5) de_int) (da_cons (x_ix hr (de_var 5) de_int) da_nil))) da_nil))) (dg_name 7 nd_law))) (dss_one (ds_asg (ws := [7]) (de_lst (da_cons de_str (da_cons de_int da_nil))) (dg_name 7 nd_law))))))))
  (dss_cons (ds_if ((dw_or (dt_not (dt_tru (by rfl) (de_callD ((ok__law_same h).mono (by decide)) hr (takes_of rfl rfl rfl rfl) (by rfl) (dj_d (de_callD ((ok__law_asked h).mono (by decide)) hr (takes_of rfl rfl rfl rfl) (by rfl) (dj_d (de_var 4) (dj_d (de_var 3) (dj_d (de_var 5) dj_nil)))) (dj_d (de_var 7) (dj_d (x_cmp (c_in hr) (de_var 4) (de_tup (da_cons de_int (da_cons de_int da_nil)))) dj_nil)))))) (dw_or1 (y_cmp (c_ne hr) (x_repr (hr := hr) (hgd := hgd) (hm := (h.fr 68)) (ha := (da_cons (de_var 5) da_nil))) (de_var 6))))).pt (dss_one (ds_ret de_bl)) dss_nil)
  (dss_one (ds_if (dt_not (dt_tru (by rfl) (de_callD ((ok__law_singles h).mono (by decide)) hr (takes_of rfl rfl rfl rfl) (by rfl) (dj_v 1 (dj_d (de_var 3) dj_nil))))) (dss_one (ds_ret de_bl)) dss_nil)))))))))))
  (dss_one (ds_ret (de_callD ((ok__law_errors h).mono (by decide)) hr (takes_of rfl rfl rfl rfl) (by rfl) (dj_v 1 dj_nil)))))))
end
end Gk99
end

section
set_option maxRecDepth 100000
set_option maxHeartbeats 1000000
namespace Q99
open PySem PySem.Spec PyProof.Rows L2 DF Gk99
variable {K : PySem.W.Frag} {mg : Str → Option Value}
/-! ### how a denotation runs, row by row -/
section
variable {f g h : M O} {ga : M (List D)} {gj : M (List J)} {s s1 s2 : S} {o o2 : O} {d d2 : D} {t : M Bool} {F F2 : M Fl}
theorem b_ok {α β : Type} {f : M α} {k : α → M β} {a : α} (e : f s = .ok a s1) : bnd f k s = k a s1 := by unfold bnd; rw [e]
theorem opt_some {α : Type} {o : Option α} {a : α} (e : o = some a) : opt o s = .ok a s := by rw [e]; rfl
theorem e_var {i : Nat} (e : s[i]? = some (some (.fr d))) : eVar i s = .ok (.fr d) s := by unfold eVar; rw [e]
theorem e_bin {op : D → D → Option O} (e1 : f s = .ok o s1) (e2 : g s1 = .ok o2 s2) {r : O} (e : op (fz o) (fz o2) = some r) : eBin op f g s = .ok r s2 := by
  unfold eBin; rw [b_ok e1]; exact (b_ok e2).trans (opt_some e)
theorem e_un {op : D → Option O} (e1 : f s = .ok o s1) {r : O} (e : op (fz o) = some r) : eUn op f s = .ok r s1 := by
  unfold eUn; rw [b_ok e1]; exact opt_some e
theorem a_cons {ds : List D} (e1 : f s = .ok o s1) (e2 : ga s1 = .ok ds s2) : aCons f ga s = .ok (fz o :: ds) s2 := by
  unfold aCons; rw [b_ok e1]; simp only; rw [b_ok e2]
theorem a_nil : aNil s = .ok [] s := rfl
theorem j_nil : aNilJ s = .ok [] s := rfl
theorem j_d {js : List J} (e1 : f s = .ok o s1) (e2 : gj s1 = .ok js s2) : aConsD f gj s = .ok (Sum.inl (fz o) :: js) s2 := by
  unfold aConsD; rw [b_ok e1]; simp only; rw [b_ok e2]
theorem j_v {i : Nat} {js : List J} (e : s[i]? = some (some o)) (e2 : gj s = .ok js s2) : aConsV i gj s = .ok (Sum.inr i :: js) s2 := by
  unfold aConsV; rw [e]; simp only; rw [b_ok e2]
theorem e_cb {op : List D → Option O} {ds : List D} (e1 : ga s = .ok ds s1) {r : O} (e : op ds = some r) : eCB op ga s = .ok r s1 := by
  unfold eCB; rw [b_ok e1]; unfold opt; rw [e]
theorem e_call {np : Nat} {den : M O} {dd : List D} {js : List J} {os os2 : S} {r : O} (e1 : gj s = .ok js s1) (hl : js.length + dd.length = np) (ht : takeA 0 js s1 = some (os, s2)) (hd : den (os ++ dd.map fun d => some (.fr d)) = .ok r os2) : eCallJ np den dd gj s = .ok (retag 1 r) (putA s1 js os2 s2) := by
  unfold eCallJ; rw [b_ok e1, if_pos hl, ht]; simp only; rw [hd]
theorem e_call_er {np : Nat} {den : M O} {dd : List D} {js : List J} {os os2 : S} {x : Exn} (e1 : gj s = .ok js s1) (hl : js.length + dd.length = np) (ht : takeA 0 js s1 = some (os, s2)) (hd : den (os ++ dd.map fun d => some (.fr d)) = .er x os2) : eCallJ np den dd gj s = .er x (putA s1 js os2 s2) := by
  unfold eCallJ; rw [b_ok e1, if_pos hl, ht]; simp only; rw [hd]
theorem e_mut {j : Nat} {op : O → List D → Option (O × O)} {o1 res : O} {ds : List D} (h0 : s[j]? = some (some o)) (hl : isLst o = true) (e : ga s = .ok ds s1) (h1 : s1[j]? = some (some o1)) (ho : op o1 ds = some (res, o2)) : eMut j op ga s = .ok res (s1.set j (some o2)) := by
  unfold eMut
  rw [h0]
  show (if isLst o = true then _ else _) = _
  rw [if_pos hl, b_ok e, h1]
  show (match op o1 ds with | some (res, o2) => R.ok res (s1.set j (some o2)) | none => R.no) = _
  rw [ho]
theorem s_seq (e1 : F s = .ok .nx s1) : sSeq F F2 s = F2 s1 := by unfold sSeq; rw [b_ok e1]
theorem s_seq_rt (e1 : F s = .ok (.rt o) s1) : sSeq F F2 s = .ok (.rt o) s1 := by unfold sSeq; rw [b_ok e1]
theorem s_seq_er {x : Exn} (e1 : F s = .er x s1) : sSeq F F2 s = .er x s1 := by unfold sSeq bnd; rw [e1]
theorem s_if {b : Bool} (e1 : t s = .ok b s1) : sIf t F F2 s = if b then F s1 else F2 s1 := by unfold sIf; rw [b_ok e1]; cases b <;> rfl
theorem s_asg {i : Nat} (e1 : f s = .ok o s1) : sAsg (tgN i) f s = .ok .nx (s1.set i (some (.fr (fz o)))) := by unfold sAsg; rw [b_ok e1]; rfl
theorem s_set {i : Nat} (e1 : f s = .ok o s1) : sSet i f s = .ok .nx (s1.set i (some (retag 1 o))) := by unfold sSet; rw [b_ok e1]
theorem s_ret (e1 : f s = .ok o s1) : sRet f s = .ok (.rt o) s1 := by unfold sRet; rw [b_ok e1]
theorem s_expr (e1 : f s = .ok o s1) : sExpr f s = .ok .nx s1 := by unfold sExpr; rw [b_ok e1]
theorem t_e {op : D → Option Bool} {b : Bool} (e1 : f s = .ok o s1) (e : op (fz o) = some b) : tE op f s = .ok b s1 := by
  unfold tE; rw [b_ok e1]; exact opt_some e
theorem t_not {b : Bool} (e1 : t s = .ok b s1) : DF.tNot t s = .ok (!b) s1 := by unfold DF.tNot; rw [b_ok e1]
theorem t_and {u : M Bool} {b : Bool} (e1 : t s = .ok b s1) : DF.tAnd t u s = if b then u s1 else .ok false s1 := by unfold DF.tAnd; rw [b_ok e1]; cases b <;> rfl
theorem t_or {u : M Bool} {b : Bool} (e1 : t s = .ok b s1) : DF.tOr t u s = if b then .ok true s1 else u s1 := by unfold DF.tOr; rw [b_ok e1]; cases b <;> rfl
theorem e_and {b : Bool} (e1 : f s = .ok (.fr (.bl b)) s1) : eAndV f g s = if b then g s1 else .ok (.fr (.bl false)) s1 := by unfold eAndV; rw [b_ok e1]; cases b <;> rfl
theorem e_or {b : Bool} (e1 : f s = .ok (.fr (.bl b)) s1) : eOrV f g s = if b then .ok (.fr (.bl true)) s1 else g s1 := by unfold eOrV; rw [b_ok e1]; cases b <;> rfl
theorem e_not {b : Bool} (e1 : f s = .ok (.fr (.bl b)) s1) : eNotV f s = .ok (.fr (.bl (!b))) s1 := by unfold eNotV; rw [b_ok e1]; rfl
theorem e_if {b : Bool} (e1 : t s = .ok b s1) : eIf t f g s = if b then f s1 else g s1 := by unfold eIf; rw [b_ok e1]; cases b <;> rfl
theorem e_chain {o1 o2 : D → D → Option O} {s3 : S} {oc : O} {b c : Bool} (e1 : f s = .ok o s1) (e2 : g s1 = .ok oc s2) (ea : o1 (fz o) (fz oc) = some (.fr (.bl b))) (e3 : b = true → h s2 = .ok (.fr d) s3) (hs : b = false → s3 = s2) (eb : b = true → o2 (fz oc) d = some (.fr (.bl c))) : eChain o1 o2 f g h s = .ok (.fr (.bl (b && c))) s3 := by
  unfold eChain; rw [b_ok e1]; unfold chain2; rw [b_ok e2]; unfold chain3
  have q : opt (o1 (fz o) (fz oc)) s2 = .ok (.fr (.bl b)) s2 := by unfold opt; rw [ea]
  rw [b_ok q]
  show chain4 o2 h (fz oc) (.bl b) s2 = _
  unfold chain4 onBl
  cases b with
  | true =>
    simp only
    rw [b_ok (e3 rfl)]
    exact opt_some (by rw [Bool.true_and]; exact eb rfl)
  | false => rw [hs rfl]; rfl
theorem run_rt {n : Nat} {os : S} (e : F (os ++ List.replicate n none) = .ok (.rt o) s1) : runDef n F os = .ok o (outs 0 os s1) := by unfold runDef; rw [e]
theorem run_nx {n : Nat} {os : S} (e : F (os ++ List.replicate n none) = .ok .nx s1) : runDef n F os = .ok (.fr .non) (outs 0 os s1) := by unfold runDef; rw [e]
theorem run_er {n : Nat} {os : S} {x : Exn} (e : F (os ++ List.replicate n none) = .er x s1) : runDef n F os = .er x (outs 0 os s1) := by unfold runDef; rw [e]
theorem s_store {j : Nat} {fi : M O} {oi oj0 oj oj' : O} (e1 : f s = .ok o s1) (h1 : s1[j]? = some (some oj0)) (e2 : fi s1 = .ok oi s2) (h2 : s2[j]? = some (some oj)) (hs : stSet oj (fz oi) (fz o) = some oj') : sStore j f fi s = .ok .nx (s2.set j (some oj')) := by
  unfold sStore
  refine (b_ok e1).trans ?_
  unfold stIx
  rw [h1]
  refine (b_ok e2).trans ?_
  unfold stAt
  rw [h2]
  show (match stSet oj (fz oi) (fz o) with | some o' => R.ok Fl.nx (s2.set j (some o')) | none => R.no) = _
  rw [hs]
theorem l_nil {t : Tg} {F : M Fl} : lpFor t F [] s = .ok .nx s := rfl
theorem l_cons {t : Tg} {F : M Fl} {ds : List D} (et : t d s = some s1) (e : F s1 = .ok .nx s2) : lpFor t F (d :: ds) s = lpFor t F ds s2 := by
  simp only [lpFor, et, e]
theorem l_rt {t : Tg} {F : M Fl} {ds : List D} (et : t d s = some s1) (e : F s1 = .ok (.rt o) s2) : lpFor t F (d :: ds) s = .ok (.rt o) s2 := by
  simp only [lpFor, et, e]
theorem l_er {t : Tg} {F : M Fl} {ds : List D} {x : Exn} (et : t d s = some s1) (e : F s1 = .er x s2) : lpFor t F (d :: ds) s = .er x s2 := by
  simp only [lpFor, et, e]
theorem c_nil {t : Tg} {tt : M Bool} {te : M O} {vs : List Nat} {acc : List O} : lpLc t tt te vs [] acc s = .ok (.lst 1 acc) s := rfl
theorem c_step {s3 : S} {t : Tg} {tt : M Bool} {te : M O} {vs : List Nat} {ds : List D} {acc : List O} (et : t d s = some s1) (e1 : tt s1 = .ok true s2) (e2 : te s2 = .ok o s3) (hi : inn o = true ∧ acc.length < 100000) : lpLc t tt te vs (d :: ds) acc s = lpLc t tt te vs ds (acc ++ [o]) (wipeS vs s3) := by
  simp only [lpLc, et, e1, e2, if_pos hi]
theorem e_lc {f : M (List D)} {t : Tg} {tt : M Bool} {te : M O} {vs : List Nat} {ds : List D} (e : f s = .ok ds s1) : eLc f t tt te vs s = lpLc t tt te vs ds [] (wipeS vs s1) := by unfold eLc; rw [b_ok e]
theorem s_for {f : M (List D)} {t : Tg} {ds : List D} (e : f s = .ok ds s1) : sFor f t F s = lpFor t F ds s1 := by unfold sFor; rw [b_ok e]
theorem i_rng1 {j : Int} (e : ga s = .ok [.int j] s1) (hj : -(2 ^ 62) ≤ j ∧ j < 2 ^ 62) : iRng1D ga s = .ok (rngD 0 j.toNat) s1 := by
  unfold iRng1D; rw [b_ok e]; unfold opt; simp only; rw [if_pos hj]
theorem i_seq {ds : List D} (e : f s = .ok o s1) (e2 : ofSeq (fz o) = some ds) : iSeqD f s = .ok ds s1 := by
  unfold iSeqD; rw [b_ok e]; unfold opt; simp only; rw [e2]
theorem i_enum {ds : List D} (e : ga s = .ok [d] s1) (e2 : ofSeq d = some ds) : iEnumD ga s = .ok (pairI 0 ds) s1 := by
  unfold iEnumD; rw [b_ok e]; unfold opt; simp only [e2, Option.map_some]
end
/-! ### values -/
def isInt : D → Bool
  | .int _ => true
  | _ => false
def basic : D → Bool
  | .int _ => true
  | .bl _ => true
  | .non => true
  | .str _ => true
  | .tup _ => true
  | .lst _ => true
  | _ => false
theorem r_is_integer (h : Hy K mg) (v : D) (hv : basic v = true) : runDef 0 (d_is_integer h) [some (.fr v)] = .ok (.fr (.bl (isInt v))) [none] := by
  cases v <;> first | rfl | cases hv
theorem r_law_int (h : Hy K mg) (v : D) (hv : basic v = true) : runDef 0 (d__law_int h) [some (.fr v)] = .ok (.fr (.bl (isInt v))) [none] := by
  cases v <;> first | rfl | cases hv
def thing (n : Int) : D → Bool
  | .int i => decide (0 ≤ i) && decide (i < n)
  | _ => false
theorem r_is_thing (h : Hy K mg) (v : D) (hv : basic v = true) (n : Int) : runDef 0 (d_is_thing h) [some (.fr (.int n)), some (.fr v)] = .ok (.fr (.bl (thing n v))) [none, none] := by
  have c := e_call (np := 1) (den := runDef 0 (d_is_integer h)) (dd := []) (s := [some (.fr (.int n)), some (.fr v)]) (j_d (e_var (i := 1) rfl) j_nil) rfl rfl (r_is_integer h v hv)
  refine run_rt (F := d_is_thing h) (s1 := [some (.fr (.int n)), some (.fr v)]) (s_ret ?_)
  refine (e_and c).trans ?_
  cases v with
  | int i => exact e_chain (s3 := [some (.fr (.int n)), some (.fr (.int i))]) (d := .int n) (b := decide (0 ≤ i)) (c := decide (i < n)) rfl (e_var rfl) rfl (fun _ => e_var rfl) (fun _ => rfl) (fun _ => rfl)
  | _ => first | rfl | cases hv
theorem r_law_is_thing (h : Hy K mg) (v : D) (hv : basic v = true) (n : Int) : runDef 0 (d__law_is_thing h) [some (.fr v), some (.fr (.int n))] = .ok (.fr (.bl (thing n v))) [none, none] := by
  have c := e_call (np := 1) (den := runDef 0 (d__law_int h)) (dd := []) (s := [some (.fr v), some (.fr (.int n))]) (j_d (e_var (i := 0) rfl) j_nil) rfl rfl (r_law_int h v hv)
  refine run_rt (F := d__law_is_thing h) (s1 := [some (.fr v), some (.fr (.int n))]) (s_ret ?_)
  refine (e_and c).trans ?_
  cases v with
  | int i => exact e_chain (s3 := [some (.fr (.int i)), some (.fr (.int n))]) (d := .int n) (b := decide (0 ≤ i)) (c := decide (i < n)) rfl (e_var rfl) rfl (fun _ => e_var rfl) (fun _ => rfl) (fun _ => rfl)
  | _ => first | rfl | cases hv
/-! ### views -/
theorem sel_no : ∀ (n : Nat) (s : S), sel (inM []) n s = s.map fun _ => none
  | _, [] => rfl
  | n, x :: r => by simp only [sel, List.map_cons, sel_no (n + 1) r]; rfl
theorem join_no : ∀ (s1 s : S), s1.length = s.length → joinS (s1.map fun _ => none) s = s
  | [], [], _ => rfl
  | _ :: s1, x :: s, h => by
    simp only [List.map_cons, joinS, join_no s1 s (Nat.succ.inj h)]
  | [], _ :: _, h => by cases h
  | _ :: _, [], h => by cases h
theorem join_vh (fv : List Nat) : ∀ (n : Nat) (s : S), joinS (sel (inV fv []) n s) (sel (inH fv []) n s) = s
  | _, [] => rfl
  | n, x :: r => by
    simp only [sel]
    have e1 : inV fv [] n = fv.contains n := by unfold DF.inV; simp
    have e2 : inH fv [] n = !fv.contains n := by unfold DF.inH; simp [DF.inV, DF.inM]
    rw [e1, e2]
    cases fv.contains n with
    | true =>
      cases x with
      | none => simp only [joinS, if_true, join_vh fv (n + 1) r]; rfl
      | some o => simp only [joinS, if_true, join_vh fv (n + 1) r]
    | false => simp only [joinS, Bool.not_false, if_true, Bool.false_eq_true, if_false, join_vh fv (n + 1) r]
theorem clS_no (k : Nat) (s : S) : clS k (s.map fun _ => none) = true := by
  unfold clS
  refine List.all_eq_true.mpr fun x hx => ?_
  obtain ⟨y, _, e⟩ := List.mem_map.mp hx
  subst e; rfl
theorem settle_nil {fv : List Nat} {c : Nat → Bool} {s s1 : S} (hl : s1.length = s.length) (hc : ∀ k, c k = true) : settle fv [] c s s1 = s := by
  unfold DF.settle
  rw [sel_no, if_pos (List.all_eq_true.mpr fun k _ => by rw [hc, clS_no]; rfl), join_vh, join_no _ _ hl]
theorem e_view {fv : List Nat} {f : M O} {s s1 : S} {d : D} (e : f (mask fv [] s) = .ok (.fr d) s1) (hl : s1.length = s.length) (hd : ∀ k, cl k d = true) : ev fv [] f s = .ok (.fr d) s := by
  unfold ev evG
  rw [e]
  show R.ok _ (DF.settle fv [] (fun k => clO k (.fr d)) s s1) = _
  rw [settle_nil hl (c := fun k => clO k (.fr d)) fun k => hd k]
theorem t_view {fv : List Nat} {f : M Bool} {s s1 : S} {b : Bool} (e : f (mask fv [] s) = .ok b s1) (hl : s1.length = s.length) : evT fv [] f s = .ok b s := by
  unfold evT evG
  rw [e]
  show R.ok _ (DF.settle fv [] (fun _ => true) s s1) = _
  rw [settle_nil hl (c := fun _ => true) fun _ => rfl]
/-! ### the draws -/
def dr (t : Nat) (is : List Int) : O := .lst t (is.map fun i => .fr (.int i))
theorem fzL_ints (is : List Int) : fzL (is.map fun i => O.fr (.int i)) = is.map D.int := by
  induction is with
  | nil => rfl
  | cons i is ih => simp only [List.map_cons, fzL, fz, ih]
theorem deq_int (i j : Int) : deq (.int i) (.int j) = decide (i = j) := by
  first | rfl | (unfold deq; by_cases h : i = j <;> simp [h])
theorem dEq_int (i j : Int) : dEq false (.int i) (.int j) = some (.fr (.bl (decide (i = j)))) := by
  unfold dEq
  rw [deq_int]
  show (if true = true then _ else _) = _
  rw [if_pos rfl]; simp
theorem r_take (is : List Int) (m : Int) (hm : 0 < m) : ∃ (r : Int) (is' : List Int), runDef 0 d__law_take [some (dr 2 is), some (.fr (.int m))] = .ok (.fr (.int r)) [some (dr 2 is'), none] ∧ 0 ≤ r ∧ r < m ∧ is'.length ≤ is.length := by
  have hlen : ev [0] [] (eCB oLen (aCons (eVar 0) aNil)) [some (dr 2 is), some (.fr (.int m))] = .ok (.fr (.int is.length)) [some (dr 2 is), some (.fr (.int m))] := by
    refine e_view (s1 := mask [0] [] [some (dr 2 is), some (.fr (.int m))]) (e_cb (a_cons (o := .fr (.lst (is.map D.int))) (e_var (d := .lst (is.map D.int)) ?_) a_nil) ?_) rfl fun k => rfl
    · show some (some (O.fr (fz (dr 2 is)))) = _
      unfold dr fz
      rw [fzL_ints]
    · show some (O.fr (.int ((is.map D.int).length))) = _
      rw [List.length_map]
  have hc := t_e (op := blD) (b := decide ((is.length : Int) = 0)) (e_bin (op := dEq false) (g := eC (.int 0)) (o2 := .fr (.int 0)) (s2 := [some (dr 2 is), some (.fr (.int m))]) hlen rfl (dEq_int _ _)) rfl
  by_cases h0 : is = []
  · subst h0
    refine ⟨0, [], ?_, Int.le_refl 0, hm, Nat.le_refl _⟩
    exact run_rt (F := d__law_take) (s1 := [some (dr 2 []), some (.fr (.int m))]) (s_seq_rt ((s_if hc).trans (s_ret (f := eC (.int 0)) (o := .fr (.int 0)) rfl)))
  · have hne : decide ((is.length : Int) = 0) = false := decide_eq_false fun z => h0 (List.eq_nil_of_length_eq_zero (by omega))
    rw [hne] at hc
    obtain ⟨is', x, rfl⟩ : ∃ is' x, is = is' ++ [x] := ⟨is.dropLast, is.getLast h0, (List.dropLast_concat_getLast h0).symm⟩
    refine ⟨x % m, is', ?_, Int.emod_nonneg _ (by omega), Int.emod_lt_of_pos _ hm, by simp⟩
    have hpop : eMut 0 mPop aNil [some (dr 2 (is' ++ [x])), some (.fr (.int m))] = .ok (.fr (.int x)) [some (dr 2 is'), some (.fr (.int m))] := by
      have e : mPop (dr 2 (is' ++ [x])) [] = some (.fr (.int x), dr 2 is') := by
        unfold mPop dr
        simp
      exact e_mut (o := dr 2 (is' ++ [x])) rfl rfl a_nil rfl e
    refine run_rt (F := d__law_take) (s1 := [some (dr 2 is'), some (.fr (.int m))]) ((s_seq ((s_if hc).trans rfl)).trans (s_ret (e_bin (o := .fr (.int x)) (o2 := .fr (.int m)) (s2 := [some (dr 2 is'), some (.fr (.int m))]) (e_cb (a_cons hpop a_nil) rfl) (e_var rfl) ?_)))
    show (if 0 < m then some (O.fr (.int (x % m))) else none) = _
    rw [if_pos hm]
end Q99
end

section
set_option maxRecDepth 100000
set_option maxHeartbeats 1000000
namespace Q99
open PySem PySem.Spec PyProof.Rows L2 DF Gk99
variable {K : PySem.W.Frag} {mg : Str → Option Value}
/-! ### calls with the draws lent -/
theorem dr_retag (t u : Nat) (is : List Int) : retag t (dr u is) = dr t is := rfl
theorem c_io {den : M O} {j t : Nat} {is is' : List Int} {f : M O} {o r : O} {s : S} (hs : s[j]? = some (some (dr t is))) (hf : f s = .ok o s) (hd : den [some (dr 2 is), some (.fr (fz o))] = .ok r [some (dr 2 is'), none]) :
    eCallJ 2 den [] (aConsV j (aConsD f aNilJ)) s = .ok (retag 1 r) (s.set j (some (dr t is'))) := by
  have ht : takeA 0 [Sum.inr j, Sum.inl (fz o)] s = some ([some (dr 2 is), some (.fr (fz o))], s.set j none) := by
    unfold takeA
    rw [hs]
    rfl
  refine (e_call (j_v hs (j_d hf j_nil)) rfl ht hd).trans ?_
  have hg : tgS s j = t := by unfold tgS; rw [hs]; rfl
  simp only [putA, hg, dr_retag, List.set_set]
theorem c_take {j t : Nat} {is : List Int} {f : M O} {m : Int} {s : S} (hm : 0 < m) (hs : s[j]? = some (some (dr t is))) (hf : f s = .ok (.fr (.int m)) s) :
    ∃ (r : Int) (is' : List Int), eCallJ 2 (runDef 0 d__law_take) [] (aConsV j (aConsD f aNilJ)) s = .ok (.fr (.int r)) (s.set j (some (dr t is'))) ∧ 0 ≤ r ∧ r < m := by
  obtain ⟨r, is', h1, h2, h3, _⟩ := r_take is m hm
  exact ⟨r, is', c_io hs hf h1, h2, h3⟩
theorem s_test {f : M O} {s s1 : S} {b : Bool} {F F2 : M Fl} (e : f s = .ok (.fr (.bl b)) s1) : sIf (tE blD f) F F2 s = if b then F s1 else F2 s1 := s_if (t_e e rfl)
theorem e_eqi {f : M O} {s s1 : S} {i j : Int} (e : f s = .ok (.fr (.int i)) s1) : eBin (dEq false) f (eC (.int j)) s = .ok (.fr (.bl (decide (i = j)))) s1 := e_bin (o2 := .fr (.int j)) e rfl (dEq_int i j)
theorem q_no {t : M Bool} {s s1 : S} {F F2 : M Fl} (e : t s = .ok false s1) : sSeq (sIf t F sNx) F2 s = F2 s1 := s_seq ((s_if e).trans rfl)
theorem q_rt {t : M Bool} {s s1 s2 : S} {o : O} {F F2 : M Fl} (e : t s = .ok true s1) (e2 : F s1 = .ok (.rt o) s2) : sSeq (sIf t F sNx) F2 s = .ok (.rt o) s2 := s_seq_rt ((s_if e).trans e2)
theorem t_eqi {f : M O} {s s1 : S} {i j : Int} {b : Bool} (e : f s = .ok (.fr (.int i)) s1) (h : decide (i = j) = b) : tE blD (eBin (dEq false) f (eC (.int j))) s = .ok b s1 := by subst h; exact t_e (e_eqi e) rfl
/-! ### entries -/
def ent (v : D) : Prop := (∃ i : Int, v = .int i ∧ -100 ≤ i ∧ i ≤ 100) ∨ v = .bl true ∨ v = .bl false ∨ v = .non ∨ v = .str "0" ∨ v = .str "a" ∨ v = .tup [.int 0]
theorem ent.basic {v : D} (h : ent v) : basic v = true := by
  rcases h with ⟨i, rfl, _⟩ | rfl | rfl | rfl | rfl | rfl | rfl <;> rfl
theorem atI_ok {α : Type} {xs : List α} {i : Int} (h0 : 0 ≤ i) {x : α} (h : xs[i.toNat]? = some x) : atI xs i = some x := by
  have hl := (List.getElem?_eq_some_iff.mp h).1
  unfold atI ixN
  rw [if_pos h0, if_pos (by omega)]
  exact h
/-- a list display of frozen values, one of them picked -/
theorem e_pick {g : M (List D)} {k : M O} {ds : List D} {s s1 s2 : S} {i : Int} {d : D} (hg : g s = .ok ds s1) (hl : ds.length ≤ 1000) (hk : k s1 = .ok (.fr (.int i)) s2) (h0 : 0 ≤ i) (h : ds[i.toNat]? = some d) : eBin dIx (eCB oLst g) k s = .ok (.fr d) s2 := by
  refine e_bin (o := nl ds) (e_cb hg ?_) hk ?_
  · unfold oLst; rw [if_pos hl]
  · rw [fz_nl]
    show (atI ds i).map O.fr = _
    rw [atI_ok h0 h]; rfl
theorem min2 {a b : M O} {s s1 s2 : S} {i j : Int} (ha : a s = .ok (.fr (.int i)) s1) (hb : b s1 = .ok (.fr (.int j)) s2) : eCB oMin2 (aCons a (aCons b aNil)) s = .ok (.fr (.int (if j < i then j else i))) s2 :=
  e_cb (a_cons ha (a_cons hb a_nil)) rfl
theorem r_entry (is : List Int) (n : Int) (hn : 0 < n) (hn2 : n ≤ 40) : ∃ (v : D) (is' : List Int), runDef 1 d__law_entry [some (dr 2 is), some (.fr (.int n))] = .ok (.fr v) [some (dr 2 is'), none] ∧ ent v := by
  obtain ⟨w, i1, e1, w0, w1⟩ := c_take (j := 0) (t := 2) (is := is) (f := eC (.int 12)) (m := 12) (s := [some (dr 2 is), some (.fr (.int n)), none]) (by decide) rfl rfl
  have st : sAsg (tgN 2) (eCallJ 2 (runDef 0 d__law_take) [] (aConsV 0 (aConsD (eC (.int 12)) aNilJ))) [some (dr 2 is), some (.fr (.int n)), none] = .ok .nx [some (dr 2 i1), some (.fr (.int n)), some (.fr (.int w))] := s_asg e1
  have v2 : eVar 2 [some (dr 2 i1), some (.fr (.int n)), some (.fr (.int w))] = .ok (.fr (.int w)) [some (dr 2 i1), some (.fr (.int n)), some (.fr (.int w))] := e_var rfl
  have v1 : eVar 1 [some (dr 2 i1), some (.fr (.int n)), some (.fr (.int w))] = .ok (.fr (.int n)) [some (dr 2 i1), some (.fr (.int n)), some (.fr (.int w))] := e_var rfl
  have fin : ∀ {v : D} {i2 : List Int} {F : M Fl}, F [some (dr 2 i1), some (.fr (.int n)), some (.fr (.int w))] = .ok (.rt (.fr v)) [some (dr 2 i2), some (.fr (.int n)), some (.fr (.int w))] → d__law_entry = sSeq (sAsg (tgN 2) (eCallJ 2 (runDef 0 d__law_take) [] (aConsV 0 (aConsD (eC (.int 12)) aNilJ)))) F → runDef 1 d__law_entry [some (dr 2 is), some (.fr (.int n))] = .ok (.fr v) [some (dr 2 i2), none] := fun {v i2 F} hF hd =>
    run_rt (F := d__law_entry) (s1 := [some (dr 2 i2), some (.fr (.int n)), some (.fr (.int w))]) (by rw [hd]; exact (s_seq st).trans hF)
  by_cases h8 : w = 8
  · obtain ⟨r, i2, e2, r0, r1⟩ := c_take (j := 0) (t := 2) (is := i1) (f := eC (.int 3)) (m := 3) (s := [some (dr 2 i1), some (.fr (.int n)), some (.fr (.int w))]) (by decide) rfl rfl
    have hk : ∃ v, ([.int (-1), .int (-2), .int (-n)] : List D)[r.toNat]? = some v ∧ ent v := by
      have : r = 0 ∨ r = 1 ∨ r = 2 := by omega
      rcases this with rfl | rfl | rfl
      · exact ⟨_, rfl, .inl ⟨_, rfl, by omega, by omega⟩⟩
      · exact ⟨_, rfl, .inl ⟨_, rfl, by omega, by omega⟩⟩
      · exact ⟨_, rfl, .inl ⟨_, rfl, by omega, by omega⟩⟩
    obtain ⟨v, hv, he⟩ := hk
    exact ⟨v, i2, fin (q_rt (t_eqi v2 (decide_eq_true h8)) (s_ret (e_pick (ds := [.int (-1), .int (-2), .int (-n)]) (a_cons (o := .fr (.int (-1))) (e_un (o := .fr (.int 1)) rfl rfl) (a_cons (o := .fr (.int (-2))) (e_un (o := .fr (.int 2)) rfl rfl) (a_cons (o := .fr (.int (-n))) (e_un v1 rfl) a_nil))) (by simp) e2 r0 hv))) rfl, he⟩
  · by_cases h9 : w = 9
    · obtain ⟨r, i2, e2, r0, r1⟩ := c_take (j := 0) (t := 2) (is := i1) (f := eC (.int 3)) (m := 3) (s := [some (dr 2 i1), some (.fr (.int n)), some (.fr (.int w))]) (by decide) rfl rfl
      exact ⟨.int (n + r), i2, fin ((q_no (t_eqi v2 (decide_eq_false h8))).trans (q_rt (t_eqi v2 (decide_eq_true h9)) (s_ret (e_bin v1 e2 rfl)))) rfl, .inl ⟨_, rfl, by omega, by omega⟩⟩
    · by_cases h10 : w = 10
      · obtain ⟨r, i2, e2, r0, r1⟩ := c_take (j := 0) (t := 2) (is := i1) (f := eC (.int 6)) (m := 6) (s := [some (dr 2 i1), some (.fr (.int n)), some (.fr (.int w))]) (by decide) rfl rfl
        have hk : ∃ v, ([.bl true, .bl false, .non, .str "0", .str "a", .tup [.int 0]] : List D)[r.toNat]? = some v ∧ ent v := by
          have : r = 0 ∨ r = 1 ∨ r = 2 ∨ r = 3 ∨ r = 4 ∨ r = 5 := by omega
          rcases this with rfl | rfl | rfl | rfl | rfl | rfl
          · exact ⟨_, rfl, .inr (.inl rfl)⟩
          · exact ⟨_, rfl, .inr (.inr (.inl rfl))⟩
          · exact ⟨_, rfl, .inr (.inr (.inr (.inl rfl)))⟩
          · exact ⟨_, rfl, .inr (.inr (.inr (.inr (.inl rfl))))⟩
          · exact ⟨_, rfl, .inr (.inr (.inr (.inr (.inr (.inl rfl)))))⟩
          · exact ⟨_, rfl, .inr (.inr (.inr (.inr (.inr (.inr rfl)))))⟩
        obtain ⟨v, hv, he⟩ := hk
        exact ⟨v, i2, fin ((q_no (t_eqi v2 (decide_eq_false h8))).trans ((q_no (t_eqi v2 (decide_eq_false h9))).trans (q_rt (t_eqi v2 (decide_eq_true h10)) (s_ret (e_pick (ds := [.bl true, .bl false, .non, .str "0", .str "a", .tup [.int 0]]) rfl (by simp) e2 r0 hv))))) rfl, he⟩
      · obtain ⟨r, i2, e2, r0, r1⟩ := c_take (j := 0) (t := 2) (is := i1) (f := eCB oMin2 (aCons (eVar 1) (aCons (eC (.int 24)) aNil))) (m := if 24 < n then 24 else n) (s := [some (dr 2 i1), some (.fr (.int n)), some (.fr (.int w))]) (by split <;> omega) rfl (min2 v1 rfl)
        exact ⟨.int r, i2, fin ((q_no (t_eqi v2 (decide_eq_false h8))).trans ((q_no (t_eqi v2 (decide_eq_false h9))).trans ((q_no (t_eqi v2 (decide_eq_false h10))).trans (s_ret e2)))) rfl, .inl ⟨_, rfl, by omega, by split at r1 <;> omega⟩⟩
end Q99
end

section
set_option maxRecDepth 100000
set_option maxHeartbeats 1000000
namespace Q99
open PySem PySem.Spec PyProof.Rows L2 DF Gk99
variable {K : PySem.W.Frag} {mg : Str → Option Value}
theorem fz_retag (t : Nat) (o : O) (h : isHd o = false) : fz (retag t o) = fz o := by cases o <;> first | rfl | cases h
/-- a call of entry -/
theorem c_entry {j t : Nat} {is : List Int} {f : M O} {n : Int} {s : S} (hn : 0 < n) (hn2 : n ≤ 40) (hs : s[j]? = some (some (dr t is))) (hf : f s = .ok (.fr (.int n)) s) :
    ∃ (v : D) (is' : List Int), eCallJ 2 (runDef 1 d__law_entry) [] (aConsV j (aConsD f aNilJ)) s = .ok (.fr v) (s.set j (some (dr t is'))) ∧ ent v := by
  obtain ⟨v, is', h1, h2⟩ := r_entry is n hn hn2
  exact ⟨v, is', c_io hs hf h1, h2⟩
/-- [entry for k in ..]: the draws at slot 0, the size at slot 1, k at slot 5 -/
theorem lc_entry {n : Int} (hn : 0 < n) (hn2 : n ≤ 40) {b c e : Option O} : ∀ (ds : List D) (acc : List D) (is : List Int), acc.length + ds.length ≤ 1000 → (∀ v ∈ acc, ent v) →
    ∃ (vs : List D) (is' : List Int), lpLc (tgN 5) (DF.ret true) (eCallJ 2 (runDef 1 d__law_entry) [] (aConsV 0 (aConsD (eVar 1) aNilJ))) [5] ds (acc.map .fr) [some (dr 2 is), some (.fr (.int n)), b, c, e, none] = .ok (.lst 1 (vs.map .fr)) [some (dr 2 is'), some (.fr (.int n)), b, c, e, none] ∧ vs.length = acc.length + ds.length ∧ ∀ v ∈ vs, ent v
  | [], acc, is, _, ha => ⟨acc, is, rfl, rfl, ha⟩
  | d :: ds, acc, is, hl, ha => by
    obtain ⟨v, i1, e1, he⟩ := c_entry (j := 0) (t := 2) (is := is) (f := eVar 1) (n := n) (s := [some (dr 2 is), some (.fr (.int n)), b, c, e, some (.fr d)]) hn hn2 rfl (e_var rfl)
    obtain ⟨vs, i2, e2, hl2, h2⟩ := lc_entry hn hn2 ds (acc ++ [v]) i1 (by simp only [List.length_append, List.length_cons, List.length_nil] at hl ⊢; omega) (fun x hx => (List.mem_append.mp hx).elim (ha x) fun z => by rw [List.mem_singleton.mp z]; exact he)
    refine ⟨vs, i2, ?_, by rw [hl2]; simp only [List.length_append, List.length_cons, List.length_nil]; omega, h2⟩
    rw [List.map_append] at e2
    exact (c_step (o := .fr v) rfl rfl e1 ⟨rfl, by rw [List.length_map]; simp only [List.length_cons] at hl; omega⟩).trans e2
def two (v : D) : Prop := (∃ a b, ent a ∧ ent b ∧ (v = .tup [a, b] ∨ v = .lst [a, b])) ∨ (∃ vs : List D, vs.length ≤ 3 ∧ (∀ x ∈ vs, ent x) ∧ v = .lst vs) ∨ v = .non ∨ v = .int 5 ∨ v = .str "01"
theorem dEq_gen {a b : D} (h1 : okE 16 a = true) (h2 : okE 16 b = true) (neg : Bool) : dEq neg a b = some (.fr (.bl (deq a b != neg))) := by unfold dEq; rw [h1, h2]; rfl
theorem in2 {f : M O} {s s1 : S} {i : Int} (e : f s = .ok (.fr (.int i)) s1) (ds : List Int) {g : M (List D)} (hg : g s1 = .ok (ds.map .int) s1) (hl : ds.length ≤ 1000) : eBin (dIn false) f (eCB oTup g) s = .ok (.fr (.bl (ds.any fun j => decide (j = i)))) s1 := by
  refine e_bin (o2 := .fr (.tup (ds.map .int))) e (e_cb hg ?_) ?_
  · unfold oTup; rw [if_pos (by rw [List.length_map]; exact hl)]
  · show dIn false (.int i) (.tup (ds.map .int)) = _
    have ok : okEL 16 (ds.map D.int) = true := by
      clear hg hl
      induction ds with
      | nil => rfl
      | cons d ds ih => show (true && okEL 16 (ds.map D.int)) = true; rw [ih]; rfl
    have any : ((ds.map D.int).any fun z => deq z (.int i)) = ds.any fun j => decide (j = i) := by
      rw [List.any_map]
      exact congrArg (fun f => ds.any f) (funext fun j => deq_int j i)
    unfold dIn
    show (if (okE 16 (.int i) && okEL 16 (ds.map D.int)) = true then some (O.fr (.bl ((((ds.map D.int).any fun z => deq z (.int i)) != false)))) else none) = _
    rw [ok, any]
    simp [okE]
theorem r_two (is : List Int) (n : Int) (hn : 0 < n) (hn2 : n ≤ 40) : ∃ (o : O) (is' : List Int), runDef 4 d__law_two [some (dr 2 is), some (.fr (.int n))] = .ok o [some (dr 2 is'), none] ∧ two (fz o) ∧ isHd o = false := by
  obtain ⟨w, i1, e1, w0, w1⟩ := c_take (j := 0) (t := 2) (is := is) (f := eC (.int 12)) (m := 12) (s := [some (dr 2 is), some (.fr (.int n)), none, none, none, none]) (by decide) rfl rfl
  have st : sAsg (tgN 2) (eCallJ 2 (runDef 0 d__law_take) [] (aConsV 0 (aConsD (eC (.int 12)) aNilJ))) [some (dr 2 is), some (.fr (.int n)), none, none, none, none] = .ok .nx [some (dr 2 i1), some (.fr (.int n)), some (.fr (.int w)), none, none, none] := s_asg e1
  have v2 : ∀ {x y z : Option O} {i : List Int}, eVar 2 [some (dr 2 i), some (.fr (.int n)), some (.fr (.int w)), x, y, z] = .ok (.fr (.int w)) [some (dr 2 i), some (.fr (.int n)), some (.fr (.int w)), x, y, z] := e_var rfl
  have v1 : ∀ {x y z : Option O} {i : List Int}, eVar 1 [some (dr 2 i), some (.fr (.int n)), some (.fr (.int w)), x, y, z] = .ok (.fr (.int n)) [some (dr 2 i), some (.fr (.int n)), some (.fr (.int w)), x, y, z] := e_var rfl
  have fin : ∀ {o : O} {i2 : List Int} {x y : Option O} {F : M Fl}, F [some (dr 2 i1), some (.fr (.int n)), some (.fr (.int w)), none, none, none] = .ok (.rt o) [some (dr 2 i2), some (.fr (.int n)), some (.fr (.int w)), x, y, none] → d__law_two = sSeq (sAsg (tgN 2) (eCallJ 2 (runDef 0 d__law_take) [] (aConsV 0 (aConsD (eC (.int 12)) aNilJ)))) F → runDef 4 d__law_two [some (dr 2 is), some (.fr (.int n))] = .ok o [some (dr 2 i2), none] := fun {o i2 x y F} hF hd =>
    run_rt (F := d__law_two) (s1 := [some (dr 2 i2), some (.fr (.int n)), some (.fr (.int w)), x, y, none]) (by rw [hd]; exact (s_seq st).trans hF)
  by_cases h10 : w = 10
  · obtain ⟨r, i2, e2, r0, r1⟩ := c_take (j := 0) (t := 2) (is := i1) (f := eC (.int 3)) (m := 3) (s := [some (dr 2 i1), some (.fr (.int n)), some (.fr (.int w)), none, none, none]) (by decide) rfl rfl
    have hk : ∃ m : Int, ([.int 1, .int 3, .int 0] : List D)[r.toNat]? = some (.int m) ∧ 0 ≤ m ∧ m ≤ 3 := by
      have : r = 0 ∨ r = 1 ∨ r = 2 := by omega
      rcases this with rfl | rfl | rfl
      · exact ⟨1, rfl, by omega, by omega⟩
      · exact ⟨3, rfl, by omega, by omega⟩
      · exact ⟨0, rfl, by omega, by omega⟩
    obtain ⟨m, hm, m0, m3⟩ := hk
    have hlen : (rngD 0 m.toNat).length = m.toNat := by unfold rngD; rw [List.length_map, List.length_range]
    obtain ⟨vs, i3, e3, hl3, h3⟩ := lc_entry hn hn2 (b := some (.fr (.int w))) (c := none) (e := none) (rngD 0 m.toNat) [] i2 (by rw [hlen]; simp only [List.length_nil]; omega) (fun _ h => (nomatch h))
    refine ⟨.lst 1 (vs.map .fr), i3, fin (x := none) (y := none) (q_rt (t_eqi v2 (decide_eq_true h10)) (s_ret ?_)) rfl, .inr (.inl ⟨vs, by rw [hl3, hlen]; simp only [List.length_nil]; omega, h3, by show D.lst (fzL (vs.map O.fr)) = _; rw [fzL_fr]⟩), rfl⟩
    exact (e_lc (i_rng1 (a_cons (e_pick (ds := [.int 1, .int 3, .int 0]) rfl (by simp) e2 r0 hm) a_nil) ⟨by omega, by omega⟩)).trans e3
  · by_cases h11 : w = 11
    · obtain ⟨r, i2, e2, r0, r1⟩ := c_take (j := 0) (t := 2) (is := i1) (f := eC (.int 3)) (m := 3) (s := [some (dr 2 i1), some (.fr (.int n)), some (.fr (.int w)), none, none, none]) (by decide) rfl rfl
      have hk : ∃ v, ([.non, .int 5, .str "01"] : List D)[r.toNat]? = some v ∧ (v = .non ∨ v = .int 5 ∨ v = .str "01") := by
        have : r = 0 ∨ r = 1 ∨ r = 2 := by omega
        rcases this with rfl | rfl | rfl
        · exact ⟨_, rfl, .inl rfl⟩
        · exact ⟨_, rfl, .inr (.inl rfl)⟩
        · exact ⟨_, rfl, .inr (.inr rfl)⟩
      obtain ⟨v, hv, he⟩ := hk
      exact ⟨.fr v, i2, fin (x := none) (y := none) ((q_no (t_eqi v2 (decide_eq_false h10))).trans (q_rt (t_eqi v2 (decide_eq_true h11)) (s_ret (e_pick (ds := [.non, .int 5, .str "01"]) rfl (by simp) e2 r0 hv)))) rfl, .inr (.inr he), rfl⟩
    · obtain ⟨a, i2, e2, ha⟩ := c_entry (j := 0) (t := 2) (is := i1) (f := eVar 1) (n := n) (s := [some (dr 2 i1), some (.fr (.int n)), some (.fr (.int w)), none, none, none]) hn hn2 rfl (e_var rfl)
      obtain ⟨b, i3, e3, hb⟩ := c_entry (j := 0) (t := 2) (is := i2) (f := eVar 1) (n := n) (s := [some (dr 2 i2), some (.fr (.int n)), some (.fr (.int w)), some (.fr a), none, none]) hn hn2 rfl (e_var rfl)
      have pre : ∀ {F : M Fl}, sSeq (sAsg (tgN 3) (eCallJ 2 (runDef 1 d__law_entry) [] (aConsV 0 (aConsD (eVar 1) aNilJ)))) (sSeq (sAsg (tgN 4) (eCallJ 2 (runDef 1 d__law_entry) [] (aConsV 0 (aConsD (eVar 1) aNilJ)))) F) [some (dr 2 i1), some (.fr (.int n)), some (.fr (.int w)), none, none, none] = F [some (dr 2 i3), some (.fr (.int n)), some (.fr (.int w)), some (.fr a), some (.fr b), none] := fun {F} =>
        (s_seq (s_asg e2)).trans (s_seq (s_asg e3))
      have v3 : eVar 3 [some (dr 2 i3), some (.fr (.int n)), some (.fr (.int w)), some (.fr a), some (.fr b), none] = .ok (.fr a) [some (dr 2 i3), some (.fr (.int n)), some (.fr (.int w)), some (.fr a), some (.fr b), none] := e_var rfl
      have v4 : eVar 4 [some (dr 2 i3), some (.fr (.int n)), some (.fr (.int w)), some (.fr a), some (.fr b), none] = .ok (.fr b) [some (dr 2 i3), some (.fr (.int n)), some (.fr (.int w)), some (.fr a), some (.fr b), none] := e_var rfl
      have tin := t_e (op := blD) (in2 (v2 (x := some (.fr a)) (y := some (.fr b)) (z := none) (i := i3)) [2, 5] (g := aCons (eC (.int 2)) (aCons (eC (.int 5)) aNil)) rfl (by decide)) rfl
      cases hc : ([2, 5] : List Int).any fun j => decide (j = w) with
      | true =>
        rw [hc] at tin
        exact ⟨.fr (.tup [a, b]), i3, fin (x := some (.fr a)) (y := some (.fr b)) ((q_no (t_eqi v2 (decide_eq_false h10))).trans ((q_no (t_eqi v2 (decide_eq_false h11))).trans (pre.trans (q_rt tin (s_ret (e_cb (a_cons v3 (a_cons v4 a_nil)) rfl)))))) rfl, .inl ⟨a, b, ha, hb, .inl rfl⟩, rfl⟩
      | false =>
        rw [hc] at tin
        exact ⟨.lst 1 [.fr a, .fr b], i3, fin (x := some (.fr a)) (y := some (.fr b)) ((q_no (t_eqi v2 (decide_eq_false h10))).trans ((q_no (t_eqi v2 (decide_eq_false h11))).trans (pre.trans ((q_no tin).trans (s_ret (e_cb (a_cons v3 (a_cons v4 a_nil)) rfl)))))) rfl, .inl ⟨a, b, ha, hb, .inr rfl⟩, rfl⟩
end Q99
end

section
set_option maxRecDepth 100000
set_option maxHeartbeats 1000000
namespace Q99
open PySem PySem.Spec PyProof.Rows L2 DF Gk99
variable {K : PySem.W.Frag} {mg : Str → Option Value}
def itm (v : D) : Prop := ent v ∨ two v
def rowsO (vs : List D) : O := .lst 1 (vs.map .fr)
theorem fz_rows (vs : List D) : fz (rowsO vs) = .lst vs := by unfold rowsO fz; rw [fzL_fr]
theorem app_rows {vs : List D} {d : D} (h : vs.length < 100000) : mAppend (rowsO vs) [d] = some (.fr .non, rowsO (vs ++ [d])) := by
  unfold mAppend rowsO
  simp only [List.length_map, List.map_append, List.map_cons, List.map_nil]
  rw [if_pos h]
theorem c_two {j t : Nat} {is : List Int} {f : M O} {n : Int} {s : S} (hn : 0 < n) (hn2 : n ≤ 40) (hs : s[j]? = some (some (dr t is))) (hf : f s = .ok (.fr (.int n)) s) :
    ∃ (o : O) (is' : List Int), eCallJ 2 (runDef 4 d__law_two) [] (aConsV j (aConsD f aNilJ)) s = .ok o (s.set j (some (dr t is'))) ∧ two (fz o) := by
  obtain ⟨o, is', h1, h2, h3⟩ := r_two is n hn hn2
  exact ⟨retag 1 o, is', c_io hs hf h1, by rw [fz_retag 1 o h3]; exact h2⟩
abbrev sevBody : M Fl := sIf (tE dTru (eVar 2)) (sExpr (eMut 5 mAppend (aCons (eCallJ 2 (runDef 4 d__law_two) [] (aConsV 0 (aConsD (eVar 1) aNilJ))) aNil))) (sExpr (eMut 5 mAppend (aCons (eCallJ 2 (runDef 1 d__law_entry) [] (aConsV 0 (aConsD (eVar 1) aNilJ))) aNil)))
theorem for_sev {n : Int} (hn : 0 < n) (hn2 : n ≤ 40) {p : Bool} {b c : Option O} : ∀ (ds : List D) (vs : List D) (is : List Int) (k : Option O), vs.length + ds.length ≤ 1000 → (∀ v ∈ vs, itm v) →
    ∃ (ws : List D) (is' : List Int) (k' : Option O), lpFor (tgN 6) sevBody ds [some (dr 2 is), some (.fr (.int n)), some (.fr (.bl p)), b, c, some (rowsO vs), k, none] = .ok .nx [some (dr 2 is'), some (.fr (.int n)), some (.fr (.bl p)), b, c, some (rowsO ws), k', none] ∧ ws.length = vs.length + ds.length ∧ ∀ v ∈ ws, itm v
  | [], vs, is, k, _, ha => ⟨vs, is, k, rfl, rfl, ha⟩
  | d :: ds, vs, is, k, hl, ha => by
    have one : ∃ (w : D) (i1 : List Int), sevBody [some (dr 2 is), some (.fr (.int n)), some (.fr (.bl p)), b, c, some (rowsO vs), some (.fr d), none] = .ok .nx [some (dr 2 i1), some (.fr (.int n)), some (.fr (.bl p)), b, c, some (rowsO (vs ++ [w])), some (.fr d), none] ∧ itm w := by
      have tp : tE dTru (eVar 2) [some (dr 2 is), some (.fr (.int n)), some (.fr (.bl p)), b, c, some (rowsO vs), some (.fr d), none] = .ok p [some (dr 2 is), some (.fr (.int n)), some (.fr (.bl p)), b, c, some (rowsO vs), some (.fr d), none] := t_e (e_var rfl) rfl
      have hz : vs.length < 100000 := by simp only [List.length_cons] at hl; omega
      cases p with
      | true =>
        obtain ⟨o, i1, e1, h1⟩ := c_two (j := 0) (t := 2) (is := is) (f := eVar 1) (n := n) (s := [some (dr 2 is), some (.fr (.int n)), some (.fr (.bl true)), b, c, some (rowsO vs), some (.fr d), none]) hn hn2 rfl (e_var rfl)
        exact ⟨fz o, i1, (s_if tp).trans (s_expr (e_mut (o := rowsO vs) rfl rfl (a_cons e1 a_nil) rfl (app_rows hz))), .inr h1⟩
      | false =>
        obtain ⟨v, i1, e1, h1⟩ := c_entry (j := 0) (t := 2) (is := is) (f := eVar 1) (n := n) (s := [some (dr 2 is), some (.fr (.int n)), some (.fr (.bl false)), b, c, some (rowsO vs), some (.fr d), none]) hn hn2 rfl (e_var rfl)
        exact ⟨v, i1, (s_if tp).trans (s_expr (e_mut (o := rowsO vs) rfl rfl (a_cons e1 a_nil) rfl (app_rows hz))), .inl h1⟩
    obtain ⟨w, i1, e1, hw⟩ := one
    obtain ⟨ws, i2, k2, e2, hl2, h2⟩ := for_sev hn hn2 (p := p) (b := b) (c := c) ds (vs ++ [w]) i1 (some (.fr d)) (by simp only [List.length_append, List.length_cons, List.length_nil] at hl ⊢; omega) (fun x hx => (List.mem_append.mp hx).elim (ha x) fun z => by rw [List.mem_singleton.mp z]; exact hw)
    exact ⟨ws, i2, k2, (l_cons rfl e1).trans e2, by rw [hl2]; simp only [List.length_append, List.length_cons, List.length_nil]; omega, h2⟩
/-- [int(k + many) % size for k in ..] -/
theorem lc_mod {n m : Int} (hn : 0 < n) (hn2 : n ≤ 40) {a p w e : Option O} : ∀ (ks : List Int) (acc : List D), acc.length + ks.length ≤ 1000 → (∀ v ∈ acc, ent v) →
    ∃ ws : List D, lpLc (tgN 6) (DF.ret true) (eBin dMod (eCB oInt (aCons (eBin dAdd (eVar 6) (eVar 4)) aNil)) (eVar 1)) [6] (ks.map .int) (acc.map .fr) [a, some (.fr (.int n)), p, w, some (.fr (.int m)), e, none, none] = .ok (rowsO ws) [a, some (.fr (.int n)), p, w, some (.fr (.int m)), e, none, none] ∧ ws.length = acc.length + ks.length ∧ ∀ v ∈ ws, ent v
  | [], acc, _, ha => ⟨acc, rfl, rfl, ha⟩
  | k :: ks, acc, hl, ha => by
    have e1 : (eBin dMod (eCB oInt (aCons (eBin dAdd (eVar 6) (eVar 4)) aNil)) (eVar 1)) [a, some (.fr (.int n)), p, w, some (.fr (.int m)), e, some (.fr (.int k)), none] = .ok (.fr (.int ((k + m) % n))) [a, some (.fr (.int n)), p, w, some (.fr (.int m)), e, some (.fr (.int k)), none] :=
      e_bin (o := .fr (.int (k + m))) (o2 := .fr (.int n)) (e_cb (a_cons (o := .fr (.int (k + m))) (e_bin (o := .fr (.int k)) (o2 := .fr (.int m)) (e_var rfl) (e_var rfl) rfl) a_nil) rfl) (e_var rfl) (by
        show (if 0 < n then some (O.fr (.int ((k + m) % n))) else none) = _
        rw [if_pos hn])
    obtain ⟨ws, e2, hl2, h2⟩ := lc_mod hn hn2 (m := m) (a := a) (p := p) (w := w) (e := e) ks (acc ++ [.int ((k + m) % n)]) (by simp only [List.length_append, List.length_cons, List.length_nil] at hl ⊢; omega) (fun x hx => (List.mem_append.mp hx).elim (ha x) fun z => by
      rw [List.mem_singleton.mp z]
      exact .inl ⟨_, rfl, by have := Int.emod_nonneg (k + m) (by omega : n ≠ 0); omega, by have := Int.emod_lt_of_pos (k + m) hn; omega⟩)
    refine ⟨ws, ?_, by rw [hl2]; simp only [List.length_append, List.length_cons, List.length_nil]; omega, h2⟩
    rw [List.map_append] at e2
    exact (c_step (o := .fr (.int ((k + m) % n))) rfl rfl e1 ⟨rfl, by rw [List.length_map]; simp only [List.length_cons] at hl; omega⟩).trans e2
def sev (v : D) : Prop := v = .non ∨ v = .int 3 ∨ v = .str "01" ∨ v = .bl true ∨ ∃ vs : List D, vs.length ≤ 40 ∧ (∀ x ∈ vs, itm x) ∧ (v = .lst vs ∨ v = .tup vs)
abbrev sevTail : M Fl := (sSeq (sIf (tE blD (eBin (dIn false) (eVar 3) (eCB oTup (aCons (eC (.int 3)) (aCons (eC (.int 7)) (aCons (eC (.int 12)) aNil)))))) (sRet (eCB oTuple (aCons (eRd 5) aNil))) sNx) (sRet (eTake 5)))
theorem sev_tail {is : List Int} {n w : Int} {p c k t : Option O} {vs : List D} (hl : vs.length ≤ 40) (ha : ∀ x ∈ vs, itm x) : ∃ (o : O) (r : Option O), sevTail [some (dr 2 is), some (.fr (.int n)), p, some (.fr (.int w)), c, some (rowsO vs), k, t] = .ok (.rt o) [some (dr 2 is), some (.fr (.int n)), p, some (.fr (.int w)), c, r, k, t] ∧ sev (fz o) ∧ isHd o = false := by
  have tin := t_e (op := blD) (in2 (f := eVar 3) (i := w) (s := [some (dr 2 is), some (.fr (.int n)), p, some (.fr (.int w)), c, some (rowsO vs), k, t]) (e_var rfl) [3, 7, 12] (g := aCons (eC (.int 3)) (aCons (eC (.int 7)) (aCons (eC (.int 12)) aNil))) rfl (by decide)) rfl
  cases hc : ([3, 7, 12] : List Int).any fun j => decide (j = w) with
  | true =>
    rw [hc] at tin
    refine ⟨.fr (.tup vs), some (.fr (.lst vs)), q_rt tin (s_ret (e_cb (a_cons (o := .fr (.lst vs)) (s1 := [some (dr 2 is), some (.fr (.int n)), p, some (.fr (.int w)), c, some (.fr (.lst vs)), k, t]) ?_ a_nil) rfl)), .inr (.inr (.inr (.inr ⟨vs, hl, ha, .inr rfl⟩))), rfl⟩
    unfold eRd
    show R.ok (O.fr (fz (rowsO vs))) [some (dr 2 is), some (.fr (.int n)), p, some (.fr (.int w)), c, some (.fr (fz (rowsO vs))), k, t] = _
    rw [fz_rows]
  | false =>
    rw [hc] at tin
    exact ⟨rowsO vs, none, (q_no tin).trans (s_ret rfl), .inr (.inr (.inr (.inr ⟨vs, hl, ha, .inl (fz_rows vs)⟩))), rfl⟩
theorem rng_ints (n : Nat) : rngD 0 n = ((List.range n).map fun (k : Nat) => (0 : Int) + (k : Int)).map .int := by unfold rngD; rw [List.map_map]; rfl
theorem r_several (is : List Int) (n : Int) (hn : 0 < n) (hn2 : n ≤ 40) (p : Bool) : ∃ (o : O) (is' : List Int), runDef 5 d__law_several [some (dr 2 is), some (.fr (.int n)), some (.fr (.bl p))] = .ok o [some (dr 2 is'), none, none] ∧ sev (fz o) ∧ isHd o = false := by
  obtain ⟨w, i1, e1, w0, w1⟩ := c_take (j := 0) (t := 2) (is := is) (f := eC (.int 16)) (m := 16) (s := [some (dr 2 is), some (.fr (.int n)), some (.fr (.bl p)), none, none, none, none, none]) (by decide) rfl rfl
  by_cases h15 : w = 15
  · obtain ⟨r, i2, e2, r0, r1⟩ := c_take (j := 0) (t := 2) (is := i1) (f := eC (.int 4)) (m := 4) (s := [some (dr 2 i1), some (.fr (.int n)), some (.fr (.bl p)), some (.fr (.int w)), none, none, none, none]) (by decide) rfl rfl
    have hk : ∃ v, ([.non, .int 3, .str "01", .bl true] : List D)[r.toNat]? = some v ∧ sev v := by
      have : r = 0 ∨ r = 1 ∨ r = 2 ∨ r = 3 := by omega
      rcases this with rfl | rfl | rfl | rfl
      · exact ⟨_, rfl, .inl rfl⟩
      · exact ⟨_, rfl, .inr (.inl rfl)⟩
      · exact ⟨_, rfl, .inr (.inr (.inl rfl))⟩
      · exact ⟨_, rfl, .inr (.inr (.inr (.inl rfl)))⟩
    obtain ⟨v, hv, he⟩ := hk
    exact ⟨.fr v, i2, run_rt (F := d__law_several) (s1 := [some (dr 2 i2), some (.fr (.int n)), some (.fr (.bl p)), some (.fr (.int w)), none, none, none, none]) ((s_seq (s_asg e1)).trans (q_rt (t_eqi (f := eVar 3) (i := w) (e_var rfl) (decide_eq_true h15)) (s_ret (e_pick (ds := [.non, .int 3, .str "01", .bl true]) rfl (by simp) e2 r0 hv)))), he, rfl⟩
  · obtain ⟨r, i2, e2, r0, r1⟩ := c_take (j := 0) (t := 2) (is := i1) (f := eC (.int 9)) (m := 9) (s := [some (dr 2 i1), some (.fr (.int n)), some (.fr (.bl p)), some (.fr (.int w)), none, none, none, none]) (by decide) rfl rfl
    have hk : ∃ m : Int, ([.int 2, .int 1, .int 3, .int 0, .int 4, .int 5, .int 6, .int 7, .int 8] : List D)[r.toNat]? = some (.int m) ∧ 0 ≤ m ∧ m ≤ 8 := by
      have : r = 0 ∨ r = 1 ∨ r = 2 ∨ r = 3 ∨ r = 4 ∨ r = 5 ∨ r = 6 ∨ r = 7 ∨ r = 8 := by omega
      rcases this with rfl | rfl | rfl | rfl | rfl | rfl | rfl | rfl | rfl <;> exact ⟨_, rfl, by omega, by omega⟩
    obtain ⟨m, hm, m0, m8⟩ := hk
    have hlen : (rngD 0 m.toNat).length = m.toNat := by unfold rngD; rw [List.length_map, List.length_range]
    obtain ⟨vs, i3, k3, e3, hl3, h3⟩ := for_sev hn hn2 (p := p) (b := some (.fr (.int w))) (c := some (.fr (.int m))) (rngD 0 m.toNat) [] i2 none (by rw [hlen]; simp only [List.length_nil]; omega) (fun _ h => (nomatch h))
    have hvs : vs.length ≤ 40 := by rw [hl3, hlen]; simp only [List.length_nil]; omega
    have pre : ∀ {F : M Fl}, sSeq (sAsg (tgN 4) (eBin dIx (eCB oLst (aCons (eC (.int 2)) (aCons (eC (.int 1)) (aCons (eC (.int 3)) (aCons (eC (.int 0)) (aCons (eC (.int 4)) (aCons (eC (.int 5)) (aCons (eC (.int 6)) (aCons (eC (.int 7)) (aCons (eC (.int 8)) aNil)))))))))) (eCallJ 2 (runDef 0 d__law_take) [] (aConsV 0 (aConsD (eC (.int 9)) aNilJ)))))
        (sSeq (sSet 5 (eCB oLst aNil)) (sSeq (sFor (iRng1D (aCons (eVar 4) aNil)) (tgN 6) sevBody) F)) [some (dr 2 i1), some (.fr (.int n)), some (.fr (.bl p)), some (.fr (.int w)), none, none, none, none] = F [some (dr 2 i3), some (.fr (.int n)), some (.fr (.bl p)), some (.fr (.int w)), some (.fr (.int m)), some (rowsO vs), k3, none] := fun {F} =>
      (s_seq (s_asg (e_pick (ds := [.int 2, .int 1, .int 3, .int 0, .int 4, .int 5, .int 6, .int 7, .int 8]) rfl (by simp) e2 r0 hm))).trans ((s_seq (s_set (o := nl []) (e_cb a_nil rfl))).trans (s_seq ((s_for (i_rng1 (j := m) (a_cons (o := .fr (.int m)) (e_var rfl) a_nil) ⟨by omega, by omega⟩)).trans e3)))
    -- the row that is a whole one
    have mid : ∃ (ws : List D) (i4 : List Int) (k4 t4 : Option O), sIf (DF.tAnd (DF.tNot (tE dTru (eVar 2))) (tE blD (eBin (dIn false) (eVar 3) (eCB oTup (aCons (eC (.int 11)) (aCons (eC (.int 12)) (aCons (eC (.int 13)) aNil))))))) (sSeq (sSet 5 (eLc (iRng1D (aCons (eVar 1) aNil)) (tgN 6) (DF.ret true) (eBin dMod (eCB oInt (aCons (eBin dAdd (eVar 6) (eVar 4)) aNil)) (eVar 1)) [6]))
        (sIf (tE blD (eBin (dEq false) (eVar 3) (eC (.int 13)))) (sSeq (sAsg (tgN 7) (eCallJ 2 (runDef 0 d__law_take) [] (aConsV 0 (aConsD (eCB oMin2 (aCons (eVar 1) (aCons (eC (.int 24)) aNil))) aNilJ)))) (sStore 5 (eCallJ 2 (runDef 1 d__law_entry) [] (aConsV 0 (aConsD (eVar 1) aNilJ))) (eVar 7))) sNx)) sNx
        [some (dr 2 i3), some (.fr (.int n)), some (.fr (.bl p)), some (.fr (.int w)), some (.fr (.int m)), some (rowsO vs), k3, none] = .ok .nx [some (dr 2 i4), some (.fr (.int n)), some (.fr (.bl p)), some (.fr (.int w)), some (.fr (.int m)), some (rowsO ws), k4, t4] ∧ ws.length ≤ 40 ∧ ∀ v ∈ ws, itm v := by
      have tn : DF.tNot (tE dTru (eVar 2)) [some (dr 2 i3), some (.fr (.int n)), some (.fr (.bl p)), some (.fr (.int w)), some (.fr (.int m)), some (rowsO vs), k3, none] = .ok (!p) [some (dr 2 i3), some (.fr (.int n)), some (.fr (.bl p)), some (.fr (.int w)), some (.fr (.int m)), some (rowsO vs), k3, none] := t_not (t_e (e_var rfl) rfl)
      have tin := t_e (op := blD) (in2 (f := eVar 3) (i := w) (s := [some (dr 2 i3), some (.fr (.int n)), some (.fr (.bl p)), some (.fr (.int w)), some (.fr (.int m)), some (rowsO vs), k3, none]) (e_var rfl) [11, 12, 13] (g := aCons (eC (.int 11)) (aCons (eC (.int 12)) (aCons (eC (.int 13)) aNil))) rfl (by decide)) rfl
      have t2 := (t_and (u := tE blD (eBin (dIn false) (eVar 3) (eCB oTup (aCons (eC (.int 11)) (aCons (eC (.int 12)) (aCons (eC (.int 13)) aNil)))))) tn)
      cases hc : (!p && ([11, 12, 13] : List Int).any fun j => decide (j = w)) with
      | false =>
        refine ⟨vs, i3, k3, none, (s_if (b := false) (t2.trans ?_)).trans rfl, hvs, h3⟩
        cases p with
        | true => rfl
        | false => rw [Bool.not_false, if_pos rfl]; rw [Bool.not_false, Bool.true_and] at hc; rw [hc] at tin; exact tin
      | true =>
        obtain ⟨hp, hw⟩ := Bool.and_eq_true_iff.mp hc
        rw [hw] at tin
        have hpl : ((List.range n.toNat).map fun (k : Nat) => (0 : Int) + (k : Int)).length = n.toNat := by rw [List.length_map, List.length_range]
        obtain ⟨ws, e4, hl4, h4⟩ := lc_mod hn hn2 (m := m) (a := some (dr 2 i3)) (p := some (.fr (.bl p))) (w := some (.fr (.int w))) (e := some (rowsO vs)) ((List.range n.toNat).map fun (k : Nat) => (0 : Int) + (k : Int)) [] (by rw [hpl]; simp only [List.length_nil]; omega) (fun _ h => (nomatch h))
        rw [← rng_ints] at e4
        have hws : ws.length = n.toNat := by rw [hl4, hpl]; simp only [List.length_nil]; omega
        have first := s_set (i := 5) ((e_lc (t := tgN 6) (tt := DF.ret true) (te := eBin dMod (eCB oInt (aCons (eBin dAdd (eVar 6) (eVar 4)) aNil)) (eVar 1)) (vs := [6]) (i_rng1 (j := n) (s := [some (dr 2 i3), some (.fr (.int n)), some (.fr (.bl p)), some (.fr (.int w)), some (.fr (.int m)), some (rowsO vs), k3, none]) (a_cons (o := .fr (.int n)) (e_var (i := 1) rfl) a_nil) ⟨by omega, by omega⟩)).trans e4)
        have go := (s_if (b := true) (F := (sSeq (sSet 5 (eLc (iRng1D (aCons (eVar 1) aNil)) (tgN 6) (DF.ret true) (eBin dMod (eCB oInt (aCons (eBin dAdd (eVar 6) (eVar 4)) aNil)) (eVar 1)) [6]))
          (sIf (tE blD (eBin (dEq false) (eVar 3) (eC (.int 13)))) (sSeq (sAsg (tgN 7) (eCallJ 2 (runDef 0 d__law_take) [] (aConsV 0 (aConsD (eCB oMin2 (aCons (eVar 1) (aCons (eC (.int 24)) aNil))) aNilJ)))) (sStore 5 (eCallJ 2 (runDef 1 d__law_entry) [] (aConsV 0 (aConsD (eVar 1) aNilJ))) (eVar 7))) sNx))) (F2 := sNx) (t2.trans (by rw [if_pos hp]; exact tin)))
        by_cases h13 : w = 13
        · obtain ⟨at_, i5, e5, a0, a1⟩ := c_take (j := 0) (t := 2) (is := i3) (f := eCB oMin2 (aCons (eVar 1) (aCons (eC (.int 24)) aNil))) (m := if 24 < n then 24 else n) (s := [some (dr 2 i3), some (.fr (.int n)), some (.fr (.bl p)), some (.fr (.int w)), some (.fr (.int m)), some (rowsO ws), none, none]) (by split <;> omega) rfl (min2 (i := n) (e_var rfl) rfl)
          obtain ⟨v, i6, e6, hv⟩ := c_entry (j := 0) (t := 2) (is := i5) (f := eVar 1) (n := n) (s := [some (dr 2 i5), some (.fr (.int n)), some (.fr (.bl p)), some (.fr (.int w)), some (.fr (.int m)), some (rowsO ws), none, some (.fr (.int at_))]) hn hn2 rfl (e_var rfl)
          have hat : at_ < n := by split at a1 <;> omega
          refine ⟨ws.set at_.toNat v, i6, none, some (.fr (.int at_)), go.trans ((s_seq first).trans ((s_if (b := true) (t_eqi (f := eVar 3) (i := w) (e_var rfl) (decide_eq_true h13))).trans ((s_seq (s_asg e5)).trans ?_))), by rw [List.length_set]; omega, fun x hx => ?_⟩
          · unfold sStore
            refine (b_ok e6).trans ?_
            unfold stIx
            show bnd (eVar 7) _ _ = _
            refine (b_ok (e_var (d := .int at_) rfl)).trans ?_
            unfold stAt
            show (match stSet (rowsO ws) (.int at_) v with
              | some o' => R.ok Fl.nx ([some (dr 2 i6), some (.fr (.int n)), some (.fr (.bl p)), some (.fr (.int w)), some (.fr (.int m)), some (rowsO ws), none, some (.fr (.int at_))].set 5 (some o'))
              | none => .no) = _
            have e7 : stSet (rowsO ws) (.int at_) v = some (rowsO (ws.set at_.toNat v)) := by
              unfold stSet rowsO
              have : ixN (ws.map O.fr).length at_ = some at_.toNat := by
                unfold ixN
                rw [if_pos a0, if_pos (by rw [List.length_map]; omega)]
              show ((ixN (ws.map O.fr).length at_).map fun k => O.lst 1 ((ws.map O.fr).set k (.fr v))) = _
              rw [this]
              simp only [Option.map_some, List.map_set]
            rw [e7]; rfl
          · rcases List.mem_or_eq_of_mem_set hx with q | q
            · exact .inl (h4 x q)
            · rw [q]; exact .inl hv
        · exact ⟨ws, i3, none, none, go.trans ((s_seq first).trans ((s_if (b := false) (t_eqi (f := eVar 3) (i := w) (e_var rfl) (decide_eq_false h13))).trans rfl)), by omega, fun x hx => .inl (h4 x hx)⟩
    obtain ⟨ws, i4, k4, t4, e4, hl4, h4⟩ := mid
    obtain ⟨o, r5, e5, h5, h6⟩ := sev_tail (is := i4) (n := n) (w := w) (p := some (.fr (.bl p))) (c := some (.fr (.int m))) (k := k4) (t := t4) hl4 h4
    exact ⟨o, i4, run_rt (F := d__law_several) (s1 := [some (dr 2 i4), some (.fr (.int n)), some (.fr (.bl p)), some (.fr (.int w)), some (.fr (.int m)), r5, k4, t4]) ((s_seq (s_asg e1)).trans ((q_no (t_eqi (f := eVar 3) (i := w) (e_var rfl) (decide_eq_false h15))).trans (pre.trans ((s_seq e4).trans e5)))), h5, h6⟩
end Q99
end

section
set_option maxRecDepth 100000
set_option maxHeartbeats 1000000
namespace Q99
open PySem PySem.Spec PyProof.Rows L2 DF Gk99
variable {K : PySem.W.Frag} {mg : Str → Option Value}
/-- the first place that is no thing, or that is met a second time -/
def fbs (n : Int) : List Int → Nat → List D → Option Nat
  | _, _, [] => none
  | seen, k, .int i :: vs => if (decide (0 ≤ i) && decide (i < n)) && !seen.contains i then fbs n (seen ++ [i]) (k + 1) vs else some k
  | _, k, _ :: _ => some k
def metO (seen : List Int) : O := .dk 1 (seen.map Sum.inl) (seen.map fun _ => .bl true)
theorem has_ints (seen : List Int) (i : Int) : hasK (seen.map (Sum.inl : Int → Key)) (Sum.inl i) = seen.contains i := by
  unfold hasK
  rw [List.any_map, List.contains_eq_any_beq]
  refine congrArg (fun f => seen.any f) (funext fun j => ?_)
  show decide ((Sum.inl j : Key) = Sum.inl i) = (i == j)
  by_cases h : j = i
  · subst h; simp
  · have h1 : (Sum.inl j : Key) ≠ Sum.inl i := fun z => h (Sum.inl.inj z)
    rw [decide_eq_false h1]
    exact (beq_eq_false_iff_ne.mpr fun z => h z.symm).symm
theorem put_new : ∀ (seen : List Int) (i : Int), seen.contains i = false → putD (seen.map (Sum.inl : Int → Key)) (seen.map fun _ => D.bl true) (Sum.inl i) (.bl true) = ((seen ++ [i]).map Sum.inl, (seen ++ [i]).map fun _ => .bl true)
  | [], i, _ => rfl
  | j :: seen, i, h => by
    have h1 : ¬ j = i := fun z => by rw [z] at h; simp at h
    have h2 : seen.contains i = false := by
      rw [List.contains_cons, Bool.or_eq_false_iff] at h
      exact h.2
    have h3 : ¬ (Sum.inl j : Key) = Sum.inl i := fun z => h1 (Sum.inl.inj z)
    simp only [List.map_cons, putD, if_neg h3, put_new seen i h2, List.cons_append]
theorem nodup_inl {seen : List Int} (h : seen.Nodup) : (seen.map (Sum.inl : Int → Key)).Nodup := List.Pairwise.map _ (fun a b hab z => hab (Sum.inl.inj z)) h
theorem set_met {seen : List Int} {i : Int} (hn : seen.Nodup) (hl : seen.length < 1000) (h : seen.contains i = false) : stSet (metO seen) (.int i) (.bl true) = some (metO (seen ++ [i])) := by
  unfold stSet metO
  show (if (seen.map (Sum.inl : Int → Key)).Nodup ∧ (seen.map (Sum.inl : Int → Key)).length < 100000 then _ else _) = _
  rw [if_pos ⟨nodup_inl hn, by rw [List.length_map]; omega⟩]
  show some (O.dk 1 (putD (seen.map (Sum.inl : Int → Key)) (seen.map fun _ => D.bl true) (Sum.inl i) (.bl true)).1 (putD (seen.map (Sum.inl : Int → Key)) (seen.map fun _ => D.bl true) (Sum.inl i) (.bl true)).2) = _
  rw [put_new seen i h]
theorem nodup_snoc {seen : List Int} {i : Int} (hn : seen.Nodup) (h : seen.contains i = false) : (seen ++ [i]).Nodup := by
  refine List.nodup_append.mpr ⟨hn, List.pairwise_singleton _ _, fun a ha b hb => ?_⟩
  rw [List.mem_singleton.mp hb]
  intro z
  subst z
  rw [List.contains_iff_mem.mpr ha] at h
  cases h
abbrev fbIn : M Bool := evT [2, 4] [] (tE blD (eBin (dIn false) (eVar 4) (eVar 2)))
abbrev fbBody (h : Hy K mg) : M Fl := (sSeq (sIf (DF.tOr (DF.tNot (tE dTru (eCallJ 2 (runDef 0 (d_is_thing h)) [] (aConsD (eVar 0) (aConsD (eVar 4) aNilJ))))) (evT [2, 4] [] (tE blD (eBin (dIn false) (eVar 4) (eVar 2))))) (sRet (eVar 3)) sNx)
  (sStore 2 (eC (.bl true)) (eVar 4)))
theorem c_thing (h : Hy K mg) {f g : M O} {s s1 s2 : S} {n : Int} {v : D} (hv : basic v = true) (hf : f s = .ok (.fr (.int n)) s1) (hg : g s1 = .ok (.fr v) s2) : eCallJ 2 (runDef 0 (d_is_thing h)) [] (aConsD f (aConsD g aNilJ)) s = .ok (.fr (.bl (thing n v))) s2 :=
  e_call (np := 2) (den := runDef 0 (d_is_thing h)) (dd := []) (os := [some (.fr (.int n)), some (.fr v)]) (j_d hf (j_d hg j_nil)) rfl rfl (r_is_thing h v hv n)
theorem outs2 (a b : D) : ∀ s : S, outs 0 [some (.fr a), some (.fr b)] s = [none, none]
  | [] => rfl
  | [none] => rfl
  | [some _] => rfl
  | none :: none :: _ => rfl
  | none :: some _ :: _ => rfl
  | some _ :: none :: _ => rfl
  | some _ :: some _ :: _ => rfl
theorem for_fb (h : Hy K mg) (n : Int) (t : D) : ∀ (vs : List D) (seen : List Int) (k : Nat) (p q : Option O), seen.Nodup → seen.length + vs.length < 1000 → (∀ v ∈ vs, basic v = true) →
    ∃ s1 : S, lpFor (tgT [tgN 3, tgN 4]) (fbBody h) (pairI k vs) [some (.fr (.int n)), some (.fr t), some (metO seen), p, q] = (match fbs n seen k vs with | none => .ok .nx s1 | some j => .ok (.rt (.fr (.int j))) s1) ∧ s1.length = 5
  | [], seen, k, p, q, _, _, _ => ⟨_, rfl, rfl⟩
  | v :: vs, seen, k, p, q, hn, hl, hb => by
    have hv := hb v List.mem_cons_self
    have tn : DF.tNot (tE dTru (eCallJ 2 (runDef 0 (d_is_thing h)) [] (aConsD (eVar 0) (aConsD (eVar 4) aNilJ)))) [some (.fr (.int n)), some (.fr t), some (metO seen), some (.fr (.int k)), some (.fr v)] = .ok (!thing n v) [some (.fr (.int n)), some (.fr t), some (metO seen), some (.fr (.int k)), some (.fr v)] :=
      t_not (t_e (c_thing h hv (e_var rfl) (e_var rfl)) rfl)
    have bad : thing n v = false → ∃ s1 : S, lpFor (tgT [tgN 3, tgN 4]) (fbBody h) (pairI k (v :: vs)) [some (.fr (.int n)), some (.fr t), some (metO seen), p, q] = .ok (.rt (.fr (.int k))) s1 ∧ s1.length = 5 := fun e => by
      rw [e] at tn
      exact ⟨_, l_rt (t := tgT [tgN 3, tgN 4]) rfl (q_rt ((t_or (u := fbIn) tn).trans rfl) (s_ret (e_var rfl))), rfl⟩
    cases v with
    | int i =>
      by_cases ht : thing n (.int i) = true
      · rw [ht] at tn
        have ts : evT [2, 4] [] (tE blD (eBin (dIn false) (eVar 4) (eVar 2))) [some (.fr (.int n)), some (.fr t), some (metO seen), some (.fr (.int k)), some (.fr (.int i))] = .ok (seen.contains i) [some (.fr (.int n)), some (.fr t), some (metO seen), some (.fr (.int k)), some (.fr (.int i))] := by
          refine t_view (s1 := mask [2, 4] [] [some (.fr (.int n)), some (.fr t), some (metO seen), some (.fr (.int k)), some (.fr (.int i))]) (t_e (o := .fr (.bl (seen.contains i))) (e_bin (o := .fr (.int i)) (o2 := .fr (.dk (seen.map Sum.inl) (seen.map fun _ => .bl true))) (e_var rfl) (e_var rfl) ?_) rfl) rfl
          show some (O.fr (.bl (hasK (seen.map (Sum.inl : Int → Key)) (Sum.inl i) != false))) = _
          rw [has_ints]; simp
        cases hc : seen.contains i with
        | true =>
          rw [hc] at ts
          have e : fbs n seen k (.int i :: vs) = some k := by
            unfold fbs; rw [hc]; simp
          rw [e]
          exact ⟨_, l_rt (t := tgT [tgN 3, tgN 4]) rfl (q_rt ((t_or (u := fbIn) tn).trans ts) (s_ret (e_var rfl))), rfl⟩
        | false =>
          rw [hc] at ts
          have e : fbs n seen k (.int i :: vs) = fbs n (seen ++ [i]) (k + 1) vs := by
            conv => lhs; unfold fbs
            have ht' : (decide (0 ≤ i) && decide (i < n)) = true := ht
            rw [hc, ht']; rfl
          rw [e]
          obtain ⟨s1, e1, e2⟩ := for_fb h n t vs (seen ++ [i]) (k + 1) (some (.fr (.int k))) (some (.fr (.int i))) (nodup_snoc hn hc) (by simp only [List.length_append, List.length_cons, List.length_nil] at hl ⊢; omega) (fun x hx => hb x (List.mem_cons_of_mem _ hx))
          refine ⟨s1, ?_, e2⟩
          refine (l_cons (t := tgT [tgN 3, tgN 4]) (F := fbBody h) (d := .tup [.int k, .int i]) (ds := pairI (k + 1) vs) (s := [some (.fr (.int n)), some (.fr t), some (metO seen), p, q]) (s2 := [some (.fr (.int n)), some (.fr t), some (metO (seen ++ [i])), some (.fr (.int k)), some (.fr (.int i))]) rfl ((q_no ((t_or (u := fbIn) tn).trans ts)).trans ?_)).trans e1
          exact s_store (f := eC (.bl true)) (fi := eVar 4) (o := .fr (.bl true)) (oi := .fr (.int i)) (oj := metO seen) rfl rfl (e_var rfl) rfl (set_met hn (by simp only [List.length_cons] at hl; omega) hc)
      · have ht' := Bool.eq_false_iff.mpr ht
        have e : fbs n seen k (.int i :: vs) = some k := by
          unfold fbs
          have ht2 : (decide (0 ≤ i) && decide (i < n)) = false := ht'
          rw [ht2]; simp
        rw [e]
        exact bad ht'
    | _ => first | exact bad rfl | cases hv
theorem ofSeq_of {t : D} {vs : List D} (ht : t = .lst vs ∨ t = .tup vs) : ofSeq t = some vs := by rcases ht with rfl | rfl <;> rfl
def fbD (r : Option Nat) : D := match r with
  | none => .non
  | some k => .int k
theorem r_first_bad (h : Hy K mg) (n : Int) {t : D} {vs : List D} (ht : t = .lst vs ∨ t = .tup vs) (hl : vs.length < 1000) (hb : ∀ v ∈ vs, basic v = true) : runDef 3 (d_first_bad h) [some (.fr (.int n)), some (.fr t)] = .ok (.fr (fbD (fbs n [] 0 vs))) [none, none] := by
  obtain ⟨s1, e1, l1⟩ := for_fb h n t vs [] 0 none none List.nodup_nil (by simp only [List.length_nil]; omega) hb
  have pre : ∀ {F : M Fl}, sSeq (sSet 2 eDk) (sSeq (sFor (iEnumD (aCons (eVar 1) aNil)) (tgT [tgN 3, tgN 4]) (fbBody h)) F) [some (.fr (.int n)), some (.fr t), none, none, none] = sSeq (sFor (iEnumD (aCons (eVar 1) aNil)) (tgT [tgN 3, tgN 4]) (fbBody h)) F [some (.fr (.int n)), some (.fr t), some (metO []), none, none] := fun {F} => s_seq (s_set (f := eDk) rfl)
  have lp : sFor (iEnumD (aCons (eVar 1) aNil)) (tgT [tgN 3, tgN 4]) (fbBody h) [some (.fr (.int n)), some (.fr t), some (metO []), none, none] = _ := (s_for (i_enum (a_cons (o := .fr t) (e_var rfl) a_nil) (ofSeq_of ht))).trans e1
  cases hf : fbs n [] 0 vs with
  | none =>
    rw [hf] at lp
    refine (run_rt (n := 3) (os := [some (.fr (.int n)), some (.fr t)]) (F := d_first_bad h) (o := .fr .non) (s1 := s1) (pre.trans ((s_seq lp).trans (s_ret (f := eC .non) rfl)))).trans ?_
    rw [outs2]; rfl
  | some k =>
    rw [hf] at lp
    refine (run_rt (n := 3) (os := [some (.fr (.int n)), some (.fr t)]) (F := d_first_bad h) (o := .fr (.int k)) (s1 := s1) (pre.trans (s_seq_rt lp))).trans ?_
    rw [outs2]; rfl
end Q99
end

section
set_option maxRecDepth 100000
set_option maxHeartbeats 1000000
namespace Q99
open PySem PySem.Spec PyProof.Rows L2 DF Gk99
variable {K : PySem.W.Frag} {mg : Str → Option Value}
def idx : Nat → List D → List D
  | _, [] => []
  | k, _ :: vs => .int (k : Nat) :: idx (k + 1) vs
theorem rng_idx (vs : List D) : rngD 0 vs.length = idx 0 vs := by
  have gen : ∀ (vs : List D) (k : Nat), (List.range' k vs.length).map (fun (j : Nat) => D.int (0 + (j : Int))) = idx k vs := by
    intro vs
    induction vs with
    | nil => intro k; rfl
    | cons v vs ih =>
      intro k
      rw [List.length_cons, List.range'_succ, List.map_cons, ih]
      simp only [idx, Int.zero_add]
  unfold rngD
  rw [List.range_eq_range']
  exact gen vs 0
theorem ix_seq {t : D} {all : List D} (ht : t = .lst all ∨ t = .tup all) {k : Nat} {v : D} (h : all[k]? = some v) : dIx t (.int k) = some (.fr v) := by
  have e : (atI all (k : Int)).map O.fr = some (.fr v) := by rw [atI_ok (by omega) (by simpa using h)]; rfl
  rcases ht with rfl | rfl <;> exact e
abbrev lfIn : M Bool := evT [0, 2, 3] [] (tE blD (eBin (dIn false) (eBin dIx (eVar 0) (eVar 3)) (eVar 2)))
abbrev lfBody (h : Hy K mg) : M Fl := (sSeq (sIf (DF.tOr (DF.tNot (tE dTru (eCallJ 2 (runDef 0 (d__law_is_thing h)) [] (aConsD (eBin dIx (eVar 0) (eVar 3)) (aConsD (eVar 1) aNilJ))))) lfIn) (sRet (eVar 3)) sNx)
  (sExpr (eMut 2 mAppend (aCons (eBin dIx (eVar 0) (eVar 3)) aNil))))
theorem c_lthing (h : Hy K mg) {f g : M O} {s s1 s2 : S} {n : Int} {v : D} (hv : basic v = true) (hf : f s = .ok (.fr v) s1) (hg : g s1 = .ok (.fr (.int n)) s2) : eCallJ 2 (runDef 0 (d__law_is_thing h)) [] (aConsD f (aConsD g aNilJ)) s = .ok (.fr (.bl (thing n v))) s2 :=
  e_call (np := 2) (den := runDef 0 (d__law_is_thing h)) (dd := []) (os := [some (.fr v), some (.fr (.int n))]) (j_d hf (j_d hg j_nil)) rfl rfl (r_law_is_thing h v hv n)
theorem okEL_ints (is : List Int) : okEL 16 (is.map D.int) = true := by
  induction is with
  | nil => rfl
  | cons d ds ih => show (true && okEL 16 (ds.map D.int)) = true; rw [ih]; rfl
theorem in_ints (is : List Int) (i : Int) : dIn false (.int i) (.lst (is.map .int)) = some (.fr (.bl (is.contains i))) := by
  have any : ((is.map D.int).any fun z => deq z (.int i)) = is.contains i := by
    rw [List.any_map, List.contains_eq_any_beq]
    refine congrArg (fun f => is.any f) (funext fun j => ?_)
    show deq (.int j) (.int i) = (i == j)
    rw [deq_int]
    by_cases h : j = i
    · subst h; simp
    · rw [decide_eq_false h]
      exact (beq_eq_false_iff_ne.mpr fun z => h z.symm).symm
  unfold dIn
  show (if (okE 16 (.int i) && okEL 16 (is.map D.int)) = true then some (O.fr (.bl (((is.map D.int).any fun z => deq z (.int i)) != false))) else none) = _
  rw [okEL_ints, any]
  simp [okE]
theorem for_lf (h : Hy K mg) (n : Int) {t : D} {all : List D} (ht : t = .lst all ∨ t = .tup all) : ∀ (vs pre : List D) (seen : List Int) (p : Option O), all = pre ++ vs → seen.length + vs.length < 1000 → (∀ v ∈ vs, basic v = true) →
    ∃ s1 : S, lpFor (tgN 3) (lfBody h) (idx pre.length vs) [some (.fr t), some (.fr (.int n)), some (rowsO (seen.map .int)), p] = (match fbs n seen pre.length vs with | none => .ok .nx s1 | some j => .ok (.rt (.fr (.int j))) s1)
  | [], pre, seen, p, _, _, _ => ⟨_, rfl⟩
  | v :: vs, pre, seen, p, ha, hl, hb => by
    have hv := hb v List.mem_cons_self
    have hx : all[pre.length]? = some v := by rw [ha]; simp
    have ix : ∀ {x : Option O}, (eBin dIx (eVar 0) (eVar 3)) [some (.fr t), some (.fr (.int n)), x, some (.fr (.int (pre.length : Nat)))] = .ok (.fr v) [some (.fr t), some (.fr (.int n)), x, some (.fr (.int (pre.length : Nat)))] := fun {x} => e_bin (o := .fr t) (o2 := .fr (.int (pre.length : Nat))) (e_var rfl) (e_var rfl) (ix_seq ht hx)
    have tn : DF.tNot (tE dTru (eCallJ 2 (runDef 0 (d__law_is_thing h)) [] (aConsD (eBin dIx (eVar 0) (eVar 3)) (aConsD (eVar 1) aNilJ)))) [some (.fr t), some (.fr (.int n)), some (rowsO (seen.map .int)), some (.fr (.int (pre.length : Nat)))] = .ok (!thing n v) [some (.fr t), some (.fr (.int n)), some (rowsO (seen.map .int)), some (.fr (.int (pre.length : Nat)))] :=
      t_not (t_e (c_lthing h hv ix (e_var rfl)) rfl)
    have bad : thing n v = false → ∃ s1 : S, lpFor (tgN 3) (lfBody h) (idx pre.length (v :: vs)) [some (.fr t), some (.fr (.int n)), some (rowsO (seen.map .int)), p] = .ok (.rt (.fr (.int (pre.length : Nat)))) s1 := fun e => by
      rw [e] at tn
      exact ⟨_, l_rt (t := tgN 3) (F := lfBody h) (d := .int (pre.length : Nat)) rfl (q_rt ((t_or (u := lfIn) tn).trans rfl) (s_ret (e_var rfl)))⟩
    cases v with
    | int i =>
      by_cases ht2 : thing n (.int i) = true
      · rw [ht2] at tn
        have ts : lfIn [some (.fr t), some (.fr (.int n)), some (rowsO (seen.map .int)), some (.fr (.int (pre.length : Nat)))] = .ok (seen.contains i) [some (.fr t), some (.fr (.int n)), some (rowsO (seen.map .int)), some (.fr (.int (pre.length : Nat)))] := by
          refine t_view (s1 := [some (.fr t), none, some (.fr (fz (rowsO (seen.map .int)))), some (.fr (.int (pre.length : Nat)))]) (t_e (o := .fr (.bl (seen.contains i))) (e_bin (o := .fr (.int i)) (o2 := .fr (fz (rowsO (seen.map .int)))) (s1 := [some (.fr t), none, some (.fr (fz (rowsO (seen.map .int)))), some (.fr (.int (pre.length : Nat)))]) (e_bin (o := .fr t) (o2 := .fr (.int (pre.length : Nat))) (e_var rfl) (e_var rfl) (ix_seq ht hx)) (e_var rfl) ?_) rfl) rfl
          show dIn false (.int i) (fz (rowsO (seen.map .int))) = _
          rw [fz_rows, in_ints]
        cases hc : seen.contains i with
        | true =>
          rw [hc] at ts
          have e : fbs n seen pre.length (.int i :: vs) = some pre.length := by
            unfold fbs; rw [hc]; simp
          rw [e]
          exact ⟨_, l_rt (t := tgN 3) (F := lfBody h) (d := .int (pre.length : Nat)) rfl (q_rt ((t_or (u := lfIn) tn).trans ts) (s_ret (e_var rfl)))⟩
        | false =>
          rw [hc] at ts
          have e : fbs n seen pre.length (.int i :: vs) = fbs n (seen ++ [i]) (pre.length + 1) vs := by
            conv => lhs; unfold fbs
            have ht' : (decide (0 ≤ i) && decide (i < n)) = true := ht2
            rw [hc, ht']; rfl
          rw [e]
          obtain ⟨s1, e1⟩ := for_lf h n ht vs (pre ++ [.int i]) (seen ++ [i]) (some (.fr (.int (pre.length : Nat)))) (by rw [ha]; simp) (by simp only [List.length_append, List.length_cons, List.length_nil] at hl ⊢; omega) (fun x hx => hb x (List.mem_cons_of_mem _ hx))
          rw [List.length_append, List.map_append] at e1
          refine ⟨s1, (l_cons (t := tgN 3) (F := lfBody h) (d := .int (pre.length : Nat)) (ds := idx (pre.length + 1) vs) (s := [some (.fr t), some (.fr (.int n)), some (rowsO (seen.map .int)), p]) (s2 := [some (.fr t), some (.fr (.int n)), some (rowsO (seen.map .int ++ [.int i])), some (.fr (.int (pre.length : Nat)))]) rfl ((q_no ((t_or (u := lfIn) tn).trans ts)).trans ?_)).trans e1⟩
          exact s_expr (e_mut (o := rowsO (seen.map .int)) rfl rfl (a_cons ix a_nil) rfl (app_rows (by rw [List.length_map]; simp only [List.length_cons] at hl; omega)))
      · have ht' := Bool.eq_false_iff.mpr ht2
        have e : fbs n seen pre.length (.int i :: vs) = some pre.length := by
          unfold fbs
          have ht2 : (decide (0 ≤ i) && decide (i < n)) = false := ht'
          rw [ht2]; simp
        rw [e]
        exact bad ht'
    | _ => first | exact bad rfl | cases hv
def fbI (r : Option Nat) : Int := match r with
  | none => -1
  | some k => k
theorem len_seq {t : D} {vs : List D} (ht : t = .lst vs ∨ t = .tup vs) : oLen [t] = some (.fr (.int vs.length)) := by rcases ht with rfl | rfl <;> rfl
theorem r_law_first_bad (h : Hy K mg) (n : Int) {t : D} {vs : List D} (ht : t = .lst vs ∨ t = .tup vs) (hl : vs.length < 1000) (hb : ∀ v ∈ vs, basic v = true) : runDef 2 (d__law_first_bad h) [some (.fr t), some (.fr (.int n))] = .ok (.fr (.int (fbI (fbs n [] 0 vs)))) [none, none] := by
  obtain ⟨s1, e1⟩ := for_lf h n ht vs [] [] none rfl (by simp only [List.length_nil]; omega) hb
  have pre : ∀ {F : M Fl}, sSeq (sSet 2 (eCB oLst aNil)) F [some (.fr t), some (.fr (.int n)), none, none] = F [some (.fr t), some (.fr (.int n)), some (rowsO []), none] := fun {F} => s_seq (s_set (o := nl []) (e_cb a_nil rfl))
  have lp : sFor (iRng1D (aCons (eCB oLen (aCons (eVar 0) aNil)) aNil)) (tgN 3) (lfBody h) [some (.fr t), some (.fr (.int n)), some (rowsO []), none] = (match fbs n [] 0 vs with | none => .ok .nx s1 | some j => .ok (.rt (.fr (.int j))) s1) := (s_for (i_rng1 (j := vs.length) (a_cons (o := .fr (.int vs.length)) (e_cb (a_cons (o := .fr t) (e_var rfl) a_nil) (len_seq ht)) a_nil) ⟨by omega, by omega⟩)).trans (by rw [show ((vs.length : Int)).toNat = vs.length by omega, rng_idx]; exact e1)
  cases hf : fbs n [] 0 vs with
  | none =>
    rw [hf] at lp
    refine (run_rt (n := 2) (os := [some (.fr t), some (.fr (.int n))]) (F := d__law_first_bad h) (o := .fr (.int (-1))) (s1 := s1) (pre.trans ((s_seq lp).trans (s_ret (e_un (f := eC (.int 1)) (o := .fr (.int 1)) rfl rfl))))).trans ?_
    rw [outs2]; rfl
  | some k =>
    rw [hf] at lp
    refine (run_rt (n := 2) (os := [some (.fr t), some (.fr (.int n))]) (F := d__law_first_bad h) (o := .fr (.int k)) (s1 := s1) (pre.trans (s_seq_rt lp))).trans ?_
    rw [outs2]; rfl
end Q99
end

section
set_option maxRecDepth 100000
set_option maxHeartbeats 1000000
namespace Q99
open PySem PySem.Spec PyProof.Rows L2 DF Gk99
variable {K : PySem.W.Frag} {mg : Str → Option Value}
/-- no sequence: what the draws may give else -/
def plainV (v : D) : Prop := v = .non ∨ v = .int 3 ∨ v = .int 5 ∨ v = .str "01" ∨ v = .bl true
abbrev exn1 (c : Nat) (i : Int) : Exn := ⟨c, [1], [.int i]⟩
theorem fbs_ints {n : Int} : ∀ {vs : List D} {seen : List Int} {k : Nat}, fbs n seen k vs = none → ∃ is : List Int, vs = is.map .int
  | [], _, _, _ => ⟨[], rfl⟩
  | v :: vs, seen, k, h => by
    cases v with
    | int i =>
      unfold fbs at h
      split at h
      · obtain ⟨is, e⟩ := fbs_ints h
        exact ⟨i :: is, by rw [e]; rfl⟩
      · cases h
    | _ => cases h
theorem intsD_map : ∀ is : List Int, intsD (is.map D.int) = some is
  | [] => rfl
  | i :: is => by simp only [List.map_cons, intsD, intsD_map is]; rfl
theorem sorted_ints {t : D} {is : List Int} (ht : t = .lst (is.map .int) ∨ t = .tup (is.map .int)) (hl : is.length < 1000) : oSorted [t] = some (nl ((srtI is).map .int)) := by
  unfold oSorted
  simp only
  rw [ofSeq_of ht, Option.bind_some, if_pos (by rw [List.length_map]; omega), intsD_map]
theorem isSeq (h : Hy K mg) {t : D} {vs : List D} (ht : t = .lst vs ∨ t = .tup vs) {s : S} {i : Nat} (hi : s[i]? = some (some (.fr t))) : eCB (oIsi (XTn h)) (aCons (eVar i) (aCons (eCB oTup (aCons (eC (.ty 3)) (aCons (eC (.ty 4)) aNil))) aNil)) s = .ok (.fr (.bl true)) s := by
  refine e_cb (ds := [t, .tup [.ty 3, .ty 4]]) (a_cons (o := .fr t) (e_var hi) (a_cons (o := .fr (.tup [.ty 3, .ty 4])) rfl a_nil)) ?_
  rcases ht with rfl | rfl <;> rfl
theorem tru_seq {t : D} {vs : List D} (ht : t = .lst vs ∨ t = .tup vs) : dTru t = some (!vs.isEmpty) := by rcases ht with rfl | rfl <;> rfl
theorem c_fb (h : Hy K mg) (n : Int) {t : D} {vs : List D} (ht : t = .lst vs ∨ t = .tup vs) (hl : vs.length < 1000) (hb : ∀ v ∈ vs, basic v = true) {s : S} (h0 : s[0]? = some (some (.fr (.int n)))) (h1 : s[1]? = some (some (.fr t))) : eCallJ 2 (runDef 3 (d_first_bad h)) [] (aConsD (eVar 0) (aConsD (eVar 1) aNilJ)) s = .ok (.fr (fbD (fbs n [] 0 vs))) s :=
  e_call (np := 2) (den := runDef 3 (d_first_bad h)) (dd := []) (os := [some (.fr (.int n)), some (.fr t)]) (j_d (e_var h0) (j_d (e_var h1) j_nil)) rfl rfl (r_first_bad h n ht hl hb)
theorem is_fb (r : Option Nat) : dIs true (fbD r) .non = some (.fr (.bl r.isSome)) := by cases r <;> rfl
/-- what lot_of says -/
def lotA (n : Int) (e : Bool) (vs : List D) : R O := if vs.isEmpty && !e then .er (exn1 4 (-1)) [none, none, none] else match fbs n [] 0 vs with
  | some k => .er (exn1 4 k) [none, none, none]
  | none => match intsD vs with
    | some is => .ok (.fr (.tup ((srtI is).map .int))) [none, none, none]
    | none => .no
theorem outs3 (a b c : D) : ∀ s : S, outs 0 [some (.fr a), some (.fr b), some (.fr c)] s = [none, none, none]
  | [] => rfl
  | [none] => rfl
  | [some _] => rfl
  | [none, none] => rfl
  | [none, some _] => rfl
  | [some _, none] => rfl
  | [some _, some _] => rfl
  | none :: none :: none :: _ => rfl
  | none :: none :: some _ :: _ => rfl
  | none :: some _ :: none :: _ => rfl
  | none :: some _ :: some _ :: _ => rfl
  | some _ :: none :: none :: _ => rfl
  | some _ :: none :: some _ :: _ => rfl
  | some _ :: some _ :: none :: _ => rfl
  | some _ :: some _ :: some _ :: _ => rfl
theorem r_lot_plain (h : Hy K mg) (n : Int) (e : Bool) {v : D} (hv : plainV v) : runDef 1 (d_lot_of h) [some (.fr (.int n)), some (.fr v), some (.fr (.bl e))] = .er (exn1 4 (-1)) [none, none, none] := by
  rcases hv with rfl | rfl | rfl | rfl | rfl <;> rfl
theorem r_lot (h : Hy K mg) (n : Int) (e : Bool) {t : D} {vs : List D} (ht : t = .lst vs ∨ t = .tup vs) (hl : vs.length < 1000) (hb : ∀ v ∈ vs, basic v = true) : runDef 1 (d_lot_of h) [some (.fr (.int n)), some (.fr t), some (.fr (.bl e))] = lotA n e vs := by
  have t1 : (DF.tOr (DF.tNot (tE dTru (eCB (oIsi (XTn h)) (aCons (eVar 1) (aCons (eCB oTup (aCons (eC (.ty 3)) (aCons (eC (.ty 4)) aNil))) aNil))))) (DF.tAnd (DF.tNot (tE dTru (eVar 1))) (DF.tNot (tE dTru (eVar 2))))) [some (.fr (.int n)), some (.fr t), some (.fr (.bl e)), none] = .ok (vs.isEmpty && !e) [some (.fr (.int n)), some (.fr t), some (.fr (.bl e)), none] := by
    refine (t_or (u := DF.tAnd (DF.tNot (tE dTru (eVar 1))) (DF.tNot (tE dTru (eVar 2)))) (t_not (t_e (isSeq h ht rfl) rfl))).trans ?_
    refine (t_and (u := DF.tNot (tE dTru (eVar 2))) (t_not (t_e (o := .fr t) (e_var rfl) (tru_seq ht)))).trans ?_
    cases vs.isEmpty with
    | true => exact (t_not (t_e (o := .fr (.bl e)) (e_var rfl) rfl)).trans (by simp)
    | false => rfl
  unfold lotA
  cases hc : (vs.isEmpty && !e) with
  | true =>
    rw [hc] at t1
    rw [if_pos rfl]
    refine (run_er (F := d_lot_of h) (n := 1) (x := exn1 4 (-1)) (os := [some (.fr (.int n)), some (.fr t), some (.fr (.bl e))]) (s1 := [some (.fr (.int n)), some (.fr t), some (.fr (.bl e)), none]) (s_seq_er ((s_if t1).trans rfl))).trans ?_
    rw [outs3]
  | false =>
    rw [hc] at t1
    rw [if_neg (by simp)]
    have st := s_asg (i := 3) (c_fb h n ht hl hb (s := [some (.fr (.int n)), some (.fr t), some (.fr (.bl e)), none]) rfl rfl)
    have t2 : tE blD (eBin (dIs true) (eVar 3) (eC .non)) [some (.fr (.int n)), some (.fr t), some (.fr (.bl e)), some (.fr (fbD (fbs n [] 0 vs)))] = .ok (fbs n [] 0 vs).isSome [some (.fr (.int n)), some (.fr t), some (.fr (.bl e)), some (.fr (fbD (fbs n [] 0 vs)))] :=
      t_e (e_bin (o := .fr (fbD (fbs n [] 0 vs))) (o2 := .fr .non) (e_var rfl) rfl (is_fb _)) rfl
    cases hf : fbs n [] 0 vs with
    | some k =>
      rw [hf] at st t2
      refine (run_er (F := d_lot_of h) (n := 1) (x := exn1 4 k) (os := [some (.fr (.int n)), some (.fr t), some (.fr (.bl e))]) (s1 := [some (.fr (.int n)), some (.fr t), some (.fr (.bl e)), some (.fr (.int k))]) ((q_no t1).trans ((s_seq st).trans (s_seq_er ((s_if t2).trans rfl))))).trans ?_
      rw [outs3]
    | none =>
      rw [hf] at st t2
      obtain ⟨is, ei⟩ := fbs_ints hf
      subst ei
      rw [intsD_map]
      rw [List.length_map] at hl
      refine (run_rt (F := d_lot_of h) (n := 1) (o := .fr (.tup ((srtI is).map .int))) (os := [some (.fr (.int n)), some (.fr t), some (.fr (.bl e))]) (s1 := [some (.fr (.int n)), some (.fr t), some (.fr (.bl e)), some (.fr .non)]) ((q_no t1).trans ((s_seq st).trans ((q_no t2).trans (s_ret (e_cb (ds := [.lst ((srtI is).map .int)]) (a_cons (o := nl ((srtI is).map .int)) (e_cb (ds := [t]) (a_cons (o := .fr t) (e_var rfl) a_nil) (sorted_ints ht hl)) a_nil |>.trans (by rw [fz_nl]; rfl)) rfl)))))).trans ?_
      rw [outs3]
/-- what row_of says -/
def rowA (n : Int) (vs : List D) : R O := if (vs.length : Int) = n then match fbs n [] 0 vs with
  | some k => .er (exn1 5 k) [none, none]
  | none => .ok (.fr (.tup vs)) [none, none]
  else .er (exn1 5 (-1)) [none, none]
theorem len_at {t : D} {vs : List D} (ht : t = .lst vs ∨ t = .tup vs) {s : S} {i : Nat} (hi : s[i]? = some (some (.fr t))) : eCB oLen (aCons (eVar i) aNil) s = .ok (.fr (.int vs.length)) s :=
  e_cb (a_cons (o := .fr t) (e_var hi) a_nil) (len_seq ht)
theorem dNe_int (i j : Int) : dEq true (.int i) (.int j) = some (.fr (.bl (!decide (i = j)))) := by
  unfold dEq
  rw [deq_int]
  show (if true = true then _ else _) = _
  rw [if_pos rfl]; simp
theorem r_row_plain (h : Hy K mg) (n : Int) {v : D} (hv : plainV v) : runDef 1 (d_row_of h) [some (.fr (.int n)), some (.fr v)] = .er (exn1 5 (-1)) [none, none] := by
  rcases hv with rfl | rfl | rfl | rfl | rfl <;> rfl
theorem tuple_seq {t : D} {vs : List D} (ht : t = .lst vs ∨ t = .tup vs) : oTuple [t] = some (.fr (.tup vs)) := by rcases ht with rfl | rfl <;> rfl
theorem r_row (h : Hy K mg) (n : Int) {t : D} {vs : List D} (ht : t = .lst vs ∨ t = .tup vs) (hl : vs.length < 1000) (hb : ∀ v ∈ vs, basic v = true) : runDef 1 (d_row_of h) [some (.fr (.int n)), some (.fr t)] = rowA n vs := by
  have t1 : (DF.tOr (DF.tNot (tE dTru (eCB (oIsi (XTn h)) (aCons (eVar 1) (aCons (eCB oTup (aCons (eC (.ty 3)) (aCons (eC (.ty 4)) aNil))) aNil))))) (tE blD (eBin (dEq true) (eCB oLen (aCons (eVar 1) aNil)) (eVar 0)))) [some (.fr (.int n)), some (.fr t), none] = .ok (!decide ((vs.length : Int) = n)) [some (.fr (.int n)), some (.fr t), none] := by
    refine (t_or (u := (tE blD (eBin (dEq true) (eCB oLen (aCons (eVar 1) aNil)) (eVar 0)))) (t_not (t_e (isSeq h ht rfl) rfl))).trans ?_
    exact t_e (e_bin (len_at ht rfl) (o2 := .fr (.int n)) (e_var rfl) (dNe_int _ _)) rfl
  unfold rowA
  by_cases hc : (vs.length : Int) = n
  · rw [decide_eq_true hc] at t1
    rw [if_pos hc]
    have st := s_asg (i := 2) (c_fb h n ht hl hb (s := [some (.fr (.int n)), some (.fr t), none]) rfl rfl)
    have t2 : tE blD (eBin (dIs true) (eVar 2) (eC .non)) [some (.fr (.int n)), some (.fr t), some (.fr (fbD (fbs n [] 0 vs)))] = .ok (fbs n [] 0 vs).isSome [some (.fr (.int n)), some (.fr t), some (.fr (fbD (fbs n [] 0 vs)))] :=
      t_e (e_bin (o := .fr (fbD (fbs n [] 0 vs))) (o2 := .fr .non) (e_var rfl) rfl (is_fb _)) rfl
    cases hf : fbs n [] 0 vs with
    | some k =>
      rw [hf] at st t2
      refine (run_er (F := d_row_of h) (n := 1) (x := exn1 5 k) (os := [some (.fr (.int n)), some (.fr t)]) (s1 := [some (.fr (.int n)), some (.fr t), some (.fr (.int k))]) ((q_no t1).trans ((s_seq st).trans (s_seq_er ((s_if t2).trans rfl))))).trans ?_
      rw [outs2]
    | none =>
      rw [hf] at st t2
      refine (run_rt (F := d_row_of h) (n := 1) (o := .fr (.tup vs)) (os := [some (.fr (.int n)), some (.fr t)]) (s1 := [some (.fr (.int n)), some (.fr t), some (.fr .non)]) ((q_no t1).trans ((s_seq st).trans ((q_no t2).trans (s_ret (e_cb (ds := [t]) (a_cons (o := .fr t) (e_var rfl) a_nil) (tuple_seq ht))))))).trans ?_
      rw [outs2]
  · rw [decide_eq_false hc] at t1
    rw [if_neg hc]
    refine (run_er (F := d_row_of h) (n := 1) (x := exn1 5 (-1)) (os := [some (.fr (.int n)), some (.fr t)]) (s1 := [some (.fr (.int n)), some (.fr t), none]) (s_seq_er ((s_if t1).trans rfl))).trans ?_
    rw [outs2]
/-! ### answers -/
inductive Ans where
  | told (d : D)
  | bad (c : Nat) (i : Int)
def tagN (c : Nat) : Str := if c = 4 then "lot" else if c = 5 then "row" else "pair"
def dueO : Ans → O
  | .told d => nl [.str "told", d]
  | .bad c i => nl [.str (tagN c), .int i]
def gotO : Ans → O
  | .told d => nl [.str "told", d]
  | .bad c i => nl [.str (tagN c), .int i, .bl true]
def ansR (s : S) : Ans → R O
  | .told d => .ok (.fr d) s
  | .bad c i => .er (exn1 c i) s
def lotN (n : Int) (e : Bool) (vs : List D) : Ans := if vs.isEmpty && !e then .bad 4 (-1) else match fbs n [] 0 vs with
  | some k => .bad 4 k
  | none => .told (.tup ((srtI ((intsD vs).getD [])).map .int))
def rowN (n : Int) (vs : List D) : Ans := if (vs.length : Int) = n then match fbs n [] 0 vs with
  | some k => .bad 5 k
  | none => .told (.tup vs)
  else .bad 5 (-1)
theorem lotA_eq (n : Int) (e : Bool) (vs : List D) : lotA n e vs = ansR [none, none, none] (lotN n e vs) := by
  unfold lotA lotN
  split
  · rfl
  · cases hf : fbs n [] 0 vs with
    | some k => rfl
    | none =>
      obtain ⟨is, ei⟩ := fbs_ints hf
      subst ei
      rw [intsD_map]; rfl
theorem rowA_eq (n : Int) (vs : List D) : rowA n vs = ansR [none, none] (rowN n vs) := by
  unfold rowA rowN
  split
  · cases hf : fbs n [] 0 vs <;> rfl
  · rfl
end Q99
end

section
set_option maxRecDepth 100000
set_option maxHeartbeats 1000000
namespace Q99
open PySem PySem.Spec PyProof.Rows L2 DF Gk99
variable {K : PySem.W.Frag} {mg : Str → Option Value}
abbrev dueTail (h : Hy K mg) : M Fl := (sSeq (sAsg (tgN 3) (eUn dNeg (eC (.int 1))))
  (sSeq (sIf (DF.tNot (tE dTru (eVar 4))) (sAsg (tgN 3) (eCallJ 2 (runDef 2 (d__law_first_bad h)) [] (aConsD (eVar 0) (aConsD (eVar 1) aNilJ)))) sNx)
  (sSeq (sIf (DF.tOr (tE dTru (eVar 4)) (tE blD (eBin (dI2 fun i j => decide (j ≤ i)) (eVar 3) (eC (.int 0))))) (sRet (eCB oLst (aCons (eBin dIx (eCB oLst (aCons (eC (.str "lot")) (aCons (eC (.str "lot")) (aCons (eC (.str "row")) aNil)))) (eVar 2)) (aCons (eVar 3) aNil)))) sNx)
  (sSeq (sIf (tE blD (eBin (dEq false) (eVar 2) (eC (.int 2)))) (sRet (eCB oLst (aCons (eC (.str "told")) (aCons (eCB oTuple (aCons (eVar 0) aNil)) aNil)))) sNx)
  (sRet (eCB oLst (aCons (eC (.str "told")) (aCons (eCB oTuple (aCons (eCB oSorted (aCons (eVar 0) aNil)) aNil)) aNil))))))))
abbrev dueHead (h : Hy K mg) : M Fl := (sIf (tE blD (eBin (dEq false) (eVar 2) (eC (.int 2)))) (sAsg (tgN 4) (eOrV (eNotV (eCB (oIsi (XTn h)) (aCons (eVar 0) (aCons (eCB oTup (aCons (eC (.ty 3)) (aCons (eC (.ty 4)) aNil))) aNil)))) (eBin (dEq true) (eCB oLen (aCons (eVar 0) aNil)) (eVar 1)))) (sAsg (tgN 4) (eOrV (eNotV (eCB (oIsi (XTn h)) (aCons (eVar 0) (aCons (eCB oTup (aCons (eC (.ty 3)) (aCons (eC (.ty 4)) aNil))) aNil)))) (eAndV (eBin (dEq false) (eCB oLen (aCons (eVar 0) aNil)) (eC (.int 0))) (eBin (dEq false) (eVar 2) (eC (.int 0)))))))
theorem due_split (h : Hy K mg) : d__law_due_things h = sSeq (dueHead h) (dueTail h) := rfl
def wTag (w : Int) : Nat := if w = 2 then 5 else 4
def tN (n w : Int) (vs : List D) : Ans := if w = 2 then rowN n vs else lotN n (decide (w = 1)) vs
def tBad (n w : Int) (vs : List D) : Bool := if w = 2 then !decide ((vs.length : Int) = n) else vs.isEmpty && decide (w = 0)
theorem c_lfb (h : Hy K mg) (n : Int) {t : D} {vs : List D} (ht : t = .lst vs ∨ t = .tup vs) (hl : vs.length < 1000) (hb : ∀ v ∈ vs, basic v = true) {s : S} (h0 : s[0]? = some (some (.fr t))) (h1 : s[1]? = some (some (.fr (.int n)))) : eCallJ 2 (runDef 2 (d__law_first_bad h)) [] (aConsD (eVar 0) (aConsD (eVar 1) aNilJ)) s = .ok (.fr (.int (fbI (fbs n [] 0 vs)))) s :=
  e_call (np := 2) (den := runDef 2 (d__law_first_bad h)) (dd := []) (os := [some (.fr t), some (.fr (.int n))]) (j_d (e_var h0) (j_d (e_var h1) j_nil)) rfl rfl (r_law_first_bad h n ht hl hb)
theorem due_head (h : Hy K mg) (n w : Int) (hw : w = 0 ∨ w = 1 ∨ w = 2) {t : D} {vs : List D} (ht : t = .lst vs ∨ t = .tup vs) : dueHead h [some (.fr t), some (.fr (.int n)), some (.fr (.int w)), none, none] = .ok .nx [some (.fr t), some (.fr (.int n)), some (.fr (.int w)), none, some (.fr (.bl (tBad n w vs)))] := by
  have nt : ∀ {s : S}, s[0]? = some (some (.fr t)) → eNotV (eCB (oIsi (XTn h)) (aCons (eVar 0) (aCons (eCB oTup (aCons (eC (.ty 3)) (aCons (eC (.ty 4)) aNil))) aNil))) s = .ok (.fr (.bl false)) s := fun hs => e_not (isSeq h ht hs)
  by_cases h2 : w = 2
  · have e : tBad n w vs = !decide ((vs.length : Int) = n) := by unfold tBad; rw [if_pos h2]
    rw [e]
    refine (s_if (t_eqi (f := eVar 2) (i := w) (b := true) (e_var rfl) (decide_eq_true h2))).trans ?_
    exact s_asg (((e_or (nt rfl))).trans (e_bin (len_at ht rfl) (o2 := .fr (.int n)) (e_var rfl) (dNe_int _ _)))
  · have e : tBad n w vs = (vs.isEmpty && decide (w = 0)) := by unfold tBad; rw [if_neg h2]
    rw [e]
    refine (s_if (t_eqi (f := eVar 2) (i := w) (b := false) (e_var rfl) (decide_eq_false h2))).trans ?_
    have e1 : (eAndV (eBin (dEq false) (eCB oLen (aCons (eVar 0) aNil)) (eC (.int 0))) (eBin (dEq false) (eVar 2) (eC (.int 0)))) [some (.fr t), some (.fr (.int n)), some (.fr (.int w)), none, none] = .ok (.fr (.bl (vs.isEmpty && decide (w = 0)))) [some (.fr t), some (.fr (.int n)), some (.fr (.int w)), none, none] := by
      have ze : decide ((vs.length : Int) = 0) = vs.isEmpty := by cases vs <;> simp <;> omega
      have e0 := e_eqi (j := 0) (len_at (i := 0) (s := [some (.fr t), some (.fr (.int n)), some (.fr (.int w)), none, none]) ht rfl)
      rw [ze] at e0
      refine (e_and (g := (eBin (dEq false) (eVar 2) (eC (.int 0)))) e0).trans ?_
      cases vs.isEmpty with
      | true => exact e_eqi (e_var rfl)
      | false => rfl
    exact s_asg ((e_or (nt rfl)).trans e1)
theorem due_tail (h : Hy K mg) (n w : Int) (hw : w = 0 ∨ w = 1 ∨ w = 2) {t : D} {vs : List D} (ht : t = .lst vs ∨ t = .tup vs) (hl : vs.length < 1000) (hb : ∀ v ∈ vs, basic v = true) : ∃ s1, dueTail h [some (.fr t), some (.fr (.int n)), some (.fr (.int w)), none, some (.fr (.bl (tBad n w vs)))] = .ok (.rt (dueO (tN n w vs))) s1 := by
  have tagE : ∀ {s : S} {i : Int}, s[2]? = some (some (.fr (.int w))) → s[3]? = some (some (.fr (.int i))) → (sRet (eCB oLst (aCons (eBin dIx (eCB oLst (aCons (eC (.str "lot")) (aCons (eC (.str "lot")) (aCons (eC (.str "row")) aNil)))) (eVar 2)) (aCons (eVar 3) aNil)))) s = .ok (.rt (dueO (.bad (wTag w) i))) s := fun {s i} q2 q3 => by
    refine s_ret (e_cb (ds := [.str (tagN (wTag w)), .int i]) (a_cons (o := .fr (.str (tagN (wTag w)))) (e_pick (ds := [.str "lot", .str "lot", .str "row"]) rfl (by simp) (e_var q2) (by omega) ?_) (a_cons (o := .fr (.int i)) (e_var q3) a_nil)) rfl)
    rcases hw with rfl | rfl | rfl <;> rfl
  have neg : ∀ {s : S}, eUn dNeg (eC (.int 1)) s = .ok (.fr (.int (-1))) s := e_un (o := .fr (.int 1)) rfl rfl
  cases hc : tBad n w vs with
  | true =>
    have e : tN n w vs = .bad (wTag w) (-1) := by
      unfold tBad at hc
      unfold tN wTag
      split at hc
      · rename_i h2
        rw [if_pos h2, if_pos h2]
        unfold rowN
        rw [if_neg (by simpa using hc)]
      · rename_i h2
        rw [if_neg h2, if_neg h2]
        obtain ⟨h3, h4⟩ := Bool.and_eq_true_iff.mp hc
        have h5 := of_decide_eq_true h4
        subst h5
        unfold lotN
        rw [h3]; rfl
    rw [e]
    refine ⟨_, (s_seq (s_asg neg)).trans ((q_no (s1 := [some (.fr t), some (.fr (.int n)), some (.fr (.int w)), some (.fr (.int (-1))), some (.fr (.bl true))]) ?_).trans ((q_rt (s1 := [some (.fr t), some (.fr (.int n)), some (.fr (.int w)), some (.fr (.int (-1))), some (.fr (.bl true))]) ?_ (tagE rfl rfl))))⟩
    · exact t_not (b := true) (t_e (e_var (d := .bl true) rfl) rfl)
    · exact (t_or (b := true) (t_e (e_var (d := .bl true) rfl) rfl)).trans rfl
  | false =>
    have h1 : DF.tNot (tE dTru (eVar 4)) [some (.fr t), some (.fr (.int n)), some (.fr (.int w)), some (.fr (.int (-1))), some (.fr (.bl false))] = .ok true [some (.fr t), some (.fr (.int n)), some (.fr (.int w)), some (.fr (.int (-1))), some (.fr (.bl false))] := t_not (b := false) (t_e (e_var (d := .bl false) rfl) rfl)
    have st := s_asg (i := 3) (c_lfb h n ht hl hb (s := [some (.fr t), some (.fr (.int n)), some (.fr (.int w)), some (.fr (.int (-1))), some (.fr (.bl false))]) rfl rfl)
    have t2 : (DF.tOr (tE dTru (eVar 4)) (tE blD (eBin (dI2 fun i j => decide (j ≤ i)) (eVar 3) (eC (.int 0))))) [some (.fr t), some (.fr (.int n)), some (.fr (.int w)), some (.fr (.int (fbI (fbs n [] 0 vs)))), some (.fr (.bl false))] = .ok (decide (0 ≤ fbI (fbs n [] 0 vs))) [some (.fr t), some (.fr (.int n)), some (.fr (.int w)), some (.fr (.int (fbI (fbs n [] 0 vs)))), some (.fr (.bl false))] :=
      (t_or (b := false) (t_e (e_var (d := .bl false) rfl) rfl)).trans (t_e (e_bin (o := .fr (.int (fbI (fbs n [] 0 vs)))) (o2 := .fr (.int 0)) (e_var rfl) rfl rfl) rfl)
    cases hf : fbs n [] 0 vs with
    | some k =>
      rw [hf] at st t2
      have e : tN n w vs = .bad (wTag w) k := by
        unfold tBad at hc
        unfold tN wTag
        split at hc
        · rename_i h2
          rw [if_pos h2, if_pos h2]
          unfold rowN
          rw [if_pos (by simpa using hc), hf]
        · rename_i h2
          rw [if_neg h2, if_neg h2]
          unfold lotN
          have : (vs.isEmpty && !decide (w = 1)) = false := by
            rcases hw with rfl | rfl | rfl
            · simpa using hc
            · simp
            · exact absurd rfl h2
          rw [this, hf]; rfl
      rw [e]
      rw [show decide (0 ≤ fbI (some k)) = true from decide_eq_true (Int.natCast_nonneg k)] at t2
      exact ⟨_, (s_seq (s_asg neg)).trans ((s_seq ((s_if h1).trans st)).trans (q_rt t2 (tagE rfl rfl)))⟩
    | none =>
      rw [hf] at st t2
      rw [show decide (0 ≤ fbI none) = false from rfl] at t2
      obtain ⟨is, ei⟩ := fbs_ints hf
      by_cases h2 : w = 2
      · have e : tN n w vs = .told (.tup vs) := by
          unfold tBad at hc
          rw [if_pos h2] at hc
          unfold tN rowN
          rw [if_pos h2, if_pos (by simpa using hc), hf]
        rw [e]
        exact ⟨_, (s_seq (s_asg neg)).trans ((s_seq ((s_if h1).trans st)).trans ((q_no t2).trans (q_rt (t_eqi (f := eVar 2) (i := w) (e_var rfl) (decide_eq_true h2)) (s_ret (e_cb (ds := [.str "told", .tup vs]) (a_cons (o := .fr (.str "told")) rfl (a_cons (o := .fr (.tup vs)) (e_cb (ds := [t]) (a_cons (o := .fr t) (e_var rfl) a_nil) (tuple_seq ht)) a_nil)) rfl)))))⟩
      · have e : tN n w vs = .told (.tup ((srtI is).map .int)) := by
          unfold tBad at hc
          rw [if_neg h2] at hc
          unfold tN lotN
          rw [if_neg h2]
          have : (vs.isEmpty && !decide (w = 1)) = false := by
            rcases hw with rfl | rfl | rfl
            · simpa using hc
            · simp
            · exact absurd rfl h2
          rw [this, hf, ei, intsD_map]; rfl
        rw [e]
        subst ei
        rw [List.length_map] at hl
        exact ⟨_, (s_seq (s_asg neg)).trans ((s_seq ((s_if h1).trans st)).trans ((q_no t2).trans ((q_no (t_eqi (f := eVar 2) (i := w) (e_var rfl) (decide_eq_false h2))).trans (s_ret (e_cb (ds := [.str "told", .tup ((srtI is).map .int)]) (a_cons (o := .fr (.str "told")) rfl (a_cons (o := .fr (.tup ((srtI is).map .int))) (e_cb (ds := [.lst ((srtI is).map .int)]) ((a_cons (o := nl ((srtI is).map .int)) (e_cb (ds := [t]) (a_cons (o := .fr t) (e_var rfl) a_nil) (sorted_ints ht hl)) a_nil).trans (by rw [fz_nl])) rfl) a_nil)) rfl)))))⟩
theorem r_due_things (h : Hy K mg) (n w : Int) (hw : w = 0 ∨ w = 1 ∨ w = 2) {t : D} {vs : List D} (ht : t = .lst vs ∨ t = .tup vs) (hl : vs.length < 1000) (hb : ∀ v ∈ vs, basic v = true) : runDef 2 (d__law_due_things h) [some (.fr t), some (.fr (.int n)), some (.fr (.int w))] = .ok (dueO (tN n w vs)) [none, none, none] := by
  obtain ⟨s1, e1⟩ := due_tail h n w hw ht hl hb
  refine (run_rt (F := d__law_due_things h) (n := 2) (os := [some (.fr t), some (.fr (.int n)), some (.fr (.int w))]) (o := dueO (tN n w vs)) (s1 := s1) ((s_seq (due_head h n w hw ht)).trans e1)).trans ?_
  rw [outs3]
theorem r_due_plain (h : Hy K mg) (n w : Int) (hw : w = 0 ∨ w = 1 ∨ w = 2) {v : D} (hv : plainV v) : runDef 2 (d__law_due_things h) [some (.fr v), some (.fr (.int n)), some (.fr (.int w))] = .ok (dueO (.bad (wTag w) (-1))) [none, none, none] := by
  rcases hw with rfl | rfl | rfl <;> rcases hv with rfl | rfl | rfl | rfl | rfl <;> rfl
end Q99
end

section
set_option maxRecDepth 100000
set_option maxHeartbeats 1000000
namespace Q99
open PySem PySem.Spec PyProof.Rows L2 DF Gk99
variable {K : PySem.W.Frag} {mg : Str → Option Value}
def pr2 (n : Int) : List D → Option (Int × Int)
  | [.int i, .int j] => if thing n (.int i) && (thing n (.int j) && !decide (i = j)) then some (i, j) else none
  | _ => none
def pr (n : Int) (v : D) : Option (Int × Int) := match ofSeq v with
  | some ds => pr2 n ds
  | none => none
theorem pr_seq {n : Int} {t : D} {vs : List D} (ht : t = .lst vs ∨ t = .tup vs) : pr n t = pr2 n vs := by unfold pr; rw [ofSeq_of ht]
def good (v : D) : Prop := basic v = true ∧ ∀ ds, ofSeq v = some ds → ∀ d ∈ ds, basic d = true
theorem ix0 {t a b : D} (ht : t = .lst [a, b] ∨ t = .tup [a, b]) {s : S} {i : Nat} (hi : s[i]? = some (some (.fr t))) : eBin dIx (eVar i) (eC (.int 0)) s = .ok (.fr a) s := by
  refine e_bin (o := .fr t) (o2 := .fr (.int 0)) (e_var hi) rfl ?_
  rcases ht with rfl | rfl <;> rfl
theorem ix1 {t a b : D} (ht : t = .lst [a, b] ∨ t = .tup [a, b]) {s : S} {i : Nat} (hi : s[i]? = some (some (.fr t))) : eBin dIx (eVar i) (eC (.int 1)) s = .ok (.fr b) s := by
  refine e_bin (o := .fr t) (o2 := .fr (.int 1)) (e_var hi) rfl ?_
  rcases ht with rfl | rfl <;> rfl
theorem thing_int {n : Int} {v : D} (h : thing n v = true) : ∃ i, v = .int i := by
  cases v with
  | int i => exact ⟨i, rfl⟩
  | _ => cases h
theorem pr2_no {n : Int} {a b : D} (h : (thing n a && thing n b) = false) : pr2 n [a, b] = none := by
  unfold pr2
  split
  · rename_i i j e
    cases e
    rw [if_neg]
    intro z
    obtain ⟨z1, z2⟩ := Bool.and_eq_true_iff.mp z
    rw [z1, (Bool.and_eq_true_iff.mp z2).1] at h
    cases h
  · rfl
theorem pr2_len {n : Int} {vs : List D} (h : ¬ vs.length = 2) : pr2 n vs = none := by
  unfold pr2
  split
  · exact absurd rfl h
  · rfl
theorem pair_of_len {vs : List D} (h : vs.length = 2) : ∃ a b, vs = [a, b] := by
  match vs, h with
  | [a, b], _ => exact ⟨a, b, rfl⟩
theorem pr2_ii {n i j : Int} (ea : thing n (.int i) = true) (eb : thing n (.int j) = true) : (pr2 n [.int i, .int j]).isSome = !decide (i = j) := by
  have e : pr2 n [.int i, .int j] = if thing n (.int i) && (thing n (.int j) && !decide (i = j)) then some (i, j) else none := rfl
  rw [e, ea, eb]
  by_cases hij : i = j <;> simp [hij]
theorem r_is_pair (h : Hy K mg) (n : Int) {v : D} (hv : good v) : runDef 0 (d_is_pair h) [some (.fr (.int n)), some (.fr v)] = .ok (.fr (.bl (pr n v).isSome)) [none, none] := by
  have main : ∀ {t : D} {vs : List D}, (t = .lst vs ∨ t = .tup vs) → (∀ d ∈ vs, basic d = true) → runDef 0 (d_is_pair h) [some (.fr (.int n)), some (.fr t)] = .ok (.fr (.bl (pr n t).isSome)) [none, none] := by
    intro t vs ht hb
    rw [pr_seq ht]
    have t1 : (DF.tOr (DF.tNot (tE dTru (eCB (oIsi (XTn h)) (aCons (eVar 1) (aCons (eCB oTup (aCons (eC (.ty 3)) (aCons (eC (.ty 4)) aNil))) aNil))))) (tE blD (eBin (dEq true) (eCB oLen (aCons (eVar 1) aNil)) (eC (.int 2))))) [some (.fr (.int n)), some (.fr t)] = .ok (!decide ((vs.length : Int) = 2)) [some (.fr (.int n)), some (.fr t)] := by
      refine (t_or (u := (tE blD (eBin (dEq true) (eCB oLen (aCons (eVar 1) aNil)) (eC (.int 2))))) (t_not (t_e (isSeq h ht rfl) rfl))).trans ?_
      exact t_e (op := blD) (e_bin (g := eC (.int 2)) (len_at ht rfl) (o2 := .fr (.int 2)) rfl (dNe_int _ _)) rfl
    by_cases hl : vs.length = 2
    · obtain ⟨a, b, rfl⟩ := pair_of_len hl
      have ta := c_thing h (s := [some (.fr (.int n)), some (.fr t)]) (f := eVar 0) (g := eBin dIx (eVar 1) (eC (.int 0))) (n := n) (v := a) (hb a List.mem_cons_self) (e_var rfl) (ix0 ht rfl)
      have tb := c_thing h (s := [some (.fr (.int n)), some (.fr t)]) (f := eVar 0) (g := eBin dIx (eVar 1) (eC (.int 1))) (n := n) (v := b) (hb b (List.mem_cons_of_mem _ List.mem_cons_self)) (e_var rfl) (ix1 ht rfl)
      refine run_rt (F := d_is_pair h) (n := 0) (os := [some (.fr (.int n)), some (.fr t)]) (s1 := [some (.fr (.int n)), some (.fr t)]) ((q_no t1).trans (s_ret ((e_and ta).trans ?_)))
      cases ea : thing n a with
      | false => rw [pr2_no (by rw [ea]; rfl)]; rfl
      | true =>
        refine (e_and tb).trans ?_
        cases eb : thing n b with
        | false => rw [pr2_no (by rw [eb]; simp)]; rfl
        | true =>
          obtain ⟨i, rfl⟩ := thing_int ea
          obtain ⟨j, rfl⟩ := thing_int eb
          refine (e_bin (ix0 ht rfl) (ix1 ht rfl) (dNe_int i j)).trans ?_
          rw [pr2_ii ea eb]
    · rw [pr2_len hl]
      rw [show decide ((vs.length : Int) = 2) = false from decide_eq_false (by omega)] at t1
      refine run_rt (F := d_is_pair h) (n := 0) (os := [some (.fr (.int n)), some (.fr t)]) (s1 := [some (.fr (.int n)), some (.fr t)]) (q_rt t1 (s_ret rfl))
  cases v with
  | lst vs => exact main (.inl rfl) (hv.2 vs rfl)
  | tup vs => exact main (.inr rfl) (hv.2 vs rfl)
  | _ => first | rfl | cases hv.1
theorem r_good_pair (h : Hy K mg) (n : Int) {v : D} (hv : good v) : runDef 0 (d__law_good_pair h) [some (.fr v), some (.fr (.int n))] = .ok (.fr (.bl (pr n v).isSome)) [none, none] := by
  have main : ∀ {t : D} {vs : List D}, (t = .lst vs ∨ t = .tup vs) → (∀ d ∈ vs, basic d = true) → runDef 0 (d__law_good_pair h) [some (.fr t), some (.fr (.int n))] = .ok (.fr (.bl (pr n t).isSome)) [none, none] := by
    intro t vs ht hb
    rw [pr_seq ht]
    have t1 : (DF.tOr (DF.tNot (tE dTru (eCB (oIsi (XTn h)) (aCons (eVar 0) (aCons (eCB oTup (aCons (eC (.ty 3)) (aCons (eC (.ty 4)) aNil))) aNil))))) (tE blD (eBin (dEq true) (eCB oLen (aCons (eVar 0) aNil)) (eC (.int 2))))) [some (.fr t), some (.fr (.int n))] = .ok (!decide ((vs.length : Int) = 2)) [some (.fr t), some (.fr (.int n))] := by
      refine (t_or (u := (tE blD (eBin (dEq true) (eCB oLen (aCons (eVar 0) aNil)) (eC (.int 2))))) (t_not (t_e (isSeq h ht rfl) rfl))).trans ?_
      exact t_e (op := blD) (e_bin (g := eC (.int 2)) (len_at ht rfl) (o2 := .fr (.int 2)) rfl (dNe_int _ _)) rfl
    by_cases hl : vs.length = 2
    · obtain ⟨a, b, rfl⟩ := pair_of_len hl
      have ta := c_lthing h (s := [some (.fr t), some (.fr (.int n))]) (g := eVar 1) (f := eBin dIx (eVar 0) (eC (.int 0))) (n := n) (v := a) (hb a List.mem_cons_self) (ix0 ht rfl) (e_var rfl)
      have tb := c_lthing h (s := [some (.fr t), some (.fr (.int n))]) (g := eVar 1) (f := eBin dIx (eVar 0) (eC (.int 1))) (n := n) (v := b) (hb b (List.mem_cons_of_mem _ List.mem_cons_self)) (ix1 ht rfl) (e_var rfl)
      have t2 : (DF.tOr (DF.tNot (tE dTru (eCallJ 2 (runDef 0 (d__law_is_thing h)) [] (aConsD (eBin dIx (eVar 0) (eC (.int 0))) (aConsD (eVar 1) aNilJ))))) (DF.tNot (tE dTru (eCallJ 2 (runDef 0 (d__law_is_thing h)) [] (aConsD (eBin dIx (eVar 0) (eC (.int 1))) (aConsD (eVar 1) aNilJ)))))) [some (.fr t), some (.fr (.int n))] = .ok (!(thing n a && thing n b)) [some (.fr t), some (.fr (.int n))] := by
        refine (t_or (u := DF.tNot (tE dTru (eCallJ 2 (runDef 0 (d__law_is_thing h)) [] (aConsD (eBin dIx (eVar 0) (eC (.int 1))) (aConsD (eVar 1) aNilJ))))) (t_not (t_e ta rfl))).trans ?_
        cases thing n a with
        | false => rfl
        | true => exact t_not (t_e tb rfl)
      cases eab : (thing n a && thing n b) with
      | false =>
        rw [pr2_no eab]
        rw [eab] at t2
        exact run_rt (F := d__law_good_pair h) (n := 0) (os := [some (.fr t), some (.fr (.int n))]) (s1 := [some (.fr t), some (.fr (.int n))]) ((q_no t1).trans (q_rt t2 (s_ret rfl)))
      | true =>
        rw [eab] at t2
        obtain ⟨ea, eb⟩ := Bool.and_eq_true_iff.mp eab
        obtain ⟨i, rfl⟩ := thing_int ea
        obtain ⟨j, rfl⟩ := thing_int eb
        refine run_rt (F := d__law_good_pair h) (n := 0) (os := [some (.fr t), some (.fr (.int n))]) (s1 := [some (.fr t), some (.fr (.int n))]) ((q_no t1).trans ((q_no t2).trans (s_ret ((e_bin (ix0 ht rfl) (ix1 ht rfl) (dNe_int i j)).trans ?_))))
        rw [pr2_ii ea eb]
    · rw [pr2_len hl]
      rw [show decide ((vs.length : Int) = 2) = false from decide_eq_false (by omega)] at t1
      refine run_rt (F := d__law_good_pair h) (n := 0) (os := [some (.fr t), some (.fr (.int n))]) (s1 := [some (.fr t), some (.fr (.int n))]) (q_rt t1 (s_ret rfl))
  cases v with
  | lst vs => exact main (.inl rfl) (hv.2 vs rfl)
  | tup vs => exact main (.inr rfl) (hv.2 vs rfl)
  | _ => first | rfl | cases hv.1
theorem pr2_some {n : Int} {vs : List D} {p : Int × Int} (h : pr2 n vs = some p) : vs = [.int p.1, .int p.2] := by
  unfold pr2 at h
  split at h
  · split at h
    · cases h; rfl
    · cases h
  · cases h
theorem pr_some {n : Int} {v : D} {p : Int × Int} (hv : basic v = true) (h : pr n v = some p) : v = .lst [.int p.1, .int p.2] ∨ v = .tup [.int p.1, .int p.2] := by
  cases v with
  | lst vs => exact .inl (by rw [pr2_some ((pr_seq (.inl rfl)).symm.trans h)])
  | tup vs => exact .inr (by rw [pr2_some ((pr_seq (.inr rfl)).symm.trans h)])
  | _ => first | cases h | cases hv
theorem pr_ne {n : Int} {v : D} {p : Int × Int} (h : pr n v = some p) : p.1 ≠ p.2 := by
  unfold pr at h
  split at h
  · unfold pr2 at h
    split at h
    · split at h
      · rename_i hc
        cases h
        have := (Bool.and_eq_true_iff.mp (Bool.and_eq_true_iff.mp hc).2).2
        simpa using this
      · cases h
    · cases h
  · cases h
end Q99
end

section
set_option maxRecDepth 100000
set_option maxHeartbeats 1000000
namespace Q99
open PySem PySem.Spec PyProof.Rows L2 DF Gk99
variable {K : PySem.W.Frag} {mg : Str → Option Value}
/-! ### several pairs: what is found -/
def hasP (acc : List (Int × Int)) (a b : Int) : Bool := acc.any fun q => decide ((q.1 = a ∧ q.2 = b) ∨ (q.1 = b ∧ q.2 = a))
def prs (n : Int) : List (Int × Int) → Nat → List D → Nat ⊕ List (Int × Int)
  | acc, _, [] => .inr acc
  | acc, k, v :: vs => match pr n v with
    | none => .inl k
    | some p => if hasP acc p.1 p.2 then .inl k else prs n (acc ++ [p]) (k + 1) vs
abbrev kk (a b : Int) : List Key := [Sum.inl a, Sum.inl b]
def mk : List (Int × Int) → List (List Key)
  | [] => []
  | q :: r => kk q.1 q.2 :: kk q.2 q.1 :: mk r
theorem kk_eq (a b c d : Int) : (kk a b = kk c d) ↔ (a = c ∧ b = d) := by
  constructor
  · intro e
    injection e with e1 e2
    injection e2 with e3 e4
    exact ⟨Sum.inl.inj e1, Sum.inl.inj e3⟩
  · rintro ⟨rfl, rfl⟩; rfl
theorem has_mk (a b : Int) : ∀ acc : List (Int × Int), hasK (mk acc) (kk a b) = hasP acc a b
  | [] => rfl
  | q :: r => by
    have ih := has_mk a b r
    have e1 : hasK (mk (q :: r)) (kk a b) = (decide (kk q.1 q.2 = kk a b) || (decide (kk q.2 q.1 = kk a b) || hasK (mk r) (kk a b))) := rfl
    have e2 : hasP (q :: r) a b = (decide ((q.1 = a ∧ q.2 = b) ∨ (q.1 = b ∧ q.2 = a)) || hasP r a b) := rfl
    rw [e1, e2, ih]
    simp only [kk_eq]
    by_cases h1 : q.1 = a ∧ q.2 = b
    · simp [h1]
    · by_cases h2 : q.1 = b ∧ q.2 = a
      · simp [h2]
      · have h3 : ¬ (q.2 = a ∧ q.1 = b) := fun z => h2 ⟨z.2, z.1⟩
        simp [h1, h2, h3]
theorem mk_app (acc : List (Int × Int)) (p : Int × Int) : mk (acc ++ [p]) = mk acc ++ [kk p.1 p.2, kk p.2 p.1] := by
  induction acc with
  | nil => rfl
  | cons q r ih => simp only [List.cons_append, mk, ih]
theorem mk_len (acc : List (Int × Int)) : (mk acc).length = 2 * acc.length := by
  induction acc with
  | nil => rfl
  | cons q r ih => simp only [mk, List.length_cons, ih]; omega
theorem hasP_swap (acc : List (Int × Int)) (a b : Int) : hasP acc b a = hasP acc a b := by
  unfold hasP
  refine congrArg (fun f => acc.any f) (funext fun q => ?_)
  refine decide_eq_decide.mpr ⟨fun h => h.elim (fun z => .inr z) fun z => .inl z, fun h => h.elim (fun z => .inr z) fun z => .inl z⟩
theorem put_gen {κ : Type} [DecidableEq κ] (x : κ) : ∀ ks : List κ, hasK ks x = false → putD ks (ks.map fun _ => D.bl true) x (.bl true) = (ks ++ [x], (ks ++ [x]).map fun _ => .bl true)
  | [], _ => rfl
  | k :: ks, h => by
    have h' : (decide (k = x) || hasK ks x) = false := h
    obtain ⟨h1, h2⟩ := Bool.or_eq_false_iff.mp h'
    have h3 : ¬ k = x := of_decide_eq_false h1
    simp only [List.map_cons, putD, if_neg h3, put_gen x ks h2, List.cons_append]
theorem not_mem_has {κ : Type} [DecidableEq κ] {x : κ} {ks : List κ} (h : hasK ks x = false) : x ∉ ks := fun m => by
  have : hasK ks x = true := List.any_eq_true.mpr ⟨x, m, decide_eq_true rfl⟩
  rw [this] at h; cases h
theorem nodup_add {κ : Type} [DecidableEq κ] {x : κ} {ks : List κ} (hn : ks.Nodup) (h : hasK ks x = false) : (ks ++ [x]).Nodup := by
  refine List.nodup_append.mpr ⟨hn, List.pairwise_singleton _ _, fun a ha b hb => ?_⟩
  rw [List.mem_singleton.mp hb]
  intro z
  subst z
  exact not_mem_has h ha
def dtO (ks : List (List Key)) : O := .dt 1 ks (ks.map fun _ => .bl true)
theorem set_dt {ks : List (List Key)} {a b : Int} (hn : ks.Nodup) (hl : ks.length < 100000) (h : hasK ks (kk a b) = false) : stSet (dtO ks) (.tup [.int a, .int b]) (.bl true) = some (dtO (ks ++ [kk a b])) := by
  unfold stSet dtO
  show (if ([D.int a, D.int b] : List D) = [] then none else if ks.Nodup ∧ ks.length < 100000 then some (O.dt 1 (putD ks (ks.map fun _ => D.bl true) (kk a b) (.bl true)).1 (putD ks (ks.map fun _ => D.bl true) (kk a b) (.bl true)).2) else none) = _
  rw [if_neg (fun z => nomatch z), if_pos ⟨hn, hl⟩, put_gen _ _ h]
theorem has_add {ks : List (List Key)} (x y : List Key) (h : ¬ x = y) : hasK (ks ++ [x]) y = hasK ks y := by
  unfold hasK
  rw [List.any_append]
  simp [h]
abbrev spIn : M Bool := (evT [2, 5] [] (tE blD (eBin (dIn false) (eCB oTup (aCons (eBin dIx (eVar 5) (eC (.int 0))) (aCons (eBin dIx (eVar 5) (eC (.int 1))) aNil))) (eVar 2))))
abbrev spBody (h : Hy K mg) : M Fl := (sSeq (sIf (DF.tOr (DF.tNot (tE dTru (eCallJ 2 (runDef 0 (d_is_pair h)) [] (aConsD (eVar 0) (aConsD (eVar 5) aNilJ))))) spIn) (sRaise 3 [1] (aCons (eVar 4) aNil)) sNx)
  (sSeq (sStore 2 (eC (.bl true)) (eCB oTup (aCons (eBin dIx (eVar 5) (eC (.int 0))) (aCons (eBin dIx (eVar 5) (eC (.int 1))) aNil))))
  (sSeq (sStore 2 (eC (.bl true)) (eCB oTup (aCons (eBin dIx (eVar 5) (eC (.int 1))) (aCons (eBin dIx (eVar 5) (eC (.int 0))) aNil))))
  (sExpr (eMut 3 mAppend (aCons (eCB oTup (aCons (eBin dIx (eVar 5) (eC (.int 0))) (aCons (eBin dIx (eVar 5) (eC (.int 1))) aNil))) aNil))))))
theorem c_pair (h : Hy K mg) {f g : M O} {s s1 s2 : S} {n : Int} {v : D} (hv : good v) (hf : f s = .ok (.fr (.int n)) s1) (hg : g s1 = .ok (.fr v) s2) : eCallJ 2 (runDef 0 (d_is_pair h)) [] (aConsD f (aConsD g aNilJ)) s = .ok (.fr (.bl (pr n v).isSome)) s2 :=
  e_call (np := 2) (den := runDef 0 (d_is_pair h)) (dd := []) (os := [some (.fr (.int n)), some (.fr v)]) (j_d hf (j_d hg j_nil)) rfl rfl (r_is_pair h n hv)
def foundO (acc : List (Int × Int)) : O := rowsO (acc.map pairD)
/-- the loop's end -/
def spR (s1 : S) : Nat ⊕ List (Int × Int) → R Fl
  | .inl k => .er (exn1 3 k) s1
  | .inr _ => .ok .nx s1
theorem for_sp (h : Hy K mg) (n : Int) (t : D) : ∀ (vs : List D) (acc : List (Int × Int)) (k : Nat) (p q : Option O), (mk acc).Nodup → acc.length + vs.length < 1000 → (∀ v ∈ vs, good v) →
    ∃ (s1 : S) (p2 q2 : Option O), lpFor (tgT [tgN 4, tgN 5]) (spBody h) (pairI k vs) [some (.fr (.int n)), some (.fr t), some (dtO (mk acc)), some (foundO acc), p, q] = spR s1 (prs n acc k vs) ∧ ∀ ps, prs n acc k vs = .inr ps → s1 = [some (.fr (.int n)), some (.fr t), some (dtO (mk ps)), some (foundO ps), p2, q2] ∧ ps.length ≤ acc.length + vs.length
  | [], acc, k, p, q, _, _, _ => ⟨_, p, q, rfl, fun ps e => by cases e; exact ⟨rfl, Nat.le_refl _⟩⟩
  | v :: vs, acc, k, p, q, hn, hl, hb => by
    have hv := hb v List.mem_cons_self
    have tn : DF.tNot (tE dTru (eCallJ 2 (runDef 0 (d_is_pair h)) [] (aConsD (eVar 0) (aConsD (eVar 5) aNilJ)))) [some (.fr (.int n)), some (.fr t), some (dtO (mk acc)), some (foundO acc), some (.fr (.int k)), some (.fr v)] = .ok (!(pr n v).isSome) [some (.fr (.int n)), some (.fr t), some (dtO (mk acc)), some (foundO acc), some (.fr (.int k)), some (.fr v)] :=
      t_not (t_e (c_pair h hv (e_var rfl) (e_var rfl)) rfl)
    have rs : ∀ {s : S}, s[4]? = some (some (.fr (.int (k : Nat)))) → (sRaise 3 [1] (aCons (eVar 4) aNil)) s = .er (exn1 3 k) s := fun {s} hs => by
      unfold sRaise
      refine (b_ok (a_cons (o := .fr (.int (k : Nat))) (e_var hs) a_nil)).trans rfl
    cases hp : pr n v with
    | none =>
      rw [hp] at tn
      refine ⟨[some (.fr (.int n)), some (.fr t), some (dtO (mk acc)), some (foundO acc), some (.fr (.int k)), some (.fr v)], p, q, (l_er (t := tgT [tgN 4, tgN 5]) (F := spBody h) (d := .tup [.int k, v]) (x := exn1 3 k) (s := [some (.fr (.int n)), some (.fr t), some (dtO (mk acc)), some (foundO acc), p, q]) (s1 := [some (.fr (.int n)), some (.fr t), some (dtO (mk acc)), some (foundO acc), some (.fr (.int k)), some (.fr v)]) rfl (s_seq_er ((s_if ((t_or (u := spIn) tn).trans rfl)).trans (rs rfl)))).trans (by unfold prs; rw [hp]; rfl), fun ps e => ?_⟩
      unfold prs at e; rw [hp] at e; cases e
    | some pq =>
      obtain ⟨a, b⟩ := pq
      rw [hp] at tn
      have ht := pr_some hv.1 hp
      have hne : ¬ a = b := pr_ne hp
      have tup1 : ∀ {s : S}, s[5]? = some (some (.fr v)) → eCB oTup (aCons (eBin dIx (eVar 5) (eC (.int 0))) (aCons (eBin dIx (eVar 5) (eC (.int 1))) aNil)) s = .ok (.fr (.tup [.int a, .int b])) s := fun {s} hs => e_cb (ds := [.int a, .int b]) (a_cons (o := .fr (.int a)) (ix0 ht hs) (a_cons (o := .fr (.int b)) (ix1 ht hs) a_nil)) rfl
      have tup2 : ∀ {s : S}, s[5]? = some (some (.fr v)) → eCB oTup (aCons (eBin dIx (eVar 5) (eC (.int 1))) (aCons (eBin dIx (eVar 5) (eC (.int 0))) aNil)) s = .ok (.fr (.tup [.int b, .int a])) s := fun {s} hs => e_cb (ds := [.int b, .int a]) (a_cons (o := .fr (.int b)) (ix1 ht hs) (a_cons (o := .fr (.int a)) (ix0 ht hs) a_nil)) rfl
      have ts : spIn [some (.fr (.int n)), some (.fr t), some (dtO (mk acc)), some (foundO acc), some (.fr (.int k)), some (.fr v)] = .ok (hasP acc a b) [some (.fr (.int n)), some (.fr t), some (dtO (mk acc)), some (foundO acc), some (.fr (.int k)), some (.fr v)] := by
        refine t_view (s1 := mask [2, 5] [] [some (.fr (.int n)), some (.fr t), some (dtO (mk acc)), some (foundO acc), some (.fr (.int k)), some (.fr v)]) (t_e (o := .fr (.bl (hasP acc a b))) (e_bin (o := .fr (.tup [.int a, .int b])) (o2 := .fr (.dt (mk acc) ((mk acc).map fun _ => .bl true))) (tup1 rfl) (e_var rfl) ?_) rfl) rfl
        show some (O.fr (.bl (hasK (mk acc) (kk a b) != false))) = _
        rw [has_mk]; simp
      cases hc : hasP acc a b with
      | true =>
        rw [hc] at ts
        refine ⟨[some (.fr (.int n)), some (.fr t), some (dtO (mk acc)), some (foundO acc), some (.fr (.int k)), some (.fr v)], p, q, (l_er (t := tgT [tgN 4, tgN 5]) (F := spBody h) (d := .tup [.int k, v]) (x := exn1 3 k) (s := [some (.fr (.int n)), some (.fr t), some (dtO (mk acc)), some (foundO acc), p, q]) (s1 := [some (.fr (.int n)), some (.fr t), some (dtO (mk acc)), some (foundO acc), some (.fr (.int k)), some (.fr v)]) rfl (s_seq_er ((s_if ((t_or (u := spIn) tn).trans ts)).trans (rs rfl)))).trans (by unfold prs; rw [hp]; simp only [hc]; rfl), fun ps e => ?_⟩
        unfold prs at e; rw [hp] at e; simp only [hc] at e; cases e
      | false =>
        rw [hc] at ts
        have e : prs n acc k (v :: vs) = prs n (acc ++ [(a, b)]) (k + 1) vs := by
          conv => lhs; unfold prs
          rw [hp]; simp only [hc]; rfl
        have f1 : hasK (mk acc) (kk a b) = false := by rw [has_mk]; exact hc
        have f2 : hasK (mk acc) (kk b a) = false := by rw [has_mk, hasP_swap]; exact hc
        have f3 : hasK (mk acc ++ [kk a b]) (kk b a) = false := by rw [has_add _ _ (fun z => hne ((kk_eq _ _ _ _).mp z).1)]; exact f2
        have n1 := nodup_add hn f1
        have n2 : (mk (acc ++ [(a, b)])).Nodup := by
          rw [mk_app]
          have := nodup_add n1 f3
          rwa [List.append_assoc] at this
        have l1 : (mk acc).length < 2000 := by rw [mk_len]; simp only [List.length_cons] at hl; omega
        obtain ⟨s1, p2, q2, e1, e2⟩ := for_sp h n t vs (acc ++ [(a, b)]) (k + 1) (some (.fr (.int k))) (some (.fr v)) n2 (by simp only [List.length_append, List.length_cons, List.length_nil] at hl ⊢; omega) (fun x hx => hb x (List.mem_cons_of_mem _ hx))
        rw [e]
        refine ⟨s1, p2, q2, ?_, fun ps eq => ⟨(e2 ps eq).1, by have := (e2 ps eq).2; simp only [List.length_append, List.length_cons, List.length_nil] at this ⊢; omega⟩⟩
        refine (l_cons (t := tgT [tgN 4, tgN 5]) (F := spBody h) (d := .tup [.int k, v]) (ds := pairI (k + 1) vs) (s := [some (.fr (.int n)), some (.fr t), some (dtO (mk acc)), some (foundO acc), p, q]) (s2 := [some (.fr (.int n)), some (.fr t), some (dtO (mk (acc ++ [(a, b)]))), some (foundO (acc ++ [(a, b)])), some (.fr (.int k)), some (.fr v)]) rfl ((q_no ((t_or (u := spIn) tn).trans ts)).trans ?_)).trans e1
        refine (s_seq (s_store (f := eC (.bl true)) (o := .fr (.bl true)) (oi := .fr (.tup [.int a, .int b])) (oj := dtO (mk acc)) rfl rfl (tup1 rfl) rfl (set_dt hn (by omega) f1))).trans ?_
        refine (s_seq (s_store (f := eC (.bl true)) (o := .fr (.bl true)) (oi := .fr (.tup [.int b, .int a])) (oj := dtO (mk acc ++ [kk a b])) rfl rfl (tup2 rfl) rfl (set_dt n1 (by rw [List.length_append]; simp only [List.length_cons, List.length_nil]; omega) f3))).trans ?_
        rw [mk_app]
        have ap : mAppend (foundO acc) [pairD (a, b)] = some (.fr .non, foundO (acc ++ [(a, b)])) := by
          unfold foundO
          rw [app_rows (by rw [List.length_map]; simp only [List.length_cons] at hl; omega), List.map_append]; rfl
        rw [List.append_assoc]
        exact s_expr (e_mut (o := foundO acc) rfl rfl (a_cons (o := .fr (.tup [.int a, .int b])) (tup1 rfl) a_nil) rfl ap)
def spA (s1 : S) : Nat ⊕ List (Int × Int) → R O
  | .inl k => .er (exn1 3 k) s1
  | .inr ps => .ok (foundO ps) s1
theorem r_several_pairs (h : Hy K mg) (n : Int) {t : D} {vs : List D} (ht : t = .lst vs ∨ t = .tup vs) (hl : vs.length < 1000) (hb : ∀ v ∈ vs, good v) : runDef 4 (d_several_pairs h) [some (.fr (.int n)), some (.fr t)] = spA [none, none] (prs n [] 0 vs) := by
  obtain ⟨s1, p2, q2, e1, e2⟩ := for_sp h n t vs [] 0 none none List.nodup_nil (by simpa using hl) hb
  have t1 : DF.tNot (tE dTru (eCB (oIsi (XTn h)) (aCons (eVar 1) (aCons (eCB oTup (aCons (eC (.ty 3)) (aCons (eC (.ty 4)) aNil))) aNil)))) [some (.fr (.int n)), some (.fr t), none, none, none, none] = .ok false [some (.fr (.int n)), some (.fr t), none, none, none, none] := t_not (b := true) (t_e (isSeq h ht rfl) rfl)
  have pre : ∀ {F : M Fl}, sSeq (sSet 2 eDt) (sSeq (sSet 3 (eCB oLst aNil)) F) [some (.fr (.int n)), some (.fr t), none, none, none, none] = F [some (.fr (.int n)), some (.fr t), some (dtO (mk [])), some (foundO []), none, none] := fun {F} => (s_seq (s_set (f := eDt) rfl)).trans (s_seq (s_set (o := nl []) (e_cb a_nil rfl)))
  have lp : sFor (iEnumD (aCons (eVar 1) aNil)) (tgT [tgN 4, tgN 5]) (spBody h) [some (.fr (.int n)), some (.fr t), some (dtO (mk [])), some (foundO []), none, none] = spR s1 (prs n [] 0 vs) := (s_for (i_enum (a_cons (o := .fr t) (e_var rfl) a_nil) (ofSeq_of ht))).trans e1
  cases hf : prs n [] 0 vs with
  | inl k =>
    rw [hf] at lp
    refine (run_er (n := 4) (os := [some (.fr (.int n)), some (.fr t)]) (F := d_several_pairs h) (x := exn1 3 k) (s1 := s1) ((q_no t1).trans (pre.trans (s_seq_er lp)))).trans ?_
    rw [outs2]; rfl
  | inr ps =>
    rw [hf] at lp
    obtain ⟨rfl, _⟩ := e2 ps hf
    refine (run_rt (n := 4) (os := [some (.fr (.int n)), some (.fr t)]) (F := d_several_pairs h) (o := foundO ps) (s1 := [some (.fr (.int n)), some (.fr t), some (dtO (mk ps)), none, p2, q2]) ((q_no t1).trans (pre.trans ((s_seq lp).trans (s_ret (f := eTake 3) rfl))))).trans ?_
    rw [outs2]; rfl
theorem r_several_plain (h : Hy K mg) (n : Int) {v : D} (hv : plainV v) : runDef 4 (d_several_pairs h) [some (.fr (.int n)), some (.fr v)] = .er (exn1 3 (-1)) [none, none] := by
  rcases hv with rfl | rfl | rfl | rfl | rfl <;> rfl
end Q99
end

section
set_option maxRecDepth 100000
set_option maxHeartbeats 1000000
namespace Q99
open PySem PySem.Spec PyProof.Rows L2 DF Gk99
variable {K : PySem.W.Frag} {mg : Str → Option Value}
def norm (p : Int × Int) : Int × Int := (if p.2 < p.1 then p.2 else p.1, if p.2 > p.1 then p.2 else p.1)
theorem norm_eq (q p : Int × Int) : (norm q = norm p) ↔ ((q.1 = p.1 ∧ q.2 = p.2) ∨ (q.1 = p.2 ∧ q.2 = p.1)) := by
  unfold norm
  rw [Prod.mk.injEq]
  constructor
  · rintro ⟨h1, h2⟩
    split at h1 <;> split at h1 <;> split at h2 <;> split at h2 <;> omega
  · rintro (⟨h1, h2⟩ | ⟨h1, h2⟩)
    · rw [h1, h2]; exact ⟨rfl, rfl⟩
    · rw [h1, h2]
      constructor
      · split <;> split <;> omega
      · split <;> split <;> omega
theorem deq_pair (p q : Int × Int) : deq (DF.pairD q) (DF.pairD p) = decide (q = p) := by
  show deq (.tup [.int q.1, .int q.2]) (.tup [.int p.1, .int p.2]) = _
  have e : deq (.tup [.int q.1, .int q.2]) (.tup [.int p.1, .int p.2]) = (deq (.int q.1) (.int p.1) && (deq (.int q.2) (.int p.2) && true)) := by
    first | rfl | simp [deq, deqL]
  rw [e, deq_int, deq_int]
  obtain ⟨a, b⟩ := p
  obtain ⟨c, d⟩ := q
  simp only [Prod.mk.injEq]
  by_cases h1 : c = a <;> by_cases h2 : d = b <;> simp [h1, h2]
theorem okEL_pairs (n : Nat) (ps : List (Int × Int)) : okEL (n + 1) (ps.map DF.pairD) = true := by
  induction ps with
  | nil => rfl
  | cons p ps ih =>
    show (okE (n + 1) (DF.pairD p) && okEL (n + 1) (ps.map DF.pairD)) = true
    rw [ih]
    cases n <;> rfl
theorem in_pairs (ps : List (Int × Int)) (p : Int × Int) : dIn false (DF.pairD p) (.lst (ps.map DF.pairD)) = some (.fr (.bl (ps.any fun q => decide (q = p)))) := by
  have any : ((ps.map DF.pairD).any fun z => deq z (DF.pairD p)) = ps.any fun q => decide (q = p) := by
    rw [List.any_map]
    exact congrArg (fun f => ps.any f) (funext fun q => deq_pair p q)
  unfold dIn
  show (if (okE 16 (DF.pairD p) && okEL 16 (ps.map DF.pairD)) = true then some (O.fr (.bl (((ps.map DF.pairD).any fun z => deq z (DF.pairD p)) != false))) else none) = _
  rw [okEL_pairs 15, any]
  have : okE 16 (DF.pairD p) = true := rfl
  rw [this]; simp
theorem any_norm (acc : List (Int × Int)) (p : Int × Int) : ((acc.map norm).any fun q => decide (q = norm p)) = hasP acc p.1 p.2 := by
  rw [List.any_map]
  unfold hasP
  refine congrArg (fun f => acc.any f) (funext fun q => ?_)
  exact decide_eq_decide.mpr (norm_eq q p)
abbrev dpTup : M O := eCB oTup (aCons (eCB oMin2 (aCons (eVar 6) (aCons (eVar 7) aNil))) (aCons (eCB oMax2 (aCons (eVar 6) (aCons (eVar 7) aNil))) aNil))
abbrev dpIn : M Bool := (evT [3, 6, 7] [] (tE blD (eBin (dIn false) dpTup (eVar 3))))
abbrev dpBody (h : Hy K mg) : M Fl := (sSeq (sIf (DF.tNot (tE dTru (eCallJ 2 (runDef 0 (d__law_good_pair h)) [] (aConsD (eBin dIx (eVar 0) (eVar 5)) (aConsD (eVar 1) aNilJ))))) (sRet (eCB oLst (aCons (eC (.str "pair")) (aCons (eVar 5) aNil)))) sNx)
  (sSeq (sAsg (tgN 6) (eBin dIx (eBin dIx (eVar 0) (eVar 5)) (eC (.int 0))))
  (sSeq (sAsg (tgN 7) (eBin dIx (eBin dIx (eVar 0) (eVar 5)) (eC (.int 1))))
  (sSeq (sIf dpIn (sRet (eCB oLst (aCons (eC (.str "pair")) (aCons (eVar 5) aNil)))) sNx)
  (sSeq (sExpr (eMut 3 mAppend (aCons dpTup aNil)))
  (sExpr (eMut 4 mAppend (aCons (eCB oTup (aCons (eVar 6) (aCons (eVar 7) aNil))) aNil))))))))
theorem c_gpair (h : Hy K mg) {f g : M O} {s s1 s2 : S} {n : Int} {v : D} (hv : good v) (hf : f s = .ok (.fr v) s1) (hg : g s1 = .ok (.fr (.int n)) s2) : eCallJ 2 (runDef 0 (d__law_good_pair h)) [] (aConsD f (aConsD g aNilJ)) s = .ok (.fr (.bl (pr n v).isSome)) s2 :=
  e_call (np := 2) (den := runDef 0 (d__law_good_pair h)) (dd := []) (os := [some (.fr v), some (.fr (.int n))]) (j_d hf (j_d hg j_nil)) rfl rfl (r_good_pair h n hv)
def dpR (s1 : S) : Nat ⊕ List (Int × Int) → R Fl
  | .inl k => .ok (.rt (dueO (.bad 3 k))) s1
  | .inr _ => .ok .nx s1
theorem max2 {a b : M O} {s s1 s2 : S} {i j : Int} (ha : a s = .ok (.fr (.int i)) s1) (hb : b s1 = .ok (.fr (.int j)) s2) : eCB oMax2 (aCons a (aCons b aNil)) s = .ok (.fr (.int (if j > i then j else i))) s2 :=
  e_cb (a_cons ha (a_cons hb a_nil)) rfl
theorem for_dp (h : Hy K mg) (n : Int) {t : D} {all : List D} (w : O) (ht : t = .lst all ∨ t = .tup all) : ∀ (vs pre : List D) (acc : List (Int × Int)) (p q r : Option O), all = pre ++ vs → acc.length + vs.length < 1000 → (∀ v ∈ vs, good v) →
    ∃ (s1 : S) (p2 q2 r2 : Option O), lpFor (tgN 5) (dpBody h) (idx pre.length vs) [some (.fr t), some (.fr (.int n)), some w, some (foundO (acc.map norm)), some (foundO acc), p, q, r] = dpR s1 (prs n acc pre.length vs) ∧ ∀ ps, prs n acc pre.length vs = .inr ps → s1 = [some (.fr t), some (.fr (.int n)), some w, some (foundO (ps.map norm)), some (foundO ps), p2, q2, r2]
  | [], pre, acc, p, q, r, _, _, _ => ⟨_, p, q, r, rfl, fun ps e => by cases e; rfl⟩
  | v :: vs, pre, acc, p, q, r, ha, hl, hb => by
    have hv := hb v List.mem_cons_self
    have hx : all[pre.length]? = some v := by rw [ha]; simp
    have ix : ∀ {x y z u : Option O}, (eBin dIx (eVar 0) (eVar 5)) [some (.fr t), some (.fr (.int n)), some w, x, y, some (.fr (.int (pre.length : Nat))), z, u] = .ok (.fr v) [some (.fr t), some (.fr (.int n)), some w, x, y, some (.fr (.int (pre.length : Nat))), z, u] := fun {x y z u} => e_bin (o := .fr t) (o2 := .fr (.int (pre.length : Nat))) (e_var rfl) (e_var rfl) (ix_seq ht hx)
    have tn : DF.tNot (tE dTru (eCallJ 2 (runDef 0 (d__law_good_pair h)) [] (aConsD (eBin dIx (eVar 0) (eVar 5)) (aConsD (eVar 1) aNilJ)))) [some (.fr t), some (.fr (.int n)), some w, some (foundO (acc.map norm)), some (foundO acc), some (.fr (.int (pre.length : Nat))), q, r] = .ok (!(pr n v).isSome) [some (.fr t), some (.fr (.int n)), some w, some (foundO (acc.map norm)), some (foundO acc), some (.fr (.int (pre.length : Nat))), q, r] :=
      t_not (t_e (c_gpair h hv ix (e_var rfl)) rfl)
    have rs : ∀ {s : S}, s[5]? = some (some (.fr (.int (pre.length : Nat)))) → (sRet (eCB oLst (aCons (eC (.str "pair")) (aCons (eVar 5) aNil)))) s = .ok (.rt (dueO (.bad 3 (pre.length : Nat)))) s := fun {s} hs =>
      s_ret (e_cb (ds := [.str "pair", .int (pre.length : Nat)]) (a_cons (o := .fr (.str "pair")) rfl (a_cons (o := .fr (.int (pre.length : Nat))) (e_var hs) a_nil)) rfl)
    cases hp : pr n v with
    | none =>
      rw [hp] at tn
      refine ⟨[some (.fr t), some (.fr (.int n)), some w, some (foundO (acc.map norm)), some (foundO acc), some (.fr (.int (pre.length : Nat))), q, r], p, q, r, (l_rt (t := tgN 5) (F := dpBody h) (d := .int (pre.length : Nat)) (s := [some (.fr t), some (.fr (.int n)), some w, some (foundO (acc.map norm)), some (foundO acc), p, q, r]) (s1 := [some (.fr t), some (.fr (.int n)), some w, some (foundO (acc.map norm)), some (foundO acc), some (.fr (.int (pre.length : Nat))), q, r]) rfl (q_rt tn (rs rfl))).trans (by unfold prs; rw [hp]; rfl), fun ps e => ?_⟩
      unfold prs at e; rw [hp] at e; cases e
    | some pq =>
      obtain ⟨a, b⟩ := pq
      rw [hp] at tn
      have hv2 := pr_some hv.1 hp
      have x0 : ∀ {x y z u : Option O}, (eBin dIx (eBin dIx (eVar 0) (eVar 5)) (eC (.int 0))) [some (.fr t), some (.fr (.int n)), some w, x, y, some (.fr (.int (pre.length : Nat))), z, u] = .ok (.fr (.int a)) [some (.fr t), some (.fr (.int n)), some w, x, y, some (.fr (.int (pre.length : Nat))), z, u] := fun {x y z u} => e_bin (o := .fr v) (o2 := .fr (.int 0)) ix rfl (by rcases hv2 with rfl | rfl <;> rfl)
      have x1 : ∀ {x y z u : Option O}, (eBin dIx (eBin dIx (eVar 0) (eVar 5)) (eC (.int 1))) [some (.fr t), some (.fr (.int n)), some w, x, y, some (.fr (.int (pre.length : Nat))), z, u] = .ok (.fr (.int b)) [some (.fr t), some (.fr (.int n)), some w, x, y, some (.fr (.int (pre.length : Nat))), z, u] := fun {x y z u} => e_bin (o := .fr v) (o2 := .fr (.int 1)) ix rfl (by rcases hv2 with rfl | rfl <;> rfl)
      have pre2 : ∀ {F : M Fl}, (sSeq (sAsg (tgN 6) (eBin dIx (eBin dIx (eVar 0) (eVar 5)) (eC (.int 0)))) (sSeq (sAsg (tgN 7) (eBin dIx (eBin dIx (eVar 0) (eVar 5)) (eC (.int 1)))) F)) [some (.fr t), some (.fr (.int n)), some w, some (foundO (acc.map norm)), some (foundO acc), some (.fr (.int (pre.length : Nat))), q, r] = F [some (.fr t), some (.fr (.int n)), some w, some (foundO (acc.map norm)), some (foundO acc), some (.fr (.int (pre.length : Nat))), some (.fr (.int a)), some (.fr (.int b))] := fun {F} => (s_seq (s_asg x0)).trans (s_seq (s_asg x1))
      have tupE : ∀ {s : S}, s[6]? = some (some (.fr (.int a))) → s[7]? = some (some (.fr (.int b))) → dpTup s = .ok (.fr (DF.pairD (norm (a, b)))) s := fun {s} h6 h7 => e_cb (ds := [.int (norm (a, b)).1, .int (norm (a, b)).2]) (a_cons (min2 (e_var h6) (e_var h7)) (a_cons (max2 (e_var h6) (e_var h7)) a_nil)) rfl
      have ts : dpIn [some (.fr t), some (.fr (.int n)), some w, some (foundO (acc.map norm)), some (foundO acc), some (.fr (.int (pre.length : Nat))), some (.fr (.int a)), some (.fr (.int b))] = .ok (hasP acc a b) [some (.fr t), some (.fr (.int n)), some w, some (foundO (acc.map norm)), some (foundO acc), some (.fr (.int (pre.length : Nat))), some (.fr (.int a)), some (.fr (.int b))] := by
        refine t_view (s1 := [none, none, none, some (.fr (fz (foundO (acc.map norm)))), none, none, some (.fr (.int a)), some (.fr (.int b))]) (t_e (o := .fr (.bl (hasP acc a b))) (e_bin (o := .fr (DF.pairD (norm (a, b)))) (o2 := .fr (fz (foundO (acc.map norm)))) (s1 := [none, none, none, some (.fr (fz (foundO (acc.map norm)))), none, none, some (.fr (.int a)), some (.fr (.int b))]) (tupE rfl rfl) (e_var rfl) ?_) rfl) rfl
        show dIn false (DF.pairD (norm (a, b))) (fz (foundO (acc.map norm))) = _
        unfold foundO
        rw [fz_rows, in_pairs, any_norm]
      cases hc : hasP acc a b with
      | true =>
        rw [hc] at ts
        refine ⟨[some (.fr t), some (.fr (.int n)), some w, some (foundO (acc.map norm)), some (foundO acc), some (.fr (.int (pre.length : Nat))), some (.fr (.int a)), some (.fr (.int b))], p, q, r, (l_rt (t := tgN 5) (F := dpBody h) (d := .int (pre.length : Nat)) (s := [some (.fr t), some (.fr (.int n)), some w, some (foundO (acc.map norm)), some (foundO acc), p, q, r]) (s1 := [some (.fr t), some (.fr (.int n)), some w, some (foundO (acc.map norm)), some (foundO acc), some (.fr (.int (pre.length : Nat))), q, r]) rfl ((q_no tn).trans (pre2.trans (q_rt ts (rs rfl))))).trans (by unfold prs; rw [hp]; simp only [hc]; rfl), fun ps e => ?_⟩
        unfold prs at e; rw [hp] at e; simp only [hc] at e; cases e
      | false =>
        rw [hc] at ts
        have e : prs n acc pre.length (v :: vs) = prs n (acc ++ [(a, b)]) (pre.length + 1) vs := by
          conv => lhs; unfold prs
          rw [hp]; simp only [hc]; rfl
        obtain ⟨s1, p2, q2, r2, e1, e2⟩ := for_dp h n w ht vs (pre ++ [v]) (acc ++ [(a, b)]) (some (.fr (.int (pre.length : Nat)))) (some (.fr (.int a))) (some (.fr (.int b))) (by rw [ha]; simp) (by simp only [List.length_append, List.length_cons, List.length_nil] at hl ⊢; omega) (fun x hx => hb x (List.mem_cons_of_mem _ hx))
        rw [List.length_append] at e1 e2
        rw [e]
        refine ⟨s1, p2, q2, r2, ?_, fun ps eq => e2 ps eq⟩
        refine (l_cons (t := tgN 5) (F := dpBody h) (d := .int (pre.length : Nat)) (ds := idx (pre.length + 1) vs) (s := [some (.fr t), some (.fr (.int n)), some w, some (foundO (acc.map norm)), some (foundO acc), p, q, r]) (s1 := [some (.fr t), some (.fr (.int n)), some w, some (foundO (acc.map norm)), some (foundO acc), some (.fr (.int (pre.length : Nat))), q, r]) (s2 := [some (.fr t), some (.fr (.int n)), some w, some (foundO ((acc ++ [(a, b)]).map norm)), some (foundO (acc ++ [(a, b)])), some (.fr (.int (pre.length : Nat))), some (.fr (.int a)), some (.fr (.int b))]) rfl ((q_no tn).trans (pre2.trans ((q_no ts).trans ?_)))).trans e1
        have ap1 : mAppend (foundO (acc.map norm)) [DF.pairD (norm (a, b))] = some (.fr .non, foundO ((acc ++ [(a, b)]).map norm)) := by
          unfold foundO
          rw [app_rows (by rw [List.length_map, List.length_map]; simp only [List.length_cons] at hl; omega), List.map_append, List.map_append]; rfl
        have ap2 : mAppend (foundO acc) [DF.pairD (a, b)] = some (.fr .non, foundO (acc ++ [(a, b)])) := by
          unfold foundO
          rw [app_rows (by rw [List.length_map]; simp only [List.length_cons] at hl; omega), List.map_append]; rfl
        refine (s_seq (s_expr (e_mut (o := foundO (acc.map norm)) rfl rfl (a_cons (o := .fr (DF.pairD (norm (a, b)))) (tupE rfl rfl) a_nil) rfl ap1))).trans ?_
        exact s_expr (e_mut (o := foundO acc) rfl rfl (a_cons (o := .fr (DF.pairD (a, b))) (e_cb (ds := [.int a, .int b]) (a_cons (o := .fr (.int a)) (e_var rfl) (a_cons (o := .fr (.int b)) (e_var rfl) a_nil)) rfl) a_nil) rfl ap2)
theorem intsD_pairs (p : Int × Int) (ps : List (Int × Int)) : intsD ((p :: ps).map DF.pairD) = none := rfl
theorem pairsD_map : ∀ ps : List (Int × Int), pairsD (ps.map DF.pairD) = some ps
  | [] => rfl
  | p :: ps => by
    have e : pairsD ((p :: ps).map DF.pairD) = (pairsD (ps.map DF.pairD)).map (p :: ·) := rfl
    rw [e, pairsD_map ps]; rfl
theorem sorted_pairs {ps : List (Int × Int)} (hl : ps.length < 1000) : oSorted [.lst (ps.map DF.pairD)] = some (nl ((srtP ps).map DF.pairD)) := by
  unfold oSorted
  simp only
  rw [show ofSeq (.lst (ps.map DF.pairD)) = some (ps.map DF.pairD) from rfl, Option.bind_some, if_pos (by rw [List.length_map]; omega)]
  cases ps with
  | nil => simp [intsD, srtI, srtP]
  | cons p ps => rw [intsD_pairs, pairsD_map]; rfl
end Q99
end

section
set_option maxRecDepth 100000
set_option maxHeartbeats 1000000
namespace Q99
open PySem PySem.Spec PyProof.Rows L2 DF Gk99
variable {K : PySem.W.Frag} {mg : Str → Option Value}
theorem prs_len {n : Int} : ∀ {vs : List D} {acc : List (Int × Int)} {k : Nat} {ps : List (Int × Int)}, prs n acc k vs = .inr ps → ps.length ≤ acc.length + vs.length
  | [], acc, k, ps, h => by cases h; exact Nat.le_refl _
  | v :: vs, acc, k, ps, h => by
    unfold prs at h
    split at h
    · cases h
    · split at h
      · cases h
      · have := prs_len h
        simp only [List.length_append, List.length_cons, List.length_nil] at this ⊢
        omega
def prN (way : Bool) : Nat ⊕ List (Int × Int) → Ans
  | .inl k => .bad 3 k
  | .inr ps => .told (.tup ((srtP (if way then ps else ps.map norm)).map DF.pairD))
theorem told_sorted {f : M O} {s s1 : S} {ps : List (Int × Int)} (hl : ps.length < 1000) (e : f s = .ok (.fr (.lst (ps.map DF.pairD))) s1) : (sRet (eCB oLst (aCons (eC (.str "told")) (aCons (eCB oTuple (aCons (eCB oSorted (aCons f aNil)) aNil)) aNil)))) s = .ok (.rt (dueO (.told (.tup ((srtP ps).map DF.pairD))))) s1 :=
  s_ret (e_cb (ds := [.str "told", .tup ((srtP ps).map DF.pairD)]) (a_cons (o := .fr (.str "told")) rfl (a_cons (o := .fr (.tup ((srtP ps).map DF.pairD))) (e_cb (ds := [.lst ((srtP ps).map DF.pairD)]) ((a_cons (o := nl ((srtP ps).map DF.pairD)) (e_cb (ds := [.lst (ps.map DF.pairD)]) (a_cons (o := .fr (.lst (ps.map DF.pairD))) e a_nil) (sorted_pairs hl)) a_nil).trans (by rw [fz_nl])) rfl) a_nil)) rfl)
theorem rd_found {s : S} {i : Nat} {ps : List (Int × Int)} (hs : s[i]? = some (some (foundO ps))) : eRd i s = .ok (.fr (.lst (ps.map DF.pairD))) (s.set i (some (.fr (.lst (ps.map DF.pairD))))) := by
  unfold eRd
  rw [hs]
  show (R.ok (O.fr (fz (foundO ps))) (s.set i (some (.fr (fz (foundO ps)))))) = _
  unfold foundO
  rw [fz_rows]
theorem r_due_pairs (h : Hy K mg) (n : Int) (way : Bool) {t : D} {vs : List D} (ht : t = .lst vs ∨ t = .tup vs) (hl : vs.length < 900) (hb : ∀ v ∈ vs, good v) : runDef 5 (d__law_due_pairs h) [some (.fr t), some (.fr (.int n)), some (.fr (.bl way))] = .ok (dueO (prN way (prs n [] 0 vs))) [none, none, none] := by
  obtain ⟨s1, p2, q2, r2, e1, e2⟩ := for_dp h n (.fr (.bl way)) ht vs [] [] none none none rfl (by simp only [List.length_nil]; omega) hb
  have t1 : DF.tNot (tE dTru (eCB (oIsi (XTn h)) (aCons (eVar 0) (aCons (eCB oTup (aCons (eC (.ty 3)) (aCons (eC (.ty 4)) aNil))) aNil)))) [some (.fr t), some (.fr (.int n)), some (.fr (.bl way)), none, none, none, none, none] = .ok false [some (.fr t), some (.fr (.int n)), some (.fr (.bl way)), none, none, none, none, none] := t_not (b := true) (t_e (isSeq h ht rfl) rfl)
  have pre : ∀ {F : M Fl}, sSeq (sSet 3 (eCB oLst aNil)) (sSeq (sSet 4 (eCB oLst aNil)) F) [some (.fr t), some (.fr (.int n)), some (.fr (.bl way)), none, none, none, none, none] = F [some (.fr t), some (.fr (.int n)), some (.fr (.bl way)), some (foundO []), some (foundO []), none, none, none] := fun {F} => (s_seq (s_set (o := nl []) (e_cb a_nil rfl))).trans (s_seq (s_set (o := nl []) (e_cb a_nil rfl)))
  have lp : sFor (iRng1D (aCons (eCB oLen (aCons (eVar 0) aNil)) aNil)) (tgN 5) (dpBody h) [some (.fr t), some (.fr (.int n)), some (.fr (.bl way)), some (foundO []), some (foundO []), none, none, none] = dpR s1 (prs n [] 0 vs) := (s_for (i_rng1 (j := vs.length) (a_cons (o := .fr (.int vs.length)) (len_at (i := 0) ht rfl) a_nil) ⟨by omega, by omega⟩)).trans (by rw [show ((vs.length : Int)).toNat = vs.length by omega, rng_idx]; exact e1)
  cases hf : prs n [] 0 vs with
  | inl k =>
    rw [hf] at lp
    refine (run_rt (n := 5) (os := [some (.fr t), some (.fr (.int n)), some (.fr (.bl way))]) (F := d__law_due_pairs h) (o := dueO (.bad 3 k)) (s1 := s1) ((q_no t1).trans (pre.trans (s_seq_rt lp)))).trans ?_
    rw [outs3]; rfl
  | inr ps =>
    rw [hf] at lp
    have el : ps.length < 1000 := by have := prs_len hf; simp only [List.length_nil] at this; omega
    have es := e2 ps hf
    subst es
    have tw : tE dTru (eVar 2) [some (.fr t), some (.fr (.int n)), some (.fr (.bl way)), some (foundO (ps.map norm)), some (foundO ps), p2, q2, r2] = .ok way [some (.fr t), some (.fr (.int n)), some (.fr (.bl way)), some (foundO (ps.map norm)), some (foundO ps), p2, q2, r2] := t_e (e_var rfl) rfl
    cases way with
    | true =>
      refine (run_rt (n := 5) (os := [some (.fr t), some (.fr (.int n)), some (.fr (.bl true))]) (F := d__law_due_pairs h) (o := dueO (prN true (.inr ps))) (s1 := [some (.fr t), some (.fr (.int n)), some (.fr (.bl true)), some (foundO (ps.map norm)), some (.fr (.lst (ps.map DF.pairD))), p2, q2, r2]) ((q_no t1).trans (pre.trans ((s_seq lp).trans (q_rt tw (told_sorted el (rd_found rfl))))))).trans ?_
      rw [outs3]
    | false =>
      refine (run_rt (n := 5) (os := [some (.fr t), some (.fr (.int n)), some (.fr (.bl false))]) (F := d__law_due_pairs h) (o := dueO (prN false (.inr ps))) (s1 := [some (.fr t), some (.fr (.int n)), some (.fr (.bl false)), some (.fr (.lst ((ps.map norm).map DF.pairD))), some (foundO ps), p2, q2, r2]) ((q_no t1).trans (pre.trans ((s_seq lp).trans ((q_no tw).trans (told_sorted (ps := ps.map norm) (by rw [List.length_map]; exact el) (rd_found rfl))))))).trans ?_
      rw [outs3]
theorem r_due_pairs_plain (h : Hy K mg) (n : Int) (way : Bool) {v : D} (hv : plainV v) : runDef 5 (d__law_due_pairs h) [some (.fr v), some (.fr (.int n)), some (.fr (.bl way))] = .ok (dueO (.bad 3 (-1))) [none, none, none] := by
  rcases hv with rfl | rfl | rfl | rfl | rfl <;> rfl
/-! ### arrows_of, ties_of, pair_of -/
theorem c_sp (h : Hy K mg) (n : Int) {t : D} {r : Nat ⊕ List (Int × Int)} (hr : runDef 4 (d_several_pairs h) [some (.fr (.int n)), some (.fr t)] = spA [none, none] r) {s : S} (h0 : s[0]? = some (some (.fr (.int n)))) (h1 : s[1]? = some (some (.fr t))) : eCallJ 2 (runDef 4 (d_several_pairs h)) [] (aConsD (eVar 0) (aConsD (eVar 1) aNilJ)) s = spA s r := by
  cases r with
  | inl k => exact e_call_er (np := 2) (den := runDef 4 (d_several_pairs h)) (dd := []) (os := [some (.fr (.int n)), some (.fr t)]) (os2 := [none, none]) (j_d (e_var h0) (j_d (e_var h1) j_nil)) rfl rfl hr
  | inr ps => exact e_call (np := 2) (den := runDef 4 (d_several_pairs h)) (dd := []) (os := [some (.fr (.int n)), some (.fr t)]) (os2 := [none, none]) (j_d (e_var h0) (j_d (e_var h1) j_nil)) rfl rfl hr
theorem e_sorted {f : M O} {s s1 : S} {ps : List (Int × Int)} (hl : ps.length < 1000) {o : O} (e : f s = .ok o s1) (ho : fz o = .lst (ps.map DF.pairD)) : eCB oTuple (aCons (eCB oSorted (aCons f aNil)) aNil) s = .ok (.fr (.tup ((srtP ps).map DF.pairD))) s1 :=
  e_cb (ds := [.lst ((srtP ps).map DF.pairD)]) ((a_cons (o := nl ((srtP ps).map DF.pairD)) (e_cb (ds := [.lst (ps.map DF.pairD)]) ((a_cons e a_nil).trans (by rw [ho])) (sorted_pairs hl)) a_nil).trans (by rw [fz_nl])) rfl
theorem er_cb {op : List D → Option O} {g : M (List D)} {s s1 : S} {x : Exn} (e : g s = .er x s1) : eCB op g s = .er x s1 := by unfold eCB bnd; rw [e]
theorem er_a {f : M O} {g : M (List D)} {s s1 : S} {x : Exn} (e : f s = .er x s1) : aCons f g s = .er x s1 := by unfold aCons bnd; rw [e]
theorem er_ret {f : M O} {s s1 : S} {x : Exn} (e : f s = .er x s1) : sRet f s = .er x s1 := by unfold sRet bnd; rw [e]
theorem er_asg {t : Tg} {f : M O} {s s1 : S} {x : Exn} (e : f s = .er x s1) : sAsg t f s = .er x s1 := by unfold sAsg bnd; rw [e]
theorem fz_found (ps : List (Int × Int)) : fz (foundO ps) = .lst (ps.map DF.pairD) := by unfold foundO; rw [fz_rows]
theorem r_arrows (h : Hy K mg) (n : Int) {t : D} {r : Nat ⊕ List (Int × Int)} (hl : ∀ ps, r = .inr ps → ps.length < 1000) (hr : runDef 4 (d_several_pairs h) [some (.fr (.int n)), some (.fr t)] = spA [none, none] r) : runDef 0 (d_arrows_of h) [some (.fr (.int n)), some (.fr t)] = ansR [none, none] (prN true r) := by
  have c := c_sp h n hr (s := [some (.fr (.int n)), some (.fr t)]) rfl rfl
  cases r with
  | inl k => exact run_er (n := 0) (os := [some (.fr (.int n)), some (.fr t)]) (F := d_arrows_of h) (s1 := [some (.fr (.int n)), some (.fr t)]) (er_ret (er_cb (er_a (er_cb (er_a c)))))
  | inr ps => exact run_rt (n := 0) (os := [some (.fr (.int n)), some (.fr t)]) (F := d_arrows_of h) (s1 := [some (.fr (.int n)), some (.fr t)]) (s_ret (e_sorted (hl ps rfl) c (fz_found ps)))
theorem lc_norm {a b c : Option O} : ∀ (ps acc : List (Int × Int)), acc.length + ps.length ≤ 1000 → lpLc (tgT [tgN 3, tgN 4]) (DF.ret true) (eIf (tE blD (eBin dLt (eVar 3) (eVar 4))) (eCB oTup (aCons (eVar 3) (aCons (eVar 4) aNil))) (eCB oTup (aCons (eVar 4) (aCons (eVar 3) aNil)))) [3, 4] (ps.map DF.pairD) ((acc.map DF.pairD).map .fr) [a, b, c, none, none] = .ok (foundO (acc ++ ps.map norm)) [a, b, c, none, none]
  | [], acc, _ => by rw [List.map_nil, List.map_nil, List.append_nil]; rfl
  | p :: ps, acc, hl => by
    have e1 : (eIf (tE blD (eBin dLt (eVar 3) (eVar 4))) (eCB oTup (aCons (eVar 3) (aCons (eVar 4) aNil))) (eCB oTup (aCons (eVar 4) (aCons (eVar 3) aNil)))) [a, b, c, some (.fr (.int p.1)), some (.fr (.int p.2))] = .ok (.fr (DF.pairD (norm p))) [a, b, c, some (.fr (.int p.1)), some (.fr (.int p.2))] := by
      refine (e_if (b := decide (p.1 < p.2)) (s1 := [a, b, c, some (.fr (.int p.1)), some (.fr (.int p.2))]) (t_e (e_bin (o := .fr (.int p.1)) (o2 := .fr (.int p.2)) (e_var rfl) (e_var rfl) rfl) rfl)).trans ?_
      by_cases hlt : p.1 < p.2
      · rw [if_pos (decide_eq_true hlt)]
        have : norm p = (p.1, p.2) := by unfold norm; rw [if_neg (by omega), if_pos (by omega)]
        rw [this]
        exact e_cb (ds := [.int p.1, .int p.2]) (a_cons (o := .fr (.int p.1)) (e_var rfl) (a_cons (o := .fr (.int p.2)) (e_var rfl) a_nil)) rfl
      · rw [if_neg (by simp only [decide_eq_true_eq]; exact hlt)]
        have : norm p = (p.2, p.1) := by
          unfold norm
          rw [if_neg (by omega : ¬ p.2 > p.1)]
          split
          · rfl
          · rw [Prod.mk.injEq]; exact ⟨by omega, rfl⟩
        rw [this]
        exact e_cb (ds := [.int p.2, .int p.1]) (a_cons (o := .fr (.int p.2)) (e_var rfl) (a_cons (o := .fr (.int p.1)) (e_var rfl) a_nil)) rfl
    have ih := lc_norm (a := a) (b := b) (c := c) ps (acc ++ [norm p]) (by simp only [List.length_append, List.length_cons, List.length_nil] at hl ⊢; omega)
    rw [List.map_append, List.map_append, List.append_assoc] at ih
    refine (c_step (d := DF.pairD p) (o := .fr (DF.pairD (norm p))) rfl rfl e1 ⟨rfl, by rw [List.length_map, List.length_map]; simp only [List.length_cons] at hl; omega⟩).trans ih
theorem r_ties (h : Hy K mg) (n : Int) {t : D} {r : Nat ⊕ List (Int × Int)} (hl : ∀ ps, r = .inr ps → ps.length < 1000) (hr : runDef 4 (d_several_pairs h) [some (.fr (.int n)), some (.fr t)] = spA [none, none] r) : runDef 3 (d_ties_of h) [some (.fr (.int n)), some (.fr t)] = ansR [none, none] (prN false r) := by
  have c := c_sp h n hr (s := [some (.fr (.int n)), some (.fr t), none, none, none]) rfl rfl
  cases r with
  | inl k =>
    refine (run_er (n := 3) (os := [some (.fr (.int n)), some (.fr t)]) (F := d_ties_of h) (x := exn1 3 k) (s1 := [some (.fr (.int n)), some (.fr t), none, none, none]) (s_seq_er (er_asg c))).trans ?_
    rw [outs2]; rfl
  | inr ps =>
    have st := s_asg (i := 2) c
    rw [fz_found] at st
    have lc : (eLc (iSeqD (eVar 2)) (tgT [(tgN 3), (tgN 4)]) (DF.ret true) (eIf (tE blD (eBin dLt (eVar 3) (eVar 4))) (eCB oTup (aCons (eVar 3) (aCons (eVar 4) aNil))) (eCB oTup (aCons (eVar 4) (aCons (eVar 3) aNil)))) [3, 4]) [some (.fr (.int n)), some (.fr t), some (.fr (.lst (ps.map DF.pairD))), none, none] = .ok (foundO (ps.map norm)) [some (.fr (.int n)), some (.fr t), some (.fr (.lst (ps.map DF.pairD))), none, none] :=
      (e_lc (i_seq (o := .fr (.lst (ps.map DF.pairD))) (e_var rfl) rfl)).trans (lc_norm ps [] (by have := hl ps rfl; simp only [List.length_nil]; omega))
    refine (run_rt (n := 3) (os := [some (.fr (.int n)), some (.fr t)]) (F := d_ties_of h) (o := .fr (.tup ((srtP (ps.map norm)).map DF.pairD))) (s1 := [some (.fr (.int n)), some (.fr t), some (.fr (.lst (ps.map DF.pairD))), none, none]) ((s_seq st).trans (s_ret (e_sorted (by rw [List.length_map]; exact hl ps rfl) lc (fz_found _))))).trans ?_
    rw [outs2]; rfl
def p1N : Option (Int × Int) → Ans
  | none => .bad 3 0
  | some p => .told (DF.pairD p)
theorem r_pair_of (h : Hy K mg) (n : Int) {v : D} (hv : good v) : runDef 0 (d_pair_of h) [some (.fr (.int n)), some (.fr v)] = ansR [none, none] (p1N (pr n v)) := by
  have tn : DF.tNot (tE dTru (eCallJ 2 (runDef 0 (d_is_pair h)) [] (aConsD (eVar 0) (aConsD (eVar 1) aNilJ)))) [some (.fr (.int n)), some (.fr v)] = .ok (!(pr n v).isSome) [some (.fr (.int n)), some (.fr v)] := t_not (t_e (c_pair h hv (e_var rfl) (e_var rfl)) rfl)
  cases hp : pr n v with
  | none =>
    rw [hp] at tn
    exact run_er (n := 0) (os := [some (.fr (.int n)), some (.fr v)]) (F := d_pair_of h) (x := exn1 3 0) (s1 := [some (.fr (.int n)), some (.fr v)]) (s_seq_er ((s_if tn).trans rfl))
  | some p =>
    rw [hp] at tn
    have ht := pr_some hv.1 hp
    exact run_rt (n := 0) (os := [some (.fr (.int n)), some (.fr v)]) (F := d_pair_of h) (s1 := [some (.fr (.int n)), some (.fr v)]) ((q_no tn).trans (s_ret (e_cb (ds := [.int p.1, .int p.2]) (a_cons (o := .fr (.int p.1)) (ix0 ht rfl) (a_cons (o := .fr (.int p.2)) (ix1 ht rfl) a_nil)) rfl)))
end Q99
end

section
set_option maxRecDepth 100000
set_option maxHeartbeats 1000000
namespace Q99
open PySem PySem.Spec PyProof.Rows L2 DF Gk99
variable {K : PySem.W.Frag} {mg : Str → Option Value}
abbrev askTold (f : M O) : M Fl := (sAsg (tgN 3) (eCB oLst (aCons (eC (.str "told")) (aCons f aNil))))
abbrev askBody (h : Hy K mg) : M Fl := (sIf (tE blD (eBin (dEq false) (eVar 0) (eC (.int 0)))) (askTold (eCallJ 3 (runDef 1 (d_lot_of h)) [(.bl false)] (aConsD (eVar 1) (aConsD (eVar 2) aNilJ)))) (sIf (tE blD (eBin (dEq false) (eVar 0) (eC (.int 1)))) (askTold (eCallJ (2 + 1) (runDef 1 (d_lot_of h)) [] (aAppK 2 (aConsD (eVar 1) (aConsD (eVar 2) aNilJ)) (aCons (eC (.bl true)) aNil)))) (sIf (tE blD (eBin (dEq false) (eVar 0) (eC (.int 2)))) (askTold (eCallJ 2 (runDef 1 (d_row_of h)) [] (aConsD (eVar 1) (aConsD (eVar 2) aNilJ)))) (sIf (tE blD (eBin (dEq false) (eVar 0) (eC (.int 3)))) (askTold (eCallJ 2 (runDef 3 (d_ties_of h)) [] (aConsD (eVar 1) (aConsD (eVar 2) aNilJ)))) (sIf (tE blD (eBin (dEq false) (eVar 0) (eC (.int 4)))) (askTold (eCallJ 2 (runDef 0 (d_arrows_of h)) [] (aConsD (eVar 1) (aConsD (eVar 2) aNilJ)))) (askTold (eCallJ 2 (runDef 0 (d_pair_of h)) [] (aConsD (eVar 1) (aConsD (eVar 2) aNilJ)))))))))
abbrev askHd (h : Hy K mg) : List Hd := [⟨exT 4, 4, fun x => (sAsg (tgN 3) (eCB oLst (aCons (eC (.str "lot")) (aCons (eHeld 4 (xnF (XTn h) 1 x)) (aCons (eHeld 4 (xnI (XTn h) 0 x)) aNil)))))⟩, ⟨exT 5, 4, fun x => (sAsg (tgN 3) (eCB oLst (aCons (eC (.str "row")) (aCons (eHeld 4 (xnF (XTn h) 1 x)) (aCons (eHeld 4 (xnI (XTn h) 0 x)) aNil)))))⟩, ⟨exT 3, 4, fun x => (sAsg (tgN 3) (eCB oLst (aCons (eC (.str "pair")) (aCons (eHeld 4 (xnF (XTn h) 1 x)) (aCons (eHeld 4 (xnI (XTn h) 0 x)) aNil)))))⟩]
theorem ask_split (h : Hy K mg) : d__law_asked h = sSeq (sAsg (tgN 3) (eC .non)) (sSeq (sTry (askBody h) (askHd h)) (sRet (eVar 3))) := rfl
def okA : Ans → Prop
  | .told _ => True
  | .bad c _ => c = 3 ∨ c = 4 ∨ c = 5
theorem ask_hd (h : Hy K mg) {w n v : D} {c : Nat} {i : Int} (hc : c = 3 ∨ c = 4 ∨ c = 5) : runH (askHd h) (exn1 c i) [some (.fr w), some (.fr n), some (.fr v), some (.fr .non), none] = .ok .nx [some (.fr w), some (.fr n), some (.fr v), some (.fr (fz (gotO (.bad c i)))), none] := by
  rcases hc with rfl | rfl | rfl <;> rfl
theorem c_ans {np : Nat} {den : M O} {dd : List D} {gj : M (List J)} {js : List J} {s os os2 : S} {ans : Ans} (e1 : gj s = .ok js s) (hl : js.length + dd.length = np) (ht : takeA 0 js s = some (os, s)) (hd : den (os ++ dd.map fun d => some (.fr d)) = ansR os2 ans) (hp : putA s js os2 s = s) : eCallJ np den dd gj s = ansR s ans := by
  cases ans with
  | told d => exact (e_call e1 hl ht hd).trans (by rw [hp]; rfl)
  | bad c i => exact (e_call_er e1 hl ht hd).trans (by rw [hp]; rfl)
theorem ask_end (h : Hy K mg) {w n v : D} {ans : Ans} (ok : okA ans) {f : M O} (hb : askBody h [some (.fr w), some (.fr n), some (.fr v), some (.fr .non), none] = askTold f [some (.fr w), some (.fr n), some (.fr v), some (.fr .non), none]) (hf : f [some (.fr w), some (.fr n), some (.fr v), some (.fr .non), none] = ansR [some (.fr w), some (.fr n), some (.fr v), some (.fr .non), none] ans) :
    runDef 2 (d__law_asked h) [some (.fr w), some (.fr n), some (.fr v)] = .ok (.fr (fz (gotO ans))) [none, none, none] := by
  have tr : sTry (askBody h) (askHd h) [some (.fr w), some (.fr n), some (.fr v), some (.fr .non), none] = .ok .nx [some (.fr w), some (.fr n), some (.fr v), some (.fr (fz (gotO ans))), none] := by
    unfold sTry
    rw [hb]
    cases ans with
    | told d =>
      have e : askTold f [some (.fr w), some (.fr n), some (.fr v), some (.fr .non), none] = .ok .nx [some (.fr w), some (.fr n), some (.fr v), some (.fr (fz (gotO (.told d)))), none] :=
        s_asg (e_cb (ds := [.str "told", d]) (a_cons (o := .fr (.str "told")) rfl (a_cons (o := .fr d) hf a_nil)) rfl)
      rw [e]
    | bad c i =>
      have e : askTold f [some (.fr w), some (.fr n), some (.fr v), some (.fr .non), none] = .er (exn1 c i) [some (.fr w), some (.fr n), some (.fr v), some (.fr .non), none] := by
        refine er_asg (er_cb ?_)
        unfold aCons
        refine (b_ok (f := eC (.str "told")) rfl).trans ?_
        show bnd (bnd f _) _ _ = _
        unfold bnd
        rw [hf]; rfl
      rw [e]
      exact ask_hd h ok
  refine (run_rt (n := 2) (os := [some (.fr w), some (.fr n), some (.fr v)]) (F := d__law_asked h) (o := .fr (fz (gotO ans))) (s1 := [some (.fr w), some (.fr n), some (.fr v), some (.fr (fz (gotO ans))), none]) ((s_seq (s_asg (f := eC .non) (o := .fr .non) rfl)).trans ((s_seq tr).trans (s_ret (e_var rfl))))).trans ?_
  rw [outs3]
end Q99
end

section
set_option maxRecDepth 100000
set_option maxHeartbeats 1000000
namespace Q99
open PySem PySem.Spec PyProof.Rows L2 DF Gk99
variable {K : PySem.W.Frag} {mg : Str → Option Value}
theorem okA_lot (n : Int) (e : Bool) (vs : List D) : okA (lotN n e vs) := by
  unfold lotN
  split
  · exact .inr (.inl rfl)
  · split
    · exact .inr (.inl rfl)
    · trivial
theorem okA_row (n : Int) (vs : List D) : okA (rowN n vs) := by
  unfold rowN
  split
  · split
    · exact .inr (.inr rfl)
    · trivial
  · exact .inr (.inr rfl)
theorem okA_pr (w : Bool) (r : Nat ⊕ List (Int × Int)) : okA (prN w r) := by
  cases r with
  | inl k => exact .inl rfl
  | inr ps => trivial
theorem okA_p1 (r : Option (Int × Int)) : okA (p1N r) := by
  cases r with
  | none => exact .inl rfl
  | some ps => trivial
theorem r_lotN (h : Hy K mg) (n : Int) (e : Bool) {t : D} {vs : List D} (ht : t = .lst vs ∨ t = .tup vs) (hl : vs.length < 1000) (hb : ∀ v ∈ vs, basic v = true) : runDef 1 (d_lot_of h) [some (.fr (.int n)), some (.fr t), some (.fr (.bl e))] = ansR [none, none, none] (lotN n e vs) := (r_lot h n e ht hl hb).trans (lotA_eq n e vs)
theorem r_rowN (h : Hy K mg) (n : Int) {t : D} {vs : List D} (ht : t = .lst vs ∨ t = .tup vs) (hl : vs.length < 1000) (hb : ∀ v ∈ vs, basic v = true) : runDef 1 (d_row_of h) [some (.fr (.int n)), some (.fr t)] = ansR [none, none] (rowN n vs) := (r_row h n ht hl hb).trans (rowA_eq n vs)
section
variable (h : Hy K mg) {n : Int} {v : D} {ans : Ans} (ok : okA ans)
theorem ask0 (ok : okA ans) (e : runDef 1 (d_lot_of h) [some (.fr (.int n)), some (.fr v), some (.fr (.bl false))] = ansR [none, none, none] ans) : runDef 2 (d__law_asked h) [some (.fr (.int 0)), some (.fr (.int n)), some (.fr v)] = .ok (.fr (fz (gotO ans))) [none, none, none] :=
  ask_end h ok (f := eCallJ 3 (runDef 1 (d_lot_of h)) [(.bl false)] (aConsD (eVar 1) (aConsD (eVar 2) aNilJ))) rfl (c_ans (js := [Sum.inl (.int n), Sum.inl v]) (os := [some (.fr (.int n)), some (.fr v)]) (os2 := [none, none, none]) rfl rfl rfl e rfl)
theorem ask1 (ok : okA ans) (e : runDef 1 (d_lot_of h) [some (.fr (.int n)), some (.fr v), some (.fr (.bl true))] = ansR [none, none, none] ans) : runDef 2 (d__law_asked h) [some (.fr (.int 1)), some (.fr (.int n)), some (.fr v)] = .ok (.fr (fz (gotO ans))) [none, none, none] :=
  ask_end h ok (f := eCallJ (2 + 1) (runDef 1 (d_lot_of h)) [] (aAppK 2 (aConsD (eVar 1) (aConsD (eVar 2) aNilJ)) (aCons (eC (.bl true)) aNil))) rfl (c_ans (js := [Sum.inl (.int n), Sum.inl v, Sum.inl (.bl true)]) (os := [some (.fr (.int n)), some (.fr v), some (.fr (.bl true))]) (os2 := [none, none, none]) rfl rfl rfl e rfl)
theorem ask2 (ok : okA ans) (e : runDef 1 (d_row_of h) [some (.fr (.int n)), some (.fr v)] = ansR [none, none] ans) : runDef 2 (d__law_asked h) [some (.fr (.int 2)), some (.fr (.int n)), some (.fr v)] = .ok (.fr (fz (gotO ans))) [none, none, none] :=
  ask_end h ok (f := eCallJ 2 (runDef 1 (d_row_of h)) [] (aConsD (eVar 1) (aConsD (eVar 2) aNilJ))) rfl (c_ans (js := [Sum.inl (.int n), Sum.inl v]) (os := [some (.fr (.int n)), some (.fr v)]) (os2 := [none, none]) rfl rfl rfl e rfl)
theorem ask3 (ok : okA ans) (e : runDef 3 (d_ties_of h) [some (.fr (.int n)), some (.fr v)] = ansR [none, none] ans) : runDef 2 (d__law_asked h) [some (.fr (.int 3)), some (.fr (.int n)), some (.fr v)] = .ok (.fr (fz (gotO ans))) [none, none, none] :=
  ask_end h ok (f := eCallJ 2 (runDef 3 (d_ties_of h)) [] (aConsD (eVar 1) (aConsD (eVar 2) aNilJ))) rfl (c_ans (js := [Sum.inl (.int n), Sum.inl v]) (os := [some (.fr (.int n)), some (.fr v)]) (os2 := [none, none]) rfl rfl rfl e rfl)
theorem ask4 (ok : okA ans) (e : runDef 0 (d_arrows_of h) [some (.fr (.int n)), some (.fr v)] = ansR [none, none] ans) : runDef 2 (d__law_asked h) [some (.fr (.int 4)), some (.fr (.int n)), some (.fr v)] = .ok (.fr (fz (gotO ans))) [none, none, none] :=
  ask_end h ok (f := eCallJ 2 (runDef 0 (d_arrows_of h)) [] (aConsD (eVar 1) (aConsD (eVar 2) aNilJ))) rfl (c_ans (js := [Sum.inl (.int n), Sum.inl v]) (os := [some (.fr (.int n)), some (.fr v)]) (os2 := [none, none]) rfl rfl rfl e rfl)
theorem ask5 (ok : okA ans) (e : runDef 0 (d_pair_of h) [some (.fr (.int n)), some (.fr v)] = ansR [none, none] ans) : runDef 2 (d__law_asked h) [some (.fr (.int 5)), some (.fr (.int n)), some (.fr v)] = .ok (.fr (fz (gotO ans))) [none, none, none] :=
  ask_end h ok (f := eCallJ 2 (runDef 0 (d_pair_of h)) [] (aConsD (eVar 1) (aConsD (eVar 2) aNilJ))) rfl (c_ans (js := [Sum.inl (.int n), Sum.inl v]) (os := [some (.fr (.int n)), some (.fr v)]) (os2 := [none, none]) rfl rfl rfl e rfl)
end
/-! ### the answer to each question -/
def ansN (w n : Int) (v : D) : Ans := match ofSeq v with
  | some vs => if w = 0 then lotN n false vs else if w = 1 then lotN n true vs else if w = 2 then rowN n vs else if w = 3 then prN false (prs n [] 0 vs) else prN true (prs n [] 0 vs)
  | none => if w = 2 then .bad 5 (-1) else if w ≤ 1 then .bad 4 (-1) else .bad 3 (-1)
/-- a value of several -/
def sevG (v : D) : Prop := plainV v ∨ ∃ vs : List D, vs.length ≤ 40 ∧ (∀ x ∈ vs, good x) ∧ (v = .lst vs ∨ v = .tup vs)
theorem ent.good {v : D} (h : ent v) : good v := by
  rcases h with ⟨i, rfl, _⟩ | rfl | rfl | rfl | rfl | rfl | rfl
  · exact ⟨rfl, fun ds e => nomatch e⟩
  · exact ⟨rfl, fun ds e => nomatch e⟩
  · exact ⟨rfl, fun ds e => nomatch e⟩
  · exact ⟨rfl, fun ds e => nomatch e⟩
  · exact ⟨rfl, fun ds e => nomatch e⟩
  · exact ⟨rfl, fun ds e => nomatch e⟩
  · refine ⟨rfl, fun ds e => ?_⟩
    cases e
    intro d hd
    rw [List.mem_singleton.mp hd]; rfl
theorem two.good {v : D} (h : two v) : good v := by
  rcases h with ⟨a, b, ha, hb, h⟩ | ⟨vs, _, hvs, rfl⟩ | rfl | rfl | rfl
  · have q : ∀ d ∈ [a, b], basic d = true := fun d hd => by
      rcases List.mem_cons.mp hd with rfl | hd
      · exact ha.basic
      · rw [List.mem_singleton.mp hd]; exact hb.basic
    rcases h with rfl | rfl
    · exact ⟨rfl, fun ds e => by cases e; exact q⟩
    · exact ⟨rfl, fun ds e => by cases e; exact q⟩
  · exact ⟨rfl, fun ds e => by cases e; exact fun d hd => (hvs d hd).basic⟩
  · exact ⟨rfl, fun ds e => nomatch e⟩
  · exact ⟨rfl, fun ds e => nomatch e⟩
  · exact ⟨rfl, fun ds e => nomatch e⟩
theorem itm.good {v : D} (h : itm v) : good v := h.elim ent.good two.good
theorem sev.g {v : D} (h : sev v) : sevG v := by
  rcases h with rfl | rfl | rfl | rfl | ⟨vs, h1, h2, h3⟩
  · exact .inl (.inl rfl)
  · exact .inl (.inr (.inl rfl))
  · exact .inl (.inr (.inr (.inr (.inl rfl))))
  · exact .inl (.inr (.inr (.inr (.inr rfl))))
  · exact .inr ⟨vs, h1, fun x hx => (h2 x hx).good, h3⟩
theorem ofSeq_plain {v : D} (h : plainV v) : ofSeq v = none := by rcases h with rfl | rfl | rfl | rfl | rfl <;> rfl
theorem r_asked (h : Hy K mg) (w n : Int) (hw : w = 0 ∨ w = 1 ∨ w = 2 ∨ w = 3 ∨ w = 4) {v : D} (hv : sevG v) : runDef 2 (d__law_asked h) [some (.fr (.int w)), some (.fr (.int n)), some (.fr v)] = .ok (.fr (fz (gotO (ansN w n v)))) [none, none, none] := by
  rcases hv with hv | ⟨vs, hl, hb, ht⟩
  · have e := ofSeq_plain hv
    unfold ansN
    rw [e]
    rcases hw with rfl | rfl | rfl | rfl | rfl
    · exact ask0 h (ans := .bad 4 (-1)) (.inr (.inl rfl)) (r_lot_plain h n false hv)
    · exact ask1 h (ans := .bad 4 (-1)) (.inr (.inl rfl)) (r_lot_plain h n true hv)
    · exact ask2 h (ans := .bad 5 (-1)) (.inr (.inr rfl)) (r_row_plain h n hv)
    · exact ask3 h (ans := .bad 3 (-1)) (.inl rfl) (by rcases hv with rfl | rfl | rfl | rfl | rfl <;> rfl)
    · exact ask4 h (ans := .bad 3 (-1)) (.inl rfl) (by rcases hv with rfl | rfl | rfl | rfl | rfl <;> rfl)
  · have e := ofSeq_of ht
    have hb1 : ∀ x ∈ vs, basic x = true := fun x hx => (hb x hx).1
    have len : ∀ ps, prs n [] 0 vs = .inr ps → ps.length < 1000 := fun ps q => by have := prs_len q; simp only [List.length_nil] at this; omega
    have sp := r_several_pairs h n ht (by omega) hb
    unfold ansN
    rw [e]
    rcases hw with rfl | rfl | rfl | rfl | rfl
    · exact ask0 h (okA_lot n false vs) (r_lotN h n false ht (by omega) hb1)
    · exact ask1 h (okA_lot n true vs) (r_lotN h n true ht (by omega) hb1)
    · exact ask2 h (okA_row n vs) (r_rowN h n ht (by omega) hb1)
    · exact ask3 h (okA_pr false _) (r_ties h n len sp)
    · exact ask4 h (okA_pr true _) (r_arrows h n len sp)
theorem r_asked5 (h : Hy K mg) (n : Int) {v : D} (hv : good v) : runDef 2 (d__law_asked h) [some (.fr (.int 5)), some (.fr (.int n)), some (.fr v)] = .ok (.fr (fz (gotO (p1N (pr n v))))) [none, none, none] :=
  ask5 h (okA_p1 _) (r_pair_of h n hv)
end Q99
end

section
set_option maxRecDepth 100000
set_option maxHeartbeats 1000000
namespace Q99
open PySem PySem.Spec PyProof.Rows L2 DF Gk99
variable {K : PySem.W.Frag} {mg : Str → Option Value}
abbrev tupI (is : List Int) : D := .tup (is.map .int)
def niceA (deep : Bool) : Ans → Prop
  | .told d => ∃ ls : List (List Int), ls.length < 1000 ∧ (∀ is ∈ ls, is.length < 1000) ∧ (if deep then d = .tup (ls.map tupI) else ∃ is, ls = [is] ∧ d = tupI is)
  | .bad c _ => c = 3 ∨ c = 4 ∨ c = 5
theorem deqL_ints (is : List Int) : deqL (is.map .int) (is.map .int) = true := by
  induction is with
  | nil => rfl
  | cons i is ih =>
    show (deq (.int i) (.int i) && deqL (is.map .int) (is.map .int)) = true
    rw [ih, deq_int]; simp
theorem deqL_rows (ls : List (List Int)) : deqL (ls.map tupI) (ls.map tupI) = true := by
  induction ls with
  | nil => rfl
  | cons i is ih =>
    show (deqL (i.map .int) (i.map .int) && deqL (is.map tupI) (is.map tupI)) = true
    rw [ih, deqL_ints]; rfl
theorem okEL_i (n : Nat) (is : List Int) : okEL n (is.map D.int) = true := by
  induction is with
  | nil => cases n <;> rfl
  | cons i is ih =>
    have : okEL n ((i :: is).map D.int) = (okE n (.int i) && okEL n (is.map D.int)) := by cases n <;> rfl
    rw [this, ih]
    cases n <;> rfl
theorem okEL_rows (n : Nat) (ls : List (List Int)) : okEL (n + 1) (ls.map tupI) = true := by
  induction ls with
  | nil => rfl
  | cons i is ih =>
    show (okEL n (i.map D.int) && okEL (n + 1) (is.map tupI)) = true
    rw [ih, okEL_i]; rfl
def trues (m : Nat) : O := .lst 1 ((List.replicate m (D.bl true)).map .fr)
theorem trues_all (m : Nat) : oAll [fz (trues m)] = some (.fr (.bl true)) := by
  have e : fz (trues m) = .lst (List.replicate m (D.bl true)) := by unfold trues fz; rw [fzL_fr]
  rw [e]
  have b : ∀ m, blsOf (List.replicate m (D.bl true)) = some (List.replicate m true) := by
    intro m
    induction m with
    | zero => rfl
    | succ m ih => rw [List.replicate_succ, List.replicate_succ]; simp only [blsOf, ih]; rfl
  unfold oAll
  simp only
  rw [b]
  simp
theorem lc_true {i : Nat} {te : M O} {vs : List Nat} {s : S} : ∀ (ds : List D) (m : Nat), m + ds.length < 10000 → (∀ d ∈ ds, te (s.set i (some (.fr d))) = .ok (.fr (.bl true)) (s.set i (some (.fr d)))) → (∀ d : D, wipeS vs (s.set i (some (.fr d))) = s) →
    lpLc (tgN i) (DF.ret true) te vs ds ((List.replicate m (D.bl true)).map .fr) s = .ok (trues (m + ds.length)) s
  | [], m, _, _, _ => rfl
  | d :: ds, m, hl, ht, hw => by
    have ih := lc_true (i := i) (te := te) (vs := vs) (s := s) ds (m + 1) (by simp only [List.length_cons] at hl; omega) (fun x hx => ht x (List.mem_cons_of_mem _ hx)) hw
    have e := c_step (t := tgN i) (tt := DF.ret true) (te := te) (vs := vs) (d := d) (ds := ds) (s := s) (s1 := s.set i (some (.fr d))) (acc := (List.replicate m (D.bl true)).map .fr) rfl rfl (ht d List.mem_cons_self) ⟨rfl, by rw [List.length_map, List.length_replicate]; simp only [List.length_cons] at hl; omega⟩
    rw [hw d] at e
    refine e.trans ?_
    have r : (List.replicate m (D.bl true)).map O.fr ++ [O.fr (.bl true)] = (List.replicate (m + 1) (D.bl true)).map .fr := by
      rw [List.replicate_succ', List.map_append]; rfl
    rw [r, ih]
    simp only [List.length_cons]
    rw [show m + 1 + ds.length = m + (ds.length + 1) by omega]
theorem c_int (h : Hy K mg) {f : M O} {s s1 : S} {v : D} (hv : basic v = true) (hf : f s = .ok (.fr v) s1) : eCallJ 1 (runDef 0 (d__law_int h)) [] (aConsD f aNilJ) s = .ok (.fr (.bl (isInt v))) s1 :=
  e_call (np := 1) (den := runDef 0 (d__law_int h)) (dd := []) (os := [some (.fr v)]) (j_d hf j_nil) rfl rfl (r_law_int h v hv)
section
variable (h : Hy K mg) {g d dp r : D}
abbrev inner (h : Hy K mg) : M O := eCB oAll (aCons (eLc (iSeqD (eVar 4)) (tgN 5) (DF.ret true) (eCallJ 1 (runDef 0 (d__law_int h)) [] (aConsD (eVar 5) aNilJ)) [5]) aNil)
theorem inner_ok (is : List Int) (hl : is.length < 1000) : inner h [some (.fr g), some (.fr d), some (.fr dp), some (.fr r), some (.fr (tupI is)), none] = .ok (.fr (.bl true)) [some (.fr g), some (.fr d), some (.fr dp), some (.fr r), some (.fr (tupI is)), none] := by
  have lc := lc_true (i := 5) (te := eCallJ 1 (runDef 0 (d__law_int h)) [] (aConsD (eVar 5) aNilJ)) (vs := [5]) (s := [some (.fr g), some (.fr d), some (.fr dp), some (.fr r), some (.fr (tupI is)), none]) (is.map .int) 0 (by rw [List.length_map]; omega) (fun x hx => by
    obtain ⟨i, _, rfl⟩ := List.mem_map.mp hx
    exact c_int h (v := .int i) rfl (e_var rfl)) (fun _ => rfl)
  exact e_cb (a_cons (o := trues (0 + (is.map D.int).length)) ((e_lc (i_seq (o := .fr (tupI is)) (e_var rfl) rfl)).trans lc) a_nil) (trues_all _)
theorem outer_ok (ls : List (List Int)) (hl : ls.length < 1000) (hi : ∀ is ∈ ls, is.length < 1000) : eCB oAll (aCons (eLc (iSeqD (eVar 3)) (tgN 4) (DF.ret true) (inner h) [4]) aNil) [some (.fr g), some (.fr d), some (.fr dp), some (.fr (.lst (ls.map tupI))), none, none] = .ok (.fr (.bl true)) [some (.fr g), some (.fr d), some (.fr dp), some (.fr (.lst (ls.map tupI))), none, none] := by
  have lc := lc_true (i := 4) (te := inner h) (vs := [4]) (s := [some (.fr g), some (.fr d), some (.fr dp), some (.fr (.lst (ls.map tupI))), none, none]) (ls.map tupI) 0 (by rw [List.length_map]; omega) (fun x hx => by
    obtain ⟨is, hm, rfl⟩ := List.mem_map.mp hx
    exact inner_ok h is (hi is hm)) (fun _ => rfl)
  exact e_cb (a_cons (o := trues (0 + (ls.map tupI).length)) ((e_lc (i_seq (o := .fr (.lst (ls.map tupI))) (e_var rfl) rfl)).trans lc) a_nil) (trues_all _)
theorem isi_ok (ls : List (List Int)) (hl : ls.length < 1000) : eCB oAll (aCons (eLc (iSeqD (eVar 3)) (tgN 4) (DF.ret true) (eCB (oIsi (XTn h)) (aCons (eVar 4) (aCons (eC (.ty 4)) aNil))) [4]) aNil) [some (.fr g), some (.fr d), some (.fr dp), some (.fr (.lst (ls.map tupI))), none, none] = .ok (.fr (.bl true)) [some (.fr g), some (.fr d), some (.fr dp), some (.fr (.lst (ls.map tupI))), none, none] := by
  have lc := lc_true (i := 4) (te := (eCB (oIsi (XTn h)) (aCons (eVar 4) (aCons (eC (.ty 4)) aNil)))) (vs := [4]) (s := [some (.fr g), some (.fr d), some (.fr dp), some (.fr (.lst (ls.map tupI))), none, none]) (ls.map tupI) 0 (by rw [List.length_map]; omega) (fun x hx => by
    obtain ⟨is, hm, rfl⟩ := List.mem_map.mp hx
    exact e_cb (ds := [tupI is, .ty 4]) (a_cons (o := .fr (tupI is)) (e_var rfl) (a_cons (o := .fr (.ty 4)) rfl a_nil)) rfl) (fun _ => rfl)
  exact e_cb (a_cons (o := trues (0 + (ls.map tupI).length)) ((e_lc (i_seq (o := .fr (.lst (ls.map tupI))) (e_var rfl) rfl)).trans lc) a_nil) (trues_all _)
end
theorem dNe_same {x : D} (h1 : okE 16 x = true) (h2 : deq x x = true) : dEq true x x = some (.fr (.bl false)) := by
  rw [dEq_gen h1 h1, h2]; rfl
theorem same_head {x : Str} {d : D} {rest : List D} {dp : Bool} (hx : PyData.strOk x = true) (ok : okE 16 d = true) (rf : deq d d = true) :
    (DF.tOr (tE blD (eBin (dIs false) (eVar 0) (eC .non))) (DF.tOr (tE blD (eBin (dEq true) (eBin dIx (eVar 0) (eC (.int 0))) (eBin dIx (eVar 1) (eC (.int 0))))) (tE blD (eBin (dEq true) (eBin dIx (eVar 0) (eC (.int 1))) (eBin dIx (eVar 1) (eC (.int 1))))))) [some (.fr (.lst (.str x :: d :: rest))), some (.fr (.lst [.str x, d])), some (.fr (.bl dp)), none, none, none] = .ok false [some (.fr (.lst (.str x :: d :: rest))), some (.fr (.lst [.str x, d])), some (.fr (.bl dp)), none, none, none] := by
  have e0 : tE blD (eBin (dEq true) (eBin dIx (eVar 0) (eC (.int 0))) (eBin dIx (eVar 1) (eC (.int 0)))) [some (.fr (.lst (.str x :: d :: rest))), some (.fr (.lst [.str x, d])), some (.fr (.bl dp)), none, none, none] = .ok false [some (.fr (.lst (.str x :: d :: rest))), some (.fr (.lst [.str x, d])), some (.fr (.bl dp)), none, none, none] :=
    t_e (e_bin (o := .fr (.str x)) (o2 := .fr (.str x)) (e_bin (o := .fr (.lst (.str x :: d :: rest))) (o2 := .fr (.int 0)) (e_var rfl) rfl (by show (atI (.str x :: d :: rest) 0).map O.fr = _; rw [atI_ok (x := .str x) (by omega) rfl]; rfl)) (e_bin (o := .fr (.lst [.str x, d])) (o2 := .fr (.int 0)) (e_var rfl) rfl rfl) (dNe_same hx (by show (x == x) = true; simp))) rfl
  have e1 : tE blD (eBin (dEq true) (eBin dIx (eVar 0) (eC (.int 1))) (eBin dIx (eVar 1) (eC (.int 1)))) [some (.fr (.lst (.str x :: d :: rest))), some (.fr (.lst [.str x, d])), some (.fr (.bl dp)), none, none, none] = .ok false [some (.fr (.lst (.str x :: d :: rest))), some (.fr (.lst [.str x, d])), some (.fr (.bl dp)), none, none, none] :=
    t_e (e_bin (o := .fr d) (o2 := .fr d) (e_bin (o := .fr (.lst (.str x :: d :: rest))) (o2 := .fr (.int 1)) (e_var rfl) rfl (by show (atI (.str x :: d :: rest) 1).map O.fr = _; rw [atI_ok (x := d) (by omega) rfl]; rfl)) (e_bin (o := .fr (.lst [.str x, d])) (o2 := .fr (.int 1)) (e_var rfl) rfl rfl) (dNe_same ok rf)) rfl
  refine (t_or (b := false) rfl).trans ?_
  exact (t_or e0).trans e1
theorem same_bad (h : Hy K mg) {x : Str} {i : Int} {dp : Bool} (hx : PyData.strOk x = true) (hn : (x == "told") = false) : runDef 3 (d__law_same h) [some (.fr (.lst [.str x, .int i, .bl true])), some (.fr (.lst [.str x, .int i])), some (.fr (.bl dp))] = .ok (.fr (.bl true)) [none, none, none] := by
  have t1 := same_head (d := .int i) (rest := [.bl true]) (dp := dp) hx rfl (by rw [deq_int]; simp)
  have t2 : tE blD (eBin (dEq true) (eBin dIx (eVar 1) (eC (.int 0))) (eC (.str "told"))) [some (.fr (.lst [.str x, .int i, .bl true])), some (.fr (.lst [.str x, .int i])), some (.fr (.bl dp)), none, none, none] = .ok true [some (.fr (.lst [.str x, .int i, .bl true])), some (.fr (.lst [.str x, .int i])), some (.fr (.bl dp)), none, none, none] :=
    t_e (e_bin (o := .fr (.str x)) (o2 := .fr (.str "told")) (e_bin (o := .fr (.lst [.str x, .int i])) (o2 := .fr (.int 0)) (e_var rfl) rfl rfl) rfl (by
      show dEq true (.str x) (.str "told") = some (.fr (.bl true))
      rw [dEq_gen (show okE 16 (.str x) = true from hx) (show okE 16 (.str "told") = true from by decide +kernel)]
      show some (O.fr (.bl ((x == "told") != true))) = _
      rw [hn]; rfl)) rfl
  have c := c_int h (f := eBin dIx (eVar 0) (eC (.int 1))) (s := [some (.fr (.lst [.str x, .int i, .bl true])), some (.fr (.lst [.str x, .int i])), some (.fr (.bl dp)), none, none, none]) (v := .int i) rfl (e_bin (o := .fr (.lst [.str x, .int i, .bl true])) (o2 := .fr (.int 1)) (e_var rfl) rfl rfl)
  refine (run_rt (n := 3) (os := [some (.fr (.lst [.str x, .int i, .bl true])), some (.fr (.lst [.str x, .int i])), some (.fr (.bl dp))]) (F := d__law_same h) (o := .fr (.bl true)) (s1 := [some (.fr (.lst [.str x, .int i, .bl true])), some (.fr (.lst [.str x, .int i])), some (.fr (.bl dp)), none, none, none]) ((q_no t1).trans (q_rt t2 (s_ret ((e_and c).trans rfl))))).trans ?_
  rw [outs3]
theorem same_told (h : Hy K mg) {d : D} {dp : Bool} (ok : niceA dp (.told d)) : runDef 3 (d__law_same h) [some (.fr (.lst [.str "told", d])), some (.fr (.lst [.str "told", d])), some (.fr (.bl dp))] = .ok (.fr (.bl true)) [none, none, none] := by
  obtain ⟨ls, hl, hi, hd⟩ := ok
  have nice : okE 16 d = true ∧ deq d d = true ∧ ∃ ds, d = .tup ds := by
    cases dp with
    | true => rw [if_pos rfl] at hd; subst hd; exact ⟨okEL_rows 14 ls, deqL_rows ls, _, rfl⟩
    | false => rw [if_neg (by simp)] at hd; obtain ⟨is, _, rfl⟩ := hd; exact ⟨okEL_i 15 is, deqL_ints is, _, rfl⟩
  obtain ⟨n1, n2, ds, n3⟩ := nice
  have t1 := same_head (x := "told") (d := d) (rest := []) (dp := dp) (by decide +kernel) n1 n2
  have t2 : tE blD (eBin (dEq true) (eBin dIx (eVar 1) (eC (.int 0))) (eC (.str "told"))) [some (.fr (.lst [.str "told", d])), some (.fr (.lst [.str "told", d])), some (.fr (.bl dp)), none, none, none] = .ok false [some (.fr (.lst [.str "told", d])), some (.fr (.lst [.str "told", d])), some (.fr (.bl dp)), none, none, none] :=
    t_e (e_bin (o := .fr (.str "told")) (o2 := .fr (.str "told")) (e_bin (o := .fr (.lst [.str "told", d])) (o2 := .fr (.int 0)) (e_var rfl) rfl rfl) rfl (show dEq true (.str "told") (.str "told") = some (.fr (.bl false)) from dNe_same (by decide +kernel) (by decide +kernel))) rfl
  have g1 : ∀ {s : S}, s[0]? = some (some (.fr (.lst [.str "told", d]))) → eBin dIx (eVar 0) (eC (.int 1)) s = .ok (.fr d) s := fun {s} hs => e_bin (o := .fr (.lst [.str "told", d])) (o2 := .fr (.int 1)) (e_var hs) rfl rfl
  have pre : ∀ {F : M Fl}, sSeq (sAsg (tgN 3) (eCB oLst (aCons (eBin dIx (eVar 0) (eC (.int 1))) aNil))) (sSeq (sIf (tE dTru (eVar 2)) (sAsg (tgN 3) (eCB oList (aCons (eBin dIx (eVar 0) (eC (.int 1))) aNil))) sNx) F) [some (.fr (.lst [.str "told", d])), some (.fr (.lst [.str "told", d])), some (.fr (.bl dp)), none, none, none] = F [some (.fr (.lst [.str "told", d])), some (.fr (.lst [.str "told", d])), some (.fr (.bl dp)), some (.fr (.lst (ls.map tupI))), none, none] := by
    intro F
    have a1 : sAsg (tgN 3) (eCB oLst (aCons (eBin dIx (eVar 0) (eC (.int 1))) aNil)) [some (.fr (.lst [.str "told", d])), some (.fr (.lst [.str "told", d])), some (.fr (.bl dp)), none, none, none] = .ok .nx [some (.fr (.lst [.str "told", d])), some (.fr (.lst [.str "told", d])), some (.fr (.bl dp)), some (.fr (.lst [d])), none, none] := s_asg (i := 3) (o := nl [d]) (e_cb (ds := [d]) (a_cons (o := .fr d) (g1 rfl) a_nil) rfl)
    refine (s_seq a1).trans ?_
    cases dp with
    | true =>
      rw [if_pos rfl] at hd
      have a2 : sAsg (tgN 3) (eCB oList (aCons (eBin dIx (eVar 0) (eC (.int 1))) aNil)) [some (.fr (.lst [.str "told", d])), some (.fr (.lst [.str "told", d])), some (.fr (.bl true)), some (.fr (.lst [d])), none, none] = .ok .nx [some (.fr (.lst [.str "told", d])), some (.fr (.lst [.str "told", d])), some (.fr (.bl true)), some (.fr (.lst (ls.map tupI))), none, none] :=
        (s_asg (e_cb (ds := [d]) (a_cons (o := .fr d) (g1 rfl) a_nil) (by rw [hd]; rfl))).trans (by rw [fz_nl]; rfl)
      exact s_seq ((s_if (b := true) (t_e (o := .fr (.bl true)) (e_var rfl) rfl)).trans a2)
    | false =>
      rw [if_neg (by simp)] at hd
      obtain ⟨is, e1, e2⟩ := hd
      rw [e1, List.map_cons, List.map_nil, ← e2]
      exact s_seq ((s_if (b := false) (t_e (o := .fr (.bl false)) (e_var rfl) rfl)).trans rfl)
  have t3 : (DF.tOr (DF.tNot (tE dTru (eCB (oIsi (XTn h)) (aCons (eBin dIx (eVar 0) (eC (.int 1))) (aCons (eC (.ty 4)) aNil))))) (DF.tNot (tE dTru (eCB oAll (aCons (eLc (iSeqD (eVar 3)) (tgN 4) (DF.ret true) (eCB (oIsi (XTn h)) (aCons (eVar 4) (aCons (eC (.ty 4)) aNil))) [4]) aNil))))) [some (.fr (.lst [.str "told", d])), some (.fr (.lst [.str "told", d])), some (.fr (.bl dp)), some (.fr (.lst (ls.map tupI))), none, none] = .ok false [some (.fr (.lst [.str "told", d])), some (.fr (.lst [.str "told", d])), some (.fr (.bl dp)), some (.fr (.lst (ls.map tupI))), none, none] := by
    have b1 : eCB (oIsi (XTn h)) (aCons (eBin dIx (eVar 0) (eC (.int 1))) (aCons (eC (.ty 4)) aNil)) [some (.fr (.lst [.str "told", d])), some (.fr (.lst [.str "told", d])), some (.fr (.bl dp)), some (.fr (.lst (ls.map tupI))), none, none] = .ok (.fr (.bl true)) [some (.fr (.lst [.str "told", d])), some (.fr (.lst [.str "told", d])), some (.fr (.bl dp)), some (.fr (.lst (ls.map tupI))), none, none] :=
      e_cb (ds := [d, .ty 4]) (a_cons (o := .fr d) (g1 rfl) (a_cons (o := .fr (.ty 4)) rfl a_nil)) (by rw [n3]; rfl)
    refine (t_or (t_not (t_e b1 rfl))).trans ?_
    exact t_not (b := true) (t_e (isi_ok h ls hl) rfl)
  refine (run_rt (n := 3) (os := [some (.fr (.lst [.str "told", d])), some (.fr (.lst [.str "told", d])), some (.fr (.bl dp))]) (F := d__law_same h) (o := .fr (.bl true)) (s1 := [some (.fr (.lst [.str "told", d])), some (.fr (.lst [.str "told", d])), some (.fr (.bl dp)), some (.fr (.lst (ls.map tupI))), none, none]) ((q_no t1).trans ((q_no t2).trans (pre.trans ((q_no t3).trans (s_ret (outer_ok h ls hl hi))))))).trans ?_
  rw [outs3]
theorem r_same (h : Hy K mg) {dp : Bool} {ans : Ans} (ok : niceA dp ans) : runDef 3 (d__law_same h) [some (.fr (fz (gotO ans))), some (.fr (fz (dueO ans))), some (.fr (.bl dp))] = .ok (.fr (.bl true)) [none, none, none] := by
  cases ans with
  | told d => exact same_told h ok
  | bad c i =>
    rcases ok with rfl | rfl | rfl
    · exact same_bad h (x := "pair") (by decide +kernel) (by decide +kernel)
    · exact same_bad h (x := "lot") (by decide +kernel) (by decide +kernel)
    · exact same_bad h (x := "row") (by decide +kernel) (by decide +kernel)
end Q99
end

section
set_option maxRecDepth 100000
set_option maxHeartbeats 1000000
namespace Q99
open PySem PySem.Spec PyProof.Rows L2 DF Gk99
variable {K : PySem.W.Frag} {mg : Str → Option Value}
theorem outs_fr : ∀ (ds : List D) (k : Nat) (s : S), outs k (ds.map fun d => some (.fr d)) s = ds.map fun _ => none
  | [], _, s => by cases s <;> rfl
  | d :: ds, k, [] => by
    have e : outs k ((d :: ds).map fun d => some (O.fr d)) [] = none :: outs (k + 1) (ds.map fun d => some (O.fr d)) [] := rfl
    rw [e, outs_fr ds]; rfl
  | d :: ds, k, none :: s => by
    have e : outs k ((d :: ds).map fun d => some (O.fr d)) (none :: s) = none :: outs (k + 1) (ds.map fun d => some (O.fr d)) s := rfl
    rw [e, outs_fr ds]; rfl
  | d :: ds, k, some o :: s => by
    have e : outs k ((d :: ds).map fun d => some (O.fr d)) (some o :: s) = (if tag (O.fr d) = k + 2 ∧ tag o = k + 2 then some o else none) :: outs (k + 1) (ds.map fun d => some (O.fr d)) s := rfl
    have t : ¬ (tag (O.fr d) = k + 2 ∧ tag o = k + 2) := fun z => by
      have : tag (O.fr d) = 0 := rfl
      omega
    rw [e, if_neg t, outs_fr ds]; rfl
abbrev exs (c : Nat) (x : Str) : Exn := ⟨c, [0], [.str x]⟩
def sgR (s : S) (b : Bool) (v : D) (c : Nat) (x : Str) : R O := if b then .ok (.fr v) s else .er (exs c x) s
def sgD (b : Bool) (v : D) (c : Nat) (x : Str) : D := if b then .lst [.str "told", v] else .lst [.str (if c = 2 then "thing" else "number"), .str x]
theorem r_thing_of (h : Hy K mg) (n : Int) {v : D} (hv : basic v = true) (x : Str) : runDef 0 (d_thing_of h) [some (.fr (.int n)), some (.fr v), some (.fr (.str x))] = sgR [none, none, none] (thing n v) v 2 x := by
  have tn : DF.tNot (tE dTru (eCallJ 2 (runDef 0 (d_is_thing h)) [] (aConsD (eVar 0) (aConsD (eVar 1) aNilJ)))) [some (.fr (.int n)), some (.fr v), some (.fr (.str x))] = .ok (!thing n v) [some (.fr (.int n)), some (.fr v), some (.fr (.str x))] := t_not (t_e (c_thing h hv (e_var rfl) (e_var rfl)) rfl)
  cases ht : thing n v with
  | true =>
    rw [ht] at tn
    exact run_rt (n := 0) (os := [some (.fr (.int n)), some (.fr v), some (.fr (.str x))]) (F := d_thing_of h) (s1 := [some (.fr (.int n)), some (.fr v), some (.fr (.str x))]) ((q_no tn).trans (s_ret (e_var rfl)))
  | false =>
    rw [ht] at tn
    exact run_er (n := 0) (os := [some (.fr (.int n)), some (.fr v), some (.fr (.str x))]) (F := d_thing_of h) (s1 := [some (.fr (.int n)), some (.fr v), some (.fr (.str x))]) (s_seq_er ((s_if tn).trans rfl))
def numb (lo hi : Int) : D → Bool
  | .int i => decide (lo ≤ i) && decide (i ≤ hi)
  | _ => false
theorem c_isint (h : Hy K mg) {f : M O} {s s1 : S} {v : D} (hv : basic v = true) (hf : f s = .ok (.fr v) s1) : eCallJ 1 (runDef 0 (d_is_integer h)) [] (aConsD f aNilJ) s = .ok (.fr (.bl (isInt v))) s1 :=
  e_call (np := 1) (den := runDef 0 (d_is_integer h)) (dd := []) (os := [some (.fr v)]) (j_d hf j_nil) rfl rfl (r_is_integer h v hv)
theorem r_number (h : Hy K mg) (lo hi : Int) {v : D} (hv : basic v = true) (x : Str) : runDef 0 (d_number_of_kind h) [some (.fr v), some (.fr (.int lo)), some (.fr (.int hi)), some (.fr (.str x))] = sgR [none, none, none, none] (numb lo hi v) v 1 x := by
  have ti := c_isint h (f := eVar 0) (s := [some (.fr v), some (.fr (.int lo)), some (.fr (.int hi)), some (.fr (.str x))]) hv (e_var rfl)
  have tn : (DF.tOr (DF.tNot (tE dTru (eCallJ 1 (runDef 0 (d_is_integer h)) [] (aConsD (eVar 0) aNilJ)))) (DF.tNot (tE blD (eChain (dI2 fun i j => decide (i ≤ j)) (dI2 fun i j => decide (i ≤ j)) (eVar 1) (eVar 0) (eVar 2))))) [some (.fr v), some (.fr (.int lo)), some (.fr (.int hi)), some (.fr (.str x))] = .ok (!numb lo hi v) [some (.fr v), some (.fr (.int lo)), some (.fr (.int hi)), some (.fr (.str x))] := by
    refine (t_or (t_not (t_e ti rfl))).trans ?_
    cases v with
    | int i => exact t_not (t_e (e_chain (o := .fr (.int lo)) (oc := .fr (.int i)) (s3 := [some (.fr (.int i)), some (.fr (.int lo)), some (.fr (.int hi)), some (.fr (.str x))]) (d := .int hi) (b := decide (lo ≤ i)) (c := decide (i ≤ hi)) (e_var rfl) (e_var rfl) rfl (fun _ => e_var rfl) (fun _ => rfl) (fun _ => rfl)) rfl)
    | _ => rfl
  cases ht : numb lo hi v with
  | true =>
    rw [ht] at tn
    exact run_rt (n := 0) (os := [some (.fr v), some (.fr (.int lo)), some (.fr (.int hi)), some (.fr (.str x))]) (F := d_number_of_kind h) (s1 := [some (.fr v), some (.fr (.int lo)), some (.fr (.int hi)), some (.fr (.str x))]) ((q_no tn).trans (s_ret (e_var rfl)))
  | false =>
    rw [ht] at tn
    exact run_er (n := 0) (os := [some (.fr v), some (.fr (.int lo)), some (.fr (.int hi)), some (.fr (.str x))]) (F := d_number_of_kind h) (s1 := [some (.fr v), some (.fr (.int lo)), some (.fr (.int hi)), some (.fr (.str x))]) (s_seq_er ((s_if tn).trans rfl))
abbrev sglTold (f : M O) : M Fl := (sAsg (tgN 4) (eCB oLst (aCons (eC (.str "told")) (aCons f aNil))))
abbrev sglBody (h : Hy K mg) : M Fl := (sIf (tE blD (eBin (dEq false) (eVar 0) (eC (.int 0)))) (sglTold (eCallJ 3 (runDef 0 (d_thing_of h)) [(.str "thing")] (aConsD (eBin dAdd (eVar 3) (eC (.int 1))) (aConsD (eVar 1) aNilJ)))) (sIf (tE blD (eBin (dEq false) (eVar 0) (eC (.int 1)))) (sglTold (eCallJ 3 (runDef 0 (d_thing_of h)) [] (aConsD (eBin dAdd (eVar 3) (eC (.int 1))) (aConsD (eVar 1) (aConsD (eC (.str "first")) aNilJ))))) (sglTold (eCallJ 4 (runDef 0 (d_number_of_kind h)) [] (aConsD (eVar 1) (aConsD (eVar 2) (aConsD (eVar 3) (aConsD (eC (.str "many")) aNilJ))))))))
abbrev sglHd (h : Hy K mg) : List Hd := [⟨exT 2, 5, fun x => (sAsg (tgN 4) (eCB oLst (aCons (eC (.str "thing")) (aCons (eHeld 5 (xnF (XTn h) 0 x)) aNil))))⟩, ⟨exT 1, 5, fun x => (sAsg (tgN 4) (eCB oLst (aCons (eC (.str "number")) (aCons (eHeld 5 (xnF (XTn h) 0 x)) aNil))))⟩]
theorem sgl_hd (h : Hy K mg) {w v a b : D} {c : Nat} {x : Str} (hc : c = 1 ∨ c = 2) : runH (sglHd h) (exs c x) [some (.fr w), some (.fr v), some (.fr a), some (.fr b), some (.fr .non), none] = .ok .nx [some (.fr w), some (.fr v), some (.fr a), some (.fr b), some (.fr (sgD false v c x)), none] := by
  rcases hc with rfl | rfl <;> rfl
theorem c_sg {np : Nat} {den : M O} {dd : List D} {gj : M (List J)} {js : List J} {s os os2 : S} {p : Bool} {v : D} {c : Nat} {x : Str} (e1 : gj s = .ok js s) (hl : js.length + dd.length = np) (ht : takeA 0 js s = some (os, s)) (hd : den (os ++ dd.map fun d => some (.fr d)) = sgR os2 p v c x) (hp : putA s js os2 s = s) : eCallJ np den dd gj s = sgR s p v c x := by
  cases p with
  | true => exact (e_call e1 hl ht hd).trans (by rw [hp]; rfl)
  | false => exact (e_call_er e1 hl ht hd).trans (by rw [hp]; rfl)
theorem sgl_end (h : Hy K mg) {w v a b : D} {p : Bool} {c : Nat} {x : Str} (ok : c = 1 ∨ c = 2) {f : M O} (hb : sglBody h [some (.fr w), some (.fr v), some (.fr a), some (.fr b), some (.fr .non), none] = sglTold f [some (.fr w), some (.fr v), some (.fr a), some (.fr b), some (.fr .non), none]) (hf : f [some (.fr w), some (.fr v), some (.fr a), some (.fr b), some (.fr .non), none] = sgR [some (.fr w), some (.fr v), some (.fr a), some (.fr b), some (.fr .non), none] p v c x) :
    runDef 2 (d__law_single h) [some (.fr w), some (.fr v), some (.fr a), some (.fr b)] = .ok (.fr (sgD p v c x)) [none, none, none, none] := by
  have tr : sTry (sglBody h) (sglHd h) [some (.fr w), some (.fr v), some (.fr a), some (.fr b), some (.fr .non), none] = .ok .nx [some (.fr w), some (.fr v), some (.fr a), some (.fr b), some (.fr (sgD p v c x)), none] := by
    unfold sTry
    rw [hb]
    cases p with
    | true =>
      have e : sglTold f [some (.fr w), some (.fr v), some (.fr a), some (.fr b), some (.fr .non), none] = .ok .nx [some (.fr w), some (.fr v), some (.fr a), some (.fr b), some (.fr (sgD true v c x)), none] :=
        s_asg (i := 4) (o := nl [.str "told", v]) (e_cb (ds := [.str "told", v]) (a_cons (o := .fr (.str "told")) rfl (a_cons (o := .fr v) hf a_nil)) rfl)
      rw [e]
    | false =>
      have e : sglTold f [some (.fr w), some (.fr v), some (.fr a), some (.fr b), some (.fr .non), none] = .er (exs c x) [some (.fr w), some (.fr v), some (.fr a), some (.fr b), some (.fr .non), none] := by
        refine er_asg (er_cb ?_)
        unfold aCons
        refine (b_ok (f := eC (.str "told")) rfl).trans ?_
        show bnd (bnd f _) _ _ = _
        unfold bnd
        rw [hf]; rfl
      rw [e]
      exact sgl_hd h ok
  refine (run_rt (n := 2) (os := [some (.fr w), some (.fr v), some (.fr a), some (.fr b)]) (F := d__law_single h) (o := .fr (sgD p v c x)) (s1 := [some (.fr w), some (.fr v), some (.fr a), some (.fr b), some (.fr (sgD p v c x)), none]) ((s_seq (s_asg (f := eC .non) (o := .fr .non) rfl)).trans ((s_seq tr).trans (s_ret (e_var rfl))))).trans ?_
  exact congrArg _ (outs_fr [w, v, a, b] 0 _)
theorem single0 (h : Hy K mg) (lo n : Int) {v : D} (hv : basic v = true) : runDef 2 (d__law_single h) [some (.fr (.int 0)), some (.fr v), some (.fr (.int lo)), some (.fr (.int (n - 1)))] = .ok (.fr (sgD (thing n v) v 2 "thing")) [none, none, none, none] := by
  have e := r_thing_of h (n - 1 + 1) hv "thing"
  rw [show n - 1 + 1 = n by omega] at e
  exact sgl_end h (.inr rfl) (f := (eCallJ 3 (runDef 0 (d_thing_of h)) [(.str "thing")] (aConsD (eBin dAdd (eVar 3) (eC (.int 1))) (aConsD (eVar 1) aNilJ)))) rfl (c_sg (js := [Sum.inl (.int n), Sum.inl v]) (os := [some (.fr (.int n)), some (.fr v)]) (os2 := [none, none, none]) (j_d (o := .fr (.int n)) (e_bin (o := .fr (.int (n - 1))) (o2 := .fr (.int 1)) (e_var rfl) rfl (by show some (O.fr (.int (n - 1 + 1))) = _; rw [show n - 1 + 1 = n by omega])) (j_d (o := .fr v) (e_var rfl) j_nil)) rfl rfl e rfl)
theorem single1 (h : Hy K mg) (lo n : Int) {v : D} (hv : basic v = true) : runDef 2 (d__law_single h) [some (.fr (.int 1)), some (.fr v), some (.fr (.int lo)), some (.fr (.int (n - 1)))] = .ok (.fr (sgD (thing n v) v 2 "first")) [none, none, none, none] := by
  have e := r_thing_of h (n - 1 + 1) hv "first"
  rw [show n - 1 + 1 = n by omega] at e
  exact sgl_end h (.inr rfl) (f := (eCallJ 3 (runDef 0 (d_thing_of h)) [] (aConsD (eBin dAdd (eVar 3) (eC (.int 1))) (aConsD (eVar 1) (aConsD (eC (.str "first")) aNilJ))))) rfl (c_sg (js := [Sum.inl (.int n), Sum.inl v, Sum.inl (.str "first")]) (os := [some (.fr (.int n)), some (.fr v), some (.fr (.str "first"))]) (os2 := [none, none, none]) (j_d (o := .fr (.int n)) (e_bin (o := .fr (.int (n - 1))) (o2 := .fr (.int 1)) (e_var rfl) rfl (by show some (O.fr (.int (n - 1 + 1))) = _; rw [show n - 1 + 1 = n by omega])) (j_d (o := .fr v) (e_var rfl) (j_d (o := .fr (.str "first")) rfl j_nil))) rfl rfl e rfl)
theorem single2 (h : Hy K mg) (lo n : Int) {v : D} (hv : basic v = true) : runDef 2 (d__law_single h) [some (.fr (.int 2)), some (.fr v), some (.fr (.int lo)), some (.fr (.int (n - 1)))] = .ok (.fr (sgD (numb lo (n - 1) v) v 1 "many")) [none, none, none, none] :=
  sgl_end h (.inl rfl) (f := (eCallJ 4 (runDef 0 (d_number_of_kind h)) [] (aConsD (eVar 1) (aConsD (eVar 2) (aConsD (eVar 3) (aConsD (eC (.str "many")) aNilJ)))))) rfl (c_sg (js := [Sum.inl v, Sum.inl (.int lo), Sum.inl (.int (n - 1)), Sum.inl (.str "many")]) (os := [some (.fr v), some (.fr (.int lo)), some (.fr (.int (n - 1))), some (.fr (.str "many"))]) (os2 := [none, none, none, none]) rfl rfl rfl (r_number h lo (n - 1) hv "many") rfl)
end Q99
end

section
set_option maxRecDepth 100000
set_option maxHeartbeats 1000000
namespace Q99
open PySem PySem.Spec PyProof.Rows L2 DF Gk99
variable {K : PySem.W.Frag} {mg : Str → Option Value}
theorem ent_eq {v : D} (h : ent v) : okE 15 v = true ∧ deq v v = true := by
  rcases h with ⟨i, rfl, _⟩ | rfl | rfl | rfl | rfl | rfl | rfl
  · exact ⟨rfl, by rw [deq_int]; simp⟩
  all_goals exact ⟨by decide +kernel, by decide +kernel⟩
theorem told_eq {v : D} (h : okE 15 v = true ∧ deq v v = true) : okE 16 (.lst [.str "told", v]) = true ∧ deq (.lst [.str "told", v]) (.lst [.str "told", v]) = true := by
  constructor
  · show (okE 15 (.str "told") && (okE 15 v && true)) = true
    rw [h.1]; decide +kernel
  · show (deq (.str "told") (.str "told") && (deq v v && true)) = true
    rw [h.2]; decide +kernel
theorem sgD_eq {v : D} (h : ent v) {p : Bool} {c : Nat} {x : Str} (hx : okE 16 (sgD false v c x) = true ∧ deq (sgD false v c x) (sgD false v c x) = true) : okE 16 (sgD p v c x) = true ∧ deq (sgD p v c x) (sgD p v c x) = true := by
  cases p with
  | true => exact told_eq (ent_eq h)
  | false => exact hx
abbrev due0 (v : D) (p q : Bool) : List D := [sgD p v 2 "thing", sgD p v 2 "first", sgD q v 1 "many"]
abbrev sgsLoop (h : Hy K mg) : M Fl := (sIf (tE blD (eBin (dEq true) (eCallJ 4 (runDef 2 (d__law_single h)) [] (aConsD (eVar 5) (aConsD (eVar 2) (aConsD (eVar 3) (aConsD (eBin dSub (eVar 1) (eC (.int 1))) aNilJ))))) (eBin dIx (eRd 4) (eVar 5)))) (sRet (eC (.bl false))) sNx)
theorem sgs_step (h : Hy K mg) {g : O} {n lo w : Int} {v x : D} {ds : List D} {o4 : O} (e : runDef 2 (d__law_single h) [some (.fr (.int w)), some (.fr v), some (.fr (.int lo)), some (.fr (.int (n - 1)))] = .ok (.fr x) [none, none, none, none]) (h4 : o4 = rowsO ds ∨ o4 = .fr (.lst ds)) (hx : atI ds w = some x) (ok : okE 16 x = true ∧ deq x x = true) : sgsLoop h [some g, some (.fr (.int n)), some (.fr v), some (.fr (.int lo)), some o4, some (.fr (.int w))] = .ok .nx [some g, some (.fr (.int n)), some (.fr v), some (.fr (.int lo)), some (.fr (.lst ds)), some (.fr (.int w))] := by
  have c : eCallJ 4 (runDef 2 (d__law_single h)) [] (aConsD (eVar 5) (aConsD (eVar 2) (aConsD (eVar 3) (aConsD (eBin dSub (eVar 1) (eC (.int 1))) aNilJ)))) [some g, some (.fr (.int n)), some (.fr v), some (.fr (.int lo)), some o4, some (.fr (.int w))] = .ok (.fr x) [some g, some (.fr (.int n)), some (.fr v), some (.fr (.int lo)), some o4, some (.fr (.int w))] :=
    e_call (np := 4) (den := runDef 2 (d__law_single h)) (dd := []) (os := [some (.fr (.int w)), some (.fr v), some (.fr (.int lo)), some (.fr (.int (n - 1)))]) (j_d (e_var rfl) (j_d (e_var rfl) (j_d (e_var rfl) (j_d (o := .fr (.int (n - 1))) (e_bin (o := .fr (.int n)) (o2 := .fr (.int 1)) (e_var rfl) rfl rfl) j_nil)))) rfl rfl e
  have r4 : eRd 4 [some g, some (.fr (.int n)), some (.fr v), some (.fr (.int lo)), some o4, some (.fr (.int w))] = .ok (.fr (.lst ds)) [some g, some (.fr (.int n)), some (.fr v), some (.fr (.int lo)), some (.fr (.lst ds)), some (.fr (.int w))] := by
    rcases h4 with rfl | rfl
    · unfold eRd
      show (R.ok (O.fr (fz (rowsO ds))) [some g, some (.fr (.int n)), some (.fr v), some (.fr (.int lo)), some (O.fr (fz (rowsO ds))), some (.fr (.int w))]) = _
      rw [fz_rows]
    · rfl
  exact (s_if (b := false) (t_e (e_bin (o := .fr x) (o2 := .fr x) c (e_bin (o := .fr (.lst ds)) (o2 := .fr (.int w)) r4 (e_var rfl) (by show (atI ds w).map O.fr = _; rw [hx]; rfl)) (dNe_same ok.1 ok.2)) rfl)).trans rfl
theorem r_singles (h : Hy K mg) (is : List Int) (n : Int) (hn : 0 < n) (hn2 : n ≤ 40) : ∃ is' : List Int, runDef 4 (d__law_singles h) [some (dr 2 is), some (.fr (.int n))] = .ok (.fr (.bl true)) [some (dr 2 is'), none] := by
  obtain ⟨v, i1, e1, hv⟩ := c_entry (j := 0) (t := 2) (is := is) (f := eVar 1) (n := n) (s := [some (dr 2 is), some (.fr (.int n)), none, none, none, none]) hn hn2 rfl (e_var rfl)
  have bv := hv.basic
  obtain ⟨r, i2, e2, r0, r1⟩ := c_take (j := 0) (t := 2) (is := i1) (f := eC (.int 2)) (m := 2) (s := [some (dr 2 i1), some (.fr (.int n)), some (.fr v), none, none, none]) (by decide) rfl rfl
  have e3 : eBin dSub (eC (.int 0)) (eBin dMul (eC (.int 2)) (eCallJ 2 (runDef 0 d__law_take) [] (aConsV 0 (aConsD (eC (.int 2)) aNilJ)))) [some (dr 2 i1), some (.fr (.int n)), some (.fr v), none, none, none] = .ok (.fr (.int (0 - 2 * r))) [some (dr 2 i2), some (.fr (.int n)), some (.fr v), none, none, none] :=
    e_bin (o := .fr (.int 0)) (o2 := .fr (.int (2 * r))) rfl (e_bin (o := .fr (.int 2)) (o2 := .fr (.int r)) rfl e2 rfl) rfl
  generalize hlo : (0 - 2 * r : Int) = lo at e3
  have st : ∀ {s : S} {a b c : D} {k : Int} {ds : List D}, s[4]? = some (some (rowsO [a, b, c])) → s[2]? = some (some (.fr v)) → stSet (rowsO [a, b, c]) (.int k) (.lst [.str "told", v]) = some (rowsO ds) → sStore 4 (eCB oLst (aCons (eC (.str "told")) (aCons (eVar 2) aNil))) (eC (.int k)) s = .ok .nx (s.set 4 (some (rowsO ds))) := fun {s a b c k ds} h4 h2 hs =>
    s_store (o := nl [.str "told", v]) (oi := .fr (.int k)) (oj := rowsO [a, b, c]) (e_cb (ds := [.str "told", v]) (a_cons (o := .fr (.str "told")) rfl (a_cons (o := .fr v) (e_var h2) a_nil)) rfl) h4 rfl h4 hs
  have q1 : (sIf (tE dTru (eCallJ 2 (runDef 0 (d__law_is_thing h)) [] (aConsD (eVar 2) (aConsD (eVar 1) aNilJ)))) (sSeq (sStore 4 (eCB oLst (aCons (eC (.str "told")) (aCons (eVar 2) aNil))) (eC (.int 0)))
      (sStore 4 (eCB oLst (aCons (eC (.str "told")) (aCons (eVar 2) aNil))) (eC (.int 1)))) sNx) [some (dr 2 i2), some (.fr (.int n)), some (.fr v), some (.fr (.int lo)), some (rowsO (due0 v false false)), none] = .ok .nx [some (dr 2 i2), some (.fr (.int n)), some (.fr v), some (.fr (.int lo)), some (rowsO (due0 v (thing n v) false)), none] := by
    refine (s_if (t_e (c_lthing h bv (e_var rfl) (e_var rfl)) rfl)).trans ?_
    cases thing n v with
    | false => rfl
    | true => exact (s_seq (st rfl rfl rfl)).trans (st (a := .lst [.str "told", v]) rfl rfl rfl)
  have q2 : (sIf (DF.tAnd (tE dTru (eCallJ 1 (runDef 0 (d__law_int h)) [] (aConsD (eVar 2) aNilJ))) (tE blD (eChain (dI2 fun i j => decide (i ≤ j)) dLt (eVar 3) (eVar 2) (eVar 1)))) (sStore 4 (eCB oLst (aCons (eC (.str "told")) (aCons (eVar 2) aNil))) (eC (.int 2))) sNx) [some (dr 2 i2), some (.fr (.int n)), some (.fr v), some (.fr (.int lo)), some (rowsO (due0 v (thing n v) false)), none] = .ok .nx [some (dr 2 i2), some (.fr (.int n)), some (.fr v), some (.fr (.int lo)), some (rowsO (due0 v (thing n v) (numb lo (n - 1) v))), none] := by
    have t : (DF.tAnd (tE dTru (eCallJ 1 (runDef 0 (d__law_int h)) [] (aConsD (eVar 2) aNilJ))) (tE blD (eChain (dI2 fun i j => decide (i ≤ j)) dLt (eVar 3) (eVar 2) (eVar 1)))) [some (dr 2 i2), some (.fr (.int n)), some (.fr v), some (.fr (.int lo)), some (rowsO (due0 v (thing n v) false)), none] = .ok (numb lo (n - 1) v) [some (dr 2 i2), some (.fr (.int n)), some (.fr v), some (.fr (.int lo)), some (rowsO (due0 v (thing n v) false)), none] := by
      refine (t_and (t_e (c_int h bv (e_var rfl)) rfl)).trans ?_
      generalize thing n v = tv
      cases v with
      | int i =>
        have : numb lo (n - 1) (.int i) = (decide (lo ≤ i) && decide (i < n)) := by
          show (decide (lo ≤ i) && decide (i ≤ n - 1)) = _
          rw [show decide (i ≤ n - 1) = decide (i < n) from decide_eq_decide.mpr (by omega)]
        rw [this]
        exact t_e (e_chain (o := .fr (.int lo)) (oc := .fr (.int i)) (s2 := [some (dr 2 i2), some (.fr (.int n)), some (.fr (.int i)), some (.fr (.int lo)), some (rowsO (due0 (.int i) tv false)), none]) (s3 := [some (dr 2 i2), some (.fr (.int n)), some (.fr (.int i)), some (.fr (.int lo)), some (rowsO (due0 (.int i) tv false)), none]) (d := .int n) (b := decide (lo ≤ i)) (c := decide (i < n)) (e_var rfl) (e_var rfl) rfl (fun _ => e_var rfl) (fun _ => rfl) (fun _ => rfl)) rfl
      | _ => rfl
    refine (s_if t).trans ?_
    cases numb lo (n - 1) v with
    | false => rfl
    | true => exact st rfl rfl rfl
  have o0 := sgD_eq hv (p := thing n v) (c := 2) (x := "thing") ⟨(by decide +kernel : okE 16 (.lst [.str "thing", .str "thing"]) = true), (by decide +kernel : deq (.lst [.str "thing", .str "thing"]) (.lst [.str "thing", .str "thing"]) = true)⟩
  have o1 := sgD_eq hv (p := thing n v) (c := 2) (x := "first") ⟨(by decide +kernel : okE 16 (.lst [.str "thing", .str "first"]) = true), (by decide +kernel : deq (.lst [.str "thing", .str "first"]) (.lst [.str "thing", .str "first"]) = true)⟩
  have o2 := sgD_eq hv (p := numb lo (n - 1) v) (c := 1) (x := "many") ⟨(by decide +kernel : okE 16 (.lst [.str "number", .str "many"]) = true), (by decide +kernel : deq (.lst [.str "number", .str "many"]) (.lst [.str "number", .str "many"]) = true)⟩
  have l0 := sgs_step h (g := dr 2 i2) (n := n) (lo := lo) (ds := due0 v (thing n v) (numb lo (n - 1) v)) (single0 h lo n bv) (.inl rfl) rfl o0
  have l1 := sgs_step h (g := dr 2 i2) (n := n) (lo := lo) (ds := due0 v (thing n v) (numb lo (n - 1) v)) (single1 h lo n bv) (.inr rfl) rfl o1
  have l2 := sgs_step h (g := dr 2 i2) (n := n) (lo := lo) (ds := due0 v (thing n v) (numb lo (n - 1) v)) (single2 h lo n bv) (.inr rfl) rfl o2
  have lp : sFor (iRng1D (aCons (eC (.int 3)) aNil)) (tgN 5) (sgsLoop h) [some (dr 2 i2), some (.fr (.int n)), some (.fr v), some (.fr (.int lo)), some (rowsO (due0 v (thing n v) (numb lo (n - 1) v))), none] = .ok .nx [some (dr 2 i2), some (.fr (.int n)), some (.fr v), some (.fr (.int lo)), some (.fr (.lst (due0 v (thing n v) (numb lo (n - 1) v)))), some (.fr (.int 2))] :=
    by
    refine (s_for (ds := [.int 0, .int 1, .int 2]) (s1 := [some (dr 2 i2), some (.fr (.int n)), some (.fr v), some (.fr (.int lo)), some (rowsO (due0 v (thing n v) (numb lo (n - 1) v))), none]) rfl).trans ?_
    refine (l_cons (t := tgN 5) (F := sgsLoop h) (d := .int 0) (s1 := [some (dr 2 i2), some (.fr (.int n)), some (.fr v), some (.fr (.int lo)), some (rowsO (due0 v (thing n v) (numb lo (n - 1) v))), some (.fr (.int 0))]) rfl l0).trans ?_
    refine (l_cons (t := tgN 5) (F := sgsLoop h) (d := .int 1) (s1 := [some (dr 2 i2), some (.fr (.int n)), some (.fr v), some (.fr (.int lo)), some (.fr (.lst (due0 v (thing n v) (numb lo (n - 1) v)))), some (.fr (.int 1))]) rfl l1).trans ?_
    refine (l_cons (t := tgN 5) (F := sgsLoop h) (d := .int 2) (s1 := [some (dr 2 i2), some (.fr (.int n)), some (.fr v), some (.fr (.int lo)), some (.fr (.lst (due0 v (thing n v) (numb lo (n - 1) v)))), some (.fr (.int 2))]) rfl l2).trans rfl
  refine ⟨i2, run_rt (n := 4) (os := [some (dr 2 is), some (.fr (.int n))]) (F := d__law_singles h) (s1 := [some (dr 2 i2), some (.fr (.int n)), some (.fr v), some (.fr (.int lo)), some (.fr (.lst (due0 v (thing n v) (numb lo (n - 1) v)))), some (.fr (.int 2))]) ((s_seq (s_asg e1)).trans ((s_seq (s_asg e3)).trans ((s_seq (s_set (o := rowsO (due0 v false false)) rfl)).trans ((s_seq q1).trans ((s_seq q2).trans ((s_seq lp).trans (s_ret rfl)))))))⟩
end Q99
end

section
set_option maxRecDepth 100000
set_option maxHeartbeats 1000000
namespace Q99
open PySem PySem.Spec PyProof.Rows L2 DF Gk99
variable {K : PySem.W.Frag} {mg : Str → Option Value}
/-- an integer, the slots untouched -/
def II (f : M O) (s : S) : Prop := ∃ i : Int, f s = .ok (.fr (.int i)) s
section
variable {f g : M O} {s : S} {i j c : Int} {k : Nat}
theorem ii_v (e : s[k]? = some (some (.fr (.int i)))) : II (eVar k) s := ⟨i, e_var e⟩
theorem ii_c : II (eC (.int c)) s := ⟨c, rfl⟩
theorem ii_add (a : II f s) (b : II g s) : II (eBin dAdd f g) s := by
  obtain ⟨i, a⟩ := a
  obtain ⟨j, b⟩ := b
  exact ⟨i + j, e_bin a b rfl⟩
theorem ii_sub (a : II f s) (b : II g s) : II (eBin dSub f g) s := by
  obtain ⟨i, a⟩ := a
  obtain ⟨j, b⟩ := b
  exact ⟨i - j, e_bin a b rfl⟩
theorem ii_mulc (a : II f s) (h : -(2 ^ 64) < c ∧ c < 2 ^ 64) : II (eBin dMul f (eC (.int c))) s := by
  obtain ⟨i, a⟩ := a
  refine ⟨i * c, e_bin (o2 := .fr (.int c)) a rfl ?_⟩
  show (if okMul i c = true then some (O.fr (.int (i * c))) else none) = _
  rw [if_pos]
  unfold okMul
  rw [decide_eq_true h, Bool.or_true]
theorem ii_mul (a : f s = .ok (.fr (.int i)) s) (b : II g s) (h : -(2 ^ 64) < i ∧ i < 2 ^ 64) : II (eBin dMul f g) s := by
  obtain ⟨j, b⟩ := b
  refine ⟨i * j, e_bin a b ?_⟩
  show (if okMul i j = true then some (O.fr (.int (i * j))) else none) = _
  rw [if_pos]
  unfold okMul
  rw [decide_eq_true h, Bool.true_or]
theorem ii_mod (a : II f s) (h : 0 < c) : ∃ i : Int, eBin dMod f (eC (.int c)) s = .ok (.fr (.int i)) s ∧ 0 ≤ i ∧ i < c := by
  obtain ⟨i, a⟩ := a
  refine ⟨i % c, e_bin (o2 := .fr (.int c)) a rfl ?_, Int.emod_nonneg _ (by omega), Int.emod_lt_of_pos _ h⟩
  show (if 0 < c then some (O.fr (.int (i % c))) else none) = _
  rw [if_pos h]
theorem ii_fdiv (a : II f s) (h : 0 < c ∧ c < 1073741824) : II (eBin dFdiv f (eC (.int c))) s := by
  obtain ⟨i, a⟩ := a
  refine ⟨i / c, e_bin (o2 := .fr (.int c)) a rfl ?_⟩
  show (if 0 < c ∧ c < 1073741824 then some (O.fr (.int (i / c))) else none) = _
  rw [if_pos h]
theorem ii_int (a : II f s) : II (eCB oInt (aCons f aNil)) s := by
  obtain ⟨i, a⟩ := a
  exact ⟨i, e_cb (a_cons a a_nil) rfl⟩
end
theorem app_dr {t : Nat} {is : List Int} {i : Int} (h : is.length < 100000) : mAppend (dr t is) [.int i] = some (.fr .non, dr t (is ++ [i])) := by
  unfold mAppend dr
  simp only [List.length_map, List.map_append, List.map_cons, List.map_nil]
  rw [if_pos h]
abbrev drA : M Fl := (sIf (tE blD (eBin (dI2 fun i j => decide (j < i)) (eVar 4) (eC (.int 0)))) (sSeq (sExpr (eMut 1 mAppend (aCons (eBin dMod (eCB oInt (aCons (eVar 4) aNil)) (eC (.int 24))) aNil)))
  (sAsg (tgN 4) (eBin dFdiv (eVar 4) (eC (.int 24))))) sNx)
abbrev drB : M Fl := (sSeq (sAsg (tgN 6) (eBin dMod (eCB oInt (aCons (eBin dAdd (eBin dAdd (eBin dMul (eVar 6) (eBin dAdd (eBin dAdd (eVar 6) (eBin dMul (eC (.int 2)) (eVar 5))) (eC (.int 3)))) (eBin dMul (eVar 2) (eC (.int 7919)))) (eC (.int 11))) aNil)) (eC (.int 2147483587))))
  (sExpr (eMut 1 mAppend (aCons (eBin dFdiv (eVar 6) (eC (.int 64))) aNil))))
section
variable {x0 x3 : Option O}
theorem for_A {p : Int} {x6 : Option O} : ∀ (ks : List Int) (is : List Int) (c : Int) (x5 : Option O), is.length + ks.length < 50000 → ∃ (is' : List Int) (c' : Int) (x5' : Option O), lpFor (tgN 5) drA (ks.map .int) [x0, some (dr 1 is), some (.fr (.int p)), x3, some (.fr (.int c)), x5, x6] = .ok .nx [x0, some (dr 1 is'), some (.fr (.int p)), x3, some (.fr (.int c')), x5', x6] ∧ is'.length ≤ is.length + ks.length
  | [], is, c, x5, _ => ⟨is, c, x5, rfl, Nat.le_refl _⟩
  | k :: ks, is, c, x5, hl => by
    have t : tE blD (eBin (dI2 fun i j => decide (j < i)) (eVar 4) (eC (.int 0))) [x0, some (dr 1 is), some (.fr (.int p)), x3, some (.fr (.int c)), some (.fr (.int k)), x6] = .ok (decide (0 < c)) [x0, some (dr 1 is), some (.fr (.int p)), x3, some (.fr (.int c)), some (.fr (.int k)), x6] := t_e (e_bin (o := .fr (.int c)) (o2 := .fr (.int 0)) (e_var rfl) rfl rfl) rfl
    by_cases hc : 0 < c
    · rw [decide_eq_true hc] at t
      obtain ⟨m, e1, _⟩ := ii_mod (s := [x0, some (dr 1 is), some (.fr (.int p)), x3, some (.fr (.int c)), some (.fr (.int k)), x6]) (ii_int (ii_v (k := 4) rfl)) (c := 24) (by decide)
      obtain ⟨c2, e2⟩ := ii_fdiv (s := [x0, some (dr 1 (is ++ [m])), some (.fr (.int p)), x3, some (.fr (.int c)), some (.fr (.int k)), x6]) (ii_v (k := 4) rfl) (c := 24) (by decide)
      obtain ⟨is', c', x5', e3, hl3⟩ := for_A (p := p) (x6 := x6) ks (is ++ [m]) c2 (some (.fr (.int k))) (by simp only [List.length_append, List.length_cons, List.length_nil] at hl ⊢; omega)
      refine ⟨is', c', x5', (l_cons (t := tgN 5) (F := drA) (d := .int k) (s := [x0, some (dr 1 is), some (.fr (.int p)), x3, some (.fr (.int c)), x5, x6]) (s1 := [x0, some (dr 1 is), some (.fr (.int p)), x3, some (.fr (.int c)), some (.fr (.int k)), x6]) rfl ((s_if t).trans ((s_seq (s_expr (e_mut (o := dr 1 is) rfl rfl (a_cons e1 a_nil) rfl (app_dr (by simp only [List.length_cons] at hl; omega))))).trans (s_asg e2)))).trans e3, by simp only [List.length_append, List.length_cons, List.length_nil] at hl3 ⊢; omega⟩
    · rw [decide_eq_false hc] at t
      obtain ⟨is', c', x5', e3, hl3⟩ := for_A (p := p) (x6 := x6) ks is c (some (.fr (.int k))) (by simp only [List.length_cons] at hl; omega)
      exact ⟨is', c', x5', (l_cons (t := tgN 5) (F := drA) (d := .int k) (s := [x0, some (dr 1 is), some (.fr (.int p)), x3, some (.fr (.int c)), x5, x6]) (s1 := [x0, some (dr 1 is), some (.fr (.int p)), x3, some (.fr (.int c)), some (.fr (.int k)), x6]) rfl ((s_if t).trans rfl)).trans e3, by simp only [List.length_cons]; omega⟩
theorem for_B {p : Int} {x4 : Option O} : ∀ (ks : List Int) (is : List Int) (m : Int) (x5 : Option O), is.length + ks.length < 50000 → 0 ≤ m ∧ m < 2147483648 → ∃ (is' : List Int) (m' : Int) (x5' : Option O), lpFor (tgN 5) drB (ks.map .int) [x0, some (dr 1 is), some (.fr (.int p)), x3, x4, x5, some (.fr (.int m))] = .ok .nx [x0, some (dr 1 is'), some (.fr (.int p)), x3, x4, x5', some (.fr (.int m'))] ∧ is'.length ≤ is.length + ks.length
  | [], is, m, x5, _, _ => ⟨is, m, x5, rfl, Nat.le_refl _⟩
  | k :: ks, is, m, x5, hl, hm => by
    obtain ⟨m2, e1, h0, h1⟩ := ii_mod (s := [x0, some (dr 1 is), some (.fr (.int p)), x3, x4, some (.fr (.int k)), some (.fr (.int m))]) (ii_int (ii_add (ii_add (ii_mul (f := eVar 6) (i := m) (e_var rfl) (ii_add (ii_add (ii_v (k := 6) rfl) (ii_mul (f := eC (.int 2)) (i := 2) rfl (ii_v (k := 5) rfl) (by decide))) (ii_c (c := 3))) (by omega)) (ii_mulc (c := 7919) (ii_v (k := 2) rfl) (by decide))) (ii_c (c := 11)))) (c := 2147483587) (by decide)
    obtain ⟨r, e2⟩ := ii_fdiv (s := [x0, some (dr 1 is), some (.fr (.int p)), x3, x4, some (.fr (.int k)), some (.fr (.int m2))]) (ii_v (k := 6) rfl) (c := 64) (by decide)
    obtain ⟨is', m', x5', e3, hl3⟩ := for_B (p := p) (x4 := x4) ks (is ++ [r]) m2 (some (.fr (.int k))) (by simp only [List.length_append, List.length_cons, List.length_nil] at hl ⊢; omega) (by omega)
    exact ⟨is', m', x5', (l_cons (t := tgN 5) (F := drB) (d := .int k) (s := [x0, some (dr 1 is), some (.fr (.int p)), x3, x4, x5, some (.fr (.int m))]) (s1 := [x0, some (dr 1 is), some (.fr (.int p)), x3, x4, some (.fr (.int k)), some (.fr (.int m))]) rfl ((s_seq (s_asg e1)).trans (s_expr (e_mut (o := dr 1 is) rfl rfl (a_cons e2 a_nil) rfl (app_dr (by simp only [List.length_cons] at hl; omega)))))).trans e3, by simp only [List.length_append, List.length_cons, List.length_nil] at hl3 ⊢; omega⟩
end
abbrev drBody : M Fl := (sSeq (sAsg (tgN 4) (eCB oInt (aCons (eVar 3) aNil)))
  (sSeq (sAsg (tgN 2) (eBin dAdd (eVar 2) (eC (.int 1))))
  (sSeq (sIf (tE blD (eBin dLt (eVar 4) (eC (.int 0)))) (sAsg (tgN 4) (eBin dSub (eC (.int 3)) (eBin dMul (eC (.int 2)) (eVar 4)))) sNx)
  (sIf (tE blD (eBin (dI2 fun i j => decide (j ≤ i)) (eVar 4) (eBin dPow (eC (.int 10)) (eC (.int 18))))) (sFor (iRng1D (aCons (eC (.int 60)) aNil)) (tgN 5) drA) (sSeq (sAsg (tgN 6) (eBin dMod (eCB oInt (aCons (eBin dAdd (eBin dAdd (eBin dMul (eVar 4) (eC (.int 69069))) (eBin dMul (eVar 2) (eC (.int 40503)))) (eC (.int 17))) aNil)) (eC (.int 2147483629))))
  (sFor (iRng1D (aCons (eC (.int 5)) aNil)) (tgN 5) drB))))))
theorem one_body {x0 x4 x5 x6 : Option O} (raw p : Int) (is : List Int) (hl : is.length < 40000) : ∃ (is' : List Int) (p' : Int) (y4 y5 y6 : Option O), drBody [x0, some (dr 1 is), some (.fr (.int p)), some (.fr (.int raw)), x4, x5, x6] = .ok .nx [x0, some (dr 1 is'), some (.fr (.int p')), some (.fr (.int raw)), y4, y5, y6] ∧ is'.length ≤ is.length + 60 := by
  have t1 : tE blD (eBin dLt (eVar 4) (eC (.int 0))) [x0, some (dr 1 is), some (.fr (.int (p + 1))), some (.fr (.int raw)), some (.fr (.int raw)), x5, x6] = .ok (decide (raw < 0)) [x0, some (dr 1 is), some (.fr (.int (p + 1))), some (.fr (.int raw)), some (.fr (.int raw)), x5, x6] := t_e (e_bin (o := .fr (.int raw)) (o2 := .fr (.int 0)) (e_var rfl) rfl rfl) rfl
  have neg : ∃ c : Int, (sIf (tE blD (eBin dLt (eVar 4) (eC (.int 0)))) (sAsg (tgN 4) (eBin dSub (eC (.int 3)) (eBin dMul (eC (.int 2)) (eVar 4)))) sNx) [x0, some (dr 1 is), some (.fr (.int (p + 1))), some (.fr (.int raw)), some (.fr (.int raw)), x5, x6] = .ok .nx [x0, some (dr 1 is), some (.fr (.int (p + 1))), some (.fr (.int raw)), some (.fr (.int c)), x5, x6] := by
    by_cases hn : raw < 0
    · rw [decide_eq_true hn] at t1
      obtain ⟨c, e⟩ := ii_sub (s := [x0, some (dr 1 is), some (.fr (.int (p + 1))), some (.fr (.int raw)), some (.fr (.int raw)), x5, x6]) (ii_c (c := 3)) (ii_mul (f := eC (.int 2)) (i := 2) rfl (ii_v (k := 4) rfl) (by decide))
      exact ⟨c, (s_if t1).trans (s_asg e)⟩
    · rw [decide_eq_false hn] at t1
      exact ⟨raw, (s_if t1).trans rfl⟩
  obtain ⟨c, e2⟩ := neg
  have pw : ∀ {s : S}, eBin dPow (eC (.int 10)) (eC (.int 18)) s = .ok (.fr (.int 1000000000000000000)) s := fun {s} => e_bin (o := .fr (.int 10)) (o2 := .fr (.int 18)) rfl rfl (by
    show (if (0:Int) ≤ 18 ∧ (18:Int) ≤ 1000 ∧ (10:Int).natAbs < 2 ^ 64 then some (O.fr (.int ((10:Int) ^ (18:Int).toNat))) else none) = _
    rw [if_pos (by decide)]
    have : (10:Int) ^ (18:Int).toNat = 1000000000000000000 := by decide +kernel
    rw [this])
  have t2 : (tE blD (eBin (dI2 fun i j => decide (j ≤ i)) (eVar 4) (eBin dPow (eC (.int 10)) (eC (.int 18))))) [x0, some (dr 1 is), some (.fr (.int (p + 1))), some (.fr (.int raw)), some (.fr (.int c)), x5, x6] = .ok (decide ((1000000000000000000 : Int) ≤ c)) [x0, some (dr 1 is), some (.fr (.int (p + 1))), some (.fr (.int raw)), some (.fr (.int c)), x5, x6] := t_e (e_bin (o := .fr (.int c)) (o2 := .fr (.int 1000000000000000000)) (e_var rfl) pw rfl) rfl
  have fin : ∃ (is' : List Int) (y4 y5 y6 : Option O), (sIf (tE blD (eBin (dI2 fun i j => decide (j ≤ i)) (eVar 4) (eBin dPow (eC (.int 10)) (eC (.int 18))))) (sFor (iRng1D (aCons (eC (.int 60)) aNil)) (tgN 5) drA) (sSeq (sAsg (tgN 6) (eBin dMod (eCB oInt (aCons (eBin dAdd (eBin dAdd (eBin dMul (eVar 4) (eC (.int 69069))) (eBin dMul (eVar 2) (eC (.int 40503)))) (eC (.int 17))) aNil)) (eC (.int 2147483629))))
      (sFor (iRng1D (aCons (eC (.int 5)) aNil)) (tgN 5) drB))) [x0, some (dr 1 is), some (.fr (.int (p + 1))), some (.fr (.int raw)), some (.fr (.int c)), x5, x6] = .ok .nx [x0, some (dr 1 is'), some (.fr (.int (p + 1))), some (.fr (.int raw)), y4, y5, y6] ∧ is'.length ≤ is.length + 60 := by
    by_cases hb : (1000000000000000000 : Int) ≤ c
    · rw [decide_eq_true hb] at t2
      obtain ⟨is', c', x5', e3, hl3⟩ := for_A (x0 := x0) (x3 := some (.fr (.int raw))) (p := p + 1) (x6 := x6) ((List.range 60).map fun (k : Nat) => (0 : Int) + (k : Int)) is c x5 (by rw [List.length_map, List.length_range]; omega)
      rw [← rng_ints, List.length_map, List.length_range] at *
      exact ⟨is', _, x5', x6, (s_if t2).trans ((s_for (i_rng1 (j := 60) (a_cons (o := .fr (.int 60)) rfl a_nil) (by decide))).trans e3), hl3⟩
    · rw [decide_eq_false hb] at t2
      obtain ⟨m, e3, h0, h1⟩ := ii_mod (s := [x0, some (dr 1 is), some (.fr (.int (p + 1))), some (.fr (.int raw)), some (.fr (.int c)), x5, x6]) (ii_int (ii_add (ii_add (ii_mulc (c := 69069) (ii_v (k := 4) rfl) (by decide)) (ii_mulc (c := 40503) (ii_v (k := 2) rfl) (by decide))) (ii_c (c := 17)))) (c := 2147483629) (by decide)
      obtain ⟨is', m', x5', e4, hl4⟩ := for_B (x0 := x0) (x3 := some (.fr (.int raw))) (p := p + 1) (x4 := some (.fr (.int c))) ((List.range 5).map fun (k : Nat) => (0 : Int) + (k : Int)) is m x5 (by rw [List.length_map, List.length_range]; omega) (by omega)
      rw [← rng_ints, List.length_map, List.length_range] at *
      exact ⟨is', _, x5', _, (s_if t2).trans ((s_seq (s_asg e3)).trans ((s_for (i_rng1 (j := 5) (a_cons (o := .fr (.int 5)) rfl a_nil) (by decide))).trans e4)), by omega⟩
  obtain ⟨is', y4, y5, y6, e3, hl3⟩ := fin
  exact ⟨is', p + 1, y4, y5, y6, (s_seq (s_asg (o := .fr (.int raw)) (e_cb (a_cons (o := .fr (.int raw)) (e_var rfl) a_nil) rfl))).trans ((s_seq (s_asg (o := .fr (.int (p + 1))) (e_bin (o := .fr (.int p)) (o2 := .fr (.int 1)) (e_var rfl) rfl rfl))).trans ((s_seq e2).trans e3)), hl3⟩
theorem for_dr {x0 : Option O} : ∀ (rs is : List Int) (p : Int) (x3 x4 x5 x6 : Option O), is.length + 60 * rs.length < 20000 → ∃ (is' : List Int) (p' : Option O) (y3 y4 y5 y6 : Option O), lpFor (tgN 3) drBody (rs.map .int) [x0, some (dr 1 is), some (.fr (.int p)), x3, x4, x5, x6] = .ok .nx [x0, some (dr 1 is'), p', y3, y4, y5, y6]
  | [], is, p, x3, x4, x5, x6, _ => ⟨is, _, x3, x4, x5, x6, rfl⟩
  | r :: rs, is, p, x3, x4, x5, x6, hl => by
    obtain ⟨is1, p1, y4, y5, y6, e1, h1⟩ := one_body (x0 := x0) (x4 := x4) (x5 := x5) (x6 := x6) r p is (by simp only [List.length_cons] at hl; omega)
    obtain ⟨is2, p2, z3, z4, z5, z6, e2⟩ := for_dr (x0 := x0) rs is1 p1 (some (.fr (.int r))) y4 y5 y6 (by simp only [List.length_cons] at hl; omega)
    exact ⟨is2, p2, z3, z4, z5, z6, (l_cons (t := tgN 3) (F := drBody) (d := .int r) (s := [x0, some (dr 1 is), some (.fr (.int p)), x3, x4, x5, x6]) (s1 := [x0, some (dr 1 is), some (.fr (.int p)), some (.fr (.int r)), x4, x5, x6]) rfl e1).trans e2⟩
theorem r_draws (ns : List Int) (hl : ns.length ≤ 63) : ∃ is : List Int, runDef 6 d__law_draws [some (.fr (scriptD ns))] = .ok (dr 1 is) [none] := by
  have cut : ∃ rs : List Int, DF.cutD (ns.map D.int) none (some 63) = rs.map .int ∧ rs.length ≤ 63 := by
    unfold DF.cutD
    refine ⟨(ns.drop (HT.sIx (ns.map D.int).length 0 none)).take (HT.sIx (ns.map D.int).length (ns.map D.int).length (some 63) - HT.sIx (ns.map D.int).length 0 none), ?_, ?_⟩
    · rw [List.map_take, List.map_drop]
    · rw [List.length_take, List.length_drop]; omega
  obtain ⟨rs, e1, h1⟩ := cut
  obtain ⟨is, p', y3, y4, y5, y6, e2⟩ := for_dr (x0 := some (.fr (scriptD ns))) rs [] 0 none none none none (by simp only [List.length_nil]; omega)
  have it : iSeqD (eSl (eVar 0) pNo (pAt (eC (.int 63)))) [some (.fr (scriptD ns)), some (dr 1 []), some (.fr (.int 0)), none, none, none, none] = .ok (rs.map .int) [some (.fr (scriptD ns)), some (dr 1 []), some (.fr (.int 0)), none, none, none, none] := by
    refine i_seq (o := nl (rs.map .int)) ?_ (by rw [fz_nl]; rfl)
    unfold eSl
    refine (b_ok (e_var (d := scriptD ns) rfl)).trans ?_
    show opt (dSl (scriptD ns) none (some 63)) _ = _
    refine opt_some ?_
    show some (nl (DF.cutD (ns.map D.int) none (some 63))) = _
    rw [e1]
  refine ⟨is.reverse, ?_⟩
  refine (run_rt (n := 6) (os := [some (.fr (scriptD ns))]) (F := d__law_draws) (o := dr 1 is.reverse) (s1 := [some (.fr (scriptD ns)), none, p', y3, y4, y5, y6]) ((s_seq (s_set (o := dr 1 []) rfl)).trans ((s_seq (s_asg (o := .fr (.int 0)) rfl)).trans ((s_seq ((s_for it).trans e2)).trans ((s_seq (s_expr (e_mut (op := mReverse) (o := dr 1 is) (res := .fr .non) (o2 := dr 1 is.reverse) rfl rfl a_nil rfl ?_))).trans (s_ret (f := eTake 1) rfl)))))).trans ?_
  · unfold mReverse dr; rw [List.map_reverse]
  · exact congrArg _ (outs_fr [scriptD ns] 0 _)
end Q99
end

section
set_option maxRecDepth 100000
set_option maxHeartbeats 1000000
namespace Q99
open PySem PySem.Spec PyProof.Rows L2 DF Gk99
variable {K : PySem.W.Frag} {mg : Str → Option Value}
mutual
theorem deq_refl : ∀ (n : Nat) (d : D), okE n d = true → deq d d = true
  | _, .non, _ => rfl
  | _, .bl b, _ => by show (b == b) = true; simp
  | _, .int i, _ => by rw [deq_int]; simp
  | _, .str s, _ => by show (s == s) = true; simp
  | n + 1, .tup ds, h => deqL_refl n ds h
  | n + 1, .lst ds, h => deqL_refl n ds h
  | 0, .tup _, h => nomatch h
  | 0, .lst _, h => nomatch h
  | 0, .rol _, h => nomatch h
  | 0, .ty _, h => nomatch h
  | 0, .cl _, h => nomatch h
  | 0, .dk _ _, h => nomatch h
  | 0, .dt _ _, h => nomatch h
  | 0, .ins _ _ _, h => nomatch h
  | 0, .ex _ _ _, h => nomatch h
  | 0, .any, h => nomatch h
  | _ + 1, .rol _, h => nomatch h
  | _ + 1, .ty _, h => nomatch h
  | _ + 1, .cl _, h => nomatch h
  | _ + 1, .dk _ _, h => nomatch h
  | _ + 1, .dt _ _, h => nomatch h
  | _ + 1, .ins _ _ _, h => nomatch h
  | _ + 1, .ex _ _ _, h => nomatch h
  | _ + 1, .any, h => nomatch h
theorem deqL_refl : ∀ (n : Nat) (ds : List D), okEL n ds = true → deqL ds ds = true
  | _, [], _ => rfl
  | n, d :: ds, h => by
    have h' : (okE n d && okEL n ds) = true := by cases n <;> exact h
    obtain ⟨h1, h2⟩ := Bool.and_eq_true_iff.mp h'
    show (deq d d && deqL ds ds) = true
    rw [deq_refl n d h1, deqL_refl n ds h2]; rfl
end
theorem dEq_same {x : D} (h1 : okE 16 x = true) : dEq false x x = some (.fr (.bl true)) := by
  rw [dEq_gen h1 h1, deq_refl _ _ h1]; rfl
theorem dNe_self {x : D} (h1 : okE 16 x = true) : dEq true x x = some (.fr (.bl false)) := by
  rw [dEq_gen h1 h1, deq_refl _ _ h1]; rfl
abbrev ex1 (c : Nat) (k : Nat) (d : D) : D := .ex c [k] [d]
abbrev ringD (a b : Int) : D := .tup [.int a, .int b, .int 7]
abbrev namedD (x : Str) : List D := [ex1 1 0 (.str x), ex1 2 0 (.str x), ex1 29 0 (.str x)]
abbrev placedD (a : Int) : List D := [ex1 3 1 (.int a), ex1 4 1 (.int a), ex1 5 1 (.int a), ex1 7 1 (.int a), ex1 8 1 (.int a), ex1 9 1 (.int a), ex1 10 1 (.int a), ex1 11 1 (.int a), ex1 12 1 (.int a)]
abbrev ex2 (c : Nat) (a b : Int) : D := .ex c [4, 3] [.int b, .int a]
abbrev pairedD (a b : Int) : List D := [ex2 19 a b, ex2 18 a b, ex2 21 a b, ex2 25 a b, ex2 23 a b, ex2 16 a b, ex2 17 a b]
abbrev othersD (a b : Int) : List D := [ex1 6 2 (.int b), .ex 20 [5, 4, 3] [.int 9, .int b, .int a], ex1 22 6 (.int a), ex1 24 7 (ringD a b), .ex 27 [9, 7] [.bl true, ringD a b], .ex 28 [7, 10] [ringD a b, .tup [.int a, .int b]]]
abbrev restD (a b : Int) : List D := [ex1 26 8 (ringD a b), .ex 15 [] [], .ex 14 [] [], .ex 13 [] [], .ex 30 [] []]
abbrev rowsD (x : Str) (a b : Int) : List D := namedD x ++ placedD a ++ pairedD a b ++ othersD a b ++ restD a b
abbrev erLoop (h : Hy K mg) : M Fl := (sSeq (sIf (DF.tOr (DF.tNot (tE dTru (eCB (oIsi (XTn h)) (aCons (eBin dIx (eVar 9) (eVar 10)) (aCons (eC (.cl 0)) aNil))))) (DF.tNot (tE dTru (eCB (oIsi (XTn h)) (aCons (eBin dIx (eVar 9) (eVar 10)) (aCons (eC (.ty 6)) aNil)))))) (sRet (eC (.bl false))) sNx)
  (sIf (tE blD (eBin (dEq true) (eCallJ 1 (runDef 1 (d__law_marks h)) [] (aConsD (eBin dIx (eVar 9) (eVar 10)) aNilJ)) (eLc (iRng1D (aCons (eC (.int 30)) aNil)) (tgN 12) (DF.ret true) (eBin (dEq false) (eVar 12) (eVar 10)) [12]))) (sRet (eC (.bl false))) sNx))
set_option maxHeartbeats 0 in
theorem er_loop (h : Hy K mg) (x : Str) (a b : Int) (o0 : List O) (o7 : D) : sFor (iRng1D (aCons (eCB oLen (aCons (eVar 9) aNil)) aNil)) (tgN 10) (erLoop h)
    [some (.lst 2 o0), some (.fr (.int a)), some (.fr (.int b)), some (.fr (.str x)), some (.fr (ringD a b)), some (.fr (.lst (namedD x))), some (.fr (.lst (placedD a ++ []))), some (.fr o7), some (.fr (.lst (othersD a b))), some (.fr (.lst (rowsD x a b))), none, none, none, none] = .ok .nx
    [some (.lst 2 o0), some (.fr (.int a)), some (.fr (.int b)), some (.fr (.str x)), some (.fr (ringD a b)), some (.fr (.lst (namedD x))), some (.fr (.lst (placedD a ++ []))), some (.fr o7), some (.fr (.lst (othersD a b))), some (.fr (.lst (rowsD x a b))), some (.fr (.int 29)), none, none, none] := by
  kernel_rfl
end Q99
end

section
set_option maxRecDepth 100000
set_option maxHeartbeats 1000000
namespace Q99
open PySem PySem.Spec PyProof.Rows L2 DF Gk99
variable {K : PySem.W.Frag} {mg : Str → Option Value}
abbrev toldD (a b : Int) : List D := [.int a, .int b, .int 9, .int a, ringD a b, ringD a b, .bl true, .tup [.int a, .int b], ringD a b, ringD a b]
abbrev er3 : M Fl := (sAsg (tgN 4) (eCB oTup (aCons (eVar 1) (aCons (eVar 2) (aCons (eC (.int 7)) aNil)))))
abbrev er4 : M Fl := (sAsg (tgN 5) (eCB oLst (aCons (eMk 1 [0] (aCons (eVar 3) aNil)) (aCons (eMk 2 [0] (aCons (eVar 3) aNil)) (aCons (eMk 29 [0] (aCons (eVar 3) aNil)) aNil)))))
abbrev er5 : M Fl := (sAsg (tgN 6) (eCB oLst (aCons (eMk 3 [1] (aCons (eVar 1) aNil)) (aCons (eMk 4 [1] (aCons (eVar 1) aNil)) (aCons (eMk 5 [1] (aCons (eVar 1) aNil)) (aCons (eMk 7 [1] (aCons (eVar 1) aNil)) (aCons (eMk 8 [1] (aCons (eVar 1) aNil)) (aCons (eMk 9 [1] (aCons (eVar 1) aNil)) aNil))))))))
abbrev er6 : M Fl := (sAsg (tgN 6) (eBin dAdd (eVar 6) (eCB oLst (aCons (eMk 10 [1] (aCons (eVar 1) aNil)) (aCons (eMk 11 [1] (aCons (eVar 1) aNil)) (aCons (eMk 12 [1] (aCons (eVar 1) aNil)) aNil))))))
abbrev er7 : M Fl := (sSet 7 (eCB oLst (aCons (eMk 19 [3, 4] (aCons (eVar 1) (aCons (eVar 2) aNil))) (aCons (eMk 18 [3, 4] (aCons (eVar 1) (aCons (eVar 2) aNil))) (aCons (eMk 21 [3, 4] (aCons (eVar 1) (aCons (eVar 2) aNil))) (aCons (eMk 25 [3, 4] (aCons (eVar 1) (aCons (eVar 2) aNil))) (aCons (eMk 23 [3, 4] (aCons (eVar 1) (aCons (eVar 2) aNil))) (aCons (eMk 16 [3, 4] (aCons (eVar 1) (aCons (eVar 2) aNil))) aNil))))))))
abbrev er8 : M Fl := (sExpr (eMut 7 mAppend (aCons (eMk 17 [3, 4] (aCons (eVar 1) (aCons (eVar 2) aNil))) aNil)))
abbrev er9 : M Fl := (sAsg (tgN 8) (eCB oLst (aCons (eMk 6 [2] (aCons (eVar 2) aNil)) (aCons (eMk 20 [3, 4, 5] (aCons (eVar 1) (aCons (eVar 2) (aCons (eC (.int 9)) aNil)))) (aCons (eMk 22 [6] (aCons (eVar 1) aNil)) (aCons (eMk 24 [7] (aCons (eVar 4) aNil)) (aCons (eMk 27 [7, 9] (aCons (eVar 4) (aCons (eC (.bl true)) aNil))) (aCons (eMk 28 [10, 7] (aCons (eCB oTup (aCons (eVar 1) (aCons (eVar 2) aNil))) (aCons (eVar 4) aNil))) aNil))))))))
abbrev er10 : M Fl := (sAsg (tgN 9) (eBin dAdd (eBin dAdd (eBin dAdd (eBin dAdd (eVar 5) (eVar 6)) (eRd 7)) (eVar 8)) (eCB oLst (aCons (eMk 26 [8] (aCons (eVar 4) aNil)) (aCons (eC (.ex 15 [] [])) (aCons (eC (.ex 14 [] [])) (aCons (eC (.ex 13 [] [])) (aCons (eC (.ex 30 [] [])) aNil))))))))
abbrev er13 (h : Hy K mg) : M Fl := (sIf (DF.tOr (DF.tNot (tE dTru (eCB oAll (aCons (eLc (iSeqD (eVar 5)) (tgN 13) (DF.ret true) (eBin (dEq false) (eUn (dXv (XTn h) 0) (eVar 13)) (eVar 3)) [13]) aNil)))) (DF.tNot (tE dTru (eCB oAll (aCons (eLc (iSeqD (eVar 6)) (tgN 13) (DF.ret true) (eBin (dEq false) (eUn (dXv (XTn h) 1) (eVar 13)) (eVar 1)) [13]) aNil))))) (sRet (eC (.bl false))) sNx)
abbrev er14 (h : Hy K mg) : M Fl := (sIf (DF.tOr (DF.tNot (tE dTru (eCB oAll (aCons (eLc (iSeqD (eRd 7)) (tgN 13) (DF.ret true) (eAndV (eBin (dEq false) (eUn (dXv (XTn h) 3) (eVar 13)) (eVar 1)) (eBin (dEq false) (eUn (dXv (XTn h) 4) (eVar 13)) (eVar 2))) [13]) aNil)))) (tE blD (eBin (dEq true) (eUn (dXv (XTn h) 2) (eBin dIx (eVar 8) (eC (.int 0)))) (eVar 2)))) (sRet (eC (.bl false))) sNx)
abbrev er15 (h : Hy K mg) : M Fl := (sAsg (tgN 11) (eCB oLst (aCons (eUn (dXv (XTn h) 3) (eBin dIx (eVar 8) (eC (.int 1)))) (aCons (eUn (dXv (XTn h) 4) (eBin dIx (eVar 8) (eC (.int 1)))) (aCons (eUn (dXv (XTn h) 5) (eBin dIx (eVar 8) (eC (.int 1)))) (aCons (eUn (dXv (XTn h) 6) (eBin dIx (eVar 8) (eC (.int 2)))) (aCons (eUn (dXv (XTn h) 7) (eBin dIx (eVar 8) (eC (.int 3)))) (aCons (eUn (dXv (XTn h) 7) (eBin dIx (eVar 8) (eC (.int 4)))) aNil))))))))
abbrev er16 (h : Hy K mg) : M Fl := (sAsg (tgN 11) (eBin dAdd (eVar 11) (eCB oLst (aCons (eUn (dXv (XTn h) 9) (eBin dIx (eVar 8) (eC (.int 4)))) (aCons (eUn (dXv (XTn h) 10) (eBin dIx (eVar 8) (eC (.int 5)))) (aCons (eUn (dXv (XTn h) 7) (eBin dIx (eVar 8) (eC (.int 5)))) (aCons (eUn (dXv (XTn h) 8) (eBin dIx (eVar 9) (eC (.int 25)))) aNil)))))))
abbrev er17 : M Fl := (sRet (eAndV (eBin (dEq false) (eVar 11) (eCB oLst (aCons (eVar 1) (aCons (eVar 2) (aCons (eC (.int 9)) (aCons (eVar 1) (aCons (eVar 4) (aCons (eVar 4) (aCons (eC (.bl true)) (aCons (eCB oTup (aCons (eVar 1) (aCons (eVar 2) aNil))) (aCons (eVar 4) (aCons (eVar 4) aNil)))))))))))) (eBin (dEq false) (eCB oLen (aCons (eVar 9) aNil)) (eC (.int 30)))))
abbrev er11 (h : Hy K mg) : M Fl := sFor (iRng1D (aCons (eCB oLen (aCons (eVar 9) aNil)) aNil)) (tgN 10) (erLoop h)
section
variable (h : Hy K mg) (x : Str) (a b : Int) (o0 : List O)
theorem es3 : er3 [some (.lst 2 o0), some (.fr (.int a)), some (.fr (.int b)), some (.fr (.str x)), none, none, none, none, none, none, none, none, none, none] = .ok .nx [some (.lst 2 o0), some (.fr (.int a)), some (.fr (.int b)), some (.fr (.str x)), some (.fr (ringD a b)), none, none, none, none, none, none, none, none, none] := by kernel_rfl
theorem es4 : er4 [some (.lst 2 o0), some (.fr (.int a)), some (.fr (.int b)), some (.fr (.str x)), some (.fr (ringD a b)), none, none, none, none, none, none, none, none, none] = .ok .nx [some (.lst 2 o0), some (.fr (.int a)), some (.fr (.int b)), some (.fr (.str x)), some (.fr (ringD a b)), some (.fr (.lst (namedD x))), none, none, none, none, none, none, none, none] := by kernel_rfl
theorem es5 : er5 [some (.lst 2 o0), some (.fr (.int a)), some (.fr (.int b)), some (.fr (.str x)), some (.fr (ringD a b)), some (.fr (.lst (namedD x))), none, none, none, none, none, none, none, none] = .ok .nx [some (.lst 2 o0), some (.fr (.int a)), some (.fr (.int b)), some (.fr (.str x)), some (.fr (ringD a b)), some (.fr (.lst (namedD x))), some (.fr (.lst ((placedD a).take 6))), none, none, none, none, none, none, none] := by kernel_rfl
theorem es6 : er6 [some (.lst 2 o0), some (.fr (.int a)), some (.fr (.int b)), some (.fr (.str x)), some (.fr (ringD a b)), some (.fr (.lst (namedD x))), some (.fr (.lst ((placedD a).take 6))), none, none, none, none, none, none, none] = .ok .nx [some (.lst 2 o0), some (.fr (.int a)), some (.fr (.int b)), some (.fr (.str x)), some (.fr (ringD a b)), some (.fr (.lst (namedD x))), some (.fr (.lst (placedD a))), none, none, none, none, none, none, none] := by kernel_rfl
theorem es7 : er7 [some (.lst 2 o0), some (.fr (.int a)), some (.fr (.int b)), some (.fr (.str x)), some (.fr (ringD a b)), some (.fr (.lst (namedD x))), some (.fr (.lst (placedD a))), none, none, none, none, none, none, none] = .ok .nx [some (.lst 2 o0), some (.fr (.int a)), some (.fr (.int b)), some (.fr (.str x)), some (.fr (ringD a b)), some (.fr (.lst (namedD x))), some (.fr (.lst (placedD a))), some (.lst 1 (((pairedD a b).take 6).map .fr)), none, none, none, none, none, none] := by kernel_rfl
theorem es8 : er8 [some (.lst 2 o0), some (.fr (.int a)), some (.fr (.int b)), some (.fr (.str x)), some (.fr (ringD a b)), some (.fr (.lst (namedD x))), some (.fr (.lst (placedD a))), some (.lst 1 (((pairedD a b).take 6).map .fr)), none, none, none, none, none, none] = .ok .nx [some (.lst 2 o0), some (.fr (.int a)), some (.fr (.int b)), some (.fr (.str x)), some (.fr (ringD a b)), some (.fr (.lst (namedD x))), some (.fr (.lst (placedD a))), some (.lst 1 ((pairedD a b).map .fr)), none, none, none, none, none, none] := by kernel_rfl
theorem es9 : er9 [some (.lst 2 o0), some (.fr (.int a)), some (.fr (.int b)), some (.fr (.str x)), some (.fr (ringD a b)), some (.fr (.lst (namedD x))), some (.fr (.lst (placedD a))), some (.lst 1 ((pairedD a b).map .fr)), none, none, none, none, none, none] = .ok .nx [some (.lst 2 o0), some (.fr (.int a)), some (.fr (.int b)), some (.fr (.str x)), some (.fr (ringD a b)), some (.fr (.lst (namedD x))), some (.fr (.lst (placedD a))), some (.lst 1 ((pairedD a b).map .fr)), some (.fr (.lst (othersD a b))), none, none, none, none, none] := by kernel_rfl
theorem es10 : er10 [some (.lst 2 o0), some (.fr (.int a)), some (.fr (.int b)), some (.fr (.str x)), some (.fr (ringD a b)), some (.fr (.lst (namedD x))), some (.fr (.lst (placedD a))), some (.lst 1 ((pairedD a b).map .fr)), some (.fr (.lst (othersD a b))), none, none, none, none, none] = .ok .nx [some (.lst 2 o0), some (.fr (.int a)), some (.fr (.int b)), some (.fr (.str x)), some (.fr (ringD a b)), some (.fr (.lst (namedD x))), some (.fr (.lst (placedD a))), some (.fr (.lst (pairedD a b))), some (.fr (.lst (othersD a b))), some (.fr (.lst (rowsD x a b))), none, none, none, none] := by kernel_rfl
theorem es15 : er15 h [some (.lst 2 o0), some (.fr (.int a)), some (.fr (.int b)), some (.fr (.str x)), some (.fr (ringD a b)), some (.fr (.lst (namedD x))), some (.fr (.lst (placedD a))), some (.fr (.lst (pairedD a b))), some (.fr (.lst (othersD a b))), some (.fr (.lst (rowsD x a b))), some (.fr (.int 29)), none, none, none] = .ok .nx [some (.lst 2 o0), some (.fr (.int a)), some (.fr (.int b)), some (.fr (.str x)), some (.fr (ringD a b)), some (.fr (.lst (namedD x))), some (.fr (.lst (placedD a))), some (.fr (.lst (pairedD a b))), some (.fr (.lst (othersD a b))), some (.fr (.lst (rowsD x a b))), some (.fr (.int 29)), some (.fr (.lst [.int a, .int b, .int 9, .int a, ringD a b, ringD a b])), none, none] := by kernel_rfl
theorem es16 : er16 h [some (.lst 2 o0), some (.fr (.int a)), some (.fr (.int b)), some (.fr (.str x)), some (.fr (ringD a b)), some (.fr (.lst (namedD x))), some (.fr (.lst (placedD a))), some (.fr (.lst (pairedD a b))), some (.fr (.lst (othersD a b))), some (.fr (.lst (rowsD x a b))), some (.fr (.int 29)), some (.fr (.lst [.int a, .int b, .int 9, .int a, ringD a b, ringD a b])), none, none] = .ok .nx [some (.lst 2 o0), some (.fr (.int a)), some (.fr (.int b)), some (.fr (.str x)), some (.fr (ringD a b)), some (.fr (.lst (namedD x))), some (.fr (.lst (placedD a))), some (.fr (.lst (pairedD a b))), some (.fr (.lst (othersD a b))), some (.fr (.lst (rowsD x a b))), some (.fr (.int 29)), some (.fr (.lst (toldD a b))), none, none] := by kernel_rfl
end
theorem not_all {f : M O} {s s1 : S} {m : Nat} (e : f s = .ok (trues m) s1) : DF.tNot (tE dTru (eCB oAll (aCons f aNil))) s = .ok false s1 := t_not (b := true) (t_e (e_cb (a_cons e a_nil) (trues_all m)) rfl)
theorem st13 (h : Hy K mg) {x : Str} (hx : PyData.strOk x = true) (a b : Int) (o0 : List O) : (DF.tOr (DF.tNot (tE dTru (eCB oAll (aCons (eLc (iSeqD (eVar 5)) (tgN 13) (DF.ret true) (eBin (dEq false) (eUn (dXv (XTn h) 0) (eVar 13)) (eVar 3)) [13]) aNil)))) (DF.tNot (tE dTru (eCB oAll (aCons (eLc (iSeqD (eVar 6)) (tgN 13) (DF.ret true) (eBin (dEq false) (eUn (dXv (XTn h) 1) (eVar 13)) (eVar 1)) [13]) aNil))))) [some (.lst 2 o0), some (.fr (.int a)), some (.fr (.int b)), some (.fr (.str x)), some (.fr (ringD a b)), some (.fr (.lst (namedD x))), some (.fr (.lst (placedD a))), some (.fr (.lst (pairedD a b))), some (.fr (.lst (othersD a b))), some (.fr (.lst (rowsD x a b))), some (.fr (.int 29)), none, none, none] = .ok false [some (.lst 2 o0), some (.fr (.int a)), some (.fr (.int b)), some (.fr (.str x)), some (.fr (ringD a b)), some (.fr (.lst (namedD x))), some (.fr (.lst (placedD a))), some (.fr (.lst (pairedD a b))), some (.fr (.lst (othersD a b))), some (.fr (.lst (rowsD x a b))), some (.fr (.int 29)), none, none, none] := by
  have n1 := lc_true (i := 13) (te := eBin (dEq false) (eUn (dXv (XTn h) 0) (eVar 13)) (eVar 3)) (vs := [13]) (s := [some (.lst 2 o0), some (.fr (.int a)), some (.fr (.int b)), some (.fr (.str x)), some (.fr (ringD a b)), some (.fr (.lst (namedD x))), some (.fr (.lst (placedD a))), some (.fr (.lst (pairedD a b))), some (.fr (.lst (othersD a b))), some (.fr (.lst (rowsD x a b))), some (.fr (.int 29)), none, none, none]) (namedD x) 0 (by show 3 < 10000; decide) (fun d hd => by
    simp only [List.mem_cons, List.not_mem_nil, or_false] at hd
    rcases hd with rfl | rfl | rfl <;> exact e_bin (o := .fr (.str x)) (o2 := .fr (.str x)) (e_un (e_var rfl) rfl) (e_var rfl) (dEq_same hx)) (fun _ => rfl)
  have n2 := lc_true (i := 13) (te := eBin (dEq false) (eUn (dXv (XTn h) 1) (eVar 13)) (eVar 1)) (vs := [13]) (s := [some (.lst 2 o0), some (.fr (.int a)), some (.fr (.int b)), some (.fr (.str x)), some (.fr (ringD a b)), some (.fr (.lst (namedD x))), some (.fr (.lst (placedD a))), some (.fr (.lst (pairedD a b))), some (.fr (.lst (othersD a b))), some (.fr (.lst (rowsD x a b))), some (.fr (.int 29)), none, none, none]) (placedD a) 0 (by show 9 < 10000; decide) (fun d hd => by
    simp only [List.mem_cons, List.not_mem_nil, or_false] at hd
    rcases hd with rfl | rfl | rfl | rfl | rfl | rfl | rfl | rfl | rfl <;> exact e_bin (o := .fr (.int a)) (o2 := .fr (.int a)) (e_un (e_var rfl) rfl) (e_var rfl) (dEq_same rfl)) (fun _ => rfl)
  refine (t_or (b := false) (not_all ((e_lc (i_seq (o := .fr (.lst (namedD x))) (e_var rfl) rfl)).trans n1))).trans ?_
  exact not_all ((e_lc (i_seq (o := .fr (.lst (placedD a))) (e_var rfl) rfl)).trans n2)
theorem st14 (h : Hy K mg) (x : Str) (a b : Int) (o0 : List O) : (DF.tOr (DF.tNot (tE dTru (eCB oAll (aCons (eLc (iSeqD (eRd 7)) (tgN 13) (DF.ret true) (eAndV (eBin (dEq false) (eUn (dXv (XTn h) 3) (eVar 13)) (eVar 1)) (eBin (dEq false) (eUn (dXv (XTn h) 4) (eVar 13)) (eVar 2))) [13]) aNil)))) (tE blD (eBin (dEq true) (eUn (dXv (XTn h) 2) (eBin dIx (eVar 8) (eC (.int 0)))) (eVar 2)))) [some (.lst 2 o0), some (.fr (.int a)), some (.fr (.int b)), some (.fr (.str x)), some (.fr (ringD a b)), some (.fr (.lst (namedD x))), some (.fr (.lst (placedD a))), some (.fr (.lst (pairedD a b))), some (.fr (.lst (othersD a b))), some (.fr (.lst (rowsD x a b))), some (.fr (.int 29)), none, none, none] = .ok false [some (.lst 2 o0), some (.fr (.int a)), some (.fr (.int b)), some (.fr (.str x)), some (.fr (ringD a b)), some (.fr (.lst (namedD x))), some (.fr (.lst (placedD a))), some (.fr (.lst (pairedD a b))), some (.fr (.lst (othersD a b))), some (.fr (.lst (rowsD x a b))), some (.fr (.int 29)), none, none, none] := by
  have n1 := lc_true (i := 13) (te := eAndV (eBin (dEq false) (eUn (dXv (XTn h) 3) (eVar 13)) (eVar 1)) (eBin (dEq false) (eUn (dXv (XTn h) 4) (eVar 13)) (eVar 2))) (vs := [13]) (s := [some (.lst 2 o0), some (.fr (.int a)), some (.fr (.int b)), some (.fr (.str x)), some (.fr (ringD a b)), some (.fr (.lst (namedD x))), some (.fr (.lst (placedD a))), some (.fr (.lst (pairedD a b))), some (.fr (.lst (othersD a b))), some (.fr (.lst (rowsD x a b))), some (.fr (.int 29)), none, none, none]) (pairedD a b) 0 (by show 7 < 10000; decide) (fun d hd => by
    simp only [List.mem_cons, List.not_mem_nil, or_false] at hd
    rcases hd with rfl | rfl | rfl | rfl | rfl | rfl | rfl <;> exact (e_and (e_bin (o := .fr (.int a)) (o2 := .fr (.int a)) (e_un (e_var rfl) rfl) (e_var rfl) (dEq_same rfl))).trans (e_bin (o := .fr (.int b)) (o2 := .fr (.int b)) (e_un (e_var rfl) rfl) (e_var rfl) (dEq_same rfl))) (fun _ => rfl)
  refine (t_or (b := false) (not_all ((e_lc (i_seq (o := .fr (.lst (pairedD a b))) rfl rfl)).trans n1))).trans ?_
  exact t_e (e_bin (o := .fr (.int b)) (o2 := .fr (.int b)) (e_un (o := .fr (ex1 6 2 (.int b))) (e_bin (o := .fr (.lst (othersD a b))) (o2 := .fr (.int 0)) (e_var rfl) rfl rfl) rfl) (e_var rfl) (dNe_self rfl)) rfl
theorem st17 (x : Str) (a b : Int) (o0 : List O) : er17 [some (.lst 2 o0), some (.fr (.int a)), some (.fr (.int b)), some (.fr (.str x)), some (.fr (ringD a b)), some (.fr (.lst (namedD x))), some (.fr (.lst (placedD a))), some (.fr (.lst (pairedD a b))), some (.fr (.lst (othersD a b))), some (.fr (.lst (rowsD x a b))), some (.fr (.int 29)), some (.fr (.lst (toldD a b))), none, none] = .ok (.rt (.fr (.bl true))) [some (.lst 2 o0), some (.fr (.int a)), some (.fr (.int b)), some (.fr (.str x)), some (.fr (ringD a b)), some (.fr (.lst (namedD x))), some (.fr (.lst (placedD a))), some (.fr (.lst (pairedD a b))), some (.fr (.lst (othersD a b))), some (.fr (.lst (rowsD x a b))), some (.fr (.int 29)), some (.fr (.lst (toldD a b))), none, none] := by
  have e : (eCB oLst (aCons (eVar 1) (aCons (eVar 2) (aCons (eC (.int 9)) (aCons (eVar 1) (aCons (eVar 4) (aCons (eVar 4) (aCons (eC (.bl true)) (aCons (eCB oTup (aCons (eVar 1) (aCons (eVar 2) aNil))) (aCons (eVar 4) (aCons (eVar 4) aNil))))))))))) [some (.lst 2 o0), some (.fr (.int a)), some (.fr (.int b)), some (.fr (.str x)), some (.fr (ringD a b)), some (.fr (.lst (namedD x))), some (.fr (.lst (placedD a))), some (.fr (.lst (pairedD a b))), some (.fr (.lst (othersD a b))), some (.fr (.lst (rowsD x a b))), some (.fr (.int 29)), some (.fr (.lst (toldD a b))), none, none] = .ok (nl (toldD a b)) [some (.lst 2 o0), some (.fr (.int a)), some (.fr (.int b)), some (.fr (.str x)), some (.fr (ringD a b)), some (.fr (.lst (namedD x))), some (.fr (.lst (placedD a))), some (.fr (.lst (pairedD a b))), some (.fr (.lst (othersD a b))), some (.fr (.lst (rowsD x a b))), some (.fr (.int 29)), some (.fr (.lst (toldD a b))), none, none] := by kernel_rfl
  have e1 := e_bin (f := eVar 11) (op := dEq false) (o := .fr (.lst (toldD a b))) (r := .fr (.bl true)) (e_var rfl) e (by rw [fz_nl]; exact dEq_same rfl)
  refine s_ret ((e_and e1).trans ?_)
  kernel_rfl
theorem r_errors (h : Hy K mg) (is : List Int) : ∃ is' : List Int, runDef 13 (d__law_errors h) [some (dr 2 is)] = .ok (.fr (.bl true)) [some (dr 2 is')] := by
  obtain ⟨r1, i1, e1, _, _⟩ := c_take (j := 0) (t := 2) (is := is) (f := eC (.int 24)) (m := 24) (s := [some (dr 2 is), none, none, none, none, none, none, none, none, none, none, none, none, none]) (by decide) rfl rfl
  obtain ⟨r2, i2, e2, _, _⟩ := c_take (j := 0) (t := 2) (is := i1) (f := eC (.int 24)) (m := 24) (s := [some (dr 2 i1), some (.fr (.int (r1 - 1))), none, none, none, none, none, none, none, none, none, none, none, none]) (by decide) rfl rfl
  obtain ⟨r3, i3, e3, r30, r31⟩ := c_take (j := 0) (t := 2) (is := i2) (f := eC (.int 3)) (m := 3) (s := [some (dr 2 i2), some (.fr (.int (r1 - 1))), some (.fr (.int (r2 + 1))), none, none, none, none, none, none, none, none, none, none, none]) (by decide) rfl rfl
  have hk : ∃ x : Str, ([.str "size", .str "first", .str "orders"] : List D)[r3.toNat]? = some (.str x) ∧ PyData.strOk x = true := by
    have : r3 = 0 ∨ r3 = 1 ∨ r3 = 2 := by omega
    rcases this with rfl | rfl | rfl
    · exact ⟨_, rfl, by decide +kernel⟩
    · exact ⟨_, rfl, by decide +kernel⟩
    · exact ⟨_, rfl, by decide +kernel⟩
  obtain ⟨x, hx, ok⟩ := hk
  refine ⟨i3, run_rt (n := 13) (os := [some (dr 2 is)]) (F := d__law_errors h) (o := .fr (.bl true)) (s1 := [some (dr 2 i3), some (.fr (.int (r1 - 1))), some (.fr (.int (r2 + 1))), some (.fr (.str x)), some (.fr (ringD (r1 - 1) (r2 + 1))), some (.fr (.lst (namedD x))), some (.fr (.lst (placedD (r1 - 1)))), some (.fr (.lst (pairedD (r1 - 1) (r2 + 1)))), some (.fr (.lst (othersD (r1 - 1) (r2 + 1)))), some (.fr (.lst (rowsD x (r1 - 1) (r2 + 1)))), some (.fr (.int 29)), some (.fr (.lst (toldD (r1 - 1) (r2 + 1)))), none, none]) ?_⟩
  refine (s_seq (s_asg (e_bin (o2 := .fr (.int 1)) e1 rfl rfl))).trans ?_
  refine (s_seq (s_asg (e_bin (o2 := .fr (.int 1)) e2 rfl rfl))).trans ?_
  refine (s_seq (s_asg (e_pick (ds := [.str "size", .str "first", .str "orders"]) rfl (by simp) e3 r30 hx))).trans ?_
  refine (s_seq (es3 x (r1 - 1) (r2 + 1) (i3.map fun i => .fr (.int i)))).trans ?_
  refine (s_seq (es4 x (r1 - 1) (r2 + 1) (i3.map fun i => .fr (.int i)))).trans ?_
  refine (s_seq (es5 x (r1 - 1) (r2 + 1) (i3.map fun i => .fr (.int i)))).trans ?_
  refine (s_seq (es6 x (r1 - 1) (r2 + 1) (i3.map fun i => .fr (.int i)))).trans ?_
  refine (s_seq (es7 x (r1 - 1) (r2 + 1) (i3.map fun i => .fr (.int i)))).trans ?_
  refine (s_seq (es8 x (r1 - 1) (r2 + 1) (i3.map fun i => .fr (.int i)))).trans ?_
  refine (s_seq (es9 x (r1 - 1) (r2 + 1) (i3.map fun i => .fr (.int i)))).trans ?_
  refine (s_seq (es10 x (r1 - 1) (r2 + 1) (i3.map fun i => .fr (.int i)))).trans ?_
  refine (s_seq (er_loop h x (r1 - 1) (r2 + 1) (i3.map fun i => .fr (.int i)) (.lst (pairedD (r1 - 1) (r2 + 1))))).trans ?_
  refine (q_no (st13 h ok (r1 - 1) (r2 + 1) (i3.map fun i => .fr (.int i)))).trans ?_
  refine (q_no (st14 h x (r1 - 1) (r2 + 1) (i3.map fun i => .fr (.int i)))).trans ?_
  refine (s_seq (es15 h x (r1 - 1) (r2 + 1) (i3.map fun i => .fr (.int i)))).trans ?_
  refine (s_seq (es16 h x (r1 - 1) (r2 + 1) (i3.map fun i => .fr (.int i)))).trans ?_
  exact st17 x (r1 - 1) (r2 + 1) (i3.map fun i => .fr (.int i))
end Q99
end

section
set_option maxRecDepth 100000
set_option maxHeartbeats 1000000
namespace Q99
open PySem PySem.Spec PyProof.Rows L2 DF Gk99
variable {K : PySem.W.Frag} {mg : Str → Option Value}
structure Rp (n W : Nat) (d : D) : Prop where
  ok : okE n d = true
  sh : (toPy d).showable = true
  hd : (toPy d).hasDict = false
  lv : (toPy d).leavesShort 20 = true
  bk : (toPy d).bulk ≤ W
theorem rp_all {n W : Nat} : ∀ {vs : List D}, (∀ v ∈ vs, Rp n W v) → okEL n vs = true ∧ PyData.showableAll (toPyL vs) = true ∧ PyData.hasDictAll (toPyL vs) = false ∧ PyData.leavesShortAll 20 (toPyL vs) = true ∧ PyData.bulkAll (toPyL vs) ≤ vs.length * (W + 1)
  | [], _ => ⟨by cases n <;> rfl, rfl, rfl, rfl, by simp [toPyL, PyData.bulkAll]⟩
  | v :: vs, h => by
    have a := h v List.mem_cons_self
    obtain ⟨b1, b2, b3, b4, b5⟩ := rp_all (vs := vs) fun x hx => h x (List.mem_cons_of_mem _ hx)
    refine ⟨?_, ?_, ?_, ?_, ?_⟩
    · have : okEL n (v :: vs) = (okE n v && okEL n vs) := by cases n <;> rfl
      rw [this, a.ok, b1]; rfl
    · simp only [toPyL, PyData.showableAll, a.sh, b2]; rfl
    · simp only [toPyL, PyData.hasDictAll, a.hd, b3]; rfl
    · simp only [toPyL, PyData.leavesShortAll, a.lv, b4]; rfl
    · simp only [toPyL, PyData.bulkAll, List.length_cons]
      have := a.bk
      have e : (vs.length + 1) * (W + 1) = vs.length * (W + 1) + (W + 1) := by rw [Nat.add_mul]; omega
      omega
theorem Rp.lst {n W m : Nat} {vs : List D} (h : ∀ v ∈ vs, Rp n W v) (hl : vs.length ≤ m) : Rp (n + 1) (m * (W + 1)) (.lst vs) := by
  obtain ⟨b1, b2, b3, b4, b5⟩ := rp_all h
  exact ⟨b1, b2, b3, b4, Nat.le_trans b5 (Nat.mul_le_mul_right _ hl)⟩
theorem Rp.tup {n W m : Nat} {vs : List D} (h : ∀ v ∈ vs, Rp n W v) (hl : vs.length ≤ m) : Rp (n + 1) (m * (W + 1)) (.tup vs) := by
  obtain ⟨b1, b2, b3, b4, b5⟩ := rp_all h
  exact ⟨b1, b2, b3, b4, Nat.le_trans b5 (Nat.mul_le_mul_right _ hl)⟩
theorem Rp.mono {n W n' W' : Nat} {d : D} (h : Rp n W d) (hW : W ≤ W') (hn : ∀ d, okE n d = true → okE n' d = true) : Rp n' W' d := ⟨hn _ h.ok, h.sh, h.hd, h.lv, Nat.le_trans h.bk hW⟩
theorem ent_rp (n : Nat) {v : D} (h : ent v) : Rp (n + 1) 4 v := by
  rcases h with ⟨i, rfl, h1, h2⟩ | rfl | rfl | rfl | rfl | rfl | rfl
  · have all : ∀ k : Fin 201, (decide (((k.val : Int) - 100).natAbs.log2 < 1920) && decide ((PyData.shown (.int ((k.val : Int) - 100))).length ≤ 20)) = true := by decide +kernel
    have e := all ⟨(i + 100).toNat, by omega⟩
    have q : (((i + 100).toNat : Nat) : Int) - 100 = i := by omega
    simp only [q] at e
    obtain ⟨e1, e2⟩ := Bool.and_eq_true_iff.mp e
    exact ⟨rfl, e1, rfl, e2, Nat.zero_le _⟩
  all_goals exact ⟨by first | rfl | (show PyData.strOk _ = true; decide +kernel), by decide +kernel, by decide +kernel, by decide +kernel, by decide +kernel⟩
theorem r_repr {n W : Nat} {d : D} (h : Rp n W d) (hn : okE n d = true → okE 16 d = true) (hW : W ≤ 4000) : oRepr [d] = some (.fr (.str (toPy d).shown)) := by
  have o := hn h.ok
  have dp := (okE_ok 16 d o).2
  have ln := PyData.shown_le_bulk 20 (by decide) (toPy d) h.lv
  have := h.bk
  unfold oRepr
  simp only
  rw [if_pos ⟨o, h.sh, h.hd, by omega, by omega⟩]
theorem two_rp {v : D} (h : two v) : Rp 15 15 v := by
  rcases h with ⟨a, b, ha, hb, h⟩ | ⟨vs, hl, hvs, rfl⟩ | rfl | rfl | rfl
  · have q : ∀ d ∈ [a, b], Rp 14 4 d := fun d hd => by
      rcases List.mem_cons.mp hd with rfl | hd
      · exact ent_rp 13 ha
      · rw [List.mem_singleton.mp hd]; exact ent_rp 13 hb
    rcases h with rfl | rfl
    · exact Rp.tup (m := 3) q (by simp)
    · exact Rp.lst (m := 3) q (by simp)
  · exact Rp.lst (m := 3) (fun d hd => ent_rp 13 (hvs d hd)) hl
  all_goals exact ⟨by decide +kernel, by decide +kernel, by decide +kernel, by decide +kernel, by decide +kernel⟩
theorem sev_rp {v : D} (h : sev v) : Rp 16 640 v := by
  rcases h with rfl | rfl | rfl | rfl | ⟨vs, hl, hvs, h⟩
  · exact ⟨by decide +kernel, by decide +kernel, by decide +kernel, by decide +kernel, by decide +kernel⟩
  · exact ⟨by decide +kernel, by decide +kernel, by decide +kernel, by decide +kernel, by decide +kernel⟩
  · exact ⟨by decide +kernel, by decide +kernel, by decide +kernel, by decide +kernel, by decide +kernel⟩
  · exact ⟨by decide +kernel, by decide +kernel, by decide +kernel, by decide +kernel, by decide +kernel⟩
  · have q : ∀ d ∈ vs, Rp 15 15 d := fun d hd => (hvs d hd).elim (fun e => by
      have r := ent_rp 14 e
      exact ⟨r.ok, r.sh, r.hd, r.lv, Nat.le_trans r.bk (by decide)⟩) two_rp
    rcases h with rfl | rfl
    · exact Rp.lst (m := 40) q hl
    · exact Rp.tup (m := 40) q hl
theorem two_rp16 {v : D} (h : two v) : ∃ x : Str, oRepr [v] = some (.fr (.str x)) := by
  have r := two_rp h
  refine ⟨_, r_repr r (fun o => ?_) (by decide)⟩
  rcases h with ⟨a, b, ha, hb, h⟩ | ⟨vs, hl, hvs, rfl⟩ | rfl | rfl | rfl
  · have q : ∀ d ∈ [a, b], Rp 15 4 d := fun d hd => by
      rcases List.mem_cons.mp hd with rfl | hd
      · exact ent_rp 14 ha
      · rw [List.mem_singleton.mp hd]; exact ent_rp 14 hb
    rcases h with rfl | rfl
    · exact (Rp.tup (m := 3) q (by simp)).ok
    · exact (Rp.lst (m := 3) q (by simp)).ok
  · exact (Rp.lst (m := 3) (fun d hd => ent_rp 14 (hvs d hd)) hl).ok
  all_goals decide +kernel
theorem sev_rp16 {v : D} (h : sev v) : ∃ x : Str, oRepr [v] = some (.fr (.str x)) := ⟨_, r_repr (sev_rp h) id (by decide)⟩
theorem rp_strOk {x : Str} : True := trivial
/-! ### the answers are nice -/
theorem nice_lot (n : Int) (e : Bool) {vs : List D} (hl : vs.length ≤ 40) : niceA false (lotN n e vs) := by
  unfold lotN
  split
  · exact .inr (.inl rfl)
  · split
    · exact .inr (.inl rfl)
    · rename_i hf
      obtain ⟨is, rfl⟩ := fbs_ints hf
      rw [intsD_map]
      rw [List.length_map] at hl
      refine ⟨[srtI is], by simp, fun js hj => ?_, srtI is, rfl, rfl⟩
      rw [List.mem_singleton.mp hj]
      unfold srtI
      rw [List.length_mergeSort]; omega
theorem nice_row (n : Int) {vs : List D} (hl : vs.length ≤ 40) : niceA false (rowN n vs) := by
  unfold rowN
  split
  · split
    · exact .inr (.inr rfl)
    · rename_i hf
      obtain ⟨is, rfl⟩ := fbs_ints hf
      rw [List.length_map] at hl
      refine ⟨[is], by simp, fun js hj => ?_, is, rfl, rfl⟩
      rw [List.mem_singleton.mp hj]; omega
  · exact .inr (.inr rfl)
theorem nice_pr (w : Bool) {r : Nat ⊕ List (Int × Int)} (hr : ∀ ps, r = .inr ps → ps.length ≤ 40) : niceA true (prN w r) := by
  cases r with
  | inl k => exact .inl rfl
  | inr ps =>
    have h := hr ps rfl
    have gen : ∀ qs : List (Int × Int), qs.length ≤ 40 → niceA true (.told (.tup ((srtP qs).map DF.pairD))) := fun qs hq => by
      refine ⟨(srtP qs).map fun p => [p.1, p.2], ?_, fun is hi => ?_, ?_⟩
      · unfold srtP; rw [List.length_map, List.length_mergeSort]; omega
      · obtain ⟨p, _, rfl⟩ := List.mem_map.mp hi
        simp
      · rw [if_pos rfl, List.map_map]; rfl
    cases w with
    | true => exact gen ps h
    | false => exact gen (ps.map norm) (by rw [List.length_map]; exact h)
theorem nice_p1 (r : Option (Int × Int)) : niceA false (p1N r) := by
  cases r with
  | none => exact .inl rfl
  | some p => exact ⟨[[p.1, p.2]], by simp, fun is hi => (by rw [List.mem_singleton.mp hi]; simp), [p.1, p.2], rfl, rfl⟩
end Q99
end

section
set_option maxRecDepth 100000
set_option maxHeartbeats 1000000
namespace Q99
open PySem PySem.Spec PyProof.Rows L2 DF Gk99
variable {K : PySem.W.Frag} {mg : Str → Option Value}
theorem c_io3 {den : M O} {j t : Nat} {is is' : List Int} {f g : M O} {o o2 r : O} {s : S} (hs : s[j]? = some (some (dr t is))) (hf : f s = .ok o s) (hg : g s = .ok o2 s) (hd : den [some (dr 2 is), some (.fr (fz o)), some (.fr (fz o2))] = .ok r [some (dr 2 is'), none, none]) :
    eCallJ 3 den [] (aConsV j (aConsD f (aConsD g aNilJ))) s = .ok (retag 1 r) (s.set j (some (dr t is'))) := by
  have ht : takeA 0 [Sum.inr j, Sum.inl (fz o), Sum.inl (fz o2)] s = some ([some (dr 2 is), some (.fr (fz o)), some (.fr (fz o2))], s.set j none) := by
    unfold takeA
    rw [hs]
    rfl
  refine (e_call (j_v hs (j_d hf (j_d hg j_nil))) rfl ht hd).trans ?_
  have hg : tgS s j = t := by unfold tgS; rw [hs]; rfl
  simp only [putA, hg, dr_retag, List.set_set]
theorem c_io1 {den : M O} {j t : Nat} {is is' : List Int} {r : O} {s : S} (hs : s[j]? = some (some (dr t is))) (hd : den [some (dr 2 is)] = .ok r [some (dr 2 is')]) :
    eCallJ 1 den [] (aConsV j aNilJ) s = .ok (retag 1 r) (s.set j (some (dr t is'))) := by
  have ht : takeA 0 [Sum.inr j] s = some ([some (dr 2 is)], s.set j none) := by
    unfold takeA
    rw [hs]
    rfl
  refine (e_call (j_v hs j_nil) rfl ht hd).trans ?_
  have hg : tgS s j = t := by unfold tgS; rw [hs]; rfl
  simp only [putA, hg, dr_retag, List.set_set]
abbrev LS (x0 : Option O) (is : List Int) (k : Int) (xs : List (Option O)) : S := x0 :: some (dr 1 is) :: some (.fr (.int k)) :: xs
abbrev lwA : M Fl := (sAsg (tgN 3) (eBin dAdd (eC (.int 1)) (eCallJ 2 (runDef 0 d__law_take) [] (aConsV 1 (aConsD (eC (.int 9)) aNilJ)))))
abbrev lwB : M Fl := (sIf (tE blD (eBin (dEq false) (eVar 3) (eC (.int 9)))) (sAsg (tgN 3) (eC (.int 40))) sNx)
abbrev lwC : M Fl := (sAsg (tgN 4) (eBin dIx (eCB oLst (aCons (eC (.int 0)) (aCons (eC (.int 2)) (aCons (eC (.int 3)) (aCons (eC (.int 4)) (aCons (eC (.int 1)) (aCons (eC (.int 5)) aNil))))))) (eBin dMod (eCB oInt (aCons (eBin dAdd (eVar 2) (eCallJ 2 (runDef 0 d__law_take) [] (aConsV 1 (aConsD (eC (.int 6)) aNilJ)))) aNil)) (eC (.int 6)))))
abbrev lwD : M Fl := (sAsg (tgN 5) (eCallJ 3 (runDef 5 d__law_several) [] (aConsV 1 (aConsD (eVar 3) (aConsD (eBin (dI2 fun i j => decide (j < i)) (eVar 4) (eC (.int 2))) aNilJ)))))
abbrev lwE : M Fl := (sIf (tE blD (eBin (dEq false) (eVar 4) (eC (.int 5)))) (sAsg (tgN 5) (eCallJ 2 (runDef 4 d__law_two) [] (aConsV 1 (aConsD (eVar 3) aNilJ)))) sNx)
abbrev lwF : M Fl := (sAsg (tgN 6) (eCB oRepr (aCons (eVar 5) aNil)))
abbrev lwG (h : Hy K mg) : M Fl := (sIf (tE blD (eBin dLt (eVar 4) (eC (.int 3)))) (sAsg (tgN 7) (eCallJ 3 (runDef 2 (d__law_due_things h)) [] (aConsD (eVar 5) (aConsD (eVar 3) (aConsD (eVar 4) aNilJ))))) (sIf (tE blD (eBin dLt (eVar 4) (eC (.int 5)))) (sAsg (tgN 7) (eCallJ 3 (runDef 5 (d__law_due_pairs h)) [] (aConsD (eVar 5) (aConsD (eVar 3) (aConsD (eBin (dEq false) (eVar 4) (eC (.int 4))) aNilJ))))) (sIf (tE dTru (eCallJ 2 (runDef 0 (d__law_good_pair h)) [] (aConsD (eVar 5) (aConsD (eVar 3) aNilJ)))) (sAsg (tgN 7) (eCB oLst (aCons (eC (.str "told")) (aCons (eCB oTup (aCons (eBin dIx (eVar 5) (eC (.int 0))) (aCons (eBin dIx (eVar 5) (eC (.int 1))) aNil))) aNil)))) (sAsg (tgN 7) (eCB oLst (aCons (eC (.str "pair")) (aCons (eC (.int 0)) aNil)))))))
abbrev lwH (h : Hy K mg) : M Fl := (sIf (DF.tOr (DF.tNot (tE dTru (eCallJ 3 (runDef 3 (d__law_same h)) [] (aConsD (eCallJ 3 (runDef 2 (d__law_asked h)) [] (aConsD (eVar 4) (aConsD (eVar 3) (aConsD (eVar 5) aNilJ)))) (aConsD (eVar 7) (aConsD (eBin (dIn false) (eVar 4) (eCB oTup (aCons (eC (.int 3)) (aCons (eC (.int 4)) aNil)))) aNilJ)))))) (tE blD (eBin (dEq true) (eCB oRepr (aCons (eVar 5) aNil)) (eVar 6)))) (sRet (eC (.bl false))) sNx)
abbrev lwI (h : Hy K mg) : M Fl := (sIf (DF.tNot (tE dTru (eCallJ 2 (runDef 4 (d__law_singles h)) [] (aConsV 1 (aConsD (eVar 3) aNilJ))))) (sRet (eC (.bl false))) sNx)
abbrev lwBody (h : Hy K mg) : M Fl := sSeq lwA (sSeq lwB (sSeq lwC (sSeq lwD (sSeq lwE (sSeq lwF (sSeq (lwG h) (sSeq (lwH h) (lwI h))))))))
theorem law_split (h : Hy K mg) : d_law h = sSeq (sSet 1 (eCallJ 1 (runDef 6 d__law_draws) [] (aConsD (eVar 0) aNilJ))) (sSeq (sFor (iRng1D (aCons (eC (.int 6)) aNil)) (tgN 2) (lwBody h)) (sRet (eCallJ 1 (runDef 13 (d__law_errors h)) [] (aConsV 1 aNilJ)))) := rfl
end Q99
end

section
set_option maxRecDepth 100000
set_option maxHeartbeats 1000000
namespace Q99
open PySem PySem.Spec PyProof.Rows L2 DF Gk99
theorem so_app {a b : Str} (h1 : PyData.strOk a = true) (h2 : PyData.strOk b = true) : PyData.strOk (a ++ b) = true := by
  unfold PyData.strOk at *
  show (a.cps ++ b.cps).all _ = true
  rw [Array.all_append, h1, h2]; rfl
theorem so_from : ∀ (ts : List Str) (k : Nat) (acc : Str), PyData.strOk acc = true → (∀ t ∈ ts, PyData.strOk t = true) → PyData.strOk (textFrom k acc ts) = true
  | [], _, acc, h, _ => h
  | t :: ts, k, acc, h, ht => by
    refine so_from ts (k + 1) _ (so_app (so_app h ?_) (ht t List.mem_cons_self)) fun x hx => ht x (List.mem_cons_of_mem _ hx)
    split <;> decide +kernel
theorem so_list {ts : List Str} (ht : ∀ t ∈ ts, PyData.strOk t = true) : PyData.strOk (listText ts) = true := so_app (so_from ts 0 _ (by decide +kernel) ht) (by decide +kernel)
theorem so_join : ∀ ts : List Str, (∀ t ∈ ts, PyData.strOk t = true) → PyData.strOk (Str.join ", " ts) = true
  | [], _ => by decide +kernel
  | [x], h => h x List.mem_cons_self
  | x :: y :: r, h => by
    show PyData.strOk (x ++ ", " ++ Str.join ", " (y :: r)) = true
    exact so_app (so_app (h x List.mem_cons_self) (by decide +kernel)) (so_join (y :: r) fun t ht => h t (List.mem_cons_of_mem _ ht))
theorem so_tuple {ts : List Str} (ht : ∀ t ∈ ts, PyData.strOk t = true) : PyData.strOk (tupleText ts) = true := by
  unfold tupleText
  refine so_app (so_app (by decide +kernel) (so_join ts ht)) ?_
  split <;> decide +kernel
def So (d : D) : Prop := PyData.strOk (toPy d).shown = true
theorem so_all : ∀ {vs : List D}, (∀ v ∈ vs, So v) → ∀ t ∈ PyData.shownAll (toPyL vs), PyData.strOk t = true
  | [], _, t, ht => (nomatch ht)
  | v :: vs, h, t, ht => by
    simp only [toPyL, PyData.shownAll] at ht
    rcases List.mem_cons.mp ht with rfl | ht
    · exact h v List.mem_cons_self
    · exact so_all (fun x hx => h x (List.mem_cons_of_mem _ hx)) t ht
theorem so_lst {vs : List D} (h : ∀ v ∈ vs, So v) : So (.lst vs) := so_list (so_all h)
theorem so_tup {vs : List D} (h : ∀ v ∈ vs, So v) : So (.tup vs) := so_tuple (so_all h)
theorem ent_so {v : D} (h : ent v) : So v := by
  rcases h with ⟨i, rfl, h1, h2⟩ | rfl | rfl | rfl | rfl | rfl | rfl
  · have all : ∀ k : Fin 201, PyData.strOk (PyData.shown (.int ((k.val : Int) - 100))) = true := by decide +kernel
    have e := all ⟨(i + 100).toNat, by omega⟩
    have q : (((i + 100).toNat : Nat) : Int) - 100 = i := by omega
    simp only [q] at e
    exact e
  all_goals (show PyData.strOk _ = true; decide +kernel)
theorem two_so {v : D} (h : two v) : So v := by
  rcases h with ⟨a, b, ha, hb, h⟩ | ⟨vs, hl, hvs, rfl⟩ | rfl | rfl | rfl
  · have q : ∀ d ∈ [a, b], So d := fun d hd => by
      rcases List.mem_cons.mp hd with rfl | hd
      · exact ent_so ha
      · rw [List.mem_singleton.mp hd]; exact ent_so hb
    rcases h with rfl | rfl
    · exact so_tup q
    · exact so_lst q
  · exact so_lst (fun d hd => ent_so (hvs d hd))
  all_goals (show PyData.strOk _ = true; decide +kernel)
theorem sev_so {v : D} (h : sev v) : So v := by
  rcases h with rfl | rfl | rfl | rfl | ⟨vs, hl, hvs, h⟩
  · show PyData.strOk _ = true; decide +kernel
  · show PyData.strOk _ = true; decide +kernel
  · show PyData.strOk _ = true; decide +kernel
  · show PyData.strOk _ = true; decide +kernel
  · have q : ∀ d ∈ vs, So d := fun d hd => (hvs d hd).elim ent_so two_so
    rcases h with rfl | rfl
    · exact so_lst q
    · exact so_tup q
theorem two_repr {v : D} (h : two v) : ∃ x : Str, oRepr [v] = some (.fr (.str x)) ∧ PyData.strOk x = true := by
  obtain ⟨x, e⟩ := two_rp16 h
  have e' := e
  unfold oRepr at e
  simp only at e
  split at e
  · cases e; exact ⟨_, e', two_so h⟩
  · cases e
theorem sev_repr {v : D} (h : sev v) : ∃ x : Str, oRepr [v] = some (.fr (.str x)) ∧ PyData.strOk x = true := by
  obtain ⟨x, e⟩ := sev_rp16 h
  have e' := e
  unfold oRepr at e
  simp only at e
  split at e
  · cases e; exact ⟨_, e', sev_so h⟩
  · cases e
end Q99
end

section
set_option maxRecDepth 100000
set_option maxHeartbeats 1000000
namespace Q99
open PySem PySem.Spec PyProof.Rows L2 DF Gk99
variable {K : PySem.W.Frag} {mg : Str → Option Value}
def valOk (w : Int) (v : D) : Prop := (w = 5 ∧ two v) ∨ ((w = 0 ∨ w = 1 ∨ w = 2 ∨ w = 3 ∨ w = 4) ∧ sev v)
theorem lw_pre {x0 x3 x4 x5 x6 x7 : Option O} (is : List Int) (k : Int) (F : M Fl) : ∃ (is' : List Int) (n w : Int) (v : D) (x : Str), sSeq lwA (sSeq lwB (sSeq lwC (sSeq lwD (sSeq lwE (sSeq lwF F))))) [x0, some (dr 1 is), some (.fr (.int k)), x3, x4, x5, x6, x7] = F [x0, some (dr 1 is'), some (.fr (.int k)), some (.fr (.int n)), some (.fr (.int w)), some (.fr v), some (.fr (.str x)), x7] ∧ 0 < n ∧ n ≤ 40 ∧ valOk w v ∧ oRepr [v] = some (.fr (.str x)) ∧ PyData.strOk x = true := by
  obtain ⟨r1, i1, e1, r10, r11⟩ := c_take (j := 1) (t := 1) (is := is) (f := eC (.int 9)) (m := 9) (s := [x0, some (dr 1 is), some (.fr (.int k)), x3, x4, x5, x6, x7]) (by decide) rfl rfl
  have sA : lwA [x0, some (dr 1 is), some (.fr (.int k)), x3, x4, x5, x6, x7] = .ok .nx [x0, some (dr 1 i1), some (.fr (.int k)), some (.fr (.int (1 + r1))), x4, x5, x6, x7] := s_asg (o := .fr (.int (1 + r1))) (e_bin (f := eC (.int 1)) (o := .fr (.int 1)) (o2 := .fr (.int r1)) rfl e1 rfl)
  have sB : ∃ n : Int, lwB [x0, some (dr 1 i1), some (.fr (.int k)), some (.fr (.int (1 + r1))), x4, x5, x6, x7] = .ok .nx [x0, some (dr 1 i1), some (.fr (.int k)), some (.fr (.int n)), x4, x5, x6, x7] ∧ 0 < n ∧ n ≤ 40 := by
    by_cases h9 : 1 + r1 = 9
    · exact ⟨40, (s_if (t_eqi (f := eVar 3) (i := 1 + r1) (e_var rfl) (decide_eq_true h9))).trans (s_asg (f := eC (.int 40)) (o := .fr (.int 40)) rfl), by omega, by omega⟩
    · exact ⟨1 + r1, (s_if (t_eqi (f := eVar 3) (i := 1 + r1) (e_var rfl) (decide_eq_false h9))).trans rfl, by omega, by omega⟩
  obtain ⟨n, sB, hn, hn2⟩ := sB
  obtain ⟨r2, i2, e2, r20, r21⟩ := c_take (j := 1) (t := 1) (is := i1) (f := eC (.int 6)) (m := 6) (s := [x0, some (dr 1 i1), some (.fr (.int k)), some (.fr (.int n)), x4, x5, x6, x7]) (by decide) rfl rfl
  have hm0 : 0 ≤ (k + r2) % 6 := Int.emod_nonneg _ (by decide)
  have hm1 : (k + r2) % 6 < 6 := Int.emod_lt_of_pos _ (by decide)
  have em : eBin dMod (eCB oInt (aCons (eBin dAdd (eVar 2) (eCallJ 2 (runDef 0 d__law_take) [] (aConsV 1 (aConsD (eC (.int 6)) aNilJ)))) aNil)) (eC (.int 6)) [x0, some (dr 1 i1), some (.fr (.int k)), some (.fr (.int n)), x4, x5, x6, x7] = .ok (.fr (.int ((k + r2) % 6))) [x0, some (dr 1 i2), some (.fr (.int k)), some (.fr (.int n)), x4, x5, x6, x7] :=
    e_bin (o := .fr (.int (k + r2))) (o2 := .fr (.int 6)) (e_cb (a_cons (o := .fr (.int (k + r2))) (e_bin (o := .fr (.int k)) (o2 := .fr (.int r2)) (e_var rfl) e2 rfl) a_nil) rfl) rfl rfl
  have hk : ∃ w : Int, ([.int 0, .int 2, .int 3, .int 4, .int 1, .int 5] : List D)[((k + r2) % 6).toNat]? = some (.int w) ∧ (w = 5 ∨ w = 0 ∨ w = 1 ∨ w = 2 ∨ w = 3 ∨ w = 4) := by
    generalize (k + r2) % 6 = m at hm0 hm1
    have : m = 0 ∨ m = 1 ∨ m = 2 ∨ m = 3 ∨ m = 4 ∨ m = 5 := by omega
    rcases this with rfl | rfl | rfl | rfl | rfl | rfl <;> exact ⟨_, rfl, by omega⟩
  obtain ⟨w, hw, w5⟩ := hk
  have sC : lwC [x0, some (dr 1 i1), some (.fr (.int k)), some (.fr (.int n)), x4, x5, x6, x7] = .ok .nx [x0, some (dr 1 i2), some (.fr (.int k)), some (.fr (.int n)), some (.fr (.int w)), x5, x6, x7] := s_asg (e_pick (ds := [.int 0, .int 2, .int 3, .int 4, .int 1, .int 5]) rfl (by simp) em hm0 hw)
  obtain ⟨o, i3, e3, ho, hh⟩ := r_several i2 n hn hn2 (decide (2 < w))
  have c3 := c_io3 (j := 1) (t := 1) (is := i2) (f := eVar 3) (g := (eBin (dI2 fun i j => decide (j < i)) (eVar 4) (eC (.int 2)))) (o := .fr (.int n)) (o2 := .fr (.bl (decide (2 < w)))) (s := [x0, some (dr 1 i2), some (.fr (.int k)), some (.fr (.int n)), some (.fr (.int w)), x5, x6, x7]) rfl (e_var rfl) (e_bin (o := .fr (.int w)) (o2 := .fr (.int 2)) (e_var rfl) rfl rfl) e3
  have sD : lwD [x0, some (dr 1 i2), some (.fr (.int k)), some (.fr (.int n)), some (.fr (.int w)), x5, x6, x7] = .ok .nx [x0, some (dr 1 i3), some (.fr (.int k)), some (.fr (.int n)), some (.fr (.int w)), some (.fr (fz o)), x6, x7] := (s_asg c3).trans (by rw [fz_retag 1 o hh]; rfl)
  have sE : ∃ (v : D) (i4 : List Int), lwE [x0, some (dr 1 i3), some (.fr (.int k)), some (.fr (.int n)), some (.fr (.int w)), some (.fr (fz o)), x6, x7] = .ok .nx [x0, some (dr 1 i4), some (.fr (.int k)), some (.fr (.int n)), some (.fr (.int w)), some (.fr v), x6, x7] ∧ valOk w v := by
    rcases w5 with h5 | hs
    · obtain ⟨o2, i4, e4, h4⟩ := c_two (j := 1) (t := 1) (is := i3) (f := eVar 3) (n := n) (s := [x0, some (dr 1 i3), some (.fr (.int k)), some (.fr (.int n)), some (.fr (.int w)), some (.fr (fz o)), x6, x7]) hn hn2 rfl (e_var rfl)
      exact ⟨fz o2, i4, (s_if (t_eqi (f := eVar 4) (i := w) (e_var rfl) (decide_eq_true h5))).trans (s_asg e4), .inl ⟨h5, h4⟩⟩
    · exact ⟨fz o, i3, (s_if (t_eqi (f := eVar 4) (i := w) (b := false) (e_var rfl) (decide_eq_false (by omega)))).trans rfl, .inr ⟨hs, ho⟩⟩
  obtain ⟨v, i4, sE, hv⟩ := sE
  have hr : ∃ x : Str, oRepr [v] = some (.fr (.str x)) ∧ PyData.strOk x = true := hv.elim (fun z => two_repr z.2) fun z => sev_repr z.2
  obtain ⟨x, hx, hx2⟩ := hr
  have sF : lwF [x0, some (dr 1 i4), some (.fr (.int k)), some (.fr (.int n)), some (.fr (.int w)), some (.fr v), x6, x7] = .ok .nx [x0, some (dr 1 i4), some (.fr (.int k)), some (.fr (.int n)), some (.fr (.int w)), some (.fr v), some (.fr (.str x)), x7] := s_asg (e_cb (a_cons (o := .fr v) (e_var rfl) a_nil) hx)
  exact ⟨i4, n, w, v, x, (s_seq sA).trans ((s_seq sB).trans ((s_seq sC).trans ((s_seq sD).trans ((s_seq sE).trans (s_seq sF))))), hn, hn2, hv, hx, hx2⟩
end Q99
end

section
set_option maxRecDepth 100000
set_option maxHeartbeats 1000000
namespace Q99
open PySem PySem.Spec PyProof.Rows L2 DF Gk99
variable {K : PySem.W.Frag} {mg : Str → Option Value}
def ansA (w n : Int) (v : D) : Ans := if w = 5 then p1N (pr n v) else ansN w n v
def dpA (w : Int) : Bool := decide (w = 3) || decide (w = 4)
theorem c_fr3 {den : M O} {f g k : M O} {s : S} {o1 o2 o3 r : O} (e1 : f s = .ok o1 s) (e2 : g s = .ok o2 s) (e3 : k s = .ok o3 s) (hd : den [some (.fr (fz o1)), some (.fr (fz o2)), some (.fr (fz o3))] = .ok r [none, none, none]) : eCallJ 3 den [] (aConsD f (aConsD g (aConsD k aNilJ))) s = .ok (retag 1 r) s :=
  e_call (np := 3) (dd := []) (os := [some (.fr (fz o1)), some (.fr (fz o2)), some (.fr (fz o3))]) (os2 := [none, none, none]) (j_d e1 (j_d e2 (j_d e3 j_nil))) rfl rfl hd
theorem c_fr2 {den : M O} {f g : M O} {s : S} {o1 o2 r : O} (e1 : f s = .ok o1 s) (e2 : g s = .ok o2 s) (hd : den [some (.fr (fz o1)), some (.fr (fz o2))] = .ok r [none, none]) : eCallJ 2 den [] (aConsD f (aConsD g aNilJ)) s = .ok (retag 1 r) s :=
  e_call (np := 2) (dd := []) (os := [some (.fr (fz o1)), some (.fr (fz o2))]) (os2 := [none, none]) (j_d e1 (j_d e2 j_nil)) rfl rfl hd
theorem dueO_hd (a : Ans) : isHd (dueO a) = false := by cases a <;> rfl
theorem lt_t {s : S} {i : Nat} {w c : Int} {b : Bool} (hs : s[i]? = some (some (.fr (.int w)))) (hb : decide (w < c) = b) : tE blD (eBin dLt (eVar i) (eC (.int c))) s = .ok b s :=
  t_e (e_bin (o := .fr (.int w)) (o2 := .fr (.int c)) (e_var hs) rfl (r := .fr (.bl b)) (by rw [← hb]; rfl)) rfl
theorem lw_G (h : Hy K mg) {x0 x1 x2 x6 x7 : Option O} {n w : Int} {v : D} (hv : valOk w v) : lwG h [x0, x1, x2, some (.fr (.int n)), some (.fr (.int w)), some (.fr v), x6, x7] = .ok .nx [x0, x1, x2, some (.fr (.int n)), some (.fr (.int w)), some (.fr v), x6, some (.fr (fz (dueO (ansA w n v))))] := by
  have fin : ∀ {f : M O} {a : Ans} {s : S}, f s = .ok (retag 1 (dueO a)) s → sAsg (tgN 7) f s = .ok .nx (s.set 7 (some (.fr (fz (dueO a))))) := fun {f a s} e => by
    rw [s_asg e, fz_retag 1 _ (dueO_hd a)]
  rcases hv with ⟨rfl, ht⟩ | ⟨hw, hs⟩
  · refine (s_if (lt_t (i := 4) (c := 3) (b := false) rfl rfl)).trans ((s_if (lt_t (i := 4) (c := 5) (b := false) rfl rfl)).trans ?_)
    have hg := ht.good
    have tg := t_e (op := dTru) (c_gpair h (f := eVar 5) (g := eVar 3) (n := n) (s := [x0, x1, x2, some (.fr (.int n)), some (.fr (.int 5)), some (.fr v), x6, x7]) hg (e_var rfl) (e_var rfl)) rfl
    refine (s_if tg).trans ?_
    unfold ansA
    rw [if_pos rfl]
    cases hp : pr n v with
    | none => rfl
    | some p =>
      have hq := pr_some hg.1 hp
      exact s_asg (e_cb (ds := [.str "told", .tup [.int p.1, .int p.2]]) (a_cons (o := .fr (.str "told")) rfl (a_cons (o := .fr (.tup [.int p.1, .int p.2])) (e_cb (ds := [.int p.1, .int p.2]) (a_cons (o := .fr (.int p.1)) (ix0 hq rfl) (a_cons (o := .fr (.int p.2)) (ix1 hq rfl) a_nil)) rfl) a_nil)) rfl)
  · have n5 : ¬ w = 5 := by omega
    have ea : ansA w n v = ansN w n v := by unfold ansA; rw [if_neg n5]
    rw [ea]
    have hg := hs.g
    by_cases h3 : w < 3
    · have hw3 : w = 0 ∨ w = 1 ∨ w = 2 := by omega
      refine (s_if (lt_t (i := 4) (c := 3) (b := true) rfl (decide_eq_true h3))).trans (fin (c_fr3 (e_var rfl) (e_var rfl) (e_var rfl) ?_))
      rcases hg with hp | ⟨vs, hl, hb, ht⟩
      · have e := r_due_plain h n w hw3 hp
        have ea : ansN w n v = .bad (wTag w) (-1) := by
          unfold ansN wTag
          rw [ofSeq_plain hp]
          rcases hw3 with rfl | rfl | rfl <;> rfl
        rw [ea]; exact e
      · have e := r_due_things h n w hw3 ht (by omega) fun x hx => (hb x hx).1
        have ea : ansN w n v = tN n w vs := by
          unfold ansN tN
          rw [ofSeq_of ht]
          rcases hw3 with rfl | rfl | rfl <;> rfl
        rw [ea]; exact e
    · have hw4 : w = 3 ∨ w = 4 := by omega
      refine (s_if (lt_t (i := 4) (c := 3) (b := false) rfl (decide_eq_false h3))).trans ((s_if (lt_t (i := 4) (c := 5) (b := true) rfl (decide_eq_true (by omega)))).trans (fin (c_fr3 (e_var rfl) (e_var rfl) (e_eqi (e_var rfl)) ?_)))
      rcases hg with hp | ⟨vs, hl, hb, ht⟩
      · have e := r_due_pairs_plain h n (decide (w = 4)) hp
        have ea : ansN w n v = .bad 3 (-1) := by
          unfold ansN
          rw [ofSeq_plain hp]
          rcases hw4 with rfl | rfl <;> rfl
        rw [ea]; exact e
      · have e := r_due_pairs h n (decide (w = 4)) ht (by omega) hb
        have ea : ansN w n v = prN (decide (w = 4)) (prs n [] 0 vs) := by
          unfold ansN
          rw [ofSeq_of ht]
          rcases hw4 with rfl | rfl <;> rfl
        rw [ea]; exact e
theorem lw_H (h : Hy K mg) {x0 x1 x2 : Option O} {n w : Int} {v : D} {x : Str} (hv : valOk w v) (hx : oRepr [v] = some (.fr (.str x))) (ho : PyData.strOk x = true) :
    lwH h [x0, x1, x2, some (.fr (.int n)), some (.fr (.int w)), some (.fr v), some (.fr (.str x)), some (.fr (fz (dueO (ansA w n v))))] = .ok .nx [x0, x1, x2, some (.fr (.int n)), some (.fr (.int w)), some (.fr v), some (.fr (.str x)), some (.fr (fz (dueO (ansA w n v))))] := by
  have ask : runDef 2 (d__law_asked h) [some (.fr (.int w)), some (.fr (.int n)), some (.fr v)] = .ok (.fr (fz (gotO (ansA w n v)))) [none, none, none] := by
    rcases hv with ⟨rfl, ht⟩ | ⟨hw, hs⟩
    · exact r_asked5 h n ht.good
    · have ea : ansA w n v = ansN w n v := by unfold ansA; rw [if_neg (by omega)]
      rw [ea]; exact r_asked h w n hw hs.g
  have nice : niceA (([3, 4] : List Int).any fun j => decide (j = w)) (ansA w n v) := by
    rcases hv with ⟨rfl, ht⟩ | ⟨hw, hs⟩
    · exact nice_p1 _
    · have ea : ansA w n v = ansN w n v := by unfold ansA; rw [if_neg (by omega)]
      rw [ea]
      unfold ansN
      rcases hs.g with hp | ⟨vs, hl, hb, ht⟩
      · rw [ofSeq_plain hp]
        rcases hw with rfl | rfl | rfl | rfl | rfl
        · exact .inr (.inl rfl)
        · exact .inr (.inl rfl)
        · exact .inr (.inr rfl)
        · exact .inl rfl
        · exact .inl rfl
      · rw [ofSeq_of ht]
        have len : ∀ ps, prs n [] 0 vs = .inr ps → ps.length ≤ 40 := fun ps q => by have := prs_len q; simp only [List.length_nil] at this; omega
        rcases hw with rfl | rfl | rfl | rfl | rfl
        · exact nice_lot n false hl
        · exact nice_lot n true hl
        · exact nice_row n hl
        · exact nice_pr false len
        · exact nice_pr true len
  have e1 := c_fr3 (k := (eBin (dIn false) (eVar 4) (eCB oTup (aCons (eC (.int 3)) (aCons (eC (.int 4)) aNil))))) (s := [x0, x1, x2, some (.fr (.int n)), some (.fr (.int w)), some (.fr v), some (.fr (.str x)), some (.fr (fz (dueO (ansA w n v))))]) (c_fr3 (f := eVar 4) (g := eVar 3) (k := eVar 5) (e_var rfl) (e_var rfl) (e_var rfl) ask) (e_var (i := 7) rfl) (in2 (e_var rfl) [3, 4] rfl (by decide)) (r_same h nice)
  have e2 := t_not (t_e (op := dTru) e1 rfl)
  have e3 := (t_or (u := (tE blD (eBin (dEq true) (eCB oRepr (aCons (eVar 5) aNil)) (eVar 6)))) e2).trans (t_e (e_bin (o := .fr (.str x)) (o2 := .fr (.str x)) (e_cb (ds := [v]) (a_cons (o := .fr v) (e_var rfl) a_nil) hx) (e_var rfl) (dNe_self (x := .str x) ho)) rfl)
  exact (s_if e3).trans rfl
theorem lw_I (h : Hy K mg) {x0 x2 x4 x5 x6 x7 : Option O} (is : List Int) {n : Int} (hn : 0 < n) (hn2 : n ≤ 40) : ∃ is' : List Int, lwI h [x0, some (dr 1 is), x2, some (.fr (.int n)), x4, x5, x6, x7] = .ok .nx [x0, some (dr 1 is'), x2, some (.fr (.int n)), x4, x5, x6, x7] := by
  obtain ⟨is', e⟩ := r_singles h is n hn hn2
  have c := c_io (j := 1) (t := 1) (is := is) (f := eVar 3) (o := .fr (.int n)) (s := [x0, some (dr 1 is), x2, some (.fr (.int n)), x4, x5, x6, x7]) rfl (e_var rfl) e
  exact ⟨is', (s_if (t_not (t_e (op := dTru) c rfl))).trans rfl⟩
theorem lw_body (h : Hy K mg) {x0 x3 x4 x5 x6 x7 : Option O} (is : List Int) (k : Int) : ∃ (is' : List Int) (y3 y4 y5 y6 y7 : Option O), lwBody h [x0, some (dr 1 is), some (.fr (.int k)), x3, x4, x5, x6, x7] = .ok .nx [x0, some (dr 1 is'), some (.fr (.int k)), y3, y4, y5, y6, y7] := by
  obtain ⟨i1, n, w, v, x, e, hn, hn2, hv, hx, ho⟩ := lw_pre (x0 := x0) (x3 := x3) (x4 := x4) (x5 := x5) (x6 := x6) (x7 := x7) is k (sSeq (lwG h) (sSeq (lwH h) (lwI h)))
  obtain ⟨i2, e2⟩ := lw_I h (x0 := x0) (x2 := some (.fr (.int k))) (x4 := some (.fr (.int w))) (x5 := some (.fr v)) (x6 := some (.fr (.str x))) (x7 := some (.fr (fz (dueO (ansA w n v))))) i1 hn hn2
  exact ⟨i2, _, _, _, _, _, e.trans ((s_seq (lw_G h hv)).trans ((s_seq (lw_H h hv hx ho)).trans e2))⟩
theorem lw_for (h : Hy K mg) {x0 : Option O} : ∀ (ks is : List Int) (x2 x3 x4 x5 x6 x7 : Option O), ∃ (is' : List Int) (y2 y3 y4 y5 y6 y7 : Option O), lpFor (tgN 2) (lwBody h) (ks.map .int) [x0, some (dr 1 is), x2, x3, x4, x5, x6, x7] = .ok .nx [x0, some (dr 1 is'), y2, y3, y4, y5, y6, y7]
  | [], is, x2, x3, x4, x5, x6, x7 => ⟨is, x2, x3, x4, x5, x6, x7, rfl⟩
  | k :: ks, is, x2, x3, x4, x5, x6, x7 => by
    obtain ⟨i1, y3, y4, y5, y6, y7, e⟩ := lw_body h (x0 := x0) (x3 := x3) (x4 := x4) (x5 := x5) (x6 := x6) (x7 := x7) is k
    obtain ⟨i2, z2, z3, z4, z5, z6, z7, e2⟩ := lw_for h ks i1 (some (.fr (.int k))) y3 y4 y5 y6 y7
    exact ⟨i2, z2, z3, z4, z5, z6, z7, (l_cons (s1 := [x0, some (dr 1 is), some (.fr (.int k)), x3, x4, x5, x6, x7]) rfl e).trans e2⟩
theorem plain (h : Hy K mg) (ns : List Int) (hl : ns.length ≤ 63) : ∃ s1, runDef 7 (d_law h) [some (.fr (scriptD ns))] = .ok (.fr (.bl true)) s1 := by
  obtain ⟨is, ed⟩ := r_draws ns hl
  have c : eCallJ 1 (runDef 6 d__law_draws) [] (aConsD (eVar 0) aNilJ) [some (.fr (scriptD ns)), none, none, none, none, none, none, none] = .ok (dr 1 is) [some (.fr (scriptD ns)), none, none, none, none, none, none, none] :=
    (e_call (np := 1) (dd := []) (os := [some (.fr (scriptD ns))]) (os2 := [none]) (s := [some (.fr (scriptD ns)), none, none, none, none, none, none, none]) (j_d (o := .fr (scriptD ns)) (e_var rfl) j_nil) rfl rfl ed).trans rfl
  have sA : (sSet 1 (eCallJ 1 (runDef 6 d__law_draws) [] (aConsD (eVar 0) aNilJ))) [some (.fr (scriptD ns)), none, none, none, none, none, none, none] = .ok .nx [some (.fr (scriptD ns)), some (dr 1 is), none, none, none, none, none, none] := (s_set c).trans (by rw [dr_retag]; rfl)
  obtain ⟨i2, y2, y3, y4, y5, y6, y7, ef⟩ := lw_for h (x0 := some (.fr (scriptD ns))) [0, 1, 2, 3, 4, 5] is none none none none none none
  have sB : (sFor (iRng1D (aCons (eC (.int 6)) aNil)) (tgN 2) (lwBody h)) [some (.fr (scriptD ns)), some (dr 1 is), none, none, none, none, none, none] = .ok .nx [some (.fr (scriptD ns)), some (dr 1 i2), y2, y3, y4, y5, y6, y7] := (s_for (i_rng1 (j := 6) (s1 := [some (.fr (scriptD ns)), some (dr 1 is), none, none, none, none, none, none]) rfl (by decide))).trans ef
  obtain ⟨i3, ee⟩ := r_errors h i2
  have c1 := c_io1 (j := 1) (t := 1) (s := [some (.fr (scriptD ns)), some (dr 1 i2), y2, y3, y4, y5, y6, y7]) rfl ee
  refine ⟨_, run_rt (n := 7) (os := [some (.fr (scriptD ns))]) (F := d_law h) (s1 := [some (.fr (scriptD ns)), some (dr 1 i3), y2, y3, y4, y5, y6, y7]) ?_⟩
  rw [law_split]
  exact (s_seq sA).trans ((s_seq sB).trans (s_ret c1))
end Q99
end

section
set_option maxRecDepth 100000
set_option maxHeartbeats 0
open PySem PySem.W PySem.Calls PyProof.Rows
theorem PySem.Challenge.cw_behindwebs_k99_lists_looked_over_holds : PySem.Challenge.rw_behindwebs_k99_lists_looked_over.Holds := by
  w_on; o_law
  refine HandSHeadRun.head_any (r := OpenLaw.row PySem.Challenge.rw_behindwebs_k99_lists_looked_over) (q := view (OpenLaw.row PySem.Challenge.rw_behindwebs_k99_lists_looked_over).prog [63]) (H := H99.hk) (ob := H99.ob) (M := 16000) (loose := H99.names) (d := HandSHeadRun.topDef (OpenLaw.row PySem.Challenge.rw_behindwebs_k99_lists_looked_over).prog 63) (kwd := []) H99.ob_eq
    (by kernel_rfl) (fun s => by kernel_rfl) H99.run (by kernel_rfl) (by kernel_rfl) (by kernel_rfl) (by rfl) (by first | assumption | decide +kernel) (by decide +kernel) ⟨rfl, rfl, rfl, rfl, rfl, by decide +kernel⟩ ?hw ?hc
  case hw => w_witness2
  case hc =>
    refine DF.walk_G (l := PySem.Challenge.rw_behindwebs_k99_lists_looked_over) (n := 63) (k := 7) (x := "script") rfl (by decide) (by kernel_rfl) ⟨rfl, by decide, by decide⟩ ?F
    intro w mg fa h Y G hmg0
    obtain ⟨K, KX, c⟩ := Y
    have hmg : mg ("law" : PySem.Str) = some (.ref fa) := by
      have e : (HandSHeadRun.topDef (OpenLaw.row PySem.Challenge.rw_behindwebs_k99_lists_looked_over).prog 63).name = ("law" : PySem.Str) := by kernel_rfl
      rw [← e]
      exact hmg0
    have hy : Gk99.Hy K mg := ⟨c, h, KX, G⟩
    obtain ⟨fd, F⟩ := c.d.def_ 29 (d := Gk99.D_law) rfl
    have e2 := hmg.symm.trans (hy.gl 29)
    cases e2
    exact ⟨K, fd, Gk99.Tb K mg, _, rfl, KX, fun s v => L2.FunD.bindsA (ps := ["script"]) F (fun _ _ _ _ _ _ us hl => match us, hl with | [_], _ => rfl) s [v] rfl, Q99.plain hy, fun base _ _ => Gk99.fo_law hy F⟩
end
