import PyProof.Rows.All
import Wide.All
import OpenK.AllK
import Wide.FinOn
import HandS.ExcInit
import HandS.ExcField
import HandS.Words
import HandS.HeadHook1
import HandS.HeadHook2
import HandS.HeadHook3
import HandS.HeadHook4
import KE.KIsAll
import PySem.Challenge.RW_spreadhues_k26_whole_one_picture_tells_a
import HandS.Head0
import HandS.Head1
import HandS.Head2
import HandS.HeadEnd
import HandS.ForMost
import HandS.ExcValue
import HandS.Wide
import HandS.IsInst
import HandS.CallSlots
import HandS.Exc
import HandS.TupAny
import HandS.Style
import HandS.More
import HandS.Iter
import HandS.Defaults
import HandS.ExcOwn
import HandS.TryMany
import HandS.WordsExc
import HandS.Comp
import KE.GoesEnum
import HandS.Lambda
import HandS.Flow
import HandS.Ends
import PyProof.Rows.NestShow
import PyProof.ReprReads
import HandS.Conv
import KE.KExcIs
import HandS.ExcIs
import HandS.ExcBuiltin
import HandS.SuiteRaise
import HandS.RaiseFrom
import HandS.ExcInitHot
import HandS.DictTup
import HandS.SortRule
import KE.KDictCopyH
import HandS.SortInts
import HandS.TupSets
import HandS.DictComp
import HandS.Hot
import HandS.HotCalls
import HandS.Small
import HandS.OwnEq
import HandS.Zip
import KE.KRevSl
import HandS.NoneIn
import HandS.Deep
import HandS.SetFor
import KE.GoesMore
section
set_option Elab.async false
set_option linter.all false
set_option autoImplicit false
set_option maxRecDepth 100000
set_option maxHeartbeats 4000000
namespace SV
open PySem PySem.Spec L2
/-! ### what is looked at in the written part -/
def oexB (K : PySem.W.Frag) (C : Addr) : Bool := (match K.lookup C with
  | some ⟨.type t, _, .cls cd, sl⟩ => (match cd.mro, sl.toList with
    | .ref C' :: bm, [_, _, _, _, some (.builtin n), _] => decide (t = "type") && (decide (C' = C) && (decide (n = "ValueError.__new__") && (!cd.hasDel && (cd.hasDict && PySem.HandSPX.refsVE bm))))
    | _, _ => false)
  | _ => false) && (decide (PySem.W.findIn K (.ref C) "__setattr__" = some (some (.builtin "object.__setattr__"))) && (decide (PySem.W.subIn K (.ref C) (.type "BaseException") = some true) && (decide (PySem.W.typeIn K (.ref C) = some (.type "type")) && PySem.W.keepIn K (.ref C))))
def exFB (K : PySem.W.Frag) (x : Str) (ns : List Str) : Bool := oexB K (He.ga K x) && (decide (PySem.W.findIn K (.ref (He.ga K x)) "__init__" = some (some (.ref (He.ma K (He.ga K x) "__init__")))) && (decide (PySem.W.typeIn K (.ref (He.ma K (He.ga K x) "__init__")) = some (.type "function")) && (xfB K (He.ga K x) && ns.all fun n => decide (PySem.W.findIn K (.ref (He.ga K x)) n = some none))))
def exmTab (K : PySem.W.Frag) (l : List ((Str × Str) × Bool)) : Bool := l.all fun q => decide (PySem.W.exmOne K (.ref (He.ga K q.1.1)) (.ref (He.ga K q.1.2)) = some q.2)
def clsOk (K : PySem.W.Frag) : Value → Bool
  | .ref C => (PySem.W.clsIn K C).isSome && PySem.W.typeIn K (.ref C) == some (.type "type")
  | .type T => PySem.W.kitMeta T
  | _ => false
end SV
end
section
set_option Elab.async false
set_option linter.all false
set_option autoImplicit false
set_option maxRecDepth 100000
set_option maxHeartbeats 0
namespace SV
open PySem PySem.Spec PyProof.Rows L2
def insCB (K : PySem.W.Frag) (C : Addr) : Bool := (PySem.W.plainGet K C Str.empty && (PySem.W.hasDictIn K C && (PySem.W.plainOver K C && decide (PySem.W.findIn K (.ref C) "__setattr__" = some (some (.builtin "object.__setattr__")))))) &&
  (decide (PySem.W.findIn K (.ref C) "__class__" = some (some (.builtin "object.__class__"))) && (decide (PySem.W.specialIn K (.builtin "object.__class__") "__get__" = some (some (.builtin "getset_descriptor.__get__"))) && (decide (PySem.W.takesIn K (.builtin "object.__class__") = some true) && (decide (PySem.W.mroIn K C (.type "object") = some true) && clsOk K (.ref C)))))
def ownB (K : PySem.W.Frag) (x : Str) (ns : List Str) : Bool :=
  (PySem.W.makesIn K (He.ga K x) && (decide (PySem.W.findIn K (.ref (He.ga K x)) "__init__" = some (some (.ref (He.ma K (He.ga K x) "__init__")))) && (PySem.W.isFn K (.ref (He.ma K (He.ga K x) "__init__")) && PySem.W.keepIn K (.ref (He.ga K x))))) &&
    (insCB K (He.ga K x) && ((ns.all fun n => decide (PySem.W.findIn K (.ref (He.ga K x)) n = some none)) && decide (PySem.W.kitOne K (.ref (He.ga K x)) (.ref (He.ga K x)) = some true)))
end SV
namespace LAWM
open PySem PySem.Spec L2 SV
def TAB : List ((Str × Str) × Bool) := [(("BadPicture", "BadCount"), false), (("BadPicture", "TooMany"), false), (("BadPicture", "BadShown"), false), (("BadCount", "BadCount"), true), (("BadCount", "TooMany"), false), (("BadCount", "BadShown"), false), (("TooMany", "BadCount"), false), (("TooMany", "TooMany"), true), (("TooMany", "BadShown"), false), (("BadShown", "BadCount"), false), (("BadShown", "TooMany"), false), (("BadShown", "BadShown"), true)]
end LAWM
namespace LAWW
open PySem PySem.Spec PyProof.Rows L2 SV LAWM
abbrev top (i : Nat) : Stmt := PySem.Challenge.pw_spreadhues_k26_whole_one_picture_tells_a.main.body.getD i (.Pass ⟨0, 0, 0, 0⟩)
abbrev s__law_mixed : Stmt := top 32
abbrev s__law_take : Stmt := top 33
abbrev s__law_pick : Stmt := top 36
abbrev s_is_whole : Stmt := top 8
abbrev s__check_cells : Stmt := top 19
abbrev s__check_marks : Stmt := top 21
abbrev s__check_ties : Stmt := top 20
abbrev s_Picture_I : Stmt := inClass (top 18) 0
abbrev s_check_tree : Stmt := top 24
abbrev s_tree_colours : Stmt := top 26
abbrev s_other_tones : Stmt := top 14
abbrev s_tree_rows : Stmt := top 25
abbrev s_telling_tree : Stmt := top 27
abbrev s__law_great_tree : Stmt := top 48
abbrev s__law_hand : Stmt := top 31
abbrev s_places_within : Stmt := top 10
abbrev s_row_of_tree : Stmt := top 28
abbrev s_told_row : Stmt := top 29
abbrev s__law_asked : Stmt := top 46
abbrev s__law_total : Stmt := top 38
abbrev s__law_refusals : Stmt := top 47
abbrev s__law_all_struck : Stmt := top 37
abbrev s__law_cells : Stmt := top 39
abbrev s__law_hidden : Stmt := top 34
abbrev s__law_left : Stmt := top 40
abbrev s__law_raw : Stmt := top 44
abbrev s__law_read : Stmt := top 42
abbrev s__law_spoilt : Stmt := top 43
abbrev s__law_tree_right : Stmt := top 41
abbrev s__law_tuples : Stmt := top 35
abbrev s__law_whole_tree : Stmt := top 45
abbrev s_law : Stmt := top 49
abbrev i_BadPicture : Stmt := inClass (top 2) 0
abbrev i_BadCount : Stmt := inClass (top 4) 0
abbrev i_TooMany : Stmt := inClass (top 3) 0
abbrev i_BadShown : Stmt := inClass (top 5) 0
abbrev XL : List (Str × List Str) := [(("BadPicture" : Str), (["index", "what"] : List Str)), (("BadCount" : Str), (["what"] : List Str)), (("TooMany" : Str), (["most"] : List Str)), (("BadShown" : Str), (["shown"] : List Str))]
end LAWW
namespace LAWH
open PySem PySem.Spec PyProof.Rows L2 SV LAWM LAWW
def e__law_mixed : He.DefD := ⟨("_law_mixed", none), "_law_mixed", "_law_mixed", defArgs s__law_mixed, defBody s__law_mixed, defScope s__law_mixed, [], []⟩
def e__law_take : He.DefD := ⟨("_law_take", none), "_law_take", "_law_take", defArgs s__law_take, defBody s__law_take, defScope s__law_take, [], []⟩
def e__law_pick : He.DefD := ⟨("_law_pick", none), "_law_pick", "_law_pick", defArgs s__law_pick, defBody s__law_pick, defScope s__law_pick, [], []⟩
def e_is_whole : He.DefD := ⟨("is_whole", none), "is_whole", "is_whole", defArgs s_is_whole, defBody s_is_whole, defScope s_is_whole, [.non, .non], []⟩
def e__check_cells : He.DefD := ⟨("_check_cells", none), "_check_cells", "_check_cells", defArgs s__check_cells, defBody s__check_cells, defScope s__check_cells, [], []⟩
def e__check_marks : He.DefD := ⟨("_check_marks", none), "_check_marks", "_check_marks", defArgs s__check_marks, defBody s__check_marks, defScope s__check_marks, [], []⟩
def e__check_ties : He.DefD := ⟨("_check_ties", none), "_check_ties", "_check_ties", defArgs s__check_ties, defBody s__check_ties, defScope s__check_ties, [], []⟩
def e_Picture_I : He.DefD := ⟨("Picture", some "__init__"), "__init__", "Picture.__init__", defArgs s_Picture_I, defBody s_Picture_I, defScope s_Picture_I, [], []⟩
def e_check_tree : He.DefD := ⟨("check_tree", none), "check_tree", "check_tree", defArgs s_check_tree, defBody s_check_tree, defScope s_check_tree, [], []⟩
def e_tree_colours : He.DefD := ⟨("tree_colours", none), "tree_colours", "tree_colours", defArgs s_tree_colours, defBody s_tree_colours, defScope s_tree_colours, [], []⟩
def e_other_tones : He.DefD := ⟨("other_tones", none), "other_tones", "other_tones", defArgs s_other_tones, defBody s_other_tones, defScope s_other_tones, [], []⟩
def e_tree_rows : He.DefD := ⟨("tree_rows", none), "tree_rows", "tree_rows", defArgs s_tree_rows, defBody s_tree_rows, defScope s_tree_rows, [], []⟩
def e_telling_tree : He.DefD := ⟨("telling_tree", none), "telling_tree", "telling_tree", defArgs s_telling_tree, defBody s_telling_tree, defScope s_telling_tree, [], []⟩
def e__law_great_tree : He.DefD := ⟨("_law_great_tree", none), "_law_great_tree", "_law_great_tree", defArgs s__law_great_tree, defBody s__law_great_tree, defScope s__law_great_tree, [], []⟩
def e__law_hand : He.DefD := ⟨("_law_hand", none), "_law_hand", "_law_hand", defArgs s__law_hand, defBody s__law_hand, defScope s__law_hand, [], []⟩
def e_places_within : He.DefD := ⟨("places_within", none), "places_within", "places_within", defArgs s_places_within, defBody s_places_within, defScope s_places_within, [], []⟩
def e_row_of_tree : He.DefD := ⟨("row_of_tree", none), "row_of_tree", "row_of_tree", defArgs s_row_of_tree, defBody s_row_of_tree, defScope s_row_of_tree, [], []⟩
def e_told_row : He.DefD := ⟨("told_row", none), "told_row", "told_row", defArgs s_told_row, defBody s_told_row, defScope s_told_row, [], []⟩
def e__law_asked : He.DefD := ⟨("_law_asked", none), "_law_asked", "_law_asked", defArgs s__law_asked, defBody s__law_asked, defScope s__law_asked, [], []⟩
def e__law_total : He.DefD := ⟨("_law_total", none), "_law_total", "_law_total", defArgs s__law_total, defBody s__law_total, defScope s__law_total, [], []⟩
def e__law_refusals : He.DefD := ⟨("_law_refusals", none), "_law_refusals", "_law_refusals", defArgs s__law_refusals, defBody s__law_refusals, defScope s__law_refusals, [], []⟩
def e__law_all_struck : He.DefD := ⟨("_law_all_struck", none), "_law_all_struck", "_law_all_struck", defArgs s__law_all_struck, defBody s__law_all_struck, defScope s__law_all_struck, [], []⟩
def e__law_cells : He.DefD := ⟨("_law_cells", none), "_law_cells", "_law_cells", defArgs s__law_cells, defBody s__law_cells, defScope s__law_cells, [], []⟩
def e__law_hidden : He.DefD := ⟨("_law_hidden", none), "_law_hidden", "_law_hidden", defArgs s__law_hidden, defBody s__law_hidden, defScope s__law_hidden, [], []⟩
def e__law_left : He.DefD := ⟨("_law_left", none), "_law_left", "_law_left", defArgs s__law_left, defBody s__law_left, defScope s__law_left, [], []⟩
def e__law_raw : He.DefD := ⟨("_law_raw", none), "_law_raw", "_law_raw", defArgs s__law_raw, defBody s__law_raw, defScope s__law_raw, [], []⟩
def e__law_read : He.DefD := ⟨("_law_read", none), "_law_read", "_law_read", defArgs s__law_read, defBody s__law_read, defScope s__law_read, [], []⟩
def e__law_spoilt : He.DefD := ⟨("_law_spoilt", none), "_law_spoilt", "_law_spoilt", defArgs s__law_spoilt, defBody s__law_spoilt, defScope s__law_spoilt, [], []⟩
def e__law_tree_right : He.DefD := ⟨("_law_tree_right", none), "_law_tree_right", "_law_tree_right", defArgs s__law_tree_right, defBody s__law_tree_right, defScope s__law_tree_right, [], []⟩
def e__law_tuples : He.DefD := ⟨("_law_tuples", none), "_law_tuples", "_law_tuples", defArgs s__law_tuples, defBody s__law_tuples, defScope s__law_tuples, [], []⟩
def e__law_whole_tree : He.DefD := ⟨("_law_whole_tree", none), "_law_whole_tree", "_law_whole_tree", defArgs s__law_whole_tree, defBody s__law_whole_tree, defScope s__law_whole_tree, [], []⟩
def e_law : He.DefD := ⟨("law", none), "law", "law", defArgs s_law, defBody s_law, defScope s_law, [], []⟩
def e_BadPicture : He.DefD := ⟨("BadPicture", some "__init__"), "__init__", "BadPicture.__init__", defArgs i_BadPicture, defBody i_BadPicture, defScope i_BadPicture, [], []⟩
def e_BadCount : He.DefD := ⟨("BadCount", some "__init__"), "__init__", "BadCount.__init__", defArgs i_BadCount, defBody i_BadCount, defScope i_BadCount, [], []⟩
def e_TooMany : He.DefD := ⟨("TooMany", some "__init__"), "__init__", "TooMany.__init__", defArgs i_TooMany, defBody i_TooMany, defScope i_TooMany, [], []⟩
def e_BadShown : He.DefD := ⟨("BadShown", some "__init__"), "__init__", "BadShown.__init__", defArgs i_BadShown, defBody i_BadShown, defScope i_BadShown, [], []⟩
def fn : List He.DefD := [e__law_mixed, e__law_take, e__law_pick, e_is_whole, e__check_cells, e__check_marks, e__check_ties, e_Picture_I, e_check_tree, e_tree_colours, e_other_tones, e_tree_rows, e_telling_tree, e__law_great_tree, e__law_hand, e_places_within, e_row_of_tree, e_told_row, e__law_asked, e__law_total, e__law_refusals, e__law_all_struck, e__law_cells, e__law_hidden, e__law_left, e__law_raw, e__law_read, e__law_spoilt, e__law_tree_right, e__law_tuples, e__law_whole_tree, e_law, e_BadPicture, e_BadCount, e_TooMany, e_BadShown]
def fa : List He.Fa := [.glo "_law_mixed", .glo "_law_take", .glo "_law_pick", .glo "is_whole", .glo "_check_cells", .glo "_check_marks", .glo "_check_ties", .glo "check_tree", .glo "tree_colours", .glo "other_tones", .glo "tree_rows", .glo "telling_tree", .glo "_law_great_tree", .glo "_law_hand", .glo "places_within", .glo "row_of_tree", .glo "told_row", .glo "_law_asked", .glo "_law_total", .glo "_law_refusals", .glo "_law_all_struck", .glo "_law_cells", .glo "_law_hidden", .glo "_law_left", .glo "_law_raw", .glo "_law_read", .glo "_law_spoilt", .glo "_law_tree_right", .glo "_law_tuples", .glo "_law_whole_tree", .glo "law", .glo "Picture", .glo "BadPicture", .glo "BadCount", .glo "TooMany", .glo "BadShown", .free "abs", .free "all", .free "bool", .free "enumerate", .free "int", .free "isinstance", .free "len", .free "list", .free "max", .free "min", .free "range", .free "sorted", .free "sum", .free "tuple", .free "zip", .int "MOST_COLOUR" 99, .int "MOST_TONES" 10, .int "MOST_STEPS" 12, .int "MOST_CELLS" 700, .int "MOST_TIES" 2000, .int "MOST_TREE" 700]
def ex : PySem.W.Frag → Bool := fun K => (XL.all fun q => exFB K q.1 q.2) && (exmTab K TAB && ownB K "Picture" ["colours", "ties", "marks"])
abbrev LO : List PySem.Str := (["HueError", "BadPicture", "TooMany", "BadCount", "BadShown", "MOST_COLOUR", "is_whole", "places_within", "MOST_TONES", "MOST_STEPS", "other_tones", "MOST_CELLS", "MOST_TIES", "Picture", "_check_cells", "_check_ties", "_check_marks", "MOST_TREE", "check_tree", "tree_rows", "tree_colours", "telling_tree", "row_of_tree", "told_row", "_law_hand", "_law_mixed", "_law_take", "_law_hidden", "_law_tuples", "_law_pick"] : List PySem.Str) ++ (["_law_all_struck", "_law_total", "_law_cells", "_law_left", "_law_tree_right", "_law_read", "_law_spoilt", "_law_raw", "_law_whole_tree", "_law_asked", "_law_refusals", "_law_great_tree"] : List PySem.Str)
abbrev R : PySem.W.OpenRow := PySem.W.OpenLaw.row PySem.Challenge.rw_spreadhues_k26_whole_one_picture_tells_a
abbrev hk : PySem.W.Hook := He.hookX 4 fa fn [] [] ex
def ob (s : PySem.W.SharedT) : He.AlX := He.obsX 4 fa fn [] [] ex (HandSHeadRun.getT s)
theorem ob_eq (s : PySem.W.SharedT) : ob s = hk.obs s.abs := He.obsX_eq (HandSHeadRun.getT_eq s)
theorem run (w : World) : HandSHeadRun.RunEq R (PySem.W.view R.prog [49]) hk ob 8400 LO w := by
  intro os
  kernel_rfl
end LAWH
end
section
set_option Elab.async false
set_option linter.all false
set_option maxRecDepth 100000
set_option maxHeartbeats 4000000
namespace SV
open PySem PySem.Spec L2

/-- at a stands an exception of this class, its fields at d -/
def exV (cls : Value) (d : Option Addr) (a : Addr) : HO := .ext fun h => ∃ (oe : Obj) (vs : Array Value), h.get? a = some oe ∧ Zc cls d oe ∧ oe.data = .fields vs
/-- data: what a value stands for -/
inductive D where
  | non | bl (b : Bool) | int (i : Int) | str (x : Str)
  | tup (xs : List D) | lst (xs : List D) | fz (xs : List D) | dk (ks : List Key) (xs : List D) | ins (c : Str) (ns : List Str) (xs : List D)
  | ol (xs : List D) | od (ks : List Key) (xs : List D) | oi (c : Str) (ns : List Str) (xs : List D)
  | sl (i : Nat) | xc (c : Str) (ns : List Str) (xs : List D)
  | rg (lo hi : Int)
  /-- a dict whose keys are tuples; an owned one -/
  | dt (ks : List (List Key)) (xs : List D) | ot (ks : List (List Key)) (xs : List D)
  /-- an exception of an own class that is a value; one without fields -/
  | xv (c : Str) (ns : List Str) (xs : List D)
  | xw (c : Str)
  deriving Inhabited

/-- what the names of classes stand for; the exception that is being handled: itself, its class, its own dict -/
structure Cn where
  mg : Str → Option Value
  xa : Addr
  xc : Value
  xd : Option Addr
  K : PySem.W.Frag
/-- a list that stands in the written part -/
def KL (K : PySem.W.Frag) (a : Addr) (xs : List V) : Prop := ∃ (o : Obj) (its : Array Value) (n : Nat), K.lookup a = some o ∧ o.cls = .type "list" ∧ o.dict = none ∧ o.data = .seq its n ∧ its.size ≤ sizeLine ∧ Vals xs its.toList
def Same (g h : Cn) : Prop := g.mg = h.mg ∧ g.K = h.K
variable (F B : Addr → Prop) (mg : Cn) (H : Hp)
mutual
/-- frozen data -/
def Rep : D → V → Prop
  | .non, v => v = .non
  | .bl b, v => v = .bl b
  | .int i, v => v = .int i
  | .str x, v => v = .str x
  | .tup ds, v => ∃ a vs, v = .ref a ∧ F a ∧ H a = some (.tup vs) ∧ Reps ds vs
  | .lst ds, v => ∃ a vs, v = .ref a ∧ F a ∧ H a = some (.lst vs) ∧ Reps ds vs
  | .fz ds, v => ∃ a vs, v = .ref a ∧ ((F a ∧ ∃ o, H a = some (.frz o (.lst vs))) ∨ KL mg.K a vs) ∧ Reps ds vs
  | .rg lo hi, v => ∃ a, v = .ref a ∧ F a ∧ H a = some (.rng lo hi)
  | .dk ks ds, v => ∃ a kvs, v = .ref a ∧ F a ∧ H a = some (.dK kvs) ∧ kvs.map (·.1) = ks ∧ Reps ds (kvs.map (·.2))
  | .dt ks ds, v => ∃ a kvs, v = .ref a ∧ F a ∧ H a = some (.dT kvs) ∧ kvs.map (·.1) = ks ∧ Reps ds (kvs.map (·.2))
  | .ins c ns ds, v => ∃ a C dx fs, v = .ref a ∧ F a ∧ H a = some (.ins C dx fs) ∧ mg.mg c = some (.ref C) ∧ fs.map (·.1) = ns ∧ Reps ds (fs.map (·.2))
  | .xv c ns ds, v => ∃ a C dx vs, v = .ref a ∧ (F a ∧ F dx) ∧ (H a = some (exV (.ref C) (some dx) a) ∧ H dx = some (.xd (ns.zip vs).reverse)) ∧ mg.mg c = some (.ref C) ∧ (ns.Nodup ∧ ns.length = ds.length) ∧ Reps ds vs
  | .xw c, v => ∃ a C, v = .ref a ∧ F a ∧ H a = some (exV (.ref C) none a) ∧ mg.mg c = some (.ref C)
  | .ol _, _ => False
  | .od _ _, _ => False
  | .ot _ _, _ => False
  | .oi _ _ _, _ => False
  | .sl _, _ => False
  | .xc _ _ _, _ => False
def Reps : List D → List V → Prop
  | [], vs => vs = []
  | d :: ds, vs => ∃ v vs', vs = v :: vs' ∧ Rep d v ∧ Reps ds vs'
end
mutual
/-- owned data, with the addresses that it owns -/
def RepO : D → V → List Addr → Prop
  | .ol ds, v, fp => ∃ a vs fp', v = .ref a ∧ fp = a :: fp' ∧ H a = some (.lst vs) ∧ RepOs ds vs fp'
  | .od ks ds, v, fp => ∃ a kvs fp', v = .ref a ∧ fp = a :: fp' ∧ H a = some (.dK kvs) ∧ kvs.map (·.1) = ks ∧ RepOs ds (kvs.map (·.2)) fp'
  | .ot ks ds, v, fp => ∃ a kvs fp', v = .ref a ∧ fp = a :: fp' ∧ H a = some (.dT kvs) ∧ kvs.map (·.1) = ks ∧ RepOs ds (kvs.map (·.2)) fp'
  | .oi c ns ds, v, fp => ∃ a C dx fs fp', v = .ref a ∧ fp = a :: fp' ∧ H a = some (.ins C dx fs) ∧ mg.mg c = some (.ref C) ∧ fs.map (·.1) = ns ∧ RepOs ds (fs.map (·.2)) fp'
  | .non, v, fp => v = .non ∧ fp = []
  | .bl b, v, fp => v = .bl b ∧ fp = []
  | .int i, v, fp => v = .int i ∧ fp = []
  | .str x, v, fp => v = .str x ∧ fp = []
  | .tup ds, v, fp => Rep F mg H (.tup ds) v ∧ fp = []
  | .lst ds, v, fp => Rep F mg H (.lst ds) v ∧ fp = []
  | .fz ds, v, fp => Rep F mg H (.fz ds) v ∧ fp = []
  | .rg lo hi, v, fp => Rep F mg H (.rg lo hi) v ∧ fp = []
  | .dk ks ds, v, fp => Rep F mg H (.dk ks ds) v ∧ fp = []
  | .dt ks ds, v, fp => Rep F mg H (.dt ks ds) v ∧ fp = []
  | .ins c ns ds, v, fp => Rep F mg H (.ins c ns ds) v ∧ fp = []
  | .xv c ns ds, v, fp => Rep F mg H (.xv c ns ds) v ∧ fp = []
  | .xw c, v, fp => Rep F mg H (.xw c) v ∧ fp = []
  | .sl _, _, _ => False
  | .xc _ _ _, _, _ => False
def RepOs : List D → List V → List Addr → Prop
  | [], vs, fp => vs = [] ∧ fp = []
  | d :: ds, vs, fp => ∃ v vs' f1 f2, vs = v :: vs' ∧ fp = f1 ++ f2 ∧ RepO d v f1 ∧ RepOs ds vs' f2
end
/-- there stands something that is no tuple -/
def Nt (H : Hp) (a : Addr) : Prop := ∃ o, H a = some o ∧ ∀ ys, o ≠ .tup ys
/-- is the thing itself owned -/
def D.own : D → Bool
  | .ol _ => true | .od _ _ => true | .ot _ _ => true | .oi _ _ _ => true | _ => false
mutual
def D.frz : D → D
  | .ol ds => .lst (D.frzs ds)
  | .od ks ds => .dk ks (D.frzs ds)
  | .ot ks ds => .dt ks (D.frzs ds)
  | .oi c ns ds => .ins c ns (D.frzs ds)
  | d => d
def D.frzs : List D → List D
  | [] => []
  | d :: ds => d.frz :: D.frzs ds
end
variable {F B mg H}
/-- agreement -/
structure Ag (F : Addr → Prop) (H : Hp) (F' : Addr → Prop) (H' : Hp) : Prop where
  f : ∀ a, F a → F' a
  h : ∀ a, F a → H' a = H a
mutual
theorem Rep.mono {F' : Addr → Prop} {H' : Hp} (g : Ag F H F' H') : ∀ (d : D) (v : V), Rep F mg H d v → Rep F' mg H' d v
  | .non, _, h => h
  | .bl _, _, h => h
  | .int _, _, h => h
  | .str _, _, h => h
  | .tup ds, _, ⟨a, vs, e, f, r, s⟩ => ⟨a, vs, e, g.f _ f, by rw [g.h _ f]; exact r, Reps.mono g ds vs s⟩
  | .lst ds, _, ⟨a, vs, e, f, r, s⟩ => ⟨a, vs, e, g.f _ f, by rw [g.h _ f]; exact r, Reps.mono g ds vs s⟩
  | .fz ds, _, ⟨a, vs, e, r, s⟩ => ⟨a, vs, e, r.imp (fun ⟨f, o, r⟩ => ⟨g.f _ f, o, by rw [g.h _ f]; exact r⟩) id, Reps.mono g ds vs s⟩
  | .rg _ _, _, ⟨a, e, f, r⟩ => ⟨a, e, g.f _ f, by rw [g.h _ f]; exact r⟩
  | .dk ks ds, _, ⟨a, vs, e, f, r, k, s⟩ => ⟨a, vs, e, g.f _ f, by rw [g.h _ f]; exact r, k, Reps.mono g ds _ s⟩
  | .dt ks ds, _, ⟨a, vs, e, f, r, k, s⟩ => ⟨a, vs, e, g.f _ f, by rw [g.h _ f]; exact r, k, Reps.mono g ds _ s⟩
  | .ins c ns ds, _, ⟨a, C, dx, fs, e, f, r, m, k, s⟩ => ⟨a, C, dx, fs, e, g.f _ f, by rw [g.h _ f]; exact r, m, k, Reps.mono g ds _ s⟩
  | .xv c ns ds, _, ⟨a, C, dx, fs, e, f, r, m, k, s⟩ => ⟨a, C, dx, fs, e, ⟨g.f _ f.1, g.f _ f.2⟩, ⟨by rw [g.h _ f.1]; exact r.1, by rw [g.h _ f.2]; exact r.2⟩, m, k, Reps.mono g ds _ s⟩
  | .xw c, _, ⟨a, C, e, f, r, m⟩ => ⟨a, C, e, g.f _ f, by rw [g.h _ f]; exact r, m⟩
  | .ol _, _, h => h
  | .od _ _, _, h => h
  | .ot _ _, _, h => h
  | .oi _ _ _, _, h => h
  | .sl _, _, h => h
  | .xc _ _ _, _, h => h
theorem Reps.mono {F' : Addr → Prop} {H' : Hp} (g : Ag F H F' H') : ∀ (ds : List D) (vs : List V), Reps F mg H ds vs → Reps F' mg H' ds vs
  | [], _, h => h
  | d :: ds, _, ⟨v, vs, e, h1, h2⟩ => ⟨v, vs, e, Rep.mono g d v h1, Reps.mono g ds vs h2⟩
end
mutual
theorem RepO.mono {F' : Addr → Prop} {H' : Hp} (g : Ag F H F' H') : ∀ (d : D) (v : V) (fp : List Addr), (∀ a ∈ fp, H' a = H a) → RepO F mg H d v fp → RepO F' mg H' d v fp
  | .non, _, _, _, h => h
  | .bl _, _, _, _, h => h
  | .int _, _, _, _, h => h
  | .str _, _, _, _, h => h
  | .tup ds, _, _, _, ⟨h, e⟩ => ⟨Rep.mono g (.tup ds) _ h, e⟩
  | .lst ds, _, _, _, ⟨h, e⟩ => ⟨Rep.mono g (.lst ds) _ h, e⟩
  | .fz ds, _, _, _, ⟨h, e⟩ => ⟨Rep.mono g (.fz ds) _ h, e⟩
  | .rg lo hi, _, _, _, ⟨h, e⟩ => ⟨Rep.mono g (.rg lo hi) _ h, e⟩
  | .dk ks ds, _, _, _, ⟨h, e⟩ => ⟨Rep.mono g (.dk ks ds) _ h, e⟩
  | .dt ks ds, _, _, _, ⟨h, e⟩ => ⟨Rep.mono g (.dt ks ds) _ h, e⟩
  | .ins c ns ds, _, _, _, ⟨h, e⟩ => ⟨Rep.mono g (.ins c ns ds) _ h, e⟩
  | .xv c ns ds, _, _, _, ⟨h, e⟩ => ⟨Rep.mono g (.xv c ns ds) _ h, e⟩
  | .xw c, _, _, _, ⟨h, e⟩ => ⟨Rep.mono g (.xw c) _ h, e⟩
  | .ol ds, _, _, k, ⟨a, vs, fp', e1, e2, r, s⟩ => ⟨a, vs, fp', e1, e2, by rw [k a (by rw [e2]; simp)]; exact r, RepOs.mono g ds vs fp' (fun b hb => k b (by rw [e2]; simp [hb])) s⟩
  | .od ks ds, _, _, k, ⟨a, vs, fp', e1, e2, r, q, s⟩ => ⟨a, vs, fp', e1, e2, by rw [k a (by rw [e2]; simp)]; exact r, q, RepOs.mono g ds _ fp' (fun b hb => k b (by rw [e2]; simp [hb])) s⟩
  | .ot ks ds, _, _, k, ⟨a, vs, fp', e1, e2, r, q, s⟩ => ⟨a, vs, fp', e1, e2, by rw [k a (by rw [e2]; simp)]; exact r, q, RepOs.mono g ds _ fp' (fun b hb => k b (by rw [e2]; simp [hb])) s⟩
  | .oi c ns ds, _, _, k, ⟨a, C, dx, fs, fp', e1, e2, r, m, q, s⟩ => ⟨a, C, dx, fs, fp', e1, e2, by rw [k a (by rw [e2]; simp)]; exact r, m, q, RepOs.mono g ds _ fp' (fun b hb => k b (by rw [e2]; simp [hb])) s⟩
  | .sl _, _, _, _, h => h
  | .xc _ _ _, _, _, _, h => h
theorem RepOs.mono {F' : Addr → Prop} {H' : Hp} (g : Ag F H F' H') : ∀ (ds : List D) (vs : List V) (fp : List Addr), (∀ a ∈ fp, H' a = H a) → RepOs F mg H ds vs fp → RepOs F' mg H' ds vs fp
  | [], _, _, _, h => h
  | d :: ds, _, _, k, ⟨v, vs, f1, f2, e, e2, h1, h2⟩ => ⟨v, vs, f1, f2, e, e2, RepO.mono g d v f1 (fun b hb => k b (by rw [e2]; simp [hb])) h1, RepOs.mono g ds vs f2 (fun b hb => k b (by rw [e2]; simp [hb])) h2⟩
end
mutual
/-- what is owned may be frozen -/
theorem RepO.frz {F' : Addr → Prop} (g : ∀ a, F a → F' a) : ∀ (d : D) (v : V) (fp : List Addr), (∀ a ∈ fp, F' a) → RepO F mg H d v fp → Rep F' mg H d.frz v
  | .non, _, _, _, h => h.1
  | .bl _, _, _, _, h => h.1
  | .int _, _, _, _, h => h.1
  | .str _, _, _, _, h => h.1
  | .tup ds, _, _, _, ⟨h, e⟩ => Rep.mono ⟨g, fun _ _ => rfl⟩ (.tup ds) _ h
  | .lst ds, _, _, _, ⟨h, e⟩ => Rep.mono ⟨g, fun _ _ => rfl⟩ (.lst ds) _ h
  | .fz ds, _, _, _, ⟨h, e⟩ => Rep.mono ⟨g, fun _ _ => rfl⟩ (.fz ds) _ h
  | .rg lo hi, _, _, _, ⟨h, e⟩ => Rep.mono ⟨g, fun _ _ => rfl⟩ (.rg lo hi) _ h
  | .dk ks ds, _, _, _, ⟨h, e⟩ => Rep.mono ⟨g, fun _ _ => rfl⟩ (.dk ks ds) _ h
  | .dt ks ds, _, _, _, ⟨h, e⟩ => Rep.mono ⟨g, fun _ _ => rfl⟩ (.dt ks ds) _ h
  | .ins c ns ds, _, _, _, ⟨h, e⟩ => Rep.mono ⟨g, fun _ _ => rfl⟩ (.ins c ns ds) _ h
  | .xv c ns ds, _, _, _, ⟨h, e⟩ => Rep.mono ⟨g, fun _ _ => rfl⟩ (.xv c ns ds) _ h
  | .xw c, _, _, _, ⟨h, e⟩ => Rep.mono ⟨g, fun _ _ => rfl⟩ (.xw c) _ h
  | .ol ds, _, _, k, ⟨a, vs, fp', e1, e2, r, s⟩ => ⟨a, vs, e1, k a (by rw [e2]; simp), r, RepOs.frz g ds vs fp' (fun b hb => k b (by rw [e2]; simp [hb])) s⟩
  | .od ks ds, _, _, k, ⟨a, vs, fp', e1, e2, r, q, s⟩ => ⟨a, vs, e1, k a (by rw [e2]; simp), r, q, RepOs.frz g ds _ fp' (fun b hb => k b (by rw [e2]; simp [hb])) s⟩
  | .ot ks ds, _, _, k, ⟨a, vs, fp', e1, e2, r, q, s⟩ => ⟨a, vs, e1, k a (by rw [e2]; simp), r, q, RepOs.frz g ds _ fp' (fun b hb => k b (by rw [e2]; simp [hb])) s⟩
  | .oi c ns ds, _, _, k, ⟨a, C, dx, fs, fp', e1, e2, r, m, q, s⟩ => ⟨a, C, dx, fs, e1, k a (by rw [e2]; simp), r, m, q, RepOs.frz g ds _ fp' (fun b hb => k b (by rw [e2]; simp [hb])) s⟩
  | .sl _, _, _, _, h => h
  | .xc _ _ _, _, _, _, h => h
theorem RepOs.frz {F' : Addr → Prop} (g : ∀ a, F a → F' a) : ∀ (ds : List D) (vs : List V) (fp : List Addr), (∀ a ∈ fp, F' a) → RepOs F mg H ds vs fp → Reps F' mg H (D.frzs ds) vs
  | [], _, _, _, h => h.1
  | d :: ds, _, _, k, ⟨v, vs, f1, f2, e, e2, h1, h2⟩ => ⟨v, vs, e, RepO.frz g d v f1 (fun b hb => k b (by rw [e2]; simp [hb])) h1, RepOs.frz g ds vs f2 (fun b hb => k b (by rw [e2]; simp [hb])) h2⟩
end
mutual
/-- frozen data is owned data that owns nothing -/
theorem Rep.owned : ∀ (d : D) (v : V), Rep F mg H d v → RepO F mg H d v []
  | .non, _, h => ⟨h, rfl⟩
  | .bl _, _, h => ⟨h, rfl⟩
  | .int _, _, h => ⟨h, rfl⟩
  | .str _, _, h => ⟨h, rfl⟩
  | .tup ds, _, h => ⟨h, rfl⟩
  | .lst ds, _, h => ⟨h, rfl⟩
  | .fz ds, _, h => ⟨h, rfl⟩
  | .rg _ _, _, h => ⟨h, rfl⟩
  | .dk _ ds, _, h => ⟨h, rfl⟩
  | .dt _ ds, _, h => ⟨h, rfl⟩
  | .ins _ _ ds, _, h => ⟨h, rfl⟩
  | .xv _ _ ds, _, h => ⟨h, rfl⟩
  | .xw _, _, h => ⟨h, rfl⟩
  | .ol _, _, h => h.elim
  | .od _ _, _, h => h.elim
  | .ot _ _, _, h => h.elim
  | .oi _ _ _, _, h => h.elim
  | .sl _, _, h => h.elim
  | .xc _ _ _, _, h => h.elim
theorem Reps.owned : ∀ (ds : List D) (vs : List V), Reps F mg H ds vs → RepOs F mg H ds vs []
  | [], _, h => ⟨h, rfl⟩
  | d :: ds, _, ⟨v, vs, e, h1, h2⟩ => ⟨v, vs, [], [], e, rfl, Rep.owned d v h1, Reps.owned ds vs h2⟩
end
/-- .. and what is not itself owned is frozen -/
theorem RepO.plain {d : D} {v : V} {fp : List Addr} (h : RepO F mg H d v fp) (n : d.own = false) : Rep F mg H d v ∧ fp = [] := by
  cases d with
  | ol _ => cases n
  | od _ _ => cases n
  | ot _ _ => cases n
  | oi _ _ _ => cases n
  | sl _ => exact h.elim
  | xc _ _ _ => exact h.elim
  | _ => exact h
mutual
/-- the addresses owned are tracked -/
theorem RepO.there : ∀ (d : D) (v : V) (fp : List Addr), RepO F mg H d v fp → ∀ a ∈ fp, ∃ o, H a = some o
  | .non, _, _, h => by rw [h.2]; simp
  | .bl _, _, _, h => by rw [h.2]; simp
  | .int _, _, _, h => by rw [h.2]; simp
  | .str _, _, _, h => by rw [h.2]; simp
  | .tup ds, _, _, h => by rw [h.2]; simp
  | .lst ds, _, _, h => by rw [h.2]; simp
  | .fz ds, _, _, h => by rw [h.2]; simp
  | .rg _ _, _, _, h => by rw [h.2]; simp
  | .dk ks ds, _, _, h => by rw [h.2]; simp
  | .dt ks ds, _, _, h => by rw [h.2]; simp
  | .ins c ns ds, _, _, h => by rw [h.2]; simp
  | .xv c ns ds, _, _, h => by rw [h.2]; simp
  | .xw c, _, _, h => by rw [h.2]; simp
  | .ol ds, _, _, ⟨a, vs, fp', e1, e2, r, s⟩ => fun b hb => by
    rw [e2] at hb
    rcases List.mem_cons.mp hb with rfl | hb
    · exact ⟨_, r⟩
    · exact RepOs.there ds vs fp' s b hb
  | .od ks ds, _, _, ⟨a, vs, fp', e1, e2, r, q, s⟩ => fun b hb => by
    rw [e2] at hb
    rcases List.mem_cons.mp hb with rfl | hb
    · exact ⟨_, r⟩
    · exact RepOs.there ds _ fp' s b hb
  | .ot ks ds, _, _, ⟨a, vs, fp', e1, e2, r, q, s⟩ => fun b hb => by
    rw [e2] at hb
    rcases List.mem_cons.mp hb with rfl | hb
    · exact ⟨_, r⟩
    · exact RepOs.there ds _ fp' s b hb
  | .oi c ns ds, _, _, ⟨a, C, dx, fs, fp', e1, e2, r, m, q, s⟩ => fun b hb => by
    rw [e2] at hb
    rcases List.mem_cons.mp hb with rfl | hb
    · exact ⟨_, r⟩
    · exact RepOs.there ds _ fp' s b hb
  | .sl _, _, _, h => h.elim
  | .xc _ _ _, _, _, h => h.elim
theorem RepOs.there : ∀ (ds : List D) (vs : List V) (fp : List Addr), RepOs F mg H ds vs fp → ∀ a ∈ fp, ∃ o, H a = some o
  | [], _, _, h => by rw [h.2]; simp
  | d :: ds, _, _, ⟨v, vs, f1, f2, e, e2, h1, h2⟩ => fun b hb => by
    rw [e2] at hb
    rcases List.mem_append.mp hb with hb | hb
    · exact RepO.there d v f1 h1 b hb
    · exact RepOs.there ds vs f2 h2 b hb
end
mutual
theorem RepO.nt : ∀ (d : D) (v : V) (fp : List Addr), RepO F mg H d v fp → ∀ a ∈ fp, Nt H a
  | .non, _, _, h => by rw [h.2]; simp
  | .bl _, _, _, h => by rw [h.2]; simp
  | .int _, _, _, h => by rw [h.2]; simp
  | .str _, _, _, h => by rw [h.2]; simp
  | .tup ds, _, _, h => by rw [h.2]; simp
  | .lst ds, _, _, h => by rw [h.2]; simp
  | .fz ds, _, _, h => by rw [h.2]; simp
  | .rg _ _, _, _, h => by rw [h.2]; simp
  | .dk ks ds, _, _, h => by rw [h.2]; simp
  | .dt ks ds, _, _, h => by rw [h.2]; simp
  | .ins c ns ds, _, _, h => by rw [h.2]; simp
  | .xv c ns ds, _, _, h => by rw [h.2]; simp
  | .xw c, _, _, h => by rw [h.2]; simp
  | .ol ds, _, _, ⟨a, vs, fp', e1, e2, r, s⟩ => fun b hb => by
    rw [e2] at hb
    rcases List.mem_cons.mp hb with rfl | hb
    · exact ⟨_, r, fun _ z => by cases z⟩
    · exact RepOs.nt ds vs fp' s b hb
  | .od ks ds, _, _, ⟨a, vs, fp', e1, e2, r, q, s⟩ => fun b hb => by
    rw [e2] at hb
    rcases List.mem_cons.mp hb with rfl | hb
    · exact ⟨_, r, fun _ z => by cases z⟩
    · exact RepOs.nt ds _ fp' s b hb
  | .ot ks ds, _, _, ⟨a, vs, fp', e1, e2, r, q, s⟩ => fun b hb => by
    rw [e2] at hb
    rcases List.mem_cons.mp hb with rfl | hb
    · exact ⟨_, r, fun _ z => by cases z⟩
    · exact RepOs.nt ds _ fp' s b hb
  | .oi c ns ds, _, _, ⟨a, C, dx, fs, fp', e1, e2, r, m, q, s⟩ => fun b hb => by
    rw [e2] at hb
    rcases List.mem_cons.mp hb with rfl | hb
    · exact ⟨_, r, fun _ z => by cases z⟩
    · exact RepOs.nt ds _ fp' s b hb
  | .sl _, _, _, h => h.elim
  | .xc _ _ _, _, _, h => h.elim
theorem RepOs.nt : ∀ (ds : List D) (vs : List V) (fp : List Addr), RepOs F mg H ds vs fp → ∀ a ∈ fp, Nt H a
  | [], _, _, h => by rw [h.2]; simp
  | d :: ds, _, _, ⟨v, vs, f1, f2, e, e2, h1, h2⟩ => fun b hb => by
    rw [e2] at hb
    rcases List.mem_append.mp hb with hb | hb
    · exact RepO.nt d v f1 h1 b hb
    · exact RepOs.nt ds vs f2 h2 b hb
end
theorem Reps.length : ∀ {ds : List D} {vs : List V}, Reps F mg H ds vs → ds.length = vs.length
  | [], vs, h => by have e : vs = [] := h; subst e; rfl
  | d :: ds, _, ⟨v, vs, e, h1, h2⟩ => by rw [e]; simp [Reps.length h2]
theorem RepOs.length : ∀ {ds : List D} {vs : List V} {fp}, RepOs F mg H ds vs fp → ds.length = vs.length
  | [], vs, _, h => by have e : vs = [] := h.1; subst e; rfl
  | d :: ds, _, _, ⟨v, vs, _, _, e, _, h1, h2⟩ => by rw [e]; simp [RepOs.length h2]
theorem Reps.get : ∀ {ds : List D} {vs : List V} {i : Nat} {d : D}, Reps F mg H ds vs → ds[i]? = some d → ∃ v, vs[i]? = some v ∧ Rep F mg H d v
  | [], _, _, _, _, e => by simp at e
  | d :: ds, _, 0, _, ⟨v, vs, e1, h1, h2⟩, e => by simp at e; subst e; exact ⟨v, by rw [e1]; rfl, h1⟩
  | d :: ds, _, i + 1, _, ⟨v, vs, e1, h1, h2⟩, e => by
    obtain ⟨u, q, r⟩ := Reps.get (i := i) h2 (by simpa using e)
    exact ⟨u, by rw [e1]; simpa using q, r⟩
theorem Reps.append : ∀ {ds es : List D} {vs ws : List V}, Reps F mg H ds vs → Reps F mg H es ws → Reps F mg H (ds ++ es) (vs ++ ws)
  | [], _, _, _, h, h' => by rw [show _ = _ from h]; exact h'
  | d :: ds, _, _, _, ⟨v, vs, e1, h1, h2⟩, h' => ⟨v, _, by rw [e1]; rfl, h1, Reps.append h2 h'⟩
theorem RepOs.append : ∀ {ds es : List D} {vs ws : List V} {f g}, RepOs F mg H ds vs f → RepOs F mg H es ws g → RepOs F mg H (ds ++ es) (vs ++ ws) (f ++ g)
  | [], _, _, _, _, _, h, h' => by rw [show _ = _ from h.1, show _ = _ from h.2]; exact h'
  | d :: ds, _, _, _, _, _, ⟨v, vs, f1, f2, e1, e2, h1, h2⟩, h' => ⟨v, _, f1, _, by rw [e1]; rfl, by rw [e2, List.append_assoc], h1, RepOs.append h2 h'⟩
mutual
/-- the exception that is being handled does not matter for data -/
theorem Rep.cn {g : Cn} (e : Same g mg) : ∀ (d : D) (v : V), Rep F mg H d v → Rep F g H d v
  | .non, _, h => h
  | .bl _, _, h => h
  | .int _, _, h => h
  | .str _, _, h => h
  | .tup ds, _, ⟨a, vs, e1, f, r, s⟩ => ⟨a, vs, e1, f, r, Reps.cn e ds vs s⟩
  | .lst ds, _, ⟨a, vs, e1, f, r, s⟩ => ⟨a, vs, e1, f, r, Reps.cn e ds vs s⟩
  | .fz ds, _, ⟨a, vs, e1, r, s⟩ => ⟨a, vs, e1, by rw [e.2]; exact r, Reps.cn e ds vs s⟩
  | .rg _ _, _, ⟨a, e1, f, r⟩ => ⟨a, e1, f, r⟩
  | .dk ks ds, _, ⟨a, vs, e1, f, r, k, s⟩ => ⟨a, vs, e1, f, r, k, Reps.cn e ds _ s⟩
  | .dt ks ds, _, ⟨a, vs, e1, f, r, k, s⟩ => ⟨a, vs, e1, f, r, k, Reps.cn e ds _ s⟩
  | .ins c ns ds, _, ⟨a, C, dx, fs, e1, f, r, m, k, s⟩ => ⟨a, C, dx, fs, e1, f, r, by rw [e.1]; exact m, k, Reps.cn e ds _ s⟩
  | .xv c ns ds, _, ⟨a, C, dx, fs, e1, f, r, m, k, s⟩ => ⟨a, C, dx, fs, e1, f, r, by rw [e.1]; exact m, k, Reps.cn e ds _ s⟩
  | .xw c, _, ⟨a, C, e1, f, r, m⟩ => ⟨a, C, e1, f, r, by rw [e.1]; exact m⟩
  | .ol _, _, h => h
  | .od _ _, _, h => h
  | .ot _ _, _, h => h
  | .oi _ _ _, _, h => h
  | .sl _, _, h => h
  | .xc _ _ _, _, h => h
theorem Reps.cn {g : Cn} (e : Same g mg) : ∀ (ds : List D) (vs : List V), Reps F mg H ds vs → Reps F g H ds vs
  | [], _, h => h
  | d :: ds, _, ⟨v, vs, e1, h1, h2⟩ => ⟨v, vs, e1, Rep.cn e d v h1, Reps.cn e ds vs h2⟩
end
mutual
theorem RepO.cn {g : Cn} (e : Same g mg) : ∀ (d : D) (v : V) (fp : List Addr), RepO F mg H d v fp → RepO F g H d v fp
  | .non, _, _, h => h
  | .bl _, _, _, h => h
  | .int _, _, _, h => h
  | .str _, _, _, h => h
  | .tup ds, _, _, ⟨h, e1⟩ => ⟨Rep.cn e (.tup ds) _ h, e1⟩
  | .lst ds, _, _, ⟨h, e1⟩ => ⟨Rep.cn e (.lst ds) _ h, e1⟩
  | .fz ds, _, _, ⟨h, e1⟩ => ⟨Rep.cn e (.fz ds) _ h, e1⟩
  | .rg lo hi, _, _, ⟨h, e1⟩ => ⟨Rep.cn e (.rg lo hi) _ h, e1⟩
  | .dk ks ds, _, _, ⟨h, e1⟩ => ⟨Rep.cn e (.dk ks ds) _ h, e1⟩
  | .dt ks ds, _, _, ⟨h, e1⟩ => ⟨Rep.cn e (.dt ks ds) _ h, e1⟩
  | .ins c ns ds, _, _, ⟨h, e1⟩ => ⟨Rep.cn e (.ins c ns ds) _ h, e1⟩
  | .xv c ns ds, _, _, ⟨h, e1⟩ => ⟨Rep.cn e (.xv c ns ds) _ h, e1⟩
  | .xw c, _, _, ⟨h, e1⟩ => ⟨Rep.cn e (.xw c) _ h, e1⟩
  | .ol ds, _, _, ⟨a, vs, fp', e1, e2, r, s⟩ => ⟨a, vs, fp', e1, e2, r, RepOs.cn e ds vs fp' s⟩
  | .od ks ds, _, _, ⟨a, vs, fp', e1, e2, r, q, s⟩ => ⟨a, vs, fp', e1, e2, r, q, RepOs.cn e ds _ fp' s⟩
  | .ot ks ds, _, _, ⟨a, vs, fp', e1, e2, r, q, s⟩ => ⟨a, vs, fp', e1, e2, r, q, RepOs.cn e ds _ fp' s⟩
  | .oi c ns ds, _, _, ⟨a, C, dx, fs, fp', e1, e2, r, m, q, s⟩ => ⟨a, C, dx, fs, fp', e1, e2, r, by rw [e.1]; exact m, q, RepOs.cn e ds _ fp' s⟩
  | .sl _, _, _, h => h
  | .xc _ _ _, _, _, h => h
theorem RepOs.cn {g : Cn} (e : Same g mg) : ∀ (ds : List D) (vs : List V) (fp : List Addr), RepOs F mg H ds vs fp → RepOs F g H ds vs fp
  | [], _, _, h => h
  | d :: ds, _, _, ⟨v, vs, f1, f2, e1, e2, h1, h2⟩ => ⟨v, vs, f1, f2, e1, e2, RepO.cn e d v f1 h1, RepOs.cn e ds vs f2 h2⟩
end
end SV
end
section
set_option Elab.async false
set_option linter.all false
set_option maxRecDepth 100000
set_option maxHeartbeats 4000000
namespace SV
open PySem PySem.Spec L2
/-- a raised exception: its class by name, its own dict -/
def ExcAt (F : Addr → Prop) (mg : Cn) (H : Hp) (cls : Value) (dx : Option Addr) (c : Str) (fs : List (Str × D)) : Prop :=
  ∃ C d fv, cls = .ref C ∧ dx = some d ∧ mg.mg c = some (.ref C) ∧ F d ∧ H d = some (.xd fv) ∧ ∀ f y, fs.lookup f = some y → ∃ v, fv.lookup f = some v ∧ Rep F mg H y v
theorem ExcAt.mono {F F' : Addr → Prop} {mg : Cn} {H H' : Hp} {cls : Value} {dx : Option Addr} {c : Str} {fs : List (Str × D)} (g : Ag F H F' H') (x : ExcAt F mg H cls dx c fs) : ExcAt F' mg H' cls dx c fs := by
  obtain ⟨C, d, fv, e1, e2, e3, f, h, r⟩ := x
  exact ⟨C, d, fv, e1, e2, e3, g.f _ f, by rw [g.h _ f]; exact h, fun n y z => let ⟨v, q, w⟩ := r n y z; ⟨v, q, Rep.mono g _ _ w⟩⟩
abbrev Env := List (Option D)
def D.isX : D → Bool
  | .xc _ _ _ => true
  | _ => false
abbrev Tm := List (V × D)
section
variable (F B : Addr → Prop) (mg : Cn) (H : Hp)
/-- a value at hand: a thing of its own, or the thing in a slot -/
def RT (σ : St) : D → V → List Addr → Prop
  | .sl i, v, fp => σ[i]? = some (some v) ∧ fp = []
  | d, v, fp => RepO F mg H d v fp
def RTs (σ : St) : Tm → List Addr → Prop
  | [], fp => fp = []
  | x :: T, fp => ∃ f1 f2, fp = f1 ++ f2 ∧ RT F mg H σ x.2 x.1 f1 ∧ RTs σ T f2
/-- what a slot may hold besides: the exception that is being handled -/
def RX : D → V → List Addr → Prop
  | .xc c ns xs, v, fp => v = .ref mg.xa ∧ ExcAt F mg H mg.xc mg.xd c (ns.zip xs) ∧ fp = []
  | d, v, fp => RepO F mg H d v fp
def RS : St → Env → List Addr → Prop
  | [], [], fp => fp = []
  | _ :: σ, none :: ρ, fp => RS σ ρ fp
  | x :: σ, some d :: ρ, fp => ∃ v f1 f2, x = some v ∧ fp = f1 ++ f2 ∧ RX F mg H d v f1 ∧ RS σ ρ f2
  | _, _, _ => False
/-- the state: slots and the values at hand -/
structure Sat (σ : St) (ρ : Env) (T : Tm) : Prop where
  ex : ∃ o1 o2, RS F mg H σ ρ o1 ∧ RTs F mg H σ T o2 ∧ (o1 ++ o2).Nodup ∧ ∀ a ∈ o1 ++ o2, ¬ B a
  fb : ∀ a, F a → B a
  bt : ∀ a, B a → ∃ o, H a = some o
structure Ext (F' B' : Addr → Prop) (H' : Hp) : Prop where
  f : ∀ a, F a → F' a
  b : ∀ a, B a → B' a
  h : ∀ a, B a → H' a = H a
  n : ∀ a, F' a → F a ∨ ¬ (B a ∧ Nt H a)
end
variable {F B F' B' F2 B2 : Addr → Prop} {mg : Cn} {H H' H2 : Hp} {σ : St} {ρ : Env} {T : Tm} {v : V} {d : D} {fp : List Addr}
theorem Ext.refl : Ext F B H F B H := ⟨fun _ h => h, fun _ h => h, fun _ _ => rfl, fun _ h => .inl h⟩
theorem Ext.trans (x : Ext F B H F' B' H') (y : Ext F' B' H' F2 B2 H2) : Ext F B H F2 B2 H2 :=
  ⟨fun a h => y.f a (x.f a h), fun a h => y.b a (x.b a h), fun a h => (y.h a (x.b a h)).trans (x.h a h), fun a h => by
    rcases y.n a h with q | q
    · exact x.n a q
    · exact .inr fun z => q ⟨x.b a z.1, by unfold Nt; rw [x.h a z.1]; exact z.2⟩⟩
theorem Ext.ag (x : Ext F B H F' B' H') (fb : ∀ a, F a → B a) : Ag F H F' H' := ⟨x.f, fun a h => x.h a (fb a h)⟩
theorem RT.of (h : RepO F mg H d v fp) : RT F mg H σ d v fp := by
  cases d <;> first | exact h | exact h.elim
theorem RT.own (h : RT F mg H σ d v fp) (n : ∀ i, d ≠ .sl i) : RepO F mg H d v fp := by
  cases d <;> first | exact h | exact absurd rfl (n _)
theorem RT.mono (g : Ag F H F' H') (k : ∀ a ∈ fp, H' a = H a) (h : RT F mg H σ d v fp) : RT F' mg H' σ d v fp := by
  cases d <;> first | exact h | exact RepO.mono g _ _ _ k h
theorem RT.there (h : RT F mg H σ d v fp) : ∀ a ∈ fp, ∃ o, H a = some o := by
  cases d <;> first | exact RepO.there _ _ _ h | (rw [h.2]; simp)
theorem RT.nt (h : RT F mg H σ d v fp) : ∀ a ∈ fp, Nt H a := by
  cases d <;> first | exact RepO.nt _ _ _ h | (rw [h.2]; simp)
theorem RX.of (h : RepO F mg H d v fp) : RX F mg H d v fp := by
  cases d <;> first | exact h | exact h.elim
theorem RX.own (h : RX F mg H d v fp) (n : d.isX = false) : RepO F mg H d v fp := by
  cases d <;> first | exact h | cases n
theorem RX.mono (g : Ag F H F' H') (k : ∀ a ∈ fp, H' a = H a) (h : RX F mg H d v fp) : RX F' mg H' d v fp := by
  cases d <;> first | exact RepO.mono g _ _ _ k h | exact ⟨h.1, h.2.1.mono g, h.2.2⟩
theorem RX.there (h : RX F mg H d v fp) : ∀ a ∈ fp, ∃ o, H a = some o := by
  cases d <;> first | exact RepO.there _ _ _ h | (rw [h.2.2]; simp)
theorem RX.nt (h : RX F mg H d v fp) : ∀ a ∈ fp, Nt H a := by
  cases d <;> first | exact RepO.nt _ _ _ h | (rw [h.2.2]; simp)
theorem RTs.mono (g : Ag F H F' H') : ∀ {T : Tm} {fp : List Addr}, (∀ a ∈ fp, H' a = H a) → RTs F mg H σ T fp → RTs F' mg H' σ T fp
  | [], _, _, h => h
  | _ :: _, _, k, ⟨f1, f2, e, h1, h2⟩ => ⟨f1, f2, e, h1.mono g (fun a ha => k a (by rw [e]; simp [ha])), RTs.mono g (fun a ha => k a (by rw [e]; simp [ha])) h2⟩
theorem RTs.there : ∀ {T : Tm} {fp : List Addr}, RTs F mg H σ T fp → ∀ a ∈ fp, ∃ o, H a = some o
  | [], _, h => by rw [show _ = _ from h]; simp
  | _ :: _, _, ⟨f1, f2, e, h1, h2⟩ => fun a ha => by
    rw [e] at ha
    rcases List.mem_append.mp ha with ha | ha
    · exact h1.there a ha
    · exact RTs.there h2 a ha
theorem RTs.nt : ∀ {T : Tm} {fp : List Addr}, RTs F mg H σ T fp → ∀ a ∈ fp, Nt H a
  | [], _, h => by rw [show _ = _ from h]; simp
  | _ :: _, _, ⟨f1, f2, e, h1, h2⟩ => fun a ha => by
    rw [e] at ha
    rcases List.mem_append.mp ha with ha | ha
    · exact h1.nt a ha
    · exact RTs.nt h2 a ha
theorem RTs.append : ∀ {T T' : Tm} {f g : List Addr}, RTs F mg H σ T f → RTs F mg H σ T' g → RTs F mg H σ (T ++ T') (f ++ g)
  | [], _, _, _, h, h' => by rw [show _ = _ from h]; exact h'
  | _ :: _, _, _, _, ⟨f1, f2, e, h1, h2⟩, h' => ⟨f1, _, by rw [e, List.append_assoc], h1, RTs.append h2 h'⟩
theorem RTs.split : ∀ {T T' : Tm} {f : List Addr}, RTs F mg H σ (T ++ T') f → ∃ f1 f2, f = f1 ++ f2 ∧ RTs F mg H σ T f1 ∧ RTs F mg H σ T' f2
  | [], _, _, h => ⟨[], _, rfl, rfl, h⟩
  | x :: T, T', f, h => by
    obtain ⟨f1, f2, e, h1, h2⟩ : ∃ f1 f2, f = f1 ++ f2 ∧ RT F mg H σ x.2 x.1 f1 ∧ RTs F mg H σ (T ++ T') f2 := h
    obtain ⟨g1, g2, e2, h3, h4⟩ := RTs.split h2
    exact ⟨f1 ++ g1, g2, by rw [e, e2, List.append_assoc], ⟨f1, g1, rfl, h1, h3⟩, h4⟩
theorem RTs.perm {T T' : Tm} (p : T.Perm T') : ∀ {f : List Addr}, RTs F mg H σ T f → ∃ f', f.Perm f' ∧ RTs F mg H σ T' f' := by
  induction p with
  | nil => exact fun h => ⟨_, .refl _, h⟩
  | cons x _ ih =>
    rintro f ⟨f1, f2, e, h1, h2⟩
    obtain ⟨g, q, h3⟩ := ih h2
    exact ⟨f1 ++ g, by rw [e]; exact .append_left _ q, f1, g, rfl, h1, h3⟩
  | swap x y l =>
    rintro f ⟨f1, f2, e, h1, g1, g2, e2, h2, h3⟩
    refine ⟨g1 ++ (f1 ++ g2), ?_, g1, _, rfl, h2, f1, g2, rfl, h1, h3⟩
    rw [e, e2, ← List.append_assoc, ← List.append_assoc]
    exact List.Perm.append_right _ List.perm_append_comm
  | trans _ _ ih1 ih2 =>
    intro f h
    obtain ⟨g, q, h1⟩ := ih1 h
    obtain ⟨g', q', h2⟩ := ih2 h1
    exact ⟨g', q.trans q', h2⟩
theorem RTs.mem : ∀ {T : Tm} {f : List Addr} {x : V × D}, RTs F mg H σ T f → x ∈ T → ∃ g, RT F mg H σ x.2 x.1 g
  | _ :: _, _, _, ⟨f1, f2, e, h1, h2⟩, hx => by
    rcases List.mem_cons.mp hx with rfl | hx
    · exact ⟨f1, h1⟩
    · exact RTs.mem h2 hx
theorem RS.mono (g : Ag F H F' H') : ∀ {σ : St} {ρ : Env} {fp : List Addr}, (∀ a ∈ fp, H' a = H a) → RS F mg H σ ρ fp → RS F' mg H' σ ρ fp
  | [], [], _, _, h => h
  | [], _ :: _, _, _, h => h.elim
  | _ :: _, [], _, _, h => h.elim
  | _ :: σ, none :: ρ, fp, k, h => RS.mono (σ := σ) (ρ := ρ) g k h
  | _ :: _, some _ :: _, _, k, ⟨v, f1, f2, e, e2, h1, h2⟩ => ⟨v, f1, f2, e, e2, h1.mono g (fun a ha => k a (by rw [e2]; simp [ha])), RS.mono g (fun a ha => k a (by rw [e2]; simp [ha])) h2⟩
theorem RS.there : ∀ {σ : St} {ρ : Env} {fp : List Addr}, RS F mg H σ ρ fp → ∀ a ∈ fp, ∃ o, H a = some o
  | [], [], _, h => by rw [show _ = _ from h]; simp
  | [], _ :: _, _, h => h.elim
  | _ :: _, [], _, h => h.elim
  | _ :: σ, none :: ρ, fp, h => RS.there (σ := σ) (ρ := ρ) h
  | _ :: _, some _ :: _, _, ⟨v, f1, f2, e, e2, h1, h2⟩ => fun a ha => by
    rw [e2] at ha
    rcases List.mem_append.mp ha with ha | ha
    · exact h1.there a ha
    · exact RS.there h2 a ha
theorem RS.nt : ∀ {σ : St} {ρ : Env} {fp : List Addr}, RS F mg H σ ρ fp → ∀ a ∈ fp, Nt H a
  | [], [], _, h => by rw [show _ = _ from h]; simp
  | [], _ :: _, _, h => h.elim
  | _ :: _, [], _, h => h.elim
  | _ :: σ, none :: ρ, fp, h => RS.nt (σ := σ) (ρ := ρ) h
  | _ :: _, some _ :: _, _, ⟨v, f1, f2, e, e2, h1, h2⟩ => fun a ha => by
    rw [e2] at ha
    rcases List.mem_append.mp ha with ha | ha
    · exact h1.nt a ha
    · exact RS.nt h2 a ha
theorem RS.length : ∀ {σ : St} {ρ : Env} {fp : List Addr}, RS F mg H σ ρ fp → σ.length = ρ.length
  | [], [], _, h => rfl
  | [], _ :: _, _, h => h.elim
  | _ :: _, [], _, h => h.elim
  | _ :: σ, none :: ρ, fp, h => by simpa using RS.length (σ := σ) (ρ := ρ) h
  | _ :: _, some _ :: _, _, ⟨v, f1, f2, e, e2, h1, h2⟩ => by simpa using RS.length h2
/-- a slot is read -/
theorem RS.get : ∀ {σ : St} {ρ : Env} {fp : List Addr} {i : Nat} {d : D}, RS F mg H σ ρ fp → ρ[i]? = some (some d) → ∃ v f, σ[i]? = some (some v) ∧ RX F mg H d v f
  | [], [], _, _, _, _, e => by simp at e
  | [], _ :: _, _, _, _, h, _ => h.elim
  | _ :: _, [], _, _, _, h, _ => h.elim
  | _ :: σ, none :: ρ, fp, 0, _, h, e => by simp at e
  | _ :: σ, none :: ρ, fp, i + 1, d, h, e => by
    obtain ⟨v, f, q, r⟩ := RS.get (σ := σ) (ρ := ρ) (i := i) (d := d) h (by simpa using e)
    exact ⟨v, f, by simpa using q, r⟩
  | _ :: _, some _ :: _, _, 0, _, ⟨v, f1, f2, e1, e2, h1, h2⟩, e => by simp at e; subst e; exact ⟨v, f1, by simp [e1], h1⟩
  | _ :: _, some _ :: _, _, i + 1, _, ⟨v, f1, f2, e1, e2, h1, h2⟩, e => by
    obtain ⟨v, f, q, r⟩ := RS.get (i := i) h2 (by simpa using e)
    exact ⟨v, f, by simpa using q, r⟩
/-- a slot's thing is taken out -/
theorem RS.take : ∀ {σ : St} {ρ : Env} {fp : List Addr} {i : Nat} {d : D}, RS F mg H σ ρ fp → ρ[i]? = some (some d) → ∃ v f g, fp.Perm (f ++ g) ∧ σ[i]? = some (some v) ∧ RX F mg H d v f ∧ RS F mg H σ (ρ.set i none) g
  | [], [], _, _, _, _, e => by simp at e
  | [], _ :: _, _, _, _, h, _ => h.elim
  | _ :: _, [], _, _, _, h, _ => h.elim
  | _ :: σ, none :: ρ, fp, 0, _, h, e => by simp at e
  | _ :: σ, none :: ρ, fp, i + 1, d, h, e => by
    obtain ⟨v, f, g, p, q, r, s⟩ := RS.take (σ := σ) (ρ := ρ) (i := i) (d := d) h (by simpa using e)
    exact ⟨v, f, g, p, by simpa using q, r, s⟩
  | _ :: _, some _ :: _, _, 0, _, ⟨v, f1, f2, e1, e2, h1, h2⟩, e => by simp at e; subst e; exact ⟨v, f1, f2, by rw [e2], by simp [e1], h1, h2⟩
  | _ :: _, some _ :: _, _, i + 1, _, ⟨v, f1, f2, e1, e2, h1, h2⟩, e => by
    obtain ⟨v', f, g, p, q, r, s⟩ := RS.take (i := i) h2 (by simpa using e)
    refine ⟨v', f, f1 ++ g, ?_, by simpa using q, r, v, f1, g, e1, rfl, h1, s⟩
    rw [e2]
    refine (List.Perm.append_left f1 p).trans ?_
    rw [← List.append_assoc, ← List.append_assoc]
    exact List.Perm.append_right _ List.perm_append_comm
/-- a slot is emptied, its value may be any -/
theorem RS.drop : ∀ {σ : St} {ρ : Env} {fp : List Addr} (i : Nat) (x : Option V), RS F mg H σ ρ fp → ∃ g, g.Sublist fp ∧ RS F mg H (σ.set i x) (ρ.set i none) g
  | [], [], fp, _, _, h => ⟨fp, .refl _, h⟩
  | [], _ :: _, _, _, _, h => h.elim
  | _ :: _, [], _, _, _, h => h.elim
  | _ :: σ, none :: ρ, fp, 0, _, h => ⟨fp, .refl _, h⟩
  | _ :: σ, none :: ρ, fp, i + 1, x, h => by
    obtain ⟨g, q, r⟩ := RS.drop (σ := σ) (ρ := ρ) i x h
    exact ⟨g, q, r⟩
  | _ :: _, some _ :: _, _, 0, _, ⟨v, f1, f2, e1, e2, h1, h2⟩ => ⟨f2, by rw [e2]; exact List.sublist_append_right _ _, h2⟩
  | _ :: _, some _ :: _, _, i + 1, x, ⟨v, f1, f2, e1, e2, h1, h2⟩ => by
    obtain ⟨g, q, r⟩ := RS.drop i x h2
    exact ⟨f1 ++ g, by rw [e2]; exact List.Sublist.append_left q f1, v, f1, g, e1, rfl, h1, r⟩
/-- an empty slot is filled -/
theorem RS.put : ∀ {σ : St} {ρ : Env} {fp f : List Addr} {i : Nat} {d : D} {v : V}, RS F mg H σ ρ fp → ρ[i]? = some none → RX F mg H d v f → ∃ g, g.Perm (f ++ fp) ∧ RS F mg H (σ.set i (some v)) (ρ.set i (some d)) g
  | [], [], _, _, _, _, _, _, e, _ => by simp at e
  | [], _ :: _, _, _, _, _, _, h, _, _ => h.elim
  | _ :: _, [], _, _, _, _, _, h, _, _ => h.elim
  | _ :: σ, none :: ρ, fp, f, 0, _, v, h, e, r => ⟨f ++ fp, .refl _, v, f, fp, rfl, rfl, r, h⟩
  | _ :: σ, none :: ρ, fp, f, i + 1, d, v, h, e, r => by
    obtain ⟨g, q, s⟩ := RS.put (σ := σ) (ρ := ρ) (i := i) h (by simpa using e) r
    exact ⟨g, q, s⟩
  | _ :: _, some _ :: _, _, _, 0, _, _, _, e, _ => by simp at e
  | _ :: _, some _ :: _, _, f, i + 1, d, v, ⟨v0, f1, f2, e1, e2, h1, h2⟩, e, r => by
    obtain ⟨g, q, s⟩ := RS.put (i := i) h2 (by simpa using e) r
    refine ⟨f1 ++ g, ?_, v0, f1, g, e1, rfl, h1, s⟩
    rw [e2]
    refine (List.Perm.append_left f1 q).trans ?_
    rw [← List.append_assoc, ← List.append_assoc]
    exact List.Perm.append_right _ List.perm_append_comm
/-! ### the state -/
theorem Sat.perm {T' : Tm} (S : Sat F B mg H σ ρ T) (p : T.Perm T') : Sat F B mg H σ ρ T' := by
  obtain ⟨⟨o1, o2, h1, h2, nd, nb⟩, fb, bt⟩ := S
  obtain ⟨o3, q, h3⟩ := h2.perm p
  have pp : (o1 ++ o2).Perm (o1 ++ o3) := .append_left _ q
  exact ⟨⟨o1, o3, h1, h3, pp.nodup_iff.mp nd, fun a ha => nb a (pp.mem_iff.mpr ha)⟩, fb, bt⟩
theorem Sat.sub {T' : Tm} (S : Sat F B mg H σ ρ (T' ++ T)) : Sat F B mg H σ ρ T := by
  obtain ⟨⟨o1, o2, h1, h2, nd, nb⟩, fb, bt⟩ := S
  obtain ⟨f1, f2, e, _, h3⟩ := h2.split
  subst e
  have s : (o1 ++ f2).Sublist (o1 ++ (f1 ++ f2)) := List.Sublist.append_left (List.sublist_append_right _ _) _
  exact ⟨⟨o1, f2, h1, h3, nd.sublist s, fun a ha => nb a (s.mem ha)⟩, fb, bt⟩
theorem Sat.pop {x : V × D} (S : Sat F B mg H σ ρ (x :: T)) : Sat F B mg H σ ρ T := Sat.sub (T' := [x]) S
theorem Sat.length (S : Sat F B mg H σ ρ T) : σ.length = ρ.length := by
  obtain ⟨⟨o1, o2, h1, h2, nd, nb⟩, fb, bt⟩ := S
  exact h1.length
theorem Sat.mem {x : V × D} (S : Sat F B mg H σ ρ T) (hx : x ∈ T) : ∃ g, RT F mg H σ x.2 x.1 g := by
  obtain ⟨⟨o1, o2, h1, h2, nd, nb⟩, fb, bt⟩ := S
  exact h2.mem hx
theorem Sat.top {x : V × D} (S : Sat F B mg H σ ρ (x :: T)) : ∃ g, RT F mg H σ x.2 x.1 g := S.mem (List.mem_cons_self ..)
theorem Sat.tru (S : Sat F B mg H σ ρ T) {a : Addr} (h : F a) : ∃ o, H a = some o := S.bt a (S.fb a h)
/-- the master step -/
theorem Sat.step {Ts Ts' : Tm} (S : Sat F B mg H σ ρ (Ts ++ T))
    (h : ∀ fs, RTs F mg H σ Ts fs → fs.Nodup → (∀ a ∈ fs, ¬ B a) → ∃ (F' : Addr → Prop) (fs' : List Addr), (∀ a, F a → F' a) ∧ (∀ a, a ∉ fs → (∃ o, H a = some o) → H' a = H a) ∧ RTs F' mg H' σ Ts' fs' ∧ fs'.Nodup ∧
      (∀ a ∈ fs', a ∈ fs ∨ H a = none) ∧ (∀ a, F' a → F a ∨ a ∈ fs ∨ H a = none) ∧ (∀ a ∈ fs', ¬ F' a) ∧ ∀ a, F' a → ∃ o, H' a = some o) :
    ∃ F' : Addr → Prop, Ext F B H F' (fun a => B a ∨ F' a) H' ∧ Sat F' (fun a => B a ∨ F' a) mg H' σ ρ (Ts' ++ T) := by
  obtain ⟨⟨o1, o2, h1, h2, nd, nb⟩, fb, bt⟩ := S
  obtain ⟨fs, f2, e, h3, h4⟩ := h2.split
  subst e
  have hd := List.nodup_append.mp nd
  have hd2 := List.nodup_append.mp hd.2.1
  obtain ⟨F', fs', g1, g2, g3, g4, g5, g6, g7, g8⟩ := h fs h3 hd2.1 fun a ha => nb a (by simp [ha])
  have gB : ∀ a, B a → H' a = H a := fun a ha => g2 a (fun z => nb a (by simp [z]) ha) (bt a ha)
  have ag : Ag F H F' H' := ⟨g1, fun a ha => gB a (fb a ha)⟩
  have k1 : ∀ a ∈ o1, a ∉ fs := fun a ha z => hd.2.2 a ha a (by simp [z]) rfl
  have k2 : ∀ a ∈ f2, a ∉ fs := fun a ha z => hd2.2.2 a z a ha rfl
  have t1 : ∀ a ∈ o1, ∃ o, H a = some o := h1.there
  have t2 : ∀ a ∈ f2, ∃ o, H a = some o := h4.there
  have nn : ∀ {a}, (∃ o, H a = some o) → H a ≠ none := fun ⟨o, e⟩ z => by rw [e] at z; cases z
  have d1 : ∀ a ∈ o1, a ∉ fs' := fun a ha z => (g5 a z).elim (k1 a ha) (nn (t1 a ha))
  have d2 : ∀ a ∈ f2, a ∉ fs' := fun a ha z => (g5 a z).elim (k2 a ha) (nn (t2 a ha))
  refine ⟨F', ⟨g1, fun a ha => .inl ha, gB, fun a ha => ?_⟩, ⟨o1, fs' ++ f2, h1.mono ag fun a ha => g2 a (k1 a ha) (t1 a ha), g3.append (h4.mono ag fun a ha => g2 a (k2 a ha) (t2 a ha)), ?_, fun a ha => ?_⟩, fun a ha => .inr ha, fun a ha => ?_⟩
  · rcases g6 a ha with z | z | z
    · exact .inl z
    · exact .inr fun y => nb a (by simp [z]) y.1
    · exact .inr fun y => nn (bt a y.1) z
  · refine List.nodup_append.mpr ⟨hd.1, List.nodup_append.mpr ⟨g4, hd2.2.1, fun a ha b hb z => d2 b hb (z ▸ ha)⟩, fun a ha b hb z => ?_⟩
    subst z
    rcases List.mem_append.mp hb with hb | hb
    · exact d1 a ha hb
    · exact hd.2.2 a ha a (by simp [hb]) rfl
  · have old : (a ∈ o1 ∨ a ∈ f2) → ¬ (B a ∨ F' a) := fun z y => by
      have m : a ∈ o1 ++ (fs ++ f2) := by rcases z with z | z <;> simp [z]
      have t : ∃ o, H a = some o := z.elim (t1 a) (t2 a)
      rcases y with y | y
      · exact nb a m y
      · rcases g6 a y with q | q | q
        · exact nb a m (fb a q)
        · exact z.elim (fun z => k1 a z q) fun z => k2 a z q
        · exact nn t q
    rcases List.mem_append.mp ha with ha | ha
    · exact old (.inl ha)
    · rcases List.mem_append.mp ha with ha | ha
      · rintro (y | y)
        · rcases g5 a ha with q | q
          · exact nb a (by simp [q]) y
          · exact nn (bt a y) q
        · exact g7 a ha y
      · exact old (.inr ha)
  · rcases ha with ha | ha
    · rw [gB a ha]; exact bt a ha
    · exact g8 a ha
/-- a slot's thing comes to hand -/
theorem Sat.take {i : Nat} (S : Sat F B mg H σ ρ T) (e : ρ[i]? = some (some d)) (nx : d.isX = false) : ∃ v, σ[i]? = some (some v) ∧ Sat F B mg H σ (ρ.set i none) ((v, d) :: T) := by
  obtain ⟨⟨o1, o2, h1, h2, nd, nb⟩, fb, bt⟩ := S
  obtain ⟨v, f, g, p, q, r, s⟩ := h1.take e
  have pp : (o1 ++ o2).Perm (g ++ (f ++ o2)) := by
    refine (List.Perm.append_right o2 p).trans ?_
    rw [← List.append_assoc]
    exact List.Perm.append_right _ List.perm_append_comm
  exact ⟨v, q, ⟨g, f ++ o2, s, ⟨f, o2, rfl, RT.of (r.own nx), h2⟩, pp.nodup_iff.mp nd, fun a ha => nb a (pp.mem_iff.mpr ha)⟩, fb, bt⟩
/-- .. and goes into a slot: its own one, or another -/
theorem Sat.put {i : Nat} (S : Sat F B mg H σ ρ ((v, d) :: T)) (n : ∀ j, d ≠ .sl j) (hi : i < ρ.length) (ht : σ[i]? = some (some v) ∨ ∀ x ∈ T, x.2 ≠ .sl i) : Sat F B mg H (σ.set i (some v)) (ρ.set i (some d)) T := by
  obtain ⟨⟨o1, o2, h1, h2, nd, nb⟩, fb, bt⟩ := S
  obtain ⟨f, o3, e, r, h3⟩ := h2
  subst e
  obtain ⟨g, sg, h4⟩ := h1.drop i (some v)
  have e0 : (ρ.set i none)[i]? = some none := by simp [hi]
  obtain ⟨g2, p2, h5⟩ := h4.put (i := i) e0 (RX.of (r.own n))
  simp only [List.set_set] at h5
  have tt : ∀ {T : Tm} {o3 : List Addr}, (σ[i]? = some (some v) ∨ ∀ x ∈ T, x.2 ≠ .sl i) → RTs F mg H σ T o3 → RTs F mg H (σ.set i (some v)) T o3 := by
    intro T
    induction T with
    | nil => exact fun _ h => h
    | cons x T ih =>
      rintro o3 hx ⟨f1, f2, e, k1, k2⟩
      refine ⟨f1, f2, e, ?_, ih (hx.imp_right fun z y hy => z y (List.mem_cons_of_mem _ hy)) k2⟩
      obtain ⟨xv, xd⟩ := x
      cases xd with
      | sl j =>
        obtain ⟨k3, k4⟩ := k1
        refine ⟨?_, k4⟩
        by_cases hj : i = j
        · subst hj
          rcases hx with hx | hx
          · rw [hx] at k3
            cases k3
            rw [List.getElem?_set_self (by rw [h1.length]; exact hi)]
          · exact absurd rfl (hx _ (List.mem_cons_self ..))
        · rw [List.getElem?_set_ne hj]
          exact k3
      | _ => exact k1
  have pp : (g2 ++ o3).Perm (g ++ (f ++ o3)) := by
    rw [← List.append_assoc]
    exact List.Perm.append_right _ (p2.trans List.perm_append_comm)
  have ss : (g ++ (f ++ o3)).Sublist (o1 ++ (f ++ o3)) := List.Sublist.append_right sg _
  exact ⟨⟨g2, o3, h5, tt ht h3, pp.nodup_iff.mpr (nd.sublist ss), fun a ha => nb a (ss.mem (pp.mem_iff.mp ha))⟩, fb, bt⟩
/-- a slot is forgotten -/
theorem Sat.forget (S : Sat F B mg H σ ρ T) (i : Nat) : Sat F B mg H σ (ρ.set i none) T := by
  obtain ⟨⟨o1, o2, h1, h2, nd, nb⟩, fb, bt⟩ := S
  by_cases hi : i < σ.length
  · obtain ⟨g, sg, h4⟩ := h1.drop i σ[i]
    rw [List.set_getElem_self] at h4
    have ss : (g ++ o2).Sublist (o1 ++ o2) := List.Sublist.append_right sg _
    exact ⟨⟨g, o2, h4, h2, nd.sublist ss, fun a ha => nb a (ss.mem ha)⟩, fb, bt⟩
  · rw [List.set_eq_of_length_le (by rw [← h1.length]; omega)]
    exact ⟨⟨o1, o2, h1, h2, nd, nb⟩, fb, bt⟩
theorem Sat.get {i : Nat} (S : Sat F B mg H σ ρ T) (e : ρ[i]? = some (some d)) (nx : d.isX = false) : ∃ v, σ[i]? = some (some v) ∧ ∃ f, RepO F mg H d v f := by
  obtain ⟨⟨o1, o2, h1, h2, nd, nb⟩, fb, bt⟩ := S
  obtain ⟨v, f, q, r⟩ := h1.get e
  exact ⟨v, q, f, r.own nx⟩
/-- a frozen value comes to hand -/
theorem Sat.push (S : Sat F B mg H σ ρ T) (h : Rep F mg H d v) : Sat F B mg H σ ρ ((v, d) :: T) := by
  obtain ⟨⟨o1, o2, h1, h2, nd, nb⟩, fb, bt⟩ := S
  exact ⟨⟨o1, o2, h1, ⟨[], o2, rfl, RT.of (Rep.owned _ _ h), h2⟩, nd, nb⟩, fb, bt⟩
theorem Sat.pushSl {i : Nat} (S : Sat F B mg H σ ρ T) (h : σ[i]? = some (some v)) : Sat F B mg H σ ρ ((v, .sl i) :: T) := by
  obtain ⟨⟨o1, o2, h1, h2, nd, nb⟩, fb, bt⟩ := S
  exact ⟨⟨o1, o2, h1, ⟨[], o2, rfl, ⟨h, rfl⟩, h2⟩, nd, nb⟩, fb, bt⟩
/-- the abstract heap grows by an object that nobody knows -/
theorem Sat.grow {p : Addr} {o : HO} (S : Sat F B mg H σ ρ T) (hp : H p = none) : Ext F B H F B (upd H p o) ∧ Sat F B mg (upd H p o) σ ρ T := by
  obtain ⟨⟨o1, o2, h1, h2, nd, nb⟩, fb, bt⟩ := S
  have k : ∀ {a}, (∃ o, H a = some o) → upd H p o a = H a := fun {a} ⟨u, e⟩ => upd_ne (ne_of_none e hp)
  have ag : Ag F H F (upd H p o) := ⟨fun _ h => h, fun a ha => k (bt a (fb a ha))⟩
  refine ⟨⟨fun _ h => h, fun _ h => h, fun a ha => k (bt a ha), fun _ h => .inl h⟩, ⟨o1, o2, h1.mono ag fun a ha => k (h1.there a ha), h2.mono ag fun a ha => k (h2.there a ha), nd, nb⟩, fb, fun a ha => ?_⟩
  rw [k (bt a ha)]
  exact bt a ha
end SV
end
section
set_option Elab.async false
set_option linter.all false
set_option maxRecDepth 100000
set_option maxHeartbeats 4000000
namespace SV
open PySem PySem.Spec L2
/-! ### what is reckoned -/
inductive Res (α : Type) where
  | ok (a : α) | exc (c : Str) (fs : List (Str × D))
abbrev M (α : Type) := Env → Option (Res α × Env)
def bnd {α β : Type} (m : M α) (k : α → M β) : M β := fun ρ => match m ρ with
  | some (.ok a, ρ1) => k a ρ1
  | some (.exc c fs, ρ1) => some (.exc c fs, ρ1)
  | none => none
def ret {α : Type} (a : α) : M α := fun ρ => some (.ok a, ρ)
def stuck {α : Type} : M α := fun _ => none
section
variable (mg : Cn) (W : WX)
/-- where an exception goes -/
def PX {α : Type} (σ : St) (T : Tm) (F B : Addr → Prop) (H : Hp) (ρ' : Env) (r : Res α) : Prop := ∀ c fs, r = .exc c fs → ∀ F' B' H' cls dx, Ext F B H F' B' H' → Sat F' B' mg H' σ ρ' T → ExcAt F' mg H' cls dx c fs → W cls dx σ H'
def SimE (t : TE) (m : M D) : Prop := ∀ (F B : Addr → Prop) (H : Hp) (σ : St) (ρ : Env) (T : Tm) (Q : VK) (r : Res D) (ρ' : Env), Sat F B mg H σ ρ T → m ρ = some (r, ρ') → PX mg W σ T F B H ρ' r →
  (∀ d, r = .ok d → ∀ F' B' H' v, Ext F B H F' B' H' → Sat F' B' mg H' σ ρ' ((v, d) :: T) → Q v H') → t σ H Q
def SimT (t : TT) (m : M Bool) : Prop := ∀ (F B : Addr → Prop) (H : Hp) (σ : St) (ρ : Env) (T : Tm) (Q : Bool → Hp → Prop) (r : Res Bool) (ρ' : Env), Sat F B mg H σ ρ T → m ρ = some (r, ρ') → PX mg W σ T F B H ρ' r →
  (∀ b, r = .ok b → ∀ F' B' H', Ext F B H F' B' H' → Sat F' B' mg H' σ ρ' T → Q b H') → t σ H Q
/-- arguments: they lie at hand in their order -/
def SimA (t : TA) (m : M (List D)) : Prop := ∀ (F B : Addr → Prop) (H : Hp) (σ : St) (ρ : Env) (T : Tm) (Q : List V → Hp → Prop) (r : Res (List D)) (ρ' : Env), Sat F B mg H σ ρ T → m ρ = some (r, ρ') → PX mg W σ T F B H ρ' r →
  (∀ ds, r = .ok ds → ∀ F' B' H' vs, Ext F B H F' B' H' → vs.length = ds.length → Sat F' B' mg H' σ ρ' (vs.zip ds ++ T) → Q vs H') → t σ H Q
/-- a rule for two values, one value, several -/
def SimR (r : R2) (f : D → D → M D) : Prop := ∀ (F B : Addr → Prop) (H : Hp) (σ : St) (ρ : Env) (T : Tm) (x y : V) (dx dy : D) (Q : VK) (res : Res D) (ρ' : Env), Sat F B mg H σ ρ ((y, dy) :: (x, dx) :: T) → f dx dy ρ = some (res, ρ') → PX mg W σ T F B H ρ' res →
  (∀ d, res = .ok d → ∀ F' B' H' v, Ext F B H F' B' H' → Sat F' B' mg H' σ ρ' ((v, d) :: T) → Q v H') → r x y H Q
def SimU (r : V → Hp → VK → Prop) (f : D → M D) : Prop := ∀ (F B : Addr → Prop) (H : Hp) (σ : St) (ρ : Env) (T : Tm) (x : V) (dx : D) (Q : VK) (res : Res D) (ρ' : Env), Sat F B mg H σ ρ ((x, dx) :: T) → f dx ρ = some (res, ρ') → PX mg W σ T F B H ρ' res →
  (∀ d, res = .ok d → ∀ F' B' H' v, Ext F B H F' B' H' → Sat F' B' mg H' σ ρ' ((v, d) :: T) → Q v H') → r x H Q
def SimC (r : List V → Hp → VK → Prop) (f : List D → M D) : Prop := ∀ (F B : Addr → Prop) (H : Hp) (σ : St) (ρ : Env) (T : Tm) (xs : List V) (ds : List D) (Q : VK) (res : Res D) (ρ' : Env), xs.length = ds.length → Sat F B mg H σ ρ (xs.zip ds ++ T) → f ds ρ = some (res, ρ') → PX mg W σ T F B H ρ' res →
  (∀ d, res = .ok d → ∀ F' B' H' v, Ext F B H F' B' H' → Sat F' B' mg H' σ ρ' ((v, d) :: T) → Q v H') → r xs H Q
end
section
variable {F B F' B' : Addr → Prop} {mg : Cn} {W : WX} {H H' : Hp} {σ : St} {ρ ρ' : Env} {T : Tm} {v : V} {d : D}
theorem PX.shift {α : Type} {r : Res α} (x : Ext F B H F' B' H') (p : PX mg W σ T F B H ρ' r) : PX mg W σ T F' B' H' ρ' r := fun c fs e F2 B2 H2 cls dx y S z => p c fs e F2 B2 H2 cls dx (x.trans y) S z
theorem PX.more {α : Type} {r : Res α} {T' : Tm} (p : PX mg W σ T F B H ρ' r) : PX mg W σ (T' ++ T) F B H ρ' r := fun c fs e F2 B2 H2 cls dx y S z => p c fs e F2 B2 H2 cls dx y S.sub z
theorem PX.cons {α : Type} {r : Res α} {x : V × D} (p : PX mg W σ T F B H ρ' r) : PX mg W σ (x :: T) F B H ρ' r := fun c fs e F2 B2 H2 cls dx y S z => p c fs e F2 B2 H2 cls dx y S.pop z
theorem PX.cast {α β : Type} {c : Str} {fs : List (Str × D)} (p : PX (α := α) mg W σ T F B H ρ' (.exc c fs)) : PX (α := β) mg W σ T F B H ρ' (.exc c fs) := fun c' fs' e => by
  cases e
  exact p c fs rfl
theorem PX.ok {α : Type} {a : α} : PX mg W σ T F B H ρ' (.ok a) := fun c' fs' e => by cases e
/-- one thing after another -/
theorem SimE.bind {β : Type} {ta : TE} {ma : M D} (ha : SimE mg W ta ma) {k : D → M β} {r : Res β} {R : V → Hp → Prop} (S : Sat F B mg H σ ρ T) (e : bnd ma k ρ = some (r, ρ')) (px : PX mg W σ T F B H ρ' r)
    (h : ∀ d ρ1 F1 B1 H1 v, k d ρ1 = some (r, ρ') → Ext F B H F1 B1 H1 → Sat F1 B1 mg H1 σ ρ1 ((v, d) :: T) → R v H1) : ta σ H R := by
  unfold bnd at e
  split at e
  · rename_i a ρ1 e1
    exact ha F B H σ ρ T R (.ok a) ρ1 S e1 PX.ok fun d hd F1 B1 H1 v x S1 => by cases hd; exact h a ρ1 F1 B1 H1 v e x S1
  · rename_i c fs ρ1 e1
    cases e
    exact ha F B H σ ρ T R (.exc c fs) _ S e1 px.cast fun d hd => by cases hd
  · cases e
theorem SimT.bind {β : Type} {ta : TT} {ma : M Bool} (ha : SimT mg W ta ma) {k : Bool → M β} {r : Res β} {R : Bool → Hp → Prop} (S : Sat F B mg H σ ρ T) (e : bnd ma k ρ = some (r, ρ')) (px : PX mg W σ T F B H ρ' r)
    (h : ∀ d ρ1 F1 B1 H1, k d ρ1 = some (r, ρ') → Ext F B H F1 B1 H1 → Sat F1 B1 mg H1 σ ρ1 T → R d H1) : ta σ H R := by
  unfold bnd at e
  split at e
  · rename_i a ρ1 e1
    exact ha F B H σ ρ T R (.ok a) ρ1 S e1 PX.ok fun d hd F1 B1 H1 x S1 => by cases hd; exact h a ρ1 F1 B1 H1 e x S1
  · rename_i c fs ρ1 e1
    cases e
    exact ha F B H σ ρ T R (.exc c fs) _ S e1 px.cast fun d hd => by cases hd
  · cases e
theorem SimA.bind {β : Type} {ta : TA} {ma : M (List D)} (ha : SimA mg W ta ma) {k : List D → M β} {r : Res β} {R : List V → Hp → Prop} (S : Sat F B mg H σ ρ T) (e : bnd ma k ρ = some (r, ρ')) (px : PX mg W σ T F B H ρ' r)
    (h : ∀ ds ρ1 F1 B1 H1 vs, k ds ρ1 = some (r, ρ') → Ext F B H F1 B1 H1 → vs.length = ds.length → Sat F1 B1 mg H1 σ ρ1 (vs.zip ds ++ T) → R vs H1) : ta σ H R := by
  unfold bnd at e
  split at e
  · rename_i a ρ1 e1
    exact ha F B H σ ρ T R (.ok a) ρ1 S e1 PX.ok fun d hd F1 B1 H1 v x l S1 => by cases hd; exact h a ρ1 F1 B1 H1 v e x l S1
  · rename_i c fs ρ1 e1
    cases e
    exact ha F B H σ ρ T R (.exc c fs) _ S e1 px.cast fun d hd => by cases hd
  · cases e
/-- the end: a value that is frozen already -/
theorem fin {Q : VK} {r : Res D} (S : Sat F B mg H σ ρ T) (h : ∀ d, r = .ok d → ∀ F' B' H' v, Ext F B H F' B' H' → Sat F' B' mg H' σ ρ ((v, d) :: T) → Q v H') (e : r = .ok d) (rp : Rep F mg H d v) : Q v H :=
  h d e F B H v Ext.refl (S.push rp)
/-! ### names and constants -/
theorem sim_int (i : Int) : SimE mg W (tC (.int i)) (ret (.int i)) := fun F B H σ ρ T Q r ρ' S e px h => by
  cases e
  exact fin S h rfl (by rfl)
theorem sim_bl (b : Bool) : SimE mg W (tC (.bl b)) (ret (.bl b)) := fun F B H σ ρ T Q r ρ' S e px h => by
  cases e
  exact fin S h rfl (by rfl)
theorem sim_str (x : Str) : SimE mg W (tC (.str x)) (ret (.str x)) := fun F B H σ ρ T Q r ρ' S e px h => by
  cases e
  exact fin S h rfl (by rfl)
theorem sim_non : SimE mg W (tC .non) (ret .non) := fun F B H σ ρ T Q r ρ' S e px h => by
  cases e
  exact fin S h rfl (by rfl)
def mVar (i : Nat) : M D := fun ρ => match ρ[i]? with
  | some (some d) => if d.own = true then some (.ok (.sl i), ρ) else if d.isX = true then none else some (.ok d, ρ)
  | _ => none
theorem sim_var (i : Nat) : SimE mg W (tVar i) (mVar i) := fun F B H σ ρ T Q r ρ' S e px h => by
  unfold mVar at e
  split at e
  · rename_i d e1
    split at e
    · rename_i n
      obtain ⟨v, hv, f, hr⟩ := S.get e1 (by cases d <;> first | rfl | cases n)
      cases e
      exact ⟨v, hv, h _ rfl F B H v Ext.refl (S.pushSl hv)⟩
    · rename_i n
      split at e
      · cases e
      · rename_i n2
        obtain ⟨v, hv, f, hr⟩ := S.get e1 (by simpa using n2)
        cases e
        exact ⟨v, hv, fin S h rfl (hr.plain (by simpa using n)).1⟩
  · cases e
/-! ### operators -/
def mOp (f : D → D → M D) (ma mb : M D) : M D := bnd ma fun x => bnd mb fun y => f x y
theorem sim_op {r : R2} {f : D → D → M D} {ta tb : TE} {ma mb : M D} (hr : SimR mg W r f) (ha : SimE mg W ta ma) (hb : SimE mg W tb mb) : SimE mg W (tOp r ta tb) (mOp f ma mb) := fun F B H σ ρ T Q res ρ' S e px h => by
  refine ha.bind S e px fun dx ρ1 F1 B1 H1 x e1 x1 S1 => ?_
  refine hb.bind S1 e1 (px.shift x1).cons fun dy ρ2 F2 B2 H2 y e2 x2 S2 => ?_
  exact hr F2 B2 H2 σ ρ2 T x y dx dy Q res ρ' S2 e2 (px.shift (x1.trans x2)) fun d hd F' B' H' v x3 S3 => h d hd F' B' H' v ((x1.trans x2).trans x3) S3
def mUn (f : D → M D) (ma : M D) : M D := bnd ma f
theorem sim_un {r : V → Hp → VK → Prop} {f : D → M D} {ta : TE} {ma : M D} (hr : SimU mg W r f) (ha : SimE mg W ta ma) : SimE mg W (tUn r ta) (mUn f ma) := fun F B H σ ρ T Q res ρ' S e px h => by
  refine ha.bind S e px fun dx ρ1 F1 B1 H1 x e1 x1 S1 => ?_
  exact hr F1 B1 H1 σ ρ1 T x dx Q res ρ' S1 e1 (px.shift x1) fun d hd F' B' H' v x3 S3 => h d hd F' B' H' v (x1.trans x3) S3
/-- ints in, a scalar out -/
def fII (p : Int → Int → Bool) (g : Int → Int → D) : D → D → M D
  | .int i, .int j => if p i j = true then ret (g i j) else stuck
  | _, _ => stuck
theorem fII_some {p : Int → Int → Bool} {g : Int → Int → D} {x y : D} {ρ : Env} {z : Res D × Env} (e : fII p g x y ρ = some z) : ∃ i j, x = .int i ∧ y = .int j ∧ p i j = true ∧ z = (.ok (g i j), ρ) := by
  unfold fII at e
  split at e
  · rename_i i j
    split at e
    · rename_i c
      cases e
      exact ⟨i, j, rfl, rfl, c, rfl⟩
    · cases e
  · cases e
/-- the scalars as values -/
def D.sv : D → Option V
  | .non => some .non | .bl b => some (.bl b) | .int i => some (.int i) | .str x => some (.str x) | _ => none
theorem rep_sv {F : Addr → Prop} {mg : Cn} {H : Hp} {d : D} {v : V} (h : d.sv = some v) : Rep F mg H d v := by
  cases d <;> first | (cases h; rfl) | cases h
theorem rt_int {f : List Addr} {i : Int} (h : RT F mg H σ (.int i) v f) : v = .int i := h.1
theorem rt_str {f : List Addr} {i : Str} (h : RT F mg H σ (.str i) v f) : v = .str i := h.1
theorem rt_bl {f : List Addr} {i : Bool} (h : RT F mg H σ (.bl i) v f) : v = .bl i := h.1
theorem rt_non {f : List Addr} (h : RT F mg H σ .non v f) : v = .non := h.1
theorem simr_I0 {g : Int → Int → V} {gd : Int → Int → D} (hg : ∀ i j, (gd i j).sv = some (g i j)) : SimR mg W (rI0 g) (fII (fun _ _ => true) gd) := fun F B H σ ρ T x y dx dy Q res ρ' S e px h => by
  obtain ⟨i, j, rfl, rfl, _, z⟩ := fII_some e
  cases z
  obtain ⟨_, ry⟩ := S.top
  obtain ⟨_, rx⟩ := S.pop.top
  cases rt_int ry
  cases rt_int rx
  exact ⟨i, j, rfl, rfl, fin S.pop.pop h rfl (rep_sv (hg i j))⟩
theorem simr_I {C : Int → Int → Prop} {p : Int → Int → Bool} {g : Int → Int → V} {gd : Int → Int → D} (hp : ∀ i j, p i j = true → C i j) (hg : ∀ i j, (gd i j).sv = some (g i j)) : SimR mg W (rI C g) (fII p gd) := fun F B H σ ρ T x y dx dy Q res ρ' S e px h => by
  obtain ⟨i, j, rfl, rfl, c, z⟩ := fII_some e
  cases z
  obtain ⟨_, ry⟩ := S.top
  obtain ⟨_, rx⟩ := S.pop.top
  cases rt_int ry
  cases rt_int rx
  exact ⟨i, j, rfl, rfl, hp i j c, fin S.pop.pop h rfl (rep_sv (hg i j))⟩
abbrev fAdd := fII (fun _ _ => true) fun i j => .int (i + j)
abbrev fSub := fII (fun _ _ => true) fun i j => .int (i - j)
abbrev fLt := fII (fun _ _ => true) fun i j => .bl (decide (i < j))
abbrev fLe := fII (fun _ _ => true) fun i j => .bl (decide (i ≤ j))
abbrev fGt := fII (fun _ _ => true) fun i j => .bl (decide (j < i))
abbrev fGe := fII (fun _ _ => true) fun i j => .bl (decide (j ≤ i))
abbrev fMul := fII (fun i j => (decide (-(2 ^ 64) < i) && decide (i < 2 ^ 64)) || (decide (-(2 ^ 64) < j) && decide (j < 2 ^ 64))) fun i j => .int (i * j)
abbrev fDiv := fII (fun _ j => decide (0 < j) && decide (j.natAbs.log2 < 9000)) fun i j => .int (i / j)
abbrev fMod := fII (fun _ j => decide (0 < j)) fun i j => .int (i % j)
abbrev fPow := fII (fun i j => decide (0 ≤ j) && (decide (j ≤ 1000000) && decide (i.natAbs < 2 ^ 64))) fun i j => .int (i ^ j.toNat)
theorem r_add : SimR mg W (rI0 fun i j => .int (i + j)) fAdd := simr_I0 fun _ _ => rfl
theorem r_sub : SimR mg W (rI0 fun i j => .int (i - j)) fSub := simr_I0 fun _ _ => rfl
theorem r_lt : SimR mg W (rI0 fun i j => .bl (decide (i < j))) fLt := simr_I0 fun _ _ => rfl
theorem r_le : SimR mg W (rI0 fun i j => .bl (decide (i ≤ j))) fLe := simr_I0 fun _ _ => rfl
theorem r_gt : SimR mg W (rI0 fun i j => .bl (decide (j < i))) fGt := simr_I0 fun _ _ => rfl
theorem r_ge : SimR mg W (rI0 fun i j => .bl (decide (j ≤ i))) fGe := simr_I0 fun _ _ => rfl
theorem r_mul : SimR mg W (rI CMul fun i j => .int (i * j)) fMul := simr_I (fun i j h => by
  simp only [Bool.or_eq_true, Bool.and_eq_true, decide_eq_true_eq] at h
  exact h) fun _ _ => rfl
theorem r_div : SimR mg W (rI CDivW fun i j => .int (i / j)) fDiv := simr_I (fun i j h => by
  simp only [Bool.and_eq_true, decide_eq_true_eq] at h
  exact h) fun _ _ => rfl
theorem r_mod : SimR mg W (rI (fun _ j => 0 < j) fun i j => .int (i % j)) fMod := simr_I (fun i j h => by simpa using h) fun _ _ => rfl
theorem r_pow : SimR mg W (rI CPow fun i j => .int (i ^ j.toNat)) fPow := simr_I (fun i j h => by
  simp only [Bool.and_eq_true, decide_eq_true_eq] at h
  exact h) fun _ _ => rfl
def fNeg : D → M D
  | .int i => ret (.int (-i))
  | _ => stuck
theorem u_neg : SimU mg W (rU fun i => .int (-i)) fNeg := fun F B H σ ρ T x dx Q res ρ' S e px h => by
  unfold fNeg at e
  split at e
  · rename_i i
    cases e
    obtain ⟨_, rx⟩ := S.top
    cases rt_int rx
    exact ⟨i, rfl, fin S.pop h rfl (by rfl)⟩
  · cases e
/-! ### tests -/
/-- a value that is a bool, as a test -/
def mTb (m : M D) : M Bool := bnd m fun d => match d with
  | .bl b => ret b
  | _ => stuck
theorem sim_tb {t : TE} {m : M D} (hm : SimE mg W t m) : SimT mg W (tB t) (mTb m) := fun F B H σ ρ T Q r ρ' S e px h => by
  refine hm.bind S e px fun d ρ1 F1 B1 H1 v e1 x1 S1 => ?_
  split at e1
  · rename_i b
    cases e1
    obtain ⟨_, rx⟩ := S1.top
    exact ⟨b, rt_bl rx, h b rfl F1 B1 H1 x1 S1.pop⟩
  · cases e1
theorem sim_test {t : TE} {m : M D} (hm : SimE mg W t m) : SimT mg W (tTest t) (mTb m) := sim_tb hm
def mAnd (a b : M Bool) : M Bool := bnd a fun c => if c = true then b else ret false
def mOr (a b : M Bool) : M Bool := bnd a fun c => if c = true then ret true else b
def mNot (a : M Bool) : M Bool := bnd a fun c => ret (!c)
theorem sim_and {t u : TT} {a b : M Bool} (ha : SimT mg W t a) (hb : SimT mg W u b) : SimT mg W (tAnd t u) (mAnd a b) := fun F B H σ ρ T Q r ρ' S e px h => by
  refine ha.bind S e px fun c ρ1 F1 B1 H1 e1 x1 S1 => ?_
  cases c with
  | true => exact hb F1 B1 H1 σ ρ1 T Q r ρ' S1 e1 (px.shift x1) fun b hb F' B' H' x S' => h b hb F' B' H' (x1.trans x) S'
  | false => cases e1; exact h false rfl F1 B1 H1 x1 S1
theorem sim_or {t u : TT} {a b : M Bool} (ha : SimT mg W t a) (hb : SimT mg W u b) : SimT mg W (tOr t u) (mOr a b) := fun F B H σ ρ T Q r ρ' S e px h => by
  refine ha.bind S e px fun c ρ1 F1 B1 H1 e1 x1 S1 => ?_
  cases c with
  | false => exact hb F1 B1 H1 σ ρ1 T Q r ρ' S1 e1 (px.shift x1) fun b hb F' B' H' x S' => h b hb F' B' H' (x1.trans x) S'
  | true => cases e1; exact h true rfl F1 B1 H1 x1 S1
theorem sim_not {t : TT} {a : M Bool} (ha : SimT mg W t a) : SimT mg W (tNot t) (mNot a) := fun F B H σ ρ T Q r ρ' S e px h => by
  refine ha.bind S e px fun c ρ1 F1 B1 H1 e1 x1 S1 => ?_
  cases e1
  exact h (!c) rfl F1 B1 H1 x1 S1
def mAndV (a b : M D) : M D := bnd a fun c => match c with
  | .bl k => if k = true then b else ret (.bl false)
  | _ => stuck
def mOrV (a b : M D) : M D := bnd a fun c => match c with
  | .bl k => if k = true then ret (.bl true) else b
  | _ => stuck
theorem sim_andV {t u : TE} {a b : M D} (ha : SimE mg W t a) (hb : SimE mg W u b) : SimE mg W (tAndV t u) (mAndV a b) := fun F B H σ ρ T Q r ρ' S e px h => by
  refine ha.bind S e px fun c ρ1 F1 B1 H1 v e1 x1 S1 => ?_
  split at e1
  · rename_i k
    obtain ⟨_, rx⟩ := S1.top
    refine ⟨k, rt_bl rx, ?_⟩
    cases k with
    | true => exact hb F1 B1 H1 σ ρ1 T Q r ρ' S1.pop e1 (px.shift x1) fun b hb F' B' H' v x S' => h b hb F' B' H' v (x1.trans x) S'
    | false => cases e1; exact h _ rfl F1 B1 H1 _ x1 (S1.pop.push (by rfl))
  · cases e1
theorem sim_orV {t u : TE} {a b : M D} (ha : SimE mg W t a) (hb : SimE mg W u b) : SimE mg W (tOrV t u) (mOrV a b) := fun F B H σ ρ T Q r ρ' S e px h => by
  refine ha.bind S e px fun c ρ1 F1 B1 H1 v e1 x1 S1 => ?_
  split at e1
  · rename_i k
    obtain ⟨_, rx⟩ := S1.top
    refine ⟨k, rt_bl rx, ?_⟩
    cases k with
    | false => exact hb F1 B1 H1 σ ρ1 T Q r ρ' S1.pop e1 (px.shift x1) fun b hb F' B' H' v x S' => h b hb F' B' H' v (x1.trans x) S'
    | true => cases e1; exact h _ rfl F1 B1 H1 _ x1 (S1.pop.push (by rfl))
  · cases e1
def mIfE (c : M Bool) (a b : M D) : M D := bnd c fun k => if k = true then a else b
theorem sim_ifE {tc : TT} {t u : TE} {c : M Bool} {a b : M D} (hc : SimT mg W tc c) (ha : SimE mg W t a) (hb : SimE mg W u b) : SimE mg W (tIf tc t u) (mIfE c a b) := fun F B H σ ρ T Q r ρ' S e px h => by
  refine hc.bind S e px fun k ρ1 F1 B1 H1 e1 x1 S1 => ?_
  cases k with
  | true => exact ha F1 B1 H1 σ ρ1 T Q r ρ' S1 e1 (px.shift x1) fun b hb F' B' H' v x S' => h b hb F' B' H' v (x1.trans x) S'
  | false => exact hb F1 B1 H1 σ ρ1 T Q r ρ' S1 e1 (px.shift x1) fun b hb F' B' H' v x S' => h b hb F' B' H' v (x1.trans x) S'
/-! ### what stands there -/
def dr (ρ : Env) : D → Option D
  | .sl i => (match ρ[i]? with
    | some (some d) => if d.isX = true then none else some d
    | _ => none)
  | d => some d
theorem Sat.look {d' : D} (S : Sat F B mg H σ ρ T) (hx : (v, d) ∈ T) (e : dr ρ d = some d') : ∃ f, RepO F mg H d' v f := by
  obtain ⟨g, r⟩ := S.mem hx
  cases d with
  | sl i =>
    have e : (match ρ[i]? with
      | some (some d) => if d.isX = true then none else some d
      | _ => none) = some d' := e
    split at e
    · rename_i d2 e1
      split at e
      · cases e
      · rename_i nx
        cases e
        obtain ⟨v', hv, f, hr⟩ := S.get e1 (by simpa using nx)
        have hs : σ[i]? = some (some v) := r.1
        rw [hs] at hv
        cases hv
        exact ⟨f, hr⟩
    · cases e
  | _ => cases e; exact ⟨g, r⟩
theorem Sat.look1 {d' : D} (S : Sat F B mg H σ ρ ((v, d) :: T)) (e : dr ρ d = some d') : ∃ f, RepO F mg H d' v f := S.look (List.mem_cons_self ..) e
theorem repO_non {f : List Addr} (h : RepO F mg H d v f) : v = .non ↔ d = .non := by
  cases d with
  | non => exact ⟨fun _ => rfl, fun _ => h.1⟩
  | bl b => exact ⟨fun z => (by rw [show v = .bl b from h.1] at z; cases z), fun z => by cases z⟩
  | int b => exact ⟨fun z => (by rw [show v = .int b from h.1] at z; cases z), fun z => by cases z⟩
  | str b => exact ⟨fun z => (by rw [show v = .str b from h.1] at z; cases z), fun z => by cases z⟩
  | tup b => obtain ⟨⟨a, vs, e, _⟩, _⟩ := h; exact ⟨fun z => (by rw [e] at z; cases z), fun z => by cases z⟩
  | lst b => obtain ⟨⟨a, vs, e, _⟩, _⟩ := h; exact ⟨fun z => (by rw [e] at z; cases z), fun z => by cases z⟩
  | fz b => obtain ⟨⟨a, vs, e, _⟩, _⟩ := h; exact ⟨fun z => (by rw [e] at z; cases z), fun z => by cases z⟩
  | rg lo hi => obtain ⟨⟨a, e, _⟩, _⟩ := h; exact ⟨fun z => (by rw [e] at z; cases z), fun z => by cases z⟩
  | dk b _ => obtain ⟨⟨a, vs, e, _⟩, _⟩ := h; exact ⟨fun z => (by rw [e] at z; cases z), fun z => by cases z⟩
  | dt b _ => obtain ⟨⟨a, vs, e, _⟩, _⟩ := h; exact ⟨fun z => (by rw [e] at z; cases z), fun z => by cases z⟩
  | ins _ _ _ => obtain ⟨⟨a, _, _, vs, e, _⟩, _⟩ := h; exact ⟨fun z => (by rw [e] at z; cases z), fun z => by cases z⟩
  | xv _ _ _ => obtain ⟨⟨a, _, _, vs, e, _⟩, _⟩ := h; exact ⟨fun z => (by rw [e] at z; cases z), fun z => by cases z⟩
  | xw _ => obtain ⟨⟨a, _, e, _⟩, _⟩ := h; exact ⟨fun z => (by rw [e] at z; cases z), fun z => by cases z⟩
  | ol b => obtain ⟨a, vs, _, e, _⟩ := h; exact ⟨fun z => (by rw [e] at z; cases z), fun z => by cases z⟩
  | od b _ => obtain ⟨a, vs, _, e, _⟩ := h; exact ⟨fun z => (by rw [e] at z; cases z), fun z => by cases z⟩
  | ot b _ => obtain ⟨a, vs, _, e, _⟩ := h; exact ⟨fun z => (by rw [e] at z; cases z), fun z => by cases z⟩
  | oi _ _ _ => obtain ⟨a, _, _, vs, _, e, _⟩ := h; exact ⟨fun z => (by rw [e] at z; cases z), fun z => by cases z⟩
  | sl i => exact h.elim
  | xc _ _ _ => exact h.elim
/-! ### is None -/
def D.isNon : D → Bool
  | .non => true
  | _ => false
theorem repO_isNon {f : List Addr} (h : RepO F mg H d v f) : decide (v = .non) = d.isNon := by
  have k := repO_non h
  cases d <;> first
    | (rw [decide_eq_true (k.mpr rfl)]; rfl)
    | (rw [decide_eq_false (fun z => by have := k.mp z; cases this)]; rfl)
/-- look and answer -/
def fLook (g : D → Option D) : D → M D := fun d ρ => match dr ρ d with
  | some x => (match g x with
    | some y => some (.ok y, ρ)
    | none => none)
  | none => none
theorem fLook_some {g : D → Option D} {ρ : Env} {z : Res D × Env} (e : fLook g d ρ = some z) : ∃ x y, dr ρ d = some x ∧ g x = some y ∧ z = (.ok y, ρ) := by
  unfold fLook at e
  split at e
  · rename_i x e1
    split at e
    · rename_i y e2
      cases e
      exact ⟨x, y, e1, e2, rfl⟩
    · cases e
  · cases e
/-- a rule that looks at one value and gives a scalar -/
theorem simU_look {r : V → Hp → VK → Prop} {g : D → Option D} (hr : ∀ (F B : Addr → Prop) (H : Hp) (x : V) (d y : D) (f : List Addr) (Q : VK), RepO F mg H d x f → g d = some y → (∀ u, Rep F mg H y u → Q u H) → r x H Q) : SimU mg W r (fLook g) := fun F B H σ ρ T x dx Q res ρ' S e px h => by
  obtain ⟨d, y, e1, e2, z⟩ := fLook_some e
  cases z
  obtain ⟨f, rp⟩ := S.look1 e1
  exact hr F B H x d y f Q rp e2 fun u ru => fin S.pop h rfl ru
def mIsN (a : M D) : M D := mUn (fLook fun d => some (.bl d.isNon)) a
def mNotN (a : M D) : M D := mUn (fLook fun d => some (.bl !d.isNon)) a
theorem sim_isN {t : TE} {a : M D} (ha : SimE mg W t a) : SimE mg W (tIsN t) (mIsN a) :=
  sim_un (r := fun x H1 Q => Q (.bl (decide (x = .non))) H1) (simU_look fun F B H x d y f Q rp e q => by cases e; exact q _ (by rw [repO_isNon rp]; rfl)) ha
theorem sim_notN {t : TE} {a : M D} (ha : SimE mg W t a) : SimE mg W (tNotN t) (mNotN a) :=
  sim_un (r := fun x H1 Q => Q (.bl (!decide (x = .non))) H1) (simU_look fun F B H x d y f Q rp e q => by cases e; exact q _ (by rw [repO_isNon rp]; rfl)) ha
/-! ### arguments -/
def mNil : M (List D) := ret []
def mCons (a : M D) (r : M (List D)) : M (List D) := bnd a fun x => bnd r fun xs => ret (x :: xs)
theorem sim_nil : SimA mg W tNil mNil := fun F B H σ ρ T Q r ρ' S e px h => by
  cases e
  exact h [] rfl F B H [] Ext.refl rfl S
theorem sim_cons {t : TE} {u : TA} {a : M D} {b : M (List D)} (ha : SimE mg W t a) (hb : SimA mg W u b) : SimA mg W (tCons t u) (mCons a b) := fun F B H σ ρ T Q r ρ' S e px h => by
  refine ha.bind S e px fun d ρ1 F1 B1 H1 v e1 x1 S1 => ?_
  refine hb.bind S1 e1 (px.shift x1).cons fun ds ρ2 F2 B2 H2 vs e2 x2 l S2 => ?_
  cases e2
  refine h (d :: ds) rfl F2 B2 H2 (v :: vs) (x1.trans x2) (by simp [l]) (S2.perm ?_)
  simpa using List.perm_middle
end
end SV
end
section
set_option Elab.async false
set_option linter.all false
set_option maxRecDepth 100000
set_option maxHeartbeats 4000000
namespace SV
open PySem PySem.Spec L2
abbrev lim : Nat := 16777216
theorem lim_eq : sizeLine = lim := sizeLine_eq
section
variable {F B F' B' : Addr → Prop} {mg : Cn} {W : WX} {H H' : Hp} {σ : St} {ρ ρ' : Env} {T : Tm} {v : V} {d : D}
/-! ### freezing -/
theorem RTs.one {fs : List Addr} (h : RTs F mg H σ [(v, d)] fs) : RT F mg H σ d v fs := by
  obtain ⟨f1, f2, e, h1, h2⟩ := h
  have h2 : f2 = [] := h2
  subst h2
  rw [e, List.append_nil]
  exact h1
theorem frz_nsl {d : D} (n : ∀ i, d ≠ .sl i) : ∀ i, d.frz ≠ .sl i := fun i => by
  cases d <;> first | exact absurd rfl (n _) | (intro z; cases z)
/-- the thing at hand is frozen -/
theorem Sat.freeze (S : Sat F B mg H σ ρ ((v, d) :: T)) (n : ∀ i, d ≠ .sl i) : ∃ F' B', Ext F B H F' B' H ∧ Sat F' B' mg H σ ρ ((v, d.frz) :: T) ∧ Rep F' mg H d.frz v := by
  have key : ∃ F' : Addr → Prop, Ext F B H F' (fun a => B a ∨ F' a) H ∧ Sat F' (fun a => B a ∨ F' a) mg H σ ρ ([(v, d.frz)] ++ T) :=
    Sat.step (Ts := [(v, d)]) S fun fs hr _ hb => by
      have ro := hr.one.own n
      have t := RepO.there _ _ _ ro
      have rf : Rep (fun a => F a ∨ a ∈ fs) mg H d.frz v := RepO.frz (fun a h => .inl h) d v fs (fun a h => .inr h) ro
      refine ⟨fun a => F a ∨ a ∈ fs, [], fun a h => .inl h, fun _ _ _ => rfl, ⟨[], [], rfl, RT.of (Rep.owned _ _ rf), rfl⟩, List.nodup_nil, fun a h => by simp at h, fun a h => h.elim .inl fun z => .inr (.inl z), fun a h => by simp at h, fun a h => ?_⟩
      rcases h with h | h
      · exact S.tru h
      · exact t a h
  obtain ⟨F', x, S'⟩ := key
  have hf := frz_nsl n
  obtain ⟨g, r⟩ := S'.top
  have hno : d.frz.own = false := by cases d <;> rfl
  exact ⟨F', _, x, S', (RepO.plain (r.own hf) hno).1⟩
def fFrz : D → M D := fun d ρ => match d with
  | .sl i => (match ρ[i]? with
    | some (some c) => if c.isX = true then none else some (.ok c.frz, ρ.set i (some c.frz))
    | _ => none)
  | d => some (.ok d.frz, ρ)
theorem Sat.fFrz {z : Res D × Env} (S : Sat F B mg H σ ρ ((v, d) :: T)) (e : fFrz d ρ = some z) : ∃ d', z.1 = .ok d' ∧ ∃ F' B', Ext F B H F' B' H ∧ Sat F' B' mg H σ z.2 ((v, d') :: T) ∧ Rep F' mg H d' v := by
  cases d with
  | sl i =>
    have e : (match ρ[i]? with
      | some (some c) => if c.isX = true then none else some (Res.ok c.frz, ρ.set i (some c.frz))
      | _ => none) = some z := e
    split at e
    · rename_i c e1
      split at e
      · cases e
      rename_i nx
      have nx : c.isX = false := by simpa using nx
      cases e
      obtain ⟨g, r⟩ := S.top
      have hs : σ[i]? = some (some v) := r.1
      have hi : i < ρ.length := (List.getElem?_eq_some_iff.mp e1).1
      obtain ⟨v', hv', S1⟩ := S.pop.take e1 nx
      rw [hs] at hv'
      cases hv'
      have hc : ∀ j, c ≠ .sl j := fun j z => by
        obtain ⟨_, r⟩ := S1.top
        obtain ⟨_, _, _, r2⟩ := S.get e1 nx
        rw [z] at r2
        exact r2.elim
      obtain ⟨F', B', x, S2, rf⟩ := S1.freeze hc
      have hf := frz_nsl hc
      have S3 := S2.put (i := i) hf (by simpa using hi) (.inl hs)
      rw [List.set_set] at S3
      have es : σ.set i (some v) = σ := by
        apply List.ext_getElem?
        intro j
        by_cases hj : i = j
        · subst hj
          rw [List.getElem?_set_self (List.getElem?_eq_some_iff.mp hs).1, hs]
        · rw [List.getElem?_set_ne hj]
      rw [es] at S3
      exact ⟨c.frz, rfl, F', B', x, S3.push rf, rf⟩
    · cases e
  | _ =>
    cases e
    obtain ⟨F', B', x, S', rf⟩ := S.freeze (fun i z => by cases z)
    exact ⟨_, rfl, F', B', x, S', rf⟩
/-- all the things at hand are frozen -/
def fFrzs : List D → M (List D)
  | [] => ret []
  | d :: ds => bnd (fFrz d) fun x => bnd (fFrzs ds) fun xs => ret (x :: xs)
theorem fFrz_ok {z : Res D × Env} (e : fFrz d ρ = some z) : ∃ d', z.1 = .ok d' := by
  cases d with
  | sl i =>
    have e : (match ρ[i]? with
      | some (some c) => if c.isX = true then none else some (Res.ok c.frz, ρ.set i (some c.frz))
      | _ => none) = some z := e
    split at e
    · split at e
      · cases e
      · cases e; exact ⟨_, rfl⟩
    · cases e
  | _ => cases e; exact ⟨_, rfl⟩
theorem bnd_ok {α β : Type} {m : M α} {k : α → M β} {ρ ρ1 : Env} {a : α} (h : m ρ = some (.ok a, ρ1)) : bnd m k ρ = k a ρ1 := by unfold bnd; rw [h]
theorem bnd_some {α β : Type} {m : M α} {k : α → M β} {ρ : Env} {z : Res β × Env} (e : bnd m k ρ = some z) : (∃ a ρ1, m ρ = some (.ok a, ρ1) ∧ k a ρ1 = some z) ∨ ∃ c fs, m ρ = some (.exc c fs, z.2) ∧ z.1 = .exc c fs := by
  unfold bnd at e
  split at e
  · rename_i a ρ1 e1
    exact .inl ⟨a, ρ1, e1, e⟩
  · rename_i c fs ρ1 e1
    cases e
    exact .inr ⟨c, fs, e1, rfl⟩
  · cases e
theorem Sat.fFrzs : ∀ {ds : List D} {vs : List V} {F B : Addr → Prop} {ρ : Env} {T : Tm} {z : Res (List D) × Env}, vs.length = ds.length → Sat F B mg H σ ρ (vs.zip ds ++ T) → fFrzs ds ρ = some z →
    ∃ ds', z.1 = .ok ds' ∧ ∃ F' B', Ext F B H F' B' H ∧ Sat F' B' mg H σ z.2 T ∧ Reps F' mg H ds' vs
  | [], vs, F, B, ρ, T, z, l, S, e => by
    cases e
    have hv : vs = [] := List.length_eq_zero_iff.mp l
    subst hv
    exact ⟨[], rfl, F, B, Ext.refl, S, rfl⟩
  | d :: ds, [], F, B, ρ, T, z, l, S, e => by simp at l
  | d :: ds, v :: vs, F, B, ρ, T, z, l, S, e => by
    have S : Sat F B mg H σ ρ ((v, d) :: (vs.zip ds ++ T)) := S
    rcases bnd_some e with ⟨x, ρ1, e1, e2⟩ | ⟨c, fs, e1, e2⟩
    · obtain ⟨d', hd', F1, B1, x1, S1, r1⟩ := S.fFrz e1
      cases hd'
      rcases bnd_some e2 with ⟨xs, ρ2, e3, e4⟩ | ⟨c, fs, e3, e4⟩
      · cases e4
        obtain ⟨ds', hds', F2, B2, x2, S2, r2⟩ := Sat.fFrzs (by simpa using l) S1.pop e3
        cases hds'
        exact ⟨_, rfl, F2, B2, x1.trans x2, S2, v, vs, rfl, Rep.mono (x2.ag S1.fb) _ _ r1, r2⟩
      · obtain ⟨ds', hds', _⟩ := Sat.fFrzs (by simpa using l) S1.pop e3
        cases hds'
    · obtain ⟨d', h⟩ := fFrz_ok e1
      cases h
/-- what is put into a list: owned things stay owned -/
def fOwn : D → M D := fun d ρ => match d with
  | .sl i => fFrz (.sl i) ρ
  | d => some (.ok d, ρ)
def fOwns : List D → M (List D)
  | [] => ret []
  | d :: ds => bnd (fOwn d) fun x => bnd (fOwns ds) fun xs => ret (x :: xs)
theorem Sat.fOwn {z : Res D × Env} (S : Sat F B mg H σ ρ ((v, d) :: T)) (e : fOwn d ρ = some z) : ∃ d', z.1 = .ok d' ∧ (∀ i, d' ≠ .sl i) ∧ ∃ F' B', Ext F B H F' B' H ∧ Sat F' B' mg H σ z.2 ((v, d') :: T) := by
  cases d with
  | sl i =>
    obtain ⟨d', h, F', B', x, S', r⟩ := S.fFrz (show SV.fFrz (.sl i) ρ = some z from e)
    exact ⟨d', h, fun j q => by rw [q] at r; exact r.elim, F', B', x, S'⟩
  | _ => cases e; exact ⟨_, rfl, fun i q => (by cases q), F, B, Ext.refl, S⟩
/-- things at hand that are no slots' -/
theorem RTs.repOs : ∀ {ds : List D} {vs : List V} {fs : List Addr}, vs.length = ds.length → (∀ d ∈ ds, ∀ i, d ≠ .sl i) → RTs F mg H σ (vs.zip ds) fs → RepOs F mg H ds vs fs
  | [], vs, fs, l, _, h => by
    have hv : vs = [] := List.length_eq_zero_iff.mp l
    subst hv
    exact ⟨rfl, h⟩
  | d :: ds, [], _, l, _, _ => by simp at l
  | d :: ds, v :: vs, fs, l, n, ⟨f1, f2, e, h1, h2⟩ => ⟨v, vs, f1, f2, rfl, e, h1.own (n d (List.mem_cons_self ..)), RTs.repOs (by simpa using l) (fun x hx => n x (List.mem_cons_of_mem _ hx)) h2⟩
theorem RepOs.rts : ∀ {ds : List D} {vs : List V} {fs : List Addr}, RepOs F mg H ds vs fs → RTs F mg H σ (vs.zip ds) fs
  | [], vs, fs, h => by rw [h.1, h.2]; rfl
  | d :: ds, _, _, ⟨v, vs, f1, f2, e, e2, h1, h2⟩ => by
    subst e
    exact ⟨f1, f2, e2, RT.of h1, RepOs.rts h2⟩
theorem Sat.fOwns : ∀ {ds : List D} {vs : List V} {F B : Addr → Prop} {ρ : Env} {T : Tm} {z : Res (List D) × Env}, vs.length = ds.length → Sat F B mg H σ ρ (vs.zip ds ++ T) → fOwns ds ρ = some z →
    ∃ ds', z.1 = .ok ds' ∧ vs.length = ds'.length ∧ (∀ d ∈ ds', ∀ i, d ≠ .sl i) ∧ ∃ F' B', Ext F B H F' B' H ∧ Sat F' B' mg H σ z.2 (vs.zip ds' ++ T)
  | [], vs, F, B, ρ, T, z, l, S, e => by
    cases e
    have hv : vs = [] := List.length_eq_zero_iff.mp l
    subst hv
    exact ⟨[], rfl, rfl, by simp, F, B, Ext.refl, S⟩
  | d :: ds, [], F, B, ρ, T, z, l, S, e => by simp at l
  | d :: ds, v :: vs, F, B, ρ, T, z, l, S, e => by
    have S : Sat F B mg H σ ρ ((v, d) :: (vs.zip ds ++ T)) := S
    rcases bnd_some e with ⟨x, ρ1, e1, e2⟩ | ⟨c, fs, e1, e2⟩
    · obtain ⟨d', hd', n1, F1, B1, x1, S1⟩ := S.fOwn e1
      cases hd'
      rcases bnd_some e2 with ⟨xs, ρ2, e3, e4⟩ | ⟨c, fs, e3, e4⟩
      · cases e4
        have S1' : Sat F1 B1 mg H σ ρ1 (vs.zip ds ++ ((v, x) :: T)) := S1.perm (List.perm_middle.symm)
        obtain ⟨ds', hds', l', n2, F2, B2, x2, S2⟩ := Sat.fOwns (by simpa using l) S1' e3
        cases hds'
        refine ⟨_, rfl, by simp [l'], ?_, F2, B2, x1.trans x2, S2.perm List.perm_middle⟩
        intro d hd
        rcases List.mem_cons.mp hd with rfl | hd
        · exact n1
        · exact n2 d hd
      · obtain ⟨ds', hds', _⟩ := Sat.fOwns (by simpa using l) (S1.perm (List.perm_middle.symm)) e3
        cases hds'
    · obtain ⟨d', h, _⟩ := S.fOwn e1
      cases h
/-! ### new objects -/
/-- a new frozen object of frozen things -/
theorem Sat.newF {p : Addr} {o : HO} (S : Sat F B mg H σ ρ T) (hp : H p = none) : ∃ F' B', Ext F B H F' B' (upd H p o) ∧ Sat F' B' mg (upd H p o) σ ρ T ∧ F' p := by
  obtain ⟨⟨o1, o2, h1, h2, nd, nb⟩, fb, bt⟩ := id S
  have k : ∀ {a}, (∃ o, H a = some o) → upd H p o a = H a := fun {a} ⟨u, e⟩ => upd_ne (ne_of_none e hp)
  have ag : Ag F H (fun a => F a ∨ a = p) (upd H p o) := ⟨fun _ h => .inl h, fun a ha => k (bt a (fb a ha))⟩
  have np : ∀ a ∈ o1 ++ o2, a ≠ p := fun a ha z => by
    have t : ∃ o, H a = some o := (List.mem_append.mp ha).elim (h1.there a) (h2.there a)
    obtain ⟨u, e⟩ := t
    rw [z, hp] at e
    cases e
  refine ⟨fun a => F a ∨ a = p, fun a => B a ∨ (F a ∨ a = p), ⟨fun _ h => .inl h, fun _ h => .inl h, fun a ha => k (bt a ha), fun a h => ?_⟩, ⟨⟨o1, o2, h1.mono ag fun a ha => k (h1.there a ha), h2.mono ag fun a ha => k (h2.there a ha), nd, fun a ha z => ?_⟩, fun a h => .inr h, fun a h => ?_⟩, .inr rfl⟩
  · rcases h with h | h
    · exact .inl h
    · refine .inr fun z => ?_
      obtain ⟨u, e⟩ := bt a z.1
      rw [h, hp] at e
      cases e
  · rcases z with z | z | z
    · exact nb a ha z
    · exact nb a ha (fb a z)
    · exact np a ha z
  · rcases h with h | h | h
    · rw [k (bt a h)]; exact bt a h
    · rw [k (bt a (fb a h))]; exact bt a (fb a h)
    · rw [h]; exact ⟨o, upd_same⟩
/-- a new list of the things at hand, owned -/
theorem Sat.newL {p : Addr} {ds : List D} {vs : List V} (l : vs.length = ds.length) (n : ∀ d ∈ ds, ∀ i, d ≠ .sl i) (S : Sat F B mg H σ ρ (vs.zip ds ++ T)) (hp : H p = none) :
    ∃ F' B', Ext F B H F' B' (upd H p (.lst vs)) ∧ Sat F' B' mg (upd H p (.lst vs)) σ ρ ((.ref p, .ol ds) :: T) := by
  obtain ⟨F', x, S'⟩ := Sat.step (Ts' := [(.ref p, .ol ds)]) (H' := upd H p (.lst vs)) S fun fs hr nd hb => by
    have ro := RTs.repOs l n hr
    have t := hr.there
    have k : ∀ {a}, (∃ o, H a = some o) → upd H p (.lst vs) a = H a := fun {a} ⟨u, e⟩ => upd_ne (ne_of_none e hp)
    have ag : Ag F H F (upd H p (.lst vs)) := ⟨fun _ h => h, fun a ha => k (S.tru ha)⟩
    have np : ∀ a, (∃ o, H a = some o) → a ≠ p := fun a ⟨u, e⟩ z => by rw [z, hp] at e; cases e
    refine ⟨F, p :: fs, fun _ h => h, fun a _ h => k h, ⟨p :: fs, [], by simp, ⟨p, vs, fs, rfl, rfl, upd_same, RepOs.mono ag _ _ _ (fun a ha => k (t a ha)) ro⟩, rfl⟩, List.nodup_cons.mpr ⟨fun z => np p (t p z) rfl, nd⟩, fun a h => ?_, fun a h => .inl h, fun a h => ?_, fun a h => ?_⟩
    · rcases List.mem_cons.mp h with h | h
      · exact .inr (h ▸ hp)
      · exact .inl h
    · rcases List.mem_cons.mp h with h | h
      · rw [h]; exact fun z => np p (S.tru z) rfl
      · exact fun z => hb a h (S.fb a z)
    · rw [k (S.tru h)]; exact S.tru h
  exact ⟨F', _, x, S'⟩
def mTup (a : M (List D)) : M D := bnd a fun ds => bnd (fFrzs ds) fun xs => if xs.length ≤ lim then ret (.tup xs) else stuck
theorem sim_tup {t : TA} {a : M (List D)} (ha : SimA mg W t a) : SimE mg W (tTup t) (mTup a) := fun F B H σ ρ T Q r ρ' S e px h => by
  refine ha.bind S e px fun ds ρ1 F1 B1 H1 vs e1 x1 l S1 => ?_
  rcases bnd_some e1 with ⟨xs, ρ2, e2, e3⟩ | ⟨c, fs, e2, e3⟩
  · obtain ⟨ds', hd, F2, B2, x2, S2, r2⟩ := S1.fFrzs l e2
    cases hd
    split at e3
    · rename_i hl
      cases e3
      refine ⟨by rw [lim_eq, ← r2.length]; exact hl, fun p hp => ?_⟩
      obtain ⟨F3, B3, x3, S3, fp⟩ := S2.newF (o := .tup vs) hp
      exact h _ rfl F3 B3 _ (.ref p) ((x1.trans x2).trans x3) (S3.push ⟨p, vs, rfl, fp, upd_same, Reps.mono (x3.ag S2.fb) _ _ r2⟩)
    · cases e3
  · obtain ⟨ds', hd, _⟩ := S1.fFrzs l e2
    cases hd
def mLst (a : M (List D)) : M D := bnd a fun ds => bnd (fOwns ds) fun xs => if xs.length ≤ lim then ret (.ol xs) else stuck
theorem sim_lst {t : TA} {a : M (List D)} (ha : SimA mg W t a) : SimE mg W (tLst t) (mLst a) := fun F B H σ ρ T Q r ρ' S e px h => by
  refine ha.bind S e px fun ds ρ1 F1 B1 H1 vs e1 x1 l S1 => ?_
  rcases bnd_some e1 with ⟨xs, ρ2, e2, e3⟩ | ⟨c, fs, e2, e3⟩
  · obtain ⟨ds', hd, l2, n2, F2, B2, x2, S2⟩ := S1.fOwns l e2
    cases hd
    split at e3
    · rename_i hl
      cases e3
      refine ⟨by rw [lim_eq, l2]; exact hl, fun p hp => ?_⟩
      obtain ⟨F3, B3, x3, S3⟩ := S2.newL l2 n2 hp
      exact h _ rfl F3 B3 _ (.ref p) ((x1.trans x2).trans x3) S3
    · cases e3
  · obtain ⟨ds', hd, _⟩ := S1.fOwns l e2
    cases hd
/-! ### sequences -/
/-- a list or a tuple, and whether it is a tuple -/
def D.seq : D → Option (Bool × List D)
  | .tup xs => some (true, xs)
  | .lst xs => some (false, xs)
  | .ol xs => some (false, xs)
  | _ => none
theorem RepO.seq {f : List Addr} {b : Bool} {xs : List D} (K : PySem.W.Frag) (h : RepO F mg H d v f) (e : d.seq = some (b, xs)) : ∃ a vs f', v = .ref a ∧ RepOs F mg H xs vs f' ∧ (if b = true then SqT K H a vs else SqL K H a vs) := by
  cases d with
  | tup ys =>
    cases e
    obtain ⟨⟨a, vs, e1, _, r, s⟩, _⟩ := h
    exact ⟨a, vs, _, e1, Reps.owned _ _ s, .inl (.inl r)⟩
  | lst ys =>
    cases e
    obtain ⟨⟨a, vs, e1, _, r, s⟩, _⟩ := h
    exact ⟨a, vs, _, e1, Reps.owned _ _ s, .inl (.inl r)⟩
  | ol ys =>
    cases e
    obtain ⟨a, vs, f', e1, _, r, s⟩ := h
    exact ⟨a, vs, f', e1, s, .inl (.inl r)⟩
  | _ => cases e
def plain (xs : List D) : Bool := xs.all fun d => !d.own
theorem RepOs.reps : ∀ {xs : List D} {vs : List V} {f : List Addr}, plain xs = true → RepOs F mg H xs vs f → Reps F mg H xs vs
  | [], _, _, _, h => h.1
  | d :: xs, _, _, p, ⟨v, vs, f1, f2, e, _, h1, h2⟩ => by
    have p' : (!d.own) = true ∧ plain xs = true := Bool.and_eq_true_iff.mp p
    exact ⟨v, vs, e, (h1.plain (by simpa using p'.1)).1, RepOs.reps p'.2 h2⟩
theorem RepOs.get : ∀ {xs : List D} {vs : List V} {f : List Addr} {i : Nat} {d : D}, RepOs F mg H xs vs f → xs[i]? = some d → ∃ v f', vs[i]? = some v ∧ RepO F mg H d v f'
  | [], _, _, _, _, _, e => by simp at e
  | d :: ds, _, _, 0, _, ⟨v, vs, f1, f2, e1, e2, h1, h2⟩, e => by simp at e; subst e; exact ⟨v, f1, by rw [e1]; rfl, h1⟩
  | d :: ds, _, _, i + 1, _, ⟨v, vs, f1, f2, e1, e2, h1, h2⟩, e => by
    obtain ⟨u, f', q, r⟩ := RepOs.get (i := i) h2 (by simpa using e)
    exact ⟨u, f', by rw [e1]; simpa using q, r⟩
end
end SV
end
section
set_option Elab.async false
set_option linter.all false
set_option maxRecDepth 100000
set_option maxHeartbeats 4000000
namespace SV
open PySem PySem.Spec L2
section
variable {F B F' B' : Addr → Prop} {mg : Cn} {W : WX} {H H' : Hp} {σ : St} {ρ ρ' : Env} {T : Tm} {v : V} {d : D} {K : PySem.W.Frag}
/-! ### rules by looking -/
def fLook2 (g : D → D → Option D) : D → D → M D := fun dx dy ρ => match dr ρ dx with
  | some x => (match dr ρ dy with
    | some y => (match g x y with
      | some z => some (.ok z, ρ)
      | none => none)
    | none => none)
  | none => none
theorem fLook2_some {g : D → D → Option D} {dx dy : D} {z : Res D × Env} (e : fLook2 g dx dy ρ = some z) : ∃ x y w, dr ρ dx = some x ∧ dr ρ dy = some y ∧ g x y = some w ∧ z = (.ok w, ρ) := by
  unfold fLook2 at e
  split at e
  · rename_i x e1
    split at e
    · rename_i y e2
      split at e
      · rename_i w e3
        cases e
        exact ⟨x, y, w, e1, e2, e3, rfl⟩
      · cases e
    · cases e
  · cases e
theorem simR_look {r : R2} {g : D → D → Option D} (hr : ∀ (F B : Addr → Prop) (H : Hp) (x y : V) (dx dy d : D) (f f' : List Addr) (Q : VK), RepO F mg H dx x f → RepO F mg H dy y f' → g dx dy = some d → (∀ u, Rep F mg H d u → Q u H) → r x y H Q) : SimR mg W r (fLook2 g) := fun F B H σ ρ T x y dx dy Q res ρ' S e px h => by
  obtain ⟨cx, cy, w, e1, e2, e3, z⟩ := fLook2_some e
  cases z
  obtain ⟨f', ry⟩ := S.look1 e2
  obtain ⟨f, rx⟩ := S.pop.look1 e1
  exact hr F B H x y cx cy w f f' Q rx ry e3 fun u ru => fin S.pop.pop h rfl ru
/-! ### calls of built-ins -/
def fC1 (g : D → M D) : List D → M D
  | [d] => g d
  | _ => stuck
def fC2 (g : D → D → M D) : List D → M D
  | [a, b] => g a b
  | _ => stuck
theorem simC1 {r : List V → Hp → VK → Prop} {g : D → M D} (h : SimU mg W (fun x H Q => r [x] H Q) g) : SimC mg W r (fC1 g) := fun F B H σ ρ T xs ds Q res ρ' l S e px hk => by
  unfold fC1 at e
  split at e
  · rename_i d
    obtain ⟨x, rfl⟩ : ∃ x, xs = [x] := List.length_eq_one_iff.mp l
    exact h F B H σ ρ T x d Q res ρ' S e px hk
  · cases e
theorem simC2 {r : List V → Hp → VK → Prop} {g : D → D → M D} (h : SimR mg W (fun x y H Q => r [x, y] H Q) g) : SimC mg W r (fC2 g) := fun F B H σ ρ T xs ds Q res ρ' l S e px hk => by
  unfold fC2 at e
  split at e
  · rename_i a b
    obtain ⟨x, y, rfl⟩ : ∃ x y, xs = [x, y] := by
      match xs, l with
      | [x, y], _ => exact ⟨x, y, rfl⟩
    exact h F B H σ ρ T x y a b Q res ρ' (S.perm (List.Perm.swap _ _ _)) e px hk
  · cases e
def mCB (f : List D → M D) (a : M (List D)) : M D := bnd a f
theorem sim_CB {r : List V → Hp → VK → Prop} {f : List D → M D} {t : TA} {a : M (List D)} (hr : SimC mg W r f) (ha : SimA mg W t a) : SimE mg W (tCB r t) (mCB f a) := fun F B H σ ρ T Q res ρ' S e px h => by
  refine ha.bind S e px fun ds ρ1 F1 B1 H1 vs e1 x1 l S1 => ?_
  exact hr F1 B1 H1 σ ρ1 T vs ds Q res ρ' l S1 e1 (px.shift x1) fun d hd F' B' H' v x3 S3 => h d hd F' B' H' v (x1.trans x3) S3
/-- the length -/
def gLen : D → Option D
  | .str y => if y.length ≤ lim then some (.int y.length) else none
  | .fz xs => some (.int xs.length)
  | d => (match d.seq with
    | some (_, xs) => some (.int xs.length)
    | none => none)
theorem gLen_ok {f : List Addr} {n : D} (hK : mg.K = K) (h : RepO F mg H d v f) (e : gLen d = some n) : ∃ k : Nat, n = .int k ∧ LenV K v H k := by
  unfold gLen at e
  split at e
  · rename_i y
    split at e
    · rename_i hl
      cases e
      have hv : v = .str y := h.1
      subst hv
      exact ⟨_, rfl, by rw [lim_eq]; exact hl, rfl⟩
    · cases e
  · rename_i xs
    cases e
    obtain ⟨⟨a, vs, rfl, q, s⟩, _⟩ := h
    refine ⟨_, rfl, ?_⟩
    rw [s.length]
    subst hK
    rcases q with ⟨_, o, q⟩ | q
    · exact .inl ⟨vs, .inl (.inr ⟨o, q⟩), rfl⟩
    · exact .inl ⟨vs, .inr q, rfl⟩
  · split at e
    · rename_i b xs hs
      cases e
      obtain ⟨a, vs, f', rfl, s, q⟩ := h.seq K hs
      refine ⟨_, rfl, ?_⟩
      rw [s.length]
      cases b with
      | true => exact .inr ⟨vs, q, rfl⟩
      | false => exact .inl ⟨vs, q, rfl⟩
    · cases e
theorem c_len (hK : mg.K = K) : SimC mg W (fun xs H Q => ∃ x n, xs = [x] ∧ LenV K x H n ∧ Q (.int n) H) (fC1 (fLook gLen)) := simC1 (simU_look fun F B H x d y f Q rp e q => by
  obtain ⟨k, rfl, hk⟩ := gLen_ok (K := K) hK rp e
  exact ⟨x, k, rfl, hk, q _ (by rfl)⟩)
/-- truth -/
def D.tru : D → Option Bool
  | .non => some false
  | .bl b => some b
  | .int i => some (i != 0)
  | .str y => if y.length ≤ lim then some ((y.length : Int) != 0) else none
  | .tup xs => some (!xs.isEmpty)
  | .lst xs => some (!xs.isEmpty)
  | .ol xs => some (!xs.isEmpty)
  | .dk ks _ => some (!ks.isEmpty)
  | .od ks _ => some (!ks.isEmpty)
  | _ => none
theorem isE_of {α β : Type} : ∀ {xs : List α} {ys : List β}, xs.length = ys.length → xs.isEmpty = ys.isEmpty
  | [], [], _ => rfl
  | _ :: _, _ :: _, _ => rfl
  | [], _ :: _, h => by simp at h
  | _ :: _, [], h => by simp at h
theorem tru_ok' {f : List Addr} {b : Bool} (h : RepO F mg H d v f) (e : d.tru = some b) : TruV K v H b := by
  cases d with
  | non => cases e; rw [show v = .non from h.1]; rfl
  | bl c => rw [show v = .bl c from h.1]; cases e; rfl
  | int c => cases e; rw [show v = .int c from h.1]; rfl
  | str y =>
    have e : (if y.length ≤ lim then some ((y.length : Int) != 0) else none) = some b := e
    split at e
    · rename_i hl
      cases e
      rw [show v = .str y from h.1]
      exact ⟨by rw [lim_eq]; exact hl, rfl⟩
    · cases e
  | tup xs =>
    cases e
    obtain ⟨⟨a, vs, rfl, _, r, s⟩, _⟩ := h
    exact .inr (.inl ⟨vs, .inl (.inl r), by rw [isE_of s.length]⟩)
  | lst xs =>
    cases e
    obtain ⟨⟨a, vs, rfl, _, r, s⟩, _⟩ := h
    exact .inl ⟨vs, .inl (.inl r), by rw [isE_of s.length]⟩
  | ol xs =>
    cases e
    obtain ⟨a, vs, _, rfl, _, r, s⟩ := h
    exact .inl ⟨vs, .inl (.inl r), by rw [isE_of s.length]⟩
  | dk ks xs =>
    cases e
    obtain ⟨⟨a, vs, rfl, _, r, k, s⟩, _⟩ := h
    exact .inr (.inr ⟨vs, r, by rw [← k, isE_of (show (vs.map (·.1)).length = vs.length by simp)]⟩)
  | od ks xs =>
    cases e
    obtain ⟨a, vs, _, rfl, _, r, k, s⟩ := h
    exact .inr (.inr ⟨vs, r, by rw [← k, isE_of (show (vs.map (·.1)).length = vs.length by simp)]⟩)
  | _ => cases e
def mTru (a : M D) : M Bool := bnd a fun d ρ => match dr ρ d with
  | some x => (match x.tru with
    | some b => some (.ok b, ρ)
    | none => none)
  | none => none
theorem sim_tru {t : TE} {a : M D} (ha : SimE mg W t a) : SimT mg W (fun σ H Q => t σ H fun x H' => ∃ k, TruV K x H' k ∧ Q k H') (mTru a) := fun F B H σ ρ T Q r ρ' S e px h => by
  refine ha.bind S e px fun d ρ1 F1 B1 H1 v e1 x1 S1 => ?_
  split at e1
  · rename_i x e2
    split at e1
    · rename_i b e3
      cases e1
      obtain ⟨f, rp⟩ := S1.look1 e2
      exact ⟨b, tru_ok' rp e3, h b rfl F1 B1 H1 x1 S1.pop⟩
    · cases e1
  · cases e1
/-! ### subscripts -/
def gIx : D → D → Option D
  | .str z, .int i => if z.length ≤ lim then (match atI z.cps.toList i with
    | some c => some (.str ⟨#[c]⟩)
    | none => none) else none
  | x, .int i => (match x.seq with
    | some (_, xs) => (match atI xs i with
      | some d => if d.own = true then none else some d
      | none => none)
    | none => none)
  | _, _ => none
theorem atI_map {α β : Type} {xs : List α} {ys : List β} {i : Int} {d : α} (l : xs.length = ys.length) (h : atI xs i = some d) : ∃ j, ixN ys.length i = some j ∧ xs[j]? = some d := by
  unfold atI at h
  obtain ⟨j, h1, h2⟩ := Option.bind_eq_some_iff.mp h
  exact ⟨j, by rw [← l]; exact h1, h2⟩
theorem RepOs.at_ {xs : List D} {vs : List V} {f : List Addr} {i : Int} {d : D} (s : RepOs F mg H xs vs f) (h : atI xs i = some d) : ∃ u f', atI vs i = some u ∧ RepO F mg H d u f' := by
  obtain ⟨j, h1, h2⟩ := atI_map s.length h
  obtain ⟨u, f', h3, h4⟩ := s.get h2
  exact ⟨u, f', by unfold atI; rw [h1]; exact h3, h4⟩
theorem r_ix : SimR mg W (rIx K) (fLook2 gIx) := simR_look fun F B H x y dx dy d f f' Q rx ry e q => by
  unfold gIx at e
  split at e
  · rename_i z i
    split at e
    · rename_i hl
      split at e
      · rename_i c hc
        cases e
        rw [show x = .str z from rx.1, show y = .int i from ry.1]
        exact .inr (.inr ⟨z, i, c, rfl, rfl, by rw [lim_eq]; exact hl, hc, q _ (by rfl)⟩)
      · cases e
    · cases e
  · rename_i i _
    split at e
    · rename_i b xs hs
      split at e
      · rename_i c hc
        split at e
        · cases e
        · rename_i hn
          cases e
          obtain ⟨a, vs, g, rfl, s, k⟩ := rx.seq K hs
          obtain ⟨u, f2, h1, h2⟩ := s.at_ hc
          rw [show y = .int i from ry.1]
          have hq := q u (h2.plain (by simpa using hn)).1
          cases b with
          | true => exact .inr (.inl ⟨a, vs, i, u, rfl, rfl, k, h1, hq⟩)
          | false => exact .inl ⟨a, vs, i, u, rfl, rfl, k, h1, hq⟩
      · cases e
    · cases e
  · cases e
/-! ### == over data -/
mutual
def D.py : D → Option PyData
  | .non => some .none
  | .bl b => some (.bool b)
  | .int i => some (.int i)
  | .str x => some (.str x)
  | .tup xs => (match D.pys xs with
    | some ys => some (.tuple ys)
    | none => none)
  | .lst xs => (match D.pys xs with
    | some ys => some (.list ys)
    | none => none)
  | .ol xs => (match D.pys xs with
    | some ys => some (.list ys)
    | none => none)
  | _ => none
def D.pys : List D → Option (List PyData)
  | [] => some []
  | d :: ds => (match D.py d with
    | some y => (match D.pys ds with
      | some ys => some (y :: ys)
      | none => none)
    | none => none)
end
mutual
theorem RepO.dp : ∀ (d : D) (v : V) (f : List Addr) (p : PyData), RepO F mg H d v f → d.py = some p → Dp K H v p
  | .non, v, _, p, h, e => by cases e; rw [show v = .non from h.1]; exact .non
  | .bl b, v, _, p, h, e => by cases e; rw [show v = .bl b from h.1]; exact .bl b
  | .int b, v, _, p, h, e => by cases e; rw [show v = .int b from h.1]; exact .int b
  | .str b, v, _, p, h, e => by cases e; rw [show v = .str b from h.1]; exact .str b
  | .tup xs, v, _, p, h, e => by
    obtain ⟨⟨a, vs, e1, _, r, s⟩, _⟩ := h
    rw [D.py] at e
    split at e
    · rename_i ys hy
      cases e
      subst e1
      exact .tup (.inl (.inl r)) (RepOs.dp xs vs _ ys (Reps.owned _ _ s) hy)
    · cases e
  | .lst xs, v, _, p, h, e => by
    obtain ⟨⟨a, vs, e1, _, r, s⟩, _⟩ := h
    rw [D.py] at e
    split at e
    · rename_i ys hy
      cases e
      subst e1
      exact .lst (.inl (.inl r)) (RepOs.dp xs vs _ ys (Reps.owned _ _ s) hy)
    · cases e
  | .ol xs, v, _, p, h, e => by
    obtain ⟨a, vs, f', e1, _, r, s⟩ := h
    rw [D.py] at e
    split at e
    · rename_i ys hy
      cases e
      subst e1
      exact .lst (.inl (.inl r)) (RepOs.dp xs vs f' ys s hy)
    · cases e
  | .fz _, _, _, _, _, e => by simp [D.py] at e
  | .rg _ _, _, _, _, _, e => by simp [D.py] at e
  | .dk _ _, _, _, _, _, e => by simp [D.py] at e
  | .dt _ _, _, _, _, _, e => by simp [D.py] at e
  | .ins _ _ _, _, _, _, _, e => by simp [D.py] at e
  | .xv _ _ _, _, _, _, _, e => by simp [D.py] at e
  | .xw _, _, _, _, _, e => by simp [D.py] at e
  | .od _ _, _, _, _, _, e => by simp [D.py] at e
  | .ot _ _, _, _, _, _, e => by simp [D.py] at e
  | .oi _ _ _, _, _, _, _, e => by simp [D.py] at e
  | .sl _, _, _, _, _, e => by simp [D.py] at e
  | .xc _ _ _, _, _, _, _, e => by simp [D.py] at e
theorem RepOs.dp : ∀ (ds : List D) (vs : List V) (f : List Addr) (ps : List PyData), RepOs F mg H ds vs f → D.pys ds = some ps → DpAll K H vs ps
  | [], vs, _, ps, h, e => by cases e; rw [show vs = [] from h.1]; exact .nil
  | d :: ds, _, _, ps, ⟨v, vs, f1, f2, e1, _, h1, h2⟩, e => by
    rw [D.pys] at e
    split at e
    · rename_i y hy
      split at e
      · rename_i ys hys
        cases e
        subst e1
        exact .cons (RepO.dp d v f1 y h1 hy) (RepOs.dp ds vs f2 ys h2 hys)
      · cases e
    · cases e
end
def gEq (neg : Bool) : D → D → Option D := fun x y => match x.py with
  | some p => (match y.py with
    | some q => if SeqAt.shaped p = true ∧ SeqAt.shaped q = true then some (.bl (if neg = true then !PyData.eqv p q else PyData.eqv p q)) else none
    | none => none)
  | none => none
theorem gEq_ok {neg : Bool} {x y : V} {dx dy d : D} {f f' : List Addr} {Q : VK} (rx : RepO F mg H dx x f) (ry : RepO F mg H dy y f') (e : gEq neg dx dy = some d) (q : ∀ u, Rep F mg H d u → Q u H) :
    ∃ p r, Dp K H x p ∧ Dp K H y r ∧ SeqAt.shaped p = true ∧ SeqAt.shaped r = true ∧ Q (.bl (if neg = true then !PyData.eqv p r else PyData.eqv p r)) H := by
  unfold gEq at e
  split at e
  · rename_i p hp
    split at e
    · rename_i r hr
      split at e
      · rename_i hs
        cases e
        exact ⟨p, r, RepO.dp _ _ _ _ rx hp, RepO.dp _ _ _ _ ry hr, hs.1, hs.2, q _ (by rfl)⟩
      · cases e
    · cases e
  · cases e
theorem r_eq : SimR mg W (rEqD K) (fLook2 (gEq false)) := simR_look fun F B H x y dx dy d f f' Q rx ry e q => gEq_ok rx ry e q
theorem r_ne : SimR mg W (rNeD K) (fLook2 (gEq true)) := simR_look fun F B H x y dx dy d f f' Q rx ry e q => gEq_ok rx ry e q
/-! ### in -/
def D.fl : D → Bool
  | .non => true | .bl _ => true | .int _ => true | .str _ => true | _ => false
def D.eqf : D → D → Bool
  | .non, .non => true
  | .bl a, .bl b => a == b
  | .bl a, .int b => (if a then 1 else 0) == b
  | .int a, .bl b => a == (if b then 1 else 0)
  | .int a, .int b => a == b
  | .str a, .str b => a == b
  | _, _ => false
theorem fl_v {f : List Addr} (h : RepO F mg H d v f) (e : d.fl = true) : flatV v = true ∧ ∀ {d' : D} {v' : V} {f' : List Addr}, RepO F mg H d' v' f' → d'.fl = true → eqV v v' = D.eqf d d' := by
  cases d with
  | non =>
    rw [show v = .non from h.1]
    exact ⟨rfl, fun {d' v' f'} h' e' => by cases d' <;> first | (rw [show v' = _ from h'.1]; rfl) | cases e'⟩
  | bl b =>
    rw [show v = .bl b from h.1]
    exact ⟨rfl, fun {d' v' f'} h' e' => by cases d' <;> first | (rw [show v' = _ from h'.1]; rfl) | cases e'⟩
  | int b =>
    rw [show v = .int b from h.1]
    exact ⟨rfl, fun {d' v' f'} h' e' => by cases d' <;> first | (rw [show v' = _ from h'.1]; rfl) | cases e'⟩
  | str b =>
    rw [show v = .str b from h.1]
    exact ⟨rfl, fun {d' v' f'} h' e' => by cases d' <;> first | (rw [show v' = _ from h'.1]; rfl) | cases e'⟩
  | _ => cases e
theorem fls_v : ∀ {xs : List D} {vs : List V} {f : List Addr}, RepOs F mg H xs vs f → xs.all D.fl = true → vs.all flatV = true ∧ ∀ {d' : D} {v' : V} {f' : List Addr}, RepO F mg H d' v' f' → d'.fl = true → inV v' vs = xs.any fun y => D.eqf y d'
  | [], vs, _, h, _ => by
    rw [show vs = [] from h.1]
    exact ⟨rfl, fun {d' v' f'} _ _ => rfl⟩
  | d :: xs, _, _, ⟨v, vs, f1, f2, e, _, h1, h2⟩, p => by
    subst e
    have p' : d.fl = true ∧ xs.all D.fl = true := Bool.and_eq_true_iff.mp p
    obtain ⟨a, b⟩ := fls_v h2 p'.2
    obtain ⟨a1, b1⟩ := fl_v h1 p'.1
    exact ⟨Bool.and_eq_true_iff.mpr ⟨a1, a⟩, fun {d' v' f'} h' e' => by
      unfold inV at b ⊢
      rw [List.any_cons, List.any_cons, b1 h' e', b h' e']⟩
def gIn (neg : Bool) : D → D → Option D := fun x y => match y.seq with
  | some (_, xs) => if x.fl = true ∧ xs.all D.fl = true then some (.bl (if neg = true then !(xs.any fun z => D.eqf z x) else xs.any fun z => D.eqf z x)) else none
  | none => none
theorem r_in (neg : Bool) : SimR mg W (rIn K neg) (fLook2 (gIn neg)) := simR_look fun F B H x y dx dy d f f' Q rx ry e q => by
  unfold gIn at e
  split at e
  · rename_i b xs hs
    split at e
    · rename_i hc
      cases e
      obtain ⟨a, vs, g, rfl, s, k⟩ := ry.seq K hs
      obtain ⟨h1, h2⟩ := fls_v s hc.2
      refine ⟨a, vs, rfl, ?_, (fl_v rx hc.1).1, h1, ?_⟩
      · cases b with
        | true => exact .inr k
        | false => exact .inl k
      · refine q _ ?_
        show _ = _
        rw [h2 rx hc.1]
    · cases e
  · cases e
/-! ### int, abs, min, max -/
def gInt : D → Option D
  | .int i => some (.int i)
  | .bl k => some (.int (if k then 1 else 0))
  | _ => none
theorem c_int : SimC mg W (fun xs H Q => (∃ i, xs = [.int i] ∧ Q (.int i) H) ∨ ∃ k, xs = [.bl k] ∧ Q (.int (if k then 1 else 0)) H) (fC1 (fLook gInt)) := simC1 (simU_look fun F B H x d y f Q rp e q => by
  unfold gInt at e
  split at e
  · rename_i i
    cases e
    rw [show x = .int i from rp.1]
    exact .inl ⟨i, rfl, q _ (by rfl)⟩
  · rename_i i
    cases e
    rw [show x = .bl i from rp.1]
    exact .inr ⟨i, rfl, q _ (by rfl)⟩
  · cases e)
def gAbs : D → Option D
  | .int i => some (.int (if i < 0 then -i else i))
  | _ => none
theorem c_abs : SimC mg W (fun xs H Q => ∃ i, xs = [.int i] ∧ Q (.int (if i < 0 then -i else i)) H) (fC1 (fLook gAbs)) := simC1 (simU_look fun F B H x d y f Q rp e q => by
  unfold gAbs at e
  split at e
  · rename_i i
    cases e
    rw [show x = .int i from rp.1]
    exact ⟨i, rfl, q _ (by rfl)⟩
  · cases e)
def gMin2 : D → D → Option D
  | .int i, .int j => some (.int (if j < i then j else i))
  | _, _ => none
def gMax2 : D → D → Option D
  | .int i, .int j => some (.int (if j > i then j else i))
  | _, _ => none
theorem c_min2 : SimC mg W (fun xs H Q => ∃ i j, xs = [.int i, .int j] ∧ Q (.int (if j < i then j else i)) H) (fC2 (fLook2 gMin2)) := simC2 (simR_look fun F B H x y dx dy d f f' Q rx ry e q => by
  unfold gMin2 at e
  split at e
  · rename_i i j
    cases e
    rw [show x = .int i from rx.1, show y = .int j from ry.1]
    exact ⟨i, j, rfl, q _ (by rfl)⟩
  · cases e)
theorem c_max2 : SimC mg W (fun xs H Q => ∃ i j, xs = [.int i, .int j] ∧ Q (.int (if j > i then j else i)) H) (fC2 (fLook2 gMax2)) := simC2 (simR_look fun F B H x y dx dy d f f' Q rx ry e q => by
  unfold gMax2 at e
  split at e
  · rename_i i j
    cases e
    rw [show x = .int i from rx.1, show y = .int j from ry.1]
    exact ⟨i, j, rfl, q _ (by rfl)⟩
  · cases e)
end
end SV
end
section
set_option Elab.async false
set_option linter.all false
set_option maxRecDepth 100000
set_option maxHeartbeats 4000000
namespace SV
open PySem PySem.Spec L2
section
variable {F B F' B' : Addr → Prop} {mg : Cn} {W : WX} {H H' : Hp} {σ : St} {ρ ρ' : Env} {T : Tm} {v : V} {d : D} {K : PySem.W.Frag}
theorem Sat.pushs : ∀ {ds : List D} {vs : List V}, Sat F B mg H σ ρ T → Reps F mg H ds vs → Sat F B mg H σ ρ (vs.zip ds ++ T)
  | [], vs, S, h => by rw [show vs = [] from h]; exact S
  | d :: ds, _, S, ⟨v, vs, e, h1, h2⟩ => by subst e; exact (S.pushs h2).push h1
theorem Reps.nsl : ∀ {ds : List D} {vs : List V}, Reps F mg H ds vs → ∀ d ∈ ds, ∀ i, d ≠ .sl i
  | [], vs, h, d, hd => by simp at hd
  | d :: ds, _, ⟨v, vs, e, h1, h2⟩, x, hx => by
    rcases List.mem_cons.mp hx with rfl | hx
    · intro i z; rw [z] at h1; exact h1.elim
    · exact Reps.nsl h2 x hx
/-- a new list of frozen things -/
theorem Sat.newLF {p : Addr} {ds : List D} {vs : List V} (S : Sat F B mg H σ ρ T) (r : Reps F mg H ds vs) (hp : H p = none) :
    ∃ F' B', Ext F B H F' B' (upd H p (.lst vs)) ∧ Sat F' B' mg (upd H p (.lst vs)) σ ρ ((.ref p, .ol ds) :: T) :=
  (S.pushs r).newL r.length.symm r.nsl hp
/-- a new tuple of frozen things -/
theorem Sat.newTF {p : Addr} {ds : List D} {vs : List V} (S : Sat F B mg H σ ρ T) (r : Reps F mg H ds vs) (hp : H p = none) :
    ∃ F' B', Ext F B H F' B' (upd H p (.tup vs)) ∧ Sat F' B' mg (upd H p (.tup vs)) σ ρ ((.ref p, .tup ds) :: T) := by
  obtain ⟨F3, B3, x3, S3, fp⟩ := S.newF (o := .tup vs) hp
  exact ⟨F3, B3, x3, S3.push ⟨p, vs, rfl, fp, upd_same, Reps.mono (x3.ag S.fb) _ _ r⟩⟩
/-- the items of a sequence at hand, frozen: a fresh list is frozen whole -/
def fItems : D → M (Bool × List D)
  | .ol xs => ret (false, D.frzs xs)
  | d => fun ρ => match dr ρ d with
    | some x => (match x.seq with
      | some (b, xs) => if plain xs = true then some (.ok (b, xs), ρ) else none
      | none => none)
    | none => none
theorem Sat.items {z : Res (Bool × List D) × Env} (S : Sat F B mg H σ ρ ((v, d) :: T)) (e : fItems d ρ = some z) :
    ∃ b xs, z = (.ok (b, xs), ρ) ∧ ∃ F' B', Ext F B H F' B' H ∧ Sat F' B' mg H σ ρ T ∧ ∃ a vs, v = .ref a ∧ Reps F' mg H xs vs ∧ (if b = true then SqT K H a vs else SqL K H a vs) ∧ (b = true → ∃ y, dr ρ d = some y ∧ Rep F' mg H y v ∧ y = .tup xs) := by
  have gen : ∀ z, (match dr ρ d with
    | some x => (match x.seq with
      | some (b, xs) => if plain xs = true then some (Res.ok (b, xs), ρ) else none
      | none => none)
    | none => none) = some z → ∃ b xs, z = (.ok (b, xs), ρ) ∧ ∃ F' B', Ext F B H F' B' H ∧ Sat F' B' mg H σ ρ T ∧ ∃ a vs, v = .ref a ∧ Reps F' mg H xs vs ∧ (if b = true then SqT K H a vs else SqL K H a vs) ∧ (b = true → ∃ y, dr ρ d = some y ∧ Rep F' mg H y v ∧ y = .tup xs) := by
    intro z e
    split at e
    · rename_i x e1
      split at e
      · rename_i b xs hs
        split at e
        · rename_i hp
          cases e
          obtain ⟨f, rp⟩ := S.look1 e1
          obtain ⟨a, vs, f', rfl, s, q⟩ := rp.seq K hs
          refine ⟨b, xs, rfl, F, B, Ext.refl, S.pop, a, vs, rfl, s.reps hp, q, fun hb => ?_⟩
          subst hb
          refine ⟨x, e1, ?_⟩
          cases x <;> first | (cases hs; exact ⟨rp.1, rfl⟩) | cases hs
        · cases e
      · cases e
    · cases e
  cases d with
  | ol xs =>
    cases e
    obtain ⟨F', B', x, S', rf⟩ := S.freeze (fun i z => by cases z)
    obtain ⟨a, vs, e1, f, r, s⟩ := rf
    exact ⟨false, _, rfl, F', B', x, S'.pop, a, vs, e1, s, .inl (.inl r), fun hb => by cases hb⟩
  | _ => exact gen z e
/-- tuple(x), list(x) -/
def fTupOf : D → M D := fun d => bnd (fItems d) fun z => ret (.tup z.2)
def fLstOf : D → M D := fun d => bnd (fItems d) fun z => ret (.ol z.2)
theorem c_tuple : SimC mg W (fun xs H Q => ∃ p ys, xs = [.ref p] ∧ ((SqL K H p ys ∧ ∀ l, H l = none → Q (.ref l) (upd H l (.tup ys))) ∨ (SqT K H p ys ∧ Q (.ref p) H))) (fC1 fTupOf) := simC1 fun F B H σ ρ T x dx Q res ρ' S e px h => by
  rcases bnd_some e with ⟨z, ρ1, e1, e2⟩ | ⟨c, fs, e1, e2⟩
  · obtain ⟨b, xs, ez, F1, B1, x1, S1, a, vs, rfl, r, q, hb⟩ := S.items (K := K) e1
    cases ez
    cases e2
    refine ⟨a, vs, rfl, ?_⟩
    cases b with
    | true =>
      obtain ⟨y, _, ry, ey⟩ := hb rfl
      subst ey
      exact .inr ⟨q, h _ rfl F1 B1 H _ x1 (S1.push ry)⟩
    | false =>
      refine .inl ⟨q, fun l hl => ?_⟩
      obtain ⟨F2, B2, x2, S2⟩ := S1.newTF r hl
      exact h _ rfl F2 B2 _ _ (x1.trans x2) S2
  · obtain ⟨b, xs, ez, _⟩ := S.items (K := K) e1
    cases ez
theorem c_list : SimC mg W (fun xs H Q => ∃ p ys, xs = [.ref p] ∧ (SqL K H p ys ∨ SqT K H p ys) ∧ ∀ l, H l = none → Q (.ref l) (upd H l (.lst ys))) (fC1 fLstOf) := simC1 fun F B H σ ρ T x dx Q res ρ' S e px h => by
  rcases bnd_some e with ⟨z, ρ1, e1, e2⟩ | ⟨c, fs, e1, e2⟩
  · obtain ⟨b, xs, ez, F1, B1, x1, S1, a, vs, rfl, r, q, hb⟩ := S.items (K := K) e1
    cases ez
    cases e2
    refine ⟨a, vs, rfl, ?_, fun l hl => ?_⟩
    · cases b with
      | true => exact .inr q
      | false => exact .inl q
    · obtain ⟨F2, B2, x2, S2⟩ := S1.newLF r hl
      exact h _ rfl F2 B2 _ _ (x1.trans x2) S2
  · obtain ⟨b, xs, ez, _⟩ := S.items (K := K) e1
    cases ez
/-! ### slices -/
def SimO (mg : Cn) (W : WX) (t : TO) (m : M (Option Int)) : Prop := ∀ (F B : Addr → Prop) (H : Hp) (σ : St) (ρ : Env) (T : Tm) (Q : Option Int → Hp → Prop) (r : Res (Option Int)) (ρ' : Env), Sat F B mg H σ ρ T → m ρ = some (r, ρ') → PX mg W σ T F B H ρ' r →
  (∀ b, r = .ok b → ∀ F' B' H', Ext F B H F' B' H' → Sat F' B' mg H' σ ρ' T → Q b H') → t σ H Q
def mPart (a : M D) : M (Option Int) := bnd a fun d => match d with
  | .int i => ret (some i)
  | _ => stuck
theorem sim_opart {t : TE} {a : M D} (ha : SimE mg W t a) : SimO mg W (tPart t) (mPart a) := fun F B H σ ρ T Q r ρ' S e px h => by
  refine ha.bind S e px fun d ρ1 F1 B1 H1 v e1 x1 S1 => ?_
  split at e1
  · rename_i i
    cases e1
    obtain ⟨_, rx⟩ := S1.top
    exact ⟨i, rt_int rx, h _ rfl F1 B1 H1 x1 S1.pop⟩
  · cases e1
theorem sim_onone : SimO mg W tNoPart (ret none) := fun F B H σ ρ T Q r ρ' S e px h => by
  cases e
  exact h _ rfl F B H Ext.refl S
theorem SimO.bind {β : Type} {ta : TO} {ma : M (Option Int)} (ha : SimO mg W ta ma) {k : Option Int → M β} {r : Res β} {R : Option Int → Hp → Prop} (S : Sat F B mg H σ ρ T) (e : bnd ma k ρ = some (r, ρ')) (px : PX mg W σ T F B H ρ' r)
    (h : ∀ d ρ1 F1 B1 H1, k d ρ1 = some (r, ρ') → Ext F B H F1 B1 H1 → Sat F1 B1 mg H1 σ ρ1 T → R d H1) : ta σ H R := by
  unfold bnd at e
  split at e
  · rename_i a ρ1 e1
    exact ha F B H σ ρ T R (.ok a) ρ1 S e1 PX.ok fun d hd F1 B1 H1 x S1 => by cases hd; exact h a ρ1 F1 B1 H1 e x S1
  · rename_i c fs ρ1 e1
    cases e
    exact ha F B H σ ρ T R (.exc c fs) _ S e1 px.cast fun d hd => by cases hd
  · cases e
def cut (xs : List D) (lo hi : Option Int) : List D := (xs.drop (HT.sIx xs.length 0 lo)).take (HT.sIx xs.length xs.length hi - HT.sIx xs.length 0 lo)
theorem Reps.drop : ∀ {ds : List D} {vs : List V} (n : Nat), Reps F mg H ds vs → Reps F mg H (ds.drop n) (vs.drop n)
  | _, _, 0, h => h
  | [], vs, n + 1, h => by rw [show vs = [] from h]; rfl
  | d :: ds, _, n + 1, ⟨v, vs, e, h1, h2⟩ => by subst e; exact Reps.drop n h2
theorem Reps.take : ∀ {ds : List D} {vs : List V} (n : Nat), Reps F mg H ds vs → Reps F mg H (ds.take n) (vs.take n)
  | _, _, 0, h => rfl
  | [], vs, n + 1, h => by rw [show vs = [] from h]; rfl
  | d :: ds, _, n + 1, ⟨v, vs, e, h1, h2⟩ => by subst e; exact ⟨v, _, rfl, h1, Reps.take n h2⟩
theorem Reps.cut {ds : List D} {vs : List V} (lo hi : Option Int) (h : Reps F mg H ds vs) : Reps F mg H (SV.cut ds lo hi) (cutV vs lo hi) := by
  unfold SV.cut cutV
  rw [h.length]
  exact Reps.take _ (Reps.drop _ h)
/-- a slice of a list or a tuple -/
def rSlLT (K : PySem.W.Frag) : V → Option Int → Option Int → Hp → VK → Prop := fun x lo hi H Q => rSlL K x lo hi H Q ∨ rSlA K x lo hi H Q
def fCut (d : D) (lo hi : Option Int) : M D := bnd (fItems d) fun z => if z.1 = true then ret (.tup (cut z.2 lo hi)) else ret (.ol (cut z.2 lo hi))
def mSl (a : M D) (lo hi : M (Option Int)) : M D := bnd a fun d => bnd lo fun l => bnd hi fun u => fCut d l u
theorem cut_whole {α : Type} {xs : List α} {lo hi : Option Int} (h : HT.sIx xs.length 0 lo = 0 ∧ HT.sIx xs.length xs.length hi = xs.length) : (xs.drop (HT.sIx xs.length 0 lo)).take (HT.sIx xs.length xs.length hi - HT.sIx xs.length 0 lo) = xs := by
  rw [h.1, h.2]
  simp
theorem sim_sl {t : TE} {tl th : TO} {a : M D} {lo hi : M (Option Int)} (ha : SimE mg W t a) (hl : SimO mg W tl lo) (hh : SimO mg W th hi) : SimE mg W (tSl (rSlLT K) t tl th) (mSl a lo hi) := fun F B H σ ρ T Q res ρ' S e px h => by
  refine ha.bind S e px fun d ρ1 F1 B1 H1 v e1 x1 S1 => ?_
  refine hl.bind S1 e1 (px.shift x1).cons fun l ρ2 F2 B2 H2 e2 x2 S2 => ?_
  refine hh.bind S2 e2 (px.shift (x1.trans x2)).cons fun u ρ3 F3 B3 H3 e3 x3 S3 => ?_
  have x123 := (x1.trans x2).trans x3
  unfold fCut at e3
  rcases bnd_some e3 with ⟨z, ρ4, e4, e5⟩ | ⟨c, fs, e4, e5⟩
  · obtain ⟨b, xs, ez, F4, B4, x4, S4, a, vs, rfl, r, q, hb⟩ := S3.items (K := K) e4
    cases ez
    cases b with
    | true =>
      cases e5
      refine .inr ⟨a, vs, rfl, q, fun hw => ?_, fun hw p hp => ?_⟩
      · obtain ⟨y, _, ry, ey⟩ := hb rfl
        subst ey
        have ec : SV.cut xs l u = xs := by
          unfold SV.cut
          exact cut_whole (by rw [r.length]; exact hw)
        refine h _ rfl F4 B4 H3 _ (x123.trans x4) ?_
        show Sat F4 B4 mg H3 σ _ ((.ref a, .tup (SV.cut xs l u)) :: T)
        rw [ec]
        exact S4.push ry
      · obtain ⟨F5, B5, x5, S5⟩ := S4.newTF (r.cut l u) hp
        exact h _ rfl F5 B5 _ _ ((x123.trans x4).trans x5) S5
    | false =>
      cases e5
      refine .inl ⟨a, vs, rfl, q, fun p hp => ?_⟩
      obtain ⟨F5, B5, x5, S5⟩ := S4.newLF (r.cut l u) hp
      exact h _ rfl F5 B5 _ _ ((x123.trans x4).trans x5) S5
  · obtain ⟨b, xs, ez, _⟩ := S3.items (K := K) e4
    cases ez
/-! ### + of any kind -/
def rAddA (K : PySem.W.Frag) : R2 := fun x y H Q => rI0 (fun i j => .int (i + j)) x y H Q ∨ rCat x y H Q ∨ rCatA K x y H Q ∨ (∃ i j, x = .str i ∧ y = .str j ∧ i.length + j.length ≤ sizeLine ∧ Q (.str (i ++ j)) H)
theorem op_addA {X : Cx} : OpR X (binaryOp .Add) (rAddA X.K) := op_add.or (op_cat.or (op_catA.or op_add_str))
end
end SV
end
section
set_option Elab.async false
set_option linter.all false
set_option maxRecDepth 100000
set_option maxHeartbeats 4000000
namespace SV
open PySem PySem.Spec L2
section
variable {F B F' B' : Addr → Prop} {mg : Cn} {W : WX} {H H' : Hp} {σ : St} {ρ ρ' : Env} {T : Tm} {v : V} {d : D} {K : PySem.W.Frag}
/-- a list at hand takes and gives -/
theorem Sat.updL {a : Addr} {ds es nd od : List D} {ws nv ov : List V} {vs : List V} (lw : ws.length = es.length) (ne : ∀ d ∈ es, ∀ i, d ≠ .sl i) (S : Sat F B mg H σ ρ ((.ref a, .ol ds) :: (ws.zip es ++ T))) (ha : H a = some (.lst vs))
    (hk : ∀ f g, RepOs F mg H ds vs f → RepOs F mg H es ws g → ∃ f' g' j, RepOs F mg H nd nv f' ∧ RepOs F mg H od ov g' ∧ (f ++ g).Perm ((f' ++ g') ++ j)) :
    ∃ F' B', Ext F B H F' B' (upd H a (.lst nv)) ∧ Sat F' B' mg (upd H a (.lst nv)) σ ρ ((.ref a, .ol nd) :: (ov.zip od ++ T)) := by
  have S0 : Sat F B mg H σ ρ (((.ref a, .ol ds) :: ws.zip es) ++ T) := S
  obtain ⟨F', x, S'⟩ := Sat.step (Ts' := (.ref a, .ol nd) :: ov.zip od) (H' := upd H a (.lst nv)) S0 fun fs hr nd' hB => by
    obtain ⟨f1, g, e, h1, h2⟩ := hr
    obtain ⟨a', vs', f, e1, e2, e3, h3⟩ := (h1.own (fun i z => by cases z) : RepO F mg H (.ol ds) (.ref a) f1)
    cases e1
    rw [ha] at e3
    cases e3
    have h4 := RTs.repOs lw ne h2
    obtain ⟨f', g', j, h5, h6, pm⟩ := hk f g h3 h4
    subst e e2
    have nn := List.nodup_cons.mp (show (a :: (f ++ g)).Nodup from nd')
    have sub : ∀ b, b ∈ f' ++ g' → b ∈ f ++ g := fun b hb => pm.mem_iff.mpr (List.mem_append_left _ hb)
    have na : ∀ b ∈ f' ++ g', b ≠ a := fun b hb z => nn.1 (z ▸ sub b hb)
    have nF : ¬ F a := fun z => hB a (by simp) (S.fb a z)
    have ag : Ag F H F (upd H a (.lst nv)) := ⟨fun _ h => h, fun b hb => upd_ne fun z => nF (z ▸ hb)⟩
    have k5 := RepOs.mono ag _ _ _ (fun b hb => upd_ne (na b (List.mem_append_left _ hb))) h5
    have k6 := RepOs.mono ag _ _ _ (fun b hb => upd_ne (na b (List.mem_append_right _ hb))) h6
    refine ⟨F, (a :: f') ++ g', fun _ h => h, fun b hb _ => upd_ne fun z => hb (by rw [z]; simp), ⟨a :: f', g', rfl, ⟨a, nv, f', rfl, rfl, upd_same, k5⟩, k6.rts⟩, ?_, fun b hb => ?_, fun b hb => .inl hb, fun b hb z => ?_, fun b hb => ?_⟩
    · have n2 : (f' ++ g').Nodup := (List.nodup_append.mp (pm.nodup_iff.mp nn.2)).1
      exact List.nodup_cons.mpr ⟨fun z => na a z rfl, n2⟩
    · refine .inl ?_
      rcases List.mem_cons.mp (show b ∈ a :: (f' ++ g') from hb) with z | z
      · rw [z]; simp
      · exact List.mem_cons_of_mem _ (sub b z)
    · rcases List.mem_cons.mp (show b ∈ a :: (f' ++ g') from hb) with y | y
      · exact nF (y ▸ z)
      · exact hB b (List.mem_cons_of_mem _ (sub b y)) (S.fb b z)
    · obtain ⟨o, e⟩ := S.tru hb
      exact ⟨o, by rw [upd_ne (show b ≠ a by rintro rfl; exact nF hb)]; exact e⟩
  exact ⟨F', _, x, S'⟩
/-- the slot's own thing, changed -/
theorem Sat.putBack {i : Nat} {u : V} (S : Sat F B mg H σ (ρ.set i none) ((u, d) :: T)) (n : ∀ j, d ≠ .sl j) (hi : i < ρ.length) (hs : σ[i]? = some (some u)) : Sat F B mg H σ (ρ.set i (some d)) T := by
  have S3 := S.put (i := i) n (by simpa using hi) (.inl hs)
  rw [List.set_set] at S3
  have es : σ.set i (some u) = σ := by
    apply List.ext_getElem?
    intro j
    by_cases hj : i = j
    · subst hj
      rw [List.getElem?_set_self (List.getElem?_eq_some_iff.mp hs).1, hs]
    · rw [List.getElem?_set_ne hj]
  rw [es] at S3
  exact S3
/-- what a list's method makes of the items and the arguments: the new items, and what is handed back -/
abbrev LMeth := List D → List D → Option (List D × D)
/-- a method of the list in slot i -/
def mLM (f : LMeth) (i : Nat) (a : M (List D)) : M D := fun ρ => match ρ[i]? with
  | some (some (.ol _)) => (bnd a fun es => bnd (fOwns es) fun xs ρ1 => match ρ1[i]? with
    | some (some (.ol ds)) => (match f ds xs with
      | some (nd, y) => some (.ok y, ρ1.set i (some (.ol nd)))
      | none => none)
    | _ => none) ρ
  | _ => none
/-- the rule r does what f says -/
def LRule (mg : Cn) (r : V → List V → Hp → VK → Prop) (f : LMeth) : Prop := ∀ (F : Addr → Prop) (H : Hp) (a : Addr) (ds es nd : List D) (y : D) (vs ws : List V) (Q : VK), f ds es = some (nd, y) → H a = some (.lst vs) → (∃ f0, RepOs F mg H ds vs f0) → (∃ g0, RepOs F mg H es ws g0) →
  ∃ nv w, (∀ f0 g0, RepOs F mg H ds vs f0 → RepOs F mg H es ws g0 → ∃ f' g' j, RepOs F mg H nd nv f' ∧ RepO F mg H y w g' ∧ (f0 ++ g0).Perm ((f' ++ g') ++ j)) ∧ (Q w (upd H a (.lst nv)) → r (.ref a) ws H Q)
theorem sim_LM {r : V → List V → Hp → VK → Prop} {f : LMeth} (hr : LRule mg r f) (i : Nat) {t : TA} {a : M (List D)} (ha : SimA mg W t a) : SimE mg W (tBM K "list" r (tVar i) t) (mLM f i a) := fun F B H σ ρ T Q res ρ' S e px h => by
  unfold mLM at e
  split at e
  · rename_i ds0 e0
    obtain ⟨v0, hv0, f0, r0⟩ := S.get e0 rfl
    obtain ⟨p, vs0, _, rfl, _, hp0, _⟩ := r0
    refine ⟨_, hv0, .inl ⟨rfl, vs0, .inl (.inl hp0)⟩, ?_⟩
    refine ha.bind S e px fun es ρ1 F1 B1 H1 ws e1 x1 l S1 => ?_
    rcases bnd_some e1 with ⟨xs, ρ2, e2, e3⟩ | ⟨c, fs, e2, e3⟩
    · obtain ⟨es', hd, l2, n2, F2, B2, x2, S2⟩ := S1.fOwns l e2
      cases hd
      split at e3
      · rename_i ds e4
        split at e3
        · rename_i nd y e5
          cases e3
          obtain ⟨v', hv', S3⟩ := S2.take e4 rfl
          rw [hv0] at hv'
          cases hv'
          have hi : i < ρ2.length := (List.getElem?_eq_some_iff.mp e4).1
          have S3' : Sat F2 B2 mg H1 σ (ρ2.set i none) ((.ref p, .ol ds) :: (ws.zip xs ++ T)) := S3
          obtain ⟨⟨o1, o2, k1, k2, _, _⟩, _, _⟩ := id S3'
          obtain ⟨f1, f2, _, k3, k4⟩ := k2
          obtain ⟨p', vs, f3, e6, _, hp, k5⟩ := (k3.own (fun i z => by cases z) : RepO F2 mg H1 (.ol ds) (.ref p) f1)
          cases e6
          obtain ⟨g1, g2, _, k6, _⟩ := RTs.split k4
          obtain ⟨nv, w, k7, k8⟩ := hr F2 H1 p ds xs nd y vs ws Q e5 hp ⟨_, k5⟩ ⟨_, RTs.repOs l2 n2 k6⟩
          refine k8 ?_
          have ny : ∀ j, y ≠ .sl j := fun j z => by
            obtain ⟨_, _, _, _, q, _⟩ := k7 _ _ k5 (RTs.repOs l2 n2 k6)
            rw [z] at q
            exact q
          obtain ⟨F3, B3, x3, S4⟩ := Sat.updL (od := [y]) (ov := [w]) l2 n2 S3' hp fun f0 g0 q1 q2 => by
            obtain ⟨f', g', j, q3, q4, q5⟩ := k7 f0 g0 q1 q2
            exact ⟨f', g', j, q3, ⟨w, [], g', [], rfl, by simp, q4, rfl, rfl⟩, q5⟩
          exact h y rfl F3 B3 _ w ((x1.trans x2).trans x3) (S4.putBack (fun j z => by cases z) hi hv0)
        · cases e3
      · cases e3
    · obtain ⟨ds', hd, _⟩ := S1.fOwns l e2
      cases hd
  · cases e
theorem RepOs.two {ds es : List D} {vs ws : List V} {f g : List Addr} (h : RepOs F mg H ds vs f) (h' : RepOs F mg H es ws g) : RepOs F mg H (ds ++ es) (vs ++ ws) (f ++ g) := h.append h'
/-! ### append -/
def lAppend : LMeth := fun ds es => match es with
  | [e] => if ds.length < lim then some (ds ++ [e], .non) else none
  | _ => none
theorem lr_append : LRule mg rAppend lAppend := fun F H a ds es nd y vs ws Q e hp ⟨f0, h0⟩ ⟨g0, h1⟩ => by
  unfold lAppend at e
  split at e
  · rename_i d
    split at e
    · rename_i hl
      cases e
      obtain ⟨w, ws', f1, f2, rfl, _, _, hw, _⟩ := h1
      have hw : ws' = [] := hw
      subst hw
      exact ⟨vs ++ [w], .non, fun f0 g0 q1 q2 => ⟨f0 ++ g0, [], [], q1.append q2, ⟨rfl, rfl⟩, by simp⟩, fun q => ⟨a, vs, w, rfl, rfl, hp, by rw [lim_eq, ← h0.length]; exact hl, q⟩⟩
    · cases e
  · cases e
/-! ### insert -/
/-! ### pop -/
end
end SV
end
section
set_option Elab.async false
set_option linter.all false
set_option maxRecDepth 100000
set_option maxHeartbeats 4000000
namespace SV
open PySem PySem.Spec L2
/-! ### judgements: a piece of syntax and what it reckons -/
section
variable (g : Cn) (W : WX)
def TEof (m : M D) : TE := fun σ H Q => ∃ (F B : Addr → Prop) (ρ : Env) (T : Tm) (r : Res D) (ρ' : Env), Sat F B g H σ ρ T ∧ m ρ = some (r, ρ') ∧ PX g W σ T F B H ρ' r ∧ ∀ d, r = .ok d → ∀ F' B' H' v, Ext F B H F' B' H' → Sat F' B' g H' σ ρ' ((v, d) :: T) → Q v H'
def TTof (m : M Bool) : TT := fun σ H Q => ∃ (F B : Addr → Prop) (ρ : Env) (T : Tm) (r : Res Bool) (ρ' : Env), Sat F B g H σ ρ T ∧ m ρ = some (r, ρ') ∧ PX g W σ T F B H ρ' r ∧ ∀ b, r = .ok b → ∀ F' B' H', Ext F B H F' B' H' → Sat F' B' g H' σ ρ' T → Q b H'
def TAof (m : M (List D)) : TA := fun σ H Q => ∃ (F B : Addr → Prop) (ρ : Env) (T : Tm) (r : Res (List D)) (ρ' : Env), Sat F B g H σ ρ T ∧ m ρ = some (r, ρ') ∧ PX g W σ T F B H ρ' r ∧ ∀ ds, r = .ok ds → ∀ F' B' H' vs, Ext F B H F' B' H' → vs.length = ds.length → Sat F' B' g H' σ ρ' (vs.zip ds ++ T) → Q vs H'
def TOof (m : M (Option Int)) : TO := fun σ H Q => ∃ (F B : Addr → Prop) (ρ : Env) (T : Tm) (r : Res (Option Int)) (ρ' : Env), Sat F B g H σ ρ T ∧ m ρ = some (r, ρ') ∧ PX g W σ T F B H ρ' r ∧ ∀ b, r = .ok b → ∀ F' B' H', Ext F B H F' B' H' → Sat F' B' g H' σ ρ' T → Q b H'
end
theorem selfE {g : Cn} {W : WX} {m : M D} : SimE g W (TEof g W m) m := fun F B H σ ρ T Q r ρ' S e px h => ⟨F, B, ρ, T, r, ρ', S, e, px, h⟩
theorem selfT {g : Cn} {W : WX} {m : M Bool} : SimT g W (TTof g W m) m := fun F B H σ ρ T Q r ρ' S e px h => ⟨F, B, ρ, T, r, ρ', S, e, px, h⟩
theorem selfA {g : Cn} {W : WX} {m : M (List D)} : SimA g W (TAof g W m) m := fun F B H σ ρ T Q r ρ' S e px h => ⟨F, B, ρ, T, r, ρ', S, e, px, h⟩
theorem selfO {g : Cn} {W : WX} {m : M (Option Int)} : SimO g W (TOof g W m) m := fun F B H σ ρ T Q r ρ' S e px h => ⟨F, B, ρ, T, r, ρ', S, e, px, h⟩
def VE (X : Cx) (g : Cn) (W : WX) (e : Expr) (m : M D) : Prop := PE X e (TEof g W m)
def VT (X : Cx) (g : Cn) (W : WX) (e : Expr) (m : M Bool) : Prop := PT X e (TTof g W m)
def VW (X : Cx) (g : Cn) (W : WX) (e : Expr) (m : M Bool) : Prop := PW X e (TTof g W m)
def VA (X : Cx) (g : Cn) (W : WX) (es : List Expr) (m : M (List D)) : Prop := PA X es (TAof g W m)
def VO (X : Cx) (g : Cn) (W : WX) (e : Option Expr) (m : M (Option Int)) : Prop := PO X e (TOof g W m)
section
variable {X : Cx} {g : Cn} {W : WX}
theorem VE.mk {e : Expr} {t : TE} {m : M D} (h : PE X e t) (s : SimE g W t m) : VE X g W e m := ⟨fun pins st σ H Q I ⟨F, B, ρ, T, r, ρ', S, e1, px, k⟩ => h.run pins st σ H Q I (s F B H σ ρ T Q r ρ' S e1 px k)⟩
theorem VT.mk {e : Expr} {t : TT} {m : M Bool} (h : PT X e t) (s : SimT g W t m) : VT X g W e m := ⟨fun pins st σ H Q I ⟨F, B, ρ, T, r, ρ', S, e1, px, k⟩ => h.run pins st σ H Q I (s F B H σ ρ T Q r ρ' S e1 px k)⟩
theorem VW.mk {e : Expr} {t : TT} {m : M Bool} (h : PW X e t) (s : SimT g W t m) : VW X g W e m := ⟨fun wh pins st σ H Q I ⟨F, B, ρ, T, r, ρ', S, e1, px, k⟩ => h.run wh pins st σ H Q I (s F B H σ ρ T Q r ρ' S e1 px k)⟩
theorem VA.mk {e : List Expr} {t : TA} {m : M (List D)} (h : PA X e t) (s : SimA g W t m) : VA X g W e m := ⟨fun pos pins st σ H Q I ⟨F, B, ρ, T, r, ρ', S, e1, px, k⟩ => h.run pos pins st σ H Q I (s F B H σ ρ T Q r ρ' S e1 px k)⟩
theorem VO.mk {e : Option Expr} {t : TO} {m : M (Option Int)} (h : PO X e t) (s : SimO g W t m) : VO X g W e m := ⟨fun pins st σ H Q I ⟨F, B, ρ, T, r, ρ', S, e1, px, k⟩ => h.run pins st σ H Q I (s F B H σ ρ T Q r ρ' S e1 px k)⟩
variable {a b c : Expr} {ma mb mc : M D} {pos : Pos} {rest : List Expr}
theorem v_int {i : Int} {j pos} : VE X g W (.Constant (.int i) j pos) (ret (.int i)) := .mk pe_int (sim_int i)
theorem v_bl {i : Bool} {j pos} : VE X g W (.Constant (.bool i) j pos) (ret (.bl i)) := .mk pe_bl (sim_bl i)
theorem v_str {i : Str} {j pos} : VE X g W (.Constant (.str i) j pos) (ret (.str i)) := .mk pe_str (sim_str i)
theorem v_non {j pos} : VE X g W (.Constant .none j pos) (ret .non) := .mk pe_non sim_non
theorem v_var {i : Nat} {x : Str} {pos : Pos} (hN : X.N[i]? = some x) (hv : Vis X.env.scope x) (hd : (x == ("__debug__" : Str)) = false := by decide) (hcd : (x == ("__classdict__" : Str)) = false := by decide) : VE X g W (.Name x pos) (mVar i) := .mk (pe_var hN hv hd hcd) (sim_var i)
/-- a module's int -/
theorem v_gint {x : Str} {i : Int} {t : Tok} {pos : Pos} (hg : Gl X x) (hm : X.mg x = some (.int i t)) (hd : (x == ("__debug__" : Str)) = false := by decide) : VE X g W (.Name x pos) (ret (.int i)) := .mk (pe_glob (v := .int i) hg hm ⟨t, rfl⟩ hd) (sim_int i)
theorem v_op {op : Operator} {r : R2} {f : D → D → M D} (ho : OpR X (binaryOp op) r) (hr : SimR g W r f) (ha : VE X g W a ma) (hb : VE X g W b mb) : VE X g W (.BinOp a op b pos) (mOp f ma mb) := .mk (pe_op ho ha hb) (sim_op hr selfE selfE)
theorem v_un {op : UnaryOp} {r : V → Hp → VK → Prop} {f : D → M D} (ho : UnR X (unaryOp op) r) (hr : SimU g W r f) (ha : VE X g W a ma) : VE X g W (.UnaryOp op a pos) (mUn f ma) := .mk (pe_un ho ha) (sim_un hr selfE)
theorem v_cmp {op : CmpOp} {r : R2} {f : D → D → M D} (ho : OpR X (compareOp op) r) (hr : SimR g W r f) (ha : VE X g W a ma) (hb : VE X g W b mb) (hm : behindInMarks op b = false) : VE X g W (.Compare a [op] [b] pos) (mOp f ma mb) := .mk (pe_cmpR ho ha hb hm) (sim_op hr selfE selfE)
theorem vt_cmp {op : CmpOp} {r : R2} {f : D → D → M D} (ho : OpR X (compareOp op) r) (hr : SimR g W r f) (ha : VE X g W a ma) (hb : VE X g W b mb) (hm : behindInMarks op b = false) : VT X g W (.Compare a [op] [b] pos) (mTb (mOp f ma mb)) := .mk (pt_cmpR ho ha hb hm) (sim_test (sim_op hr selfE selfE))
/-- a op b op' c -/
def mChain (f f' : D → D → M D) (ma mb mc : M D) : M D := bnd ma fun x => bnd mb fun y => bnd (f x y) fun k => match k with
  | .bl kb => if kb = true then (if y.sv.isSome = true then bnd mc fun z => f' y z else stuck) else ret (.bl false)
  | _ => stuck
theorem sim_chain {r r' : R2} {f f' : D → D → M D} {ta tb tc : TE} (hr : SimR g W r f) (hr' : SimR g W r' f') (ha : SimE g W ta ma) (hb : SimE g W tb mb) (hc : SimE g W tc mc) : SimE g W (tChain r r' ta tb tc) (mChain f f' ma mb mc) := fun F B H σ ρ T Q res ρ' S e px h => by
  refine ha.bind S e px fun dx ρ1 F1 B1 H1 x e1 x1 S1 => ?_
  refine hb.bind S1 e1 (px.shift x1).cons fun dy ρ2 F2 B2 H2 y e2 x2 S2 => ?_
  have x12 := x1.trans x2
  rcases bnd_some e2 with ⟨k, ρ3, e3, e4⟩ | ⟨c, fs, e3, e4⟩
  · refine hr F2 B2 H2 σ ρ2 T x y dx dy _ (.ok k) ρ3 S2 e3 PX.ok fun d hd F3 B3 H3 z x3 S3 => ?_
    cases hd
    split at e4
    · rename_i kb
      obtain ⟨_, rz⟩ := S3.top
      refine ⟨kb, rt_bl rz, ?_⟩
      cases kb with
      | false =>
        cases e4
        rw [if_neg Bool.false_ne_true]
        exact h _ rfl F3 B3 H3 _ (x12.trans x3) (S3.pop.push (by rfl))
      | true =>
      rw [if_pos rfl] at e4 ⊢
      split at e4
      · rename_i hw
        obtain ⟨w, hw⟩ := Option.isSome_iff_exists.mp hw
        obtain ⟨_, ry⟩ := S2.top
        have ryv : y = w := by
          cases dy <;> first
            | (cases hw; first | exact rt_int ry | exact rt_bl ry | exact rt_str ry | exact rt_non ry)
            | cases hw
        subst ryv
        refine SimE.bind (T := (y, dy) :: T) (ρ' := ρ') hc (S3.pop.push (rep_sv hw)) e4 ((px.shift (x12.trans x3)).cons) fun dz ρ4 F4 B4 H4 u e5 x4 S4 => ?_
        exact hr' F4 B4 H4 σ ρ4 T y u dy dz Q res ρ' S4 e5 (px.shift ((x12.trans x3).trans x4)) fun d hd F' B' H' v x5 S5 => h d hd F' B' H' v (((x12.trans x3).trans x4).trans x5) S5
      · cases e4
    · cases e4
  · cases res with
    | ok d => cases e4
    | exc c' fs' =>
      cases e4
      exact hr F2 B2 H2 σ ρ2 T x y dx dy _ (.exc c fs) _ S2 e3 (px.shift x12) fun d hd => by cases hd
theorem vt_chain {op op' : CmpOp} {r r' : R2} {f f' : D → D → M D} (ho : OpR X (compareOp op) r) (hr : SimR g W r f) (ho' : OpR X (compareOp op') r') (hr' : SimR g W r' f') (ha : VE X g W a ma) (hb : VE X g W b mb) (hc : VE X g W c mc)
    (hm : lastMarks [op, op'] [b, c] = false := by with_unfolding_all rfl) : VT X g W (.Compare a [op, op'] [b, c] pos) (mTb (mChain f f' ma mb mc)) := .mk (pt_chain ho ho' ha hb hc hm) (sim_test (sim_chain hr hr' selfE selfE selfE))
theorem v_isN {j pos'} (ha : VE X g W a ma) : VE X g W (.Compare a [.Is] [.Constant .none j pos'] pos) (mIsN ma) := .mk (pe_cmp (pc_isN ha)) (sim_isN selfE)
theorem vt_isN {j pos'} (ha : VE X g W a ma) : VT X g W (.Compare a [.Is] [.Constant .none j pos'] pos) (mTb (mIsN ma)) := .mk (pt_cmp (pc_isN ha)) (sim_tb (sim_isN selfE))
theorem vt_notN {j pos'} (ha : VE X g W a ma) : VT X g W (.Compare a [.IsNot] [.Constant .none j pos'] pos) (mTb (mNotN ma)) := .mk (pt_cmp (pc_notN ha)) (sim_tb (sim_notN selfE))
theorem vt_tru (ha : VE X g W a ma) (he : ∀ whole, isTrue a X.env whole = (do let v ← whole; standAt a.pos; holding [v] (truthy v)) := by intro _; rfl) : VT X g W a (mTru ma) := .mk (pt_truth ha he) (sim_tru selfE)
variable {na nb : M Bool}
theorem vt_not (ha : VT X g W a na) : VT X g W (.UnaryOp .Not a pos) (mNot na) := .mk (pt_not ha) (sim_not selfT)
theorem vw_and1 (ha : VT X g W a na) : VW X g W (.BoolOp .And [a] pos) na := pw_and1 ha
theorem vw_or1 (ha : VT X g W a na) : VW X g W (.BoolOp .Or [a] pos) na := pw_or1 ha
theorem vw_and (ha : VT X g W a na) (hb : VW X g W (.BoolOp .And (b :: rest) pos) nb) : VW X g W (.BoolOp .And (a :: b :: rest) pos) (mAnd na nb) := .mk (pw_and ha hb) (sim_and selfT selfT)
theorem vw_or (ha : VT X g W a na) (hb : VW X g W (.BoolOp .Or (b :: rest) pos) nb) : VW X g W (.BoolOp .Or (a :: b :: rest) pos) (mOr na nb) := .mk (pw_or ha hb) (sim_or selfT selfT)
theorem VW.vt (h : VW X g W a na) : VT X g W a na := PW.pt h
theorem v_one {op} (h : VE X g W a ma) : VE X g W (.BoolOp op [a] pos) ma := pe_one h
theorem v_and (ha : VE X g W a ma) (hb : VE X g W (.BoolOp .And (b :: rest) pos) mb) : VE X g W (.BoolOp .And (a :: b :: rest) pos) (mAndV ma mb) := .mk (pe_and ha hb) (sim_andV selfE selfE)
theorem v_or (ha : VE X g W a ma) (hb : VE X g W (.BoolOp .Or (b :: rest) pos) mb) : VE X g W (.BoolOp .Or (a :: b :: rest) pos) (mOrV ma mb) := .mk (pe_or ha hb) (sim_orV selfE selfE)
theorem v_ifE (hc : VT X g W c na) (ha : VE X g W a ma) (hb : VE X g W b mb) : VE X g W (.IfExp c a b pos) (mIfE na ma mb) := .mk (pe_ifExp hc ha hb) (sim_ifE selfT selfE selfE)
variable {es : List Expr} {ms : M (List D)}
theorem va_nil : VA X g W [] mNil := .mk pa_nil sim_nil
theorem va_cons (ha : VE X g W a ma) (hr : VA X g W es ms) (hs : starEach (a :: es) X.env = (false, eval a X.env) :: starEach es X.env := by rfl) : VA X g W (a :: es) (mCons ma ms) := .mk (pa_cons ha hr hs) (sim_cons selfE selfA)
theorem v_tup {x1} (h : VA X g W es ms) : VE X g W (.Tuple es x1 pos) (mTup ms) := .mk (pe_tup h) (sim_tup selfA)
theorem v_lst (h : VA X g W es ms) : VE X g W (.List es pos) (mLst ms) := .mk (pe_lst h) (sim_lst selfA)
theorem v_ix (ha : VE X g W a ma) (hb : VE X g W b mb) (hs : PlainIx b) : VE X g W (.Subscript a b pos) (mOp (fLook2 gIx) ma mb) := .mk (pe_ix ix_seq ha hb hs) (sim_op r_ix selfE selfE)
variable {id : String} {x : Str} {p apos : Pos}
theorem v_bi {r : List V → Hp → VK → Prop} {f : List D → M D} (hc : CallR X (.builtin id) r) (hr : SimC g W r f) (hg : Gl X x) (hm : X.mg x = none) (hv : bootBuiltins x = some (.builtin id)) (ha : VA X g W (a :: es) ms) (hn : x ≠ "__name__" := by decide) (hdb : (x == ("__debug__" : Str)) = false := by decide)
    (he : starEach (a :: es) X.env = (false, eval a X.env) :: starEach es X.env := by rfl) (hpl : (backTo pos (starEach es X.env)).any (·.1) = false := by rfl) : VE X g W (.Call (.Name x p) (a :: es) [] pos) (mCB f ms) := .mk (pe_callB hc hg hm hv ha hn hdb he hpl) (sim_CB hr selfA)
theorem v_ty {r : List V → Hp → VK → Prop} {f : List D → M D} (hc : CallR X (.type id) r) (hr : SimC g W r f) (hg : Gl X x) (hm : X.mg x = none) (hv : bootBuiltins x = some (.type id)) (ha : VA X g W (a :: es) ms) (hn : x ≠ "__name__" := by decide) (hdb : (x == ("__debug__" : Str)) = false := by decide)
    (he : starEach (a :: es) X.env = (false, eval a X.env) :: starEach es X.env := by rfl) (hpl : (backTo pos (starEach es X.env)).any (·.1) = false := by rfl) : VE X g W (.Call (.Name x p) (a :: es) [] pos) (mCB f ms) := .mk (pe_callTy hc hg hm hv ha hn hdb he hpl) (sim_CB hr selfA)
theorem vo_none : VO X g W none (ret none) := .mk po_none sim_onone
theorem vo_some (h : VE X g W a ma) : VO X g W (some a) (mPart ma) := .mk (po_some h) (sim_opart selfE)
theorem v_sl {lo hi : Option Expr} {ml mh : M (Option Int)} {p2 : Pos} (ha : VE X g W a ma) (hl : VO X g W lo ml) (hh : VO X g W hi mh) : VE X g W (.Subscript a (.Slice lo hi none p2) pos) (mSl ma ml mh) := .mk (pe_slice (sl_list.or sl_tupA) ha hl hh) (sim_sl selfE selfO selfO)
end
end SV
end
section
set_option Elab.async false
set_option linter.all false
set_option maxRecDepth 100000
set_option maxHeartbeats 4000000
namespace SV
open PySem PySem.Spec L2
/-! ### statements -/
inductive Fl where
  | nx | ret (d : D) | brk | ct | exc (c : Str) (fs : List (Str × D))
abbrev SM := Env → Option (Fl × Env)
section
variable (g : Cn) (W : WX) (P : List Nat)
/-- what is wanted behind a statement, by how it ends; the slots P are never stored into -/
structure FP (Dn : Ends) (F B : Addr → Prop) (H : Hp) (σ : St) (ρ' : Env) (fl : Fl) : Prop where
  nx : fl = .nx → ∀ F' B' H' σ', Ext F B H F' B' H' → (∀ i ∈ P, σ'[i]? = σ[i]?) → Sat F' B' g H' σ' ρ' [] → Dn.nx σ' H'
  bk : fl = .brk → ∀ F' B' H' σ', Ext F B H F' B' H' → (∀ i ∈ P, σ'[i]? = σ[i]?) → Sat F' B' g H' σ' ρ' [] → Dn.bk σ' H'
  ct : fl = .ct → ∀ F' B' H' σ', Ext F B H F' B' H' → (∀ i ∈ P, σ'[i]? = σ[i]?) → Sat F' B' g H' σ' ρ' [] → Dn.ct σ' H'
  rt : ∀ d, fl = .ret d → ∀ F' B' H' σ' v, Ext F B H F' B' H' → (∀ i ∈ P, σ'[i]? = σ[i]?) → (∀ i, d ≠ .sl i) → Sat F' B' g H' σ' ρ' [(v, d)] → Dn.rt v H'
  xc : ∀ c fs, fl = .exc c fs → ∀ F' B' H' σ' cls dx, Ext F B H F' B' H' → (∀ i ∈ P, σ'[i]? = σ[i]?) → Sat F' B' g H' σ' ρ' [] → ExcAt F' g H' cls dx c fs → W cls dx σ' H'
def SimS (t : TS) (m : SM) : Prop := ∀ (F B : Addr → Prop) (H : Hp) (σ : St) (ρ : Env) (Dn : Ends) (fl : Fl) (ρ' : Env), Sat F B g H σ ρ [] → m ρ = some (fl, ρ') → FP g W P Dn F B H σ ρ' fl → t Dn σ H
def TSof (m : SM) : TS := fun Dn σ H => ∃ (F B : Addr → Prop) (ρ : Env) (fl : Fl) (ρ' : Env), Sat F B g H σ ρ [] ∧ m ρ = some (fl, ρ') ∧ FP g W P Dn F B H σ ρ' fl
end
theorem selfS {g : Cn} {W : WX} {P : List Nat} {m : SM} : SimS g W P (TSof g W P m) m := fun F B H σ ρ Dn fl ρ' S e h => ⟨F, B, ρ, fl, ρ', S, e, h⟩
def VS (X : Cx) (g : Cn) (W : WX) (P : List Nat) (st : Stmt) (m : SM) : Prop := PS X st (TSof g W P m)
def VSs (X : Cx) (g : Cn) (W : WX) (P : List Nat) (st : List Stmt) (m : SM) : Prop := PSs X st (TSof g W P m)
/-- an expression, then a statement's end -/
def bndS {α : Type} (m : M α) (k : α → SM) : SM := fun ρ => match m ρ with
  | some (.ok a, ρ1) => k a ρ1
  | some (.exc c fs, ρ1) => some (.exc c fs, ρ1)
  | none => none
def endS (fl : Fl) : SM := fun ρ => some (fl, ρ)
def stuckS : SM := fun _ => none
section
variable {X : Cx} {g : Cn} {W : WX} {P : List Nat} {F B F' B' : Addr → Prop} {H H' : Hp} {σ σ' : St} {ρ ρ' : Env} {T : Tm} {v : V} {d : D} {Dn : Ends} {fl : Fl}
theorem FP.shift (x : Ext F B H F' B' H') (hP : ∀ i ∈ P, σ'[i]? = σ[i]?) (p : FP g W P Dn F B H σ ρ' fl) : FP g W P Dn F' B' H' σ' ρ' fl where
  nx := fun e F2 B2 H2 σ2 y q S => p.nx e F2 B2 H2 σ2 (x.trans y) (fun i hi => (q i hi).trans (hP i hi)) S
  bk := fun e F2 B2 H2 σ2 y q S => p.bk e F2 B2 H2 σ2 (x.trans y) (fun i hi => (q i hi).trans (hP i hi)) S
  ct := fun e F2 B2 H2 σ2 y q S => p.ct e F2 B2 H2 σ2 (x.trans y) (fun i hi => (q i hi).trans (hP i hi)) S
  rt := fun d e F2 B2 H2 σ2 v y q n S => p.rt d e F2 B2 H2 σ2 v (x.trans y) (fun i hi => (q i hi).trans (hP i hi)) n S
  xc := fun c fs e F2 B2 H2 σ2 cls dx y q S z => p.xc c fs e F2 B2 H2 σ2 cls dx (x.trans y) (fun i hi => (q i hi).trans (hP i hi)) S z
theorem FP.shiftE (x : Ext F B H F' B' H') (p : FP g W P Dn F B H σ ρ' fl) : FP g W P Dn F' B' H' σ ρ' fl := p.shift x fun _ _ => rfl
theorem FP.px {α : Type} {c : Str} {fs : List (Str × D)} (p : FP g W P Dn F B H σ ρ' (.exc c fs)) : PX (α := α) g W σ [] F B H ρ' (.exc c fs) := fun c' fs' e F2 B2 H2 cls dx x S z => by
  cases e
  exact p.xc c fs rfl F2 B2 H2 σ cls dx x (fun _ _ => rfl) S z
/-- an expression in a statement -/
theorem SimE.bindS {ta : TE} {ma : M D} (ha : SimE g W ta ma) {k : D → SM} {R : V → Hp → Prop} (S : Sat F B g H σ ρ []) (e : bndS ma k ρ = some (fl, ρ')) (p : FP g W P Dn F B H σ ρ' fl)
    (h : ∀ d ρ1 F1 B1 H1 v, k d ρ1 = some (fl, ρ') → Ext F B H F1 B1 H1 → Sat F1 B1 g H1 σ ρ1 [(v, d)] → R v H1) : ta σ H R := by
  unfold SV.bndS at e
  split at e
  · rename_i a ρ1 e1
    exact ha F B H σ ρ [] R (.ok a) ρ1 S e1 PX.ok fun d hd F1 B1 H1 v x S1 => by cases hd; exact h a ρ1 F1 B1 H1 v e x S1
  · rename_i c fs ρ1 e1
    cases e
    exact ha F B H σ ρ [] R (.exc c fs) _ S e1 p.px fun d hd => by cases hd
  · cases e
theorem SimT.bindS {ta : TT} {ma : M Bool} (ha : SimT g W ta ma) {k : Bool → SM} {R : Bool → Hp → Prop} (S : Sat F B g H σ ρ []) (e : bndS ma k ρ = some (fl, ρ')) (p : FP g W P Dn F B H σ ρ' fl)
    (h : ∀ d ρ1 F1 B1 H1, k d ρ1 = some (fl, ρ') → Ext F B H F1 B1 H1 → Sat F1 B1 g H1 σ ρ1 [] → R d H1) : ta σ H R := by
  unfold SV.bndS at e
  split at e
  · rename_i a ρ1 e1
    exact ha F B H σ ρ [] R (.ok a) ρ1 S e1 PX.ok fun d hd F1 B1 H1 x S1 => by cases hd; exact h a ρ1 F1 B1 H1 e x S1
  · rename_i c fs ρ1 e1
    cases e
    exact ha F B H σ ρ [] R (.exc c fs) _ S e1 p.px fun d hd => by cases hd
  · cases e
theorem SimA.bindS {ta : TA} {ma : M (List D)} (ha : SimA g W ta ma) {k : List D → SM} {R : List V → Hp → Prop} (S : Sat F B g H σ ρ []) (e : bndS ma k ρ = some (fl, ρ')) (p : FP g W P Dn F B H σ ρ' fl)
    (h : ∀ ds ρ1 F1 B1 H1 vs, k ds ρ1 = some (fl, ρ') → Ext F B H F1 B1 H1 → vs.length = ds.length → Sat F1 B1 g H1 σ ρ1 (vs.zip ds) → R vs H1) : ta σ H R := by
  unfold SV.bndS at e
  split at e
  · rename_i a ρ1 e1
    exact ha F B H σ ρ [] R (.ok a) ρ1 S e1 PX.ok fun d hd F1 B1 H1 v x l S1 => by cases hd; exact h a ρ1 F1 B1 H1 v e x l (by simpa using S1)
  · rename_i c fs ρ1 e1
    cases e
    exact ha F B H σ ρ [] R (.exc c fs) _ S e1 p.px fun d hd => by cases hd
  · cases e
theorem VS.mk {st : Stmt} {t : TS} {m : SM} (h : PS X st t) (s : SimS g W P t m) : VS X g W P st m := ⟨fun pins st σ H Dn I ⟨F, B, ρ, fl, ρ', S, e1, k⟩ => h.run pins st σ H Dn I (s F B H σ ρ Dn fl ρ' S e1 k)⟩
theorem VSs.mk {st : List Stmt} {t : TS} {m : SM} (h : PSs X st t) (s : SimS g W P t m) : VSs X g W P st m := ⟨fun pins st σ H Dn I ⟨F, B, ρ, fl, ρ', S, e1, k⟩ => h.run pins st σ H Dn I (s F B H σ ρ Dn fl ρ' S e1 k)⟩
/-! ### blocks -/
def mSeq (a b : SM) : SM := fun ρ => match a ρ with
  | some (.nx, ρ1) => b ρ1
  | x => x
theorem sim_seq {t u : TS} {a b : SM} (ha : SimS g W P t a) (hb : SimS g W P u b) : SimS g W P (tSeq t u) (mSeq a b) := fun F B H σ ρ Dn fl ρ' S e p => by
  unfold mSeq at e
  split at e
  · rename_i ρ1 e1
    refine ha F B H σ ρ { Dn with nx := u Dn } .nx ρ1 S e1 ⟨fun _ F1 B1 H1 σ1 x q S1 => ?_, fun h => (by cases h), fun h => (by cases h), fun d h => (by cases h), fun c fs h => (by cases h)⟩
    exact hb F1 B1 H1 σ1 ρ1 Dn fl ρ' S1 e (p.shift x q)
  · rename_i z hn
    refine ha F B H σ ρ { Dn with nx := u Dn } fl ρ' S e ⟨fun h => ?_, p.bk, p.ct, p.rt, p.xc⟩
    subst h
    exact absurd e (hn ρ')
theorem vss_nil : VSs X g W P [] (endS .nx) := .mk pss_nil fun F B H σ ρ Dn fl ρ' S e p => by
  cases e
  exact p.nx rfl F B H σ Ext.refl (fun _ _ => rfl) S
theorem vss_cons {st : Stmt} {rest : List Stmt} {a b : SM} (h1 : VS X g W P st a) (h2 : VSs X g W P rest b) : VSs X g W P (st :: rest) (mSeq a b) := .mk (pss_cons h1 h2) (sim_seq selfS selfS)
theorem vss_one {st : Stmt} {a : SM} (h1 : VS X g W P st a) : VSs X g W P [st] a := .mk (pss_one h1) selfS
variable {e a : Expr} {m : M D} {pos : Pos} {n : M Bool}
def mExpr (m : M D) : SM := bndS m fun _ => endS .nx
theorem vs_expr (he : VE X g W e m) (hs : swapsWith e none pos.line X.env = pure false := by rfl) : VS X g W P (.Expr e pos) (mExpr m) := .mk (ps_expr he hs) fun F B H σ ρ Dn fl ρ' S e p => by
  refine selfE.bindS S e p fun d ρ1 F1 B1 H1 v e1 x1 S1 => ?_
  cases e1
  exact p.nx rfl F1 B1 H1 σ x1 (fun _ _ => rfl) S1.pop
/-- a thing is handed over: a slot's thing leaves its slot -/
def fMove : D → M D := fun d ρ => match d with
  | .sl i => (match ρ[i]? with
    | some (some c) => if c.isX = true then none else some (.ok c, ρ.set i none)
    | _ => none)
  | d => some (.ok d, ρ)
theorem Sat.fMove {z : Res D × Env} (S : Sat F B g H σ ρ ((v, d) :: T)) (e : fMove d ρ = some z) : ∃ d', z.1 = .ok d' ∧ (∀ i, d' ≠ .sl i) ∧ Sat F B g H σ z.2 ((v, d') :: T) := by
  cases d with
  | sl i =>
    have e : (match ρ[i]? with
      | some (some c) => if c.isX = true then none else some (Res.ok c, ρ.set i none)
      | _ => none) = some z := e
    split at e
    · rename_i c e1
      split at e
      · cases e
      · rename_i nx
        have nx : c.isX = false := by simpa using nx
        cases e
        obtain ⟨gg, r⟩ := S.top
        have hs : σ[i]? = some (some v) := r.1
        obtain ⟨v', hv', S1⟩ := S.pop.take e1 nx
        rw [hs] at hv'
        cases hv'
        refine ⟨c, rfl, fun j z => ?_, S1⟩
        obtain ⟨_, _, _, r2⟩ := S.get e1 nx
        rw [z] at r2
        exact r2.elim
    · cases e
  | _ => cases e; exact ⟨_, rfl, fun i q => (by cases q), S⟩
def mRet (m : M D) : SM := bndS (bnd m fMove) fun d => endS (.ret d)
theorem vs_ret (he : VE X g W e m) : VS X g W P (.Return (some e) pos) (mRet m) := .mk (ps_ret he) fun F B H σ ρ Dn fl ρ' S e p => by
  unfold mRet bndS at e
  split at e
  · rename_i d ρ1 e1
    cases e
    rcases bnd_some e1 with ⟨d0, ρ0, e2, e3⟩ | ⟨c, fs, e2, e3⟩
    · refine selfE F B H σ ρ [] _ (.ok d0) ρ0 S e2 PX.ok fun d1 hd F1 B1 H1 v x S1 => ?_
      cases hd
      obtain ⟨d', hd', nd, S2⟩ := S1.fMove e3
      cases hd'
      exact p.rt d rfl F1 B1 H1 σ v x (fun _ _ => rfl) nd S2
    · cases e3
  · rename_i c fs ρ1 e1
    cases e
    rcases bnd_some e1 with ⟨d0, ρ0, e2, e3⟩ | ⟨c, fs, e2, e3⟩
    · refine selfE F B H σ ρ [] _ (.ok d0) ρ0 S e2 PX.ok fun d1 hd F1 B1 H1 v x S1 => ?_
      cases hd
      obtain ⟨d', hd', _, S2⟩ := S1.fMove e3
      cases hd'
    · cases e3
      exact selfE F B H σ ρ [] _ (.exc c fs) _ S e2 p.px fun d hd => by cases hd
  · cases e
def mIf (c : M Bool) (a b : SM) : SM := bndS c fun k => if k = true then a else b
theorem vs_if {c : Expr} {sa sb : List Stmt} {ma mb : SM} (hc : VT X g W c n) (ha : VSs X g W P sa ma) (hb : VSs X g W P sb mb) : VS X g W P (.If c sa sb pos) (mIf n ma mb) := .mk (ps_if hc ha hb) fun F B H σ ρ Dn fl ρ' S e p => by
  refine selfT.bindS S e p fun k ρ1 F1 B1 H1 e1 x1 S1 => ?_
  cases k with
  | true => exact selfS F1 B1 H1 σ ρ1 Dn fl ρ' S1 e1 (p.shiftE x1)
  | false => exact selfS F1 B1 H1 σ ρ1 Dn fl ρ' S1 e1 (p.shiftE x1)
/-! ### stores -/
def stS (i : Nat) (d : D) : SM := fun ρ => if i < ρ.length then some (.nx, ρ.set i (some d)) else none
def mSet (i : Nat) (m : M D) : SM := bndS (bnd m fMove) fun d => stS i d
theorem setP {i : Nat} {x : Option V} (hi : i ∉ P) : ∀ j ∈ P, (σ.set i x)[j]? = σ[j]? := fun j hj => List.getElem?_set_ne (by rintro rfl; exact hi hj)
theorem sim_set {t : TE} (i : Nat) (hi : i ∉ P) (ht : SimE g W t m) : SimS g W P (tAsg t (gName i)) (mSet i m) := fun F B H σ ρ Dn fl ρ' S e p => by
  unfold mSet bndS at e
  split at e
  · rename_i d ρ1 e1
    rcases bnd_some e1 with ⟨d0, ρ0, e2, e3⟩ | ⟨c, fs, e2, e3⟩
    · refine ht F B H σ ρ [] _ (.ok d0) ρ0 S e2 PX.ok fun d1 hd F1 B1 H1 v x S1 => ?_
      cases hd
      obtain ⟨d', hd', nd, S2⟩ := S1.fMove e3
      cases hd'
      unfold stS at e
      dsimp only at e
      split at e
      · rename_i hl
        cases e
        exact p.nx rfl F1 B1 H1 _ x (setP hi) (S2.put nd hl (.inr fun x hx => by cases hx))
      · cases e
    · cases e3
  · rename_i c fs ρ1 e1
    cases e
    rcases bnd_some e1 with ⟨d0, ρ0, e2, e3⟩ | ⟨c, fs, e2, e3⟩
    · refine ht F B H σ ρ [] _ (.ok d0) ρ0 S e2 PX.ok fun d1 hd F1 B1 H1 v x S1 => ?_
      cases hd
      obtain ⟨d', hd', _, S2⟩ := S1.fMove e3
      cases hd'
    · cases e3
      exact ht F B H σ ρ [] _ (.exc c fs) _ S e2 p.px fun d hd => by cases hd
  · cases e
theorem vs_set {i : Nat} {x : Str} {pos' : Pos} (hN : X.N.Nodup) (hi : X.N[i]? = some x) (hx : Loc X.env.scope x) (hp : i ∉ P) (he : VE X g W e m) (hs : swapsWith e (some (.Name x pos')) pos.line X.env = pure false := by rfl) (hf : X.fn x = true ∨ X.env.scope.names.lookup x = some .local := by first | exact .inl rfl | exact .inr rfl | assumption) :
    VS X g W P (.Assign [.Name x pos'] e pos) (mSet i m) := .mk (ps_set hN hi hx he hs hf) (sim_set i hp selfE)
/-- x op= e -/
def mAug (i : Nat) (f : D → D → M D) (m : M D) : SM := mSet i (mOp f (mVar i) m)
theorem vs_aug {i : Nat} {x : Str} {op : Operator} {r : R2} {f : D → D → M D} {pos' : Pos} (hN : X.N.Nodup) (hi : X.N[i]? = some x) (hx : Loc X.env.scope x) (hp : i ∉ P) (he : VE X g W e m) (ho : OpR X (inplaceOp op) r) (hr : SimR g W r f) (hf : X.fn x = true ∨ X.env.scope.names.lookup x = some .local := by first | exact .inl rfl | exact .inr rfl | assumption) :
    VS X g W P (.AugAssign (.Name x pos') op e pos) (mAug i f m) := .mk (ps_aug (ti := r) hN hi hx he ho hf) fun F B H σ ρ Dn fl ρ' S e p => by
  have key : SimS g W P (tAsg (tOp r (tVar i) (TEof g W m)) (gName i)) (mAug i f m) := sim_set i hp (sim_op hr (sim_var i) selfE)
  exact key F B H σ ρ Dn fl ρ' S e p
/-- a, b, .. = a tuple -/
def unpS : List Nat → List D → Env → Option Env
  | [], [], ρ => some ρ
  | i :: is, d :: ds, ρ => if i < ρ.length then unpS is ds (ρ.set i (some d)) else none
  | _, _, _ => none
def mUnp (is : List Nat) (m : M D) : SM := bndS (bnd m fItems) fun z ρ => if z.1 = true then (match unpS is z.2 ρ with
  | some ρ' => some (.nx, ρ')
  | none => none) else none
def gNames : List Nat → TGs
  | [] => gNil
  | i :: is => gCons (gName i) (gNames is)
theorem sim_names : ∀ {is : List Nat} {ds : List D} {vs : List V} {σ : St} {ρ ρ' : Env} {F B : Addr → Prop} {T : Tm} {Q : St → Hp → Prop}, (∀ x ∈ T, ∀ i ∈ is, x.2 ≠ .sl i) → (∀ i ∈ is, i ∉ P) → Sat F B g H σ ρ T → Reps F g H ds vs → unpS is ds ρ = some ρ' → (∀ σ', (∀ j ∈ P, σ'[j]? = σ[j]?) → Sat F B g H σ' ρ' T → Q σ' H) → gNames is vs σ H Q
  | [], [], vs, σ, ρ, ρ', F, B, T, Q, _, _, S, r, e, h => by
    cases e
    exact ⟨r, h σ (fun _ _ => rfl) S⟩
  | i :: is, d :: ds, vs, σ, ρ, ρ', F, B, T, Q, nt, np, S, ⟨v, vs', e1, r1, r2⟩, e, h => by
    unfold unpS at e
    split at e
    · rename_i hl
      subst e1
      refine ⟨v, vs', rfl, ?_⟩
      have S1 : Sat F B g H (σ.set i (some v)) (ρ.set i (some d)) T := (S.push r1).put (fun j z => by rw [z] at r1; exact r1.elim) hl (.inr fun x hx => nt x hx i (List.mem_cons_self ..))
      exact sim_names (fun x hx j hj => nt x hx j (List.mem_cons_of_mem _ hj)) (fun j hj => np j (List.mem_cons_of_mem _ hj)) S1 r2 e fun σ' q S' => h σ' (fun j hj => (q j hj).trans (setP (np i (List.mem_cons_self ..)) j hj)) S'
    · cases e
  | [], _ :: _, _, _, _, _, _, _, _, _, _, _, _, _, e, _ => by cases e
  | _ :: _, [], _, _, _, _, _, _, _, _, _, _, _, _, e, _ => by cases e
theorem vs_unp {es : List Expr} {is : List Nat} {k : Nat} {tp : Pos} (hc : X.calm = true) (he : VE X g W e m) (hg : PGs X es (gNames is)) (hp : ∀ i ∈ is, i ∉ P) (hn : (assignEach es X.env).length = is.length := by rfl) (hst : (assignEach es X.env).findIdx? (·.1) = none := by rfl)
    (hs : swapsWithSole [.Tuple es k tp] e pos.line X.env = pure false := by rfl) (hw : swappedStores [.Tuple es k tp] e X.env = pure none := by rfl) (h1 : (assignEach [.Tuple es k tp] X.env).map (·.2) = [assign (.Tuple es k tp) X.env] := by rfl) :
    VS X g W P (.Assign [.Tuple es k tp] e pos) (mUnp is m) := .mk (ps_asg he (pg_tup hc hg hn hst) hs hw h1) fun F B H σ ρ Dn fl ρ' S e p => by
  unfold mUnp bndS at e
  split at e
  · rename_i z ρ1 e1
    rcases bnd_some e1 with ⟨d0, ρ0, e2, e3⟩ | ⟨c, fs, e2, e3⟩
    · refine selfE F B H σ ρ [] _ (.ok d0) ρ0 S e2 PX.ok fun d1 hd F1 B1 H1 v x S1 => ?_
      cases hd
      obtain ⟨b, xs, ez, F2, B2, x2, S2, a, vs, rfl, r, q, hb⟩ := S1.items (K := X.K) e3
      cases ez
      dsimp only at e
      split at e
      · rename_i hb1
        split at e
        · rename_i ρ2 e4
          cases e
          have hb1 : b = true := hb1
          subst hb1
          have len : ∀ {is : List Nat} {ds : List D} {ρ ρ' : Env}, unpS is ds ρ = some ρ' → ds.length = is.length := by
            intro is
            induction is with
            | nil => intro ds ρ ρ' e; cases ds with
              | nil => rfl
              | cons _ _ => cases e
            | cons i is ih => intro ds ρ ρ' e; cases ds with
              | nil => cases e
              | cons d ds =>
                unfold unpS at e
                split at e
                · simp [ih e]
                · cases e
          refine ⟨a, vs, rfl, q, by rw [← r.length]; exact len e4, ?_⟩
          exact sim_names (fun x hx => by cases hx) hp S2 r e4 fun σ' hq S' => p.nx rfl F2 B2 H1 σ' (x.trans x2) hq S'
        · cases e
      · cases e
    · cases e3
  · rename_i c fs ρ1 e1
    cases e
    rcases bnd_some e1 with ⟨d0, ρ0, e2, e3⟩ | ⟨c, fs, e2, e3⟩
    · refine selfE F B H σ ρ [] _ (.ok d0) ρ0 S e2 PX.ok fun d1 hd F1 B1 H1 v x S1 => ?_
      cases hd
      obtain ⟨b, xs, ez, _⟩ := S1.items (K := X.K) e3
      cases ez
    · cases e3
      exact selfE F B H σ ρ [] _ (.exc c fs) _ S e2 p.px fun d hd => by cases hd
  · cases e
end
end SV
end
section
set_option Elab.async false
set_option linter.all false
set_option maxRecDepth 100000
set_option maxHeartbeats 4000000
namespace SV
open PySem PySem.Spec L2
/-! ### what is walked -/
/-- the iterator J gives the things ds, one after another -/
def JOk (g : Cn) (F0 B0 : Addr → Prop) (H0 : Hp) (J : It) (ds : List D) : Prop := ∀ (F B : Addr → Prop) (H : Hp) (σ : St) (ρ : Env) (T : Tm), Ext F0 B0 H0 F B H → Sat F B g H σ ρ T →
  (∀ i d, ds[i]? = some d → J.go i H ∧ ∀ x H', J.yld i H x H' → ∃ F' B', Ext F B H F' B' H' ∧ Sat F' B' g H' σ ρ T ∧ Rep F' g H' d x) ∧ J.stop ds.length H
section
variable (g : Cn) (W : WX)
def SimI (t : TI) (m : M (List D)) : Prop := ∀ (F B : Addr → Prop) (H : Hp) (σ : St) (ρ : Env) (T : Tm) (R : It → Hp → Prop) (r : Res (List D)) (ρ' : Env), Sat F B g H σ ρ T → m ρ = some (r, ρ') → PX g W σ T F B H ρ' r →
  (∀ ds, r = .ok ds → ∀ F' B' H' J, Ext F B H F' B' H' → Sat F' B' g H' σ ρ' T → JOk g F' B' H' J ds → R J H') → t σ H R
def TIof (m : M (List D)) : TI := fun σ H R => ∃ (F B : Addr → Prop) (ρ : Env) (T : Tm) (r : Res (List D)) (ρ' : Env), Sat F B g H σ ρ T ∧ m ρ = some (r, ρ') ∧ PX g W σ T F B H ρ' r ∧
  ∀ ds, r = .ok ds → ∀ F' B' H' J, Ext F B H F' B' H' → Sat F' B' g H' σ ρ' T → JOk g F' B' H' J ds → R J H'
/-- a target -/
def SimG (P : List Nat) (t : TG) (f : D → Env → Option Env) : Prop := ∀ (F B : Addr → Prop) (H : Hp) (σ : St) (ρ ρ' : Env) (T : Tm) (v : V) (d : D) (Q : St → Hp → Prop), (∀ x ∈ T, ∀ i, x.2 ≠ .sl i) → Sat F B g H σ ρ T → Rep F g H d v → f d ρ = some ρ' →
  (∀ σ', (σ'.length = σ.length ∧ ∀ j ∈ P, σ'[j]? = σ[j]?) → Sat F B g H σ' ρ' T → Q σ' H) → t v σ H Q
end
def VI (X : Cx) (g : Cn) (W : WX) (tg iter : Expr) (m : M (List D)) : Prop := PI X tg iter (TIof g W m)
theorem selfI {g : Cn} {W : WX} {m : M (List D)} : SimI g W (TIof g W m) m := fun F B H σ ρ T R r ρ' S e px h => ⟨F, B, ρ, T, r, ρ', S, e, px, h⟩
section
variable {X : Cx} {g : Cn} {W : WX} {P : List Nat} {F B F' B' : Addr → Prop} {H H' : Hp} {σ σ' : St} {ρ ρ' : Env} {T : Tm} {v : V} {d : D} {Dn : Ends} {fl : Fl}
theorem VI.mk {tg iter : Expr} {t : TI} {m : M (List D)} (h : PI X tg iter t) (s : SimI g W t m) : VI X g W tg iter m := ⟨fun pins st σ H R I ⟨F, B, ρ, T, r, ρ', S, e1, px, k⟩ => h.run pins st σ H R I (s F B H σ ρ T R r ρ' S e1 px k)⟩
/-- one of two kinds of iterables -/
theorem PI.or {tg iter : Expr} {t u : TI} (h : PI X tg iter t) (h' : PI X tg iter u) : PI X tg iter (fun σ H R => t σ H R ∨ u σ H R) := ⟨fun pins st σ H R I q => q.elim (h.run pins st σ H R I) (h'.run pins st σ H R I)⟩
/-- the things of a list or a tuple, all frozen: a slot's list is frozen from here on -/
def fSeq : D → M (Bool × List D) := fun d => bnd (fFrz d) fun x => match x with
  | .tup xs => ret (true, xs)
  | .lst xs => ret (false, xs)
  | .fz xs => ret (false, xs)
  | _ => stuck
/-- a list that is walked -/
def LAt (F : Addr → Prop) (g : Cn) (H : Hp) (a : Addr) (vs : List V) : Prop := (F a ∧ (H a = some (.lst vs) ∨ ∃ o, H a = some (.frz o (.lst vs)))) ∨ KL g.K a vs
theorem LAt.sql {F B F2 B2 : Addr → Prop} {g : Cn} {H H2 : Hp} {a : Addr} {vs : List V} (h : LAt F g H a vs) (fb : ∀ a, F a → B a) (x : Ext F B H F2 B2 H2) : SqL g.K H2 a vs := by
  rcases h with ⟨fa, h⟩ | h
  · have e : H2 a = H a := x.h a (fb a fa)
    rcases h with h | ⟨o, h⟩
    · exact .inl (.inl (by rw [e]; exact h))
    · exact .inl (.inr ⟨o, by rw [e]; exact h⟩)
  · exact .inr h
theorem Sat.fSeq {K : PySem.W.Frag} {z : Res (Bool × List D) × Env} (S : Sat F B g H σ ρ ((v, d) :: T)) (e : fSeq d ρ = some z) : ∃ b xs, z.1 = .ok (b, xs) ∧ ∃ F' B', Ext F B H F' B' H ∧ Sat F' B' g H σ z.2 T ∧ ∃ a vs, v = .ref a ∧ Reps F' g H xs vs ∧
    (if b = true then F' a ∧ H a = some (.tup vs) else LAt F' g H a vs) := by
  rcases bnd_some e with ⟨x, ρ1, e1, e2⟩ | ⟨c, fs, e1, e2⟩
  · obtain ⟨d', hd', F1, B1, x1, S1, r1⟩ := S.fFrz e1
    cases hd'
    split at e2
    · cases e2
      obtain ⟨a, vs, q1, q2, q3, q4⟩ := r1
      exact ⟨true, _, rfl, F1, B1, x1, S1.pop, a, vs, q1, q4, q2, q3⟩
    · cases e2
      obtain ⟨a, vs, q1, q2, q3, q4⟩ := r1
      exact ⟨false, _, rfl, F1, B1, x1, S1.pop, a, vs, q1, q4, .inl ⟨q2, .inl q3⟩⟩
    · cases e2
      obtain ⟨a, vs, q1, q3, q4⟩ := r1
      exact ⟨false, _, rfl, F1, B1, x1, S1.pop, a, vs, q1, q4, q3.imp (fun ⟨f, o, h⟩ => ⟨f, .inr ⟨o, h⟩⟩) id⟩
    · cases e2
  · obtain ⟨d', h⟩ := fFrz_ok e1
    cases h
def mIter (a : M D) : M (List D) := bnd a fun d => bnd (fSeq d) fun z => ret z.2
theorem jl {a : Addr} {vs : List V} {ds : List D} (r : Reps F g H ds vs) (h : LAt F g H a vs) (fb : ∀ a, F a → B a) : JOk g F B H (Itl g.K a) ds := fun F2 B2 H2 σ ρ T x S => by
  have hs : SqL g.K H2 a vs := h.sql fb x
  have r2 := Reps.mono (x.ag fb) _ _ r
  refine ⟨fun i d hd => ?_, ⟨vs, hs, by rw [r.length]; exact Nat.le_refl _⟩⟩
  obtain ⟨v, hv, rv⟩ := r2.get hd
  refine ⟨⟨vs, v, hs, hv⟩, fun y H' ⟨e1, hy⟩ => ?_⟩
  subst e1
  have ey := hy vs hs
  rw [hv] at ey
  cases ey
  exact ⟨F2, B2, Ext.refl, S, rv⟩
theorem jt {K : PySem.W.Frag} {a : Addr} {vs : List V} {ds : List D} (r : Reps F g H ds vs) (fa : F a) (h : H a = some (.tup vs)) (fb : ∀ a, F a → B a) : JOk g F B H (Itt K a) ds := fun F2 B2 H2 σ ρ T x S => by
  have e : H2 a = H a := x.h a (fb a fa)
  have hs : SqT K H2 a vs := .inl (.inl (by rw [e]; exact h))
  have r2 := Reps.mono (x.ag fb) _ _ r
  refine ⟨fun i d hd => ?_, ⟨vs, hs, by rw [r.length]; exact Nat.le_refl _⟩⟩
  obtain ⟨v, hv, rv⟩ := r2.get hd
  refine ⟨⟨vs, v, hs, hv⟩, fun y H' ⟨e1, hy⟩ => ?_⟩
  subst e1
  have ey := hy vs hs
  rw [hv] at ey
  cases ey
  exact ⟨F2, B2, Ext.refl, S, rv⟩
theorem sim_iter {K : PySem.W.Frag} {t : TE} {a : M D} (hK : g.K = K) (ha : SimE g W t a) : SimI g W (fun σ H R => iList K t σ H R ∨ iTup K t σ H R) (mIter a) := fun F B H σ ρ T R r ρ' S e px h => by
  subst hK
  unfold mIter at e
  rcases bnd_some e with ⟨d, ρ1, e1, e2⟩ | ⟨c, fs, e1, e2⟩
  · rcases bnd_some e2 with ⟨z, ρ2, e3, e4⟩ | ⟨c, fs, e3, e4⟩
    · cases e4
      obtain ⟨b, xs⟩ := z
      cases b with
      | true =>
        refine .inr (ha F B H σ ρ T _ (.ok d) ρ1 S e1 PX.ok fun d' hd F1 B1 H1 v x1 S1 => ?_)
        cases hd
        obtain ⟨b, ys, ez, F2, B2, x2, S2, a, vs, rfl, r2, q⟩ := S1.fSeq (K := g.K) e3
        cases ez
        obtain ⟨fa, q⟩ := q
        exact ⟨a, rfl, ⟨vs, .inl (.inl q)⟩, h _ rfl F2 B2 H1 _ (x1.trans x2) S2 (jt r2 fa q S2.fb)⟩
      | false =>
        refine .inl (ha F B H σ ρ T _ (.ok d) ρ1 S e1 PX.ok fun d' hd F1 B1 H1 v x1 S1 => ?_)
        cases hd
        obtain ⟨b, ys, ez, F2, B2, x2, S2, a, vs, rfl, r2, q⟩ := S1.fSeq (K := g.K) e3
        cases ez
        exact ⟨a, rfl, ⟨vs, LAt.sql q S2.fb Ext.refl⟩, h _ rfl F2 B2 H1 _ (x1.trans x2) S2 (jl r2 q S2.fb)⟩
    · refine .inl (ha F B H σ ρ T _ (.ok d) ρ1 S e1 PX.ok fun d' hd F1 B1 H1 v x1 S1 => ?_)
      cases hd
      obtain ⟨b, ys, ez, _⟩ := S1.fSeq (K := g.K) e3
      cases ez
  · cases r with
    | ok d => cases e2
    | exc c' fs' =>
      cases e2
      exact .inl (ha F B H σ ρ T _ (.exc c fs) _ S e1 px.cast fun d' hd => by cases hd)
theorem vi_seq {tg e : Expr} {m : M D} (hK : g.K = X.K) (he : VE X g W e m) : VI X g W tg e (mIter m) := .mk (PI.or (pi_list he) (pi_tup he)) (sim_iter hK selfE)
/-! ### range -/
def upTo (lo : Int) (n : Nat) : List D := (List.range n).map fun (i : Nat) => D.int (lo + i)
theorem upTo_length (lo : Int) (n : Nat) : (upTo lo n).length = n := by simp [upTo]
theorem upTo_get {lo : Int} {n i : Nat} {d : D} (h : (upTo lo n)[i]? = some d) : i < n ∧ d = .int (lo + i) := by
  have hl : i < n := by
    have := (List.getElem?_eq_some_iff.mp h).1
    simpa [upTo] using this
  refine ⟨hl, ?_⟩
  simp [upTo, hl] at h
  exact h.symm
theorem jr {lo : Int} {n : Nat} : JOk g F B H (Itr lo n) (upTo lo n) := fun F2 B2 H2 σ ρ T x S => by
  refine ⟨fun i d hd => ?_, by rw [upTo_length]; exact Nat.le_refl _⟩
  obtain ⟨hl, rfl⟩ := upTo_get hd
  exact ⟨hl, fun y H' ⟨e1, e2⟩ => by subst e1; exact ⟨F2, B2, Ext.refl, S, e2⟩⟩
def okR (j : Int) : Bool := decide (-(2 ^ 62) ≤ j) && decide (j < 2 ^ 62)
theorem okR_ok {j : Int} (h : okR j = true) : -(2 ^ 62) ≤ j ∧ j < 2 ^ 62 := by simpa [okR] using h
def fRng1 : List D → M (List D)
  | [.int j] => if okR j = true then ret (upTo 0 j.toNat) else stuck
  | _ => stuck
def fRng2 : List D → M (List D)
  | [.int i, .int j] => if okR i = true ∧ okR j = true then ret (upTo i (j - i).toNat) else stuck
  | _ => stuck
theorem sim_rng1 {t : TA} {a : M (List D)} (ha : SimA g W t a) : SimI g W (iRng1 t) (bnd a fRng1) := fun F B H σ ρ T R r ρ' S e px h => by
  refine ha.bind S e px fun ds ρ1 F1 B1 H1 vs e1 x1 l S1 => ?_
  unfold fRng1 at e1
  split at e1
  · rename_i j
    split at e1
    · rename_i hj
      cases e1
      obtain ⟨u, rfl⟩ : ∃ u, vs = [u] := List.length_eq_one_iff.mp l
      obtain ⟨_, ru⟩ := S1.top
      cases rt_int ru
      obtain ⟨q1, q2⟩ := okR_ok hj
      exact ⟨j, rfl, q1, q2, h _ rfl F1 B1 H1 _ x1 S1.pop jr⟩
    · cases e1
  · cases e1
theorem sim_rng2 {t : TA} {a : M (List D)} (ha : SimA g W t a) : SimI g W (iRng2 t) (bnd a fRng2) := fun F B H σ ρ T R r ρ' S e px h => by
  refine ha.bind S e px fun ds ρ1 F1 B1 H1 vs e1 x1 l S1 => ?_
  unfold fRng2 at e1
  split at e1
  · rename_i i j
    split at e1
    · rename_i hj
      cases e1
      obtain ⟨u, w, rfl⟩ : ∃ u w, vs = [u, w] := by
        match vs, l with
        | [x, y], _ => exact ⟨x, y, rfl⟩
      obtain ⟨_, ru⟩ := S1.top
      obtain ⟨_, rw'⟩ := S1.pop.top
      cases rt_int ru
      cases rt_int rw'
      obtain ⟨q1, q2⟩ := okR_ok hj.1
      obtain ⟨q3, q4⟩ := okR_ok hj.2
      exact ⟨i, j, rfl, ⟨q1, q2, q3, q4⟩, h _ rfl F1 B1 H1 _ x1 S1.pop.pop jr⟩
    · cases e1
  · cases e1
theorem vi_rng1 {tg a : Expr} {m : M (List D)} {p pos : Pos} (hg : Gl X "range") (hm : X.mg "range" = none) (ha : VA X g W [a] m) (hs : starEach [a] X.env = [(false, eval a X.env)] := by rfl) : VI X g W tg (.Call (.Name "range" p) [a] [] pos) (bnd m fRng1) := .mk (pi_range1 hg hm ha hs) (sim_rng1 selfA)
theorem vi_rng2 {tg a b : Expr} {m : M (List D)} {p pos : Pos} (hg : Gl X "range") (hm : X.mg "range" = none) (ha : VA X g W [a, b] m) (hs : starEach [a, b] X.env = [(false, eval a X.env), (false, eval b X.env)] := by rfl) (hs2 : starEach [b] X.env = [(false, eval b X.env)] := by rfl) : VI X g W tg (.Call (.Name "range" p) [a, b] [] pos) (bnd m fRng2) := .mk (pi_range2 hg hm ha hs hs2) (sim_rng2 selfA)
/-! ### targets -/
def tgN (i : Nat) : D → Env → Option Env := fun d ρ => if i < ρ.length then some (ρ.set i (some d)) else none
def tgT (fs : List (D → Env → Option Env)) : D → Env → Option Env := fun d ρ => match d with
  | .tup xs => tgs fs xs ρ
  | _ => none
where tgs : List (D → Env → Option Env) → List D → Env → Option Env
  | [], [], ρ => some ρ
  | f :: fs, d :: ds, ρ => (match f d ρ with
    | some ρ1 => tgs fs ds ρ1
    | none => none)
  | _, _, _ => none
theorem sim_tgN {i : Nat} (hi : i ∉ P) : SimG g P (gName i) (tgN i) := fun F B H σ ρ ρ' T v d Q nt S r e h => by
  unfold tgN at e
  split at e
  · rename_i hl
    cases e
    exact h _ ⟨List.length_set .., setP hi⟩ ((S.push r).put (fun j z => by rw [z] at r; exact r.elim) hl (.inr fun x hx => nt x hx i))
  · cases e
def SimGs (g : Cn) (P : List Nat) (t : TGs) (fs : List (D → Env → Option Env)) : Prop := ∀ (F B : Addr → Prop) (H : Hp) (σ : St) (ρ ρ' : Env) (T : Tm) (vs : List V) (ds : List D) (Q : St → Hp → Prop), (∀ x ∈ T, ∀ i, x.2 ≠ .sl i) → Sat F B g H σ ρ T → Reps F g H ds vs → tgT.tgs fs ds ρ = some ρ' →
  (∀ σ', (σ'.length = σ.length ∧ ∀ j ∈ P, σ'[j]? = σ[j]?) → Sat F B g H σ' ρ' T → Q σ' H) → t vs σ H Q
theorem sim_gnil : SimGs g P gNil [] := fun F B H σ ρ ρ' T vs ds Q nt S r e h => by
  cases ds with
  | nil => cases e; exact ⟨r, h σ ⟨rfl, fun _ _ => rfl⟩ S⟩
  | cons _ _ => cases e
theorem sim_gcons {t : TG} {f : D → Env → Option Env} {u : TGs} {fs : List (D → Env → Option Env)} (ht : SimG g P t f) (hu : SimGs g P u fs) : SimGs g P (gCons t u) (f :: fs) := fun F B H σ ρ ρ' T vs ds Q nt S r e h => by
  cases ds with
  | nil => cases e
  | cons d ds =>
    obtain ⟨v, vs', rfl, r1, r2⟩ := r
    have e : (match f d ρ with
      | some ρ1 => tgT.tgs fs ds ρ1
      | none => none) = some ρ' := e
    split at e
    · rename_i ρ1 e1
      refine ⟨v, vs', rfl, ?_⟩
      exact ht F B H σ ρ ρ1 T v d _ nt S r1 e1 fun σ1 q1 S1 => hu F B H σ1 ρ1 ρ' T vs' ds Q nt S1 r2 e fun σ2 q2 S2 => h σ2 ⟨q2.1.trans q1.1, fun j hj => (q2.2 j hj).trans (q1.2 j hj)⟩ S2
    · cases e
theorem tgs_len : ∀ {fs : List (D → Env → Option Env)} {ds : List D} {ρ ρ' : Env}, tgT.tgs fs ds ρ = some ρ' → ds.length = fs.length
  | [], [], _, _, _ => rfl
  | [], _ :: _, _, _, e => by cases e
  | _ :: _, [], _, _, e => by cases e
  | f :: fs, d :: ds, ρ, ρ', e => by
    have e : (match f d ρ with
      | some ρ1 => tgT.tgs fs ds ρ1
      | none => none) = some ρ' := e
    split at e
    · simp [tgs_len e]
    · cases e
theorem sim_tgT {K : PySem.W.Frag} {t : TGs} {fs : List (D → Env → Option Env)} {n : Nat} (ht : SimGs g P t fs) (hn : fs.length = n) : SimG g P (gTup K n t) (tgT fs) := fun F B H σ ρ ρ' T v d Q nt S r e h => by
  unfold tgT at e
  split at e
  · obtain ⟨a, vs, rfl, fa, q, r2⟩ := r
    exact ⟨a, vs, rfl, .inl (.inl q), by rw [← r2.length, tgs_len e, hn], ht F B H σ ρ ρ' T vs _ Q nt S r2 e h⟩
  · cases e
/-- a target of a for, with what it does -/
def TGof (g : Cn) (P : List Nat) (f : D → Env → Option Env) : TG := fun v σ H Q => ∃ (F B : Addr → Prop) (ρ ρ' : Env) (T : Tm) (d : D), (∀ x ∈ T, ∀ i, x.2 ≠ .sl i) ∧ Sat F B g H σ ρ T ∧ Rep F g H d v ∧ f d ρ = some ρ' ∧ ∀ σ', (σ'.length = σ.length ∧ ∀ j ∈ P, σ'[j]? = σ[j]?) → Sat F B g H σ' ρ' T → Q σ' H
def TGsof (g : Cn) (P : List Nat) (fs : List (D → Env → Option Env)) : TGs := fun vs σ H Q => ∃ (F B : Addr → Prop) (ρ ρ' : Env) (T : Tm) (ds : List D), (∀ x ∈ T, ∀ i, x.2 ≠ .sl i) ∧ Sat F B g H σ ρ T ∧ Reps F g H ds vs ∧ tgT.tgs fs ds ρ = some ρ' ∧ ∀ σ', (σ'.length = σ.length ∧ ∀ j ∈ P, σ'[j]? = σ[j]?) → Sat F B g H σ' ρ' T → Q σ' H
theorem selfG {f : D → Env → Option Env} : SimG g P (TGof g P f) f := fun F B H σ ρ ρ' T v d Q nt S r e h => ⟨F, B, ρ, ρ', T, d, nt, S, r, e, h⟩
theorem selfGs {fs : List (D → Env → Option Env)} : SimGs g P (TGsof g P fs) fs := fun F B H σ ρ ρ' T vs ds Q nt S r e h => ⟨F, B, ρ, ρ', T, ds, nt, S, r, e, h⟩
def VG (X : Cx) (g : Cn) (P : List Nat) (tg : Expr) (f : D → Env → Option Env) : Prop := PG X tg (TGof g P f)
def VGs (X : Cx) (g : Cn) (P : List Nat) (tgs : List Expr) (fs : List (D → Env → Option Env)) : Prop := PGs X tgs (TGsof g P fs)
theorem VG.mk {tg : Expr} {t : TG} {f : D → Env → Option Env} (h : PG X tg t) (s : SimG g P t f) : VG X g P tg f := ⟨fun pins st σ H v u Q I r ⟨F, B, ρ, ρ', T, d, nt, S, rp, e, k⟩ => h.run pins st σ H v u Q I r (s F B H σ ρ ρ' T v d Q nt S rp e k)⟩
theorem VGs.mk {tg : List Expr} {t : TGs} {f : List (D → Env → Option Env)} (h : PGs X tg t) (s : SimGs g P t f) : VGs X g P tg f := ⟨fun pins st σ H v u Q I r ⟨F, B, ρ, ρ', T, d, nt, S, rp, e, k⟩ => h.run pins st σ H v u Q I r (s F B H σ ρ ρ' T v d Q nt S rp e k)⟩
theorem vg_nm {i : Nat} {x : Str} {pos : Pos} (hN : X.N.Nodup) (hi : X.N[i]? = some x) (hx : Loc X.env.scope x) (hp : i ∉ P) (hf : X.fn x = true ∨ X.env.scope.names.lookup x = some .local := by first | exact .inl rfl | exact .inr rfl | assumption) : VG X g P (.Name x pos) (tgN i) := .mk (pg_name hN hi hx hf) (sim_tgN hp)
theorem vgs_nil : VGs X g P [] [] := .mk pgs_nil sim_gnil
theorem vgs_cons {e : Expr} {es : List Expr} {f : D → Env → Option Env} {fs : List (D → Env → Option Env)} (h : VG X g P e f) (h2 : VGs X g P es fs) (hs : (assignEach (e :: es) X.env).map (·.2) = assign e X.env :: (assignEach es X.env).map (·.2) := by rfl) : VGs X g P (e :: es) (f :: fs) := .mk (pgs_cons h h2 hs) (sim_gcons selfG selfGs)
theorem vg_tp {es : List Expr} {fs : List (D → Env → Option Env)} {k : Nat} {pos : Pos} (hc : X.calm = true) (h : VGs X g P es fs) (hn : (assignEach es X.env).length = fs.length := by rfl) (hst : (assignEach es X.env).findIdx? (·.1) = none := by rfl) : VG X g P (.Tuple es k pos) (tgT fs) := .mk (pg_tup hc h hn hst) (sim_tgT selfGs rfl)
/-! ### for -/
def forL (f : D → Env → Option Env) (body : SM) : List D → SM
  | [], ρ => some (.nx, ρ)
  | d :: ds, ρ => (match f d ρ with
    | some ρ1 => (match body ρ1 with
      | some (.nx, ρ2) => forL f body ds ρ2
      | some (.ct, ρ2) => forL f body ds ρ2
      | some (.brk, ρ2) => some (.nx, ρ2)
      | some (.ret d, ρ2) => some (.ret d, ρ2)
      | some (.exc c fs, ρ2) => some (.exc c fs, ρ2)
      | none => none)
    | none => none)
def mFor (m : M (List D)) (f : D → Env → Option Env) (body : SM) : SM := bndS m fun ds => forL f body ds
theorem sim_for {wi : TI} {gt : TG} {tb : TS} {m : M (List D)} {f : D → Env → Option Env} {body : SM} (hi : SimI g W wi m) (hg : SimG g P gt f) (hb : SimS g W P tb body) : SimS g W P (tFor wi gt tb) (mFor m f body) := fun F B H σ ρ Dn fl ρ' S e p => by
  unfold mFor bndS at e
  split at e
  · rename_i ds ρ1 e1
    refine hi F B H σ ρ [] _ (.ok ds) ρ1 S e1 PX.ok fun ds' hd F1 B1 H1 J x1 S1 jo => ?_
    cases hd
    refine ⟨fun i n σ2 H2 => ∃ F2 B2 ρ2, Ext F1 B1 H1 F2 B2 H2 ∧ (∀ j ∈ P, σ2[j]? = σ[j]?) ∧ Sat F2 B2 g H2 σ2 ρ2 [] ∧ i ≤ ds.length ∧ n = ds.length - i ∧ forL f body (ds.drop i) ρ2 = some (fl, ρ'), ⟨ds.length, F1, B1, ρ1, Ext.refl, fun _ _ => rfl, S1, Nat.zero_le _, rfl, e⟩, ?_⟩
    rintro i n σ2 H2 ⟨F2, B2, ρ2, x2, q2, S2, hi, rfl, e2⟩
    obtain ⟨j1, j2⟩ := jo F2 B2 H2 σ2 ρ2 [] x2 S2
    by_cases hlt : i < ds.length
    · obtain ⟨hgo, hy⟩ := j1 i ds[i] (by simp [hlt])
      refine .inr ⟨hgo, _, fun σ' H' h => ⟨ds.length - (i + 1), by omega, h⟩, fun x H' yx => ?_⟩
      obtain ⟨F3, B3, x3, S3, r3⟩ := hy x H' yx
      rw [List.drop_eq_getElem_cons hlt] at e2
      unfold forL at e2
      split at e2
      · rename_i ρ3 e3
        refine hg F3 B3 H' σ2 ρ2 ρ3 [] x ds[i] _ (fun x hx => by cases hx) S3 r3 e3 fun σ3 q3 S4 => ?_
        have q23 : ∀ j ∈ P, σ3[j]? = σ[j]? := fun j hj => (q3.2 j hj).trans (q2 j hj)
        have p3 := p.shift ((x1.trans x2).trans x3) q23
        split at e2
        · rename_i ρ4 e4
          exact hb F3 B3 H' σ3 ρ3 _ .nx ρ4 S4 e4 ⟨fun _ F5 B5 H5 σ5 x5 q5 S5 => ⟨F5, B5, ρ4, (x2.trans x3).trans x5, fun j hj => (q5 j hj).trans (q23 j hj), S5, hlt, rfl, e2⟩, fun h => (by cases h), fun h => (by cases h), fun d h => (by cases h), fun c fs h => (by cases h)⟩
        · rename_i ρ4 e4
          exact hb F3 B3 H' σ3 ρ3 _ .ct ρ4 S4 e4 ⟨fun h => (by cases h), fun h => (by cases h), fun _ F5 B5 H5 σ5 x5 q5 S5 => ⟨F5, B5, ρ4, (x2.trans x3).trans x5, fun j hj => (q5 j hj).trans (q23 j hj), S5, hlt, rfl, e2⟩, fun d h => (by cases h), fun c fs h => (by cases h)⟩
        · rename_i ρ4 e4
          cases e2
          exact hb F3 B3 H' σ3 ρ3 _ .brk _ S4 e4 ⟨fun h => (by cases h), fun _ => p3.nx rfl, fun h => (by cases h), fun d h => (by cases h), fun c fs h => (by cases h)⟩
        · rename_i d ρ4 e4
          cases e2
          exact hb F3 B3 H' σ3 ρ3 _ (.ret d) _ S4 e4 ⟨fun h => (by cases h), fun h => (by cases h), fun h => (by cases h), p3.rt, fun c fs h => (by cases h)⟩
        · rename_i c fs ρ4 e4
          cases e2
          exact hb F3 B3 H' σ3 ρ3 _ (.exc c fs) _ S4 e4 ⟨fun h => (by cases h), fun h => (by cases h), fun h => (by cases h), fun d h => (by cases h), p3.xc⟩
        · cases e2
      · cases e2
    · have ei : i = ds.length := by omega
      subst ei
      rw [List.drop_length] at e2
      cases e2
      exact .inl ⟨j2, p.nx rfl F2 B2 H2 σ2 (x1.trans x2) q2 S2⟩
  · rename_i c fs ρ1 e1
    cases e
    exact hi F B H σ ρ [] _ (.exc c fs) _ S e1 p.px fun d hd => by cases hd
  · cases e
theorem vs_for {tg iter : Expr} {body : List Stmt} {m : M (List D)} {f : D → Env → Option Env} {mb : SM} {pos : Pos} (hp : PassesOwn (model X.prog X.w) X.A X.env X.xe) (hc : X.calm = true) (hi : VI X g W tg iter m) (hg : VG X g P tg f) (hb : VSs X g W P body mb)
    (hs : ∀ x, foldedSetIterable iter X.env x = pure x := by intro _; rfl) : VS X g W P (.For tg iter body [] pos) (mFor m f mb) := .mk (ps_for hp hc hi hg hb hs) (sim_for selfI selfG selfS)
/-! ### while -/
def whL (c : M Bool) (body : SM) : Nat → SM
  | 0 => stuckS
  | n + 1 => bndS c fun k => if k = true then (fun ρ => match body ρ with
      | some (.nx, ρ2) => whL c body n ρ2
      | some (.ct, ρ2) => whL c body n ρ2
      | some (.brk, ρ2) => some (.nx, ρ2)
      | some (.ret d, ρ2) => some (.ret d, ρ2)
      | some (.exc c fs, ρ2) => some (.exc c fs, ρ2)
      | none => none) else endS .nx
theorem sim_while {tc : TT} {tb : TS} {c : M Bool} {body : SM} (n : Nat) (hc : SimT g W tc c) (hb : SimS g W P tb body) : SimS g W P (tWhile tc tb) (whL c body n) := fun F B H σ ρ Dn fl ρ' S e p => by
  refine ⟨fun k σ2 H2 => ∃ F2 B2 ρ2, Ext F B H F2 B2 H2 ∧ (∀ j ∈ P, σ2[j]? = σ[j]?) ∧ Sat F2 B2 g H2 σ2 ρ2 [] ∧ whL c body k ρ2 = some (fl, ρ'), ⟨n, F, B, ρ, Ext.refl, fun _ _ => rfl, S, e⟩, ?_⟩
  rintro k σ2 H2 ⟨F2, B2, ρ2, x2, q2, S2, e2⟩
  have p2 := p.shift x2 q2
  cases k with
  | zero => cases e2
  | succ k =>
    unfold whL at e2
    refine hc.bindS S2 e2 p2 fun b ρ3 F3 B3 H3 e3 x3 S3 => ?_
    have p3 := p2.shiftE x3
    cases b with
    | false =>
      cases e3
      rw [if_neg Bool.false_ne_true]
      exact p3.nx rfl F3 B3 H3 σ2 Ext.refl (fun _ _ => rfl) S3
    | true =>
      rw [if_pos rfl] at e3 ⊢
      refine ⟨_, fun σ' H' h => ⟨k, Nat.lt_succ_self k, h⟩, ?_⟩
      split at e3
      · rename_i ρ4 e4
        exact hb F3 B3 H3 σ2 ρ3 _ .nx ρ4 S3 e4 ⟨fun _ F5 B5 H5 σ5 x5 q5 S5 => ⟨F5, B5, ρ4, (x2.trans x3).trans x5, fun j hj => (q5 j hj).trans (q2 j hj), S5, e3⟩, fun h => (by cases h), fun h => (by cases h), fun d h => (by cases h), fun c fs h => (by cases h)⟩
      · rename_i ρ4 e4
        exact hb F3 B3 H3 σ2 ρ3 _ .ct ρ4 S3 e4 ⟨fun h => (by cases h), fun h => (by cases h), fun _ F5 B5 H5 σ5 x5 q5 S5 => ⟨F5, B5, ρ4, (x2.trans x3).trans x5, fun j hj => (q5 j hj).trans (q2 j hj), S5, e3⟩, fun d h => (by cases h), fun c fs h => (by cases h)⟩
      · rename_i ρ4 e4
        cases e3
        exact hb F3 B3 H3 σ2 ρ3 _ .brk _ S3 e4 ⟨fun h => (by cases h), fun _ => p3.nx rfl, fun h => (by cases h), fun d h => (by cases h), fun c fs h => (by cases h)⟩
      · rename_i d ρ4 e4
        cases e3
        exact hb F3 B3 H3 σ2 ρ3 _ (.ret d) _ S3 e4 ⟨fun h => (by cases h), fun h => (by cases h), fun h => (by cases h), p3.rt, fun c fs h => (by cases h)⟩
      · rename_i c fs ρ4 e4
        cases e3
        exact hb F3 B3 H3 σ2 ρ3 _ (.exc c fs) _ S3 e4 ⟨fun h => (by cases h), fun h => (by cases h), fun h => (by cases h), fun d h => (by cases h), p3.xc⟩
      · cases e3
theorem vs_while {c : Expr} {body : List Stmt} {mc : M Bool} {mb : SM} {pos : Pos} (n : Nat) (hp : PassesOwn (model X.prog X.w) X.A X.env X.xe) (hc : VT X g W c mc) (hb : VSs X g W P body mb) : VS X g W P (.While c body [] pos) (whL mc mb n) := .mk (ps_while hp hc hb) (sim_while n selfT selfS)
end
end SV
end
section
set_option Elab.async false
set_option linter.all false
set_option maxRecDepth 100000
set_option maxHeartbeats 4000000
namespace SV
open PySem PySem.Spec L2
/-! ### defs -/
def cn (mg : Str → Option Value) (K : PySem.W.Frag) : Cn := ⟨mg, 0, .none, none, K⟩
/-- what a def reckons: from the arguments what it hands back and what the things lent to it have become -/
abbrev FM := List D → Option (Res D × List D)
/-- the values, the things at the places of io -/
def sel {α : Type} : List Bool → List α → List α
  | true :: io, v :: vs => v :: sel io vs
  | false :: io, _ :: vs => sel io vs
  | _, _ => []
def spV (g : Cn) (io : List Bool) (f : FM) : Sp := fun vs H Q E => ∃ (F B : Addr → Prop) (ds : List D) (r : Res D) (cs : List D), vs.length = io.length ∧ ds.length = io.length ∧ (∀ d ∈ ds, ∀ i, d ≠ .sl i) ∧ Sat F B g H [] [] (vs.zip ds) ∧ f ds = some (r, cs) ∧
  (∀ d, r = .ok d → ∀ F' B' H' v, Ext F B H F' B' H' → cs.length = (sel io vs).length → (∀ x ∈ cs, ∀ i, x ≠ .sl i) → Sat F' B' g H' [] [] ((v, d) :: (sel io vs).zip cs) → Q v H') ∧
  (∀ c fs, r = .exc c fs → ∀ F' B' H' cls dx, Ext F B H F' B' H' → cs.length = (sel io vs).length → (∀ x ∈ cs, ∀ i, x ≠ .sl i) → Sat F' B' g H' [] [] ((sel io vs).zip cs) → ExcAt F' g H' cls dx c fs → E cls dx H')
theorem spV_len {g : Cn} {io : List Bool} {f : FM} {vs : List V} {H : Hp} {Q : VK} {E : XK} {n : Nat} (hn : io.length = n) (h : spV g io f vs H Q E) : vs.length = n := by
  obtain ⟨F, B, ds, r, cs, h1, h2, _⟩ := h
  rw [h1, hn]
/-- the things in the slots that were lent -/
def ioGet : List Bool → Env → Option (List D)
  | [], _ => some []
  | true :: io, some d :: ρ => if d.isX = true then none else (match ioGet io ρ with
    | some cs => some (d :: cs)
    | none => none)
  | false :: io, _ :: ρ => ioGet io ρ
  | _, _ => none
def ioP : Nat → List Bool → List Nat
  | _, [] => []
  | i, true :: io => i :: ioP (i + 1) io
  | i, false :: io => ioP (i + 1) io
def startE (n : Nat) (ds : List D) : Env := ds.map some ++ List.replicate (n - ds.length) none
def funM (n : Nat) (io : List Bool) (body : SM) : FM := fun ds => match body (startE n ds) with
  | some (.ret d, ρ) => (match ioGet io ρ with
    | some cs => some (.ok d, cs)
    | none => none)
  | some (.nx, ρ) => (match ioGet io ρ with
    | some cs => some (.ok .non, cs)
    | none => none)
  | some (.exc c fs, ρ) => (match ioGet io ρ with
    | some cs => some (.exc c fs, cs)
    | none => none)
  | _ => none
section
variable {F B F' B' : Addr → Prop} {g : Cn} {H H' : Hp} {σ σ' : St} {ρ ρ' : Env} {T : Tm} {v : V} {d : D}
theorem RS.nones : ∀ (n : Nat), RS F g H (List.replicate n none) (List.replicate n none) []
  | 0 => rfl
  | n + 1 => RS.nones n
/-- the arguments come into the slots -/
theorem RS.start : ∀ {ds : List D} {vs : List V} {f : List Addr} (k : Nat), RepOs F g H ds vs f → RS F g H (vs.map some ++ List.replicate k none) (ds.map some ++ List.replicate k none) f
  | [], vs, f, k, h => by rw [h.1, h.2]; exact RS.nones k
  | d :: ds, _, _, k, ⟨v, vs, f1, f2, e1, e2, h1, h2⟩ => by
    subst e1 e2
    exact ⟨v, f1, f2, rfl, rfl, RX.of h1, RS.start k h2⟩
theorem Sat.enter {vs : List V} {ds : List D} (n : Nat) (l : vs.length = ds.length) (ns : ∀ d ∈ ds, ∀ i, d ≠ .sl i) (S : Sat F B g H [] [] (vs.zip ds)) : Sat F B g H (vs.map some ++ List.replicate (n - vs.length) none) (startE n ds) [] := by
  obtain ⟨⟨o1, o2, h1, h2, nd, nb⟩, fb, bt⟩ := S
  have h1 : o1 = [] := h1
  subst h1
  refine ⟨⟨o2, [], ?_, rfl, by simpa using nd, fun a ha => nb a (by simpa using ha)⟩, fb, bt⟩
  unfold startE
  rw [← l]
  exact RS.start _ (RTs.repOs l ns h2)
/-- a slot's values of what was lent -/
theorem RS.ioGet : ∀ {io : List Bool} {σ : St} {ρ : Env} {o : List Addr} {cs : List D} {vs : List V} {i : Nat}, RS F g H σ ρ o → ioGet io ρ = some cs → vs.length = io.length → (∀ j ∈ ioP i io, ∀ k, j = i + k → σ[k]? = (vs[k]?).map some) →
    cs.length = (sel io vs).length ∧ (∀ x ∈ cs, ∀ i, x ≠ .sl i) ∧ ∃ o1, o1.Sublist o ∧ RepOs F g H cs (sel io vs) o1
  | [], σ, ρ, o, cs, vs, i, h, e, l, hj => by
    cases e
    have hv : vs = [] := List.length_eq_zero_iff.mp l
    subst hv
    exact ⟨rfl, by simp, [], List.nil_sublist _, rfl, rfl⟩
  | _ :: _, _, _, _, _, [], _, _, _, l, _ => by simp at l
  | false :: io, [], [], o, cs, v :: vs, i, h, e, l, hj => by cases e
  | false :: io, [], _ :: _, o, cs, v :: vs, i, h, e, l, hj => h.elim
  | false :: io, _ :: _, [], o, cs, v :: vs, i, h, e, l, hj => h.elim
  | true :: io, [], [], o, cs, v :: vs, i, h, e, l, hj => by cases e
  | true :: io, [], _ :: _, o, cs, v :: vs, i, h, e, l, hj => h.elim
  | true :: io, _ :: _, [], o, cs, v :: vs, i, h, e, l, hj => h.elim
  | true :: io, _ :: _, none :: _, o, cs, v :: vs, i, h, e, l, hj => by cases e
  | false :: io, x :: σ, y :: ρ, o, cs, v :: vs, i, h, e, l, hj => by
    have e' : SV.ioGet io ρ = some cs := e
    have hj' : ∀ j ∈ ioP (i + 1) io, ∀ k, j = (i + 1) + k → σ[k]? = (vs[k]?).map some := fun j hj1 k ek => by
      have := hj j hj1 (k + 1) (by omega)
      simpa using this
    have l' : vs.length = io.length := by simpa using l
    cases y with
    | none =>
      obtain ⟨a1, a2, o1, a3, a4⟩ := RS.ioGet (show RS F g H σ ρ o from h) e' l' hj'
      exact ⟨a1, a2, o1, a3, a4⟩
    | some d =>
      obtain ⟨u, f1, f2, _, eo, _, h2⟩ := h
      obtain ⟨a1, a2, o1, a3, a4⟩ := RS.ioGet h2 e' l' hj'
      exact ⟨a1, a2, o1, by rw [eo]; exact a3.trans (List.sublist_append_right _ _), a4⟩
  | true :: io, x :: σ, some d :: ρ, o, cs, v :: vs, i, h, e, l, hj => by
    have e' : (if d.isX = true then none else (match SV.ioGet io ρ with
      | some cs => some (d :: cs)
      | none => none)) = some cs := e
    split at e'
    · cases e'
    · rename_i nx
      split at e'
      · rename_i cs' e2
        cases e'
        obtain ⟨u, f1, f2, ex, eo, h1, h2⟩ := h
        have h1 := h1.own (by simpa using nx)
        have hj' : ∀ j ∈ ioP (i + 1) io, ∀ k, j = (i + 1) + k → σ[k]? = (vs[k]?).map some := fun j hj1 k ek => by
          have := hj j (List.mem_cons_of_mem _ hj1) (k + 1) (by omega)
          simpa using this
        obtain ⟨a1, a2, o1, a3, a4⟩ := RS.ioGet h2 e2 (by simpa using l) hj'
        have h0 := hj i (List.mem_cons_self ..) 0 rfl
        rw [ex] at h0
        have hu : u = v := by simpa using h0
        subst hu
        refine ⟨by simp [sel, a1], fun y hy => ?_, f1 ++ o1, by rw [eo]; exact List.Sublist.append_left a3 f1, u, _, f1, o1, rfl, rfl, h1, a4⟩
        rcases List.mem_cons.mp hy with rfl | hy
        · intro j z; rw [z] at h1; exact h1.elim
        · exact a2 y hy
      · cases e'
theorem Sat.leave {io : List Bool} {cs : List D} {vs : List V} (S : Sat F B g H σ ρ T) (e : SV.ioGet io ρ = some cs) (l : vs.length = io.length) (hj : ∀ j ∈ ioP 0 io, σ[j]? = (vs[j]?).map some) (ns : ∀ x ∈ T, ∀ i, x.2 ≠ .sl i) :
    cs.length = (sel io vs).length ∧ (∀ x ∈ cs, ∀ i, x ≠ .sl i) ∧ Sat F B g H [] [] (T ++ (sel io vs).zip cs) := by
  obtain ⟨⟨o1, o2, h1, h2, nd, nb⟩, fb, bt⟩ := S
  obtain ⟨a1, a2, p1, a3, a4⟩ := h1.ioGet (i := 0) e l fun j hj1 k ek => by
    have z : j = k := by simpa using ek
    subst z
    exact hj j hj1
  have tt : ∀ {T : Tm} {o : List Addr}, (∀ x ∈ T, ∀ i, x.2 ≠ .sl i) → RTs F g H σ T o → RTs F g H [] T o := by
    intro T
    induction T with
    | nil => exact fun _ h => h
    | cons x T ih => exact fun ns ⟨f1, f2, e, h1, h2⟩ => ⟨f1, f2, e, RT.of (h1.own (ns x (List.mem_cons_self ..))), ih (fun y hy => ns y (List.mem_cons_of_mem _ hy)) h2⟩
  have hd := List.nodup_append.mp nd
  refine ⟨a1, a2, ⟨[], o2 ++ p1, rfl, (tt ns h2).append a4.rts, ?_, fun a ha => ?_⟩, fb, bt⟩
  · show (o2 ++ p1).Nodup
    refine List.nodup_append.mpr ⟨hd.2.1, hd.1.sublist a3, fun a ha b hb z => ?_⟩
    subst z
    exact hd.2.2 a (a3.mem hb) a ha rfl
  · rcases List.mem_append.mp (by simpa using ha) with h | h
    · exact nb a (List.mem_append_right _ h)
    · exact nb a (List.mem_append_left _ (a3.mem h))
/-- the promise of a def, at its body -/
theorem coreV {g : Cn} {vs : List V} {H : Hp} {Q : VK} {E : XK} {N : List Str} {n : Nat} (io : List Bool) (body : SM) (hio : io.length = n) (hN : n ≤ N.length) (h : spV g io (funM N.length io body) vs H Q E) :
    TSof g (fun cls d _ H' => E cls d H') (ioP 0 io) body { nx := fun _ H' => Q .non H', rt := Q } (L2.start N vs) H := by
  obtain ⟨F, B, ds, r, cs, l1, l2, ns, S, e, hok, hex⟩ := h
  have lv : vs.length = ds.length := l1.trans l2.symm
  have S0 := S.enter N.length lv ns
  have hs : ∀ j ∈ ioP 0 io, (L2.start N vs)[j]? = (vs[j]?).map some := by
    have key : ∀ (io : List Bool) (i : Nat), ∀ j ∈ ioP i io, j < i + io.length := by
      intro io
      induction io with
      | nil => intro i j h; cases h
      | cons b io ih =>
        intro i j h
        cases b with
        | true =>
          rcases List.mem_cons.mp h with rfl | h
          · simp
          · have := ih _ _ h; simp; omega
        | false => have := ih _ _ h; simp; omega
    intro j hj
    have hl := key io 0 j hj
    unfold L2.start
    rw [List.getElem?_append_left (by simp; omega), List.getElem?_map]
  show TSof g _ _ body _ _ _
  unfold funM at e
  split at e
  · rename_i d ρ e1
    split at e
    · rename_i cs' e2
      cases e
      refine ⟨F, B, startE N.length ds, .ret d, ρ, S0, e1, ⟨fun h => (by cases h), fun h => (by cases h), fun h => (by cases h), fun d' hd F' B' H' σ' v x q nd S' => ?_, fun c fs h => (by cases h)⟩⟩
      cases hd
      obtain ⟨a1, a2, a3⟩ := S'.leave e2 l1 (fun j hj => (q j hj).trans (hs j hj)) (fun y hy => by
        have ey : y = (v, d) := by simpa using hy
        subst ey
        exact nd)
      exact hok d rfl F' B' H' v x a1 a2 a3
    · cases e
  · rename_i ρ e1
    split at e
    · rename_i cs' e2
      cases e
      refine ⟨F, B, startE N.length ds, .nx, ρ, S0, e1, ⟨fun _ F' B' H' σ' x q S' => ?_, fun h => (by cases h), fun h => (by cases h), fun d' hd => (by cases hd), fun c fs h => (by cases h)⟩⟩
      obtain ⟨a1, a2, a3⟩ := S'.leave e2 l1 (fun j hj => (q j hj).trans (hs j hj)) (fun y hy => by cases hy)
      exact hok .non rfl F' B' H' .non x a1 a2 (a3.push (by rfl))
    · cases e
  · rename_i c fs ρ e1
    split at e
    · rename_i cs' e2
      cases e
      refine ⟨F, B, startE N.length ds, .exc c fs, ρ, S0, e1, ⟨fun h => (by cases h), fun h => (by cases h), fun h => (by cases h), fun d' hd => (by cases hd), fun c' fs' h F' B' H' σ' cls dx x q S' xa => ?_⟩⟩
      cases h
      obtain ⟨a1, a2, a3⟩ := S'.leave e2 l1 (fun j hj => (q j hj).trans (hs j hj)) (fun y hy => by cases hy)
      exact hex c fs rfl F' B' H' cls dx x a1 a2 a3 xa
    · cases e
  · cases e
/-- THE DEF: its body's judgement makes the promise -/
theorem funV {Pg : Program} {w : World} {K : PySem.W.Frag} {mg : Str → Option Value} {base : Heap} {x qual : Str} {params : Arguments} {bd : List Stmt} {scope : Scope} {dvs : List V} {kws : List (Str × V)} {f : Addr} {fd : FuncData} {N ps : List Str} {k : Nat}
    (Fn : FunD K x qual params bd scope dvs kws f fd) (Sc : FnScope N ps scope) (io : List Bool) (body : SM) (hio : io.length = ps.length) (hN : ps.length ≤ N.length)
    (hb : ∀ (cdv : Value) (A : Around) (outer : List PySem.Env) (s : Shared) (H : Hp) (E : XK), Room k (A.deeper (PyProof.Rows.envOfC qual scope s.heap.objs.size f cdv)) →
      VSs (cxOf (L2.CX Pg w) Pg w K mg base N qual scope f cdv A outer s H E) (cn mg K) (fun cls d _ H' => E cls d H') (ioP 0 io) bd body) :
    FnOk Pg w K mg base (L2.CX Pg w) (k + 1) f fd ps (spV (cn mg K) io (funM N.length io body)) := by
  refine Fn.ok Sc (fun vs H Q E h => spV_len hio h) fun cdv A outer s H vs Q E hr h => ⟨_, hb cdv A outer s H E hr, coreV io body hio hN h⟩
end
end SV
end
section
set_option Elab.async false
set_option linter.all false
set_option autoImplicit false
set_option maxRecDepth 100000
set_option maxHeartbeats 4000000
namespace SV
open PySem PySem.Spec L2
/-! ### calls of defs -/
def fPrep (b : Bool) (d : D) : M D := if b = true then fMove d else fFrz d
def fPreps : List Bool → List D → M (List D)
  | _, [] => ret []
  | b :: io, d :: ds => bnd (fPrep b d) fun x => bnd (fPreps io ds) fun xs => ret (x :: xs)
  | [], _ :: _ => stuck
def callBack : List Bool → List D → List D → Env → Option Env
  | _, [], _, ρ => some ρ
  | true :: io, .sl j :: ds, c :: cs, ρ => if j < ρ.length then callBack io ds cs (ρ.set j (some c)) else none
  | true :: io, _ :: ds, _ :: cs, ρ => callBack io ds cs ρ
  | false :: io, _ :: ds, cs, ρ => callBack io ds cs ρ
  | _, _, _, _ => none
/-- f(..) with what it reckons; dd: the defaults that fill up -/
def ioOk (io : List Bool) (n m : Nat) : Bool := decide (io.length = n + m) && (io.drop n).all fun b => !b
def mCall (io : List Bool) (f : FM) (dd : List D) (a : M (List D)) : M D := bnd a fun ds => bnd (fPreps io ds) fun xs ρ1 => if ioOk io ds.length dd.length = true then (match f (xs ++ dd) with
  | some (r, cs) => (match callBack io ds cs ρ1 with
    | some ρ2 => some (r, ρ2)
    | none => none)
  | none => none) else none
section
variable {F B F' B' : Addr → Prop} {g : Cn} {W : WX} {H H' : Hp} {σ σ' : St} {ρ ρ' : Env} {T T' : Tm} {v : V} {d : D}
theorem Sat.prep {b : Bool} {z : Res D × Env} (S : Sat F B g H σ ρ ((v, d) :: T)) (e : fPrep b d ρ = some z) : ∃ x, z.1 = .ok x ∧ (∀ i, x ≠ .sl i) ∧ (∃ F' B', Ext F B H F' B' H ∧ Sat F' B' g H σ z.2 ((v, x) :: T)) ∧ ∀ j, d = .sl j → σ[j]? = some (some v) := by
  have hs : ∀ j, d = .sl j → σ[j]? = some (some v) := fun j z => by
    obtain ⟨_, r⟩ := S.top
    subst z
    exact r.1
  cases b with
  | true =>
    obtain ⟨x, h1, h2, h3⟩ := S.fMove (show SV.fMove d ρ = some z from e)
    exact ⟨x, h1, h2, ⟨F, B, Ext.refl, h3⟩, hs⟩
  | false =>
    obtain ⟨x, h1, F', B', h2, h3, h4⟩ := S.fFrz (show SV.fFrz d ρ = some z from e)
    exact ⟨x, h1, fun i q => by rw [q] at h4; exact h4.elim, ⟨F', B', h2, h3⟩, hs⟩
theorem Sat.preps : ∀ {io : List Bool} {ds : List D} {vs : List V} {F B : Addr → Prop} {ρ : Env} {T : Tm} {z : Res (List D) × Env}, vs.length = ds.length → Sat F B g H σ ρ (vs.zip ds ++ T) → fPreps io ds ρ = some z →
    ∃ xs, z.1 = .ok xs ∧ vs.length = xs.length ∧ (∀ d ∈ xs, ∀ i, d ≠ .sl i) ∧ (∃ F' B', Ext F B H F' B' H ∧ Sat F' B' g H σ z.2 (vs.zip xs ++ T)) ∧ ∀ (k j : Nat) (v : V), ds[k]? = some (D.sl j) → vs[k]? = some v → σ[j]? = some (some v)
  | io, [], vs, F, B, ρ, T, z, l, S, e => by
    have hv : vs = [] := List.length_eq_zero_iff.mp l
    subst hv
    have e : some (Res.ok ([] : List D), ρ) = some z := by cases io <;> exact e
    cases e
    exact ⟨[], rfl, rfl, by simp, ⟨F, B, Ext.refl, S⟩, fun k j v h => by simp at h⟩
  | io, d :: ds, [], F, B, ρ, T, z, l, S, e => by simp at l
  | [], d :: ds, v :: vs, F, B, ρ, T, z, l, S, e => by cases e
  | b :: io, d :: ds, v :: vs, F, B, ρ, T, z, l, S, e => by
    have S : Sat F B g H σ ρ ((v, d) :: (vs.zip ds ++ T)) := S
    rcases bnd_some e with ⟨x, ρ1, e1, e2⟩ | ⟨c, fs, e1, e2⟩
    · obtain ⟨d', hd', n1, ⟨F1, B1, x1, S1⟩, hs1⟩ := S.prep e1
      cases hd'
      rcases bnd_some e2 with ⟨xs, ρ2, e3, e4⟩ | ⟨c, fs, e3, e4⟩
      · cases e4
        have S1' : Sat F1 B1 g H σ ρ1 (vs.zip ds ++ ((v, x) :: T)) := S1.perm (List.perm_middle.symm)
        obtain ⟨ds', hds', l', n2, ⟨F2, B2, x2, S2⟩, hs2⟩ := Sat.preps (by simpa using l) S1' e3
        cases hds'
        refine ⟨_, rfl, by simp [l'], ?_, ⟨F2, B2, x1.trans x2, S2.perm List.perm_middle⟩, ?_⟩
        · intro d hd
          rcases List.mem_cons.mp hd with rfl | hd
          · exact n1
          · exact n2 d hd
        · intro k j u h1 h2
          cases k with
          | zero =>
            simp at h1 h2
            subst h2
            exact hs1 j h1
          | succ k => exact hs2 k j u (by simpa using h1) (by simpa using h2)
      · obtain ⟨ds', hds', _⟩ := Sat.preps (by simpa using l) (S1.perm (List.perm_middle.symm)) e3
        cases hds'
    · obtain ⟨d', h, _⟩ := S.prep e1
      cases h
theorem RTs.env {σ σ' : St} : ∀ {T : Tm} {o : List Addr}, (∀ x ∈ T, ∀ i, x.2 ≠ .sl i) → RTs F g H σ T o → RTs F g H σ' T o
  | [], _, _, h => h
  | x :: T, _, ns, ⟨f1, f2, e, h1, h2⟩ => ⟨f1, f2, e, RT.of (h1.own (ns x (List.mem_cons_self ..))), RTs.env (fun y hy => ns y (List.mem_cons_of_mem _ hy)) h2⟩
/-- what a callee sees, and what the caller has behind it -/
theorem Sat.call {A : Tm} (na : ∀ x ∈ A, ∀ i, x.2 ≠ .sl i) (S : Sat F B g H σ ρ (A ++ T)) : ∃ Bc : Addr → Prop, Sat F Bc g H [] [] A ∧ ∀ (F' B' : Addr → Prop) (H' : Hp) (T' : Tm), (∀ x ∈ T', ∀ i, x.2 ≠ .sl i) → Ext F Bc H F' B' H' → Sat F' B' g H' [] [] T' →
    ∃ B'', Ext F B H F' B'' H' ∧ Sat F' B'' g H' σ ρ (T' ++ T) := by
  obtain ⟨⟨o1, o2, h1, h2, nd, nb⟩, fb, bt⟩ := id S
  obtain ⟨fs, f2, e, h3, h4⟩ := h2.split
  subst e
  have hd := List.nodup_append.mp nd
  have hd2 := List.nodup_append.mp hd.2.1
  refine ⟨fun a => (∃ o, H a = some o) ∧ a ∉ fs, ⟨⟨[], fs, rfl, h3.env na, by simpa using hd2.1, fun a ha z => z.2 (by simpa using ha)⟩, fun a ha => ⟨bt a (fb a ha), fun z => nb a (by simp [z]) (fb a ha)⟩, fun a ha => ha.1⟩, fun F' B' H' T' nt x S' => ?_⟩
  obtain ⟨⟨p1, p2, k1, k2, nd', nb'⟩, fb', bt'⟩ := S'
  have k1 : p1 = [] := k1
  subst k1
  have bc : ∀ a, B a → (∃ o, H a = some o) ∧ a ∉ fs := fun a ha => ⟨bt a ha, fun z => nb a (by simp [z]) ha⟩
  have c1 : ∀ a ∈ o1, (∃ o, H a = some o) ∧ a ∉ fs := fun a ha => ⟨h1.there a ha, fun z => hd.2.2 a ha a (by simp [z]) rfl⟩
  have c2 : ∀ a ∈ f2, (∃ o, H a = some o) ∧ a ∉ fs := fun a ha => ⟨h4.there a ha, fun z => hd2.2.2 a z a ha rfl⟩
  have ag : Ag F H F' H' := ⟨x.f, fun a ha => x.h a (bc a (fb a ha))⟩
  have n1 : ∀ a, ((∃ o, H a = some o) ∧ a ∉ fs) → Nt H a → ¬ B a → ¬ F' a := fun a ha hn hb z => (x.n a z).elim (fun y => hb (fb a y)) fun y => y ⟨ha, hn⟩
  refine ⟨fun a => B a ∨ F' a, ⟨x.f, fun a ha => .inl ha, fun a ha => x.h a (bc a ha), fun a ha => (x.n a ha).imp_right fun y z => y ⟨bc a z.1, z.2⟩⟩, ⟨o1, p2 ++ f2, h1.mono ag fun a ha => x.h a (c1 a ha), (k2.env nt).append (h4.mono ag fun a ha => x.h a (c2 a ha)), ?_, fun a ha => ?_⟩, fun a ha => .inr ha, fun a ha => ?_⟩
  · have q : ∀ a, ((∃ o, H a = some o) ∧ a ∉ fs) → a ∉ p2 := fun a ha z => nb' a (by simpa using z) (x.b a ha)
    refine List.nodup_append.mpr ⟨hd.1, List.nodup_append.mpr ⟨by simpa using nd', hd2.2.1, fun a ha b hb z => q b (c2 b hb) (z ▸ ha)⟩, fun a ha b hb z => ?_⟩
    subst z
    rcases List.mem_append.mp hb with hb | hb
    · exact q a (c1 a ha) hb
    · exact hd.2.2 a ha a (by simp [hb]) rfl
  · rcases List.mem_append.mp ha with ha | ha
    · rintro (z | z)
      · exact nb a (by simp [ha]) z
      · exact n1 a (c1 a ha) (h1.nt a ha) (nb a (by simp [ha])) z
    · rcases List.mem_append.mp ha with ha | ha
      · rintro (z | z)
        · exact nb' a (by simpa using ha) (x.b a (bc a z))
        · exact nb' a (by simpa using ha) (fb' a z)
      · rintro (z | z)
        · exact nb a (by simp [ha]) z
        · exact n1 a (c2 a ha) (h4.nt a ha) (nb a (by simp [ha])) z
  · rcases ha with ha | ha
    · rw [x.h a (bc a ha)]; exact bt a ha
    · exact bt' a (fb' a ha)
/-- what was lent comes back into its slots -/
theorem Sat.back : ∀ {io : List Bool} {ds cs : List D} {vs : List V} {ρ ρ' : Env}, (vs.length = ds.length) → cs.length = (sel io vs).length → (∀ x ∈ cs, ∀ i, x ≠ .sl i) → (∀ (k j : Nat) (v : V), ds[k]? = some (D.sl j) → vs[k]? = some v → σ[j]? = some (some v)) →
    Sat F B g H σ ρ ((sel io vs).zip cs ++ T) → callBack io ds cs ρ = some ρ' → Sat F B g H σ ρ' T
  | io, [], cs, vs, ρ, ρ', l, lc, ns, hs, S, e => by
    have e : some ρ = some ρ' := by cases io <;> first | exact e | (rename_i b _; cases b <;> exact e)
    cases e
    exact S.sub
  | io, d :: ds, cs, [], ρ, ρ', l, lc, ns, hs, S, e => by simp at l
  | [], d :: ds, cs, v :: vs, ρ, ρ', l, lc, ns, hs, S, e => by
    simp [callBack] at e
  | false :: io, d :: ds, cs, v :: vs, ρ, ρ', l, lc, ns, hs, S, e => by
    have e : callBack io ds cs ρ = some ρ' := by
      cases d <;> exact e
    exact Sat.back (io := io) (vs := vs) (by simpa using l) lc ns (fun k j u h1 h2 => hs (k + 1) j u (by simpa using h1) (by simpa using h2)) S e
  | true :: io, d :: ds, [], v :: vs, ρ, ρ', l, lc, ns, hs, S, e => by simp [sel] at lc
  | true :: io, d :: ds, c :: cs, v :: vs, ρ, ρ', l, lc, ns, hs, S, e => by
    have S : Sat F B g H σ ρ ((v, c) :: ((sel io vs).zip cs ++ T)) := S
    have hs' : ∀ (k j : Nat) (u : V), ds[k]? = some (D.sl j) → vs[k]? = some u → σ[j]? = some (some u) := fun k j u h1 h2 => hs (k + 1) j u (by simpa using h1) (by simpa using h2)
    have lc' : cs.length = (sel io vs).length := by simpa [sel] using lc
    have ns' : ∀ x ∈ cs, ∀ i, x ≠ .sl i := fun x hx => ns x (List.mem_cons_of_mem _ hx)
    cases d with
    | sl j =>
      have e : (if j < ρ.length then callBack io ds cs (ρ.set j (some c)) else none) = some ρ' := e
      split at e
      · rename_i hl
        have hv : σ[j]? = some (some v) := hs 0 j v rfl rfl
        have S2 := S.put (i := j) (ns c (List.mem_cons_self ..)) hl (.inl hv)
        have es : σ.set j (some v) = σ := by
          apply List.ext_getElem?
          intro k
          by_cases hk : j = k
          · subst hk
            rw [List.getElem?_set_self (List.getElem?_eq_some_iff.mp hv).1, hv]
          · rw [List.getElem?_set_ne hk]
        rw [es] at S2
        exact Sat.back (by simpa using l) lc' ns' hs' S2 e
      · cases e
    | _ => exact Sat.back (io := io) (vs := vs) (by simpa using l) lc' ns' hs' S.pop e
theorem sel_append {α : Type} : ∀ {io : List Bool} {vs ws : List α} , (∀ b ∈ io.drop vs.length, b = false) → sel io (vs ++ ws) = sel io vs
  | [], vs, ws, _ => by cases vs <;> cases ws <;> rfl
  | b :: io, [], ws, h => by
    have hb : b = false := h b (by simp)
    subst hb
    have key : ∀ (io : List Bool) (ws : List α), (∀ b ∈ io, b = false) → sel io ws = [] := by
      intro io
      induction io with
      | nil => intro ws _; cases ws <;> rfl
      | cons b io ih =>
        intro ws h
        have hb : b = false := h b (by simp)
        subst hb
        cases ws with
        | nil => rfl
        | cons w ws => exact ih ws fun b hb => h b (by simp [hb])
    rw [List.nil_append, key _ _ (by simpa using h)]
    rfl
  | true :: io, v :: vs, ws, h => by
    show v :: sel io (vs ++ ws) = v :: sel io vs
    rw [sel_append (io := io) (vs := vs) (by simpa using h)]
  | false :: io, v :: vs, ws, h => sel_append (io := io) (vs := vs) (by simpa using h)
/-- defaults: scalars -/
def dvals : List D → Option (List V)
  | [] => some []
  | d :: ds => (match d.sv with
    | some v => (match dvals ds with
      | some vs => some (v :: vs)
      | none => none)
    | none => none)
theorem dvals_reps : ∀ {dd : List D} {dv : List V}, dvals dd = some dv → Reps F g H dd dv
  | [], _, e => by cases e; rfl
  | d :: dd, dv, e => by
    have e : (match d.sv with
      | some v => (match dvals dd with
        | some vs => some (v :: vs)
        | none => none)
      | none => none) = some dv := e
    split at e
    · rename_i v hv
      split at e
      · rename_i vs hvs
        cases e
        exact ⟨v, vs, rfl, rep_sv hv, dvals_reps hvs⟩
      · cases e
    · cases e
theorem zip_app {α β : Type} : ∀ {xs : List α} {ys : List β} {xs' : List α} {ys' : List β}, xs.length = ys.length → (xs ++ xs').zip (ys ++ ys') = xs.zip ys ++ xs'.zip ys'
  | [], [], _, _, _ => rfl
  | _ :: _, _ :: _, _, _, h => by simp [zip_app (show _ = _ by simpa using h)]
  | [], _ :: _, _, _, h => by simp at h
  | _ :: _, [], _, _, h => by simp at h
theorem sim_call {f : FM} {io : List Bool} {dd : List D} {dv : List V} {t : TA} {a : M (List D)} (hd : dvals dd = some dv) (ha : SimA g W t a) : SimE g W (tCallSD (spV g io f) dv (WE W) t) (mCall io f dd a) := fun F B H σ ρ T Q res ρ' S e px h => by
  refine ha.bind S e px fun ds ρ1 F1 B1 H1 vs e1 x1 l S1 => ?_
  rcases bnd_some e1 with ⟨xs, ρ2, e2, e3⟩ | ⟨c, fs, e2, e3⟩
  · obtain ⟨xs', hx, l2, n2, ⟨F2, B2, x2, S2⟩, hs⟩ := S1.preps l e2
    cases hx
    split at e3
    · rename_i hio
      obtain ⟨io1, io2⟩ := Bool.and_eq_true_iff.mp hio
      have io1 : io.length = ds.length + dd.length := of_decide_eq_true io1
      have io2 : ∀ b ∈ io.drop vs.length, b = false := fun b hb => by
        rw [l] at hb
        simpa using List.all_eq_true.mp io2 b hb
      split at e3
      · rename_i r cs e4
        split at e3
        · rename_i ρ3 e5
          cases e3
          have x12 := x1.trans x2
          have rd : Reps F2 g H1 dd dv := dvals_reps hd
          have S3 : Sat F2 B2 g H1 σ ρ2 ((vs ++ dv).zip (xs ++ dd) ++ T) := by
            rw [zip_app l2, List.append_assoc]
            refine (S2.pushs rd).perm ?_
            rw [← List.append_assoc, ← List.append_assoc]
            exact List.Perm.append_right _ List.perm_append_comm
          have nA : ∀ d ∈ xs ++ dd, ∀ i, d ≠ .sl i := fun d hm => by
            rcases List.mem_append.mp hm with hm | hm
            · exact n2 _ hm
            · exact rd.nsl _ hm
          have nA2 : ∀ x ∈ (vs ++ dv).zip (xs ++ dd), ∀ i, x.2 ≠ .sl i := fun x hx => nA _ (List.of_mem_zip (show (x.1, x.2) ∈ _ from hx)).2
          obtain ⟨Bc, S4, k⟩ := Sat.call nA2 S3
          have lA : (vs ++ dv).length = io.length := by rw [List.length_append, ← rd.length, io1, l]
          have es : sel io (vs ++ dv) = sel io vs := sel_append io2
          refine ⟨F2, Bc, xs ++ dd, res, cs, lA, by rw [List.length_append, io1, ← l2, l], nA, S4, e4, fun d hd F' B' H' v x lc ns S5 => ?_, fun c fs hd F' B' H' cls dx x lc ns S5 xa => ?_⟩
          · rw [es] at lc S5
            subst hd
            have nr : ∀ i, d ≠ .sl i := fun i z => by
              obtain ⟨_, r5⟩ := S5.top
              rw [z] at r5
              have q : ([] : St)[i]? = some (some v) := r5.1
              simp at q
            obtain ⟨B6, x6, S6⟩ := k F' B' H' _ (fun y hy => by
              rcases List.mem_cons.mp hy with hy | hy
              · rw [hy]; exact nr
              · exact ns _ (List.of_mem_zip (show (y.1, y.2) ∈ _ from hy)).2) x S5
            refine h d rfl F' B6 H' v (x12.trans x6) ?_
            have S7 : Sat F' B6 g H' σ ρ2 ((sel io vs).zip cs ++ ((v, d) :: T)) := S6.perm List.perm_middle.symm
            exact Sat.back l lc ns hs S7 e5
          · rw [es] at lc S5
            subst hd
            obtain ⟨B6, x6, S6⟩ := k F' B' H' _ (fun y hy => ns _ (List.of_mem_zip (show (y.1, y.2) ∈ _ from hy)).2) x S5
            exact px c fs rfl F' B6 H' cls dx (x12.trans x6) (Sat.back l lc ns hs S6 e5) xa
        · cases e3
      · cases e3
    · cases e3
  · obtain ⟨ds', hd, _⟩ := S1.preps l e2
    cases hd
theorem v_call {X : Cx} {k : Nat} {f : Addr} {fd : FuncData} {ps : List Str} {io : List Bool} {fm : FM} {dd : List D} {dv : List V} {dus : List Value} {x : Str} {p pos : Pos} {a : Expr} {es : List Expr} {ms : M (List D)} (tk : Takes X W)
    (Fn : FnOk X.prog X.w X.K X.mg X.base (L2.CX X.prog X.w) k f fd ps (spV g io fm)) (hr : Room k X.A) (hg : Gl X x) (hm : X.mg x = some (.ref f)) (hk : PySem.W.keepIn X.K (.ref f) = true) (hb : Binds X.K fd ps dus) (hdv : Vals dv dus) (hd : dvals dd = some dv)
    (ha : VA X g W (a :: es) ms) (hdb : (x == ("__debug__" : Str)) = false := by decide) (he : starEach (a :: es) X.env = (false, eval a X.env) :: starEach es X.env := by rfl) (hpl : (backTo pos (starEach es X.env)).any (·.1) = false := by rfl) :
    VE X g W (.Call (.Name x p) (a :: es) [] pos) (mCall io fm dd ms) := .mk (pe_callSD Fn hr hg hm hk hb hdv (fun σ => passAt tk σ) ha hdb he hpl) (sim_call hd selfA)
end
end SV
end
section
set_option Elab.async false
set_option linter.all false
set_option autoImplicit false
set_option maxRecDepth 100000
set_option maxHeartbeats 4000000
namespace SV
open PySem PySem.Spec L2
/-! ### raise -/
section
variable {F B F' B' : Addr → Prop} {g : Cn} {W : WX} {P : List Nat} {H H' : Hp} {σ σ' : St} {ρ ρ' : Env} {T T' : Tm} {v : V} {d : D} {X : Cx}
/-- what __init__ of a class with these fields promises: each argument becomes the field -/
def spIni (C : Addr) (ns : List Str) : Sp := fun vs H Q _ => ∃ (a : Addr) (ys : List V), vs = .ref a :: ys ∧ ys.length = ns.length ∧ 0 < ns.length ∧ H a = some (exo a C none) ∧ ∀ dx, H dx = none → dx ≠ a →
  Q .non (upd (upd H dx (exd dx (ns.zip ys).reverse)) a (exo a C (some dx)))
theorem lookup_rev : ∀ {ns : List Str} {ys : List V} {n : Str} {v : V}, ns.Nodup → ns.length = ys.length → (ns.zip ys).lookup n = some v → (ns.zip ys).reverse.lookup n = some v
  | [], _, _, _, _, _, h => by simp at h
  | _ :: _, [], _, _, _, l, _ => by simp at l
  | m :: ns, y :: ys, n, v, nd, l, h => by
    have nd' := List.nodup_cons.mp nd
    have e : ((m :: ns).zip (y :: ys)).reverse = (ns.zip ys).reverse ++ [(m, y)] := by simp
    rw [e, List.lookup_append]
    by_cases hm : n = m
    · subst hm
      have h0 : ((n :: ns).zip (y :: ys)).lookup n = some y := by simp [List.lookup]
      rw [h0] at h
      cases h
      have hn : (ns.zip ys).reverse.lookup n = none := by
        rw [List.lookup_eq_none_iff]
        intro p hp
        have hp' := List.mem_reverse.mp hp
        have := (List.of_mem_zip (show (p.1, p.2) ∈ _ from hp')).1
        simp
        rintro rfl
        exact nd'.1 this
      rw [hn]
      simp [List.lookup]
    · have hb : (n == m) = false := by simpa using hm
      have h1 : (ns.zip ys).lookup n = some v := by
        have : ((m :: ns).zip (y :: ys)).lookup n = (ns.zip ys).lookup n := by simp [List.lookup, hb]
        rw [this] at h
        exact h
      rw [lookup_rev nd'.2 (by simpa using l) h1]
      rfl
theorem zip_lookup : ∀ {ns : List Str} {xs : List D} {ys : List V} {n : Str} {y : D}, Reps F g H xs ys → (ns.zip xs).lookup n = some y → ∃ v, (ns.zip ys).lookup n = some v ∧ Rep F g H y v
  | [], _, _, _, _, _, h => by simp at h
  | _ :: _, [], _, _, _, _, h => by simp at h
  | m :: ns, x :: xs, _, n, y, ⟨v, ys, e, r1, r2⟩, h => by
    subst e
    by_cases hm : n = m
    · subst hm
      have h0 : ((n :: ns).zip (x :: xs)).lookup n = some x := by simp [List.lookup]
      rw [h0] at h
      cases h
      exact ⟨v, by simp [List.lookup], r1⟩
    · have hb : (n == m) = false := by simpa using hm
      have e1 : ((m :: ns).zip (x :: xs)).lookup n = (ns.zip xs).lookup n := by simp [List.lookup, hb]
      rw [e1] at h
      obtain ⟨w, q, r⟩ := zip_lookup r2 h
      exact ⟨w, by simp [List.lookup, hb, q], r⟩
def mRaise (c : Str) (ns : List Str) (a : M (List D)) : SM := bndS (bnd a fFrzs) fun xs => if xs.length = ns.length ∧ 0 < ns.length ∧ ns.length ≤ 900 then endS (.exc c (ns.zip xs)) else stuckS
theorem sim_raise {C : Addr} {c : Str} {ns : List Str} {t : TA} {a : M (List D)} (hm : g.mg c = some (.ref C)) (nd : ns.Nodup) (ha : SimA g W t a) : SimS g W P (fun _ σ H => tMkO C (spIni C ns) [] t σ H fun cls d H' => W cls d σ H') (mRaise c ns a) := fun F B H σ ρ Dn fl ρ' S e p => by
  unfold mRaise bndS at e
  split at e
  · rename_i xs ρ1 e1
    rcases bnd_some e1 with ⟨ds, ρ0, e2, e3⟩ | ⟨c, fs, e2, e3⟩
    · refine ha F B H σ ρ [] _ (.ok ds) ρ0 S e2 PX.ok fun d1 hd F1 B1 H1 vs x1 l S1 => ?_
      cases hd
      obtain ⟨xs', hx, F2, B2, x2, S2, r2⟩ := S1.fFrzs l e3
      cases hx
      dsimp only at e
      split at e
      · rename_i hl
        cases e
        have lv := r2.length
        refine ⟨by omega, fun o ho => ⟨o, vs, by simp, by rw [← lv]; exact hl.1, hl.2.1, upd_same, fun dx hdx hne => ⟨rfl, dx, _, upd_same, by rw [upd_ne hne, upd_same], ?_, ?_⟩⟩⟩
        · have := hdx
          rw [upd_ne hne] at this
          exact this
        · have hdx1 : H1 dx = none := by
            have := hdx
            rw [upd_ne hne] at this
            exact this
          have eH : upd (del (upd (upd (upd H1 o (exo o C none)) dx (exd dx (ns.zip vs).reverse)) o (exo o C (some dx))) o) dx (.xd (ns.zip vs).reverse) = upd H1 dx (.xd (ns.zip vs).reverse) := by
            funext b
            by_cases h1 : b = dx
            · rw [h1, upd_same, upd_same]
            · rw [upd_ne h1, upd_ne h1]
              by_cases h2 : b = o
              · rw [h2, del_same, ho]
              · rw [del_ne h2, upd_ne h2, upd_ne h1, upd_ne h2]
          rw [eH]
          obtain ⟨F3, B3, x3, S3, f3⟩ := S2.newF (o := .xd (ns.zip vs).reverse) hdx1
          refine p.xc c _ rfl F3 B3 _ σ _ _ ((x1.trans x2).trans x3) (fun _ _ => rfl) S3 ⟨C, dx, _, rfl, rfl, hm, f3, upd_same, fun n y hy => ?_⟩
          obtain ⟨w, q, r⟩ := zip_lookup (Reps.mono (x3.ag S2.fb) _ _ r2) hy
          exact ⟨w, lookup_rev nd (by omega) q, r⟩
      · cases e
    · cases e3
  · rename_i c' fs ρ1 e1
    cases e
    rcases bnd_some e1 with ⟨ds, ρ0, e2, e3⟩ | ⟨c, fs, e2, e3⟩
    · refine ha F B H σ ρ [] _ (.ok ds) ρ0 S e2 PX.ok fun d1 hd F1 B1 H1 vs x1 l S1 => ?_
      cases hd
      obtain ⟨xs', hx, _⟩ := S1.fFrzs l e3
      cases hx
    · cases e3
      exact ha F B H σ ρ [] _ (.exc _ _) _ S e2 p.px fun d hd => by cases hd
  · cases e
theorem vs_raise {C fI : Addr} {c : Str} {ns : List Str} {k : Nat} {fd : FuncData} {ps : List Str} {e : Expr} {es : List Expr} {ms : M (List D)} {p pos pos' : Pos} (hc : X.calm = true) (tk : Takes X W) (To : OexC X.K C) (iC : PySem.W.findIn X.K (.ref C) "__init__" = some (some (.ref fI))) (tI : PySem.W.typeIn X.K (.ref fI) = some (.type "function"))
    (F1 : FnOk X.prog X.w X.K X.mg X.base (L2.CX X.prog X.w) k fI fd ps (spIni C ns)) (hr : Room (k + 1) X.A) (hb : Binds X.K fd ps []) (hg : Gl X c) (hm : X.mg c = some (.ref C)) (hgm : g.mg = X.mg) (nd : ns.Nodup) (ha : VA X g W (e :: es) ms)
    (hdb : (c == ("__debug__" : Str)) = false := by decide) (he : starEach (e :: es) X.env = (false, eval e X.env) :: starEach es X.env := by rfl) (hpl : (backTo pos (starEach es X.env)).any (·.1) = false := by rfl) :
    VS X g W P (.Raise (some (.Call (.Name c p) (e :: es) [] pos)) none pos') (mRaise c ns ms) :=
  .mk (ps_raise hc tk (pmk_oex To iC tI F1 hr hb .nil passL hg hm ha hdb he hpl)) (sim_raise (by rw [hgm]; exact hm) nd selfA)
/-- an __init__ of one field -/
theorem ini1 {Pg : Program} {w : World} {K : PySem.W.Frag} {mg : Str → Option Value} {base : Heap} {C : Addr} {n : Str} {x qual : Str} {params : Arguments} {scope : Scope} {kws : List (Str × V)} {f : Addr} {fd : FuncData} {p1 p2 p3 p4 : Pos}
    (Fn : FunD K x qual params [.Assign [.Attribute (.Name "self" p1) n p2] (.Name n p3) p4] scope [] kws f fd) (Sc : FnScope ["self", n] ["self", n] scope) (v0 : scope.names.lookup ("self" : Str) = some .local) (v1 : scope.names.lookup n = some .local) (hd : (n == ("__debug__" : Str)) = false) (hcd : (n == ("__classdict__" : Str)) = false)
    (To : OexC K C) (hno : PySem.W.findIn K (.ref C) n = some none) : FnOk Pg w K mg base (L2.CX Pg w) 1 f fd ["self", n] (spIni C [n]) := by
  refine Fn.ok Sc (fun vs H Q E ⟨a, ys, e, l, _⟩ => by rw [e]; simp at l ⊢; exact l) fun cdv A outer s H vs Q E hr h => ⟨_, pss_one (ps_ost (pe_var (i := 0) rfl (.inl v0)) (pe_var (i := 1) rfl (.inl v1) hd hcd)), ?_⟩
  obtain ⟨a, ys, rfl, l, _, ha, q⟩ := h
  obtain ⟨y, rfl⟩ : ∃ y, ys = [y] := List.length_eq_one_iff.mp l
  exact ⟨y, rfl, .ref a, rfl, a, C, rfl, To, hno, .inl ⟨ha, fun dx h1 h2 => q dx h1 h2⟩⟩
/-- an __init__ of two fields -/
theorem ini2 {Pg : Program} {w : World} {K : PySem.W.Frag} {mg : Str → Option Value} {base : Heap} {C : Addr} {n m : Str} {x qual : Str} {params : Arguments} {scope : Scope} {kws : List (Str × V)} {f : Addr} {fd : FuncData} {p1 p2 p3 p4 q1 q2 q3 q4 : Pos}
    (Fn : FunD K x qual params [.Assign [.Attribute (.Name "self" p1) n p2] (.Name n p3) p4, .Assign [.Attribute (.Name "self" q1) m q2] (.Name m q3) q4] scope [] kws f fd) (Sc : FnScope ["self", n, m] ["self", n, m] scope) (v0 : scope.names.lookup ("self" : Str) = some .local) (v1 : scope.names.lookup n = some .local) (v2 : scope.names.lookup m = some .local) (hd : (n == ("__debug__" : Str)) = false) (hcd : (n == ("__classdict__" : Str)) = false) (hd2 : (m == ("__debug__" : Str)) = false) (hcd2 : (m == ("__classdict__" : Str)) = false)
    (To : OexC K C) (hno : PySem.W.findIn K (.ref C) n = some none) (hno2 : PySem.W.findIn K (.ref C) m = some none) : FnOk Pg w K mg base (L2.CX Pg w) 1 f fd ["self", n, m] (spIni C [n, m]) := by
  refine Fn.ok Sc (fun vs H Q E ⟨a, ys, e, l, _⟩ => by rw [e]; simp at l ⊢; exact l) fun cdv A outer s H vs Q E hr h => ⟨_, pss_cons (ps_ost (pe_var (i := 0) rfl (.inl v0)) (pe_var (i := 1) rfl (.inl v1) hd hcd)) (pss_one (ps_ost (pe_var (i := 0) rfl (.inl v0)) (pe_var (i := 2) rfl (.inl v2) hd2 hcd2))), ?_⟩
  obtain ⟨a, ys, rfl, l, _, ha, q⟩ := h
  obtain ⟨y, z, rfl⟩ : ∃ y z, ys = [y, z] := by
    match ys, l with
    | [y, z], _ => exact ⟨y, z, rfl⟩
  refine ⟨y, rfl, .ref a, rfl, a, C, rfl, To, hno, .inl ⟨ha, fun dx h1 h2 => ?_⟩⟩
  refine ⟨z, rfl, .ref a, rfl, a, C, rfl, To, hno2, .inr ⟨dx, _, upd_same, by rw [upd_ne h2, upd_same], by simp, ?_⟩⟩
  have e : upd (upd (upd H dx (exd dx [(n, y)])) a (exo a C (some dx))) dx (exd dx [(m, z), (n, y)]) = upd (upd H dx (exd dx [(m, z), (n, y)])) a (exo a C (some dx)) := by
    funext b
    by_cases hb : b = dx
    · rw [hb, upd_same, upd_ne h2, upd_same]
    · rw [upd_ne hb]
      by_cases hb2 : b = a
      · rw [hb2, upd_same, upd_same]
      · rw [upd_ne hb2, upd_ne hb2, upd_ne hb, upd_ne hb]
  show Q .non _
  rw [e]
  exact q dx h1 h2
/-! ### try -/
end
end SV
end
section
set_option Elab.async false
set_option linter.all false
set_option autoImplicit false
set_option maxRecDepth 100000
set_option maxHeartbeats 4000000
namespace SV
open PySem PySem.Spec PyProof.Rows L2
/-! ### try with several clauses, some of which name what they catch -/
abbrev TSx := Addr → Value → Option Addr → TS
/-- where a named clause leads: its name goes at the end -/
def endN (i : Nat) (Dn : Ends) : Ends := { nx := fun s1 H1 => Dn.nx (s1.set i none) H1, rt := Dn.rt, bk := fun s1 H1 => Dn.bk (s1.set i none) H1, ct := fun s1 H1 => Dn.ct (s1.set i none) H1 }
def wMix (K : PySem.W.Frag) (Wo : WX) (Dn : Ends) : List (Value × Option Nat × TSx) → WX
  | [] => Wo
  | (c, none, ts) :: r => fun cls d s1 H1 => ∃ b, PySem.W.exmOne K cls c = some b ∧ (b = true → ∀ a, H1 a = none → ts a cls d Dn s1 H1) ∧ (b = false → wMix K Wo Dn r cls d s1 H1)
  | (c, some i, ts) :: r => fun cls d s1 H1 => ∃ b, PySem.W.exmOne K cls c = some b ∧ (b = true → ∀ a, H1 a = none → ts a cls d (endN i Dn) (s1.set i (some (.ref a))) H1) ∧ (b = false → wMix K Wo Dn r cls d s1 H1)
/-- the clauses and their readings -/
inductive HdsM (X : Cx) : List ExceptHandler → List (Value × Option Nat × TSx) → Prop
  | nil : HdsM X [] []
  | bare {x : Str} {c : Value} {ts : TSx} {b₀ : Stmt} {su : List Stmt} {p1 p2 : Pos} {hds : List ExceptHandler} {l : List (Value × Option Nat × TSx)} (hc : Names X x c)
      (hsu : ∀ (a : Addr) (ob : Obj) (cls : Value) (d : Option Addr) (pn : List (Addr × Obj)), Zc cls d ob → (∃ vs, ob.data = .fields vs) → PSs (X.suite a ((a, ob) :: pn)) (b₀ :: su) (ts a cls d)) (r : HdsM X hds l) :
      HdsM X (.ExceptHandler (some (.Name x p1)) none (b₀ :: su) p2 :: hds) ((c, none, ts) :: l)
  | named {x n : Str} {c : Value} {i : Nat} {ts : TSx} {b₀ : Stmt} {su : List Stmt} {p1 p2 : Pos} {hds : List ExceptHandler} {l : List (Value × Option Nat × TSx)} (hc : Names X x c) (hi : X.N[i]? = some n) (hln : X.env.kindOf n = some .local)
      (hsu : ∀ (a : Addr) (ob : Obj) (cls : Value) (d : Option Addr) (pn : List (Addr × Obj)), Zc cls d ob → (∃ vs, ob.data = .fields vs) → PSs (X.suite a ((a, ob) :: pn)) (b₀ :: su) (ts a cls d)) (r : HdsM X hds l) :
      HdsM X (.ExceptHandler (some (.Name x p1)) (some n) (b₀ :: su) p2 :: hds) ((c, some i, ts) :: l)
section
variable {X : Cx} {body : List Stmt} {h0 : ExceptHandler} {hds : List ExceptHandler} {l : List (Value × Option Nat × TSx)} {pos : Pos} {tb : WX → TS} {Wo : WX}
theorem ps_try_mix (hs : X.stack = X.env :: X.outer) (hf : X.env.frame = some X.env.locals) (hN : X.N.Nodup) (tk : Takes X Wo)
    (hb : ∀ (Wi : WX) (pn : List (Addr × Obj)) (xe : Value → Shared → Prop), Takes (X.tr pn xe) Wi → PassesOwn (model X.prog X.w) X.A X.env xe → PSs (X.tr pn xe) body (tb Wi))
    (hh : HdsM X (h0 :: hds) l) : PS X (.Try body (h0 :: hds) [] [] pos) (fun Dn s1 H1 => tb (wMix X.K Wo Dn l) Dn s1 H1) := by
  refine ⟨fun pins s0 σ0 H0 Dn I0 hw => ?_⟩
  have okX := I0.ok
  have frX : X.A.frames = some (X.env :: X.outer) := by rw [okX.frames, hs]
  refine wpAny_Try_except ?_
  refine wpAny_mono ((hb (wMix X.K Wo Dn l) (X.pn ++ pins) (fun e z1 => wpAny (model X.prog X.w) X.A (noteFrame e X.env) (fun _ z2 => wpAny (model X.prog X.w) X.A (setFlight e none) (fun _ z3 =>
    wpAny (model X.prog X.w) X.A (handleBy e X.env (h0 :: hds)) (SP X pins Dn) X.xe z3) X.xe z2) X.xe z1) (fun u sx xx => ?_) PassesOwn.looking).run [] s0 σ0 H0 Dn (I0.toTry _) hw) (fun f sy hsp => ?_) (fun e z1 he => he)
  · obtain ⟨a, Bg, sI, pins1, σ1, H1, cls, d, rfl, J0, nb, up, sky, na, os, ag, wx⟩ := xx
    have Jx : Inv X pins σ1 H1 sI := J0.ofTry okX
    have sk1 : Sky Bg (X.env :: X.outer) a (Zc cls d) X.env.locals sx.heap := by rw [← hs]; exact sky
    show wpAny (model X.prog X.w) X.A (noteFrame (.ref a) X.env) _ _ _
    refine Sky.land Zc.steady frX hf sk1 fun hp3 fl3 up3 => ?_
    have K3 : Inv X pins σ1 H1 { sx with heap := hp3 } := Jx.landed nb fl3.1 (up.trans up3) os ag
    obtain ⟨ob3, vs3, he3, hz3, hd3⟩ := fl3.there
    have nfr : a ∉ frs (X.env :: X.outer) := fun hm => by
      obtain ⟨_, ob', e', hnf⟩ := fl3.2.2.1.mem hm
      rw [he3] at e'; cases e'
      exact hnf _ hd3
    have neL : a ≠ X.env.locals := fun z => nfr (List.mem_filterMap.mpr ⟨X.env, List.mem_cons_self, by rw [hf, z]⟩)
    have neF : a ∉ X.fs := fun hm => by
      obtain ⟨e, he, q⟩ := List.mem_filterMap.mp hm
      exact nfr (List.mem_filterMap.mpr ⟨e, List.mem_cons_of_mem _ he, q⟩)
    have Q3 := K3.suite he3 hd3 na neL neF
    have LT : PySem.W.Looks (model X.prog X.w) hp3 (typeOf (.ref a)) cls := fun A Q E s k q => wpAny_typeOf_ref (k _ _ he3) (by rw [hz3.1]; exact q)
    have test : ∀ {x : Str} {c : Value} {np : Pos} {Q E : Value → Shared → Prop}, Names X x c → Q c { sx with heap := hp3 } → wpAny (model X.prog X.w) (X.A.mark (some (.ref a))) (eval (.Name x np) X.env) Q E { sx with heap := hp3 } := fun {x c np Q E} hc q => by
      obtain ⟨hg, hdbg, hm | ⟨hm, hv, hnn⟩⟩ := hc
      · exact ld_glob (X := X.suite a ((a, ob3) :: (X.pn ++ pins))) Q3 hg hm q hdbg
      · exact ld_blt (X := X.suite a ((a, ob3) :: (X.pn ++ pins))) Q3 hg hm hv q hnn hdbg
    have go : ∀ {hs2 : List ExceptHandler} {l2 : List (Value × Option Nat × TSx)}, HdsM X hs2 l2 → wMix X.K Wo Dn l2 cls d σ1 H1 →
        wpAny (model X.prog X.w) X.A (handleBy (.ref a) X.env hs2) (SP X pins Dn) X.xe { sx with heap := hp3 } := by
      intro hs2 l2 hk
      induction hk with
      | nil =>
        intro w1
        refine wpAny_handleBy_nil ?_
        obtain ⟨k1, k2, k3, oe, vs, Tt, oT, tsx, he, hz, hd, hd1, hr⟩ := id fl3
        unfold PySem.passOn
        refine wpAny_bind (wpAny_field he hd hd1 ?_)
        rw [if_neg (show ¬ ((Value.ref Tt == Value.none) = true) from by simp)]
        have fin1 : wpAny (model X.prog X.w) X.A (setFlight (.ref a) X.env.frame) (fun _ z4 => wpAny (model X.prog X.w) X.A (throw (.ref a) : Sem Flow) (SP X pins Dn) X.xe z4) X.xe { sx with heap := hp3 } := by
          rw [hf]
          refine HandSPX.setFlight_upZ fl3 fun hp4 hh4 up4 => wpAny_throw (tk _ _ ?_)
          exact ⟨a, Bg, sI, pins, σ1, H1, cls, d, rfl, Jx, nb, (up.trans up3).trans up4, .inr (.inr (by rw [hs]; exact hh4)), na, os, ag, w1⟩
        first
          | exact wpAny_bind (wpAny_pure (wpAny_bind fin1))
          | exact wpAny_bind fin1
      | @bare x c ts b₀ su p1 p2 hds2 l2 hc hsu r ih =>
        intro w1
        obtain ⟨b, hb1, hyes, hno⟩ := w1
        refine wpAny_handleBy_cons (codeAny_handlers_test ?_) (by intro q; cases q)
        have LM := PySem.W.exm_one (M := model X.prog X.w) (K3.kIn) LT hb1
        refine test hc (LM.here ?_)
        cases b with
        | true =>
          refine codeAny_handlers_suite ?_
          refine HandSPX.lands_againZ fl3 fun hp4 fl4 up4 => ?_
          have K4 : Inv X pins σ1 H1 { sx with heap := hp4 } := Jx.landed nb fl4.1 ((up.trans up3).trans up4) os ag
          obtain ⟨ob4, vs4, he4, hz4, hd4⟩ := fl4.there
          have Q4 := K4.suite he4 hd4 na neL neF
          refine wpAny_mono ((hsu a ob4 cls d (X.pn ++ pins) hz4 ⟨_, hd4⟩).run [] _ _ H1 _ Q4 (hyes rfl a na)) (fun f z6 hz6 => ?_) (fun _ _ z => False.elim z)
          cases f with
          | next => obtain ⟨s6, H6, Q6, q6⟩ := hz6; exact ⟨_, _, Q6.unsuite okX, q6⟩
          | brk => obtain ⟨s6, H6, Q6, q6⟩ := hz6; exact ⟨_, _, Q6.unsuite okX, q6⟩
          | cont => obtain ⟨s6, H6, Q6, q6⟩ := hz6; exact ⟨_, _, Q6.unsuite okX, q6⟩
          | ret u => obtain ⟨v6, s6, H6, Q6, r6, q6⟩ := hz6; exact ⟨_, _, _, Q6.unsuite okX, r6, q6⟩
        | false =>
          show wpAny _ X.A (handleBy (.ref a) X.env hds2) _ _ _
          exact ih (hno rfl)
      | @named x n c i ts b₀ su p1 p2 hds2 l2 hc hi hln hsu r ih =>
        intro w1
        obtain ⟨b, hb1, hyes, hno⟩ := w1
        refine wpAny_handleBy_cons (codeAny_handlers_test ?_) (by intro q; cases q)
        have LM := PySem.W.exm_one (M := model X.prog X.w) (K3.kIn) LT hb1
        refine test hc (LM.here ?_)
        cases b with
        | true =>
          refine codeAny_handlers_suite_as ?_
          refine HandSPX.lands_againZ fl3 fun hp4 fl4 up4 => ?_
          have K4 : Inv X pins σ1 H1 { sx with heap := hp4 } := Jx.landed nb fl4.1 ((up.trans up3).trans up4) os ag
          obtain ⟨ob4, vs4, he4, hz4, hd4⟩ := fl4.there
          have Q4 := K4.suite he4 hd4 na neL neF
          refine store_ok (X := X.suite a ((a, ob4) :: (X.pn ++ pins))) (v := .ref a) Q4 hN hi (.inl hln) rfl (fun z5 Q5 => ?_) (.inr hln)
          refine wpAny_mono ((hsu a ob4 cls d (X.pn ++ pins) hz4 ⟨_, hd4⟩).run [] z5 _ H1 _ Q5 (hyes rfl a na)) (fun f z6 hz6 => ?_) (fun _ _ z => False.elim z)
          have gone : ∀ {s6 : L2.St} {H6 : Hp} {Qx : Shared → Prop}, Inv (X.suite a ((a, ob4) :: (X.pn ++ pins))) [] s6 H6 z6 → (∀ z7, Inv X pins (s6.set i none) H6 z7 → Qx z7) →
              wpAny (model X.prog X.w) X.A (do bindName X.env n .none; unbindBehindTheSuite X.env n p2) (fun _ z7 => Qx z7) X.xe z6 := fun {s6 H6 Qx} Q6 hq => gone_ok (Q6.unsuite okX) hN hi hln hq
          cases f with
          | next => obtain ⟨s6, H6, Q6, q6⟩ := hz6; exact gone Q6 fun z7 J7 => ⟨_, _, J7, q6⟩
          | brk => obtain ⟨s6, H6, Q6, q6⟩ := hz6; exact gone Q6 fun z7 J7 => ⟨_, _, J7, q6⟩
          | cont => obtain ⟨s6, H6, Q6, q6⟩ := hz6; exact gone Q6 fun z7 J7 => ⟨_, _, J7, q6⟩
          | ret u => obtain ⟨v6, s6, H6, Q6, r6, q6⟩ := hz6; exact gone Q6 fun z7 J7 => ⟨_, _, _, J7, r6, q6⟩
        | false =>
          show wpAny _ X.A (handleBy (.ref a) X.env hds2) _ _ _
          exact ih (hno rfl)
    exact go hh wx
  · cases f with
    | next => obtain ⟨s6, H6, J6, q⟩ := hsp; exact wpAny_execs_nil ⟨s6, H6, J6.ofTry okX, q⟩
    | brk => obtain ⟨s6, H6, J6, q⟩ := hsp; exact ⟨s6, H6, J6.ofTry okX, q⟩
    | cont => obtain ⟨s6, H6, J6, q⟩ := hsp; exact ⟨s6, H6, J6.ofTry okX, q⟩
    | ret u => obtain ⟨v, s6, H6, J6, r, q⟩ := hsp; exact ⟨v, s6, H6, J6.ofTry okX, r, q⟩
end
end SV
end
section
set_option Elab.async false
set_option linter.all false
set_option autoImplicit false
set_option maxRecDepth 100000
set_option maxHeartbeats 4000000
namespace SV
open PySem PySem.Spec L2
def noX (ρ : Env) : Bool := ρ.all fun x => match x with
  | some d => !d.isX
  | none => true
section
variable {F B F' B' : Addr → Prop} {g g2 : Cn} {W : WX} {P : List Nat} {H H' : Hp} {σ σ' : St} {ρ ρ' : Env} {T T' : Tm} {v : V} {d : D} {X : Cx}
theorem RX.cn {f : List Addr} (e : Same g2 g) (n : d.isX = false) (h : RX F g H d v f) : RX F g2 H d v f := RX.of (RepO.cn e _ _ _ (h.own n))
theorem RS.cn (e : Same g2 g) : ∀ {σ : St} {ρ : Env} {o : List Addr}, noX ρ = true → RS F g H σ ρ o → RS F g2 H σ ρ o
  | [], [], _, _, h => h
  | [], _ :: _, _, _, h => h.elim
  | _ :: _, [], _, _, h => h.elim
  | _ :: σ, none :: ρ, _, n, h => by
    have n' : (true && noX ρ) = true := n
    exact RS.cn e (σ := σ) (ρ := ρ) (by simpa using n') h
  | _ :: _, some d :: ρ, _, n, ⟨v, f1, f2, e1, e2, h1, h2⟩ => by
    have n' : ((!d.isX) && noX ρ) = true := n
    have n'' := Bool.and_eq_true_iff.mp n'
    exact ⟨v, f1, f2, e1, e2, h1.cn e (by simpa using n''.1), RS.cn e n''.2 h2⟩
theorem RT.cn {f : List Addr} (e : Same g2 g) (h : RT F g H σ d v f) : RT F g2 H σ d v f := by
  cases d <;> first | exact RepO.cn e _ _ _ h | exact h
theorem RTs.cn (e : Same g2 g) : ∀ {T : Tm} {o : List Addr}, RTs F g H σ T o → RTs F g2 H σ T o
  | [], _, h => h
  | _ :: _, _, ⟨f1, f2, e1, h1, h2⟩ => ⟨f1, f2, e1, h1.cn e, RTs.cn e h2⟩
theorem Sat.cn (e : Same g2 g) (n : noX ρ = true) (S : Sat F B g H σ ρ T) : Sat F B g2 H σ ρ T := by
  obtain ⟨⟨o1, o2, h1, h2, nd, nb⟩, fb, bt⟩ := S
  exact ⟨⟨o1, o2, h1.cn e n, h2.cn e, nd, nb⟩, fb, bt⟩
theorem ExcAt.cn {cls : Value} {dx : Option Addr} {c : Str} {fs : List (Str × D)} (e : Same g2 g) (h : ExcAt F g H cls dx c fs) : ExcAt F g2 H cls dx c fs := by
  obtain ⟨C, dd, fv, e1, e2, e3, f, hh, r⟩ := h
  exact ⟨C, dd, fv, e1, e2, by rw [e.1]; exact e3, f, hh, fun n y z => let ⟨v, q, w⟩ := r n y z; ⟨v, q, Rep.cn e _ _ w⟩⟩
/-- what is caught comes into a slot -/
theorem Sat.catch_ {i : Nat} {c : Str} {ns : List Str} {xs : List D} (S : Sat F B g H σ ρ []) (hi : i < ρ.length) (h : ExcAt F g H g.xc g.xd c (ns.zip xs)) : Sat F B g H (σ.set i (some (.ref g.xa))) (ρ.set i (some (.xc c ns xs))) [] := by
  obtain ⟨⟨o1, o2, h1, h2, nd, nb⟩, fb, bt⟩ := S
  have h2 : o2 = [] := h2
  subst h2
  obtain ⟨p, sp, h4⟩ := h1.drop i (some (.ref g.xa))
  have e0 : (ρ.set i none)[i]? = some none := by simp [hi]
  obtain ⟨p2, pp, h5⟩ := h4.put (i := i) (v := .ref g.xa) (d := .xc c ns xs) (f := []) e0 ⟨rfl, h, rfl⟩
  simp only [List.set_set] at h5
  have pp' : p2.Perm p := by simpa using pp
  refine ⟨⟨p2, [], h5, rfl, ?_, fun a ha => ?_⟩, fb, bt⟩
  · have : p.Nodup := (by simpa using nd : o1.Nodup).sublist sp
    simpa using pp'.nodup_iff.mpr this
  · exact nb a (by simpa using sp.mem (pp'.mem_iff.mp (by simpa using ha)))
/-- .. and goes -/
theorem Sat.uncatch (S : Sat F B g H σ ρ T) (i : Nat) (nt : ∀ x ∈ T, ∀ j, x.2 ≠ .sl j) : Sat F B g H (σ.set i none) (ρ.set i none) T := by
  obtain ⟨⟨o1, o2, h1, h2, nd, nb⟩, fb, bt⟩ := S
  obtain ⟨p, sp, h4⟩ := h1.drop i none
  have ss : (p ++ o2).Sublist (o1 ++ o2) := List.Sublist.append_right sp _
  exact ⟨⟨p, o2, h4, h2.env nt, nd.sublist ss, fun a ha => nb a (ss.mem ha)⟩, fb, bt⟩
/-! ### try -/
def Fl.isExc : Fl → Bool
  | .exc _ _ => true
  | _ => false
def suiteS (oi : Option Nat) (c : Str) (fs : List (Str × D)) (ms : SM) : SM := fun ρ => if noX ρ = true then (match oi with
  | none => (match ms ρ with
    | some (fl, ρ1) => if noX ρ1 = true ∧ fl.isExc = false then some (fl, ρ1) else none
    | none => none)
  | some i => if i < ρ.length then (match ms (ρ.set i (some (.xc c (fs.map (·.1)) (fs.map (·.2))))) with
    | some (fl, ρ1) => if noX (ρ1.set i none) = true ∧ fl.isExc = false then some (fl, ρ1.set i none) else none
    | none => none) else none) else none
def hdGo (sub : Str → Str → Option Bool) (c : Str) (fs : List (Str × D)) : List (Str × Option Nat × SM) → SM
  | [], ρ => some (.exc c fs, ρ)
  | (c2, oi, ms) :: r, ρ => (match sub c c2 with
    | some b => if b = true then suiteS oi c fs ms ρ else hdGo sub c fs r ρ
    | none => none)
def mTry (sub : Str → Str → Option Bool) (body : SM) (hs : List (Str × Option Nat × SM)) : SM := fun ρ => match body ρ with
  | some (.exc c fs, ρ1) => hdGo sub c fs hs ρ1
  | x => x
theorem zip_maps {fs : List (Str × D)} : (fs.map (·.1)).zip (fs.map (·.2)) = fs := by
  induction fs with
  | nil => rfl
  | cons x fs ih => simp [ih]
theorem suite_bare {ms : SM} {c : Str} {fs : List (Str × D)} {a : Addr} {cls : Value} {dx : Option Addr} {Dn : Ends} {fl : Fl} (e : suiteS none c fs ms ρ = some (fl, ρ')) (S : Sat F B g H σ ρ []) (p : FP g W P Dn F B H σ ρ' fl) :
    TSof ⟨g.mg, a, cls, dx, g.K⟩ (fun _ _ _ _ => False) P ms Dn σ H := by
  unfold suiteS at e
  split at e
  · rename_i n1
    dsimp only at e
    split at e
    · rename_i fl1 ρ1 e1
      split at e
      · rename_i hc
        cases e
        have back : ∀ {F' B' : Addr → Prop} {H' : Hp} {σ' : St} {T : Tm}, Sat F' B' ⟨g.mg, a, cls, dx, g.K⟩ H' σ' ρ' T → Sat F' B' g H' σ' ρ' T := fun S => Sat.cn (g := ⟨g.mg, a, cls, dx, g.K⟩) (g2 := g) ⟨rfl, rfl⟩ hc.1 S
        exact ⟨F, B, ρ, fl, ρ', Sat.cn (g := g) (g2 := ⟨g.mg, a, cls, dx, g.K⟩) ⟨rfl, rfl⟩ n1 S, e1, ⟨fun h F' B' H' σ' x q S' => p.nx h F' B' H' σ' x q (back S'), fun h F' B' H' σ' x q S' => p.bk h F' B' H' σ' x q (back S'), fun h F' B' H' σ' x q S' => p.ct h F' B' H' σ' x q (back S'),
          fun d h F' B' H' σ' v x q n S' => p.rt d h F' B' H' σ' v x q n (back S'), fun c fs h => by subst h; exact absurd hc.2 (by simp [Fl.isExc])⟩⟩
      · cases e
    · cases e
  · cases e
theorem suite_named {ms : SM} {i : Nat} {c : Str} {fs : List (Str × D)} {a : Addr} {cls : Value} {dx : Option Addr} {Dn : Ends} {fl : Fl} (hp : i ∉ P) (e : suiteS (some i) c fs ms ρ = some (fl, ρ')) (S : Sat F B g H σ ρ []) (xa : ExcAt F g H cls dx c fs) (p : FP g W P Dn F B H σ ρ' fl) :
    TSof ⟨g.mg, a, cls, dx, g.K⟩ (fun _ _ _ _ => False) P ms (endN i Dn) (σ.set i (some (.ref a))) H := by
  unfold suiteS at e
  split at e
  · rename_i n1
    dsimp only at e
    split at e
    · rename_i hi
      split at e
      · rename_i fl1 ρ1 e1
        split at e
        · rename_i hc
          cases e
          have S2 := (Sat.cn (g := g) (g2 := ⟨g.mg, a, cls, dx, g.K⟩) ⟨rfl, rfl⟩ n1 S).catch_ (c := c) (ns := fs.map (·.1)) (xs := fs.map (·.2)) hi (by rw [zip_maps]; exact ExcAt.cn (g := g) (g2 := ⟨g.mg, a, cls, dx, g.K⟩) ⟨rfl, rfl⟩ xa)
          have q2 : ∀ {σ2 : St}, (∀ j ∈ P, σ2[j]? = (σ.set i (some (.ref a)))[j]?) → ∀ j ∈ P, (σ2.set i none)[j]? = σ[j]? := fun {σ2} q j hj => by
            rw [setP hp j hj, q j hj, setP hp j hj]
          have back : ∀ {F' B' : Addr → Prop} {H' : Hp} {σ' : St} {T : Tm}, (∀ x ∈ T, ∀ j, x.2 ≠ .sl j) → Sat F' B' ⟨g.mg, a, cls, dx, g.K⟩ H' σ' ρ1 T → Sat F' B' g H' (σ'.set i none) (ρ1.set i none) T := fun nt S => Sat.cn (g := ⟨g.mg, a, cls, dx, g.K⟩) (g2 := g) ⟨rfl, rfl⟩ hc.1 (S.uncatch i nt)
          have nn : ∀ x ∈ ([] : Tm), ∀ j, x.2 ≠ .sl j := fun x hx => by cases hx
          exact ⟨F, B, _, fl, ρ1, S2, e1, ⟨fun h F' B' H' σ' x q S' => p.nx h F' B' H' _ x (q2 q) (back nn S'), fun h F' B' H' σ' x q S' => p.bk h F' B' H' _ x (q2 q) (back nn S'), fun h F' B' H' σ' x q S' => p.ct h F' B' H' _ x (q2 q) (back nn S'),
            fun d h F' B' H' σ' v x q n S' => p.rt d h F' B' H' (σ'.set i none) v x (q2 q) n (back (fun y hy => by
              have ey : y = (v, d) := by simpa using hy
              rw [ey]; exact n) S'), fun c fs h => by subst h; exact absurd hc.2 (by simp [Fl.isExc])⟩⟩
        · cases e
      · cases e
    · cases e
  · cases e
/-- the clauses with what they reckon -/
inductive HdsV (X : Cx) (g : Cn) (P : List Nat) : List ExceptHandler → List (Str × Option Nat × SM) → Prop
  | nil : HdsV X g P [] []
  | bare {x : Str} {C : Addr} {ms : SM} {b₀ : Stmt} {su : List Stmt} {p1 p2 : Pos} {hds : List ExceptHandler} {l : List (Str × Option Nat × SM)} (hg : Gl X x) (hm : X.mg x = some (.ref C)) (hdb : (x == ("__debug__" : Str)) = false)
      (hsu : ∀ (a : Addr) (ob : Obj) (cls : Value) (d : Option Addr) (pn : List (Addr × Obj)), Zc cls d ob → (∃ vs, ob.data = .fields vs) → VSs (X.suite a ((a, ob) :: pn)) ⟨g.mg, a, cls, d, g.K⟩ (fun _ _ _ _ => False) P (b₀ :: su) ms) (r : HdsV X g P hds l) :
      HdsV X g P (.ExceptHandler (some (.Name x p1)) none (b₀ :: su) p2 :: hds) ((x, none, ms) :: l)
  | named {x n : Str} {C : Addr} {i : Nat} {ms : SM} {b₀ : Stmt} {su : List Stmt} {p1 p2 : Pos} {hds : List ExceptHandler} {l : List (Str × Option Nat × SM)} (hg : Gl X x) (hm : X.mg x = some (.ref C)) (hdb : (x == ("__debug__" : Str)) = false) (hi : X.N[i]? = some n) (hln : X.env.kindOf n = some .local) (hp : i ∉ P)
      (hsu : ∀ (a : Addr) (ob : Obj) (cls : Value) (d : Option Addr) (pn : List (Addr × Obj)), Zc cls d ob → (∃ vs, ob.data = .fields vs) → VSs (X.suite a ((a, ob) :: pn)) ⟨g.mg, a, cls, d, g.K⟩ (fun _ _ _ _ => False) P (b₀ :: su) ms) (r : HdsV X g P hds l) :
      HdsV X g P (.ExceptHandler (some (.Name x p1)) (some n) (b₀ :: su) p2 :: hds) ((x, some i, ms) :: l)
theorem vs_try {body : List Stmt} {h0 : ExceptHandler} {hds : List ExceptHandler} {l : List (Str × Option Nat × SM)} {mb : SM} {sub : Str → Str → Option Bool} {pos : Pos} (hs : X.stack = X.env :: X.outer) (hf : X.env.frame = some X.env.locals) (hN : X.N.Nodup) (tk : Takes X W) (hgm : g.mg = X.mg)
    (hsub : ∀ (c c2 : Str) (b : Bool) (C C2 : Addr), sub c c2 = some b → X.mg c = some (.ref C) → X.mg c2 = some (.ref C2) → PySem.W.exmOne X.K (.ref C) (.ref C2) = some b)
    (hb : ∀ (Wi : WX) (pn : List (Addr × Obj)) (xe : Value → Shared → Prop), Takes (X.tr pn xe) Wi → PassesOwn (model X.prog X.w) X.A X.env xe → VSs (X.tr pn xe) g Wi P body mb) (hh : HdsV X g P (h0 :: hds) l) : VS X g W P (.Try body (h0 :: hds) [] [] pos) (mTry sub mb l) := by
  have key : ∀ {hs2 : List ExceptHandler} {l2 : List (Str × Option Nat × SM)}, HdsV X g P hs2 l2 → ∃ l3, HdsM X hs2 l3 ∧ ∀ (F B : Addr → Prop) (H : Hp) (σ : St) (ρ ρ' : Env) (Dn : Ends) (fl : Fl) (c : Str) (fs : List (Str × D)) (cls : Value) (dx : Option Addr), hdGo sub c fs l2 ρ = some (fl, ρ') → Sat F B g H σ ρ [] → ExcAt F g H cls dx c fs → FP g W P Dn F B H σ ρ' fl → wMix X.K W Dn l3 cls dx σ H := by
    intro hs2 l2 hk
    induction hk with
    | nil =>
      refine ⟨[], .nil, fun F B H σ ρ ρ' Dn fl c fs cls dx e S xa p => ?_⟩
      cases e
      exact p.xc c fs rfl F B H σ cls dx Ext.refl (fun _ _ => rfl) S xa
    | @bare x C ms b₀ su p1 p2 hds l hg hm hdb hsu r ih =>
      obtain ⟨l3, h3, k3⟩ := ih
      refine ⟨(.ref C, none, fun a cls d => TSof ⟨g.mg, a, cls, d, g.K⟩ (fun _ _ _ _ => False) P ms) :: l3, .bare ⟨hg, hdb, .inl hm⟩ hsu h3, fun F B H σ ρ ρ' Dn fl c fs cls dx e S xa p => ?_⟩
      unfold hdGo at e
      split at e
      · rename_i b eb
        obtain ⟨Cc, dd, fv, ec, _, emc, _⟩ := id xa
        have em := hsub c x b Cc C eb (by rw [← hgm]; exact emc) hm
        subst ec
        refine ⟨b, em, fun hb a _ => ?_, fun hb => ?_⟩
        · subst hb
          rw [if_pos rfl] at e
          exact suite_bare e S p
        · subst hb
          rw [if_neg Bool.false_ne_true] at e
          exact k3 F B H σ ρ ρ' Dn fl c fs _ dx e S xa p
      · cases e
    | @named x n C i ms b₀ su p1 p2 hds l hg hm hdb hi hln hp hsu r ih =>
      obtain ⟨l3, h3, k3⟩ := ih
      refine ⟨(.ref C, some i, fun a cls d => TSof ⟨g.mg, a, cls, d, g.K⟩ (fun _ _ _ _ => False) P ms) :: l3, .named ⟨hg, hdb, .inl hm⟩ hi hln hsu h3, fun F B H σ ρ ρ' Dn fl c fs cls dx e S xa p => ?_⟩
      unfold hdGo at e
      split at e
      · rename_i b eb
        obtain ⟨Cc, dd, fv, ec, _, emc, _⟩ := id xa
        have em := hsub c x b Cc C eb (by rw [← hgm]; exact emc) hm
        subst ec
        refine ⟨b, em, fun hb a _ => ?_, fun hb => ?_⟩
        · subst hb
          rw [if_pos rfl] at e
          exact suite_named hp e S xa p
        · subst hb
          rw [if_neg Bool.false_ne_true] at e
          exact k3 F B H σ ρ ρ' Dn fl c fs _ dx e S xa p
      · cases e
  obtain ⟨l3, h3, k3⟩ := key hh
  refine .mk (ps_try_mix hs hf hN tk hb h3) fun F B H σ ρ Dn fl ρ' S e p => ?_
  unfold mTry at e
  split at e
  · rename_i c fs ρ1 e1
    refine ⟨F, B, ρ, .exc c fs, ρ1, S, e1, ⟨fun h => (by cases h), fun h => (by cases h), fun h => (by cases h), fun d h => (by cases h), fun c' fs' h F' B' H' σ' cls dx x q S' xa => ?_⟩⟩
    cases h
    exact k3 F' B' H' σ' ρ1 ρ' Dn fl c fs cls dx e S' xa (p.shift x q)
  · rename_i z hn
    refine ⟨F, B, ρ, fl, ρ', S, e, ⟨p.nx, p.bk, p.ct, p.rt, fun c fs h => ?_⟩⟩
    subst h
    exact absurd e (hn c fs ρ')
/-- the field of what was caught -/
def mXf (ok : List Str) (i : Nat) (f : Str) : M D := fun ρ => match ρ[i]? with
  | some (some (.xc c ns xs)) => if c ∈ ok then (match (ns.zip xs).lookup f with
    | some d => some (.ok d, ρ)
    | none => none) else none
  | _ => none
theorem RS.getX : ∀ {σ : St} {ρ : Env} {fp : List Addr} {i : Nat} {d : D}, RS F g H σ ρ fp → ρ[i]? = some (some d) → ∃ v f, σ[i]? = some (some v) ∧ RX F g H d v f := fun h e => h.get e
theorem v_xf {a : Addr} {ob : Obj} {cls : Value} {dx : Option Addr} {pn : List (Addr × Obj)} {i : Nat} {x n : Str} {p pos : Pos} {mg : Str → Option Value} {ok : List Str} {K : PySem.W.Frag} (hz : Zc cls dx ob) (hfd : ∃ vs, ob.data = .fields vs) (hN : X.N[i]? = some x) (hv : Vis X.env.scope x)
    (hT : ∀ c C, c ∈ ok → mg c = some (.ref C) → XfC X.K C ∧ PySem.W.findIn X.K (.ref C) n = some none) (hd : (x == ("__debug__" : Str)) = false := by decide) (hcd : (x == ("__classdict__" : Str)) = false := by decide) : VE (X.suite a ((a, ob) :: pn)) ⟨mg, a, cls, dx, K⟩ W (.Attribute (.Name x p) n pos) (mXf ok i n) := by
  refine ⟨fun pins st σ H Q I ⟨F, B, ρ, T, r, ρ', S, e, px, k⟩ => ?_⟩
  unfold mXf at e
  split at e
  · rename_i c ns xs e1
    split at e
    · rename_i hc
      split at e
      · rename_i d e2
        cases e
        obtain ⟨⟨o1, o2, h1, _⟩, _, _⟩ := id S
        obtain ⟨v, f, hs, ev, xa, _⟩ := h1.getX e1
        obtain ⟨C, dd, fv, ec, ed, em, fd, hdd, hl⟩ := xa
        obtain ⟨u, hu, ru⟩ := hl n d e2
        have ec : cls = .ref C := ec
        obtain ⟨T1, hno⟩ := hT c C hc em
        have hx := pe_xf (X := X) (pos := pos) T1 hno hz hfd (pe_var (X := X.suite a ((a, ob) :: pn)) (i := i) (x := x) (pos := p) hN hv hd hcd) rfl
        exact hx.run pins st σ H Q I ⟨v, hs, ev, ec, dd, fv, u, ed, hdd, hu, k d rfl F B H u Ext.refl (S.push ru)⟩
      · cases e
    · cases e
  · cases e
end
end SV
end
section
set_option Elab.async false
set_option linter.all false
set_option autoImplicit false
set_option maxRecDepth 100000
set_option maxHeartbeats 4000000
namespace SV
open PySem PySem.Spec L2
/-! ### comprehensions -/
def wipeE (ρ : Env) : List Nat → Env
  | [] => ρ
  | v :: vs => (wipeE ρ vs).set v none
def lcL (f : D → Env → Option Env) (tt : M Bool) (el : M D) (vs : List Nat) : List D → List D → Env → Option (List D × Env)
  | [], acc, ρ => some (acc, ρ)
  | d :: ds, acc, ρ => (match f d ρ with
    | some ρ1 => (match tt ρ1 with
      | some (.ok b, ρ2) => if b = true then (match bnd el fOwn ρ2 with
        | some (.ok y, ρ3) => if acc.length < lim then lcL f tt el vs ds (acc ++ [y]) (wipeE ρ3 vs) else none
        | _ => none) else lcL f tt el vs ds acc (wipeE ρ2 vs)
      | _ => none)
    | none => none)
def mLc (m : M (List D)) (f : D → Env → Option Env) (tt : M Bool) (el : M D) (vs : List Nat) : M D := bnd m fun ds ρ => match lcL f tt el vs ds [] (wipeE ρ vs) with
  | some (acc, ρ') => some (.ok (.ol acc), ρ')
  | none => none
/-- all the slots below n but vs -/
def butP (n : Nat) (vs : List Nat) : List Nat := (List.range n).filter fun i => decide (i ∉ vs)
section
variable {F B F' B' : Addr → Prop} {g g2 : Cn} {W : WX} {P : List Nat} {H H' : Hp} {σ σ' : St} {ρ ρ' : Env} {T T' A : Tm} {v : V} {d : D} {X : Cx}
theorem RS.reslot : ∀ {σ σ' : St} {ρ : Env} {o : List Addr}, σ'.length = σ.length → (∀ (i : Nat) (d : D), ρ[i]? = some (some d) → σ'[i]? = σ[i]?) → RS F g H σ ρ o → RS F g H σ' ρ o
  | [], [], [], _, _, _, h => h
  | [], _ :: _, _, _, l, _, _ => by simp at l
  | _ :: _, [], _, _, l, _, _ => by simp at l
  | [], [], _ :: _, _, _, _, h => h.elim
  | _ :: _, _ :: _, [], _, _, _, h => h.elim
  | _ :: σ, _ :: σ', none :: ρ, _, l, k, h => RS.reslot (σ := σ) (σ' := σ') (ρ := ρ) (by simpa using l) (fun i d e => by simpa using k (i + 1) d (by simpa using e)) h
  | x :: σ, x' :: σ', some d :: ρ, _, l, k, ⟨v, f1, f2, e1, e2, h1, h2⟩ => by
    have e0 : x' = x := by simpa using k 0 d rfl
    exact ⟨v, f1, f2, e0.trans e1, e2, h1, RS.reslot (by simpa using l) (fun i d e => by simpa using k (i + 1) d (by simpa using e)) h2⟩
theorem Sat.reslot (S : Sat F B g H σ ρ T) (l : σ'.length = σ.length) (k : ∀ (i : Nat) (d : D), ρ[i]? = some (some d) → σ'[i]? = σ[i]?) (nt : ∀ x ∈ T, ∀ i, x.2 ≠ .sl i) : Sat F B g H σ' ρ T := by
  obtain ⟨⟨o1, o2, h1, h2, nd, nb⟩, fb, bt⟩ := S
  exact ⟨⟨o1, o2, h1.reslot l k, h2.env nt, nd, nb⟩, fb, bt⟩
theorem wipeE_get : ∀ {vs : List Nat} {i : Nat} {d : D}, (wipeE ρ vs)[i]? = some (some d) → ρ[i]? = some (some d) ∧ i ∉ vs
  | [], _, _, h => ⟨h, by simp⟩
  | v :: vs, i, d, h => by
    have h : ((wipeE ρ vs).set v none)[i]? = some (some d) := h
    by_cases hi : v = i
    · subst hi
      by_cases hv : v < (wipeE ρ vs).length
      · rw [List.getElem?_set_self hv] at h; cases h
      · rw [List.getElem?_eq_none (by simpa using hv)] at h; cases h
    · rw [List.getElem?_set_ne hi] at h
      obtain ⟨h1, h2⟩ := wipeE_get h
      exact ⟨h1, by simp only [List.mem_cons, not_or]; exact ⟨fun e => hi e.symm, h2⟩⟩
theorem wipe_get : ∀ {vs : List Nat} {i : Nat}, i ∉ vs → (wipe σ vs)[i]? = σ[i]?
  | [], _, _ => rfl
  | v :: vs, i, h => by
    have h' : i ≠ v ∧ i ∉ vs := by simpa using h
    show ((wipe σ vs).set v none)[i]? = σ[i]?
    rw [List.getElem?_set_ne (Ne.symm h'.1), wipe_get h'.2]
theorem wipe_in : ∀ {vs : List Nat} {i : Nat}, i ∈ vs → i < σ.length → (wipe σ vs)[i]? = some none
  | v :: vs, i, h, hl => by
    show ((wipe σ vs).set v none)[i]? = some none
    by_cases e : v = i
    · subst e
      rw [List.getElem?_set_self (by rw [wipe_length]; exact hl)]
    · rw [List.getElem?_set_ne e]
      have : i ∈ vs := (List.mem_cons.mp h).resolve_left (Ne.symm e)
      exact wipe_in this hl
theorem Sat.wipeE (S : Sat F B g H σ ρ T) : ∀ vs : List Nat, Sat F B g H σ (SV.wipeE ρ vs) T
  | [] => S
  | v :: vs => (Sat.wipeE S vs).forget v
/-- what is at hand is put aside while something goes on over the slots -/
theorem Sat.hide (S : Sat F B g H σ ρ T) : ∃ Bh : Addr → Prop, Sat F Bh g H σ ρ [] ∧ Ext F B H F Bh H ∧ ∀ (F' B' : Addr → Prop) (H' : Hp) (ρ' : Env) (T' : Tm), Ext F Bh H F' B' H' → Sat F' B' g H' σ ρ' T' → ∃ B'', Ext F B H F' B'' H' ∧ Sat F' B'' g H' σ ρ' (T' ++ T) := by
  obtain ⟨⟨o1, o2, h1, h2, nd, nb⟩, fb, bt⟩ := id S
  have hd := List.nodup_append.mp nd
  have c0 : ∀ a, B a → (∃ o, H a = some o) ∧ a ∉ o1 := fun a ha => ⟨bt a ha, fun z => nb a (by simp [z]) ha⟩
  have c2 : ∀ a ∈ o2, (∃ o, H a = some o) ∧ a ∉ o1 := fun a ha => ⟨h2.there a ha, fun z => hd.2.2 a z a ha rfl⟩
  refine ⟨fun a => (∃ o, H a = some o) ∧ a ∉ o1, ⟨⟨o1, [], h1, rfl, by simpa using hd.1, fun a ha z => z.2 (by simpa using ha)⟩, fun a ha => c0 a (fb a ha), fun a ha => ha.1⟩, ⟨fun _ h => h, c0, fun _ _ => rfl, fun _ h => .inl h⟩, fun F' B' H' ρ' T' x S' => ?_⟩
  obtain ⟨⟨p1, p2, k1, k2, nd', nb'⟩, fb', bt'⟩ := S'
  have ag : Ag F H F' H' := ⟨x.f, fun a ha => x.h a (c0 a (fb a ha))⟩
  have nF : ∀ a ∈ o2, ¬ F' a := fun a ha z => (x.n a z).elim (fun y => nb a (by simp [ha]) (fb a y)) fun y => y ⟨c2 a ha, h2.nt a ha⟩
  refine ⟨fun a => B a ∨ F' a, ⟨x.f, fun a ha => .inl ha, fun a ha => x.h a (c0 a ha), fun a ha => (x.n a ha).imp_right fun y z => y ⟨c0 a z.1, z.2⟩⟩, ⟨p1, p2 ++ o2, k1, k2.append (h2.mono ag fun a ha => x.h a (c2 a ha)), ?_, fun a ha => ?_⟩, fun a ha => .inr ha, fun a ha => ?_⟩
  · have hd' := List.nodup_append.mp nd'
    rw [← List.append_assoc]
    refine List.nodup_append.mpr ⟨nd', hd.2.1, fun a ha b hb z => ?_⟩
    subst z
    exact nb' a ha (x.b a (c2 a hb))
  · rw [← List.append_assoc] at ha
    rcases List.mem_append.mp ha with ha | ha
    · rintro (z | z)
      · exact nb' a ha (x.b a (c0 a z))
      · exact nb' a ha (fb' a z)
    · rintro (z | z)
      · exact nb a (by simp [ha]) z
      · exact nF a ha z
  · rcases ha with ha | ha
    · rw [x.h a (c0 a ha)]; exact bt a ha
    · exact bt' a (fb' a ha)
theorem sim_lc {wi : TI} {gt : TG} {tt : TT} {te : TE} {m : M (List D)} {f : D → Env → Option Env} {mt : M Bool} {el : M D} {vs : List Nat} {n : Nat} (hn : ∀ {F B : Addr → Prop} {H : Hp} {σ : St} {ρ : Env} {T : Tm}, Sat F B g H σ ρ T → True) (hi : SimI g W wi m) (hg : SimG g (butP n vs) gt f)
    (ht : SimT g (fun _ _ _ _ => False) tt mt) (he : SimE g (fun _ _ _ _ => False) te el) : ∀ (F B : Addr → Prop) (H : Hp) (σ : St) (ρ : Env) (T : Tm) (Q : VK) (r : Res D) (ρ' : Env), σ.length = n → Sat F B g H σ ρ T → mLc m f mt el vs ρ = some (r, ρ') → PX g W σ T F B H ρ' r →
  (∀ d, r = .ok d → ∀ F' B' H' v, Ext F B H F' B' H' → Sat F' B' g H' σ ρ' ((v, d) :: T) → Q v H') → tLc wi gt tt te vs σ H Q := fun F B H σ ρ T Q r ρ' ln S e px h => by
  obtain ⟨Bh, S0, xh, back⟩ := S.hide
  unfold mLc at e
  rcases bnd_some e with ⟨ds, ρ1, e1, e2⟩ | ⟨c, fs, e1, e2⟩
  · refine hi F Bh H σ ρ [] _ (.ok ds) ρ1 S0 e1 PX.ok fun ds' hd F1 B1 H1 J x1 S1 jo p hp => ?_
    cases hd
    split at e2
    · rename_i acc0 ρ2 e3
      cases e2
      have nt : ∀ {a : Addr} {acc : List D}, ∀ x ∈ ([(.ref a, .ol acc)] : Tm), ∀ i, x.2 ≠ .sl i := fun {a acc} x hx i z => by
        have ex : x = (.ref a, .ol acc) := by simpa using hx
        rw [ex] at z
        cases z
      -- the state of a turn: over the wiped slots
      have wl : (wipe σ vs).length = σ.length := wipe_length σ vs
      have toW : ∀ {F B : Addr → Prop} {H : Hp} {ρ : Env} {T : Tm}, (∀ x ∈ T, ∀ i, x.2 ≠ .sl i) → (∀ (i : Nat) (d : D), ρ[i]? = some (some d) → i ∉ vs) → Sat F B g H σ ρ T → Sat F B g H (wipe σ vs) ρ T := fun nt k S => S.reslot wl (fun i d e => wipe_get (k i d e)) nt
      have ofW : ∀ {F B : Addr → Prop} {H : Hp} {ρ : Env} {T : Tm} {σ2 : St}, σ2.length = σ.length → (∀ i, i ∉ vs → σ2[i]? = σ[i]?) → (∀ x ∈ T, ∀ i, x.2 ≠ .sl i) → (∀ (i : Nat) (d : D), ρ[i]? = some (some d) → i ∉ vs) → Sat F B g H σ2 ρ T → Sat F B g H σ ρ T := fun l q nt k S => S.reslot l.symm (fun i d e => (q i (k i d e)).symm) nt
      have S1w := (S1.wipeE vs)
      obtain ⟨F2, B2, x2, S2⟩ := (S1w).newLF (ds := []) (vs := []) rfl hp
      have kw : ∀ {ρ : Env} (i : Nat) (d : D), (wipeE ρ vs)[i]? = some (some d) → i ∉ vs := fun i d e => (wipeE_get e).2
      refine ⟨fun i k H2 => ∃ F3 B3 ρ3 acc, Ext F1 B1 H1 F3 B3 H2 ∧ Sat F3 B3 g H2 σ ρ3 [(.ref p, .ol acc)] ∧ (∀ (i : Nat) (d : D), ρ3[i]? = some (some d) → i ∉ vs) ∧ i ≤ ds.length ∧ k = ds.length - i ∧ lcL f mt el vs (ds.drop i) acc ρ3 = some (acc0, ρ'), ⟨ds.length, F2, B2, wipeE ρ1 vs, [], x2, S2, kw, Nat.zero_le _, rfl, e3⟩, ?_⟩
      rintro i k H2 ⟨F3, B3, ρ3, acc, x3, S3, k3, hil, rfl, e4⟩
      have S3w := toW nt k3 S3
      obtain ⟨j1, j2⟩ := jo F3 B3 H2 (wipe σ vs) ρ3 _ x3 S3w
      by_cases hlt : i < ds.length
      · obtain ⟨hgo, hy⟩ := j1 i ds[i] (by simp [hlt])
        refine .inr ⟨hgo, _, fun H' h => ⟨ds.length - (i + 1), by omega, h⟩, fun x H' yx => ?_⟩
        obtain ⟨F4, B4, x4, S4, r4⟩ := hy x H' yx
        rw [List.drop_eq_getElem_cons hlt] at e4
        unfold lcL at e4
        split at e4
        · rename_i ρ5 e5
          refine hg F4 B4 H' (wipe σ vs) ρ3 ρ5 _ x ds[i] _ nt S4 r4 e5 fun σ5 q5 S5 => ?_
          have l5 : σ5.length = σ.length := q5.1.trans wl
          have q5 := q5.2
          have q5' : ∀ i, i ∉ vs → σ5[i]? = σ[i]? := fun i hi => by
            by_cases hl : i < n
            · rw [q5 i (List.mem_filter.mpr ⟨List.mem_range.mpr hl, by simpa using hi⟩), wipe_get hi]
            · rw [List.getElem?_eq_none (by omega), List.getElem?_eq_none (by omega)]
          refine ⟨?_, ?_⟩
          · apply List.ext_getElem?
            intro i
            by_cases hi : i ∈ vs
            · by_cases hl : i < σ.length
              · rw [wipe_in hi (by omega), wipe_in hi hl]
              · rw [List.getElem?_eq_none (by rw [wipe_length]; omega), List.getElem?_eq_none (by rw [wipe_length]; omega)]
            · rw [wipe_get hi, wipe_get hi, q5' i hi]
          · split at e4
            · rename_i b ρ6 e6
              refine ht F4 B4 H' σ5 ρ5 _ _ (.ok b) ρ6 S5 e6 PX.ok fun b' hb F6 B6 H6 x6 S6 => ?_
              cases hb
              cases b with
              | true =>
                rw [if_pos rfl] at e4 ⊢
                split at e4
                · rename_i y ρ7 e7
                  split at e4
                  · rename_i hlim
                    rcases bnd_some e7 with ⟨y0, ρ0, e8, e9⟩ | ⟨c, fs, e8, e9⟩
                    · refine he F6 B6 H6 σ5 ρ6 _ _ (.ok y0) ρ0 S6 e8 PX.ok fun y' hy F7 B7 H7 u x7 S7 => ?_
                      cases hy
                      obtain ⟨y1, hy1, n1, F8, B8, x8, S8⟩ := S7.fOwn e9
                      cases hy1
                      have S8' : Sat F8 B8 g H7 σ5 ρ7 ((.ref p, .ol acc) :: ([u].zip [y] ++ [])) := S8.perm (List.Perm.swap _ _ _)
                      obtain ⟨⟨o1, o2, k1, k2, _, _⟩, _, _⟩ := id S8'
                      obtain ⟨f1, f2, _, m1, m2⟩ := k2
                      obtain ⟨p', us, f3, em, _, hpp, m3⟩ := (m1.own (fun i z => by cases z) : RepO F8 g H7 (.ol acc) (.ref p) f1)
                      cases em
                      obtain ⟨F9, B9, x9, S9⟩ := Sat.updL (ds := acc) (es := [y]) (nd := acc ++ [y]) (od := []) (ws := [u]) (nv := us ++ [u]) (ov := []) (T := []) (vs := us) rfl (fun d hd i z => by
                        have ed : d = y := by simpa using hd
                        rw [ed] at z
                        exact n1 i z) S8' hpp (fun f0 g0 q1 q2 => ⟨f0 ++ g0, [], [], q1.append q2, ⟨rfl, rfl⟩, by simp⟩)
                      have S9' : Sat F9 B9 g (upd H7 p (.lst (us ++ [u]))) σ5 (wipeE ρ7 vs) [(.ref p, .ol (acc ++ [y]))] := Sat.wipeE S9 vs
                      have S10 := ofW l5 q5' nt (kw (ρ := ρ7)) S9'
                      exact ⟨us, hpp, by rw [lim_eq, ← m3.length]; exact hlim, F9, B9, wipeE ρ7 vs, acc ++ [y], ((((x3.trans x4).trans x6).trans x7).trans x8).trans x9, S10, kw, hlt, rfl, e4⟩
                    · cases e9
                  · cases e4
                · cases e4
              | false =>
                rw [if_neg Bool.false_ne_true] at e4 ⊢
                exact ⟨F6, B6, wipeE ρ6 vs, acc, (x3.trans x4).trans x6, ofW l5 q5' nt kw (Sat.wipeE S6 vs), kw, hlt, rfl, e4⟩
            · cases e4
        · cases e4
      · have ei : i = ds.length := by omega
        subst ei
        rw [List.drop_length] at e4
        cases e4
        refine .inl ⟨j2, ?_⟩
        obtain ⟨B5, x5, S5⟩ := back F3 B3 H2 ρ' _ (x1.trans x3) S3
        exact h _ rfl F3 B5 H2 _ x5 S5
    · cases e2
  · cases r with
    | ok d => cases e2
    | exc c' fs' =>
      cases e2
      refine hi F Bh H σ ρ [] _ (.exc c fs) _ S0 e1 (fun c2 fs2 e3 F2 B2 H2 cls dx x2 S2 xa => ?_) fun d hd => by cases hd
      cases e3
      obtain ⟨B3, x3, S3⟩ := back F2 B2 H2 ρ' [] x2 S2
      exact px c fs rfl F2 B3 H2 cls dx x3 S3 xa
/-- a comprehension's test -/
def VTs (X : Cx) (g : Cn) (W : WX) (ifs : List Expr) (m : M Bool) : Prop := PTs X ifs (TTof g W m)
theorem vts_nil : VTs X g W [] (ret true) := ⟨fun pins st σ H Q I ⟨F, B, ρ, T, r, ρ', S, e, px, k⟩ => by
  cases e
  exact pts_nil.run pins st σ H Q I (k true rfl F B H Ext.refl S)⟩
theorem vts_one {c : Expr} {m : M Bool} (h : VT X g W c m) : VTs X g W [c] m := pts_one h
theorem v_lc {elt tg iter : Expr} {ifs : List Expr} {scope : Scope} {own : List (Str × Nat)} {pos : Pos} {m : M (List D)} {f : D → Env → Option Env} {mt : M Bool} {el : M D} (hc : X.calm = true) (hN : X.N.Nodup) (hi : VI X g W tg iter m) (ok : BlkOk X.N X.env.scope scope own)
    (hg : ∀ (s : Shared) (H : Hp) (C : Addr) (cl : List (Str × Addr)) (fp : List Addr), VG (X.blk s H scope (compEnvC scope cl C X.env) fp) g (butP X.N.length (own.map (·.2))) tg f) (ht : ∀ (s : Shared) (H : Hp) (C : Addr) (cl : List (Str × Addr)) (fp : List Addr), VTs (X.blk s H scope (compEnvC scope cl C X.env) fp) g (fun _ _ _ _ => False) ifs mt)
    (he : ∀ (s : Shared) (H : Hp) (C : Addr) (cl : List (Str × Addr)) (fp : List Addr), VE (X.blk s H scope (compEnvC scope cl C X.env) fp) g (fun _ _ _ _ => False) elt el) (hs : ∀ x, foldedSetIterable iter X.env x = pure x := by intro _; rfl) :
    VE X g W (.ListComp elt [⟨tg, iter, ifs, 0⟩] scope pos) (mLc m f mt el (own.map (·.2))) := ⟨fun pins st σ H Q I ⟨F, B, ρ, T, r, ρ', S, e, px, k⟩ => (pe_lc hc hN hi ok hg ht he hs).run pins st σ H Q I (sim_lc (n := X.N.length) (fun _ => trivial) selfI selfG selfT selfE F B H σ ρ T Q r ρ' I.len S e px k)⟩
/-- x = [..] -/
theorem vs_setLc {i : Nat} {y : Str} {py : Pos} {elt tg iter : Expr} {ifs : List Expr} {scope : Scope} {own : List (Str × Nat)} {pos spos : Pos} {m : M (List D)} {f : D → Env → Option Env} {mt : M Bool} {el : M D} (hc : X.calm = true) (hN : X.N.Nodup) (hy : X.N[i]? = some y) (hyl : X.env.scope.names.lookup y = some .local) (hp : i ∉ P)
    (hsw : swapsWith (.ListComp elt [⟨tg, iter, ifs, 0⟩] scope pos) (some (.Name y py)) spos.line X.env = pure true) (hi : VI X g W tg iter m) (ok : BlkOk X.N X.env.scope scope own)
    (hg : ∀ (s : Shared) (H : Hp) (C : Addr) (cl : List (Str × Addr)) (fp : List Addr), VG (X.blk s H scope (compEnvC scope cl C X.env) fp) g (butP X.N.length (own.map (·.2))) tg f) (ht : ∀ (s : Shared) (H : Hp) (C : Addr) (cl : List (Str × Addr)) (fp : List Addr), VTs (X.blk s H scope (compEnvC scope cl C X.env) fp) g (fun _ _ _ _ => False) ifs mt)
    (he : ∀ (s : Shared) (H : Hp) (C : Addr) (cl : List (Str × Addr)) (fp : List Addr), VE (X.blk s H scope (compEnvC scope cl C X.env) fp) g (fun _ _ _ _ => False) elt el) (hs : ∀ x, foldedSetIterable iter X.env x = pure x := by intro _; rfl) :
    VS X g W P (.Assign [.Name y py] (.ListComp elt [⟨tg, iter, ifs, 0⟩] scope pos) spos) (mSet i (mLc m f mt el (own.map (·.2)))) := ⟨fun pins st σ H Dn I ⟨F, B, ρ, fl, ρ', S, e, p⟩ => (ps_setLc hc hN hy hyl hsw hi ok hg ht he hs).run pins st σ H Dn I (by
  unfold mSet bndS at e
  split at e
  · rename_i d ρ1 e1
    rcases bnd_some e1 with ⟨d0, ρ0, e2, e3⟩ | ⟨c, fs, e2, e3⟩
    · refine sim_lc (n := X.N.length) (fun _ => trivial) selfI selfG selfT selfE F B H σ ρ [] _ (.ok d0) ρ0 I.len S e2 PX.ok fun d1 hd F1 B1 H1 v x S1 => ?_
      cases hd
      obtain ⟨d', hd', nd, S2⟩ := S1.fMove e3
      cases hd'
      unfold stS at e
      dsimp only at e
      split at e
      · rename_i hl
        cases e
        exact p.nx rfl F1 B1 H1 _ x (setP hp) (S2.put nd hl (.inr fun x hx => by cases hx))
      · cases e
    · cases e3
  · rename_i c fs ρ1 e1
    cases e
    rcases bnd_some e1 with ⟨d0, ρ0, e2, e3⟩ | ⟨c, fs, e2, e3⟩
    · refine sim_lc (n := X.N.length) (fun _ => trivial) selfI selfG selfT selfE F B H σ ρ [] _ (.ok d0) ρ0 I.len S e2 PX.ok fun d1 hd F1 B1 H1 v x S1 => ?_
      cases hd
      obtain ⟨d', hd', _, S2⟩ := S1.fMove e3
      cases hd'
    · cases e3
      exact sim_lc (n := X.N.length) (fun _ => trivial) selfI selfG selfT selfE F B H σ ρ [] _ (.exc _ _) _ I.len S e2 p.px fun d hd => by cases hd
  · cases e)⟩
end
end SV
end
section
set_option Elab.async false
set_option linter.all false
set_option autoImplicit false
set_option maxRecDepth 100000
set_option maxHeartbeats 4000000
namespace PySem
/-- enumerate(v) of one argument: its two new cells -/
theorem meets_enum_one {v : Value} {o : Obj} {H : Heap → Prop} (B : Begins v o H) :
    Meets (Builtin.«enumerate.__new__» ⟨[.type "enumerate", v], []⟩) (fun _ R s => H s.heap ∧
      R (.ok (.ret (.ref (s.heap.push o).objs.size))) { s with heap := (s.heap.push o).push { cls := .type "enumerate", data := .fields #[.none, .bool false, .ref s.heap.objs.size, rawInt 0, .none, .none] } }) :=
  .of_wp fun prog w A R s h => by
    obtain ⟨hp, g, d, tk, os⟩ := s
    obtain ⟨h1, h⟩ := h
    have hsub := sub_enumerate
    have q1 : ∀ {A' : Around} {E : Value → Shared → Prop} {Q : Value → Shared → Prop}, Q (.ref hp.objs.size) ⟨hp.push o, g, d, tk, os⟩ → wpAny (model prog w) A' (pyIter v) Q E ⟨hp, g, d, tk, os⟩ :=
      fun q => B.iter prog w _ _ ⟨hp, g, d, tk, os⟩ _ h1 q
    wp_walk
    refine wpAny_stack_any fun st => wpAny_pure ?_
    split
    · rename_i c _ _ _ _ _
      cases (c == Value.type "enumerate")
      · wp_walk using q1
        exact ⟨_, rfl, h⟩
      · wp_walk using q1
        exact ⟨_, rfl, h⟩
    · wp_walk using q1
      exact ⟨_, rfl, h⟩
theorem enum_starts {prog : Program} {w : World} {A : Around} {E : Value → Shared → Prop} {s : Shared} {v : Value} {o : Obj} {H : Heap → Prop} {Q : Value → Shared → Prop} (B : Begins v o H) (h1 : H s.heap)
    (h : ∀ h', IsEnum h' (s.heap.objs.size + 1) s.heap.objs.size 0 .none → h'.get? s.heap.objs.size = some o → h'.objs.size = s.heap.objs.size + 2 → (∀ b o, s.heap.get? b = some o → h'.get? b = some o) → Q (.ref (s.heap.objs.size + 1)) { s with heap := h' }) :
    wpAny (model prog w) A (call (.type "enumerate") [v]) Q E s := by
  refine callType_new F.called_enumerate (by decide) (F.typeCall_enumerate_1 _) (F.newCall_enumerate_1 _) (fun obj => F.args_object_init_2 obj _) F.entry_enumerate_new (meets_enum_one B) ⟨h1, ?_⟩
  have hz : (s.heap.push o).objs.size = s.heap.objs.size + 1 := Heap.size_push ..
  show _ ∧ _
  rw [hz]
  have he : IsEnum ((s.heap.push o).push { cls := .type "enumerate", data := .fields #[.none, .bool false, .ref s.heap.objs.size, rawInt 0, .none, .none] }) (s.heap.objs.size + 1) s.heap.objs.size 0 .none := by
    have z := Heap.get?_push_size (s.heap.push o) (o := { cls := .type "enumerate", data := .fields #[.none, .bool false, .ref s.heap.objs.size, rawInt 0, .none, .none] }) rfl
    rw [hz] at z; exact z
  exact ⟨⟨_, he, rfl⟩, h _ he (Heap.get?_push_of_some _ (Heap.get?_push_size _ B.free)) (by rw [Heap.size_push, hz]) fun b o x => Heap.get?_push_of_some _ (Heap.get?_push_of_some _ x)⟩
end PySem
namespace SV
open PySem PySem.Spec L2
/-! ### enumerate(tuple) -/
def Jte (K : PySem.W.Frag) (a : Addr) : It :=
  ⟨fun i H => ∃ (xs : List V) (x : V), SqT K H a xs ∧ xs[i]? = some x, fun i H v H' => ∃ T x, v = .ref T ∧ H T = none ∧ H' = upd H T (.tup [.int (i : Nat), x]) ∧ ∀ xs, SqT K H a xs → xs[i]? = some x, fun i H => ∃ xs : List V, SqT K H a xs ∧ xs.length ≤ i⟩
theorem enum_endT {prog : Program} {w : World} {A : Around} {E : Value → Shared → Prop} {s : Shared} {e it l : Addr} {i : Nat} {items : Array Value} {old : Value} {Q : Option Value → Shared → Prop} (hh : A.handled = none)
    (he : IsEnum s.heap e it i old) (hit : s.heap.IsTupleIter it l i) (hl : s.heap.IsTuple l items) (hx : items[i]? = none)
    (hQ : ∀ h', Heap.ExtBut it s.heap h' → Q none { s with heap := h' }) : wpAny (model prog w) A (pyNext (.ref e)) Q E s := by
  have hT : s.TypeIs (.ref e) "enumerate" := ⟨_, he, rfl⟩
  unfold pyNext
  refine wpAny_bind (wpAny_attempt (wpAny_callSpecial?_slot (name := Str.ofString "__next__") hT F.slot_enumerate_next (wpAny_call_entry F.slot_enumerate_next hT F.entry_enumerate_next ?_ (F.args_enumerate_next_1 _))))
  show wpAny _ _ (field (.ref e) 2 >>= _) _ _ _
  refine wpAny_bind (wpAny_field he rfl (x := .ref it) rfl ?_)
  refine wpAny_bind (wpAny_nextOf_tuple_end hh hit hl hx fun h' x he' hx' => ?_)
  obtain ⟨o, ho, hc⟩ := hx'
  refine wpAny_bind (wpAny_isInstance (T := "StopIteration") (b := true) ⟨o, ho, hc⟩ isSubtype_stop ?_)
  exact wpAny_pure (hQ _ he')
theorem turn_enumT {P : Program} {w : World} {K : PySem.W.Frag} {elts : List Expr} {kk : Nat} {tpos : Pos} (a e it : Addr) (hai : a ≠ it) (hae : a ≠ e) :
    Turn P w K (.Tuple elts kk tpos) (Jte K a) [e, it] e (fun i h => (∃ old, IsEnum h e it ((i : Nat) : Int) old) ∧ h.IsTupleIter it a i ∧ e ≠ it) where
  mem := by simp
  obj := fun i h st b hb => by
    obtain ⟨⟨old, he⟩, ⟨o, ho, hc, hd⟩, _⟩ := st
    have e' : b = e ∨ b = it := by simpa using hb
    rcases e' with z | z
    · rw [z]; exact ⟨_, he, fun v q => nomatch q⟩
    · rw [z]; exact ⟨o, ho, fun v q => by rw [hd] at q; cases q⟩
  keep := fun i h h' st k => let ⟨⟨old, he⟩, hi, hne⟩ := st; ⟨⟨old, k e (by simp) _ he⟩, hi.at fun o q => k it (by simp) o q, hne⟩
  item := by
    intro X hP hw hK hc i pins s σ H E I hf st hg
    subst hP hw hK
    obtain ⟨⟨old, he⟩, hit, hne⟩ := st
    obtain ⟨xs, x, hq, hx⟩ := hg
    obtain ⟨its, rv, p⟩ := I.tuple hq
    obtain ⟨u, hu, ru⟩ := rv.get hx
    have hel : e < s.heap.objs.size := Heap.lt_size he
    have hil : it < s.heap.objs.size := by obtain ⟨_, q, _⟩ := hit; exact Heap.lt_size q
    have hl := rv.length
    have D := Draws.tuple (prog := X.prog) (w := X.w) (A := X.A.in1) (I.ok.hd hc) it a hai its.toArray
    have hi : i < xs.length := (List.getElem?_eq_some_iff.mp hx).1
    refine wpAny_pyNext_enum_itemD D he ⟨hit, p.1⟩ (by simp; omega) hne (by simp [hne, Ne.symm hae]) fun u' h' tk' hP' ho hit' hT hsz hk => ?_
    have eu : u' = u := by
      have z : some u' = some u := by rw [← hP']; simpa using hu
      exact Option.some.inj z
    subst eu
    refine ⟨_, rfl, wpAny_letOwnedTupleGo_enum (s := { s with heap := h', toks := tk' + 1 }) ho fun h'' he' sb => ?_⟩
    have hT2 : h''.get? s.heap.objs.size = some { cls := .type "tuple", data := .seq #[.int i tk', u'] } := (sb.2 _ (Nat.ne_of_gt hel)).trans hT
    have new : ObjOk X.prog X.w (upd H s.heap.objs.size (.tup [.int (i : Nat), x])) h'' s.heap.objs.size (.tup [.int (i : Nat), x]) :=
      ⟨by show 2 ≤ sizeLine; decide, [.int i tk', u'], .cons ⟨_, rfl⟩ (.cons ru .nil), ⟨_, hT2, rfl, _, rfl⟩⟩
    have I1 : Inv X pins σ (upd H s.heap.objs.size (.tup [.int (i : Nat), x])) { s with heap := h'', toks := tk' + 1 } :=
      I.turnedNew (ch := [e, it]) (fun b ob hb q => (sb.2 b (fun z => hb (by simp [z]))).trans (hk b ob (fun z => hb (by simp [z])) (fun z => hb (by simp [z])) q)) hf (Nat.le_refl _) new
    refine ⟨.ref s.heap.objs.size, _, I1, rfl, ⟨_, x, rfl, I.hok.fresh (Nat.le_refl _), rfl, fun ys hy => by rw [I.tuple_inj hy hq]; exact hx⟩, ⟨⟨u', ?_⟩, hit'.1.at fun o q => (sb.2 it (Ne.symm hne)).trans q, hne⟩, fun b hb => ?_⟩
    · have e1 : ((i + 1 : Nat) : Int) = (i : Int) + 1 := by omega
      rw [e1]; exact he'
    · have hb' : b < s.heap.objs.size := by
        have e' : b = e ∨ b = it := by simpa using hb
        rcases e' with z | z
        · rw [z]; exact hel
        · rw [z]; exact hil
      rw [upd_ne (Nat.ne_of_lt hb')]
      exact (hf b hb).1
  done := by
    intro X hP hw hK hc i pins s σ H E I hf st hg
    subst hP hw hK
    obtain ⟨⟨old, he⟩, hit, hne⟩ := st
    obtain ⟨xs, hq, hx⟩ := hg
    obtain ⟨its, rv, p⟩ := I.tuple hq
    obtain ⟨f0, f1, f2, f3, f4, f5⟩ := hf it (by simp)
    have hl := rv.length
    have D := Draws.tuple (prog := X.prog) (w := X.w) (A := X.A.in1) (I.ok.hd hc) it a hai its.toArray
    have hsz : i < its.toArray.size ∨ its.toArray.size ≤ i := Nat.lt_or_ge _ _
    exact SV.enum_endT (I.ok.hd hc) he hit p.1 (by simp; omega) fun h' eb => ⟨rfl, I.turned (t' := s.toks) (fun b o hb q => eb b o hb q) f0 f1 f3 f4 f5⟩
  self := fun A i s Q E st h => let ⟨⟨_, he⟩, _⟩ := st; wpAny_pyIter_enum he h
def iEnumT (K : PySem.W.Frag) (ta : TA) : TI := fun σ H R => ta σ H fun vs H1 => ∃ a xs, vs = [.ref a] ∧ SqT K H1 a xs ∧ R (Jte K a) H1
theorem pi_enumT {X : Cx} {e : Expr} {ta : TA} {p pos tpos : Pos} {elts : List Expr} {kk : Nat} (hg : Gl X "enumerate") (hm : X.mg "enumerate" = none) (ha : PA X [e] ta) (hs : starEach [e] X.env = [(false, eval e X.env)] := by rfl) :
    PI X (.Tuple elts kk tpos) (.Call (.Name "enumerate" p) [e] [] pos) (iEnumT X.K ta) := by
  refine ⟨fun pins s σ H R I h => ?_⟩
  refine PyProof.Rows.Call_ (ld_blt I hg hm PyProof.Rows.boot_enumerate (PyProof.Rows.callWith_type1 (thn (ha.run pos pins s σ H _ I h) fun us s1 ⟨vs, H1, I1, r1, q1⟩ => ?_) hs rfl))
  obtain ⟨a, xs, ex, hq, q⟩ := q1
  subst ex
  cases r1 with
  | cons r rr =>
    cases rr
    cases r
    obtain ⟨its, rv, p'⟩ := I1.tuple hq
    have hla : a < s1.heap.objs.size := by obtain ⟨_, q, _⟩ := p'.1; exact Heap.lt_size q
    refine PySem.enum_starts (begins_tuple a its.toArray) p'.1 fun h' he hit hsz hk => wpAny_pyIter_enum he ?_
    have I2 : Inv X pins σ H1 { s1 with heap := h' } := I1.kept (t' := s1.toks) hk
    refine ⟨s1.heap.objs.size + 1, [s1.heap.objs.size + 1, s1.heap.objs.size], _, _, H1, rfl, I2, turn_enumT a (s1.heap.objs.size + 1) s1.heap.objs.size (Nat.ne_of_lt hla) (Nat.ne_of_lt (Nat.lt_succ_of_lt hla)), ⟨⟨.none, he⟩, ⟨_, hit, rfl, rfl⟩, Nat.succ_ne_self _⟩, fun b hb => ?_, q⟩
    have e' : b = s1.heap.objs.size + 1 ∨ b = s1.heap.objs.size := by simpa using hb
    have hle : s1.heap.objs.size ≤ b := by
      rcases e' with z | z
      · rw [z]; exact Nat.le_add_right _ _
      · rw [z]; exact Nat.le_refl _
    exact I1.fpOk hle (I1.hok.fresh hle)
/-! ### in the value layer -/
def enumF : Nat → List D → List D
  | _, [] => []
  | i, d :: ds => .tup [.int (i : Nat), d] :: enumF (i + 1) ds
theorem enumF_length : ∀ (ds : List D) (i : Nat), (enumF i ds).length = ds.length
  | [], _ => rfl
  | _ :: ds, i => by simp [enumF, enumF_length ds (i + 1)]
theorem enumF_get : ∀ {ds : List D} {i j : Nat} {d : D}, (enumF i ds)[j]? = some d → ∃ y, ds[j]? = some y ∧ d = .tup [.int ((i + j : Nat)), y]
  | [], _, _, _, h => by simp [enumF] at h
  | y :: ds, i, 0, d, h => by
    simp [enumF] at h
    exact ⟨y, rfl, h.symm⟩
  | y :: ds, i, j + 1, d, h => by
    simp [enumF] at h
    obtain ⟨z, h1, h2⟩ := enumF_get h
    exact ⟨z, by simpa using h1, by rw [h2, show i + 1 + j = i + (j + 1) from by omega]⟩
section
variable {X : Cx} {g : Cn} {W : WX} {F B : Addr → Prop} {H : Hp}
theorem Sat.newPair {p : Addr} {σ : St} {ρ : Env} {T : Tm} {ds : List D} {vs : List V} (S : Sat F B g H σ ρ T) (r : Reps F g H ds vs) (hp : H p = none) :
    ∃ F' B', Ext F B H F' B' (upd H p (.tup vs)) ∧ Sat F' B' g (upd H p (.tup vs)) σ ρ T ∧ Rep F' g (upd H p (.tup vs)) (.tup ds) (.ref p) := by
  obtain ⟨F3, B3, x3, S3, fp⟩ := S.newF (o := .tup vs) hp
  exact ⟨F3, B3, x3, S3, p, vs, rfl, fp, upd_same, Reps.mono (x3.ag S.fb) _ _ r⟩
theorem jel {a : Addr} {vs : List V} {ds : List D} (r : Reps F g H ds vs) (h : LAt F g H a vs) (fb : ∀ a, F a → B a) : JOk g F B H (Ite g.K a) (enumF 0 ds) := fun F2 B2 H2 σ ρ T x S => by
  have hs : SqL g.K H2 a vs := h.sql fb x
  have r2 := Reps.mono (x.ag fb) _ _ r
  refine ⟨fun i d hd => ?_, ⟨vs, hs, by rw [enumF_length, r.length]; exact Nat.le_refl _⟩⟩
  obtain ⟨y0, hy0, rfl⟩ := enumF_get hd
  obtain ⟨v, hv, rv⟩ := r2.get hy0
  refine ⟨⟨vs, v, hs, hv⟩, fun y H' ⟨p, x1, e1, hp, e2, hy⟩ => ?_⟩
  subst e1 e2
  have ey := hy vs hs
  rw [hv] at ey
  cases ey
  rw [Nat.zero_add]
  exact S.newPair ⟨_, _, rfl, rfl, _, _, rfl, rv, rfl⟩ hp
theorem jet {K : PySem.W.Frag} {a : Addr} {vs : List V} {ds : List D} (r : Reps F g H ds vs) (fa : F a) (h : H a = some (.tup vs)) (fb : ∀ a, F a → B a) : JOk g F B H (Jte K a) (enumF 0 ds) := fun F2 B2 H2 σ ρ T x S => by
  have e : H2 a = H a := x.h a (fb a fa)
  have hs : SqT K H2 a vs := .inl (.inl (by rw [e]; exact h))
  have r2 := Reps.mono (x.ag fb) _ _ r
  refine ⟨fun i d hd => ?_, ⟨vs, hs, by rw [enumF_length, r.length]; exact Nat.le_refl _⟩⟩
  obtain ⟨y0, hy0, rfl⟩ := enumF_get hd
  obtain ⟨v, hv, rv⟩ := r2.get hy0
  refine ⟨⟨vs, v, hs, hv⟩, fun y H' ⟨p, x1, e1, hp, e2, hy⟩ => ?_⟩
  subst e1 e2
  have ey := hy vs hs
  rw [hv] at ey
  cases ey
  rw [Nat.zero_add]
  exact S.newPair ⟨_, _, rfl, rfl, _, _, rfl, rv, rfl⟩ hp
def fEnum : List D → M (List D)
  | [d] => bnd (fSeq d) fun z => ret (enumF 0 z.2)
  | _ => stuck
theorem sim_enum {K : PySem.W.Frag} {t : TA} {a : M (List D)} (hK : g.K = K) (ha : SimA g W t a) : SimI g W (fun σ H R => iEnum K t σ H R ∨ iEnumT K t σ H R) (bnd a fEnum) := fun F B H σ ρ T R r ρ' S e px h => by
  subst hK
  rcases bnd_some e with ⟨ds, ρ1, e1, e2⟩ | ⟨c, fs, e1, e2⟩
  · unfold fEnum at e2
    split at e2
    · rename_i d
      rcases bnd_some e2 with ⟨z, ρ2, e3, e4⟩ | ⟨c, fs, e3, e4⟩
      · cases e4
        obtain ⟨b, xs⟩ := z
        cases b with
        | true =>
          refine .inr (ha F B H σ ρ T _ (.ok [d]) ρ1 S e1 PX.ok fun d' hd F1 B1 H1 vs x1 l S1 => ?_)
          cases hd
          obtain ⟨v, rfl⟩ : ∃ v, vs = [v] := by match vs, l with | [v], _ => exact ⟨v, rfl⟩
          obtain ⟨b, ys, ez, F2, B2, x2, S2, a, vs, rfl, r2, q⟩ := S1.fSeq (K := g.K) e3
          cases ez
          obtain ⟨fa, q⟩ := q
          exact ⟨a, vs, rfl, .inl (.inl q), h _ rfl F2 B2 H1 _ (x1.trans x2) S2 (jet r2 fa q S2.fb)⟩
        | false =>
          refine .inl (ha F B H σ ρ T _ (.ok [d]) ρ1 S e1 PX.ok fun d' hd F1 B1 H1 vs x1 l S1 => ?_)
          cases hd
          obtain ⟨v, rfl⟩ : ∃ v, vs = [v] := by match vs, l with | [v], _ => exact ⟨v, rfl⟩
          obtain ⟨b, ys, ez, F2, B2, x2, S2, a, vs, rfl, r2, q⟩ := S1.fSeq (K := g.K) e3
          cases ez
          exact ⟨a, vs, rfl, LAt.sql q S2.fb Ext.refl, h _ rfl F2 B2 H1 _ (x1.trans x2) S2 (jel r2 q S2.fb)⟩
      · refine .inl (ha F B H σ ρ T _ (.ok [d]) ρ1 S e1 PX.ok fun d' hd F1 B1 H1 vs x1 l S1 => ?_)
        cases hd
        obtain ⟨v, rfl⟩ : ∃ v, vs = [v] := by match vs, l with | [v], _ => exact ⟨v, rfl⟩
        obtain ⟨b, ys, ez, _⟩ := S1.fSeq (K := g.K) e3
        cases ez
    · cases e2
  · cases r with
    | ok d => cases e2
    | exc c' fs' =>
      cases e2
      exact .inl (ha F B H σ ρ T _ (.exc c fs) _ S e1 px.cast fun d' hd => by cases hd)
theorem vi_enum {elts : List Expr} {kk : Nat} {tpos : Pos} {a : Expr} {m : M (List D)} {p pos : Pos} (hK : g.K = X.K) (hg : Gl X "enumerate") (hm : X.mg "enumerate" = none) (ha : VA X g W [a] m) (hs : starEach [a] X.env = [(false, eval a X.env)] := by rfl) : VI X g W (.Tuple elts kk tpos) (.Call (.Name "enumerate" p) [a] [] pos) (bnd m fEnum) := .mk (PI.or (pi_enum hg hm ha hs) (pi_enumT hg hm ha hs)) (sim_enum hK selfA)
end
end SV
end
section
set_option Elab.async false
set_option linter.all false
set_option autoImplicit false
set_option maxRecDepth 100000
set_option maxHeartbeats 4000000
namespace SV
open PySem PySem.Spec L2
/-! ### isinstance(x, C), isinstance(x, (C, ..)): built-in types -/
inductive Ty where
  | non | bl | int | str | tup | lst | dct
  deriving DecidableEq
def Ty.nm : Ty → String
  | .non => "NoneType" | .bl => "bool" | .int => "int" | .str => "str" | .tup => "tuple" | .lst => "list" | .dct => "dict"
def Ty.sub : Ty → Ty → Bool
  | .bl, .int => true
  | a, b => decide (a = b)
theorem Ty.kit : ∀ a b : Ty, kitB a.nm b.nm = some (a.sub b) := by
  intro a b
  cases a <;> cases b <;> decide +kernel
def D.ty : D → Option Ty
  | .non => some .non | .bl _ => some .bl | .int _ => some .int | .str _ => some .str | .tup _ => some .tup | .lst _ => some .lst | .ol _ => some .lst | .dk _ _ => some .dct | .od _ _ => some .dct | .dt _ _ => some .dct | .ot _ _ => some .dct
  | _ => none
section
variable {F B : Addr → Prop} {g : Cn} {W : WX} {H : Hp} {σ : St} {ρ ρ' : Env} {T : Tm} {v : V} {d : D} {K : PySem.W.Frag} {X : Cx}
theorem RepO.tyx {f : List Addr} {t : Ty} (h : RepO F g H d v f) (e : d.ty = some t) : TyX K H v (.type t.nm) := by
  cases d with
  | non => cases e; obtain ⟨rfl, _⟩ := h; exact .base .non
  | bl b => cases e; obtain ⟨rfl, _⟩ := h; exact .base (.bl b)
  | int i => cases e; obtain ⟨rfl, _⟩ := h; exact .base (.int i)
  | str x => cases e; obtain ⟨rfl, _⟩ := h; exact .base (.str x)
  | tup xs => cases e; obtain ⟨⟨a, vs, rfl, _, ha, _⟩, _⟩ := h; exact .base (.tup ha)
  | lst xs => cases e; obtain ⟨⟨a, vs, rfl, _, ha, _⟩, _⟩ := h; exact .base (.lst ha)
  | ol xs => cases e; obtain ⟨a, vs, f', rfl, _, ha, _⟩ := h; exact .base (.lst ha)
  | dk ks xs => cases e; obtain ⟨⟨a, kvs, rfl, _, ha, _⟩, _⟩ := h; exact .base (.dK ha)
  | dt ks xs => cases e; obtain ⟨⟨a, kvs, rfl, _, ha, _⟩, _⟩ := h; exact .base (.dT ha)
  | od ks xs => cases e; obtain ⟨a, kvs, f', rfl, _, ha, _⟩ := h; exact .base (.dK ha)
  | ot ks xs => cases e; obtain ⟨a, kvs, f', rfl, _, ha, _⟩ := h; exact .base (.dT ha)
  | _ => cases e
def gIsi (ts : List Ty) : D → Option D := fun d => match d.ty with
  | some t => some (.bl (ts.any fun u => t.sub u))
  | none => none
/-- a type by its name -/
theorem pe_tyn {x : Str} {pos : Pos} {n : String} (hg : Gl X x) (hm : X.mg x = none) (hv : bootBuiltins x = some (.type n)) (hn : x ≠ "__name__" := by decide) (hd : (x == ("__debug__" : Str)) = false := by decide) : PE X (.Name x pos) (tC (.ty n)) :=
  ⟨fun _ _ _ H _ I h => ld_blt I hg hm hv ⟨.ty n, H, I, rfl, h⟩ hn hd⟩
theorem kitAny_tys {t : Ty} : ∀ (ts : List Ty), PySem.W.kitAny K (.type t.nm) (ts.map fun u => Value.type u.nm) = some (ts.any fun u => t.sub u)
  | [] => rfl
  | u :: ts => kitAny_cons (kit_ty (Ty.kit t u)) (fun e => by rw [List.any_cons, e, Bool.false_or]; exact kitAny_tys ts) (fun e => by rw [List.any_cons, e, Bool.true_or])
theorem paired_tys : ∀ (ts : List Ty), Paired ClsV (ts.map fun u => V.ty u.nm) (ts.map fun u => Value.type u.nm)
  | [] => .nil
  | u :: ts => .cons (.ty u.nm) (paired_tys ts)
def mIsi (ts : List Ty) (a : M D) : M D := mUn (fLook (gIsi ts)) a
theorem sim_isi1 {t : Ty} {ta : TE} {a : M D} (ha : SimE g W ta a) : SimE g W (tCB (rIsi K) (tCons ta (tCons (tC (.ty t.nm)) tNil))) (mIsi [t] a) := fun F B H σ ρ T Q res ρ' S e px h => by
  refine SimE.bind ha S e px fun d ρ1 F1 B1 H1 v e1 x1 S1 => ?_
  obtain ⟨x, y, e2, e3, e4⟩ := fLook_some e1
  cases e4
  obtain ⟨f, rx⟩ := S1.look1 e2
  unfold gIsi at e3
  split at e3
  · rename_i ty ety
    cases e3
    refine ⟨v, .ty t.nm, _, _, _, rfl, .ty t.nm, rx.tyx ety, kit_ty (Ty.kit ty t), ?_⟩
    have q := h _ rfl F1 B1 H1 (.bl (ty.sub t)) x1 (S1.pop.push (by show V.bl _ = V.bl _; simp))
    simpa using q
  · cases e3
theorem sim_isiT {ts : List Ty} {ta : TE} {a : M D} {tt : TA} (hl : ts.length ≤ lim) (ht : ∀ σ H Q, Q (ts.map fun u => V.ty u.nm) H → tt σ H Q) (ha : SimE g W ta a) : SimE g W (tCB (rIsiT K) (tCons ta (tCons (tTup tt) tNil))) (mIsi ts a) := fun F B H σ ρ T Q res ρ' S e px h => by
  refine SimE.bind ha S e px fun d ρ1 F1 B1 H1 v e1 x1 S1 => ?_
  obtain ⟨x, y, e2, e3, e4⟩ := fLook_some e1
  cases e4
  refine ht _ _ _ ⟨by rw [List.length_map]; exact hl, fun p hp => ?_⟩
  obtain ⟨x2, S2⟩ := S1.grow (o := .tup (ts.map fun u => V.ty u.nm)) hp
  obtain ⟨f, rx⟩ := S2.look1 e2
  unfold gIsi at e3
  split at e3
  · rename_i ty ety
    cases e3
    exact ⟨v, p, _, _, _, _, rfl, upd_same, paired_tys ts, rx.tyx ety, kitAny_tys ts, h _ rfl F1 B1 _ _ (x1.trans x2) (S2.pop.push rfl)⟩
  · cases e3
/-- names of types in a row -/
def TyNames (X : Cx) : List Expr → List Ty → Prop
  | [], [] => True
  | .Name x _ :: es, t :: ts => (Gl X x ∧ X.mg x = none ∧ bootBuiltins x = some (.type t.nm) ∧ x ≠ "__name__" ∧ (x == ("__debug__" : Str)) = false) ∧ TyNames X es ts
  | _, _ => False
def tTys (ts : List Ty) : TA := fun _ H Q => Q (ts.map fun u => V.ty u.nm) H
theorem starEach_name {x : Str} {pos : Pos} {es : List Expr} {env : PySem.Env} : starEach (.Name x pos :: es) env = (false, eval (.Name x pos) env) :: starEach es env := rfl
theorem pa_tys : ∀ {es : List Expr} {ts : List Ty}, TyNames X es ts → PA X es (tTys ts)
  | [], [], _ => ⟨fun pos pins s σ H Q I h => pa_nil.run pos pins s σ H Q I h⟩
  | .Name x p :: es, t :: ts, ⟨⟨hg, hm, hv, hn, hd⟩, h2⟩ => ⟨fun pos pins s σ H Q I h => (pa_cons (pe_tyn hg hm hv hn hd) (pa_tys h2) starEach_name).run pos pins s σ H Q I h⟩
variable {a : Expr} {ma : M D} {p pos p2 : Pos}
theorem v_isi1 {x : Str} {t : Ty} (hg : Gl X "isinstance") (hm : X.mg "isinstance" = none) (ha : VE X g W a ma) (hT : TyNames X [.Name x p2] [t]) (he : starEach [a, .Name x p2] X.env = (false, eval a X.env) :: starEach [.Name x p2] X.env := by rfl) (hpl : (backTo pos (starEach [.Name x p2] X.env)).any (·.1) = false := by rfl) :
    VE X g W (.Call (.Name "isinstance" p) [a, .Name x p2] [] pos) (mIsi [t] ma) :=
  .mk (pe_callB call_isi hg hm PyProof.Rows.boot_isinstance (pa_cons ha (pa_cons (pe_tyn hT.1.1 hT.1.2.1 hT.1.2.2.1 hT.1.2.2.2.1 hT.1.2.2.2.2) pa_nil starEach_name) he) (by decide) (by decide) he hpl) (sim_isi1 selfE)
theorem v_isiT {es : List Expr} {ts : List Ty} {k : Nat} (hg : Gl X "isinstance") (hm : X.mg "isinstance" = none) (ha : VE X g W a ma) (hT : TyNames X es ts) (hl : ts.length ≤ 64 := by decide) (he : starEach [a, .Tuple es k p2] X.env = (false, eval a X.env) :: starEach [.Tuple es k p2] X.env := by rfl) (he2 : starEach [.Tuple es k p2] X.env = (false, eval (.Tuple es k p2) X.env) :: starEach [] X.env := by rfl) (hpl : (backTo pos (starEach [.Tuple es k p2] X.env)).any (·.1) = false := by rfl) :
    VE X g W (.Call (.Name "isinstance" p) [a, .Tuple es k p2] [] pos) (mIsi ts ma) :=
  .mk (pe_callB call_isiT hg hm PyProof.Rows.boot_isinstance (pa_cons ha (pa_cons (pe_tup (pa_tys hT)) pa_nil he2) he) (by decide) (by decide) he hpl) (sim_isiT (Nat.le_trans hl (by decide)) (fun _ _ _ h => h) selfE)
/-! ### is True, is False -/
end
end SV
end
section
set_option Elab.async false
set_option linter.all false
set_option autoImplicit false
set_option maxRecDepth 100000
set_option maxHeartbeats 4000000
namespace SV
open PySem PySem.Spec L2
/-! ### + of ints, texts, lists, tuples -/
def fLs : D → M (List D)
  | .ol xs => ret (D.frzs xs)
  | d => fun ρ => match dr ρ d with
    | some (.ol xs) => if plain xs = true then some (.ok xs, ρ) else none
    | some (.lst xs) => some (.ok xs, ρ)
    | _ => none
def fAddA : D → D → M D
  | .int i, .int j => ret (.int (i + j))
  | .str i, .str j => if i.length + j.length ≤ lim then ret (.str (i ++ j)) else stuck
  | .tup xs, .tup ys => if xs.length + ys.length ≤ lim then ret (.tup (xs ++ ys)) else stuck
  | dx, dy => bnd (fLs dy) fun ys => bnd (fLs dx) fun xs => if xs.length + ys.length ≤ lim then ret (.ol (xs ++ ys)) else stuck
section
variable {F B : Addr → Prop} {g : Cn} {W : WX} {P : List Nat} {H : Hp} {σ : St} {ρ ρ' : Env} {T : Tm} {v : V} {d : D} {K : PySem.W.Frag} {X : Cx}
theorem Sat.lsAt {z : Res (List D) × Env} (S : Sat F B g H σ ρ ((v, d) :: T)) (e : fLs d ρ = some z) : ∃ xs, z = (.ok xs, ρ) ∧ ∃ F' B', Ext F B H F' B' H ∧ Sat F' B' g H σ ρ T ∧ ∃ a vs, v = .ref a ∧ Reps F' g H xs vs ∧ H a = some (.lst vs) := by
  have gen : ∀ z, (match dr ρ d with
    | some (.ol xs) => if plain xs = true then some (Res.ok xs, ρ) else none
    | some (.lst xs) => some (.ok xs, ρ)
    | _ => none) = some z → ∃ xs, z = (.ok xs, ρ) ∧ ∃ F' B', Ext F B H F' B' H ∧ Sat F' B' g H σ ρ T ∧ ∃ a vs, v = .ref a ∧ Reps F' g H xs vs ∧ H a = some (.lst vs) := by
    intro z e
    split at e
    · rename_i xs e1
      split at e
      · rename_i hp
        cases e
        obtain ⟨f, a, vs, f', e2, _, ha, r⟩ := S.look1 e1
        exact ⟨xs, rfl, F, B, Ext.refl, S.pop, a, vs, e2, r.reps hp, ha⟩
      · cases e
    · rename_i xs e1
      cases e
      obtain ⟨f, ⟨a, vs, e2, _, ha, r⟩, _⟩ := S.look1 e1
      exact ⟨xs, rfl, F, B, Ext.refl, S.pop, a, vs, e2, r, ha⟩
    · cases e
  cases d with
  | ol xs =>
    cases e
    obtain ⟨F', B', x, S', rf⟩ := S.freeze (fun i z => by cases z)
    obtain ⟨a, vs, e1, f, r, s⟩ := rf
    exact ⟨_, rfl, F', B', x, S'.pop, a, vs, e1, s, r⟩
  | _ => exact gen z e
theorem r_addL : SimR g W rCat (fun dx dy => bnd (fLs dy) fun ys => bnd (fLs dx) fun xs => if xs.length + ys.length ≤ lim then ret (.ol (xs ++ ys)) else stuck) := fun F B H σ ρ T x y dx dy Q res ρ' S e px h => by
  rcases bnd_some e with ⟨ys, ρ1, e1, e2⟩ | ⟨c, fs, e1, e2⟩
  · obtain ⟨ys', ez, F1, B1, x1, S1, b, ws, rfl, r1, hb⟩ := S.lsAt e1
    cases ez
    rcases bnd_some e2 with ⟨xs, ρ2, e3, e4⟩ | ⟨c, fs, e3, e4⟩
    · obtain ⟨xs', ez, F2, B2, x2, S2, a, vs, rfl, r2, ha⟩ := S1.lsAt e3
      cases ez
      split at e4
      · rename_i hl
        cases e4
        refine ⟨a, b, vs, ws, rfl, rfl, ha, hb, by rw [← r1.length, ← r2.length]; exact hl, fun p hp => ?_⟩
        obtain ⟨F3, B3, x3, S3⟩ := S2.newLF (r2.append (Reps.mono (x2.ag S1.fb) _ _ r1)) hp
        exact h _ rfl F3 B3 _ _ ((x1.trans x2).trans x3) S3
      · cases e4
    · obtain ⟨xs', ez, _⟩ := S1.lsAt e3
      cases ez
  · obtain ⟨xs', ez, _⟩ := S.lsAt e1
    cases ez
theorem r_addA : SimR g W (rAddA K) fAddA := fun F B H σ ρ T x y dx dy Q res ρ' S e px h => by
  unfold fAddA at e
  split at e
  · rename_i i j
    cases e
    obtain ⟨_, ry⟩ := S.top
    obtain ⟨_, rx⟩ := S.pop.top
    cases rt_int rx
    cases rt_int ry
    exact .inl ⟨i, j, rfl, rfl, h _ rfl F B H _ Ext.refl (S.pop.pop.push rfl)⟩
  · rename_i i j
    split at e
    · rename_i hl
      cases e
      obtain ⟨_, ry⟩ := S.top
      obtain ⟨_, rx⟩ := S.pop.top
      cases rt_str rx
      cases rt_str ry
      exact .inr (.inr (.inr ⟨i, j, rfl, rfl, hl, h _ rfl F B H _ Ext.refl (S.pop.pop.push rfl)⟩))
    · cases e
  · rename_i xs ys
    split at e
    · rename_i hl
      cases e
      obtain ⟨_, ry⟩ := S.top
      obtain ⟨_, rx⟩ := S.pop.top
      obtain ⟨⟨a, vs, rfl, fa, ha, r1⟩, _⟩ := (rx.own (fun i z => by cases z) : RepO F g H (.tup xs) x _)
      obtain ⟨⟨b, ws, rfl, fb, hb, r2⟩, _⟩ := (ry.own (fun i z => by cases z) : RepO F g H (.tup ys) y _)
      refine .inr (.inr (.inl ⟨a, b, vs, ws, rfl, rfl, .inl (.inl ha), .inl (.inl hb), by rw [← r1.length, ← r2.length]; exact hl, fun z => ?_, fun _ z => ?_, fun _ _ p hp => ?_⟩))
      · subst z
        have e0 : xs = [] := List.length_eq_zero_iff.mp (by rw [r1.length]; rfl)
        subst e0
        exact h _ rfl F B H _ Ext.refl (S.pop.pop.push ⟨b, ws, rfl, fb, hb, r2⟩)
      · subst z
        have e0 : ys = [] := List.length_eq_zero_iff.mp (by rw [r2.length]; rfl)
        subst e0
        rw [List.append_nil] at h
        exact h _ rfl F B H _ Ext.refl (S.pop.pop.push ⟨a, vs, rfl, fa, ha, r1⟩)
      · obtain ⟨F3, B3, x3, S3⟩ := S.pop.pop.newTF (r1.append r2) hp
        exact h _ rfl F3 B3 _ _ x3 S3
    · cases e
  · exact .inr (.inl (r_addL (W := W) F B H σ ρ T x y dx dy Q res ρ' S e px h))
/-! ### {} -/
/-! ### x[k] = e -/
theorem RepOs.setAt : ∀ {ds : List D} {vs : List V} {f g' : List Addr} {k : Nat} {d : D} {v : V}, RepOs F g H ds vs f → k < ds.length → RepO F g H d v g' → ∃ f' j, RepOs F g H (ds.set k d) (vs.set k v) f' ∧ (f ++ g').Perm (f' ++ j)
  | [], _, _, _, _, _, _, _, l, _ => by simp at l
  | d0 :: ds, _, _, g', 0, d, v, ⟨v0, vs, f1, f2, e1, e2, h1, h2⟩, l, r => by
    subst e1 e2
    refine ⟨g' ++ f2, f1, ⟨v, vs, g', f2, rfl, rfl, r, h2⟩, ?_⟩
    exact ((List.perm_append_comm (l₁ := f1 ++ f2) (l₂ := g')).trans (by rw [← List.append_assoc, List.append_assoc g' f2 f1, List.append_assoc]; exact List.Perm.append_left _ List.perm_append_comm))
  | d0 :: ds, _, _, g', k + 1, d, v, ⟨v0, vs, f1, f2, e1, e2, h1, h2⟩, l, r => by
    subst e1 e2
    obtain ⟨f', j, q1, q2⟩ := RepOs.setAt (k := k) h2 (by simpa using l) r
    exact ⟨f1 ++ f', j, ⟨v0, _, f1, f', rfl, rfl, h1, q1⟩, by rw [List.append_assoc, List.append_assoc]; exact List.Perm.append_left _ q2⟩
theorem Sat.setAt {i j : Nat} {k : Int} {ds : List D} (S : Sat F B g H σ ρ ((v, d) :: T)) (e : ρ[i]? = some (some (.ol ds))) (n : ∀ j, d ≠ .sl j) (hj : ixN ds.length k = some j) :
    ∃ p vs, σ[i]? = some (some (.ref p)) ∧ H p = some (.lst vs) ∧ ixN vs.length k = some j ∧ ∃ F' B', Ext F B H F' B' (upd H p (.lst (vs.set j v))) ∧ Sat F' B' g (upd H p (.lst (vs.set j v))) σ (ρ.set i (some (.ol (ds.set j d)))) T := by
  obtain ⟨v0, hv0, S3⟩ := S.take e rfl
  have hi : i < ρ.length := (List.getElem?_eq_some_iff.mp e).1
  obtain ⟨_, rt⟩ := S3.top
  obtain ⟨p, vs, f3, rfl, _, hp, k5⟩ := (rt.own (fun i z => by cases z) : RepO F g H (.ol ds) v0 _)
  refine ⟨p, vs, hv0, hp, by rw [← k5.length]; exact hj, ?_⟩
  obtain ⟨F3, B3, x3, S4⟩ := Sat.updL (es := [d]) (ws := [v]) (od := []) (ov := []) (nd := ds.set j d) (nv := vs.set j v) rfl (fun x hx => by rw [List.mem_singleton.mp hx]; exact n) S3 hp fun f0 g0 q1 q2 => by
    obtain ⟨w, vs', f1, f2, e1, e2, q3, q4⟩ := q2
    cases e1
    obtain ⟨rfl⟩ := q4.2
    rw [List.append_nil] at e2
    subst e2
    obtain ⟨f', j', q5, q6⟩ := RepOs.setAt q1 (ixN_seq hj).2.1 q3
    exact ⟨f', [], j', q5, ⟨rfl, rfl⟩, by rw [List.append_nil]; exact q6⟩
  exact ⟨F3, B3, x3, S4.putBack (fun j z => by cases z) hi hv0⟩
def stI (i : Nat) (k : D) (d : D) : SM := fun ρ => match k, ρ[i]? with
  | .int k, some (some (.ol ds)) => (match ixN ds.length k with
    | some j => some (.nx, ρ.set i (some (.ol (ds.set j d))))
    | none => none)
  | _, _ => none
/-- the thing d goes to x[k] -/
def mSetD (i : Nat) (mk : M D) (d : D) : SM := fun ρ => match ρ[i]? with
  | some (some (.ol _)) => bndS mk (fun z => stI i z d) ρ
  | _ => none
def mSetI (i : Nat) (mk me : M D) : SM := bndS me fun d0 => bndS (fOwn d0) fun d => mSetD i mk d
theorem bndS_some {α : Type} {m : M α} {k : α → SM} {z : Fl × Env} (e : bndS m k ρ = some z) : (∃ a ρ1, m ρ = some (.ok a, ρ1) ∧ k a ρ1 = some z) ∨ ∃ c fs, m ρ = some (.exc c fs, z.2) ∧ z.1 = .exc c fs := by
  unfold bndS at e
  split at e
  · rename_i a ρ1 e1
    exact .inl ⟨a, ρ1, e1, e⟩
  · rename_i c fs ρ1 e1
    cases e
    exact .inr ⟨c, fs, e1, rfl⟩
  · cases e
theorem sim_setD {i : Nat} {tk : TE} {mk : M D} (hk : SimE g W tk mk) {fl : Fl} {Q : St → Hp → Prop} (S : Sat F B g H σ ρ ((v, d) :: T)) (n : ∀ j, d ≠ .sl j) (e : mSetD i mk d ρ = some (fl, ρ'))
    (px : ∀ c fs, fl = .exc c fs → PX (α := D) g W σ T F B H ρ' (.exc c fs)) (h : fl = .nx → ∀ F' B' H', Ext F B H F' B' H' → Sat F' B' g H' σ ρ' T → Q σ H') : gSub (tVar i) tk rSetL v σ H Q := by
  unfold mSetD at e
  split at e
  · rename_i ds0 e0
    obtain ⟨v0, hv0, f0, r0⟩ := S.get e0 rfl
    refine ⟨v0, hv0, ?_⟩
    rcases bndS_some e with ⟨z, ρ1, e1, e2⟩ | ⟨c, fs, e1, e2⟩
    · refine hk F B H σ ρ _ _ (.ok z) ρ1 S e1 PX.ok fun d' hd F1 B1 H1 w x1 S1 => ?_
      cases hd
      unfold stI at e2
      split at e2
      · rename_i k ds e3
        split at e2
        · rename_i j hj
          cases e2
          obtain ⟨_, rk⟩ := S1.top
          cases rt_int rk
          obtain ⟨p, vs, q1, q2, q3, F2, B2, x2, S2⟩ := S1.pop.setAt e3 n hj
          rw [hv0] at q1
          cases q1
          exact ⟨p, vs, k, j, rfl, rfl, q2, q3, h rfl F2 B2 _ (x1.trans x2) S2⟩
        · cases e2
      · cases e2
    · cases e2
      exact hk F B H σ ρ _ _ (.exc c fs) _ S e1 (px c fs rfl).cons fun d' hd => by cases hd
  · cases e
theorem sim_setI {i : Nat} {te tk : TE} {me mk : M D} (he : SimE g W te me) (hk : SimE g W tk mk) : SimS g W P (tAsg te (gSub (tVar i) tk rSetL)) (mSetI i mk me) := fun F B H σ ρ Dn fl ρ' S e p => by
  refine SimE.bindS he S e p fun d0 ρ1 F1 B1 H1 v e1 x1 S1 => ?_
  rcases bndS_some e1 with ⟨d, ρ2, e2, e3⟩ | ⟨c, fs, e2, e3⟩
  · obtain ⟨d', hd, n, F2, B2, x2, S2⟩ := S1.fOwn e2
    cases hd
    refine sim_setD hk S2 n e3 (fun c fs hf => ?_) fun hf F3 B3 H3 x3 S3 => p.nx hf F3 B3 H3 σ ((x1.trans x2).trans x3) (fun _ _ => rfl) S3
    subst hf
    exact (p.px (α := D)).shift (x1.trans x2)
  · obtain ⟨d', hd, _⟩ := S1.fOwn e2
    cases hd
theorem vs_setI {i : Nat} {x : Str} {k e : Expr} {mk me : M D} {p1 p2 pos : Pos} (hN : X.N[i]? = some x) (hv : Vis X.env.scope x) (hk : VE X g W k mk) (he : VE X g W e me) (hd : (x == ("__debug__" : Str)) = false := by decide) (hcd : (x == ("__classdict__" : Str)) = false := by decide)
    (ha : ∀ v, assign (.Subscript (.Name x p1) k p2) X.env v = (do
      let ov ← holding [v] (eval (.Name x p1) X.env)
      let iv ← holding [v, ov] (eval k X.env)
      standAt p2
      holding [v, ov, iv] (setItem ov iv v)
      release [v, ov, iv] []) := by intro _; rfl)
    (hs : swapsWithSole [.Subscript (.Name x p1) k p2] e pos.line X.env = pure false := by rfl) (hw : swappedStores [.Subscript (.Name x p1) k p2] e X.env = pure none := by rfl) (h1 : (assignEach [.Subscript (.Name x p1) k p2] X.env).map (·.2) = [assign (.Subscript (.Name x p1) k p2) X.env] := by rfl) :
    VS X g W P (.Assign [.Subscript (.Name x p1) k p2] e pos) (mSetI i mk me) := .mk (ps_asg he (pg_sub (pe_var hN hv hd hcd) hk set_list ha) hs hw h1) (sim_setI selfE selfE)
end
end SV
end
section
set_option Elab.async false
set_option linter.all false
set_option autoImplicit false
set_option maxRecDepth 100000
set_option maxHeartbeats 4000000
namespace SV
open PySem PySem.Spec L2
/-! ### calls with keywords -/
inductive Pk where
  | a (i : Nat) | k (i : Nat) | d (i : Nat)
def pkx {α : Type} (z : α) (pk : List Pk) (ds us ws : List α) : List α := pk.map fun p => match p with
  | .a i => us.getD i z
  | .k i => ws.getD i z
  | .d i => ds.getD i z
section
variable {K : PySem.W.Frag} {x qual : Str} {params : Arguments} {body : List Stmt} {scope : Scope} {dvs : List V} {kws : List (Str × V)} {f : Addr} {fd : FuncData} {ps : List Str}
end
section
variable {X : Cx} {CX : CXT} {k n : Nat} {f : Addr} {fd : FuncData} {ps ks : List Str} {sp : Sp} {E : St → XK} {x : Str} {p pos : Pos} {e : Expr} {es : List Expr} {kws : List Keyword} {t tk : TA} {g : List Value → List Value → List Value} {gV : List V → List V → List V}
end
def pkOk (pk : List Pk) (n m l : Nat) : Bool := pk.all fun p => match p with
  | .a i => decide (i < n)
  | .k i => decide (i < m)
  | .d i => decide (i < l)
def mCallK (io : List Bool) (f : FM) (dd : List D) (pk : List Pk) (n m : Nat) (a b : M (List D)) : M D := bnd a fun ds => bnd b fun es => bnd (fFrzs es) fun ys => bnd (fFrzs ds) fun xs ρ1 =>
  if (io.all (fun b => !b) = true ∧ io.length = pk.length ∧ xs.length = n) ∧ (ys.length = m ∧ pkOk pk xs.length ys.length dd.length = true) then (match f (pkx .non pk dd xs ys) with
    | some (r, _) => some (r, ρ1)
    | none => none) else none
section
variable {F B : Addr → Prop} {g : Cn} {W : WX} {H : Hp} {σ : St} {ρ ρ' : Env} {T : Tm} {v : V} {d : D} {K : PySem.W.Frag} {X : Cx}
end
end SV
end
section
set_option Elab.async false
set_option linter.all false
set_option autoImplicit false
set_option maxRecDepth 100000
set_option maxHeartbeats 4000000
namespace SV
open PySem PySem.Spec L2
/-! ### in short -/
theorem takesF {X : Cx} : Takes X (fun _ _ _ _ => False) := fun _ _ x => by
  obtain ⟨_, _, _, _, _, _, _, _, _, _, _, _, _, _, _, _, z⟩ := x
  exact z.elim
section
variable {X : Cx} {g : Cn} {W : WX} {P : List Nat} {a b c : Expr} {ma mb mc : M D} {na nb : M Bool} {pos : Pos} {es : List Expr} {ms : M (List D)}
theorem w_var (i : Nat) {x : Str} {pos : Pos} (hN : X.N[i]? = some x := by rfl) (hv : Vis X.env.scope x := by first | exact Or.inl rfl | exact Or.inr (Or.inl rfl) | exact Or.inr (Or.inr rfl)) (hd : (x == ("__debug__" : Str)) = false := by decide) (hcd : (x == ("__classdict__" : Str)) = false := by decide) : VE X g W (.Name x pos) (mVar i) := v_var hN hv hd hcd
theorem w_add (ha : VE X g W a ma) (hb : VE X g W b mb) : VE X g W (.BinOp a .Add b pos) (mOp fAddA ma mb) := v_op op_addA r_addA ha hb
theorem w_sub (ha : VE X g W a ma) (hb : VE X g W b mb) : VE X g W (.BinOp a .Sub b pos) (mOp fSub ma mb) := v_op op_sub r_sub ha hb
theorem w_mul (ha : VE X g W a ma) (hb : VE X g W b mb) : VE X g W (.BinOp a .Mult b pos) (mOp fMul ma mb) := v_op op_mul r_mul ha hb
theorem w_div (ha : VE X g W a ma) (hb : VE X g W b mb) : VE X g W (.BinOp a .FloorDiv b pos) (mOp fDiv ma mb) := v_op op_fdivW r_div ha hb
theorem w_mod (ha : VE X g W a ma) (hb : VE X g W b mb) : VE X g W (.BinOp a .Mod b pos) (mOp fMod ma mb) := v_op op_mod r_mod ha hb
theorem w_pow (ha : VE X g W a ma) (hb : VE X g W b mb) : VE X g W (.BinOp a .Pow b pos) (mOp fPow ma mb) := v_op op_pow r_pow ha hb
theorem w_neg (ha : VE X g W a ma) : VE X g W (.UnaryOp .USub a pos) (mUn fNeg ma) := v_un un_neg u_neg ha
theorem w_le (ha : VE X g W a ma) (hb : VE X g W b mb) : VE X g W (.Compare a [.LtE] [b] pos) (mOp fLe ma mb) := v_cmp op_le r_le ha hb (nomark _)
abbrev fEq := fLook2 (gEq false)
abbrev fNe := fLook2 (gEq true)
abbrev fIn := fLook2 (gIn false)
abbrev fIx := fLook2 gIx
theorem w_eq {k : Nat} (hr : Room k X.A) (ha : VE X g W a ma) (hb : VE X g W b mb) : VE X g W (.Compare a [.Eq] [b] pos) (mOp fEq ma mb) := v_cmp (op_eqD hr.units) r_eq ha hb (nomark _)
/-- the same as tests -/
theorem t_lt (ha : VE X g W a ma) (hb : VE X g W b mb) : VT X g W (.Compare a [.Lt] [b] pos) (mTb (mOp fLt ma mb)) := vt_cmp op_lt r_lt ha hb (nomark _)
theorem t_gt (ha : VE X g W a ma) (hb : VE X g W b mb) : VT X g W (.Compare a [.Gt] [b] pos) (mTb (mOp fGt ma mb)) := vt_cmp op_gt r_gt ha hb (nomark _)
theorem t_ge (ha : VE X g W a ma) (hb : VE X g W b mb) : VT X g W (.Compare a [.GtE] [b] pos) (mTb (mOp fGe ma mb)) := vt_cmp op_ge r_ge ha hb (nomark _)
theorem t_eq {k : Nat} (hr : Room k X.A) (ha : VE X g W a ma) (hb : VE X g W b mb) : VT X g W (.Compare a [.Eq] [b] pos) (mTb (mOp fEq ma mb)) := vt_cmp (op_eqD hr.units) r_eq ha hb (nomark _)
theorem t_ne {k : Nat} (hr : Room k X.A) (ha : VE X g W a ma) (hb : VE X g W b mb) : VT X g W (.Compare a [.NotEq] [b] pos) (mTb (mOp fNe ma mb)) := vt_cmp (op_neD hr.units) r_ne ha hb (nomark _)
theorem t_in (ha : VE X g W a ma) (hb : VE X g W b mb) (hm : behindInMarks .In b = false := by rfl) : VT X g W (.Compare a [.In] [b] pos) (mTb (mOp fIn ma mb)) := vt_cmp op_in_seq (r_in false) ha hb hm
/-- the built-in calls -/
abbrev fLen := fC1 (fLook gLen)
abbrev fInt := fC1 (fLook gInt)
abbrev fAbs := fC1 (fLook gAbs)
abbrev fMin2 := fC2 (fLook2 gMin2)
abbrev fMax2 := fC2 (fLook2 gMax2)
abbrev fTup := fC1 fTupOf
abbrev fLst := fC1 fLstOf
variable {p : Pos}
theorem w_len (hK : g.K = X.K) (hg : Gl X "len") (hm : X.mg "len" = none) (ha : VA X g W (a :: es) ms) (he : starEach (a :: es) X.env = (false, eval a X.env) :: starEach es X.env := by rfl) (hpl : (backTo pos (starEach es X.env)).any (·.1) = false := by rfl) : VE X g W (.Call (.Name "len" p) (a :: es) [] pos) (mCB fLen ms) := v_bi call_len (c_len hK) hg hm boot_len ha (by decide) (by decide) he hpl
theorem w_abs (hg : Gl X "abs") (hm : X.mg "abs" = none) (ha : VA X g W (a :: es) ms) (he : starEach (a :: es) X.env = (false, eval a X.env) :: starEach es X.env := by rfl) (hpl : (backTo pos (starEach es X.env)).any (·.1) = false := by rfl) : VE X g W (.Call (.Name "abs" p) (a :: es) [] pos) (mCB fAbs ms) := v_bi call_abs c_abs hg hm PyProof.Rows.boot_abs ha (by decide) (by decide) he hpl
theorem w_min (hc : X.calm = true) (hg : Gl X "min") (hm : X.mg "min" = none) (ha : VA X g W (a :: es) ms) (he : starEach (a :: es) X.env = (false, eval a X.env) :: starEach es X.env := by rfl) (hpl : (backTo pos (starEach es X.env)).any (·.1) = false := by rfl) : VE X g W (.Call (.Name "min" p) (a :: es) [] pos) (mCB fMin2 ms) := v_bi (call_min2 hc) c_min2 hg hm PyProof.Rows.boot_min ha (by decide) (by decide) he hpl
theorem w_max (hc : X.calm = true) (hg : Gl X "max") (hm : X.mg "max" = none) (ha : VA X g W (a :: es) ms) (he : starEach (a :: es) X.env = (false, eval a X.env) :: starEach es X.env := by rfl) (hpl : (backTo pos (starEach es X.env)).any (·.1) = false := by rfl) : VE X g W (.Call (.Name "max" p) (a :: es) [] pos) (mCB fMax2 ms) := v_bi (call_max2 hc) c_max2 hg hm PyProof.Rows.boot_max ha (by decide) (by decide) he hpl
theorem w_int (hg : Gl X "int") (hm : X.mg "int" = none) (ha : VA X g W (a :: es) ms) (he : starEach (a :: es) X.env = (false, eval a X.env) :: starEach es X.env := by rfl) (hpl : (backTo pos (starEach es X.env)).any (·.1) = false := by rfl) : VE X g W (.Call (.Name "int" p) (a :: es) [] pos) (mCB fInt ms) := v_ty call_int1 c_int hg hm PyProof.Rows.boot_int ha (by decide) (by decide) he hpl
theorem w_tuple (hg : Gl X "tuple") (hm : X.mg "tuple" = none) (ha : VA X g W (a :: es) ms) (he : starEach (a :: es) X.env = (false, eval a X.env) :: starEach es X.env := by rfl) (hpl : (backTo pos (starEach es X.env)).any (·.1) = false := by rfl) : VE X g W (.Call (.Name "tuple" p) (a :: es) [] pos) (mCB fTup ms) := v_ty call_tuple_of c_tuple hg hm PyProof.Rows.boot_tuple ha (by decide) (by decide) he hpl
theorem w_list (hg : Gl X "list") (hm : X.mg "list" = none) (ha : VA X g W (a :: es) ms) (he : starEach (a :: es) X.env = (false, eval a X.env) :: starEach es X.env := by rfl) (hpl : (backTo pos (starEach es X.env)).any (·.1) = false := by rfl) : VE X g W (.Call (.Name "list" p) (a :: es) [] pos) (mCB fLst ms) := v_ty call_list_of c_list hg hm PyProof.Rows.boot_list ha (by decide) (by decide) he hpl
theorem w_ix (ha : VE X g W a ma) (hb : VE X g W b mb) (hs : PlainIx b := by intro _ _; rfl) : VE X g W (.Subscript a b pos) (mOp fIx ma mb) := v_ix ha hb hs

variable {x : Str} {p1 p2 apos cpos : Pos} {e : Expr}
theorem w_append (i : Nat) (ha : VA X g W (e :: es) ms) (hN : X.N[i]? = some x := by rfl) (hv : Vis X.env.scope x := by first | exact Or.inl rfl | exact Or.inr (Or.inl rfl) | exact Or.inr (Or.inr rfl)) (hd : (x == ("__debug__" : Str)) = false := by decide) (hcd : (x == ("__classdict__" : Str)) = false := by decide)
    (hbase : attributeBase (.Name x p1) "append" X.env (eval (.Name x p1) X.env) = eval (.Name x p1) X.env := by rfl)
    (hfew : ((backTo cpos (starEach (e :: es) X.env)).all (fun x => !x.1) && (backToKw cpos (keywordEach [] X.env)).all (fun x => x.1.isSome) && decide ((e :: es).length + ([] : List Keyword).length + (if ([] : List Keyword).isEmpty then 0 else 1) < 30)) = true := by rfl)
    (hline : (apos.endLine == cpos.line) = true := by rfl) (hs : starEach (e :: es) X.env = (false, eval e X.env) :: starEach es X.env := by rfl) (hplain : (backTo cpos (starEach es X.env)).any (·.1) = false := by rfl) :
    VE X g W (.Call (.Attribute (.Name x p1) "append" apos) (e :: es) [] cpos) (mLM lAppend i ms) := .mk (pe_bm PySem.F.plainAttrs_list PySem.F.slot_list_append PySem.F.type_list_append mt_append (pe_var hN hv hd hcd) ha hbase hfew hline hs hplain) (sim_LM lr_append i selfA)
theorem va_c (ha : VE X g W a ma) (hr : VA X g W es ms) (hs : starEach (a :: es) X.env = (false, eval a X.env) :: starEach es X.env := by rfl) : VA X g W (a :: es) (mCons ma ms) := va_cons ha hr hs
theorem vss_stuck {st : List Stmt} : VSs X g W P st stuckS := ⟨fun pins s σ H D I h => by
  obtain ⟨F, B, ρ, fl, ρ', S, e, p⟩ := h
  cases e⟩
end
/-! ### exception classes -/
theorem oexB_ok {K : PySem.W.Frag} {C : Addr} (h : oexB K C = true) : OexC K C := by
  obtain ⟨h1, h⟩ := Bool.and_eq_true_iff.mp h
  obtain ⟨h2, h⟩ := Bool.and_eq_true_iff.mp h
  obtain ⟨h3, h⟩ := Bool.and_eq_true_iff.mp h
  obtain ⟨h4, h5⟩ := Bool.and_eq_true_iff.mp h
  refine ⟨?_, of_decide_eq_true h2, of_decide_eq_true h3, of_decide_eq_true h4, h5⟩
  split at h1
  · rename_i t dd cd sl lk
    split at h1
    · rename_i C' bm k0 k1 k2 k3 n k5 e1 e2
      obtain ⟨q0, h1⟩ := Bool.and_eq_true_iff.mp h1
      obtain ⟨q1, h1⟩ := Bool.and_eq_true_iff.mp h1
      obtain ⟨q2, h1⟩ := Bool.and_eq_true_iff.mp h1
      obtain ⟨q3, h1⟩ := Bool.and_eq_true_iff.mp h1
      obtain ⟨q4, q5⟩ := Bool.and_eq_true_iff.mp h1
      have q0 := of_decide_eq_true q0
      have q1 := of_decide_eq_true q1
      have q2 := of_decide_eq_true q2
      subst q0 q1 q2
      obtain ⟨nm, bs, mro, ns, qn, hd, sn, sub, ab, col, del⟩ := cd
      dsimp only at e1 q3 q4
      have q3 : del = false := by simpa using q3
      subst e1 q3 q4
      have hsl : sl = #[k0, k1, k2, k3, some (.builtin "ValueError.__new__"), k5] := by
        obtain ⟨l⟩ := sl
        simp only at e2
        rw [e2]
      subst hsl
      exact ⟨nm, qn, ns, bs, bm, sn, sub, ab, col, dd, k0, k1, k2, k3, k5, lk, q5⟩
    · cases h1
  · cases h1
structure ExF (K : PySem.W.Frag) (x : Str) (ns : List Str) : Prop where
  oex : OexC K (He.ga K x)
  ini : PySem.W.findIn K (.ref (He.ga K x)) "__init__" = some (some (.ref (He.ma K (He.ga K x) "__init__")))
  tyI : PySem.W.typeIn K (.ref (He.ma K (He.ga K x) "__init__")) = some (.type "function")
  xf : XfC K (He.ga K x)
  no : ∀ n ∈ ns, PySem.W.findIn K (.ref (He.ga K x)) n = some none
theorem exFB_ok {K : PySem.W.Frag} {x : Str} {ns : List Str} (h : exFB K x ns = true) : ExF K x ns := by
  obtain ⟨h1, h⟩ := Bool.and_eq_true_iff.mp h
  obtain ⟨h2, h⟩ := Bool.and_eq_true_iff.mp h
  obtain ⟨h3, h⟩ := Bool.and_eq_true_iff.mp h
  obtain ⟨h4, h5⟩ := Bool.and_eq_true_iff.mp h
  exact ⟨oexB_ok h1, of_decide_eq_true h2, of_decide_eq_true h3, xfB_ok h4, fun n hn => of_decide_eq_true (List.all_eq_true.mp h5 n hn)⟩
theorem exmTab_ok {K : PySem.W.Frag} {l : List ((Str × Str) × Bool)} (h : exmTab K l = true) {c c2 : Str} {b : Bool} (e : l.lookup (c, c2) = some b) : PySem.W.exmOne K (.ref (He.ga K c)) (.ref (He.ga K c2)) = some b := by
  have key : ∀ {l : List ((Str × Str) × Bool)} {k : Str × Str}, l.lookup k = some b → (k, b) ∈ l := by
    intro l k
    induction l with
    | nil => intro z; cases z
    | cons q r ih =>
      obtain ⟨k2, b2⟩ := q
      intro z
      unfold List.lookup at z
      split at z
      · rename_i z2
        cases z
        rw [beq_iff_eq.mp z2]
        exact List.mem_cons_self
      · exact List.mem_cons_of_mem _ (ih z)
  exact of_decide_eq_true (List.all_eq_true.mp h _ (key e))
/-! ### the law -/
theorem reps_ints {F : Addr → Prop} {g : Cn} {H : Hp} : ∀ ns : List Int, Reps F g H (ns.map D.int) (ns.map V.int)
  | [] => rfl
  | n :: ns => ⟨.int n, ns.map V.int, rfl, rfl, reps_ints ns⟩
theorem law_sp {K : PySem.W.Frag} {mg : Str → Option Value} {f : FM} {n : Nat} (hf : ∀ ns : List Int, ns.length ≤ n → f [.fz (ns.map D.int)] = some (.ok (.bl true), [])) (H : Hp) (a : Addr) (ns : List Int) (hl : ns.length ≤ n) (hO : Only H) (hS : SqL K H a (ns.map V.int)) :
    spV (cn mg K) [false] f [.ref a] H (fun v _ => v = .bl true) fun _ _ _ => False := by
  refine ⟨fun b => b = a ∧ ∃ o, H a = some o, fun b => b = a ∧ ∃ o, H a = some o, [.fz (ns.map D.int)], .ok (.bl true), [], rfl, rfl, ?_, ?_, hf ns hl, ?_, fun c fs h => by cases h⟩
  · intro d hd i
    rw [List.mem_singleton.mp hd]
    intro z
    cases z
  · refine ⟨⟨[], [], rfl, ⟨[], [], rfl, ⟨⟨a, ns.map V.int, rfl, ?_, reps_ints ns⟩, rfl⟩, rfl⟩, List.nodup_nil, fun b hb => by simp at hb⟩, fun _ h => h, fun b ⟨e, o, h⟩ => ⟨o, by rw [e]; exact h⟩⟩
    rcases hS with (h | ⟨o, h⟩) | h
    · rcases hO a with z | ⟨o, xs, z⟩
      · rw [z] at h; cases h
      · rw [z] at h; cases h
    · exact .inl ⟨⟨rfl, _, h⟩, o, h⟩
    · exact .inr h
  · intro d hd F' B' H' v _ _ _ S
    cases hd
    obtain ⟨_, r⟩ := S.top
    exact rt_bl r
end SV
end
section
set_option Elab.async false
set_option linter.all false
set_option autoImplicit false
set_option maxRecDepth 100000
set_option maxHeartbeats 4000000
namespace SV
open PySem PySem.Spec L2
def mNotT (a : M D) : M D := bnd (mTru a) fun k => ret (.bl (!k))
section
variable {X : Cx} {g : Cn} {W : WX} {P : List Nat} {a : Expr} {ma : M D} {pos : Pos} {K : PySem.W.Frag}
theorem sim_notT {t : TE} (ha : SimE g W t ma) : SimE g W (tNotT K t) (mNotT ma) := fun F B H σ ρ T Q r ρ' S e px h => by
  refine SimT.bind (sim_tru (K := K) ha) S e px fun d ρ1 F1 B1 H1 e1 x1 S1 => ?_
  cases e1
  exact h _ rfl F1 B1 H1 _ x1 (S1.push rfl)
theorem w_not (ha : VE X g W a ma) : VE X g W (.UnaryOp .Not a pos) (mNotT ma) := .mk (pe_notT ha) (sim_notT selfE)
theorem sub_of {mg : Str → Option Value} {TAB : List ((Str × Str) × Bool)} {XN : List Str} (h : exmTab K TAB = true) (hx : ∀ c ∈ XN, mg c = some (.ref (He.ga K c))) (hn : TAB.all (fun q => XN.contains q.1.1 && XN.contains q.1.2) = true) :
    ∀ (c c2 : Str) (b : Bool) (C C2 : Addr), TAB.lookup (c, c2) = some b → mg c = some (.ref C) → mg c2 = some (.ref C2) → PySem.W.exmOne K (.ref C) (.ref C2) = some b := by
  intro c c2 b C C2 e h1 h2
  have key : ∀ {l : List ((Str × Str) × Bool)} {k : Str × Str}, l.lookup k = some b → (k, b) ∈ l := by
    intro l k
    induction l with
    | nil => intro z; cases z
    | cons q r ih =>
      obtain ⟨k2, b2⟩ := q
      intro z
      unfold List.lookup at z
      split at z
      · rename_i z2
        cases z
        rw [beq_iff_eq.mp z2]
        exact List.mem_cons_self
      · exact List.mem_cons_of_mem _ (ih z)
  obtain ⟨n1, n2⟩ := Bool.and_eq_true_iff.mp (List.all_eq_true.mp hn _ (key e))
  have q1 := hx c (by simpa using n1)
  have q2 := hx c2 (by simpa using n2)
  rw [h1] at q1
  rw [h2] at q2
  cases q1
  cases q2
  exact exmTab_ok h e
theorem xf_of {mg : Str → Option Value} {XL : List (Str × List Str)} {ok : List Str} {n : Str} (h : ∀ q ∈ XL, ExF K q.1 q.2) (hx : ∀ q ∈ XL, mg q.1 = some (.ref (He.ga K q.1))) (hn : ok.all (fun c => XL.any fun q => decide (q.1 = c) && q.2.contains n) = true) :
    ∀ (c : Str) (C : Addr), c ∈ ok → mg c = some (.ref C) → XfC K C ∧ PySem.W.findIn K (.ref C) n = some none := by
  intro c C hc hm
  obtain ⟨q, hq, h2⟩ := List.any_eq_true.mp (List.all_eq_true.mp hn c hc)
  obtain ⟨e1, e2⟩ := Bool.and_eq_true_iff.mp h2
  have e1 := of_decide_eq_true e1
  subst e1
  have q1 := hx q hq
  rw [hm] at q1
  cases q1
  exact ⟨(h q hq).xf, (h q hq).no n (by simpa using e2)⟩
/-- a def's args are all bound, or defaults fill up -/
structure Bd (K : PySem.W.Frag) (fd : FuncData) (ps : List Str) (dv : List V) : Prop where
  ex : ∃ dus : List Value, Vals dv dus ∧ Binds K fd ps dus
theorem w_call {k k2 : Nat} {f : Addr} {fd : FuncData} {ps : List Str} {io : List Bool} {fm : FM} {dd : List D} {dv : List V} {x : Str} {p pos : Pos} {a : Expr} {es : List Expr} {ms : M (List D)} (tk : Takes X W) (hr : Room k2 X.A)
    (Fn : FnOk X.prog X.w X.K X.mg X.base (L2.CX X.prog X.w) k f fd ps (spV g io fm)) (hb : Bd X.K fd ps dv) (hm : X.mg x = some (.ref f)) (hk : PySem.W.keepIn X.K (.ref f) = true)
    (ha : VA X g W (a :: es) ms) (hd : dvals dd = some dv := by rfl) (hkk : k ≤ k2 := by decide) (hg : Gl X x := by rfl) (hdb : (x == ("__debug__" : Str)) = false := by decide) (he : starEach (a :: es) X.env = (false, eval a X.env) :: starEach es X.env := by rfl) (hpl : (backTo pos (starEach es X.env)).any (·.1) = false := by rfl) :
    VE X g W (.Call (.Name x p) (a :: es) [] pos) (mCall io fm dd ms) := by
  obtain ⟨dus, h1, h2⟩ := hb.ex
  exact v_call tk Fn (hr.mono hkk) hg hm hk h2 h1 hd ha hdb he hpl
structure Bk (K : PySem.W.Frag) (fd : FuncData) (ps : List Str) (n : Nat) (ks : List Str) (pk : List Pk) (dv : List V) : Prop where
  ex : ∃ gg : List Value → List Value → List Value, KBn K fd ps n ks gg (fun vs zs => pkx .non pk dv vs zs)
end
section
variable {P : Program} {w : World} {K : PySem.W.Frag} {mg : Str → Option Value} {base : Heap} {N : List Str} {qual : Str} {scope : Scope} {f : Addr} {cd : Value} {A : Around} {outer : List PySem.Env} {s : Shared} {H : Hp} {E : XK}
theorem tk_def : Takes (cxOf (L2.CX P w) P w K mg base N qual scope f cd A outer s H E) (fun cls d _ H' => E cls d H') := takes_of rfl rfl rfl rfl
theorem ps_def : PassesOwn (model P w) (cxOf (L2.CX P w) P w K mg base N qual scope f cd A outer s H E).A (cxOf (L2.CX P w) P w K mg base N qual scope f cd A outer s H E).env (cxOf (L2.CX P w) P w K mg base N qual scope f cd A outer s H E).xe := passes_of rfl
end
end SV
end
section
set_option Elab.async false
set_option linter.all false
set_option autoImplicit false
set_option maxRecDepth 100000
set_option maxHeartbeats 4000000
namespace SV
open PySem PySem.Spec L2
def blkB (N : List Str) (sc scope : Scope) (own : List (Str × Nat)) : Bool :=
  decide (scope.kind = .function) && ((scope.names.all fun y => decide (scope.names.lookup y.1 = some y.2)) && ((own.all fun p => decide (N[p.2]? = some p.1)) &&
    ((scope.names.all fun y => !decide (y.2 = .free) || (decide (sc.names.lookup y.1 = some .cell) || decide (sc.names.lookup y.1 = some .free))) &&
      (scope.names.all fun y => !(decide (y.2 = .local) || decide (y.2 = .cell)) || ((own.map (·.1)).contains y.1 || !N.contains y.1)))))
theorem blk_ok {N : List Str} {sc scope : Scope} {own : List (Str × Nat)} (h : blkB N sc scope own = true) : BlkOk N sc scope own := by
  obtain ⟨h1, h⟩ := Bool.and_eq_true_iff.mp h
  obtain ⟨h2, h⟩ := Bool.and_eq_true_iff.mp h
  obtain ⟨h3, h⟩ := Bool.and_eq_true_iff.mp h
  obtain ⟨h4, h5⟩ := Bool.and_eq_true_iff.mp h
  refine ⟨of_decide_eq_true h1, fun y hy => of_decide_eq_true (List.all_eq_true.mp h2 y hy), fun p hp => of_decide_eq_true (List.all_eq_true.mp h3 p hp), fun y hy e => ?_, fun y hy e => ?_⟩
  · have q := List.all_eq_true.mp h4 y hy
    simpa [e] using q
  · have q := List.all_eq_true.mp h5 y hy
    rcases e with e | e <;> simpa [e] using q
theorem butP_no {n i : Nat} {vs : List Nat} (h : vs.contains i = true) : i ∉ butP n vs := fun z => by
  have q := List.mem_filter.mp z
  simp at h q
  exact q.2 h
end SV
end
section
set_option Elab.async false
set_option linter.all false
set_option autoImplicit false
set_option maxRecDepth 100000
set_option maxHeartbeats 4000000
namespace SV
open PySem PySem.Spec PyProof.Rows L2
/-- the law's end: its def in the value layer -/
theorem law_walk {l : PySem.W.OpenLaw} {n k : Nat} {q : Program} {loose : List Str} {XP : (Str → Option Value) → Heap → Prop} {YP : World → Heap → Prop} {d : DefRec} {x : Str} (hn : l.most = some n) (hn2 : n ≤ sizeLine) (hdf : d.params.defaults = []) (hr : Room k callerA)
    (G0 : ∀ (w : World) (mg : Str → Option Value) (fa : Addr) (h : Heap), YP w h → h.Ns mainGlobals mg → mg d.name = some (.ref fa) →
      ∃ (K : PySem.W.Frag) (fd : FuncData) (sp : Sp), K.In h ∧ (∀ (s : Shared) (u : Value), BindsTo s fd ⟨[u], []⟩ [(x, u)]) ∧ (∀ (H : Hp) (a : Addr) (ns : List Int), ns.length ≤ n → Only H → SqL K H a (ns.map V.int) → sp [.ref a] H (fun v _ => v = .bl true) fun _ _ _ => False) ∧
        ∀ base : Heap, K.In base → base.Ns mainGlobals mg → FnOk l.prog w K mg base (L2.CX l.prog w) k fa fd [x] sp) :
    PySem.W.WalkO q loose XP YP l.row.toRowW d [] (fun f vs => PySem.call f vs) := Att.attach_call hn hdf fun w s₀ s₁ mg mb fa o pm cd doc a vs ns G Y ho hd hcd hmg hobj hints hlen hg => by
  obtain ⟨K, fd, sp, KX, hb, hsp, hF⟩ := G0 w mg fa _ Y G.T.g hmg
  refine law_call KX G.T.g G.T.b G.T.builtins G.T.nolimit hg hobj hints (Nat.le_trans hlen hn2) hr hF hb (fun H hO hS => hsp H a ns hlen hO hS) fun H e s' z => ?_
  obtain ⟨_, _, _, _, _, _, _, _, _, _, _, _, z⟩ := z
  exact z
theorem fd_uniq {K : PySem.W.Frag} {x qual : Str} {params : Arguments} {body : List Stmt} {scope : Scope} {dvs : List V} {kws : List (Str × V)} {f : Addr} {fd fd2 : FuncData} (h : FunD K x qual params body scope dvs kws f fd) (h2 : FunD K x qual params body scope dvs kws f fd2) : fd = fd2 := by
  obtain ⟨oc, od, dV, kV, doc, pm, an, cdv, ct, osl, _, lk, _⟩ := h.ex
  obtain ⟨oc2, od2, dV2, kV2, doc2, pm2, an2, cdv2, ct2, osl2, _, lk2, _⟩ := h2.ex
  rw [lk] at lk2
  injection lk2 with e
  injection e with e1 e2 e3 e4
  injection e3
end SV
end
section
set_option Elab.async false
set_option linter.all false
set_option autoImplicit false
set_option maxRecDepth 100000
set_option maxHeartbeats 4000000
namespace SV
open PySem PySem.Spec L2
/-! ### what a reckoning ends in -/
def Ev {α : Type} (m : M α) (ρ : Env) (Q : Res α → Env → Prop) : Prop := ∃ r ρ', m ρ = some (r, ρ') ∧ Q r ρ'
def Es (s : SM) (ρ : Env) (Q : Fl → Env → Prop) : Prop := ∃ fl ρ', s ρ = some (fl, ρ') ∧ Q fl ρ'
def Ef (f : FM) (ds : List D) (Q : Res D → List D → Prop) : Prop := ∃ r cs, f ds = some (r, cs) ∧ Q r cs
def onOk {α β : Type} (Q : Res β → Env → Prop) (k : α → Env → Prop) : Res α → Env → Prop := fun r ρ => match r with
  | .ok a => k a ρ
  | .exc c fs => Q (.exc c fs) ρ
def onOkS {α : Type} (Q : Fl → Env → Prop) (k : α → Env → Prop) : Res α → Env → Prop := fun r ρ => match r with
  | .ok a => k a ρ
  | .exc c fs => Q (.exc c fs) ρ
def onNx (Q k : Fl → Env → Prop) : Fl → Env → Prop := fun fl ρ => match fl with
  | .nx => k .nx ρ
  | x => Q x ρ
section
variable {α β : Type} {ρ ρ1 : Env} {Q : Res α → Env → Prop} {R : Res β → Env → Prop} {QS : Fl → Env → Prop} {QD : Res D → Env → Prop} {QB : Res Bool → Env → Prop} {QL : Res (List D) → Env → Prop}
theorem onOk_ok {k : α → Env → Prop} {a : α} : onOk R k (.ok a) ρ = k a ρ := rfl
theorem onOkS_ok {k : α → Env → Prop} {a : α} : onOkS QS k (.ok a) ρ = k a ρ := rfl
theorem onNx_nx {k : Fl → Env → Prop} : onNx QS k .nx ρ = k .nx ρ := rfl
theorem onNx_ret {k : Fl → Env → Prop} {d : D} : onNx QS k (.ret d) ρ = QS (.ret d) ρ := rfl
theorem ev_ret {a : α} : Ev (ret a) ρ Q = Q (.ok a) ρ := by
  refine propext ⟨fun ⟨r, ρ', e, q⟩ => ?_, fun q => ⟨_, _, rfl, q⟩⟩
  cases e; exact q
theorem ev_bnd {m : M α} {k : α → M β} : Ev (bnd m k) ρ R = Ev m ρ (onOk R fun a ρ1 => Ev (k a) ρ1 R) := by
  refine propext ⟨fun ⟨r, ρ', e, q⟩ => ?_, fun ⟨r, ρ', e, q⟩ => ?_⟩
  · rcases bnd_some e with ⟨a, ρ1, e1, e2⟩ | ⟨c, fs, e1, e2⟩
    · exact ⟨_, _, e1, _, _, e2, q⟩
    · refine ⟨_, _, e1, ?_⟩
      have e2 : r = .exc c fs := e2
      rw [e2] at q
      exact q
  · cases r with
    | ok a =>
      obtain ⟨r2, ρ2, e2, q2⟩ := q
      exact ⟨r2, ρ2, by rw [bnd_ok e]; exact e2, q2⟩
    | exc c fs => exact ⟨_, _, by unfold bnd; rw [e], q⟩
theorem es_bndS {m : M α} {k : α → SM} : Es (bndS m k) ρ QS = Ev m ρ (onOkS QS fun a ρ1 => Es (k a) ρ1 QS) := by
  refine propext ⟨fun ⟨r, ρ', e, q⟩ => ?_, fun ⟨r, ρ', e, q⟩ => ?_⟩
  · rcases bndS_some e with ⟨a, ρ1, e1, e2⟩ | ⟨c, fs, e1, e2⟩
    · exact ⟨_, _, e1, _, _, e2, q⟩
    · refine ⟨_, _, e1, ?_⟩
      have e2 : r = .exc c fs := e2
      rw [e2] at q
      exact q
  · cases r with
    | ok a =>
      obtain ⟨r2, ρ2, e2, q2⟩ := q
      exact ⟨r2, ρ2, by unfold bndS; rw [e]; exact e2, q2⟩
    | exc c fs => exact ⟨_, _, by unfold bndS; rw [e], q⟩
theorem es_end {fl : Fl} : Es (endS fl) ρ QS = QS fl ρ := by
  refine propext ⟨fun ⟨r, ρ', e, q⟩ => ?_, fun q => ⟨_, _, rfl, q⟩⟩
  cases e; exact q
theorem es_seq {a b : SM} : Es (mSeq a b) ρ QS = Es a ρ (onNx QS fun _ ρ1 => Es b ρ1 QS) := by
  refine propext ⟨fun ⟨r, ρ', e, q⟩ => ?_, fun ⟨r, ρ', e, q⟩ => ?_⟩
  · unfold mSeq at e
    split at e
    · rename_i ρ1 e1
      exact ⟨_, _, e1, _, _, e, q⟩
    · rename_i x hx
      refine ⟨_, _, e, ?_⟩
      cases r with
      | nx => exact absurd e (hx _)
      | _ => exact q
  · cases r with
    | nx =>
      obtain ⟨r2, ρ2, e2, q2⟩ := q
      exact ⟨r2, ρ2, by unfold mSeq; rw [e]; exact e2, q2⟩
    | _ => exact ⟨_, _, by unfold mSeq; rw [e], q⟩
theorem ev_var {i : Nat} {d : D} (h : ρ[i]? = some (some d)) (o : d.own = false) (x : d.isX = false) : Ev (mVar i) ρ QD = QD (.ok d) ρ := by
  have e : mVar i ρ = some (.ok d, ρ) := by unfold mVar; rw [h]; simp [o, x]
  refine propext ⟨fun ⟨r, ρ', e1, q⟩ => ?_, fun q => ⟨_, _, e, q⟩⟩
  rw [e] at e1; cases e1; exact q
theorem ev_varO {i : Nat} {d : D} (h : ρ[i]? = some (some d)) (o : d.own = true) : Ev (mVar i) ρ QD = QD (.ok (.sl i)) ρ := by
  have e : mVar i ρ = some (.ok (.sl i), ρ) := by unfold mVar; rw [h]; simp [o]
  refine propext ⟨fun ⟨r, ρ', e1, q⟩ => ?_, fun q => ⟨_, _, e, q⟩⟩
  rw [e] at e1; cases e1; exact q
/-- a reckoning that is known -/
theorem ev_of {m : M α} {r : Res α} (e : m ρ = some (r, ρ1)) : Ev m ρ Q = Q r ρ1 := by
  refine propext ⟨fun ⟨r, ρ', e1, q⟩ => ?_, fun q => ⟨_, _, e, q⟩⟩
  rw [e] at e1; cases e1; exact q
theorem ev_add {i j : Int} : Ev (fAddA (.int i) (.int j)) ρ QD = QD (.ok (.int (i + j))) ρ := ev_of rfl
theorem ev_II {p : Int → Int → Bool} {g : Int → Int → D} {i j : Int} (h : p i j = true) : Ev (fII p g (.int i) (.int j)) ρ QD = QD (.ok (g i j)) ρ := ev_of (by unfold fII; simp [h, ret])
theorem ev_neg {i : Int} : Ev (fNeg (.int i)) ρ QD = QD (.ok (.int (-i))) ρ := ev_of rfl
theorem ev_look {g : D → Option D} {d x y : D} (h : dr ρ d = some x) (e : g x = some y) : Ev (fLook g d) ρ QD = QD (.ok y) ρ := ev_of (by unfold fLook; simp [h, e])
theorem ev_look2 {g : D → D → Option D} {d d2 x x2 y : D} (h : dr ρ d = some x) (h2 : dr ρ d2 = some x2) (e : g x x2 = some y) : Ev (fLook2 g d d2) ρ QD = QD (.ok y) ρ := ev_of (by unfold fLook2; simp [h, h2, e])
theorem ev_tru {a : M D} : Ev (mTru a) ρ QB = Ev a ρ (onOk QB fun d ρ1 => ∃ x b, dr ρ1 d = some x ∧ x.tru = some b ∧ QB (.ok b) ρ1) := by
  unfold mTru
  rw [ev_bnd]
  congr 1
  funext r ρ1
  cases r with
  | exc c fs => rfl
  | ok d =>
    rw [onOk_ok, onOk_ok]
    refine propext ⟨fun ⟨r, ρ', e1, q⟩ => ?_, fun ⟨x, b, h1, h2, q⟩ => ⟨_, _, by simp [h1, h2], q⟩⟩
    dsimp only at e1
    split at e1
    · rename_i x hx
      split at e1
      · rename_i b hb
        cases e1
        exact ⟨x, b, hx, hb, q⟩
      · cases e1
    · cases e1
theorem ev_frz {d : D} (h : ∀ i, d ≠ .sl i) : Ev (fFrz d) ρ QD = QD (.ok d.frz) ρ := ev_of (by unfold fFrz; split <;> first | rfl | exact absurd rfl (h _))
theorem ev_frzS {i : Nat} {c : D} (h : ρ[i]? = some (some c)) (x : c.isX = false) : Ev (fFrz (.sl i)) ρ QD = QD (.ok c.frz) (ρ.set i (some c.frz)) := ev_of (by unfold fFrz; simp [h, x])
theorem ev_mv {d : D} (h : ∀ i, d ≠ .sl i) : Ev (fMove d) ρ QD = QD (.ok d) ρ := ev_of (by unfold fMove; split <;> first | rfl | exact absurd rfl (h _))
theorem ev_mvS {i : Nat} {c : D} (h : ρ[i]? = some (some c)) (x : c.isX = false) : Ev (fMove (.sl i)) ρ QD = QD (.ok c) (ρ.set i none) := ev_of (by unfold fMove; simp [h, x])
theorem ev_own {d : D} (h : ∀ i, d ≠ .sl i) : Ev (fOwn d) ρ QD = QD (.ok d) ρ := ev_of (by unfold fOwn; split <;> first | rfl | exact absurd rfl (h _))
theorem ev_call {io : List Bool} {f : FM} {dd : List D} {a : M (List D)} : Ev (mCall io f dd a) ρ QD = Ev a ρ (onOk QD fun ds ρ1 => Ev (fPreps io ds) ρ1 (onOk QD fun xs ρ2 => ioOk io ds.length dd.length = true ∧ Ef f (xs ++ dd) fun r cs => ∃ ρ3, callBack io ds cs ρ2 = some ρ3 ∧ QD r ρ3)) := by
  unfold mCall
  rw [ev_bnd]
  congr 1
  funext r ρ1
  cases r with
  | exc c fs => rfl
  | ok ds =>
    show Ev (bnd _ _) ρ1 QD = Ev _ ρ1 _
    rw [ev_bnd]
    congr 1
    funext r ρ2
    cases r with
    | exc c fs => rfl
    | ok xs =>
      rw [onOk_ok, onOk_ok]
      refine propext ⟨fun ⟨r, ρ', e1, q⟩ => ?_, fun ⟨h, r, cs, e, ρ3, e2, q⟩ => ⟨r, ρ3, by simp [h, e, e2], q⟩⟩
      dsimp only at e1
      split at e1
      · rename_i h
        split at e1
        · rename_i r2 cs e2
          split at e1
          · rename_i ρ3 e3
            cases e1
            exact ⟨h, r, cs, e2, ρ', e3, q⟩
          · cases e1
        · cases e1
      · cases e1
theorem ef_fun {n : Nat} {io : List Bool} {body : SM} {ds : List D} {Q : Res D → List D → Prop} (h : Es body (startE n ds) fun fl ρ => ∃ cs, ioGet io ρ = some cs ∧ match fl with
    | .ret d => Q (.ok d) cs
    | .nx => Q (.ok .non) cs
    | .exc c fs => Q (.exc c fs) cs
    | _ => False) : Ef (funM n io body) ds Q := by
  obtain ⟨fl, ρ, e, cs, e2, q⟩ := h
  unfold Ef funM
  cases fl with
  | ret d => exact ⟨_, _, by simp [e, e2], q⟩
  | nx => exact ⟨_, _, by simp [e, e2], q⟩
  | exc c fs => exact ⟨_, _, by simp [e, e2], q⟩
  | brk => exact q.elim
  | ct => exact q.elim
theorem Ev.imp {m : M α} {Q' : Res α → Env → Prop} (h : Ev m ρ Q) (i : ∀ r ρ1, Q r ρ1 → Q' r ρ1) : Ev m ρ Q' := let ⟨r, ρ', e, q⟩ := h; ⟨r, ρ', e, i _ _ q⟩
theorem Es.imp {s : SM} {Q' : Fl → Env → Prop} (h : Es s ρ QS) (i : ∀ r ρ1, QS r ρ1 → Q' r ρ1) : Es s ρ Q' := let ⟨r, ρ', e, q⟩ := h; ⟨r, ρ', e, i _ _ q⟩
theorem Ef.imp {f : FM} {ds : List D} {Q Q' : Res D → List D → Prop} (h : Ef f ds Q) (i : ∀ r cs, Q r cs → Q' r cs) : Ef f ds Q' := let ⟨r, ρ', e, q⟩ := h; ⟨r, ρ', e, i _ _ q⟩
/-- a for -/
def onBody (Q : Fl → Env → Prop) (k : Env → Prop) : Fl → Env → Prop := fun fl ρ => match fl with
  | .nx => k ρ
  | .ct => k ρ
  | .brk => Q .nx ρ
  | .ret d => Q (.ret d) ρ
  | .exc c fs => Q (.exc c fs) ρ
theorem es_for {f : D → Env → Option Env} {body : SM} (I : List D → Env → Prop) (he : ∀ ρ, I [] ρ → QS .nx ρ) (hs : ∀ d ds ρ, I (d :: ds) ρ → ∃ ρ1, f d ρ = some ρ1 ∧ Es body ρ1 (onBody QS (I ds))) : ∀ (ds : List D) (ρ : Env), I ds ρ → Es (forL f body ds) ρ QS
  | [], ρ, h => ⟨_, _, rfl, he ρ h⟩
  | d :: ds, ρ, h => by
    obtain ⟨ρ1, e1, fl, ρ2, e2, q⟩ := hs d ds ρ h
    have nxt : ∀ ρ2, I ds ρ2 → Es (forL f body ds) ρ2 QS := es_for I he hs ds
    cases fl with
    | nx =>
      obtain ⟨fl3, ρ3, e3, q3⟩ := nxt _ q
      exact ⟨fl3, ρ3, by unfold forL; simp only [e1, e2]; exact e3, q3⟩
    | ct =>
      obtain ⟨fl3, ρ3, e3, q3⟩ := nxt _ q
      exact ⟨fl3, ρ3, by unfold forL; simp only [e1, e2]; exact e3, q3⟩
    | brk => exact ⟨_, _, by unfold forL; simp only [e1, e2], q⟩
    | ret d => exact ⟨_, _, by unfold forL; simp only [e1, e2], q⟩
    | exc c fs => exact ⟨_, _, by unfold forL; simp only [e1, e2], q⟩
/-- a while: n is enough -/
theorem es_while {c : M Bool} {body : SM} (I : Nat → Env → Prop) (hs : ∀ k ρ, I k ρ → Ev c ρ (onOkS QS fun b ρ1 => if b = true then 0 < k ∧ Es body ρ1 (onBody QS (I (k - 1))) else QS .nx ρ1)) : ∀ (n k : Nat) (ρ : Env), k < n → I k ρ → Es (whL c body n) ρ QS
  | 0, k, ρ, h, _ => absurd h (Nat.not_lt_zero k)
  | n + 1, k, ρ, h, i => by
    unfold whL
    rw [es_bndS]
    refine (hs k ρ i).imp fun r ρ1 q => ?_
    cases r with
    | exc c fs => exact q
    | ok b =>
      cases b with
      | false => rw [onOkS_ok] at *; simp at q ⊢; exact ⟨_, _, rfl, q⟩
      | true =>
        rw [onOkS_ok] at *
        rw [if_pos rfl] at *
        obtain ⟨hk, fl, ρ2, e2, q⟩ := q
        have nxt : ∀ ρ2, I (k - 1) ρ2 → Es (whL c body n) ρ2 QS := fun ρ2 z => es_while I hs n (k - 1) ρ2 (by omega) z
        cases fl with
        | nx =>
          obtain ⟨fl3, ρ3, e3, q3⟩ := nxt _ q
          exact ⟨fl3, ρ3, by simp only [e2]; exact e3, q3⟩
        | ct =>
          obtain ⟨fl3, ρ3, e3, q3⟩ := nxt _ q
          exact ⟨fl3, ρ3, by simp only [e2]; exact e3, q3⟩
        | brk => exact ⟨_, _, by simp only [e2], q⟩
        | ret d => exact ⟨_, _, by simp only [e2], q⟩
        | exc c fs => exact ⟨_, _, by simp only [e2], q⟩
/-- a comprehension -/
theorem ev_lc {m : M (List D)} {f : D → Env → Option Env} {tt : M Bool} {el : M D} {vs : List Nat} (I : List D → List D → Env → Prop) (h : Ev m ρ (onOk QD fun ds ρ1 => I ds [] (wipeE ρ1 vs) ∧ ds.length ≤ lim)) (he : ∀ acc ρ, I [] acc ρ → QD (.ok (.ol acc)) ρ)
    (hs : ∀ d ds acc ρ, I (d :: ds) acc ρ → ∃ ρ1, f d ρ = some ρ1 ∧ Ev tt ρ1 (fun r ρ2 => ∃ b, r = .ok b ∧ if b = true then Ev el ρ2 (fun r ρ3 => ∃ y, r = .ok y ∧ Ev (fOwn y) ρ3 fun r ρ4 => ∃ z, r = .ok z ∧ I ds (acc ++ [z]) (wipeE ρ4 vs)) else I ds acc (wipeE ρ2 vs))) :
    Ev (mLc m f tt el vs) ρ QD := by
  unfold mLc
  rw [ev_bnd]
  refine h.imp fun r ρ1 q => ?_
  cases r with
  | exc c fs => exact q
  | ok ds =>
    have key : ∀ (ds acc : List D) (ρ : Env), acc.length + ds.length ≤ lim → I ds acc ρ → ∃ acc2 ρ2, lcL f tt el vs ds acc ρ = some (acc2, ρ2) ∧ QD (.ok (.ol acc2)) ρ2 := by
      intro ds
      induction ds with
      | nil => exact fun acc ρ _ i => ⟨acc, ρ, rfl, he _ _ i⟩
      | cons d ds ih =>
        intro acc ρ hl i
        obtain ⟨ρ1, e1, r, ρ2, e2, b, rfl, q⟩ := hs d ds acc ρ i
        cases b with
        | false =>
          obtain ⟨a2, ρ3, e3, q3⟩ := ih acc _ (by simp at hl; omega) q
          exact ⟨a2, ρ3, by unfold lcL; simp only [e1, e2]; exact e3, q3⟩
        | true =>
          rw [if_pos rfl] at q
          obtain ⟨_, ρ3, e3, y, rfl, _, ρ4, e4, z, rfl, q⟩ := q
          obtain ⟨a2, ρ5, e5, q5⟩ := ih (acc ++ [z]) _ (by simp at hl ⊢; omega) q
          refine ⟨a2, ρ5, ?_, q5⟩
          have eb : bnd el fOwn ρ2 = some (.ok z, ρ4) := by rw [bnd_ok e3]; exact e4
          unfold lcL
          simp only [e1, e2, eb]
          rw [if_pos True.intro, if_pos (by simp at hl; omega)]
          exact e5
    obtain ⟨i, hl⟩ := q
    obtain ⟨a2, ρ2, e2, q2⟩ := key ds [] _ (by simpa using hl) i
    exact ⟨_, _, by simp only [e2], q2⟩
/-- try -/
theorem es_try {sub : Str → Str → Option Bool} {body : SM} {hs : List (Str × Option Nat × SM)} : Es (mTry sub body hs) ρ QS = Es body ρ fun fl ρ1 => match fl with
    | .exc c fs => Es (hdGo sub c fs hs) ρ1 QS
    | x => QS x ρ1 := by
  refine propext ⟨fun ⟨r, ρ', e, q⟩ => ?_, fun ⟨r, ρ', e, q⟩ => ?_⟩
  · unfold mTry at e
    split at e
    · rename_i c fs ρ1 e1
      exact ⟨_, _, e1, _, _, e, q⟩
    · rename_i x hx
      refine ⟨_, _, e, ?_⟩
      cases r with
      | exc c fs => exact absurd e (hx _ _ _)
      | _ => exact q
  · cases r with
    | exc c fs =>
      obtain ⟨r2, ρ2, e2, q2⟩ := q
      exact ⟨r2, ρ2, by unfold mTry; rw [e]; exact e2, q2⟩
    | _ => exact ⟨_, _, by unfold mTry; rw [e], q⟩
end
end SV
end
section
set_option Elab.async false
set_option linter.all false
set_option autoImplicit false
set_option maxRecDepth 100000
set_option maxHeartbeats 4000000
namespace SV
open PySem PySem.Spec L2
section
variable {α β : Type} {ρ ρ1 : Env} {QS : Fl → Env → Prop} {QD : Res D → Env → Prop} {QB : Res Bool → Env → Prop} {QL : Res (List D) → Env → Prop}
/-! ### .. reckoned by rewriting -/
def ofO {α : Type} (Q : Res α → Env → Prop) : Option (Res α × Env) → Prop
  | some (r, ρ1) => Q r ρ1
  | none => False
theorem ofO_s {Q : Res α → Env → Prop} {r : Res α} : ofO Q (some (r, ρ)) = Q r ρ := rfl
theorem ofO_n {Q : Res α → Env → Prop} : ofO Q none = False := rfl
theorem Ev.eqn {m : M α} {Q : Res α → Env → Prop} : Ev m ρ Q = ofO Q (m ρ) := by
  refine propext ⟨fun ⟨r, ρ', e1, q⟩ => by rw [e1]; exact q, fun q => ?_⟩
  cases h : m ρ with
  | none => rw [h] at q; exact False.elim q
  | some z => rw [h] at q; exact ⟨_, _, h, q⟩
theorem k_var {i : Nat} : Ev (mVar i) ρ QD = (match ρ[i]? with
  | some (some d) => if d.own = true then QD (.ok (.sl i)) ρ else if d.isX = true then False else QD (.ok d) ρ
  | _ => False) := by
  rw [Ev.eqn]
  unfold mVar
  cases h : ρ[i]? with
  | none => simp [ofO_s, ofO_n]
  | some o =>
    cases o with
    | none => simp [ofO_s, ofO_n]
    | some d =>
      cases h1 : d.own <;> cases h2 : d.isX <;> simp [ofO_s, ofO_n, h1, h2]
theorem k_look {g : D → Option D} {d : D} : Ev (fLook g d) ρ QD = (match dr ρ d with
  | some x => (match g x with
    | some y => QD (.ok y) ρ
    | none => False)
  | none => False) := by
  rw [Ev.eqn]
  unfold fLook
  cases h : dr ρ d with
  | none => simp [ofO_n]
  | some x => cases h2 : g x <;> simp [ofO_s, ofO_n, h2]
theorem k_II {p : Int → Int → Bool} {g : Int → Int → D} {i j : Int} : Ev (fII p g (.int i) (.int j)) ρ QD = (p i j = true ∧ QD (.ok (g i j)) ρ) := by
  rw [Ev.eqn]
  unfold fII
  cases h : p i j <;> simp [h, ret, stuck, ofO]
theorem k_st {i : Nat} {d : D} : Es (stS i d) ρ QS = (i < ρ.length ∧ QS .nx (ρ.set i (some d))) := by
  refine propext ⟨fun ⟨r, ρ', e1, q⟩ => ?_, fun ⟨h, q⟩ => ⟨_, _, by unfold stS; rw [if_pos h], q⟩⟩
  unfold stS at e1
  split at e1
  · rename_i h; cases e1; exact ⟨h, q⟩
  · cases e1
/-- owned and frozen, what is no slot's -/
theorem k_mv_int {i : Int} : Ev (fMove (.int i)) ρ QD = QD (.ok (.int i)) ρ := ev_of rfl
theorem k_preps_nil {io : List Bool} : Ev (fPreps io []) ρ QL = QL (.ok []) ρ := by cases io <;> exact ev_of rfl
theorem k_preps {b : Bool} {io : List Bool} {d : D} {ds : List D} : Ev (fPreps (b :: io) (d :: ds)) ρ QL = Ev (fPrep b d) ρ (onOk QL fun x ρ1 => Ev (fPreps io ds) ρ1 (onOk QL fun xs ρ2 => QL (.ok (x :: xs)) ρ2)) := by
  show Ev (bnd _ _) ρ QL = _
  simp only [ev_bnd, ev_ret]
theorem k_owns_nil : Ev (fOwns []) ρ QL = QL (.ok []) ρ := ev_of rfl
theorem k_owns {d : D} {ds : List D} : Ev (fOwns (d :: ds)) ρ QL = Ev (fOwn d) ρ (onOk QL fun x ρ1 => Ev (fOwns ds) ρ1 (onOk QL fun xs ρ2 => QL (.ok (x :: xs)) ρ2)) := by
  show Ev (bnd _ _) ρ QL = _
  simp only [ev_bnd, ev_ret]
theorem k_frzs_nil : Ev (fFrzs []) ρ QL = QL (.ok []) ρ := ev_of rfl
theorem k_frzs {d : D} {ds : List D} : Ev (fFrzs (d :: ds)) ρ QL = Ev (fFrz d) ρ (onOk QL fun x ρ1 => Ev (fFrzs ds) ρ1 (onOk QL fun xs ρ2 => QL (.ok (x :: xs)) ρ2)) := by
  show Ev (bnd _ _) ρ QL = _
  simp only [ev_bnd, ev_ret]
/-- x.append(..) and the like -/
theorem k_LM {f : LMeth} {i : Nat} {a : M (List D)} : Ev (mLM f i a) ρ QD = ((∃ ds, ρ[i]? = some (some (.ol ds))) ∧ Ev a ρ (onOk QD fun es ρ1 => Ev (fOwns es) ρ1 (onOk QD fun xs ρ2 => ∃ ds nd y, ρ2[i]? = some (some (.ol ds)) ∧ f ds xs = some (nd, y) ∧ QD (.ok y) (ρ2.set i (some (.ol nd)))))) := by
  have key : ∀ {ρ : Env}, Ev (bnd a fun es => bnd (fOwns es) fun xs ρ1 => match ρ1[i]? with
    | some (some (.ol ds)) => (match f ds xs with
      | some (nd, y) => some (.ok y, ρ1.set i (some (.ol nd)))
      | none => none)
    | _ => none) ρ QD = Ev a ρ (onOk QD fun es ρ1 => Ev (fOwns es) ρ1 (onOk QD fun xs ρ2 => ∃ ds nd y, ρ2[i]? = some (some (.ol ds)) ∧ f ds xs = some (nd, y) ∧ QD (.ok y) (ρ2.set i (some (.ol nd))))) := by
    intro ρ
    rw [ev_bnd]
    congr 1
    funext r ρ1
    cases r with
    | exc c fs => rfl
    | ok es =>
      rw [onOk_ok, onOk_ok, ev_bnd]
      congr 1
      funext r ρ2
      cases r with
      | exc c fs => rfl
      | ok xs =>
        rw [onOk_ok, onOk_ok]
        refine propext ⟨fun ⟨r, ρ', e1, q⟩ => ?_, fun ⟨ds, nd, y, h1, h2, q⟩ => ⟨_, _, by simp only [h1, h2], q⟩⟩
        dsimp only at e1
        split at e1
        · rename_i ds h1
          split at e1
          · rename_i nd y h2
            cases e1
            exact ⟨ds, nd, y, h1, h2, q⟩
          · cases e1
        · cases e1
  refine propext ⟨fun ⟨r, ρ', e1, q⟩ => ?_, fun ⟨⟨ds, h⟩, q⟩ => ?_⟩
  · unfold mLM at e1
    split at e1
    · rename_i ds h
      refine ⟨⟨ds, h⟩, ?_⟩
      rw [← key]
      exact ⟨r, ρ', e1, q⟩
    · cases e1
  · rw [← key] at q
    obtain ⟨r, ρ', e1, q⟩ := q
    refine ⟨r, ρ', ?_, q⟩
    unfold mLM
    rw [h]
    exact e1
/-- x[k] = .. -/
theorem k_setD {i : Nat} {mk : M D} {d : D} : Es (mSetD i mk d) ρ QS = ((∃ ds, ρ[i]? = some (some (.ol ds))) ∧ Ev mk ρ (onOkS QS fun z ρ1 => ∃ k ds j, z = .int k ∧ ρ1[i]? = some (some (.ol ds)) ∧ ixN ds.length k = some j ∧ QS .nx (ρ1.set i (some (.ol (ds.set j d)))))) := by
  have key : ∀ {ρ : Env}, Es (bndS mk fun z => stI i z d) ρ QS = Ev mk ρ (onOkS QS fun z ρ1 => ∃ k ds j, z = .int k ∧ ρ1[i]? = some (some (.ol ds)) ∧ ixN ds.length k = some j ∧ QS .nx (ρ1.set i (some (.ol (ds.set j d))))) := by
    intro ρ
    rw [es_bndS]
    congr 1
    funext r ρ1
    cases r with
    | exc c fs => rfl
    | ok z =>
      rw [onOkS_ok, onOkS_ok]
      refine propext ⟨fun ⟨r, ρ', e1, q⟩ => ?_, fun ⟨k, ds, j, h0, h1, h2, q⟩ => ⟨_, _, by unfold stI; simp only [h0, h1, h2], q⟩⟩
      unfold stI at e1
      split at e1
      · rename_i k ds h1 h9
        split at e1
        · rename_i j h2
          cases e1
          exact ⟨k, ds, j, by first | rfl | assumption, h1, h2, q⟩
        · cases e1
      · cases e1
  refine propext ⟨fun ⟨r, ρ', e1, q⟩ => ?_, fun ⟨⟨ds, h⟩, q⟩ => ?_⟩
  · unfold mSetD at e1
    split at e1
    · rename_i ds h
      refine ⟨⟨ds, h⟩, ?_⟩
      rw [← key]
      exact ⟨r, ρ', e1, q⟩
    · cases e1
  · rw [← key] at q
    obtain ⟨r, ρ', e1, q⟩ := q
    refine ⟨r, ρ', ?_, q⟩
    unfold mSetD
    rw [h]
    exact e1
end
end SV
end
section
set_option Elab.async false
set_option linter.all false
set_option autoImplicit false
set_option maxRecDepth 100000
set_option maxHeartbeats 4000000
namespace SV
open PySem PySem.Spec L2
/-! ### the same, step by step -/
def D.seqF : D → Option (Bool × List D)
  | .tup xs => some (true, xs)
  | .lst xs => some (false, xs)
  | .fz xs => some (false, xs)
  | _ => none
section
variable {α β : Type} {ρ ρ1 : Env} {Q : Res α → Env → Prop} {R : Res β → Env → Prop} {QS : Fl → Env → Prop} {QD : Res D → Env → Prop} {QB : Res Bool → Env → Prop} {QL : Res (List D) → Env → Prop} {m ma mb : M D} {n na nb : M Bool} {d x y z : D}
theorem b_ok {k : α → Env → Prop} {a : α} (h : k a ρ) : onOk R k (.ok a) ρ := h
theorem b_exc {k : α → Env → Prop} {c : Str} {fs : List (Str × D)} (h : R (.exc c fs) ρ) : onOk (α := α) R k (.exc c fs) ρ := h
theorem b_okS {k : α → Env → Prop} {a : α} (h : k a ρ) : onOkS QS k (.ok a) ρ := h
theorem b_excS {k : α → Env → Prop} {c : Str} {fs : List (Str × D)} (h : QS (.exc c fs) ρ) : onOkS (α := α) QS k (.exc c fs) ρ := h
theorem b_nx {k : Fl → Env → Prop} (h : k .nx ρ) : onNx QS k .nx ρ := h
theorem b_nret {k : Fl → Env → Prop} (h : QS (.ret d) ρ) : onNx QS k (.ret d) ρ := h
theorem b_nbrk {k : Fl → Env → Prop} (h : QS .brk ρ) : onNx QS k .brk ρ := h
theorem b_nct {k : Fl → Env → Prop} (h : QS .ct ρ) : onNx QS k .ct ρ := h
theorem b_nexc {k : Fl → Env → Prop} {c : Str} {fs : List (Str × D)} (h : QS (.exc c fs) ρ) : onNx QS k (.exc c fs) ρ := h
theorem b_ret {a : α} (h : Q (.ok a) ρ) : Ev (ret a) ρ Q := by rw [ev_ret]; exact h
theorem b_bnd {m : M α} {k : α → M β} (h : Ev m ρ (onOk R fun a ρ1 => Ev (k a) ρ1 R)) : Ev (bnd m k) ρ R := by rw [ev_bnd]; exact h
theorem b_end {fl : Fl} (h : QS fl ρ) : Es (endS fl) ρ QS := by rw [es_end]; exact h
theorem b_seq {a b : SM} (h : Es a ρ (onNx QS fun _ ρ1 => Es b ρ1 QS)) : Es (mSeq a b) ρ QS := by rw [es_seq]; exact h
theorem b_var {i : Nat} (h : ρ[i]? = some (some d)) (o : d.own = false) (x : d.isX = false) (q : QD (.ok d) ρ) : Ev (mVar i) ρ QD := by rw [ev_var h o x]; exact q
theorem b_varO {i : Nat} (h : ρ[i]? = some (some d)) (o : d.own = true) (q : QD (.ok (.sl i)) ρ) : Ev (mVar i) ρ QD := by rw [ev_varO h o]; exact q
theorem b_op {f : D → D → M D} (h : Ev ma ρ (onOk QD fun x ρ1 => Ev mb ρ1 (onOk QD fun y ρ2 => Ev (f x y) ρ2 QD))) : Ev (mOp f ma mb) ρ QD := by
  unfold mOp
  simp only [ev_bnd]
  exact h
theorem b_un {f : D → M D} (h : Ev ma ρ (onOk QD fun x ρ1 => Ev (f x) ρ1 QD)) : Ev (mUn f ma) ρ QD := by unfold mUn; rw [ev_bnd]; exact h
theorem b_neg {i : Int} (h : QD (.ok (.int (-i))) ρ) : Ev (fNeg (.int i)) ρ QD := by rw [ev_neg]; exact h
theorem b_add {i j : Int} (h : QD (.ok (.int (i + j))) ρ) : Ev (fAddA (.int i) (.int j)) ρ QD := by rw [ev_add]; exact h
theorem b_II {p : Int → Int → Bool} {g : Int → Int → D} {i j : Int} (c : p i j = true) (h : QD (.ok (g i j)) ρ) : Ev (fII p g (.int i) (.int j)) ρ QD := by rw [ev_II c]; exact h
theorem b_look {g : D → Option D} (h : dr ρ d = some x) (e : g x = some y) (q : QD (.ok y) ρ) : Ev (fLook g d) ρ QD := by rw [ev_look h e]; exact q
theorem b_look2 {g : D → D → Option D} {d2 x2 : D} (h : dr ρ d = some x) (h2 : dr ρ d2 = some x2) (e : g x x2 = some y) (q : QD (.ok y) ρ) : Ev (fLook2 g d d2) ρ QD := by rw [ev_look2 h h2 e]; exact q
theorem b_CB {f : List D → M D} {a : M (List D)} (h : Ev a ρ (onOk QD fun ds ρ1 => Ev (f ds) ρ1 QD)) : Ev (mCB f a) ρ QD := by unfold mCB; rw [ev_bnd]; exact h
theorem b_C1 {g : D → M D} (h : Ev (g d) ρ QD) : Ev (fC1 g [d]) ρ QD := h
theorem b_C2 {g : D → D → M D} (h : Ev (g x y) ρ QD) : Ev (fC2 g [x, y]) ρ QD := h
theorem b_nil (h : QL (.ok []) ρ) : Ev mNil ρ QL := by unfold mNil; rw [ev_ret]; exact h
theorem b_cons {r : M (List D)} (h : Ev ma ρ (onOk QL fun x ρ1 => Ev r ρ1 (onOk QL fun xs ρ2 => QL (.ok (x :: xs)) ρ2))) : Ev (mCons ma r) ρ QL := by
  unfold mCons
  simp only [ev_bnd, ev_ret]
  exact h
theorem b_set {i : Nat} (h : Ev ma ρ (onOkS QS fun a ρ1 => Ev (fMove a) ρ1 (onOkS QS fun d ρ2 => i < ρ2.length ∧ QS .nx (ρ2.set i (some d))))) : Es (mSet i ma) ρ QS := by
  unfold mSet
  rw [es_bndS, ev_bnd]
  refine h.imp fun r ρ1 q => ?_
  cases r with
  | exc c fs => exact q
  | ok a =>
    refine Ev.imp (show Ev (fMove a) ρ1 _ from q) fun r ρ2 q => ?_
    cases r with
    | exc c fs => exact q
    | ok d =>
      show Es (stS i d) ρ2 QS
      rw [k_st]
      exact q
theorem b_st {i : Nat} {P : Prop} (c : i < ρ.length) (h : P) : i < ρ.length ∧ P := ⟨c, h⟩
theorem b_aug {i : Nat} {f : D → D → M D} (h : Es (mSet i (mOp f (mVar i) ma)) ρ QS) : Es (mAug i f ma) ρ QS := h
theorem b_mret (h : Ev ma ρ (onOkS QS fun a ρ1 => Ev (fMove a) ρ1 (onOkS QS fun d ρ2 => QS (.ret d) ρ2))) : Es (mRet ma) ρ QS := by
  unfold mRet
  rw [es_bndS, ev_bnd]
  refine h.imp fun r ρ1 q => ?_
  cases r with
  | exc c fs => exact q
  | ok a =>
    refine Ev.imp (show Ev (fMove a) ρ1 _ from q) fun r ρ2 q => ?_
    cases r with
    | exc c fs => exact q
    | ok d =>
      show Es (endS (.ret d)) ρ2 QS
      rw [es_end]
      exact q
theorem b_expr (h : Ev ma ρ (onOkS QS fun _ ρ1 => QS .nx ρ1)) : Es (mExpr ma) ρ QS := by
  unfold mExpr
  rw [es_bndS]
  refine h.imp fun r ρ1 q => ?_
  cases r with
  | exc c fs => exact q
  | ok a => show Es (endS .nx) ρ1 QS; rw [es_end]; exact q
theorem b_if {a b : SM} (h : Ev n ρ (onOkS QS fun k ρ1 => Es (if k = true then a else b) ρ1 QS)) : Es (mIf n a b) ρ QS := by unfold mIf; rw [es_bndS]; exact h
theorem b_ifT {a b : SM} {k : Bool} (c : k = true) (h : Es a ρ QS) : Es (if k = true then a else b) ρ QS := by rw [if_pos c]; exact h
theorem b_ifF {a b : SM} {k : Bool} (c : k = false) (h : Es b ρ QS) : Es (if k = true then a else b) ρ QS := by rw [if_neg (by simp [c])]; exact h
theorem b_eT {a b : M α} {k : Bool} (c : k = true) (h : Ev a ρ Q) : Ev (if k = true then a else b) ρ Q := by rw [if_pos c]; exact h
theorem b_eF {a b : M α} {k : Bool} (c : k = false) (h : Ev b ρ Q) : Ev (if k = true then a else b) ρ Q := by rw [if_neg (by simp [c])]; exact h
theorem b_ifE (h : Ev n ρ (onOk QD fun k ρ1 => Ev (if k = true then ma else mb) ρ1 QD)) : Ev (mIfE n ma mb) ρ QD := by unfold mIfE; rw [ev_bnd]; exact h
/-- tests that are known: a value that is a bool -/
theorem b_tb (h : Ev ma ρ (onOk QB fun d ρ1 => ∃ b, d = .bl b ∧ QB (.ok b) ρ1)) : Ev (mTb ma) ρ QB := by
  unfold mTb
  rw [ev_bnd]
  refine h.imp fun r ρ1 q => ?_
  cases r with
  | exc c fs => exact q
  | ok d =>
    obtain ⟨b, rfl, q2⟩ := (show ∃ b, d = .bl b ∧ QB (.ok b) ρ1 from q)
    show Ev (ret b) ρ1 QB
    rw [ev_ret]
    exact q2
theorem b_bl {b : Bool} (h : QB (.ok b) ρ) : ∃ c, D.bl b = .bl c ∧ QB (.ok c) ρ := ⟨b, rfl, h⟩
theorem b_tru (h : Ev ma ρ (onOk QB fun d ρ1 => ∃ x b, dr ρ1 d = some x ∧ x.tru = some b ∧ QB (.ok b) ρ1)) : Ev (mTru ma) ρ QB := by rw [ev_tru]; exact h
theorem b_trv {b : Bool} (h : dr ρ d = some x) (t : x.tru = some b) (q : QB (.ok b) ρ) : ∃ x b, dr ρ d = some x ∧ x.tru = some b ∧ QB (.ok b) ρ := ⟨x, b, h, t, q⟩
theorem b_and (h : Ev na ρ (onOk QB fun c ρ1 => Ev (if c = true then nb else ret false) ρ1 QB)) : Ev (mAnd na nb) ρ QB := by unfold mAnd; rw [ev_bnd]; exact h
theorem b_or (h : Ev na ρ (onOk QB fun c ρ1 => Ev (if c = true then ret true else nb) ρ1 QB)) : Ev (mOr na nb) ρ QB := by unfold mOr; rw [ev_bnd]; exact h
theorem b_not (h : Ev na ρ (onOk QB fun c ρ1 => QB (.ok (!c)) ρ1)) : Ev (mNot na) ρ QB := by
  unfold mNot
  simp only [ev_bnd, ev_ret]
  exact h
theorem b_notT (h : Ev (mTru ma) ρ (onOk QD fun c ρ1 => QD (.ok (.bl (!c))) ρ1)) : Ev (mNotT ma) ρ QD := by
  unfold mNotT
  simp only [ev_bnd, ev_ret]
  exact h
theorem b_andV (h : Ev ma ρ (onOk QD fun d ρ1 => ∃ b, d = .bl b ∧ Ev (if b = true then mb else ret (.bl false)) ρ1 QD)) : Ev (mAndV ma mb) ρ QD := by
  unfold mAndV
  rw [ev_bnd]
  refine h.imp fun r ρ1 q => ?_
  cases r with
  | exc c fs => exact q
  | ok d =>
    obtain ⟨b, rfl, q2⟩ := (show ∃ b, d = .bl b ∧ _ from q)
    exact q2
theorem b_orV (h : Ev ma ρ (onOk QD fun d ρ1 => ∃ b, d = .bl b ∧ Ev (if b = true then ret (.bl true) else mb) ρ1 QD)) : Ev (mOrV ma mb) ρ QD := by
  unfold mOrV
  rw [ev_bnd]
  refine h.imp fun r ρ1 q => ?_
  cases r with
  | exc c fs => exact q
  | ok d =>
    obtain ⟨b, rfl, q2⟩ := (show ∃ b, d = .bl b ∧ _ from q)
    exact q2
theorem b_blE {b : Bool} {P : Bool → Prop} (h : P b) : ∃ c, D.bl b = .bl c ∧ P c := ⟨b, rfl, h⟩
theorem b_mvS {i : Nat} (h : ρ[i]? = some (some d)) (x : d.isX = false) (q : QD (.ok d) (ρ.set i none)) : Ev (fMove (.sl i)) ρ QD := by rw [ev_mvS h x]; exact q
theorem b_mv (h : ∀ i, d ≠ .sl i) (q : QD (.ok d) ρ) : Ev (fMove d) ρ QD := by rw [ev_mv h]; exact q
theorem b_frzS {i : Nat} (h : ρ[i]? = some (some d)) (x : d.isX = false) (q : QD (.ok d.frz) (ρ.set i (some d.frz))) : Ev (fFrz (.sl i)) ρ QD := by rw [ev_frzS h x]; exact q
theorem b_frz (h : ∀ i, d ≠ .sl i) (q : QD (.ok d.frz) ρ) : Ev (fFrz d) ρ QD := by rw [ev_frz h]; exact q
theorem b_own (h : ∀ i, d ≠ .sl i) (q : QD (.ok d) ρ) : Ev (fOwn d) ρ QD := by rw [ev_own h]; exact q
theorem b_ownS {i : Nat} (h : Ev (fFrz (.sl i)) ρ QD) : Ev (fOwn (.sl i)) ρ QD := h
theorem b_prepT (h : Ev (fMove d) ρ QD) : Ev (fPrep true d) ρ QD := h
theorem b_prepF (h : Ev (fFrz d) ρ QD) : Ev (fPrep false d) ρ QD := h
theorem b_preps0 {io : List Bool} (h : QL (.ok []) ρ) : Ev (fPreps io []) ρ QL := by rw [k_preps_nil]; exact h
theorem b_preps {b : Bool} {io : List Bool} {ds : List D} (h : Ev (fPrep b d) ρ (onOk QL fun x ρ1 => Ev (fPreps io ds) ρ1 (onOk QL fun xs ρ2 => QL (.ok (x :: xs)) ρ2))) : Ev (fPreps (b :: io) (d :: ds)) ρ QL := by rw [k_preps]; exact h
theorem b_owns0 (h : QL (.ok []) ρ) : Ev (fOwns []) ρ QL := by rw [k_owns_nil]; exact h
theorem b_owns {ds : List D} (h : Ev (fOwn d) ρ (onOk QL fun x ρ1 => Ev (fOwns ds) ρ1 (onOk QL fun xs ρ2 => QL (.ok (x :: xs)) ρ2))) : Ev (fOwns (d :: ds)) ρ QL := by rw [k_owns]; exact h
theorem b_frzs0 (h : QL (.ok []) ρ) : Ev (fFrzs []) ρ QL := by rw [k_frzs_nil]; exact h
theorem b_frzs {ds : List D} (h : Ev (fFrz d) ρ (onOk QL fun x ρ1 => Ev (fFrzs ds) ρ1 (onOk QL fun xs ρ2 => QL (.ok (x :: xs)) ρ2))) : Ev (fFrzs (d :: ds)) ρ QL := by rw [k_frzs]; exact h
theorem b_call {io : List Bool} {f : FM} {dd : List D} {a : M (List D)} (h : Ev a ρ (onOk QD fun ds ρ1 => Ev (fPreps io ds) ρ1 (onOk QD fun xs ρ2 => ioOk io ds.length dd.length = true ∧ Ef f (xs ++ dd) fun r cs => ∃ ρ3, callBack io ds cs ρ2 = some ρ3 ∧ QD r ρ3))) : Ev (mCall io f dd a) ρ QD := by rw [ev_call]; exact h
theorem b_io {io : List Bool} {n k : Nat} {P : Prop} (c : ioOk io n k = true) (h : P) : ioOk io n k = true ∧ P := ⟨c, h⟩
theorem b_back {io : List Bool} {ds cs : List D} {ρ3 : Env} {P : Env → Prop} (c : callBack io ds cs ρ = some ρ3) (h : P ρ3) : ∃ ρ3, callBack io ds cs ρ = some ρ3 ∧ P ρ3 := ⟨ρ3, c, h⟩
theorem b_setI {i : Nat} {mk me : M D} (h : Ev me ρ (onOkS QS fun d0 ρ1 => Ev (fOwn d0) ρ1 (onOkS QS fun d ρ2 => Es (mSetD i mk d) ρ2 QS))) : Es (mSetI i mk me) ρ QS := by
  unfold mSetI
  rw [es_bndS]
  refine h.imp fun r ρ1 q => ?_
  cases r with
  | exc c fs => exact q
  | ok d0 =>
    rw [onOkS_ok] at *
    rw [es_bndS]
    exact q
theorem b_setD {i : Nat} {mk : M D} {ds : List D} (h0 : ρ[i]? = some (some (.ol ds))) (h : Ev mk ρ (onOkS QS fun z ρ1 => ∃ k ds j, z = .int k ∧ ρ1[i]? = some (some (.ol ds)) ∧ ixN ds.length k = some j ∧ QS .nx (ρ1.set i (some (.ol (ds.set j d)))))) : Es (mSetD i mk d) ρ QS := by
  rw [k_setD]
  exact ⟨⟨ds, h0⟩, h⟩
theorem b_setK {i j : Nat} {k : Int} {ds : List D} {P : Env → Prop} (h1 : ρ[i]? = some (some (.ol ds))) (h2 : ixN ds.length k = some j) (h : P (ρ.set i (some (.ol (ds.set j d))))) : ∃ k1 ds j, D.int k = .int k1 ∧ ρ[i]? = some (some (.ol ds)) ∧ ixN ds.length k1 = some j ∧ P (ρ.set i (some (.ol (ds.set j d)))) := ⟨k, ds, j, rfl, h1, h2, h⟩
theorem b_LM {f : LMeth} {i : Nat} {a : M (List D)} {ds : List D} (h0 : ρ[i]? = some (some (.ol ds))) (h : Ev a ρ (onOk QD fun es ρ1 => Ev (fOwns es) ρ1 (onOk QD fun xs ρ2 => ∃ ds nd y, ρ2[i]? = some (some (.ol ds)) ∧ f ds xs = some (nd, y) ∧ QD (.ok y) (ρ2.set i (some (.ol nd)))))) : Ev (mLM f i a) ρ QD := by
  rw [k_LM]
  exact ⟨⟨ds, h0⟩, h⟩
theorem b_LMr {f : LMeth} {i : Nat} {ds nd xs : List D} {P : D → Env → Prop} (h1 : ρ[i]? = some (some (.ol ds))) (h2 : f ds xs = some (nd, y)) (h : P y (ρ.set i (some (.ol nd)))) : ∃ ds nd y, ρ[i]? = some (some (.ol ds)) ∧ f ds xs = some (nd, y) ∧ P y (ρ.set i (some (.ol nd))) := ⟨ds, nd, y, h1, h2, h⟩
theorem b_tup {a : M (List D)} (h : Ev a ρ (onOk QD fun ds ρ1 => Ev (fFrzs ds) ρ1 (onOk QD fun xs ρ2 => xs.length ≤ lim ∧ QD (.ok (.tup xs)) ρ2))) : Ev (mTup a) ρ QD := by
  unfold mTup
  rw [ev_bnd]
  refine h.imp fun r ρ1 q => ?_
  cases r with
  | exc c fs => exact q
  | ok ds =>
    rw [onOk_ok] at *
    rw [ev_bnd]
    refine q.imp fun r ρ2 q => ?_
    cases r with
    | exc c fs => exact q
    | ok xs =>
      rw [onOk_ok] at *
      rw [if_pos q.1, ev_ret]
      exact q.2
theorem b_lst {a : M (List D)} (h : Ev a ρ (onOk QD fun ds ρ1 => Ev (fOwns ds) ρ1 (onOk QD fun xs ρ2 => xs.length ≤ lim ∧ QD (.ok (.ol xs)) ρ2))) : Ev (mLst a) ρ QD := by
  unfold mLst
  rw [ev_bnd]
  refine h.imp fun r ρ1 q => ?_
  cases r with
  | exc c fs => exact q
  | ok ds =>
    rw [onOk_ok] at *
    rw [ev_bnd]
    refine q.imp fun r ρ2 q => ?_
    cases r with
    | exc c fs => exact q
    | ok xs =>
      rw [onOk_ok] at *
      rw [if_pos q.1, ev_ret]
      exact q.2
theorem b_lim {xs : List D} {P : Prop} (c : xs.length ≤ lim) (h : P) : xs.length ≤ lim ∧ P := ⟨c, h⟩
theorem b_isN (h : Ev ma ρ (onOk QD fun d ρ1 => Ev (fLook (fun d => some (.bl d.isNon)) d) ρ1 QD)) : Ev (mIsN ma) ρ QD := by unfold mIsN mUn; rw [ev_bnd]; exact h
theorem b_notN (h : Ev ma ρ (onOk QD fun d ρ1 => Ev (fLook (fun d => some (.bl !d.isNon)) d) ρ1 QD)) : Ev (mNotN ma) ρ QD := by unfold mNotN mUn; rw [ev_bnd]; exact h
theorem b_isi {ts : List Ty} (h : Ev ma ρ (onOk QD fun d ρ1 => Ev (fLook (gIsi ts) d) ρ1 QD)) : Ev (mIsi ts ma) ρ QD := by unfold mIsi mUn; rw [ev_bnd]; exact h
theorem b_raise {c : Str} {ns : List Str} {a : M (List D)} (h : Ev a ρ (onOkS QS fun ds ρ1 => Ev (fFrzs ds) ρ1 (onOkS QS fun xs ρ2 => (xs.length = ns.length ∧ 0 < ns.length ∧ ns.length ≤ 900) ∧ QS (.exc c (ns.zip xs)) ρ2))) : Es (mRaise c ns a) ρ QS := by
  unfold mRaise
  rw [es_bndS, ev_bnd]
  refine h.imp fun r ρ1 q => ?_
  cases r with
  | exc c fs => exact q
  | ok ds =>
    refine Ev.imp (show Ev (fFrzs ds) ρ1 _ from q) fun r ρ2 q => ?_
    cases r with
    | exc c fs => exact q
    | ok xs =>
      rw [onOkS_ok] at *
      rw [if_pos q.1, es_end]
      exact q.2
theorem b_mfor {f : D → Env → Option Env} {body : SM} {m : M (List D)} (h : Ev m ρ (onOkS QS fun ds ρ1 => Es (forL f body ds) ρ1 QS)) : Es (mFor m f body) ρ QS := by unfold mFor; rw [es_bndS]; exact h
theorem b_fseq {QP : Res (Bool × List D) → Env → Prop} (h : Ev (fFrz d) ρ (onOk QP fun x ρ2 => ∃ b xs, x.seqF = some (b, xs) ∧ QP (.ok (b, xs)) ρ2)) : Ev (fSeq d) ρ QP := by
  unfold fSeq
  rw [ev_bnd]
  refine h.imp fun r ρ1 q => ?_
  cases r with
  | exc c fs => exact q
  | ok x =>
    obtain ⟨b, xs, e, q2⟩ := (show ∃ b xs, x.seqF = some (b, xs) ∧ _ from q)
    rw [onOk_ok]
    cases x <;> first | (cases e; exact b_ret q2) | cases e
theorem b_iter (h : Ev ma ρ (onOk QL fun d ρ1 => Ev (fSeq d) ρ1 (onOk QL fun z ρ2 => QL (.ok z.2) ρ2))) : Ev (mIter ma) ρ QL := by
  unfold mIter
  simp only [ev_bnd, ev_ret]
  exact h
theorem b_seqF {QP : Res (Bool × List D) → Env → Prop} {b : Bool} {xs : List D} (e : x.seqF = some (b, xs)) (h : QP (.ok (b, xs)) ρ) : ∃ b xs, x.seqF = some (b, xs) ∧ QP (.ok (b, xs)) ρ := ⟨b, xs, e, h⟩
theorem b_try {sub : Str → Str → Option Bool} {body : SM} {hs : List (Str × Option Nat × SM)} (h : Es body ρ fun fl ρ1 => match fl with
    | .exc c fs => Es (hdGo sub c fs hs) ρ1 QS
    | x => QS x ρ1) : Es (mTry sub body hs) ρ QS := by rw [es_try]; exact h
end
end SV
end
section
set_option Elab.async false
set_option linter.all false
set_option autoImplicit false
set_option maxRecDepth 100000
set_option maxHeartbeats 4000000
namespace SV
open PySem PySem.Spec PyProof.Rows L2
/-! ### repr of lists and tuples: only where no repr is under way -/
section
variable {F B : Addr → Prop} {g : Cn} {W : WX} {P : List Nat} {X : Cx} {K : PySem.W.Frag}
end
/-! ### {i: j} -/
section
variable {g : Cn} {W : WX} {X : Cx}
end
/-! ### a def that is walked where no repr is under way -/
structure FnG (Pg : Program) (w : World) (K : PySem.W.Frag) (mg : Str → Option Value) (base : Heap) (k : Nat) (f : Addr) (fd : FuncData) (ps : List Str) (sp : Sp) : Prop where
  go : ∀ (A : Around) (outer : List PySem.Env) (s : Shared) (H : Hp) (args : Args) (us : List Value) (vs : List V) (Q : VK) (E : XK), A.guards = some [] → Room k A → Env0 Pg w K mg base A outer s H → BindsTo s fd args (ps.zip us) → Vals vs us → sp vs H Q E →
    codeAny (model Pg w) A (.call (.ref f) args) (CR (L2.CX Pg w) outer Pg w H s Q E) s
end SV
end
section
set_option Elab.async false
set_option linter.all false
set_option autoImplicit false
set_option maxRecDepth 100000
set_option maxHeartbeats 4000000
namespace SV
open PySem PySem.Spec PyProof.Rows L2
/-! ### an item of a fresh list: the list is frozen whole -/
section
variable {g : Cn} {W : WX} {X : Cx} {K : PySem.W.Frag} {ma mb : M D} {a b : Expr} {pos : Pos}
end
end SV
end
section
set_option Elab.async false
set_option linter.all false
set_option autoImplicit false
set_option maxRecDepth 100000
set_option maxHeartbeats 4000000
namespace SV
open PySem PySem.Spec L2
open PyProof.Rows (boot_range boot_list boot_min)
/-! ### a range kept in a name -/
section
variable {F B : Addr → Prop} {g : Cn} {W : WX} {P : List Nat} {X : Cx} {K : PySem.W.Frag} {H : Hp} {σ : St} {ρ : Env} {T : Tm} {tg : Expr}
/-! ### list(range(n)) -/
/-! ### min of a list -/
def intsOf : List D → Option (List Int)
  | [] => some []
  | .int i :: ds => (match intsOf ds with
    | some is => some (i :: is)
    | none => none)
  | _ => none
theorem intsOf_reps : ∀ {xs : List D} {is : List Int} {vs : List V} {f : List Addr}, intsOf xs = some is → RepOs F g H xs vs f → vs = is.map V.int
  | [], is, vs, f, h, r => by
    cases h
    exact r.1
  | d :: ds, is, vs, f, h, ⟨v, vs', f1, f2, e1, e2, r1, r2⟩ => by
    cases d with
    | int i =>
      simp only [intsOf] at h
      split at h
      · rename_i js hj
        cases h
        rw [e1, show v = .int i from r1.1, intsOf_reps hj r2]
        rfl
      · cases h
    | _ => cases h
end
end SV
end
section
set_option Elab.async false
set_option linter.all false
set_option autoImplicit false
set_option maxRecDepth 100000
set_option maxHeartbeats 4000000
namespace SV
open PySem PySem.Spec L2
section
variable {g : Cn} {W : WX} {X : Cx} {e : Expr} {m : M D} {ρ : Env} {QD : Res D → Env → Prop}
end
end SV
end
section
set_option Elab.async false
set_option linter.all false
set_option autoImplicit false
set_option maxRecDepth 100000
set_option maxHeartbeats 4000000
namespace SV
open PySem PySem.Spec L2
open PyProof.Rows hiding St
/-! ### an exception that is made and kept -/
section
variable {X : Cx} {e : Expr} {te : TE} {pos : Pos}
end
end SV
end
section
set_option Elab.async false
set_option linter.all false
set_option autoImplicit false
set_option maxRecDepth 100000
set_option maxHeartbeats 4000000
namespace SV
open PySem PySem.Spec L2
section
variable {F B F' B' : Addr → Prop} {g : Cn} {W : WX} {P : List Nat} {H H' : Hp} {σ σ' : St} {ρ ρ' : Env} {T T' : Tm} {v : V} {d : D} {X : Cx} {K : PySem.W.Frag}
/-! ### X(e, ..) that is kept -/
/-! ### its fields -/
/-! ### isinstance of it -/
end
/-! ### what the written part says of many classes -/
end SV
end
section
set_option Elab.async false
set_option linter.all false
set_option autoImplicit false
set_option maxRecDepth 100000
set_option maxHeartbeats 4000000
namespace SV
open PySem PySem.Spec L2
open PyProof.Rows hiding St
/-! ### a comprehension whose element may let an exception out -/
section
variable {M : Model} {A : Around} {E : Value → Shared → Prop} {s : Shared} {env : PySem.Env}
end
section
variable {M : Model} {A : Around} {E : Value → Shared → Prop} {s : Shared} {Z : Obj → Prop} {base : Heap} {env ce : PySem.Env} {outer l : List PySem.Env} {L e : Addr}
end
section
variable {X : Cx}
end
end SV
end
section
set_option Elab.async false
set_option linter.all false
set_option autoImplicit false
set_option maxRecDepth 100000
set_option maxHeartbeats 4000000
namespace SV
open PySem PySem.Spec L2
/-! ### the same, reckoned -/
section
variable {F B F' B' : Addr → Prop} {g g2 : Cn} {W : WX} {P : List Nat} {H H' : Hp} {σ σ' : St} {ρ ρ' : Env} {T T' A : Tm} {v : V} {d : D} {X : Cx}
end
end SV
end
section
set_option Elab.async false
set_option linter.all false
set_option autoImplicit false
set_option maxRecDepth 100000
set_option maxHeartbeats 4000000
namespace SV
open PySem PySem.Spec PyProof.Rows L2
open HotX (HotAt)
/-! ### exceptions whose context is None; raise X(..) from None in an except suite -/
section
variable {X : Cx} {e : Expr} {es : List Expr} {ta : TA} {p pos : Pos}
end
section
variable {X : Cx} {g : Cn} {W : WX} {P : List Nat}
end
section
variable {P : Program} {w : World} {K : PySem.W.Frag} {mg : Str → Option Value} {base : Heap} {N : List Str} {qual : Str} {scope : Scope} {f : Addr} {cd : Value} {A : Around} {outer : List PySem.Env} {s : Shared} {H : Hp} {E : XK}
end
/-! ### try .. except X: a suite that may raise -/
section
variable {X : Cx} {g : Cn} {W : WX} {P : List Nat}
end
end SV
end
section
set_option Elab.async false
set_option linter.all false
set_option autoImplicit false
set_option maxRecDepth 100000
set_option maxHeartbeats 4000000
namespace SV
open PySem PySem.Spec PyProof.Rows L2
section
variable {F B F' B' : Addr → Prop} {g : Cn} {W : WX} {H H' : Hp} {σ : L2.St} {ρ ρ' : Env} {T : Tm} {v : V} {d : D} {K : PySem.W.Frag} {X : Cx} {P : List Nat}
/-! ### a name whose list's items are frozen in their places -/
theorem Sat.frzItems {xs : List D} (S : Sat F B g H σ ρ ((v, .ol xs) :: T)) : ∃ F' B', Ext F B H F' B' H ∧ Sat F' B' g H σ ρ ((v, .ol (D.frzs xs)) :: T) := by
  obtain ⟨F', x, S'⟩ := Sat.step (Ts := [(v, .ol xs)]) (Ts' := [(v, .ol (D.frzs xs))]) (H' := H) S fun fs hr nd hB => by
    obtain ⟨a, vs, fp, e1, e2, e3, h3⟩ := (hr.one.own (fun i z => by cases z) : RepO F g H (.ol xs) v fs)
    subst e1 e2
    have nn := List.nodup_cons.mp nd
    have r := RepOs.frz (F' := fun b => F b ∨ b ∈ fp) (fun b h => .inl h) xs vs fp (fun b h => .inr h) h3
    refine ⟨fun b => F b ∨ b ∈ fp, [a], fun b h => .inl h, fun _ _ _ => rfl, ⟨[a], [], rfl, RT.of ⟨a, vs, [], rfl, rfl, e3, Reps.owned _ _ r⟩, rfl⟩, by simp, fun b hb => .inl (by simp at hb; simp [hb]), fun b hb => hb.elim .inl fun z => .inr (.inl (List.mem_cons_of_mem _ z)), fun b hb z => ?_, fun b hb => ?_⟩
    · obtain rfl : b = a := by simpa using hb
      rcases z with z | z
      · exact hB b (by simp) (S.fb b z)
      · exact nn.1 z
    · rcases hb with z | z
      · exact S.tru z
      · exact RepOs.there _ _ _ h3 b z
  exact ⟨F', _, x, S'⟩
def mVarZ (i : Nat) : M D := fun ρ => match ρ[i]? with
  | some (some (.ol xs)) => some (.ok (.sl i), ρ.set i (some (.ol (D.frzs xs))))
  | _ => none
theorem sim_varZ (i : Nat) : SimE g W (tVar i) (mVarZ i) := fun F B H σ ρ T Q r ρ' S e px h => by
  unfold mVarZ at e
  split at e
  · rename_i xs e1
    cases e
    obtain ⟨v, hv, S1⟩ := S.take e1 rfl
    have hi := (List.getElem?_eq_some_iff.mp e1).1
    obtain ⟨F1, B1, x1, S2⟩ := S1.frzItems
    have S3 := S2.putBack (fun j z => by cases z) hi hv
    exact ⟨v, hv, h _ rfl F1 B1 H v x1 (S3.pushSl hv)⟩
  · cases e
/-! ### len(x[i]), the item may be owned -/
variable {a b : Expr} {p q pos : Pos} {ma mb : M D}
/-! ### x[i][k] = e -/
/-- the list p in slot i stands as it stood, and so do the lists in it -/
def Kp (H H' : Hp) (σ : L2.St) (i : Nat) (xs : List D) : Prop := ∀ p vs, σ[i]? = some (some (.ref p)) → H p = some (.lst vs) → H' p = some (.lst vs) ∧ ∀ (j : Nat) (q : Addr) (ys : List D), vs[j]? = some (.ref q) → xs[j]? = some (.ol ys) → H' q = H q
theorem Kp.refl {i : Nat} {xs : List D} : Kp H H σ i xs := fun p vs h1 h2 => ⟨h2, fun _ _ _ _ _ => rfl⟩
theorem Kp.trans {H2 : Hp} {i : Nat} {xs : List D} (a : Kp H H' σ i xs) (b : Kp H' H2 σ i xs) : Kp H H2 σ i xs := fun p vs h1 h2 => by
  obtain ⟨a1, a2⟩ := a p vs h1 h2
  obtain ⟨b1, b2⟩ := b p vs h1 a1
  exact ⟨b1, fun j q ys h3 h4 => (b2 j q ys h3 h4).trans (a2 j q ys h3 h4)⟩
/-- what is reckoned while the list in slot i stands -/
def SimK (g : Cn) (W : WX) (i : Nat) (t : TE) (m : M D) : Prop := ∀ (F B : Addr → Prop) (H : Hp) (σ : L2.St) (ρ : Env) (T : Tm) (xs : List D) (Q : VK) (r : Res D) (ρ' : Env), Sat F B g H σ ρ T → ρ[i]? = some (some (.ol xs)) → m ρ = some (r, ρ') → PX g W σ T F B H ρ' r →
  (∀ d, r = .ok d → ∀ F' B' H' v, Ext F B H F' B' H' → Kp H H' σ i xs → ρ'[i]? = some (some (.ol xs)) → Sat F' B' g H' σ ρ' ((v, d) :: T) → Q v H') → t σ H Q
def SimKA (g : Cn) (W : WX) (i : Nat) (t : TA) (m : M (List D)) : Prop := ∀ (F B : Addr → Prop) (H : Hp) (σ : L2.St) (ρ : Env) (T : Tm) (xs : List D) (Q : List V → Hp → Prop) (r : Res (List D)) (ρ' : Env), Sat F B g H σ ρ T → ρ[i]? = some (some (.ol xs)) → m ρ = some (r, ρ') → PX g W σ T F B H ρ' r →
  (∀ ds, r = .ok ds → ∀ F' B' H' vs, Ext F B H F' B' H' → Kp H H' σ i xs → ρ'[i]? = some (some (.ol xs)) → vs.length = ds.length → Sat F' B' g H' σ ρ' (vs.zip ds ++ T) → Q vs H') → t σ H Q
def TKof (g : Cn) (W : WX) (i : Nat) (m : M D) : TE := fun σ H Q => ∃ (F B : Addr → Prop) (ρ : Env) (T : Tm) (xs : List D) (r : Res D) (ρ' : Env), Sat F B g H σ ρ T ∧ ρ[i]? = some (some (.ol xs)) ∧ m ρ = some (r, ρ') ∧ PX g W σ T F B H ρ' r ∧
  ∀ d, r = .ok d → ∀ F' B' H' v, Ext F B H F' B' H' → Kp H H' σ i xs → ρ'[i]? = some (some (.ol xs)) → Sat F' B' g H' σ ρ' ((v, d) :: T) → Q v H'
def TKAof (g : Cn) (W : WX) (i : Nat) (m : M (List D)) : TA := fun σ H Q => ∃ (F B : Addr → Prop) (ρ : Env) (T : Tm) (xs : List D) (r : Res (List D)) (ρ' : Env), Sat F B g H σ ρ T ∧ ρ[i]? = some (some (.ol xs)) ∧ m ρ = some (r, ρ') ∧ PX g W σ T F B H ρ' r ∧
  ∀ ds, r = .ok ds → ∀ F' B' H' vs, Ext F B H F' B' H' → Kp H H' σ i xs → ρ'[i]? = some (some (.ol xs)) → vs.length = ds.length → Sat F' B' g H' σ ρ' (vs.zip ds ++ T) → Q vs H'
def KE (X : Cx) (g : Cn) (W : WX) (i : Nat) (e : Expr) (m : M D) : Prop := PE X e (TKof g W i m)
def KA (X : Cx) (g : Cn) (W : WX) (i : Nat) (es : List Expr) (m : M (List D)) : Prop := PA X es (TKAof g W i m)
theorem KE.mk {i : Nat} {e : Expr} {t : TE} {m : M D} (h : PE X e t) (s : SimK g W i t m) : KE X g W i e m := ⟨fun pins st σ H Q I ⟨F, B, ρ, T, xs, r, ρ', S, e0, e1, px, k⟩ => h.run pins st σ H Q I (s F B H σ ρ T xs Q r ρ' S e0 e1 px k)⟩
theorem KA.mk {i : Nat} {es : List Expr} {t : TA} {m : M (List D)} (h : PA X es t) (s : SimKA g W i t m) : KA X g W i es m := ⟨fun ps pins st σ H Q I ⟨F, B, ρ, T, xs, r, ρ', S, e0, e1, px, k⟩ => h.run ps pins st σ H Q I (s F B H σ ρ T xs Q r ρ' S e0 e1 px k)⟩
end
end SV
end
section
set_option Elab.async false
set_option linter.all false
set_option autoImplicit false
set_option maxRecDepth 100000
set_option maxHeartbeats 4000000
namespace SV
open PySem PySem.Spec PyProof.Rows L2
section
variable {F B F' B' : Addr → Prop} {g : Cn} {W : WX} {H H' : Hp} {σ : L2.St} {ρ ρ' : Env} {T : Tm} {v : V} {d : D} {K : PySem.W.Frag} {X : Cx} {P : List Nat} {i : Nat}
theorem SimK.bind {β : Type} {ta : TE} {ma : M D} (ha : SimK g W i ta ma) {k : D → M β} {r : Res β} {R : V → Hp → Prop} {xs : List D} (S : Sat F B g H σ ρ T) (e0 : ρ[i]? = some (some (.ol xs))) (e : bnd ma k ρ = some (r, ρ')) (px : PX g W σ T F B H ρ' r)
    (h : ∀ d ρ1 F1 B1 H1 v, k d ρ1 = some (r, ρ') → Ext F B H F1 B1 H1 → Kp H H1 σ i xs → ρ1[i]? = some (some (.ol xs)) → Sat F1 B1 g H1 σ ρ1 ((v, d) :: T) → R v H1) : ta σ H R := by
  rcases bnd_some e with ⟨a, ρ1, e1, e2⟩ | ⟨c, fs, e1, e2⟩
  · exact ha F B H σ ρ T xs R (.ok a) ρ1 S e0 e1 PX.ok fun d hd F1 B1 H1 v x kp e3 S1 => by cases hd; exact h a ρ1 F1 B1 H1 v e2 x kp e3 S1
  · cases e2
    exact ha F B H σ ρ T xs R (.exc c fs) _ S e0 e1 px.cast fun d hd => by cases hd
theorem SimKA.bind {β : Type} {ta : TA} {ma : M (List D)} (ha : SimKA g W i ta ma) {k : List D → M β} {r : Res β} {R : List V → Hp → Prop} {xs : List D} (S : Sat F B g H σ ρ T) (e0 : ρ[i]? = some (some (.ol xs))) (e : bnd ma k ρ = some (r, ρ')) (px : PX g W σ T F B H ρ' r)
    (h : ∀ ds ρ1 F1 B1 H1 vs, k ds ρ1 = some (r, ρ') → Ext F B H F1 B1 H1 → Kp H H1 σ i xs → ρ1[i]? = some (some (.ol xs)) → vs.length = ds.length → Sat F1 B1 g H1 σ ρ1 (vs.zip ds ++ T) → R vs H1) : ta σ H R := by
  rcases bnd_some e with ⟨a, ρ1, e1, e2⟩ | ⟨c, fs, e1, e2⟩
  · exact ha F B H σ ρ T xs R (.ok a) ρ1 S e0 e1 PX.ok fun d hd F1 B1 H1 v x kp e3 l S1 => by cases hd; exact h a ρ1 F1 B1 H1 v e2 x kp e3 l S1
  · cases e2
    exact ha F B H σ ρ T xs R (.exc c fs) _ S e0 e1 px.cast fun d hd => by cases hd
/-! ### a list in a list -/
end
end SV
end
section
set_option Elab.async false
set_option linter.all false
set_option autoImplicit false
set_option maxRecDepth 100000
set_option maxHeartbeats 4000000
namespace SV
open PySem PySem.Spec PyProof.Rows L2
section
variable {F B F' B' : Addr → Prop} {g : Cn} {W : WX} {H H' : Hp} {σ : L2.St} {ρ ρ' : Env} {T : Tm} {v : V} {d : D} {K : PySem.W.Frag} {X : Cx} {P : List Nat} {i : Nat}
/-! ### the statement -/
/-! ### the second index -/
variable {a b : Expr} {es : List Expr} {pos p q : Pos} {ma mb : M D} {ms : M (List D)}
end
end SV
end
section
set_option Elab.async false
set_option linter.all false
set_option autoImplicit false
set_option maxRecDepth 100000
set_option maxHeartbeats 4000000
namespace SV
open PySem PySem.Spec PyProof.Rows L2
/-! ### == of things that are alike through and through, dicts of ints among them -/
section
variable {prog prog' : Program} {w w' : World}
end
section
variable {F : Addr → Prop} {g : Cn} {H : Hp} {X : Cx} {pins : List (Addr × Obj)} {σ : L2.St} {s : Shared}
end
end SV
end
section
set_option Elab.async false
set_option linter.all false
set_option autoImplicit false
set_option maxRecDepth 100000
set_option maxHeartbeats 4000000
namespace SV
open PySem PySem.Spec PyProof.Rows L2
def D.big : D → Bool
  | .tup _ => true | .lst _ => true | .dk _ _ => true | _ => false
section
variable {F B : Addr → Prop} {g : Cn} {W : WX} {H : Hp} {X : Cx} {ρ : Env} {K : PySem.W.Frag}
variable {a b : Expr} {pos : Pos} {ma mb : M D}
end
end SV
end
section
set_option Elab.async false
set_option linter.all false
set_option autoImplicit false
set_option maxRecDepth 100000
set_option maxHeartbeats 4000000
namespace SV
open PySem PySem.Spec L2
section
variable {ρ ρ1 : Env} {QS : Fl → Env → Prop} {QD : Res D → Env → Prop}
/-! ### the new pieces, reckoned -/
theorem b_varZ {i : Nat} {xs : List D} (h : ρ[i]? = some (some (.ol xs))) (q : QD (.ok (.sl i)) (ρ.set i (some (.ol (D.frzs xs))))) : Ev (mVarZ i) ρ QD := ⟨_, _, by unfold mVarZ; rw [h], q⟩
end
end SV
end
section
set_option Elab.async false
set_option linter.all false
set_option autoImplicit false
set_option maxRecDepth 100000
set_option maxHeartbeats 4000000
namespace SV
open PySem PySem.Spec PyProof.Rows L2
/-! ### a list times an int -/
section
variable {g : Cn} {W : WX} {X : Cx} {ρ : Env} {QD : Res D → Env → Prop}
end
end SV
end
section
set_option Elab.async false
set_option linter.all false
set_option autoImplicit false
set_option maxRecDepth 100000
set_option maxHeartbeats 4000000
namespace SV.Cs
open PySem PySem.W PySem.Calls PyProof.Rows PyProof.V PySem.Spec
variable {prog : Program} {w : World} {A : Around} {E : Value → Shared → Prop} {s : Shared} {T : String} {r d : Addr} {n : Nat} {P : Nat → Value → Prop} {OK : Heap → Prop}
/-- what a view gives, collected into a new list (kdu_collect, with the new list's place) -/
theorem collectS {R : List Value → Shared → Prop} (K : KdlSrc prog w T r d n P OK) (hh : A.handled = none) (hok : OK s.heap) (hn : n ≤ sizeLine)
    (h : ∀ (h' : Heap) (tk : Nat) (acc : Array Value), (∀ b o, s.heap.get? b = some o → h'.get? b = some o) → s.heap.objs.size < h'.objs.size → ItemsOf P acc n → R acc.toList { s with heap := h', toks := tk }) :
    wpAny (model prog w) A (collect (.ref r)) R E s := by
  have hlt := K.there _ hok
  unfold collect
  refine wpAny_bind (wpAny_runValue (codeAny_builtin entry_proto_collect' ?_))
  rw [Around.under_plainId PySem.F.plain_proto_collect _]
  show wpAny _ A.in1 (newList [] >>= fun l => again (.builtin "list.__iadd__" ⟨[l, .ref r], []⟩)) _ _ s
  refine wpAny_bind (wpAny_newObj_type ?_)
  refine wpAny_pure ⟨plainId_quiet PySem.F.plain_list_iadd _, codeAny_builtin entry_list_iadd' ?_⟩
  rw [Around.under_plainId PySem.F.plain_list_iadd _]
  have hS₁ : (s.heap.push { cls := .type "list", data := .seq ([] : List Value).toArray }).get? s.heap.objs.size = some { cls := .type "list", data := .seq #[] } := Heap.get?_push_size _ rfl
  show wpAny _ A.in1 (Builtin.List.listExtendWith (.ref s.heap.objs.size) (.ref r) (.ref s.heap.objs.size)) _ _ _
  have key := kdl_extend (A := A) (s := { s with heap := s.heap.push { cls := .type "list", data := .seq ([] : List Value).toArray } })
    (R := fun (q : Result) (s' : Shared) => ∃ (h' : Heap) (tk : Nat) (acc' : Array Value) (c' : Nat), q = .ok (.ret (.ref s.heap.objs.size)) ∧ s' = { s with heap := h', toks := tk } ∧
      (∀ b o, s.heap.get? b = some o → h'.get? b = some o) ∧ h'.get? s.heap.objs.size = some { cls := .type "list", dict := none, data := .seq acc' c', slots := #[] } ∧ ItemsOf P acc' n)
    K hh (K.keep _ _ hok fun b _ o e => Heap.get?_push_of_some _ e) s.heap.objs.size (Nat.ne_of_gt hlt.1) (Nat.ne_of_gt hlt.2) (.ref s.heap.objs.size) 0 hS₁
    (fun h' tk acc' c' hk hS' hacc => ⟨h', tk, acc', c', rfl, rfl, fun b o e => hk b o (Nat.ne_of_lt (Heap.lt_size e)) (Heap.get?_push_of_some _ e), hS', hacc⟩) hn
  refine wpAny_mono key (fun fin s' x => ?_) fun e s' x => ?_
  · cases fin with
    | done f =>
      obtain ⟨h', tk, acc', c', e, rfl, hk, hS', hacc⟩ := x
      cases e
      show wpAny _ A (load s.heap.objs.size >>= _) _ _ _
      refine wpAny_bind (wpAny_load hS' ?_)
      exact wpAny_pure (h h' tk acc' hk (Heap.lt_size hS') hacc)
    | again c₁ =>
      refine ⟨x.1, codeAny_mono x.2 fun q s₂ y => ?_⟩
      obtain ⟨h', tk, acc', c', rfl, rfl, hk, hS', hacc⟩ := y
      show wpAny _ A (load s.heap.objs.size >>= _) _ _ _
      refine wpAny_bind (wpAny_load hS' ?_)
      exact wpAny_pure (h h' tk acc' hk (Heap.lt_size hS') hacc)
  · obtain ⟨_, _, _, _, e', _⟩ := x
    cases e'
end SV.Cs
namespace SV
open PySem PySem.Spec PyProof.Rows L2
/-! ### sorted(d.keys()), d a dict whose keys are pairs of ints -/
/-- the view d.keys() at p -/
def keysO (p d : Addr) : HO := .ext fun h => PySem.W.KdlKeysView h p d
theorem keysO_ok {P : Program} {w : World} {H : Hp} {h : Heap} {p d : Addr} (e : h.get? p = some { cls := .type "dict_keys", data := .fields #[.ref d] }) : ObjOk P w H h p (keysO p d) :=
  ⟨⟨_, e, rfl, rfl⟩, ⟨_, e⟩, fun h1 h2 x k => let ⟨o, ho, r⟩ := x; ⟨o, k o ho, r⟩⟩
def kpOf : List L2.Key → Int × Int
  | [.inl i, .inl j] => (i, j)
  | _ => (0, 0)
def kOf (H : Hp) : V → Int × Int
  | .ref b => (match H b with
    | some (.tup [.int i, .int j]) => (i, j)
    | _ => (0, 0))
  | _ => (0, 0)
section
variable {X : Cx}
def rKeysT : V → List V → Hp → VK → Prop := fun x xs H Q => ∃ (a : Addr) (kvs : List (List L2.Key × V)), x = .ref a ∧ xs = [] ∧ H a = some (.dT kvs) ∧ ∀ p, H p = none → Q (.ref p) (upd H p (keysO p a))
theorem mt_keysT : MtR X "dict.keys" rKeysT := by
  intro pins s σ H x xs v us Q I rx rxs h
  obtain ⟨a, kvs, rfl, rfl, ha, q⟩ := h
  cases rx
  cases rxs
  obtain ⟨z, hd, xs', rel, o, es, ep, ho, hx, hdat, _⟩ := dt_of I.hok ha
  have hf : H s.heap.objs.size = none := I.hok.fresh (Nat.le_refl _)
  refine call_meetsIn PySem.F.slot_dict_keys ⟨o, ho, hx.1⟩ PySem.F.entry_dict_keys (PySem.F.args_dict_keys_1 _) (meets_dict_keys_raw a hd) ⟨⟨es, ep, ⟨o, ho, hx, hdat⟩⟩, ?_⟩
  exact ⟨.ref s.heap.objs.size, upd H s.heap.objs.size (keysO s.heap.objs.size a), I.laid (t' := s.toks) (fun b u e => Heap.get?_push_of_some _ e) (Nat.le_refl _) (keysO_ok (Heap.get?_push_size _ rfl)), rfl, q _ hf⟩
def PairAt (H : Hp) : V → Int × Int → Prop := fun y q => ∃ b, y = V.ref b ∧ H b = some (.tup [.int q.1, .int q.2])
def rSortKT : List V → Hp → VK → Prop := fun vs H Q => ∃ (p a : Addr) (kvs : List (List L2.Key × V)), vs = [.ref p] ∧ H p = some (keysO p a) ∧ H a = some (.dT kvs) ∧ (∀ e ∈ kvs, ∃ i j, e.1 = [.inl i, .inl j]) ∧
  ∀ (l : Addr) (ys : List V) (qs : List (Int × Int)), H l = none → Paired (PairAt H) ys qs → qs.Perm (kvs.map fun e => kpOf e.1) → qs.Pairwise (fun p q => SrtO.lexB q p = false) → Q (.ref l) (upd H l (.lst ys))
theorem pair_at {P : Program} {w : World} {H : Hp} {h : Heap} {b : Addr} {i j : Int} (ok : HOk P w H h) (e : H b = some (.tup [.int i, .int j])) : Srt.IsPair h (.ref b) i j := by
  obtain ⟨_, its, rv, ot, hot, hct, nt, hdt⟩ := (show ObjOk P w H h b (.tup [.int i, .int j]) from ok b _ e)
  obtain ⟨u1, u2, rfl, ri, rj⟩ := vals2 rv
  obtain ⟨t1, rfl⟩ := ri
  obtain ⟨t2, rfl⟩ := rj
  exact ⟨b, ot, t1, t2, nt, rfl, hot, hct, hdt⟩
theorem paired_map {α β γ : Type} {R : β → γ → Prop} {f : α → β} {g : α → γ} : ∀ (l : List α), (∀ x ∈ l, R (f x) (g x)) → Paired R (l.map f) (l.map g)
  | [], _ => .nil
  | x :: l, h => .cons (h x (List.mem_cons_self ..)) (paired_map l fun y hy => h y (List.mem_cons_of_mem _ hy))
theorem cr_sortedKT (hc : X.calm = true) : CallR X (.builtin "sorted") rSortKT := by
  intro pins s σ H xs us Q I r h
  obtain ⟨p, a, kvs, rfl, hp, ha, hk, q⟩ := h
  obtain rfl := Vals.ref1 r
  have view : PySem.W.KdlKeysView s.heap p a := (show ObjOk X.prog X.w H s.heap p (keysO p a) from I.hok p _ hp).1
  obtain ⟨z, hd, xs', rel, o, es, ep, ho, hx, hdat, hes, his, hn⟩ := dt_of I.hok ha
  have l1 : kvs.length = xs'.length := Paired.length rel
  have l2 : es.size = xs'.length := size_of_entries hes
  have hh : X.A.handled = none := I.ok.hd hc
  have hsz : es.size ≤ sizeLine := by rw [l2, ← l1]; exact z
  refine Calls.call_function_entry kind_sorted plain_sorted entry_sorted (args_sorted1 _) ?_
  unfold Builtin.«sorted»
  refine wpAny_bind (m := checkCount "sorted" 1 1 _) (wpAny_pure ?_)
  refine wpAny_bind (Cs.collectS (A := X.A.in1) (KdlSrc.rawKeys (es := es) (ep := ep) (d := a) (r := p)) hh ⟨view, ⟨o, ho, hx, hdat⟩⟩ hsz fun h' tk acc hkp hsl hacc => ?_)
  have hal : acc.toList.length = es.size := by rw [Array.length_toList]; exact hacc.1
  -- what was collected: the keys
  have eacc : acc.toList = xs'.map fun x => Value.ref x.2.1 := by
    refine List.ext_getElem? fun j => ?_
    by_cases hj : j < es.size
    · obtain ⟨v, hv⟩ : ∃ v, acc.toList[j]? = some v := ⟨_, List.getElem?_eq_getElem (by rw [hal]; exact hj)⟩
      obtain ⟨hi, ev⟩ := hacc.2 j v (by rw [← Array.getElem?_toList]; exact hv)
      have he : es[j]? = some es[j] := Array.getElem?_eq_getElem hi
      rw [entry_at hes j] at he
      cases hxj : xs'[j]? with
      | none => rw [hxj] at he; exact nomatch he
      | some x =>
        rw [hxj] at he
        have een : entryOfKey (tupleKind (mixKind X.prog X.w)) x = es[j] := Option.some.inj he
        rw [hv, List.getElem?_map, hxj, ev, ← een]
        rfl
    · rw [List.getElem?_eq_none (by rw [hal]; omega), List.getElem?_eq_none (by rw [List.length_map, ← l2]; omega)]
  have kin : ∀ v ∈ acc.toList, ∃ b i j, v = Value.ref b ∧ H b = some (.tup [.int i, .int j]) := fun v hv => by
    rw [eacc] at hv
    obtain ⟨x, hx', rfl⟩ := List.mem_map.mp hv
    obtain ⟨j, hj⟩ := List.mem_iff_getElem?.mp hx'
    obtain ⟨e, he, r1, r2, r3⟩ := DX.pget rel hj
    obtain ⟨i, k, hik⟩ := hk e (List.mem_of_getElem? he)
    refine ⟨x.2.1, i, k, rfl, ?_⟩
    rw [r2, hik]
    rfl
  have hz : acc.toList.length ≤ sizeLine := by rw [hal]; exact hsz
  refine wpAny_bind (wpAny_newList ?_ hz)
  have hob : (h'.push { cls := .type "list", data := .seq acc.toList.toArray }).get? h'.objs.size = some (seqObj "list" acc.toList.toArray 0) := Heap.get?_push_size _ rfl
  have kb : ∀ b o, s.heap.get? b = some o → (h'.push { cls := .type "list", data := .seq acc.toList.toArray }).get? b = some o := fun b o e => Heap.get?_push_of_some _ (hkp b o e)
  have ne0 : ∀ b o, h'.get? b = some o → b ≠ h'.objs.size := fun b o e => Nat.ne_of_lt (Heap.lt_size e)
  have hle : s.heap.objs.size ≤ h'.objs.size := Nat.le_of_lt hsl
  have hpair : ∀ v ∈ acc.toList, Srt.IsPair s.heap v (kOf H (backV v)).1 (kOf H (backV v)).2 := fun v hv => by
    obtain ⟨b, i, j, rfl, hb⟩ := kin v hv
    have e : kOf H (backV (Value.ref b)) = (i, j) := by
      show kOf H (.ref b) = _
      simp only [kOf, hb]
    rw [e]
    exact pair_at I.hok hb
  show wpAny _ _ _ _ _ { s with heap := h'.push { cls := .type "list", data := .seq acc.toList.toArray }, toks := tk }
  refine wpAny_bind (wpAny_holding (wpAny_call_entry PyProof.Rows.slot_list_sort ⟨_, hob, rfl⟩ PyProof.Rows.entry_list_sort
    (SrtO.list_sort_ord (s := { s with heap := h'.push { cls := .type "list", data := .seq acc.toList.toArray }, toks := tk }) (SrtO.swo_lex fun v => kOf H (backV v)) hob hz (fun h2 => SrtO.pairs_sortableO (by omega) (fun v hv => (hpair v hv).keeps fun b o e _ => kb b o e) fun o e => ?_) fun out hs hb => ⟨_, rfl, ?_⟩) (PyProof.Rows.args_list_sort _)))
  · have e' : some o = some (seqObj "list" acc.toList.toArray 0) := e.symm.trans hob
    cases e'
    intro c
    exact absurd (Value.type.inj c) (by decide)
  · refine wpAny_pure ⟨_, rfl, ?_⟩
    have kF : ∀ b o, b ≠ h'.objs.size → (h'.push { cls := .type "list", data := .seq acc.toList.toArray }).get? b = some o → (sortedHeap (h'.push { cls := .type "list", data := .seq acc.toList.toArray }) h'.objs.size acc.toList out.toArray).get? b = some o :=
      fun b o hb e => (PyProof.Rows.sortedHeap_old hb (Heap.lt_size e)).trans e
    have kS : ∀ b o, s.heap.get? b = some o → (sortedHeap (h'.push { cls := .type "list", data := .seq acc.toList.toArray }) h'.objs.size acc.toList out.toArray).get? b = some o := fun b o e => kF b o (ne0 _ _ (hkp b o e)) (kb b o e)
    obtain ⟨eF, heF⟩ := PyProof.Rows.sortedHeap_at (vs := acc.toList) (out := out.toArray) hob
    generalize sortedHeap (h'.push { cls := .type "list", data := .seq acc.toList.toArray }) h'.objs.size acc.toList out.toArray = h3 at kF kS heF ⊢
    have I1 : L2.Inv X pins σ H { s with heap := h3, toks := tk } := I.kept (t' := tk) kS
    have hn0 : H h'.objs.size = none := I.hok.fresh hle
    have kout : ∀ v ∈ out, ∃ b i j, v = Value.ref b ∧ H b = some (.tup [.int i, .int j]) := fun v hv => kin v (hb.perm.mem_iff.mp hv)
    have rv : Vals (out.map backV) out := vals_back fun u hu => let ⟨b, _, _, e, _⟩ := kout u hu; ⟨b, e⟩
    have hlen : (out.map backV).length ≤ sizeLine := by rw [List.length_map, hb.perm.length_eq]; exact hz
    have I2 : L2.Inv X pins σ (upd H h'.objs.size (.lst (out.map backV))) { s with heap := h3, toks := tk } :=
      I1.take (h' := h3) (t' := tk) (fun b ob _ e => e) (I.fpOk hle hn0) ⟨hlen, out, eF, rv, heF⟩
    refine ⟨.ref h'.objs.size, upd H h'.objs.size (.lst (out.map backV)), I2, rfl, q _ _ (out.map fun v => kOf H (backV v)) hn0 (paired_map out fun v hv => ?_) ?_ ?_⟩
    · obtain ⟨b, i, j, rfl, hb'⟩ := kout v hv
      refine ⟨b, rfl, ?_⟩
      have e : kOf H (backV (Value.ref b)) = (i, j) := by
        show kOf H (.ref b) = _
        simp only [kOf, hb']
      rw [e]
      exact hb'
    · refine (hb.perm.map _).trans ?_
      rw [eacc, List.map_map]
      have key : ∀ {l : List (List L2.Key × V)} {m : List (List L2.Key × Addr × Value)}, KT H l m → (∀ e ∈ l, ∃ i j, e.1 = [.inl i, .inl j]) → m.map ((fun v => kOf H (backV v)) ∘ fun x => Value.ref x.2.1) = l.map fun e => kpOf e.1 := by
        intro l m r
        induction r with
        | nil => intro _; rfl
        | @cons e x l m h1 t ih =>
          intro hl
          obtain ⟨i, j, hij⟩ := hl e (List.mem_cons_self ..)
          rw [List.map_cons, List.map_cons, ih fun e' he' => hl e' (List.mem_cons_of_mem _ he')]
          congr 1
          have hb' : H x.2.1 = some (.tup [.int i, .int j]) := by rw [h1.2.1, hij]; rfl
          show kOf H (.ref x.2.1) = kpOf e.1
          rw [hij]
          simp only [kOf, hb', kpOf]
      rw [key rel hk]
    · rw [List.pairwise_map]
      exact hs
end
end SV
end
section
set_option Elab.async false
set_option linter.all false
set_option autoImplicit false
set_option maxRecDepth 100000
set_option maxHeartbeats 4000000
namespace SV
open PySem PySem.Spec PyProof.Rows L2
/-! ### sorted on data -/
section
variable {α : Type} (lt : α → α → Bool)
def insS (q : α) : List α → List α
  | [] => [q]
  | p :: l => if lt p q = true then p :: insS q l else q :: p :: l
def srtS : List α → List α
  | [] => []
  | q :: l => insS lt q (srtS l)
end
section
variable {α : Type} {lt : α → α → Bool}
theorem insS_perm (q : α) : ∀ l : List α, (insS lt q l).Perm (q :: l)
  | [] => List.Perm.refl _
  | p :: l => by
    unfold insS
    split
    · exact ((insS_perm q l).cons p).trans (List.Perm.swap q p l)
    · exact List.Perm.refl _
theorem srtS_perm : ∀ l : List α, (srtS lt l).Perm l
  | [] => List.Perm.refl _
  | q :: l => (insS_perm q _).trans ((srtS_perm l).cons q)
/-- a total order on unlike things -/
structure Tot (lt : α → α → Bool) : Prop where
  as : ∀ x y, lt x y = true → lt y x = false
  tr : ∀ x y z, lt y x = false → lt z y = false → lt z x = false
  un : ∀ x y, lt x y = false → lt y x = false → x = y
theorem insS_srt (T : Tot lt) (q : α) : ∀ l : List α, l.Pairwise (fun p r => lt r p = false) → (insS lt q l).Pairwise (fun p r => lt r p = false)
  | [], _ => List.pairwise_singleton _ _
  | p :: l, h => by
    have hp := List.pairwise_cons.mp h
    unfold insS
    split
    · rename_i e
      refine List.pairwise_cons.mpr ⟨fun r hr => ?_, insS_srt T q l hp.2⟩
      rcases List.mem_cons.mp ((insS_perm q l).mem_iff.mp hr) with z | z
      · rw [z]; exact T.as _ _ e
      · exact hp.1 r z
    · rename_i e
      have e : lt p q = false := by simpa using e
      refine List.pairwise_cons.mpr ⟨fun r hr => ?_, h⟩
      rcases List.mem_cons.mp hr with z | z
      · rw [z]; exact e
      · exact T.tr _ _ _ e (hp.1 r z)
theorem srtS_srt (T : Tot lt) : ∀ l : List α, (srtS lt l).Pairwise (fun p r => lt r p = false)
  | [] => List.Pairwise.nil
  | q :: l => insS_srt T q _ (srtS_srt T l)
theorem srt_uniq (T : Tot lt) : ∀ {l m : List α}, l.Perm m → l.Pairwise (fun p r => lt r p = false) → m.Pairwise (fun p r => lt r p = false) → l = m
  | [], m, h, _, _ => (List.Perm.eq_nil h.symm).symm
  | x :: l, [], h, _, _ => absurd h.length_eq (by simp)
  | x :: l, y :: m, h, hl, hm => by
    have hl' := List.pairwise_cons.mp hl
    have hm' := List.pairwise_cons.mp hm
    have rf : ∀ z : α, lt z z = false := fun z => by
      cases e : lt z z with
      | false => rfl
      | true => exact (T.as z z e).symm.trans e ▸ rfl
    have h1 : lt x y = false := by
      rcases List.mem_cons.mp (h.mem_iff.mp (List.mem_cons_self ..)) with e | hx
      · rw [e]; exact rf y
      · exact hm'.1 x hx
    have h2 : lt y x = false := by
      rcases List.mem_cons.mp (h.symm.mem_iff.mp (List.mem_cons_self ..)) with e | hy
      · rw [e]; exact rf x
      · exact hl'.1 y hy
    have e := T.un _ _ h1 h2
    subst e
    rw [srt_uniq T h.cons_inv hl'.2 hm'.2]
theorem srtS_uniq (T : Tot lt) {l m : List α} (h : m.Perm l) (hm : m.Pairwise (fun p r => lt r p = false)) : m = srtS lt l := srt_uniq T (h.trans (srtS_perm l).symm) hm (srtS_srt T l)
end
theorem tot_P : Tot SrtO.lexB := ⟨fun x y h => by
    have a := SrtO.lexB_iff.mp h
    refine SrtO.lexB_no.mpr ?_
    omega, fun x y z h1 h2 => by
    have a := SrtO.lexB_no.mp h1
    have b := SrtO.lexB_no.mp h2
    refine SrtO.lexB_no.mpr ?_
    omega, fun x y h1 h2 => by
    have a := SrtO.lexB_no.mp h1
    have b := SrtO.lexB_no.mp h2
    refine Prod.ext ?_ ?_ <;> omega⟩
abbrev srtP := srtS SrtO.lexB
section
variable {F B F' B' : Addr → Prop} {g : Cn} {W : WX} {H : Hp} {σ : L2.St} {ρ ρ' : Env} {T : Tm} {v : V} {d : D} {X : Cx} {K : PySem.W.Frag} {QD : Res D → Env → Prop}
/-! #### ints -/
/-! #### tuples that are there become frozen -/
theorem Sat.freezeT (S : Sat F B g H σ ρ T) {bs : List Addr} (h : ∀ b ∈ bs, ∃ ys, H b = some (.tup ys)) : ∃ F' B', Ext F B H F' B' H ∧ Sat F' B' g H σ ρ T ∧ ∀ b ∈ bs, F' b := by
  obtain ⟨⟨o1, o2, h1, h2, nd, nb⟩, fb, bt⟩ := S
  have nt : ∀ a, Nt H a → a ∉ bs := fun a ⟨o, e, n⟩ z => by
    obtain ⟨ys, hy⟩ := h a z
    rw [hy] at e
    cases e
    exact n ys rfl
  have ag : Ag F H (fun a => F a ∨ a ∈ bs) H := ⟨fun a z => .inl z, fun _ _ => rfl⟩
  refine ⟨fun a => F a ∨ a ∈ bs, fun a => B a ∨ a ∈ bs, ⟨fun a z => .inl z, fun a z => .inl z, fun _ _ => rfl, fun a z => z.imp_right fun z y => nt a y.2 z⟩, ⟨⟨o1, o2, h1.mono ag fun _ _ => rfl, h2.mono ag fun _ _ => rfl, nd, fun a ha z => ?_⟩, fun a z => z.imp_left (fb a), fun a z => ?_⟩, fun b hb => .inr hb⟩
  · rcases z with z | z
    · exact nb a ha z
    · exact nt a ((List.mem_append.mp ha).elim (h1.nt a) (h2.nt a)) z
  · rcases z with z | z
    · exact bt a z
    · obtain ⟨ys, hy⟩ := h a z
      exact ⟨_, hy⟩
def tupP (q : Int × Int) : D := .tup [.int q.1, .int q.2]
theorem reps_pairs : ∀ {ys : List V} {qs : List (Int × Int)}, Paired (PairAt H) ys qs → (∀ b, V.ref b ∈ ys → F b) → Reps F g H (qs.map tupP) ys
  | [], [], _, _ => rfl
  | y :: ys, q :: qs, .cons ⟨b, e, hb⟩ r, hF => by
    subst e
    exact ⟨.ref b, ys, rfl, ⟨b, _, rfl, hF b (List.mem_cons_self ..), hb, ⟨.int q.1, _, rfl, rfl, ⟨.int q.2, _, rfl, rfl, rfl⟩⟩⟩, reps_pairs r fun b hb => hF b (List.mem_cons_of_mem _ hb)⟩
theorem Sat.newPairs {ys : List V} {qs : List (Int × Int)} {l : Addr} (S : Sat F B g H σ ρ T) (r : Paired (PairAt H) ys qs) (hl : H l = none) :
    ∃ F' B', Ext F B H F' B' (upd H l (.lst ys)) ∧ Sat F' B' g (upd H l (.lst ys)) σ ρ ((.ref l, .ol (qs.map tupP)) :: T) := by
  have hr : ∀ y ∈ ys, ∃ b ys', y = V.ref b ∧ H b = some (.tup ys') := fun y hy => by
    obtain ⟨j, hj⟩ := List.mem_iff_getElem?.mp hy
    obtain ⟨q, _, b, e, hb⟩ : ∃ q, qs[j]? = some q ∧ PairAt H y q := by
      have : ∀ {ys : List V} {qs : List (Int × Int)} {j : Nat} {y : V}, Paired (PairAt H) ys qs → ys[j]? = some y → ∃ q, qs[j]? = some q ∧ PairAt H y q := by
        intro ys qs j y r
        induction r generalizing j with
        | nil => intro h; simp at h
        | cons h t ih =>
          intro h2
          cases j with
          | zero => simp at h2; subst h2; exact ⟨_, rfl, h⟩
          | succ j => simpa using ih (by simpa using h2)
      exact this r hj
    exact ⟨b, _, e, hb⟩
  obtain ⟨F1, B1, x1, S1, hF⟩ := S.freezeT (bs := ys.filterMap fun y => match y with | .ref b => some b | _ => none) fun b hb => by
    obtain ⟨y, hy, e⟩ := List.mem_filterMap.mp hb
    obtain ⟨b', ys', rfl, h'⟩ := hr y hy
    cases e
    exact ⟨ys', h'⟩
  obtain ⟨F3, B3, x3, S3⟩ := S1.newLF (reps_pairs (F := F1) r fun b hb => hF b (List.mem_filterMap.mpr ⟨_, hb, rfl⟩)) hl
  exact ⟨F3, B3, x1.trans x3, S3⟩
end
end SV
end
section
set_option Elab.async false
set_option linter.all false
set_option autoImplicit false
set_option maxRecDepth 100000
set_option maxHeartbeats 4000000
namespace SV
open PySem PySem.Spec PyProof.Rows L2
/-! ### sorted(d.keys()), sorted(set(xs)) -/
def isPK : List L2.Key → Bool
  | [.inl _, .inl _] => true
  | _ => false
theorem isPK_ok {k : List L2.Key} (h : isPK k = true) : ∃ i j, k = [.inl i, .inl j] := by
  unfold isPK at h
  split at h
  · exact ⟨_, _, rfl⟩
  · cases h
def fSKeys : D → M D
  | .dt ks _ => if ks.all isPK = true then ret (.ol ((srtP (ks.map kpOf)).map tupP)) else stuck
  | _ => stuck
def mSKeys (m : M D) : M D := bnd m fSKeys
section
variable {F B F' B' : Addr → Prop} {g : Cn} {W : WX} {H : Hp} {σ : L2.St} {ρ ρ' : Env} {T : Tm} {v : V} {d : D} {X : Cx} {K : PySem.W.Frag} {QD : Res D → Env → Prop}
theorem sim_skeys {te : TE} {m : M D} (he : SimE g W te m) : SimE g W (tCB rSortKT (tCons (tBM0 K "dict" rKeysT te) tNil)) (mSKeys m) := fun F B H σ ρ T Q res ρ' S e px k => by
  refine SimE.bind he S e px fun d ρ1 F1 B1 H1 v e1 x1 S1 => ?_
  unfold fSKeys at e1
  split at e1
  · rename_i ks xs
    split at e1
    · rename_i hk
      cases e1
      obtain ⟨f, rt⟩ := S1.top
      obtain ⟨⟨a, kvs, ev, fa, ha, ek, rs⟩, _⟩ := rt
      subst ev
      have hk' : ∀ e ∈ kvs, ∃ i j, e.1 = [.inl i, .inl j] := fun e he => isPK_ok (List.all_eq_true.mp hk e.1 (by rw [← ek]; exact List.mem_map.mpr ⟨e, he, rfl⟩))
      refine ⟨.inr (.inr (.inl ⟨rfl, .inr ⟨kvs, ha⟩⟩)), a, kvs, rfl, rfl, ha, fun p hp => ?_⟩
      have hne : a ≠ p := fun z => by rw [z, hp] at ha; cases ha
      refine ⟨p, a, kvs, rfl, upd_same, by rw [upd_ne hne]; exact ha, hk', fun l ys qs hl hp2 hperm hsort => ?_⟩
      obtain ⟨x2, S2⟩ := S1.pop.grow (o := keysO p a) hp
      obtain ⟨F3, B3, x3, S3⟩ := S2.newPairs hp2 hl
      have eq : qs = srtP (ks.map kpOf) := srtS_uniq tot_P (by rw [← ek, List.map_map]; exact hperm) hsort
      rw [eq] at S3
      exact k _ rfl F3 B3 _ _ ((x1.trans x2).trans x3) S3
    · cases e1
  · cases e1
theorem w_skeys {e : Expr} {m : M D} {p apos cpos pos : Pos} (hc : X.calm = true) (hg : Gl X "sorted") (hm : X.mg "sorted" = none) (he : VE X g W e m) (hbase : attributeBase e "keys" X.env (eval e X.env) = eval e X.env := by rfl) (hline : (apos.endLine == cpos.line) = true := by rfl)
    (hs : starEach [.Call (.Attribute e "keys" apos) [] [] cpos] X.env = (false, eval (.Call (.Attribute e "keys" apos) [] [] cpos) X.env) :: starEach [] X.env := by rfl) :
    VE X g W (.Call (.Name "sorted" p) [.Call (.Attribute e "keys" apos) [] [] cpos] [] pos) (mSKeys m) :=
  .mk (pe_callB (cr_sortedKT hc) hg hm boot_sorted (pa_cons (pe_bm0 PySem.F.plainAttrs_dict PySem.F.slot_dict_keys PySem.F.type_dict_keys mt_keysT he hbase hline) pa_nil hs) (by decide) (by decide) hs rfl) (sim_skeys selfE)
/-! #### sorted(set(xs)) of pairs -/
def ddP : List (Int × Int) → List (Int × Int)
  | [] => []
  | q :: l => if q ∈ l then ddP l else q :: ddP l
theorem mem_ddP {q : Int × Int} : ∀ {l : List (Int × Int)}, q ∈ ddP l ↔ q ∈ l
  | [] => Iff.rfl
  | p :: l => by
    unfold ddP
    split
    · rename_i h
      rw [mem_ddP, List.mem_cons]
      exact ⟨.inr, fun z => z.elim (fun e => by rw [e]; exact h) id⟩
    · rw [List.mem_cons, List.mem_cons, mem_ddP]
theorem nodup_ddP : ∀ l : List (Int × Int), (ddP l).Nodup
  | [] => List.nodup_nil
  | p :: l => by
    unfold ddP
    split
    · exact nodup_ddP l
    · rename_i h
      exact List.nodup_cons.mpr ⟨fun z => h (mem_ddP.mp z), nodup_ddP l⟩
def pairD : D → Option (Int × Int)
  | .tup [.int i, .int j] => some (i, j)
  | _ => none
theorem pairD_ok {d : D} {q : Int × Int} (h : pairD d = some q) : d = tupP q := by
  unfold pairD at h
  split at h
  · cases h; rfl
  · cases h
def pairsD : List D → Option (List (Int × Int))
  | [] => some []
  | d :: ds => (match pairD d with
    | some q => (match pairsD ds with
      | some qs => some (q :: qs)
      | none => none)
    | none => none)
theorem pairsD_ok : ∀ {ds : List D} {qs : List (Int × Int)}, pairsD ds = some qs → ds = qs.map tupP
  | [], qs, h => by cases h; rfl
  | d :: ds, qs, h => by
    unfold pairsD at h
    split at h
    · rename_i q hq
      split at h
      · rename_i qs' hs
        cases h
        rw [pairD_ok hq, pairsD_ok hs]
        rfl
      · cases h
    · cases h
theorem pairsD_map : ∀ qs : List (Int × Int), pairsD (qs.map tupP) = some qs
  | [] => rfl
  | q :: qs => by
    rw [List.map_cons]
    unfold pairsD
    rw [show pairD (tupP q) = some q from rfl, pairsD_map qs]
theorem perm_nd {α : Type} [DecidableEq α] {l m : List α} (h1 : l.Nodup) (h2 : m.Nodup) (h : ∀ x, x ∈ l ↔ x ∈ m) : l.Perm m := (List.perm_ext_iff_of_nodup h1 h2).mpr h
end
end SV
end
section
set_option Elab.async false
set_option linter.all false
set_option autoImplicit false
set_option maxRecDepth 100000
set_option maxHeartbeats 4000000
namespace SV
open PySem PySem.Spec PyProof.Rows L2
/-! ### dict comprehensions whose keys may be tuples -/
section
variable {X : Cx}
/-- a key comes into the new dict: any key that DPut knows -/
theorem dictSet_put {pins : List (Addr × Obj)} {σ : L2.St} {H H' : Hp} {s : Shared} {E : Value → Shared → Prop} {D : Addr} {y v : V} {u r : Value} {Q : Unit → Shared → Prop} (hu : X.A.units < cLine) (I : L2.Inv X pins σ H s) (g : DPut H D y v H') (ry : RelV y u) (rv : RelV v r) (h : ∀ s', L2.Inv X pins σ H' s' → Q () s') :
    wpAny (model X.prog X.w) X.A (dictSet D u r) Q E s := by
  rcases g with ⟨kvs, k, e, rfl, l, rfl⟩ | ⟨kvs, k, b, e, rfl, eb, l, rfl⟩
  · exact d_dictSet I e l ry rv h
  · have eu : u = Value.ref b := ry
    subst eu
    obtain ⟨z, hd, xs, rel, dd⟩ := dt_of I.hok e
    have lp := length_putK kvs k v
    have lx := Paired.length rel
    refine wpAny_dictSet_heap (knd := tupleKind (mixKind X.prog X.w)) (hsz := by omega) (show X.A.units < cLine from hu) (key_of I.hok eb) dd fun h1 new hs => h _ ?_
    obtain ⟨o1, es1, ep1, a1, a2, a3, a4, _, a6⟩ := new
    exact d_write I (by rw [e]; exact True.intro) hs ⟨o1, a1⟩ ⟨by omega, hd, _, (rel.put k eb rv).keeps fun c ys ec => (upd_ne (ne_of ec e fun z => nomatch z)).trans ec, o1, es1, ep1, a1, a2, a3, a4, a6⟩
/-- {k: v for target in iter if ..}: J walks, W the invariant of a turn, D the new dict, which begins as lab -/
def tDcP (lab : HO) (wi : TI) (g : TG) (tt : TT) (tk tv : TE) (vs : List Nat) : TE := fun σ H Q => wi σ H fun J H1 => ∀ D, H1 D = none → ∃ W : Nat → Nat → Hp → Prop, (∃ m, W 0 m (upd H1 D lab)) ∧ ∀ i m H, W i m H →
  (J.stop i H ∧ Q (.ref D) H) ∨ (J.go i H ∧ ∃ Nx : Hp → Prop, (∀ H', Nx H' → ∃ m', m' < m ∧ W (i + 1) m' H') ∧ ∀ x H', J.yld i H x H' → g x (wipe σ vs) H' fun σ2 H2 => wipe σ2 vs = wipe σ vs ∧ tt σ2 H2 fun b H3 =>
    if b = true then tk σ2 H3 fun y H4 => tv σ2 H4 fun z H5 => ∃ H6, DPut H5 D y z H6 ∧ Nx H6 else Nx H3)
/-- a label that a dict without items may bear -/
def Lab0 (lab : HO) : Prop := ∀ (P : Program) (w : World) (H : Hp) (h : Heap), sysModules < h.objs.size → ObjOk P w H (h.push { cls := .type "dict", data := .dict #[] }) h.objs.size lab
theorem lab_T : Lab0 (.dT []) := fun _ _ _ h hb => dt_empty h hb
theorem dcp_core {lab : HO} (h0 : Lab0 lab) {pins : List (Addr × Obj)} {s : Shared} {σ : L2.St} {H : Hp} {Q : VK} {kx vx tg iter : Expr} {ifs : List Expr} {scope : Scope} {own : List (Str × Nat)} {pos pos' : Pos} {wi : TI} {g : TG} {tt : TT} {tk tv : TE} {use : Option (Value → Sem Unit)} {Qf : Value → Shared → Prop}
    (hu : X.A.units < cLine) (hc : X.calm = true) (hN : X.N.Nodup) (I : L2.Inv X pins σ H s) (hi : PI X tg iter wi) (ok : BlkOk X.N X.env.scope scope own)
    (hg : ∀ (s : Shared) (H : Hp) (C : Addr) (cl : List (Str × Addr)) (fp : List Addr), PG (X.blk s H scope (compEnvC scope cl C X.env) fp) tg g) (ht : ∀ (s : Shared) (H : Hp) (C : Addr) (cl : List (Str × Addr)) (fp : List Addr), PTs (X.blk s H scope (compEnvC scope cl C X.env) fp) ifs tt)
    (hk : ∀ (s : Shared) (H : Hp) (C : Addr) (cl : List (Str × Addr)) (fp : List Addr), PE (X.blk s H scope (compEnvC scope cl C X.env) fp) kx tk)
    (he : ∀ (s : Shared) (H : Hp) (C : Addr) (cl : List (Str × Addr)) (fp : List Addr), PE (X.blk s H scope (compEnvC scope cl C X.env) fp) vx tv) (hs : ∀ x, foldedSetIterable iter X.env x = pure x)
    (h : tDcP lab wi g tt tk tv (own.map (·.2)) σ H Q)
    (done : ∀ D C s' m H', L2.Inv X pins σ H' s' → Q (.ref D) H' → s'.heap.Ns C m → FpOk X pins H' C → compPost (model X.prog X.w) X.A X.xe use Qf (.ref D) C (.ok .next) s') :
    wpAny (model X.prog X.w) X.A (comprehension (.DictComp kx vx [⟨tg, iter, ifs, 0⟩] scope pos) scope X.env pos' newDict false (eval iter X.env) use) Qf X.xe s := by
  have free : ∀ y ∈ scope.names, y.2 = .free → ∃ c, X.env.cells.lookup y.1 = some c := fun y hy e => I.ok.has _ (ok.free y hy e)
  refine wpAny_comprehension_free (use := use) rfl hs (closure_ok free) ok.kind (fun y hy e => (ok.uniq y hy).trans (by rw [e])) (thn (hi.run pins s σ H _ I h) fun xv s1 hx => thn hx fun itv s2 h2 => ?_)
  obtain ⟨it, fp, tn, J, H2, rfl, I2, T, st2, f2, q⟩ := h2
  refine wpAny_newObj_type (newEnv_comp ?_)
  -- the dict's place, the invariant
  obtain ⟨D, eD⟩ : ∃ D, s2.heap.objs.size = D := ⟨_, rfl⟩
  obtain ⟨W, ⟨m0, w0⟩, turn⟩ := q D (I2.hok.fresh (Nat.le_of_eq eD))
  obtain ⟨s3, es3⟩ : ∃ s3 : Shared, s3 = { s2 with heap := s2.heap.push { cls := .type "dict", data := .dict #[] } } := ⟨_, rfl⟩
  have hp3 : s3.heap = s2.heap.push { cls := .type "dict", data := .dict #[] } := by rw [es3]
  have I3 : L2.Inv X pins σ (upd H2 D lab) s3 := by
    rw [es3]
    subst eD
    exact I2.laid (t' := s2.toks) (fun b o e => Heap.get?_push_of_some _ e) (Nat.le_refl _) (h0 _ _ _ s2.heap I2.big)
  have old : ∀ b ∈ fp, b < s2.heap.objs.size := fun b hb => (T.obj _ _ st2 b hb).elim fun o z => Heap.lt_size z.1
  have f3 : ∀ b ∈ fp, FpOk X pins (upd H2 D lab) b ∧ b < s3.heap.objs.size := fun b hb => by
    have hlt := old b hb
    have hf := f2 b hb
    exact ⟨⟨by rw [upd_ne (Nat.ne_of_lt (eD ▸ hlt))]; exact hf.1, hf.2⟩, by rw [hp3, Heap.size_push]; exact Nat.lt_succ_of_lt hlt⟩
  have st3 : tn 0 s3.heap := T.keep _ _ _ st2 fun b _ o e => hp3 ▸ Heap.get?_push_of_some _ e
  have I4 := block_start I3 ok hN f3
  -- the block's own context
  obtain ⟨ce, ece⟩ : ∃ ce, ce = compEnvC scope (cellsFrom (s3.heap.objs.size + 1) scope.names (cloFrom X.env.cells scope.names [])) s3.heap.objs.size X.env := ⟨_, rfl⟩
  obtain ⟨s4, es4⟩ : ∃ s4 : Shared, s4 = { s3 with heap := pushCells (s3.heap.push { cls := .type "dict", data := .dict #[] }) scope.names } := ⟨_, rfl⟩
  have go : codeAny (model X.prog X.w) X.A (.compStart (.DictComp kx vx [⟨tg, iter, ifs, 0⟩] scope pos) 0 (.ref it) (.ref D) ce) (compPost (model X.prog X.w) X.A X.xe use Qf (.ref D) s3.heap.objs.size) s4 := by
    have pg := hg s3 (upd H2 D lab) s3.heap.objs.size (cellsFrom (s3.heap.objs.size + 1) scope.names (cloFrom X.env.cells scope.names [])) fp
    have pt := ht s3 (upd H2 D lab) s3.heap.objs.size (cellsFrom (s3.heap.objs.size + 1) scope.names (cloFrom X.env.cells scope.names [])) fp
    have pk := hk s3 (upd H2 D lab) s3.heap.objs.size (cellsFrom (s3.heap.objs.size + 1) scope.names (cloFrom X.env.cells scope.names [])) fp
    have pv := he s3 (upd H2 D lab) s3.heap.objs.size (cellsFrom (s3.heap.objs.size + 1) scope.names (cloFrom X.env.cells scope.names [])) fp
    rw [← ece] at pg pt pk pv I4
    rw [← es4] at I4
    have ceL : ce.locals = s3.heap.objs.size := by rw [ece]; rfl
    have nfp : ∀ b ∈ fp, (upd H2 D lab) b = none := fun b hb => (f3 b hb).1.1
    have st4 : tn 0 s4.heap := T.keep _ _ _ st3 fun b _ o e => by rw [es4]; exact pushCells_keeps _ _ _ _ (Heap.get?_push_of_some _ e)
    generalize upd H2 D lab = H3 at *
    have fpb : ∀ {σ' : L2.St} {H' : Hp} {s' : Shared}, L2.Inv (X.blk s3 H3 scope ce fp) [] σ' H' s' → (∀ b ∈ fp, H' b = none) → ∀ b ∈ fp, FpOk (X.blk s3 H3 scope ce fp) [] H' b := fun {σ' H' s'} J' hn b hb => by
      have x := J'.ok.exf b hb
      exact ⟨hn b hb, x.1, J'.ok.exfs b hb, .inl hb, fun y c e => x.2 y c e, fun p hp => by simp at hp⟩
    have loop : codeAny (model X.prog X.w) X.A (.compLoop (.DictComp kx vx [⟨tg, iter, ifs, 0⟩] scope pos) 0 (.ref it) (.ref D) ce) (compPost (model X.prog X.w) X.A X.xe use Qf (.ref D) s3.heap.objs.size) s4 := by
      let Tn : Nat → Shared → Prop := fun n s' => ∃ i H', L2.Inv (X.blk s3 H3 scope ce fp) [] (wipe σ (own.map (·.2))) H' s' ∧ tn i s'.heap ∧ (∀ b ∈ fp, H' b = none) ∧ W i n H'
      refine compLoop_anyD Tn (fun n s5 hT => ?_) m0 ⟨0, H3, I4, st4, nfp, w0⟩
      obtain ⟨i, H5, I5, st5, n5, w5⟩ := hT
      rcases turn i n H5 w5 with ⟨stop, qq⟩ | ⟨going, Nx, hNx, step⟩
      · -- the end
        refine thnF (T.done (X.blk s3 H3 scope ce fp) rfl rfl rfl hc i [] s5 _ H5 (fun _ _ => False) I5 (fpb I5 n5) st5 stop) fun r s6 ⟨hr, I6⟩ => ?_
        subst hr
        have nC : H5 s3.heap.objs.size = none := ceL ▸ I6.free
        obtain ⟨m, hn, _⟩ := I6.loc
        exact done D _ s6 m H5 (I3.call' (ch := fp) I6.os I6.base I6.hok I6.bare fun b hb => let z := (f3 b hb).1.2; ⟨z.2.2.1, z.1, z.2.2.2.1, z.2.2.2.2⟩) qq (ceL ▸ hn) (I3.fpOk (Nat.le_refl _) nC)
      · -- a turn
        refine thnF (T.item (X.blk s3 H3 scope ce fp) rfl rfl rfl hc i [] s5 _ H5 (fun _ _ => False) I5 (fpb I5 n5) st5 going) fun r s6 ⟨u, hr, h6⟩ => ?_
        subst hr
        refine thnF h6 fun _ s7 ⟨x, H7, I7, r7, y7, st7, n7⟩ => thnF (pg.run _ s7 _ H7 x u _ (I7.pinned (fpb I7 n7) (T.obj _ _ st7)) r7 (step x H7 y7)) fun _ s8 ⟨σ8, H8, I8, w8, q8⟩ => thnF (pt.run _ s8 σ8 H8 _ I8 q8) fun b s9 ⟨H9, I9, q9⟩ => ?_
        have fin : ∀ {s' : Shared} {H' : Hp}, L2.Inv (X.blk s3 H3 scope ce fp) ([] ++ pinsAt fp s7.heap) σ8 H' s' → Nx H' → ∃ m, m < n ∧ Tn m s' := fun {s' H'} J' nx => by
          obtain ⟨m', hm, w'⟩ := hNx H' nx
          have stays : ∀ b ∈ fp, ∀ o, s7.heap.get? b = some o → s'.heap.get? b = some o ∧ H' b = none := fun b hb o e => by
            have z := J'.pin (b, o) (List.mem_append_right _ (List.mem_append_right _ (mem_pinsAt hb e)))
            exact ⟨z.1, z.2.1⟩
          have len : (wipe σ (own.map (·.2))).length = σ8.length := by rw [← w8, wipe_length]
          exact ⟨m', hm, i + 1, H', (J'.unpinned (pins := [])).weak len fun j v e => (wipe_some (w8.symm ▸ e)).1, T.keep _ _ _ st7 fun b hb o e => (stays b hb o e).1, fun b hb => (T.obj _ _ st7 b hb).elim fun o z => (stays b hb o z.1).2, w'⟩
        cases b with
        | false => exact fin I9 (by simpa using q9)
        | true =>
          rw [if_pos rfl] at q9 ⊢
          exact thnF (pk.run _ s9 σ8 H9 _ I9 q9) fun z s10 ⟨yk, H10, I10, r10, q10⟩ => thnF (pv.run _ s10 σ8 H10 _ I10 q10) fun z2 s11 ⟨yv, H11, I11, r11, H12, put, nx⟩ => dictSet_put (X := X.blk s3 H3 scope ce fp) hu I11 put r10 r11 fun s12 I12 => fin I12 nx
    exact codeAny_compStart_dict loop (T.self X.A 0 _ _ _ st4 loop)
  subst es4 ece es3 eD
  exact go
end
end SV
end
section
set_option Elab.async false
set_option linter.all false
set_option autoImplicit false
set_option maxRecDepth 100000
set_option maxHeartbeats 4000000
namespace SV
open PySem PySem.Spec PyProof.Rows L2
/-! ### x = {k: v for ..}, {k: v for ..}: on data -/
section
variable {X : Cx}
theorem ps_setDcp {lab : HO} (h0 : Lab0 lab) {i : Nat} {y : Str} {py : Pos} {kx vx tg iter : Expr} {ifs : List Expr} {scope : Scope} {own : List (Str × Nat)} {pos spos : Pos} {wi : TI} {g : TG} {tt : TT} {tk tv : TE} (hu : X.A.units < cLine) (hc : X.calm = true) (hN : X.N.Nodup) (hy : X.N[i]? = some y) (hyl : X.env.scope.names.lookup y = some .local)
    (hsw : swapsWith (.DictComp kx vx [⟨tg, iter, ifs, 0⟩] scope pos) (some (.Name y py)) spos.line X.env = pure true) (hi : PI X tg iter wi) (ok : BlkOk X.N X.env.scope scope own)
    (hg : ∀ (s : Shared) (H : Hp) (C : Addr) (cl : List (Str × Addr)) (fp : List Addr), PG (X.blk s H scope (compEnvC scope cl C X.env) fp) tg g) (ht : ∀ (s : Shared) (H : Hp) (C : Addr) (cl : List (Str × Addr)) (fp : List Addr), PTs (X.blk s H scope (compEnvC scope cl C X.env) fp) ifs tt)
    (hk : ∀ (s : Shared) (H : Hp) (C : Addr) (cl : List (Str × Addr)) (fp : List Addr), PE (X.blk s H scope (compEnvC scope cl C X.env) fp) kx tk)
    (he : ∀ (s : Shared) (H : Hp) (C : Addr) (cl : List (Str × Addr)) (fp : List Addr), PE (X.blk s H scope (compEnvC scope cl C X.env) fp) vx tv) (hs : ∀ x, foldedSetIterable iter X.env x = pure x := by intro _; rfl) :
    PS X (.Assign [.Name y py] (.DictComp kx vx [⟨tg, iter, ifs, 0⟩] scope pos) spos) (tAsg (tDcP lab wi g tt tk tv (own.map (·.2))) (gName i)) := ⟨fun pins s σ H Dn I h => by
  rw [exec_Assign_Name_used _ _ _ _ hsw]
  have h : tDcP lab wi g tt tk tv (own.map (·.2)) σ H (fun x H1 => gName i x σ H1 Dn.nx) := h
  refine wpAny_bind (wpAny_standAt (wpAny_bind (wpAny_bind (thn (dcp_core (use := some (assign (.Name y py) X.env)) (Qf := fun _ s' => SP X pins Dn .next s') h0 hu hc hN I hi ok hg ht hk he hs h fun D C s' m H' J q hn f => ?_) fun _ s' hq => wpAny_pure (wpAny_pure hq)))))
  obtain ⟨c0, c1, c2, c3, c4, c5⟩ := f
  refine (?_ : wpAny _ _ (assign (.Name y py) X.env (.ref D)) _ _ _)
  refine wpAny_assign_Name (store_ok2 (v := V.ref D) J hN hy (.inl hyl) rfl (fun s2 I2 ⟨a, sb, ha⟩ => ?_) (.inr hyl))
  have ne : C ≠ a := ha.elim (fun z => z ▸ c1) fun z e => c4 y a z e.symm
  exact ⟨m, hn.sameBut sb ne, fun h3 sb3 => ⟨_, H', I2.turned (t' := s2.toks) (fun b o hb e => (sb3.2 b hb).trans e) c0 c1 c3 c4 c5, q⟩⟩⟩
end
def keyD : D → Option L2.Key
  | .int i => some (.inl i)
  | .str x => some (.inr x)
  | _ => none
def keysD : List D → Option (List L2.Key)
  | [] => some []
  | d :: ds => (match keyD d with
    | some k => (match keysD ds with
      | some ks => some (k :: ks)
      | none => none)
    | none => none)
def keyOfD : D → Option (List L2.Key)
  | .tup ds => keysD ds
  | _ => none
def putKs (ks : List (List L2.Key)) (k : List L2.Key) : List (List L2.Key) := if (ks.any fun x => decide (x = k)) = true then ks else ks ++ [k]
def putDs (ks : List (List L2.Key)) (xs : List D) (k : List L2.Key) (d : D) : List D := if (ks.any fun x => decide (x = k)) = true then (ks.zip xs).map fun p => if p.1 = k then d else p.2 else xs ++ [d]
def dcL (f : D → Env → Option Env) (tt : M Bool) (ek ev : M D) (vs : List Nat) : List D → List (List L2.Key) → List D → Env → Option ((List (List L2.Key) × List D) × Env)
  | [], ks, xs, ρ => some ((ks, xs), ρ)
  | d :: ds, ks, xs, ρ => (match f d ρ with
    | some ρ1 => (match tt ρ1 with
      | some (.ok b, ρ2) => if b = true then (match ek ρ2 with
        | some (.ok y, ρ3) => (match keyOfD y with
          | some k => (match bnd ev fFrz ρ3 with
            | some (.ok z, ρ4) => if ks.length < lim then dcL f tt ek ev vs ds (putKs ks k) (putDs ks xs k z) (wipeE ρ4 vs) else none
            | _ => none)
          | none => none)
        | _ => none) else dcL f tt ek ev vs ds ks xs (wipeE ρ2 vs)
      | _ => none)
    | none => none)
def mDc (m : M (List D)) (f : D → Env → Option Env) (tt : M Bool) (ek ev : M D) (vs : List Nat) : M D := bnd m fun ds ρ => match dcL f tt ek ev vs ds [] [] (wipeE ρ vs) with
  | some ((ks, xs), ρ') => some (.ok (.dt ks xs), ρ')
  | none => none
section
variable {F B F' B' : Addr → Prop} {g : Cn} {W : WX} {P : List Nat} {H H' : Hp} {σ σ' : L2.St} {ρ ρ' : Env} {T : Tm} {v : V} {d : D} {X : Cx}
theorem keysD_ok : ∀ {ds : List D} {ks : List L2.Key} {vs : List V}, keysD ds = some ks → Reps F g H ds vs → vs = ks.map kV
  | [], ks, vs, e, r => by cases e; exact r
  | d :: ds, ks, _, e, ⟨v, vs, ev, r, s⟩ => by
    subst ev
    unfold keysD at e
    split at e
    · rename_i k hk
      split at e
      · rename_i ks' hks
        cases e
        rw [keysD_ok hks s, List.map_cons]
        congr 1
        unfold keyD at hk
        split at hk
        · cases hk; exact r
        · cases hk; exact r
        · cases hk
      · cases e
    · cases e
theorem any_map {kvs : List (List L2.Key × V)} {k : List L2.Key} : ((kvs.map (·.1)).any fun x => decide (x = k)) = kvs.any fun kv => decide (kv.1 = k) := by rw [List.any_map]; rfl
theorem putK_keys {kvs : List (List L2.Key × V)} {k : List L2.Key} {v : V} : (putK kvs k v).map (·.1) = putKs (kvs.map (·.1)) k := by
  unfold putK putKs
  rw [any_map]
  split
  · rw [List.map_map]
    refine List.map_congr_left fun p _ => ?_
    show (if p.1 = k then (p.1, v) else p).1 = p.1
    split <;> rfl
  · rw [List.map_append]
    rfl
theorem putK_reps {kvs : List (List L2.Key × V)} {xs : List D} {k : List L2.Key} (r : Reps F g H xs (kvs.map (·.2))) (rv : Rep F g H d v) : Reps F g H (putDs (kvs.map (·.1)) xs k d) ((putK kvs k v).map (·.2)) := by
  unfold putK putDs
  rw [any_map]
  split
  · rename_i hm
    clear hm
    induction kvs generalizing xs with
    | nil =>
      cases xs with
      | nil => rfl
      | cons x xs =>
        obtain ⟨_, _, e, _⟩ := r
        simp at e
    | cons p kvs ih =>
      cases xs with
      | nil => exact absurd (show _ = [] from r) (by simp)
      | cons x xs =>
        obtain ⟨v1, vs1, e, r1, r2⟩ := r
        simp only [List.map_cons, List.cons.injEq] at e
        obtain ⟨e1, e2⟩ := e
        subst e1 e2
        refine ⟨_, _, rfl, ?_, ih r2⟩
        show Rep F g H (if p.1 = k then d else x) (if p.1 = k then (p.1, v) else p).2
        split
        · exact rv
        · exact r1
  · rw [List.map_append]
    exact Reps.append r ⟨v, [], rfl, rv, rfl⟩
theorem Rep.nown (r : Rep F g H d v) : d.own = false := by
  cases d <;> first | rfl | exact r.elim
theorem Reps.plain : ∀ {xs : List D} {vs : List V}, Reps F g H xs vs → plain xs = true
  | [], _, _ => rfl
  | d :: xs, _, ⟨v, vs, e, h1, h2⟩ => by
    show (!d.own && SV.plain xs) = true
    rw [h1.nown, Reps.plain h2]
    rfl
theorem RepOs.pl : ∀ {xs : List D} {vs : List V} {f : List Addr}, plain xs = true → RepOs F g H xs vs f → f = []
  | [], _, _, _, h => h.2
  | d :: xs, _, _, p, ⟨v, vs, f1, f2, e, e2, h1, h2⟩ => by
    have p' : (!d.own) = true ∧ plain xs = true := Bool.and_eq_true_iff.mp p
    rw [e2, (h1.plain (by simpa using p'.1)).2, RepOs.pl p'.2 h2]
    rfl
/-- a new dict -/
theorem Sat.newT {p : Addr} (S : Sat F B g H σ ρ T) (hp : H p = none) : ∃ F' B', Ext F B H F' B' (upd H p (.dT [])) ∧ Sat F' B' g (upd H p (.dT [])) σ ρ ((.ref p, .ot [] []) :: T) := by
  obtain ⟨F', x, S'⟩ := Sat.step (Ts := []) (Ts' := [(.ref p, .ot [] [])]) (H' := upd H p (.dT [])) (T := T) S fun fs hr nd hb => by
    have e : fs = [] := hr
    subst e
    have np : ∀ a, (∃ o, H a = some o) → a ≠ p := fun a ⟨u, e⟩ z => by rw [z, hp] at e; cases e
    refine ⟨F, [p], fun _ h => h, fun a _ h => upd_ne (np a h), ⟨[p], [], rfl, ⟨p, [], [], rfl, rfl, upd_same, rfl, ⟨rfl, rfl⟩⟩, rfl⟩, List.nodup_cons.mpr ⟨by simp, List.nodup_nil⟩, fun a h => .inr ?_, fun a h => .inl h, fun a h z => ?_, fun a h => ?_⟩
    · rw [List.mem_singleton.mp h]; exact hp
    · rw [List.mem_singleton.mp h] at z
      exact np p (S.tru z) rfl
    · rw [upd_ne (np a (S.tru h))]
      exact S.tru h
  exact ⟨_, _, x, S'⟩
/-- the dict at hand takes an entry -/
theorem Sat.putT {p : Addr} {ks : List (List L2.Key)} {xs : List D} {k : List L2.Key} {kvs : List (List L2.Key × V)} (S : Sat F B g H σ ρ ((.ref p, .ot ks xs) :: T)) (hp : H p = some (.dT kvs)) (pl : plain xs = true) (rv : Rep F g H d v) :
    ∃ F' B', Ext F B H F' B' (upd H p (.dT (putK kvs k v))) ∧ Sat F' B' g (upd H p (.dT (putK kvs k v))) σ ρ ((.ref p, .ot (putKs ks k) (putDs ks xs k d)) :: T) ∧ plain (putDs ks xs k d) = true := by
  obtain ⟨_, rt⟩ := S.top
  obtain ⟨a0, kvs0, f0, e0, _, hp0, ek, rs⟩ := (rt.own (fun i z => by cases z) : RepO F g H (.ot ks xs) (.ref p) _)
  cases e0
  rw [hp] at hp0
  cases hp0
  subst ek
  have rr := putK_reps (k := k) (RepOs.reps pl rs) rv
  have pl2 := rr.plain
  obtain ⟨F', x, S'⟩ := Sat.step (Ts := [(.ref p, .ot (kvs.map (·.1)) xs)]) (Ts' := [(.ref p, .ot (putKs (kvs.map (·.1)) k) (putDs (kvs.map (·.1)) xs k d))]) (H' := upd H p (.dT (putK kvs k v))) (T := T) S fun fs hr nd hb => by
    obtain ⟨f1, f2, e, h1, h2⟩ := hr
    have h2 : f2 = [] := h2
    subst h2
    obtain ⟨a1, kvs1, f3, e1, e2, hp1, ek1, rs1⟩ := (h1.own (fun i z => by cases z) : RepO F g H (.ot (kvs.map (·.1)) xs) (.ref p) f1)
    cases e1
    have f30 := RepOs.pl pl rs1
    subst f30 e2 e
    have nF : ¬ F p := fun z => hb p (by simp) (S.fb p z)
    have ag : Ag F H F (upd H p (.dT (putK kvs k v))) := ⟨fun _ h => h, fun a ha => upd_ne fun z => nF (z ▸ ha)⟩
    refine ⟨F, [p], fun _ h => h, fun a ha _ => upd_ne fun z => ha (by simp [z]), ⟨[p], [], rfl, ⟨p, _, [], rfl, rfl, upd_same, putK_keys, Reps.owned _ _ (Reps.mono ag _ _ rr)⟩, rfl⟩, by simpa using nd, fun a h => .inl (by simpa using h), fun a h => .inl h, fun a h z => nF ?_, fun a h => ?_⟩
    · rw [← List.mem_singleton.mp h]; exact z
    · rw [ag.h a h]
      exact S.tru h
  exact ⟨_, _, x, S', pl2⟩
end
end SV
end
section
set_option Elab.async false
set_option linter.all false
set_option autoImplicit false
set_option maxRecDepth 100000
set_option maxHeartbeats 4000000
namespace SV
open PySem PySem.Spec PyProof.Rows L2
section
variable {F B F' B' : Addr → Prop} {g : Cn} {W : WX} {P : List Nat} {H H' : Hp} {σ σ' : L2.St} {ρ ρ' : Env} {T : Tm} {v : V} {d : D} {X : Cx}
theorem frzs_plain : ∀ {xs : List D}, plain xs = true → D.frzs xs = xs
  | [], _ => rfl
  | d :: xs, p => by
    have p' : (!d.own) = true ∧ plain xs = true := Bool.and_eq_true_iff.mp p
    have e : d.frz = d := by
      cases d <;> first | rfl | (have z := p'.1; simp [D.own] at z)
    show d.frz :: D.frzs xs = _
    rw [e, frzs_plain p'.2]
theorem sim_dc {wi : TI} {gt : TG} {tt : TT} {tk tv : TE} {m : M (List D)} {f : D → Env → Option Env} {mt : M Bool} {ek ev : M D} {vs : List Nat} {n : Nat} (hi : SimI g W wi m) (hg : SimG g (butP n vs) gt f)
    (ht : SimT g (fun _ _ _ _ => False) tt mt) (hk : SimE g (fun _ _ _ _ => False) tk ek) (he : SimE g (fun _ _ _ _ => False) tv ev) : ∀ (F B : Addr → Prop) (H : Hp) (σ : L2.St) (ρ : Env) (T : Tm) (Q : VK) (r : Res D) (ρ' : Env), σ.length = n → Sat F B g H σ ρ T → mDc m f mt ek ev vs ρ = some (r, ρ') → PX g W σ T F B H ρ' r →
  (∀ d, r = .ok d → ∀ F' B' H' v, Ext F B H F' B' H' → Sat F' B' g H' σ ρ' ((v, d) :: T) → Q v H') → tDcP (.dT []) wi gt tt tk tv vs σ H Q := fun F B H σ ρ T Q r ρ' ln S e px h => by
  obtain ⟨Bh, S0, xh, back⟩ := S.hide
  unfold mDc at e
  rcases bnd_some e with ⟨ds, ρ1, e1, e2⟩ | ⟨c, fs, e1, e2⟩
  · refine hi F Bh H σ ρ [] _ (.ok ds) ρ1 S0 e1 PX.ok fun ds' hd F1 B1 H1 J x1 S1 jo p hp => ?_
    cases hd
    split at e2
    · rename_i ks0 xs0 ρ2 e3
      cases e2
      have nt : ∀ {a : Addr} {ks : List (List L2.Key)} {xs : List D}, ∀ x ∈ ([(.ref a, .ot ks xs)] : Tm), ∀ i, x.2 ≠ .sl i := fun {a ks xs} x hx i z => by
        rw [List.mem_singleton.mp hx] at z
        cases z
      have wl : (wipe σ vs).length = σ.length := wipe_length σ vs
      obtain ⟨F2, B2, x2, S2⟩ := (S1.wipeE vs).newT hp
      have kw : ∀ {ρ : Env} (i : Nat) (d : D), (wipeE ρ vs)[i]? = some (some d) → i ∉ vs := fun i d e => (wipeE_get e).2
      refine ⟨fun i k H2 => ∃ F3 B3 ρ3 ks xs, Ext F1 B1 H1 F3 B3 H2 ∧ Sat F3 B3 g H2 σ ρ3 [(.ref p, .ot ks xs)] ∧ plain xs = true ∧ (∀ (i : Nat) (d : D), ρ3[i]? = some (some d) → i ∉ vs) ∧ i ≤ ds.length ∧ k = ds.length - i ∧ dcL f mt ek ev vs (ds.drop i) ks xs ρ3 = some ((ks0, xs0), ρ'),
        ⟨ds.length, F2, B2, wipeE ρ1 vs, [], [], x2, S2, rfl, kw, Nat.zero_le _, rfl, e3⟩, ?_⟩
      rintro i k H2 ⟨F3, B3, ρ3, ks, xs, x3, S3, pl3, k3, hil, rfl, e4⟩
      have S3w : Sat F3 B3 g H2 (wipe σ vs) ρ3 _ := S3.reslot wl (fun i d e => wipe_get (k3 i d e)) nt
      obtain ⟨j1, j2⟩ := jo F3 B3 H2 (wipe σ vs) ρ3 _ x3 S3w
      by_cases hlt : i < ds.length
      · obtain ⟨hgo, hy⟩ := j1 i ds[i] (by simp [hlt])
        refine .inr ⟨hgo, _, fun H' h => ⟨ds.length - (i + 1), by omega, h⟩, fun x H' yx => ?_⟩
        obtain ⟨F4, B4, x4, S4, r4⟩ := hy x H' yx
        rw [List.drop_eq_getElem_cons hlt] at e4
        unfold dcL at e4
        split at e4
        · rename_i ρ5 e5
          refine hg F4 B4 H' (wipe σ vs) ρ3 ρ5 _ x ds[i] _ nt S4 r4 e5 fun σ5 q5 S5 => ?_
          have l5 : σ5.length = σ.length := q5.1.trans wl
          have q6 : ∀ i, i ∉ vs → σ5[i]? = σ[i]? := fun i hi => by
            by_cases hl : i < n
            · rw [q5.2 i (List.mem_filter.mpr ⟨List.mem_range.mpr hl, by simpa using hi⟩), wipe_get hi]
            · rw [List.getElem?_eq_none (by omega), List.getElem?_eq_none (by omega)]
          have ofW : ∀ {F B : Addr → Prop} {H : Hp} {ρ : Env} {ks : List (List L2.Key)} {xs : List D}, Sat F B g H σ5 (wipeE ρ vs) [(.ref p, .ot ks xs)] → Sat F B g H σ (wipeE ρ vs) [(.ref p, .ot ks xs)] := fun S => S.reslot l5.symm (fun i d e => (q6 i (kw i d e)).symm) nt
          refine ⟨?_, ?_⟩
          · apply List.ext_getElem?
            intro i
            by_cases hi : i ∈ vs
            · by_cases hl : i < σ.length
              · rw [wipe_in hi (by omega), wipe_in hi hl]
              · rw [List.getElem?_eq_none (by rw [wipe_length]; omega), List.getElem?_eq_none (by rw [wipe_length]; omega)]
            · rw [wipe_get hi, wipe_get hi, q6 i hi]
          · split at e4
            · rename_i b ρ6 e6
              refine ht F4 B4 H' σ5 ρ5 _ _ (.ok b) ρ6 S5 e6 PX.ok fun b' hb F6 B6 H6 x6 S6 => ?_
              cases hb
              cases b with
              | true =>
                rw [if_pos rfl] at e4 ⊢
                split at e4
                · rename_i y ρ7 e7
                  split at e4
                  · rename_i kk hkk
                    split at e4
                    · rename_i z ρ8 e8
                      split at e4
                      · rename_i hlim
                        refine hk F6 B6 H6 σ5 ρ6 _ _ (.ok y) ρ7 S6 e7 PX.ok fun y' hy' F7 B7 H7 u x7 S7 => ?_
                        cases hy'
                        rcases bnd_some e8 with ⟨z0, ρ9, e9, e10⟩ | ⟨c, fs, e9, e10⟩
                        · refine he F7 B7 H7 σ5 ρ7 _ _ (.ok z0) ρ9 S7 e9 PX.ok fun z' hz' F8 B8 H8 w x8 S8 => ?_
                          cases hz'
                          obtain ⟨z1, hz1, F9, B9, x9, S9, rz⟩ := S8.fFrz e10
                          cases hz1
                          -- the key
                          obtain ⟨b, ys, eu, hb⟩ : ∃ b ys, u = V.ref b ∧ H8 b = some (.tup ys) ∧ ys = kk.map kV := by
                            unfold keyOfD at hkk
                            split at hkk
                            · obtain ⟨_, rt⟩ := S9.pop.top
                              obtain ⟨⟨a, us, eu, fa, ha, rs⟩, _⟩ := rt
                              exact ⟨a, us, eu, ha, keysD_ok hkk rs⟩
                            · cases hkk
                          obtain ⟨hb, eys⟩ := hb
                          subst eys
                          -- the dict
                          have S10 : Sat F9 B9 g H8 σ5 ρ8 ((.ref p, .ot ks xs) :: ([] : Tm)) := S9.pop.pop
                          obtain ⟨_, rt⟩ := S10.top
                          obtain ⟨a0, kvs, f0, ea, _, hp0, ekk, rs0⟩ := (rt.own (fun i z => by cases z) : RepO F9 g H8 (.ot ks xs) (.ref p) _)
                          cases ea
                          have lk : kvs.length < sizeLine := by
                            have := congrArg List.length ekk
                            rw [List.length_map] at this
                            rw [this, lim_eq]
                            exact hlim
                          obtain ⟨F11, B11, x11, S11, pl11⟩ := S10.putT (k := kk) hp0 pl3 rz
                          refine ⟨upd H8 p (.dT (putK kvs kk w)), ?_, ?_⟩
                          · rw [eu]
                            exact DPut.t hp0 hb lk
                          · exact ⟨F11, B11, wipeE ρ8 vs, _, _, (((((x3.trans x4).trans x6).trans x7).trans x8).trans x9).trans x11, ofW (Sat.wipeE S11 vs), pl11, kw, hlt, rfl, e4⟩
                        · cases e10
                      · cases e4
                    · cases e4
                  · cases e4
                · cases e4
              | false =>
                rw [if_neg Bool.false_ne_true] at e4 ⊢
                exact ⟨F6, B6, wipeE ρ6 vs, ks, xs, (x3.trans x4).trans x6, ofW (Sat.wipeE S6 vs), pl3, kw, hlt, rfl, e4⟩
            · cases e4
        · cases e4
      · have ei : i = ds.length := by omega
        subst ei
        rw [List.drop_length] at e4
        cases e4
        refine .inl ⟨j2, ?_⟩
        obtain ⟨B5, x5, S5⟩ := back F3 B3 H2 ρ' _ (x1.trans x3) S3
        obtain ⟨F6, B6, x6, S6, _⟩ := Sat.freeze (show Sat F3 B5 g H2 σ ρ' ((.ref p, .ot ks0 xs0) :: T) from S5) (fun i z => by cases z)
        have ez : D.frzs xs0 = xs0 := frzs_plain pl3
        have S7 : Sat F6 B6 g H2 σ ρ' ((.ref p, .dt ks0 xs0) :: T) := by
          have S6' : Sat F6 B6 g H2 σ ρ' ((.ref p, .dt ks0 (D.frzs xs0)) :: T) := S6
          rw [ez] at S6'
          exact S6'
        exact h _ rfl F6 B6 H2 _ (x5.trans x6) S7
    · cases e2
  · cases r with
    | ok d => cases e2
    | exc c' fs' =>
      cases e2
      refine hi F Bh H σ ρ [] _ (.exc c fs) _ S0 e1 (fun c2 fs2 e3 F2 B2 H2 cls dx x2 S2 xa => ?_) fun d hd => by cases hd
      cases e3
      obtain ⟨B3, x3, S3⟩ := back F2 B2 H2 ρ' [] x2 S2
      exact px c fs rfl F2 B3 H2 cls dx x3 S3 xa
/-- x = {k: v for ..} -/
theorem vs_setDc {i : Nat} {y : Str} {py : Pos} {kx vx tg iter : Expr} {ifs : List Expr} {scope : Scope} {own : List (Str × Nat)} {pos spos : Pos} {m : M (List D)} {f : D → Env → Option Env} {mt : M Bool} {ek ev : M D} (hu : X.A.units < cLine) (hc : X.calm = true) (hN : X.N.Nodup) (hy : X.N[i]? = some y) (hyl : X.env.scope.names.lookup y = some .local) (hp : i ∉ P)
    (hsw : swapsWith (.DictComp kx vx [⟨tg, iter, ifs, 0⟩] scope pos) (some (.Name y py)) spos.line X.env = pure true) (hi : VI X g W tg iter m) (ok : BlkOk X.N X.env.scope scope own)
    (hg : ∀ (s : Shared) (H : Hp) (C : Addr) (cl : List (Str × Addr)) (fp : List Addr), VG (X.blk s H scope (compEnvC scope cl C X.env) fp) g (butP X.N.length (own.map (·.2))) tg f) (ht : ∀ (s : Shared) (H : Hp) (C : Addr) (cl : List (Str × Addr)) (fp : List Addr), VTs (X.blk s H scope (compEnvC scope cl C X.env) fp) g (fun _ _ _ _ => False) ifs mt)
    (hk : ∀ (s : Shared) (H : Hp) (C : Addr) (cl : List (Str × Addr)) (fp : List Addr), VE (X.blk s H scope (compEnvC scope cl C X.env) fp) g (fun _ _ _ _ => False) kx ek)
    (he : ∀ (s : Shared) (H : Hp) (C : Addr) (cl : List (Str × Addr)) (fp : List Addr), VE (X.blk s H scope (compEnvC scope cl C X.env) fp) g (fun _ _ _ _ => False) vx ev) (hs : ∀ x, foldedSetIterable iter X.env x = pure x := by intro _; rfl) :
    VS X g W P (.Assign [.Name y py] (.DictComp kx vx [⟨tg, iter, ifs, 0⟩] scope pos) spos) (mSet i (mDc m f mt ek ev (own.map (·.2)))) := ⟨fun pins st σ H Dn I ⟨F, B, ρ, fl, ρ', S, e, p⟩ => (ps_setDcp lab_T hu hc hN hy hyl hsw hi ok hg ht hk he hs).run pins st σ H Dn I (by
  unfold mSet bndS at e
  split at e
  · rename_i d ρ1 e1
    rcases bnd_some e1 with ⟨d0, ρ0, e2, e3⟩ | ⟨c, fs, e2, e3⟩
    · refine sim_dc (n := X.N.length) selfI selfG selfT selfE selfE F B H σ ρ [] _ (.ok d0) ρ0 I.len S e2 PX.ok fun d1 hd F1 B1 H1 v x S1 => ?_
      cases hd
      obtain ⟨d', hd', nd, S2⟩ := S1.fMove e3
      cases hd'
      unfold stS at e
      dsimp only at e
      split at e
      · rename_i hl
        cases e
        exact p.nx rfl F1 B1 H1 _ x (setP hp) (S2.put nd hl (.inr fun x hx => by cases hx))
      · cases e
    · cases e3
  · rename_i c fs ρ1 e1
    cases e
    rcases bnd_some e1 with ⟨d0, ρ0, e2, e3⟩ | ⟨c, fs, e2, e3⟩
    · refine sim_dc (n := X.N.length) selfI selfG selfT selfE selfE F B H σ ρ [] _ (.ok d0) ρ0 I.len S e2 PX.ok fun d1 hd F1 B1 H1 v x S1 => ?_
      cases hd
      obtain ⟨d', hd', _, S2⟩ := S1.fMove e3
      cases hd'
    · cases e3
      exact sim_dc (n := X.N.length) selfI selfG selfT selfE selfE F B H σ ρ [] _ (.exc _ _) _ I.len S e2 p.px fun d hd => by cases hd
  · cases e)⟩
end
end SV
end
section
set_option Elab.async false
set_option linter.all false
set_option autoImplicit false
set_option maxRecDepth 100000
set_option maxHeartbeats 4000000
namespace SV
open PySem PySem.Spec L2
section
variable {F B F' B' : Addr → Prop} {g : Cn} {W : WX} {P : List Nat} {H H' : Hp} {σ σ' : St} {ρ ρ' : Env} {T T' : Tm} {v : V} {d : D} {X : Cx} {K : PySem.W.Frag}
/-! ### objects of own classes: made -/
theorem Sat.newI {p dx C : Addr} {c : Str} (S : Sat F B g H σ ρ T) (hm : g.mg c = some (.ref C)) (hx : H dx = none) (hp : H p = none) (ne : dx ≠ p) :
    ∃ F' B', Ext F B H F' B' (upd (upd H dx (.own p)) p (.ins C dx [])) ∧ Sat F' B' g (upd (upd H dx (.own p)) p (.ins C dx [])) σ ρ ((.ref p, .oi c [] []) :: T) := by
  obtain ⟨F1, B1, x1, S1, _⟩ := S.newF (o := .own p) hx
  obtain ⟨H1, e1⟩ : ∃ H1, H1 = upd H dx (.own p) := ⟨_, rfl⟩
  rw [← e1] at x1 S1 ⊢
  have hp1 : H1 p = none := by rw [e1, upd_ne (Ne.symm ne)]; exact hp
  obtain ⟨F2, x, S2⟩ := Sat.step (Ts := []) (Ts' := [(.ref p, .oi c [] [])]) (H' := upd H1 p (.ins C dx [])) S1 fun fs hr nd hb => by
    have t := hr.there
    have k : ∀ {a}, (∃ o, H1 a = some o) → upd H1 p (.ins C dx []) a = H1 a := fun {a} ⟨u, e⟩ => upd_ne (ne_of_none e hp1)
    have np : ∀ a, (∃ o, H1 a = some o) → a ≠ p := fun a ⟨u, e⟩ z => by rw [z, hp1] at e; cases e
    refine ⟨F1, p :: fs, fun _ h => h, fun a _ h => k h, ⟨[p], fs, rfl, ⟨p, C, dx, [], [], rfl, rfl, upd_same, hm, rfl, rfl, rfl⟩, ?_⟩, List.nodup_cons.mpr ⟨fun z => np p (t p z) rfl, nd⟩, fun a h => ?_, fun a h => .inl h, fun a h => ?_, fun a h => ?_⟩
    · exact hr
    · rcases List.mem_cons.mp h with h | h
      · exact .inr (h ▸ hp1)
      · exact .inl h
    · rcases List.mem_cons.mp h with h | h
      · rw [h]; exact fun z => np p (S1.tru z) rfl
      · exact fun z => hb a h (S1.fb a z)
    · rw [k (S1.tru h)]; exact S1.tru h
  exact ⟨F2, _, x1.trans x, S2⟩
end
end SV
end
section
set_option Elab.async false
set_option linter.all false
set_option autoImplicit false
set_option maxRecDepth 100000
set_option maxHeartbeats 4000000
namespace SV
open PySem PySem.Spec L2
open PyProof.Rows hiding St
/-! ### C(e, ..), whose __init__ may raise into the frame's wish -/
def tMakeW (C : Addr) (sp : Sp) (E : L2.St → XK) (t : TA) : TE := fun σ H Q => t σ H fun vs H1 => ∀ x dx, H1 x = none → H1 dx = none → dx ≠ x → sp (.ref x :: vs) (upd (upd H1 dx (.own x)) x (.ins C dx [])) (fun v H2 => v = .non ∧ Q (.ref x) H2) (E σ)
section
variable {X : Cx} {k : Nat} {f C : Addr} {fd : FuncData} {ps : List Str} {sp : Sp} {E : L2.St → XK} {c : Str} {p pos : Pos} {e : Expr} {es : List Expr} {t : TA}
theorem made_run {pins : List (Addr × Obj)} {σ : L2.St} {H : Hp} {s : Shared} {Q : VK} {us : List Value} {vs : List V} (M : Mk X.K C f) (Fn : FnOk X.prog X.w X.K X.mg X.base (L2.CX X.prog X.w) k f fd ps sp) (hr : Room (k + 1) X.A) (hb : Binds X.K fd ps [])
    (hx : PassesAt (L2.CX X.prog X.w) X σ (E σ)) (I : Inv X pins σ H s) (rv : Vals vs us)
    (h : ∀ x dx, H x = none → H dx = none → dx ≠ x → sp (.ref x :: vs) (upd (upd H dx (.own x)) x (.ins C dx [])) (fun v H2 => v = .non ∧ Q (.ref x) H2) (E σ)) :
    wpAny (model X.prog X.w) X.A (call (.ref C) us) (EP X pins σ Q) X.xe s := by
  -- the dict and the object come last in the heap
  obtain ⟨n, en⟩ : ∃ n, n = s.heap.objs.size := ⟨_, rfl⟩
  have now := h (n + 1) n (I.hok.fresh (by rw [en]; exact Nat.le_succ _)) (I.hok.fresh (by rw [en]; exact Nat.le_refl _)) (Nat.ne_of_lt (Nat.lt_succ_self n))
  subst en
  have J := Inv.made (C := C) I
  have all : Vals (V.ref (s.heap.objs.size + 1) :: vs) (Value.ref (s.heap.objs.size + 1) :: us) := .cons rfl rv
  have len : (Value.ref (s.heap.objs.size + 1) :: us).length = ps.length := by rw [← all.length]; exact Fn.len _ _ _ _ now
  have bd := hb _ (Value.ref (s.heap.objs.size + 1) :: us) J.kIn (by rw [List.append_nil]; exact len)
  rw [List.append_nil] at bd
  have ran := Fn.run _ X.stack _ _ ⟨Value.ref (s.heap.objs.size + 1) :: us, []⟩ _ _ _ (E σ) (hr.make C us []) (J.env0.make C us []) bd all now
  refine wpAny_call (make_map (f := f) I.kIn M.makes M.init (beq_iff_eq.mp M.fn) (codeAny_mono ran ?_))
  rintro (er | fl) s2 z
  · exact hx pins _ _ er s2 J z
  · cases fl with
    | ret u =>
      obtain ⟨v, H2, J2, ru, ev, q⟩ := J.after z
      cases ev
      exact ⟨ru, V.ref _, H2, J2, rfl, q⟩
    | _ => exact False.elim z
theorem pe_makeW (M : Mk X.K C f) (Fn : FnOk X.prog X.w X.K X.mg X.base (L2.CX X.prog X.w) k f fd ps sp) (hr : Room (k + 1) X.A) (hg : Gl X c) (hm : X.mg c = some (.ref C)) (hb : Binds X.K fd ps []) (hx : ∀ σ, PassesAt (L2.CX X.prog X.w) X σ (E σ)) (ha : PA X (e :: es) t)
    (hdb : (c == ("__debug__" : Str)) = false := by decide) (he : starEach (e :: es) X.env = (false, eval e X.env) :: starEach es X.env := by rfl) (hpl : (backTo pos (starEach es X.env)).any (·.1) = false := by rfl) : PE X (.Call (.Name c p) (e :: es) [] pos) (tMakeW C sp E t) :=
  ⟨fun pins s σ H Q I h => wpAny_Call_Name_kw (ld_glob I hg hm (PySem.W.callWith_K (h₀ := X.base) I.ok.mod.kin M.kp (thn (ha.run pos pins s σ H _ I h) fun us s1 ⟨_, _, J, r, q⟩ => ⟨J.kIn, made_run M Fn hr hb (hx σ) J r q⟩) he hpl) hdb)⟩
end
/-! ### the same on data -/
section
variable {F B F' B' : Addr → Prop} {g : Cn} {W : WX} {P : List Nat} {H H' : Hp} {σ σ' : L2.St} {ρ ρ' : Env} {T T' : Tm} {v : V} {d : D} {X : Cx} {K : PySem.W.Frag}
end
end SV
end
section
set_option Elab.async false
set_option linter.all false
set_option autoImplicit false
set_option maxRecDepth 100000
set_option maxHeartbeats 4000000
namespace SV
open PySem PySem.Spec L2
section
variable {F B F' B' : Addr → Prop} {g : Cn} {W : WX} {P : List Nat} {H H' : Hp} {σ σ' : L2.St} {ρ ρ' : Env} {T T' : Tm} {v : V} {d : D} {X : Cx} {K : PySem.W.Frag}
/-! ### self.f = e -/
theorem putF_new {n : Str} {v : V} : ∀ {fs : List (Str × V)}, n ∉ fs.map (·.1) → putF n v fs = fs ++ [(n, v)]
  | [], _ => rfl
  | (m, y) :: fs, h => by
    have h1 : m ≠ n := fun z => h (by simp [z])
    have h2 : n ∉ fs.map (·.1) := fun z => h (by simp at z ⊢; exact .inr z)
    show (if m = n then _ else (m, y) :: putF n v fs) = _
    rw [if_neg h1, putF_new h2]
    rfl
theorem Sat.field {a : Addr} {c n : Str} {ns : List Str} {xs : List D} (S : Sat F B g H σ ρ ((.ref a, .oi c ns xs) :: T)) (r : Rep F g H d v) :
    ∃ C dx fs, H a = some (.ins C dx fs) ∧ g.mg c = some (.ref C) ∧ fs.map (·.1) = ns ∧ ∃ F' B', Ext F B H F' B' (upd H a (.ins C dx (fs ++ [(n, v)]))) ∧ Sat F' B' g (upd H a (.ins C dx (fs ++ [(n, v)]))) σ ρ ((.ref a, .oi c (ns ++ [n]) (xs ++ [d])) :: T) := by
  obtain ⟨f0, a0, C, dx, fs, fp0, e0, _, h0, m0, q0, _⟩ := S.top
  cases e0
  refine ⟨C, dx, fs, h0, m0, q0, ?_⟩
  obtain ⟨F2, x, S2⟩ := Sat.step (Ts := [(.ref a, .oi c ns xs)]) (Ts' := [(.ref a, .oi c (ns ++ [n]) (xs ++ [d]))]) (H' := upd H a (.ins C dx (fs ++ [(n, v)]))) S fun gs hr nd hb => by
    have ro := hr.one.own (fun i z => by cases z)
    have t := RepO.there _ _ _ ro
    obtain ⟨a1, C1, dx1, fs1, fp, e1, rfl, h1, _, _, s⟩ := ro
    cases e1
    rw [h0] at h1
    cases h1
    have out : ∀ b, b ≠ a → upd H a (.ins C dx (fs ++ [(n, v)])) b = H b := fun b z => upd_ne z
    have nF : ∀ b, F b → b ≠ a := fun b hF z => hb a (by simp) (S.fb a (z ▸ hF))
    have ag : Ag F H F (upd H a (.ins C dx (fs ++ [(n, v)]))) := ⟨fun _ h => h, fun b hF => out b (nF b hF)⟩
    have nfp : ∀ b ∈ fp, b ≠ a := fun b hm z => (List.nodup_cons.mp nd).1 (z ▸ hm)
    have s2 : RepOs F g (upd H a (.ins C dx (fs ++ [(n, v)]))) (xs ++ [d]) ((fs ++ [(n, v)]).map (·.2)) (fp ++ []) := by
      rw [List.map_append]
      exact RepOs.append (RepOs.mono ag _ _ _ (fun b hm => out b (nfp b hm)) s) ⟨v, [], [], [], rfl, rfl, Rep.owned _ _ (Rep.mono ag _ _ r), rfl, rfl⟩
    rw [List.append_nil] at s2
    refine ⟨F, a :: fp, fun _ h => h, fun b hm _ => out b fun z => hm (by simp [z]), ⟨a :: fp, [], by simp, ⟨a, C, dx, fs ++ [(n, v)], fp, rfl, rfl, upd_same, m0, by rw [List.map_append, q0]; rfl, s2⟩, rfl⟩, nd, fun b h => .inl h, fun b h => .inl h, fun b hm hF => hb b hm (S.fb b hF), fun b hF => ?_⟩
    rw [out b (nF b hF)]
    exact S.tru hF
  exact ⟨F2, _, x, S2⟩
def stF (ok : List (Str × Str)) (i : Nat) (n : Str) (d : D) : SM := fun ρ => match ρ[i]? with
  | some (some (.oi c ns xs)) => if (c, n) ∈ ok ∧ n ∉ ns ∧ ns.length < 1000 then some (.nx, ρ.set i (some (.oi c (ns ++ [n]) (xs ++ [d])))) else none
  | _ => none
def mSetF (ok : List (Str × Str)) (i : Nat) (n : Str) (m : M D) : SM := bndS (bnd m fFrz) (stF ok i n)
theorem sim_setF {ok : List (Str × Str)} {i : Nat} {n : Str} {tv : TE} {m : M D} (hok : ∀ (c : Str) (C : Addr), (c, n) ∈ ok → g.mg c = some (.ref C) → Cls K C ∧ NoAttr K C n) (hm : SimE g W tv m) : SimS g W P (sFld K (tVar i) tv n) (mSetF ok i n m) := fun F B H σ ρ Dn fl ρ' S e p => by
  unfold mSetF bndS at e
  split at e
  · rename_i d ρ1 e1
    rcases bnd_some e1 with ⟨d0, ρ0, e2, e3⟩ | ⟨c, fs, e2, e3⟩
    · refine hm F B H σ ρ [] _ (.ok d0) ρ0 S e2 PX.ok fun d1 hd F1 B1 H1 v x1 S1 => ?_
      cases hd
      obtain ⟨d', hz, F2, B2, x2, S2, rd⟩ := S1.fFrz e3
      cases hz
      unfold stF at e
      split at e
      · rename_i c ns xs e4
        split at e
        · rename_i hk
          cases e
          have hi : i < ρ1.length := (List.getElem?_eq_some_iff.mp e4).1
          obtain ⟨v', hv', S3⟩ := S2.take e4 rfl
          have S4 : Sat F2 B2 g H1 σ (ρ1.set i none) [(v', .oi c ns xs)] := (Sat.perm (T' := [(v, d), (v', .oi c ns xs)]) S3 (List.Perm.swap _ _ _)).pop
          obtain ⟨_, a, _, _, _, _, ea, _⟩ := S4.top
          subst ea
          obtain ⟨C, dx, fs, h0, m0, q0, F3, B3, x3, S5⟩ := S4.field rd
          have S6 := S5.putBack (fun j z => by cases z) hi hv'
          obtain ⟨k1, k2⟩ := hok c C hk.1 m0
          refine ⟨.ref a, hv', a, C, dx, fs, rfl, h0, k1, k2, by rw [← List.length_map (f := (·.1)), q0]; exact hk.2.2, ?_⟩
          rw [putF_new (by rw [q0]; exact hk.2.1)]
          exact p.nx rfl F3 B3 _ σ ((x1.trans x2).trans x3) (fun _ _ => rfl) S6
        · cases e
      · cases e
    · cases e3
  · rename_i c' fs ρ1 e1
    cases e
    rcases bnd_some e1 with ⟨d0, ρ0, e2, e3⟩ | ⟨c, fs, e2, e3⟩
    · refine hm F B H σ ρ [] _ (.ok d0) ρ0 S e2 PX.ok fun d1 hd F1 B1 H1 v x1 S1 => ?_
      cases hd
      obtain ⟨d', hz, _⟩ := S1.fFrz e3
      cases hz
    · cases e3
      exact hm F B H σ ρ [] _ (.exc _ _) _ S e2 p.px fun d hd => by cases hd
  · cases e
theorem vs_setF {ok : List (Str × Str)} {i : Nat} {x n : Str} {e : Expr} {m : M D} {p1 p2 pos : Pos} (hN : X.N[i]? = some x) (hv : Vis X.env.scope x) (hok : ∀ (c : Str) (C : Addr), (c, n) ∈ ok → g.mg c = some (.ref C) → Cls X.K C ∧ NoAttr X.K C n) (he : VE X g W e m)
    (hd : (x == ("__debug__" : Str)) = false := by decide) (hcd : (x == ("__classdict__" : Str)) = false := by decide) (hs : swapsWith e (some (.Attribute (.Name x p1) n p2)) pos.line X.env = pure false := by rfl) : VS X g W P (.Assign [.Attribute (.Name x p1) n p2] e pos) (mSetF ok i n m) :=
  .mk (ps_fld (pe_var hN hv hd hcd) he hs) (sim_setF hok selfE)
end
end SV
end
section
set_option Elab.async false
set_option linter.all false
set_option autoImplicit false
set_option maxRecDepth 100000
set_option maxHeartbeats 4000000
namespace SV
open PySem PySem.Spec L2
section
variable {F B F' B' : Addr → Prop} {g : Cn} {W : WX} {P : List Nat} {H H' : Hp} {σ σ' : L2.St} {ρ ρ' : Env} {T T' : Tm} {v : V} {d : D} {X : Cx} {K : PySem.W.Frag}
/-! ### o.f -/
theorem zip_fs : ∀ (fs : List (Str × V)), (fs.map (·.1)).zip (fs.map (·.2)) = fs
  | [] => rfl
  | (n, v) :: fs => by simp only [List.map_cons, List.zip_cons_cons, zip_fs fs]
def gFld (ok : List (Str × Str)) (n : Str) : D → Option D
  | .ins c ns xs => if (c, n) ∈ ok then (ns.zip xs).lookup n else none
  | _ => none
theorem sim_fld {ok : List (Str × Str)} {n : Str} {te : TE} {a : M D} (hok : ∀ (c : Str) (C : Addr), (c, n) ∈ ok → g.mg c = some (.ref C) → Cls K C ∧ NoAttr K C n) (ha : SimE g W te a) : SimE g W (tFld K te n) (mUn (fLook (gFld ok n)) a) := fun F B H σ ρ T Q res ρ' S e px h => by
  refine SimE.bind ha S e px fun d ρ1 F1 B1 H1 v e1 x1 S1 => ?_
  obtain ⟨x, y, e2, e3, e4⟩ := fLook_some e1
  cases e4
  obtain ⟨f, rx⟩ := S1.look1 e2
  unfold gFld at e3
  split at e3
  · rename_i c ns xs
    split at e3
    · rename_i hc
      obtain ⟨⟨p, C, dx, fs, rfl, _, h1, m, rfl, s⟩, _⟩ := rx
      obtain ⟨w, q, r⟩ := zip_lookup s e3
      rw [zip_fs] at q
      obtain ⟨k1, k2⟩ := hok c C hc m
      exact ⟨p, C, dx, fs, w, rfl, h1, k1, k2, q, h _ rfl F1 B1 H1 w x1 (S1.pop.push r)⟩
    · cases e3
  · cases e3
theorem v_fld {ok : List (Str × Str)} {n : Str} {e : Expr} {m : M D} {pos : Pos} (hok : ∀ (c : Str) (C : Addr), (c, n) ∈ ok → g.mg c = some (.ref C) → Cls X.K C ∧ NoAttr X.K C n) (he : VE X g W e m) (hb : attributeBase e n X.env (eval e X.env) = eval e X.env := by rfl) :
    VE X g W (.Attribute e n pos) (mUn (fLook (gFld ok n)) m) := .mk (pe_fld he hb) (sim_fld hok selfE)
/-! ### isinstance(o, C) -/
structure InsC (K : PySem.W.Frag) (C : Addr) : Prop where
  cl : Cls K C
  ha : PySem.W.findIn K (.ref C) "__class__" = some (some (.builtin "object.__class__"))
  hn : PySem.W.specialIn K (.builtin "object.__class__") "__get__" = some (some (.builtin "getset_descriptor.__get__"))
  ht : PySem.W.takesIn K (.builtin "object.__class__") = some true
  hm : PySem.W.mroIn K C (.type "object") = some true
  vd : clsOk K (.ref C) = true
theorem insCB_ok {C : Addr} (h : insCB K C = true) : InsC K C := by
  obtain ⟨h1, h2⟩ := Bool.and_eq_true_iff.mp h
  obtain ⟨a1, h1⟩ := Bool.and_eq_true_iff.mp h1
  obtain ⟨a2, h1⟩ := Bool.and_eq_true_iff.mp h1
  obtain ⟨a3, a4⟩ := Bool.and_eq_true_iff.mp h1
  obtain ⟨b1, h2⟩ := Bool.and_eq_true_iff.mp h2
  obtain ⟨b2, h2⟩ := Bool.and_eq_true_iff.mp h2
  obtain ⟨b3, h2⟩ := Bool.and_eq_true_iff.mp h2
  obtain ⟨b4, b5⟩ := Bool.and_eq_true_iff.mp h2
  exact ⟨⟨a1, a2, a3, of_decide_eq_true a4⟩, of_decide_eq_true b1, of_decide_eq_true b2, of_decide_eq_true b3, of_decide_eq_true b4, b5⟩
end
end SV
end
section
set_option Elab.async false
set_option linter.all false
set_option autoImplicit false
set_option maxRecDepth 100000
set_option maxHeartbeats 4000000
namespace SV
open PySem PySem.Spec L2
open PyProof.Rows hiding St
/-! ### C(e, ..), lists lent to its __init__ -/
def mMakeL (c : Str) (io : List Bool) (f : FM) (a : M (List D)) : M D := bnd a fun ds => bnd (fPreps io ds) fun xs ρ => if io.length = ds.length then (match f (.oi c [] [] :: xs) with
  | some (.ok .non, self :: cs) => (match callBack io ds cs ρ with
    | some ρ2 => some (.ok self.frz, ρ2)
    | none => none)
  | some (.exc k fs, _ :: cs) => (match callBack io ds cs ρ with
    | some ρ2 => some (.exc k fs, ρ2)
    | none => none)
  | _ => none) else none
section
variable {F B F' B' : Addr → Prop} {g : Cn} {W : WX} {P : List Nat} {H H' : Hp} {σ σ' : L2.St} {ρ ρ' : Env} {T T' : Tm} {v : V} {d : D} {X : Cx} {K : PySem.W.Frag}
theorem sim_makeL {C : Addr} {c : Str} {io : List Bool} {f : FM} {t : TA} {a : M (List D)} (hm : g.mg c = some (.ref C)) (ha : SimA g W t a) : SimE g W (tMakeW C (spV g (true :: io) f) (WE W) t) (mMakeL c io f a) := fun F B H σ ρ T Q res ρ' S e px h => by
  refine ha.bind S e px fun ds ρ1 F1 B1 H1 vs e1 x1 l S1 => ?_
  rcases bnd_some e1 with ⟨xs, ρ2, e2, e3⟩ | ⟨c, fs, e2, e3⟩
  · obtain ⟨xs', hx, l2, n2, ⟨F2, B2, x2, S2⟩, hs⟩ := S1.preps l e2
    cases hx
    intro p dx hp hdx ne
    obtain ⟨F3, B3, x3, S3⟩ := S2.newI hm hdx hp ne
    split at e3
    · rename_i hio
      have nA : ∀ d ∈ D.oi c [] [] :: xs, ∀ i, d ≠ .sl i := fun d hd => by
        rcases List.mem_cons.mp hd with hd | hd
        · rw [hd]; exact fun i z => by cases z
        · exact n2 d hd
      have x13 := (x1.trans x2).trans x3
      obtain ⟨Bc, S4, k⟩ := Sat.call (A := (V.ref p :: vs).zip (D.oi c [] [] :: xs)) (fun y hy => nA _ (List.of_mem_zip (show (y.1, y.2) ∈ _ from hy)).2) S3
      have one : sel (true :: io) (V.ref p :: vs) = V.ref p :: sel io vs := rfl
      have lv : (V.ref p :: vs).length = (true :: io).length := by simp; omega
      have lx : (D.oi c [] [] :: xs).length = (true :: io).length := by simp; omega
      split at e3
      · rename_i self cs e4
        split at e3
        · rename_i ρ3 e5
          cases e3
          refine ⟨F3, Bc, _, _, _, lv, lx, nA, S4, e4, fun d hd F' B' H' v x lc ns S5 => ?_, fun c fs hd => by cases hd⟩
          cases hd
          rw [one] at S5 lc
          obtain ⟨_, r5⟩ := S5.top
          have ev : v = .non := r5.1
          refine ⟨ev, ?_⟩
          obtain ⟨B6, x6, S6⟩ := k F' B' H' _ (fun y hy => by
            rcases List.mem_cons.mp hy with hy | hy
            · rw [hy]; exact fun i z => by cases z
            · exact ns _ (List.of_mem_zip (show (y.1, y.2) ∈ _ from hy)).2) x S5
          have S6' : Sat F' B6 g H' σ ρ2 ((V.ref p, self) :: ((sel io vs).zip cs ++ T)) := S6.pop
          obtain ⟨F7, B7, x7, S7, _⟩ := S6'.freeze (ns self (by simp))
          have S8 : Sat F7 B7 g H' σ ρ2 ((sel io vs).zip cs ++ ((V.ref p, self.frz) :: T)) := S7.perm List.perm_middle.symm
          exact h self.frz rfl F7 B7 H' (.ref p) ((x13.trans x6).trans x7) (Sat.back l (by simpa using lc) (fun y hy => ns y (List.mem_cons_of_mem _ hy)) hs S8 e5)
        · cases e3
      · rename_i kx fs self cs e4
        split at e3
        · rename_i ρ3 e5
          cases e3
          refine ⟨F3, Bc, _, _, _, lv, lx, nA, S4, e4, (fun d hd => by cases hd), fun c2 fs2 hd F' B' H' cls dx2 x lc ns S5 xa => ?_⟩
          cases hd
          rw [one] at S5 lc
          obtain ⟨B6, x6, S6⟩ := k F' B' H' _ (fun y hy => ns _ (List.of_mem_zip (show (y.1, y.2) ∈ _ from hy)).2) x S5
          have S6' : Sat F' B6 g H' σ ρ2 ((sel io vs).zip cs ++ T) := S6.pop
          exact px kx fs rfl F' B6 H' cls dx2 (x13.trans x6) (Sat.back l (by simpa using lc) (fun y hy => ns y (List.mem_cons_of_mem _ hy)) hs S6' e5) xa
        · cases e3
      · cases e3
    · cases e3
  · obtain ⟨ds', hd, _⟩ := S1.preps l e2
    cases hd
theorem v_makeL {k : Nat} {f C : Addr} {fd : FuncData} {ps : List Str} {io : List Bool} {fm : FM} {c : Str} {p pos : Pos} {a : Expr} {es : List Expr} {ms : M (List D)} (tk : Takes X W) (M : Mk X.K C f) (Fn : FnOk X.prog X.w X.K X.mg X.base (L2.CX X.prog X.w) k f fd ps (spV g (true :: io) fm))
    (hr : Room (k + 1) X.A) (hg : Gl X c) (hm : X.mg c = some (.ref C)) (hgm : g.mg = X.mg) (hb : Binds X.K fd ps []) (ha : VA X g W (a :: es) ms)
    (hdb : (c == ("__debug__" : Str)) = false := by decide) (he : starEach (a :: es) X.env = (false, eval a X.env) :: starEach es X.env := by rfl) (hpl : (backTo pos (starEach es X.env)).any (·.1) = false := by rfl) :
    VE X g W (.Call (.Name c p) (a :: es) [] pos) (mMakeL c io fm ms) := .mk (pe_makeW M Fn hr hg hm hb (fun σ => passAt tk σ) ha hdb he hpl) (sim_makeL (by rw [hgm]; exact hm) selfA)
end
end SV
end
section
set_option Elab.async false
set_option linter.all false
set_option autoImplicit false
set_option maxRecDepth 100000
set_option maxHeartbeats 4000000
namespace SV
open PySem PySem.Spec PyProof.Rows L2
/-! ### x[i].append(e): an int into a list of a list -/
section
variable {F B F' B' : Addr → Prop} {g : Cn} {W : WX} {H H' : Hp} {σ : L2.St} {ρ ρ' : Env} {T : Tm} {v : V} {d : D} {K : PySem.W.Frag} {X : Cx} {P : List Nat} {i : Nat}
end
end SV
end
section
set_option Elab.async false
set_option linter.all false
set_option autoImplicit false
set_option maxRecDepth 100000
set_option maxHeartbeats 4000000
namespace SV
open PySem PySem.Spec PyProof.Rows L2
/-! ### what is looked at for an own class with fields -/
structure OwnC (K : PySem.W.Frag) (x : Str) (ns : List Str) : Prop where
  mks : Mk K (He.ga K x) (He.ma K (He.ga K x) "__init__")
  ins : InsC K (He.ga K x)
  na : ∀ n ∈ ns, NoAttr K (He.ga K x) n
  kt : PySem.W.kitOne K (.ref (He.ga K x)) (.ref (He.ga K x)) = some true
theorem ownB_ok {K : PySem.W.Frag} {x : Str} {ns : List Str} (h : ownB K x ns = true) : OwnC K x ns := by
  obtain ⟨h1, h2⟩ := Bool.and_eq_true_iff.mp h
  obtain ⟨a1, h1⟩ := Bool.and_eq_true_iff.mp h1
  obtain ⟨a2, h1⟩ := Bool.and_eq_true_iff.mp h1
  obtain ⟨a3, a4⟩ := Bool.and_eq_true_iff.mp h1
  obtain ⟨b1, h2⟩ := Bool.and_eq_true_iff.mp h2
  obtain ⟨b2, b3⟩ := Bool.and_eq_true_iff.mp h2
  exact ⟨⟨a1, of_decide_eq_true a2, a3, a4⟩, insCB_ok b1, fun n hn => (of_decide_eq_true (List.all_eq_true.mp b2 n hn) : PySem.W.findIn K (.ref (He.ga K x)) n = some none), of_decide_eq_true b3⟩
theorem fld_of {K : PySem.W.Frag} {mg : Str → Option Value} {x n : Str} {ns : List Str} (Q : OwnC K x ns) (hg : mg x = some (.ref (He.ga K x))) (hn : n ∈ ns) : ∀ (c : Str) (C : Addr), (c, n) ∈ [(x, n)] → mg c = some (.ref C) → Cls K C ∧ NoAttr K C n := fun c C hc hm => by
  have e : c = x := by simpa using hc
  subst e
  rw [hg] at hm
  cases hm
  exact ⟨Q.ins.cl, Q.na n hn⟩
/-! ### a name: a list's items are frozen in place, another thing is read -/
def mVarW (i : Nat) : M D := fun ρ => match ρ[i]? with
  | some (some (.ol _)) => mVarZ i ρ
  | _ => mVar i ρ
section
variable {g : Cn} {W : WX} {X : Cx}
theorem sim_varW (i : Nat) : SimE g W (tVar i) (mVarW i) := fun F B H σ ρ T Q r ρ' S e px h => by
  unfold mVarW at e
  split at e
  · exact sim_varZ i F B H σ ρ T Q r ρ' S e px h
  · exact sim_var i F B H σ ρ T Q r ρ' S e px h
theorem w_varW (i : Nat) {x : Str} {pos : Pos} (hN : X.N[i]? = some x := by rfl) (hv : Vis X.env.scope x := by first | exact Or.inl rfl | exact Or.inr (Or.inl rfl) | exact Or.inr (Or.inr rfl)) (hd : (x == ("__debug__" : Str)) = false := by decide) (hcd : (x == ("__classdict__" : Str)) = false := by decide) : VE X g W (.Name x pos) (mVarW i) :=
  .mk (pe_var hN hv hd hcd) (sim_varW i)
end
end SV
end
section
set_option Elab.async false
set_option linter.all false
set_option autoImplicit false
set_option maxRecDepth 100000
set_option maxHeartbeats 4000000
namespace SV
open PySem PySem.Spec PyProof.Rows L2
/-! ### for k, y in enumerate(x), the list in slot i is lent and stays as it is -/
section
variable {F B F' B' : Addr → Prop} {g : Cn} {W : WX} {H H' : Hp} {σ : L2.St} {ρ ρ' : Env} {T : Tm} {v : V} {d : D} {K : PySem.W.Frag} {X : Cx} {P : List Nat} {i : Nat}
/-- the list in slot i is kept from what comes, other slots may be stored into -/
theorem Sat.blockS {xs : List D} (S : Sat F B g H σ ρ T) (e : ρ[i]? = some (some (.ol xs))) : ∃ B' : Addr → Prop, (∀ a, B a → B' a) ∧ Sat F B' g H σ (ρ.set i none) T ∧
    (∃ p vs, σ[i]? = some (some (.ref p)) ∧ H p = some (.lst vs) ∧ B' p ∧ ∃ f, RepOs F g H xs vs f) ∧ ∀ (F2 B2 : Addr → Prop) (H2 : Hp) (σ2 : L2.St) (ρ2 : Env) (T2 : Tm), Ext F B' H F2 B2 H2 → σ2[i]? = σ[i]? → Sat F2 B2 g H2 σ2 ρ2 T2 → ∃ B3 : Addr → Prop, Ext F B H F2 B3 H2 ∧ Sat F2 B3 g H2 σ2 (ρ2.set i (some (.ol xs))) T2 := by
  have hi : i < ρ.length := (List.getElem?_eq_some_iff.mp e).1
  have hls := S.length
  obtain ⟨⟨o1, o2, h1, h2, nd, nb⟩, fb, bt⟩ := S
  obtain ⟨v, f, gg, pm, hv, rx, rs⟩ := h1.take e
  have ro : RepO F g H (.ol xs) v f := rx.own rfl
  have th := RepO.there _ _ _ ro
  have nth := RepO.nt _ _ _ ro
  have pp : (o1 ++ o2).Perm (f ++ (gg ++ o2)) := by
    rw [← List.append_assoc]
    exact List.Perm.append_right _ pm
  have nd2 := List.nodup_append.mp (pp.nodup_iff.mp nd)
  have nbf : ∀ a ∈ f, ¬ B a := fun a ha => nb a (pp.mem_iff.mpr (List.mem_append_left _ ha))
  refine ⟨fun a => B a ∨ a ∈ f, fun a h => .inl h, ⟨⟨gg, o2, rs, h2, nd2.2.1, fun a ha hb => ?_⟩, fun a h => .inl (fb a h), fun a h => h.elim (bt a) (th a)⟩, ?_, fun F2 B2 H2 σ2 ρ2 T2 x e2 S2 => ?_⟩
  · rcases hb with z | z
    · exact nb a (pp.mem_iff.mpr (List.mem_append_right _ ha)) z
    · exact nd2.2.2 a z a ha rfl
  · obtain ⟨p', vs', fp, q1, q2, q3, q4⟩ := ro
    exact ⟨p', vs', by rw [hv, q1], q3, .inr (by rw [q2]; simp), fp, q4⟩
  · have hl2 := S2.length
    have hv2 : σ2[i]? = some (some v) := e2.trans hv
    have hi2 : i < ρ2.length := by rw [← hl2]; exact (List.getElem?_eq_some_iff.mp hv2).1
    obtain ⟨⟨p1, p2, k1, k2, nd3, nb3⟩, fb3, bt3⟩ := S2
    have ag : Ag F H F2 H2 := ⟨x.f, fun a ha => x.h a (.inl (fb a ha))⟩
    have ro2 : RepO F2 g H2 (.ol xs) v f := RepO.mono ag _ _ _ (fun a ha => x.h a (.inr ha)) ro
    obtain ⟨g2, sg, k4⟩ := k1.drop i (some v)
    have es : σ2.set i (some v) = σ2 := by
      apply List.ext_getElem?
      intro j
      by_cases hj : i = j
      · subst hj
        rw [List.getElem?_set_self (List.getElem?_eq_some_iff.mp hv2).1, hv2]
      · rw [List.getElem?_set_ne hj]
    rw [es] at k4
    obtain ⟨g3, pm3, k5⟩ := k4.put (i := i) (d := .ol xs) (v := v) (f := f) (by simp [hi2]) (RX.of ro2)
    rw [es, List.set_set] at k5
    have ss : (g2 ++ p2).Sublist (p1 ++ p2) := List.Sublist.append_right sg _
    have pp3 : (g3 ++ p2).Perm (f ++ (g2 ++ p2)) := by
      rw [← List.append_assoc]
      exact List.Perm.append_right _ pm3
    refine ⟨fun a => B2 a ∧ a ∉ f, ⟨x.f, fun a h => ⟨x.b a (.inl h), fun z => nbf a z h⟩, fun a h => x.h a (.inl h), fun a h => (x.n a h).imp_right fun z y => z ⟨.inl y.1, y.2⟩⟩, ⟨g3, p2, k5, k2, pp3.nodup_iff.mpr (List.nodup_append.mpr ⟨nd2.1, nd3.sublist ss, fun a ha b hb z => ?_⟩), fun a ha hb => ?_⟩, fun a ha => ⟨fb3 a ha, fun z => ?_⟩, fun a ha => bt3 a ha.1⟩
    · subst z
      exact nb3 a (ss.mem hb) (x.b a (.inr ha))
    · rcases List.mem_append.mp (pp3.mem_iff.mp ha) with z | z
      · exact hb.2 z
      · exact nb3 a (ss.mem z) hb.1
    · rcases x.n a ha with y | y
      · exact nbf a z (fb a y)
      · exact y ⟨.inr z, nth a z⟩
/-- a loop over what is walked, from its middle on -/
theorem for_core {gt : TG} {tb : TS} {f : D → Env → Option Env} {body : SM} {J : It} {ds : List D} {ρ1 : Env} {Dn : Ends} {fl : Fl} (hg : SimG g P gt f) (hb : SimS g W P tb body) (S1 : Sat F B g H σ ρ1 []) (jo : JOk g F B H J ds) (e : forL f body ds ρ1 = some (fl, ρ')) (p : FP g W P Dn F B H σ ρ' fl)
    {wi : TI} (hw : ∀ R : It → Hp → Prop, R J H → wi σ H R) : tFor wi gt tb Dn σ H := by
  refine hw _ ⟨fun i n σ2 H2 => ∃ F2 B2 ρ2, Ext F B H F2 B2 H2 ∧ (∀ j ∈ P, σ2[j]? = σ[j]?) ∧ Sat F2 B2 g H2 σ2 ρ2 [] ∧ i ≤ ds.length ∧ n = ds.length - i ∧ forL f body (ds.drop i) ρ2 = some (fl, ρ'), ⟨ds.length, F, B, ρ1, Ext.refl, fun _ _ => rfl, S1, Nat.zero_le _, rfl, e⟩, ?_⟩
  rintro i n σ2 H2 ⟨F2, B2, ρ2, x2, q2, S2, hi, rfl, e2⟩
  obtain ⟨j1, j2⟩ := jo F2 B2 H2 σ2 ρ2 [] x2 S2
  by_cases hlt : i < ds.length
  · obtain ⟨hgo, hy⟩ := j1 i ds[i] (by simp [hlt])
    refine .inr ⟨hgo, _, fun σ' H' h => ⟨ds.length - (i + 1), by omega, h⟩, fun x H' yx => ?_⟩
    obtain ⟨F3, B3, x3, S3, r3⟩ := hy x H' yx
    rw [List.drop_eq_getElem_cons hlt] at e2
    unfold forL at e2
    split at e2
    · rename_i ρ3 e3
      refine hg F3 B3 H' σ2 ρ2 ρ3 [] x ds[i] _ (fun x hx => by cases hx) S3 r3 e3 fun σ3 q3 S4 => ?_
      have q23 : ∀ j ∈ P, σ3[j]? = σ[j]? := fun j hj => (q3.2 j hj).trans (q2 j hj)
      have p3 := p.shift (x2.trans x3) q23
      split at e2
      · rename_i ρ4 e4
        exact hb F3 B3 H' σ3 ρ3 _ .nx ρ4 S4 e4 ⟨fun _ F5 B5 H5 σ5 x5 q5 S5 => ⟨F5, B5, ρ4, (x2.trans x3).trans x5, fun j hj => (q5 j hj).trans (q23 j hj), S5, hlt, rfl, e2⟩, fun h => (by cases h), fun h => (by cases h), fun d h => (by cases h), fun c fs h => (by cases h)⟩
      · rename_i ρ4 e4
        exact hb F3 B3 H' σ3 ρ3 _ .ct ρ4 S4 e4 ⟨fun h => (by cases h), fun h => (by cases h), fun _ F5 B5 H5 σ5 x5 q5 S5 => ⟨F5, B5, ρ4, (x2.trans x3).trans x5, fun j hj => (q5 j hj).trans (q23 j hj), S5, hlt, rfl, e2⟩, fun d h => (by cases h), fun c fs h => (by cases h)⟩
      · rename_i ρ4 e4
        cases e2
        exact hb F3 B3 H' σ3 ρ3 _ .brk _ S4 e4 ⟨fun h => (by cases h), fun _ => p3.nx rfl, fun h => (by cases h), fun d h => (by cases h), fun c fs h => (by cases h)⟩
      · rename_i d ρ4 e4
        cases e2
        exact hb F3 B3 H' σ3 ρ3 _ (.ret d) _ S4 e4 ⟨fun h => (by cases h), fun h => (by cases h), fun h => (by cases h), p3.rt, fun c fs h => (by cases h)⟩
      · rename_i c fs ρ4 e4
        cases e2
        exact hb F3 B3 H' σ3 ρ3 _ (.exc c fs) _ S4 e4 ⟨fun h => (by cases h), fun h => (by cases h), fun h => (by cases h), fun d h => (by cases h), p3.xc⟩
      · cases e2
    · cases e2
  · have ei : i = ds.length := by omega
    subst ei
    rw [List.drop_length] at e2
    cases e2
    exact .inl ⟨j2, p.nx rfl F2 B2 H2 σ2 x2 q2 S2⟩
theorem jelB {a : Addr} {vs : List V} {ds : List D} (r : Reps F g H ds vs) (h : H a = some (.lst vs)) (hb : B a) (fb : ∀ a, F a → B a) : JOk g F B H (Ite g.K a) (enumF 0 ds) := fun F2 B2 H2 σ ρ T x S => by
  have hs : SqL g.K H2 a vs := .inl (.inl (by rw [x.h a hb]; exact h))
  have r2 := Reps.mono (x.ag fb) _ _ r
  refine ⟨fun i d hd => ?_, ⟨vs, hs, by rw [enumF_length, r.length]; exact Nat.le_refl _⟩⟩
  obtain ⟨y0, hy0, rfl⟩ := enumF_get hd
  obtain ⟨v, hv, rv⟩ := r2.get hy0
  refine ⟨⟨vs, v, hs, hv⟩, fun y H' ⟨p, x1, e1, hp, e2, hy⟩ => ?_⟩
  subst e1 e2
  have ey := hy vs hs
  rw [hv] at ey
  cases ey
  rw [Nat.zero_add]
  exact S.newPair ⟨_, _, rfl, rfl, _, _, rfl, rv, rfl⟩ hp
def mForEK (i : Nat) (f : D → Env → Option Env) (body : SM) : SM := fun ρ => match ρ[i]? with
  | some (some (.ol xs)) => if plain xs = true then (match forL f body (enumF 0 xs) (ρ.set i none) with
    | some (fl, ρ2) => some (fl, ρ2.set i (some (.ol xs)))
    | none => none) else none
  | _ => mFor (bnd (mCons (mVar i) mNil) fEnum) f body ρ
theorem sim_forEK {gt : TG} {tb : TS} {f : D → Env → Option Env} {body : SM} (hK : g.K = K) (hi : i ∈ P) (hg : SimG g P gt f) (hb : SimS g W P tb body) : SimS g W P (tFor (fun σ H R => iEnum K (tCons (tVar i) tNil) σ H R ∨ iEnumT K (tCons (tVar i) tNil) σ H R) gt tb) (mForEK i f body) := fun F B H σ ρ Dn fl ρ' S e p => by
  unfold mForEK at e
  split at e
  · rename_i xs e0
    split at e
    · rename_i pl
      split at e
      · rename_i fl2 ρ2 e1
        cases e
        obtain ⟨B1, hB, S1, ⟨q, vs, hq, hl, hbq, f0, rs⟩, un⟩ := S.blockS e0
        have rr := RepOs.reps pl rs
        refine for_core hg hb S1 (jelB rr hl hbq S1.fb) e1 ⟨fun h F' B' H' σ' x q S' => ?_, fun h F' B' H' σ' x q S' => ?_, fun h F' B' H' σ' x q S' => ?_, fun d h F' B' H' σ' v x q n S' => ?_, fun c fs h F' B' H' σ' cls dx x q S' xa => ?_⟩ (fun R h => .inl ⟨.ref q, hq, q, vs, rfl, by subst hK; exact .inl (.inl hl), by subst hK; exact h⟩)
        · obtain ⟨B3, x3, S3⟩ := un F' B' H' σ' ρ2 [] x (q i hi) S'
          exact p.nx h F' B3 H' σ' x3 q S3
        · obtain ⟨B3, x3, S3⟩ := un F' B' H' σ' ρ2 [] x (q i hi) S'
          exact p.bk h F' B3 H' σ' x3 q S3
        · obtain ⟨B3, x3, S3⟩ := un F' B' H' σ' ρ2 [] x (q i hi) S'
          exact p.ct h F' B3 H' σ' x3 q S3
        · obtain ⟨B3, x3, S3⟩ := un F' B' H' σ' ρ2 [(v, d)] x (q i hi) S'
          exact p.rt d h F' B3 H' σ' v x3 q n S3
        · obtain ⟨B3, x3, S3⟩ := un F' B' H' σ' ρ2 [] x (q i hi) S'
          exact p.xc c fs h F' B3 H' σ' cls dx x3 q S3 xa
      · cases e
    · cases e
  · exact sim_for (sim_enum hK (sim_cons (sim_var i) sim_nil)) hg hb F B H σ ρ Dn fl ρ' S e p
theorem vs_forEK {x : Str} {p0 p1 pos pos' tpos : Pos} {elts : List Expr} {kk : Nat} {body : List Stmt} {f : D → Env → Option Env} {mb : SM} (hp : PassesOwn (model X.prog X.w) X.A X.env X.xe) (hc : X.calm = true) (hK : g.K = X.K) (hgl : Gl X "enumerate") (hm : X.mg "enumerate" = none) (hN : X.N[i]? = some x) (hv : Vis X.env.scope x) (hi : i ∈ P) (hg : VG X g P (.Tuple elts kk tpos) f) (hb : VSs X g W P body mb)
    (hd : (x == ("__debug__" : Str)) = false := by decide) (hcd : (x == ("__classdict__" : Str)) = false := by decide) (hse : starEach [.Name x p1] X.env = [(false, eval (.Name x p1) X.env)] := by rfl)
    (hs : ∀ z, foldedSetIterable (.Call (.Name "enumerate" p0) [.Name x p1] [] pos) X.env z = pure z := by intro _; rfl) : VS X g W P (.For (.Tuple elts kk tpos) (.Call (.Name "enumerate" p0) [.Name x p1] [] pos) body [] pos') (mForEK i f mb) :=
  .mk (ps_for hp hc (PI.or (pi_enum hgl hm (pa_cons (pe_var hN hv hd hcd) pa_nil hse) hse) (pi_enumT hgl hm (pa_cons (pe_var hN hv hd hcd) pa_nil hse) hse)) hg hb hs) (sim_forEK hK hi selfG selfS)
end
end SV
end
section
set_option Elab.async false
set_option linter.all false
set_option autoImplicit false
set_option maxRecDepth 100000
set_option maxHeartbeats 4000000
namespace SV
open PySem PySem.Spec PyProof.Rows L2
open HotX (HotAt raiseNew_hot)
/-! ### walks while an exception is handled -/
section
variable {prog : Program} {w : World} {A : Around} {E : Value → Shared → Prop} {s : Shared}
end
/-! ### what is walked there -/
structure TurnH (P : Program) (w : World) (K : PySem.W.Frag) (tg : Expr) (J : It) (fp : List Addr) (it : Addr) (tn : Nat → Heap → Prop) : Prop where
  obj : ∀ i h, tn i h → ∀ b ∈ fp, ∃ o, h.get? b = some o ∧ ∀ v, o.data ≠ .cell v
  keep : ∀ i h h', tn i h → (∀ b ∈ fp, ∀ o, h.get? b = some o → h'.get? b = some o) → tn i h'
  item : ∀ (X : Cx), X.prog = P → X.w = w → X.K = K → L2H.HotC X → ∀ (i : Nat) (pins : List (Addr × Obj)) (s : Shared) (σ : L2.St) (H : Hp) (E : Value → Shared → Prop), Inv X pins σ H s → (∀ b ∈ fp, FpOk X pins H b) → tn i s.heap → J.go i H →
    wpAny (model P w) X.A (pyNext (.ref it)) (fun r z1 => ∃ u, r = some u ∧ wpAny (model P w) X.A (letOwnedTupleGo tg (.ref it) u) (fun _ z2 => ∃ x H', Inv X pins σ H' z2 ∧ RelV x u ∧ J.yld i H x H' ∧ tn (i + 1) z2.heap ∧ ∀ b ∈ fp, H' b = none) E z1) E s
  done : ∀ (X : Cx), X.prog = P → X.w = w → X.K = K → L2H.HotC X → ∀ (i : Nat) (pins : List (Addr × Obj)) (s : Shared) (σ : L2.St) (H : Hp) (E : Value → Shared → Prop), Inv X pins σ H s → (∀ b ∈ fp, FpOk X pins H b) → tn i s.heap → J.stop i H →
    wpAny (model P w) X.A (pyNext (.ref it)) (fun r z1 => r = none ∧ Inv X pins σ H z1) E s
  self : ∀ (A : Around) (i : Nat) (s : Shared) (Q : Value → Shared → Prop) (E : Value → Shared → Prop), tn i s.heap → Q (.ref it) s → wpAny (model P w) A (pyIter (.ref it)) Q E s
/-- a walk's beginning -/
def PIEh (X : Cx) (pins : List (Addr × Obj)) (σ : L2.St) (tg : Expr) (R : It → Hp → Prop) (itv : Value) (s2 : Shared) : Prop :=
  ∃ (it : Addr) (fp : List Addr) (tn : Nat → Heap → Prop) (J : It) (H' : Hp), itv = .ref it ∧ Inv X pins σ H' s2 ∧ TurnH X.prog X.w X.K tg J fp it tn ∧ tn 0 s2.heap ∧ (∀ b ∈ fp, FpOk X pins H' b) ∧ R J H'
structure PIh (X : Cx) (tg iter : Expr) (wi : TI) : Prop where
  run : ∀ (pins : List (Addr × Obj)) (s : Shared) (σ : L2.St) (H : Hp) (R : It → Hp → Prop), Inv X pins σ H s → wi σ H R → wpAny (model X.prog X.w) X.A (eval iter X.env) (fun v z1 => wpAny (model X.prog X.w) X.A (pyIter v) (PIEh X pins σ tg R) X.xe z1) X.xe s
section
variable {X : Cx} {tg : Expr}
theorem PIh.or {iter : Expr} {t u : TI} (h : PIh X tg iter t) (h2 : PIh X tg iter u) : PIh X tg iter (fun σ H R => t σ H R ∨ u σ H R) := ⟨fun pins st σ H R I q => q.elim (h.run pins st σ H R I) (h2.run pins st σ H R I)⟩
/-- what is walked, in the value layer -/
def VIh (X : Cx) (g : Cn) (W : WX) (tg iter : Expr) (m : M (List D)) : Prop := PIh X tg iter (TIof g W m)
theorem VIh.mk {g : Cn} {W : WX} {iter : Expr} {t : TI} {m : M (List D)} (h : PIh X tg iter t) (s : SimI g W t m) : VIh X g W tg iter m := ⟨fun pins st σ H R I ⟨F, B, ρ, T, r, ρ', S, e1, px, k⟩ => h.run pins st σ H R I (s F B H σ ρ T R r ρ' S e1 px k)⟩
end
end SV
end
section
set_option Elab.async false
set_option linter.all false
set_option autoImplicit false
set_option maxRecDepth 100000
set_option maxHeartbeats 4000000
namespace SV
open PySem PySem.Spec PyProof.Rows L2
/-! ### comprehensions while an exception is handled -/
section
variable {X : Cx} {pins : List (Addr × Obj)} {σ : L2.St} {H : Hp} {s : Shared}
end
end SV
end
section
set_option Elab.async false
set_option linter.all false
set_option autoImplicit false
set_option maxRecDepth 100000
set_option maxHeartbeats 4000000
namespace SV
open PySem PySem.Spec PyProof.Rows L2
/-! ### try whose body's exceptions have no context: the suites know it -/
/-- the clauses and their readings -/
inductive HdsQ (X : Cx) : List ExceptHandler → List (Value × Option Nat × TSx) → Prop
  | nil : HdsQ X [] []
  | bare {x : Str} {c : Value} {ts : TSx} {b₀ : Stmt} {su : List Stmt} {p1 p2 : Pos} {hds : List ExceptHandler} {l : List (Value × Option Nat × TSx)} (hc : Names X x c)
      (hsu : ∀ (a : Addr) (ob : Obj) (cls : Value) (d : Option Addr) (pn : List (Addr × Obj)), L2N.Zn cls d ob → (∃ vs, ob.data = .fields vs) → L2H.HotC (X.suite a ((a, ob) :: pn)) → PSs (X.suite a ((a, ob) :: pn)) (b₀ :: su) (ts a cls d)) (r : HdsQ X hds l) :
      HdsQ X (.ExceptHandler (some (.Name x p1)) none (b₀ :: su) p2 :: hds) ((c, none, ts) :: l)
  | named {x n : Str} {c : Value} {i : Nat} {ts : TSx} {b₀ : Stmt} {su : List Stmt} {p1 p2 : Pos} {hds : List ExceptHandler} {l : List (Value × Option Nat × TSx)} (hc : Names X x c) (hi : X.N[i]? = some n) (hln : X.env.kindOf n = some .local)
      (hsu : ∀ (a : Addr) (ob : Obj) (cls : Value) (d : Option Addr) (pn : List (Addr × Obj)), L2N.Zn cls d ob → (∃ vs, ob.data = .fields vs) → L2H.HotC (X.suite a ((a, ob) :: pn)) → PSs (X.suite a ((a, ob) :: pn)) (b₀ :: su) (ts a cls d)) (r : HdsQ X hds l) :
      HdsQ X (.ExceptHandler (some (.Name x p1)) (some n) (b₀ :: su) p2 :: hds) ((c, some i, ts) :: l)
section
variable {X : Cx} {body : List Stmt} {h0 : ExceptHandler} {hds : List ExceptHandler} {l : List (Value × Option Nat × TSx)} {pos : Pos} {tb : WX → TS} {Wo : WX}
end
end SV
end
section
set_option Elab.async false
set_option linter.all false
set_option autoImplicit false
set_option maxRecDepth 100000
set_option maxHeartbeats 4000000
namespace SV
open PySem PySem.Spec L2
section
variable {F B F' B' : Addr → Prop} {g g2 : Cn} {W : WX} {P : List Nat} {H H' : Hp} {σ σ' : St} {ρ ρ' : Env} {T T' : Tm} {v : V} {d : D} {X : Cx}
/-- the clauses with what they reckon -/
inductive HdsVQ (X : Cx) (g : Cn) (P : List Nat) : List ExceptHandler → List (Str × Option Nat × SM) → Prop
  | nil : HdsVQ X g P [] []
  | bare {x : Str} {C : Addr} {ms : SM} {b₀ : Stmt} {su : List Stmt} {p1 p2 : Pos} {hds : List ExceptHandler} {l : List (Str × Option Nat × SM)} (hg : Gl X x) (hm : X.mg x = some (.ref C)) (hdb : (x == ("__debug__" : Str)) = false)
      (hsu : ∀ (a : Addr) (ob : Obj) (cls : Value) (d : Option Addr) (pn : List (Addr × Obj)), L2N.Zn cls d ob → (∃ vs, ob.data = .fields vs) → L2H.HotC (X.suite a ((a, ob) :: pn)) → VSs (X.suite a ((a, ob) :: pn)) ⟨g.mg, a, cls, d, g.K⟩ (fun _ _ _ _ => False) P (b₀ :: su) ms) (r : HdsVQ X g P hds l) :
      HdsVQ X g P (.ExceptHandler (some (.Name x p1)) none (b₀ :: su) p2 :: hds) ((x, none, ms) :: l)
  | named {x n : Str} {C : Addr} {i : Nat} {ms : SM} {b₀ : Stmt} {su : List Stmt} {p1 p2 : Pos} {hds : List ExceptHandler} {l : List (Str × Option Nat × SM)} (hg : Gl X x) (hm : X.mg x = some (.ref C)) (hdb : (x == ("__debug__" : Str)) = false) (hi : X.N[i]? = some n) (hln : X.env.kindOf n = some .local) (hp : i ∉ P)
      (hsu : ∀ (a : Addr) (ob : Obj) (cls : Value) (d : Option Addr) (pn : List (Addr × Obj)), L2N.Zn cls d ob → (∃ vs, ob.data = .fields vs) → L2H.HotC (X.suite a ((a, ob) :: pn)) → VSs (X.suite a ((a, ob) :: pn)) ⟨g.mg, a, cls, d, g.K⟩ (fun _ _ _ _ => False) P (b₀ :: su) ms) (r : HdsVQ X g P hds l) :
      HdsVQ X g P (.ExceptHandler (some (.Name x p1)) (some n) (b₀ :: su) p2 :: hds) ((x, some i, ms) :: l)
/-! ### defs that are called while an exception is handled -/
end
section
variable {P : Program} {w : World} {K : PySem.W.Frag} {mg : Str → Option Value} {base : Heap} {N : List Str} {qual : Str} {scope : Scope} {f : Addr} {cd : Value} {A : Around} {outer : List PySem.Env} {s : Shared} {H : Hp} {E : XK} {p : Addr × Obj}
end
end SV
end
section
set_option Elab.async false
set_option linter.all false
set_option autoImplicit false
set_option maxRecDepth 100000
set_option maxHeartbeats 4000000
namespace SV
open PySem PySem.Spec PyProof.Rows L2
section
variable {F B F' B' : Addr → Prop} {g : Cn} {W : WX} {P : List Nat} {H H' : Hp} {σ σ' : L2.St} {ρ ρ' : Env} {T : Tm} {v : V} {d : D} {X : Cx}
theorem keyD_ok {k : L2.Key} {f : List Addr} (e : keyD d = some k) (r : RepO F g H d v f) : v = kV k := by
  unfold keyD at e
  split at e
  · cases e; exact r.1
  · cases e; exact r.1
  · cases e
end
end SV
end
section
set_option Elab.async false
set_option linter.all false
set_option autoImplicit false
set_option maxRecDepth 100000
set_option maxHeartbeats 4000000
namespace SV
open PySem PySem.Spec PyProof.Rows L2
/-! ### what lets nothing out -/
/-! ### dicts whose keys are ints or texts -/
def gDK : D → Option (List L2.Key × List D)
  | .dk ks xs => some (ks, xs)
  | .od ks xs => if plain xs = true then some (ks, xs) else none
  | _ => none
def chkD (x : D) : M Unit := fun ρ => match dr ρ x with
  | some x' => if (gDK x').isSome = true then some (.ok (), ρ) else none
  | none => none
section
variable {F B F' B' : Addr → Prop} {g : Cn} {W : WX} {P : List Nat} {H H' : Hp} {σ σ' : L2.St} {ρ ρ' : Env} {T : Tm} {v : V} {d : D} {X : Cx} {K : PySem.W.Frag}
theorem chk_ok {x : D} {ρ1 : Env} {β : Type} {k : M β} {z : Res β × Env} {f : D → Prop} (e : bnd (chkD x) (fun _ => k) ρ1 = some z) : (∃ x' ks xs, dr ρ1 x = some x' ∧ gDK x' = some (ks, xs)) ∧ k ρ1 = some z := by
  rcases bnd_some e with ⟨u, ρ2, e1, e2⟩ | ⟨c, fs, e1, e2⟩
  · unfold chkD at e1
    split at e1
    · rename_i x' hx
      split at e1
      · rename_i hs
        cases e1
        obtain ⟨⟨ks, xs⟩, hk⟩ := Option.isSome_iff_exists.mp hs
        exact ⟨⟨x', ks, xs, hx, hk⟩, e2⟩
      · cases e1
    · cases e1
  · unfold chkD at e1
    split at e1
    · split at e1 <;> cases e1
    · cases e1
/-! ### list.index of ints -/
end
end SV
end
section
set_option Elab.async false
set_option linter.all false
set_option autoImplicit false
set_option maxRecDepth 100000
set_option maxHeartbeats 4000000
namespace SV
open PySem PySem.Spec PyProof.Rows L2
/-! ### a call in a suite: which exception is handled does not matter for the promise -/
/-! ### == where an exception is handled -/
section
variable {X : Cx} {g : Cn} {W : WX} {a b : Expr} {ma mb : M D} {pos : Pos}
/-- room for a key -/
theorem huR {k : Nat} {A : Around} (r : Room k A) : A.units + 1 < cLine := by have := r.un; omega
end
end SV
end
section
set_option Elab.async false
set_option linter.all false
set_option autoImplicit false
set_option maxRecDepth 100000
set_option maxHeartbeats 4000000
namespace SV
open PySem PySem.Spec PyProof.Rows L2
/-! ### a dict != a list -/
section
open PySem.AutoSeq1 (wpAny_loadPart')
variable {prog : Program} {w : World} {A : Around} {E : Value → Shared → Prop} {s : Shared}
end
section
variable {X : Cx} {g : Cn} {W : WX} {a b : Expr} {ma mb : M D} {pos : Pos} {K : PySem.W.Frag}
end
end SV
end
section
set_option Elab.async false
set_option linter.all false
set_option autoImplicit false
set_option maxRecDepth 100000
set_option maxHeartbeats 4000000
namespace SV.Cs
open PySem PySem.Spec PyProof.Rows L2
/-! ### max of a tuple of ints -/
section
variable {prog : Program} {w : World} {A : Around} {E : Value → Shared → Prop} {s : Shared} {l : Addr} {xs : Array (Int × Tok)} {its : List Value} {ns : List Int} {Q : Value → Shared → Prop}
end
end SV.Cs
namespace SV
open PySem PySem.Spec PyProof.Rows L2
/-! ### sorted(d.keys()), d a dict whose keys are ints -/
section
variable {X : Cx}
end
end SV
end
section
set_option Elab.async false
set_option linter.all false
set_option autoImplicit false
set_option maxRecDepth 100000
set_option maxHeartbeats 4000000
namespace SV
open PySem PySem.Spec PyProof.Rows L2
/-! ### sorted(d.keys()) of an owned dict; max(xs); {k: True} -/
section
variable {F B F' B' : Addr → Prop} {g : Cn} {W : WX} {H : Hp} {σ : L2.St} {ρ ρ' : Env} {T : Tm} {v : V} {d : D} {X : Cx} {K : PySem.W.Frag} {QD : Res D → Env → Prop}
end
end SV
end
section
set_option Elab.async false
set_option linter.all false
set_option autoImplicit false
set_option maxRecDepth 100000
set_option maxHeartbeats 4000000
namespace SV
open PySem PySem.Spec PyProof.Rows L2
/-! ### tuple(range(n)) -/
section
variable {g : Cn} {W : WX} {X : Cx}
end
end SV
end
section
set_option Elab.async false
set_option linter.all false
set_option autoImplicit false
set_option maxRecDepth 100000
set_option maxHeartbeats 4000000
namespace SV
open PySem PySem.Spec L2
section
variable {F B F' B' : Addr → Prop} {g : Cn} {W : WX} {P : List Nat} {H H' : Hp} {σ σ' : L2.St} {ρ ρ' : Env} {T T' : Tm} {v : V} {d : D} {X : Cx} {K : PySem.W.Frag}
/-! ### extend -/
variable {x : Str} {p1 p2 apos cpos : Pos} {e : Expr} {es : List Expr} {ms : M (List D)}
/-! ### == and len by a class's own methods -/
variable {a b : Expr} {pos : Pos} {ma mb : M D}
/-- the class x has the method m of the text -/
structure OwnM (K : PySem.W.Frag) (x m : Str) : Prop where
  f : PySem.W.findIn K (.ref (He.ga K x)) m = some (some (.ref (He.ma K (He.ga K x) m)))
  i : PySem.W.isFn K (.ref (He.ma K (He.ga K x) m)) = true
end
end SV
end
section
set_option Elab.async false
set_option linter.all false
set_option autoImplicit false
set_option maxRecDepth 100000
set_option maxHeartbeats 4000000
namespace SV
open PySem PySem.Spec L2
/-! ### sorted of a list of pairs -/
def fSortP (d : D) : M D := bnd (fLs d) fun xs => (match pairsD xs with
  | some qs => ret (.ol ((srtP qs).map tupP))
  | none => stuck)
section
variable {F B F' B' : Addr → Prop} {g : Cn} {W : WX} {H : Hp} {σ : L2.St} {ρ ρ' : Env} {T : Tm} {v : V} {d : D} {X : Cx} {K : PySem.W.Frag} {QD : Res D → Env → Prop}
theorem reps_kof : ∀ {qs : List (Int × Int)} {vs : List V}, Reps F g H (qs.map tupP) vs → (∀ x ∈ vs, ∃ t, x = V.ref t ∧ H t = some (.tup [.int (kOf H x).1, .int (kOf H x).2])) ∧ vs.map (kOf H) = qs
  | [], vs, h => by
    have h : vs = [] := h
    subst h
    exact ⟨fun x hx => (by cases hx), rfl⟩
  | q :: qs, vs, h => by
    obtain ⟨v, us, rfl, ⟨a, ws, rfl, _, ha, hw⟩, hr⟩ := h
    obtain ⟨w1, ws1, e1, r1, w2, ws2, e2, r2, e3⟩ := hw
    have e3 : ws2 = [] := e3
    obtain rfl : w1 = .int q.1 := r1
    obtain rfl : w2 = .int q.2 := r2
    subst e3 e2 e1
    have hk : kOf H (.ref a) = q := by
      show (match H a with
        | some (.tup [.int i, .int j]) => (i, j)
        | _ => (0, 0)) = q
      rw [ha]
    obtain ⟨h1, h2⟩ := reps_kof hr
    refine ⟨fun x hx => ?_, by rw [List.map_cons, hk, h2]⟩
    rcases List.mem_cons.mp hx with e | hx
    · subst e
      exact ⟨a, rfl, by rw [hk]; exact ha⟩
    · exact h1 x hx
theorem paired_self {R : V → Int × Int → Prop} {f : V → Int × Int} : ∀ (l : List V), (∀ x ∈ l, R x (f x)) → Paired R l (l.map f)
  | [], _ => .nil
  | x :: l, h => .cons (h x (List.mem_cons_self ..)) (paired_self l fun y hy => h y (List.mem_cons_of_mem _ hy))
theorem u_sortP : SimU g W (fun x H Q => rSortedPO K [x] H Q) fSortP := fun F B H σ ρ T x d Q res ρ' S e px k => by
  unfold fSortP at e
  rcases bnd_some e with ⟨xs, ρ1, e1, e2⟩ | ⟨c, fs, e1, e2⟩
  · obtain ⟨xs', ez, F1, B1, x1, S1, a, vs, rfl, r1, ha⟩ := S.lsAt e1
    cases ez
    cases hi : pairsD xs with
    | none => rw [hi] at e2; cases e2
    | some qs =>
      rw [hi] at e2
      cases e2
      have ex := pairsD_ok hi
      subst ex
      obtain ⟨h1, h2⟩ := reps_kof r1
      refine ⟨a, vs, kOf H, rfl, .inl (.inl ha), h1, fun ys p hs hp hn => ?_⟩
      have hp2 : Paired (PairAt H) ys (ys.map (kOf H)) := paired_self ys fun y hy => by
        obtain ⟨t, e, ht⟩ := h1 y (hp.perm.mem_iff.mp hy)
        exact ⟨t, e, ht⟩
      have en : ys.map (kOf H) = srtP qs := srtS_uniq tot_P (by rw [← h2]; exact hp.perm.map _) (List.pairwise_map.mpr hs)
      rw [en] at hp2
      obtain ⟨F3, B3, x3, S3⟩ := S1.newPairs hp2 hn
      exact k _ rfl F3 B3 _ _ (x1.trans x3) S3
  · obtain ⟨xs', ez, _⟩ := S.lsAt e1
    cases ez
theorem w_sortP {e : Expr} {es : List Expr} {ms : M (List D)} {p pos : Pos} (hg : Gl X "sorted") (hm : X.mg "sorted" = none) (ha : VA X g W (e :: es) ms) (he : starEach (e :: es) X.env = (false, eval e X.env) :: starEach es X.env := by rfl) (hpl : (backTo pos (starEach es X.env)).any (·.1) = false := by rfl) : VE X g W (.Call (.Name "sorted" p) (e :: es) [] pos) (mCB (fC1 fSortP) ms) :=
  v_bi cr_sortedPO (simC1 u_sortP) hg hm PyProof.Rows.boot_sorted ha (by decide) (by decide) he hpl
end
end SV
end
section
set_option Elab.async false
set_option linter.all false
set_option autoImplicit false
set_option maxRecDepth 100000
set_option maxHeartbeats 4000000
namespace SV
open PySem PySem.Spec PyProof.Rows L2
/-! ### zip of two tuples -/
def zipF : List D → List D → List D
  | x :: xs, y :: ys => .tup [x, y] :: zipF xs ys
  | _, _ => []
theorem zipF_length : ∀ (xs ys : List D), (zipF xs ys).length = min xs.length ys.length
  | x :: xs, y :: ys => by simp [zipF, zipF_length xs ys]
  | [], ys => by simp [zipF]
  | x :: xs, [] => by simp [zipF]
theorem zipF_get : ∀ {xs ys : List D} {j : Nat} {d : D}, (zipF xs ys)[j]? = some d → ∃ x y, xs[j]? = some x ∧ ys[j]? = some y ∧ d = .tup [x, y]
  | x :: xs, y :: ys, 0, d, h => by
    simp [zipF] at h
    exact ⟨x, y, rfl, rfl, h.symm⟩
  | x :: xs, y :: ys, j + 1, d, h => by
    simp [zipF] at h
    obtain ⟨a, b, h1, h2, h3⟩ := zipF_get h
    exact ⟨a, b, by simpa using h1, by simpa using h2, h3⟩
  | [], ys, j, d, h => by simp [zipF] at h
  | x :: xs, [], j, d, h => by simp [zipF] at h
section
variable {X : Cx} {g : Cn} {W : WX} {F B : Addr → Prop} {H : Hp}
end
end SV
end
section
set_option Elab.async false
set_option linter.all false
set_option autoImplicit false
set_option maxRecDepth 100000
set_option maxHeartbeats 4000000
namespace SV
open PySem PySem.Spec L2
/-! ### != by an own == -/
section
variable {prog : Program} {w : World} {A : Around} {E : Value → Shared → Prop} {s : Shared} {K : PySem.W.Frag} {x C L f : Addr} {h₀ : Heap} {m : Str → Option Value} {ox : Obj} {od : Option Obj} {b tb : Value}
open PySem.W
end
section
variable {F B F' B' : Addr → Prop} {g : Cn} {W : WX} {P : List Nat} {H H' : Hp} {σ σ' : L2.St} {ρ ρ' : Env} {T T' : Tm} {v : V} {d : D} {X : Cx} {K : PySem.W.Frag}
/-- the class x has no own != -/
structure NeM (K : PySem.W.Frag) (x : Str) : Prop where
  n : PySem.W.findIn K (.ref (He.ga K x)) "__ne__" = some (some (.builtin "object.__ne__"))
  m : PySem.W.mroIn K (He.ga K x) (.type "object") = some true
variable {a b : Expr} {pos : Pos} {ma mb : M D}
/-! ### xs[::-1] -/
open PyProof.Rows
end
end SV
end
section
set_option Elab.async false
set_option linter.all false
set_option autoImplicit false
set_option maxRecDepth 100000
set_option maxHeartbeats 4000000
namespace SV
open PySem PySem.Spec L2
/-! ### calls that borrow: what stands in a slot is read by the def and stays the caller's own -/
mutual
/-- frozen things in which no list stands -/
def nlF : D → Bool
  | .non => true
  | .bl _ => true
  | .int _ => true
  | .str _ => true
  | .tup xs => nlFs xs
  | .ins _ _ xs => nlFs xs
  | _ => false
def nlFs : List D → Bool
  | [] => true
  | d :: ds => nlF d && nlFs ds
end
def nlD : D → Bool
  | .ol xs => nlFs xs
  | d => nlF d
section
variable {F B F' B' : Addr → Prop} {g : Cn} {W : WX} {H H' : Hp} {σ σ' : L2.St} {ρ ρ' : Env} {T T' : Tm} {v : V} {d : D} {X : Cx} {K : PySem.W.Frag}
mutual
theorem rep_thin {As : List Addr} (h : ∀ a ∈ As, ∃ ws, H a = some (.lst ws)) : ∀ (d : D) (v : V), nlF d = true → Rep F g H d v → Rep (fun a => F a ∧ a ∉ As) g H d v
  | .non, _, _, r => r
  | .bl _, _, _, r => r
  | .int _, _, _, r => r
  | .str _, _, _, r => r
  | .tup ds, _, n, ⟨a, vs, e, f, q, s⟩ => ⟨a, vs, e, ⟨f, fun z => by obtain ⟨ws, y⟩ := h a z; rw [q] at y; cases y⟩, q, reps_thin h ds vs n s⟩
  | .ins c ns ds, _, n, ⟨a, C, dx, fs, e, f, q, m, k, s⟩ => ⟨a, C, dx, fs, e, ⟨f, fun z => by obtain ⟨ws, y⟩ := h a z; rw [q] at y; cases y⟩, q, m, k, reps_thin h ds _ n s⟩
theorem reps_thin {As : List Addr} (h : ∀ a ∈ As, ∃ ws, H a = some (.lst ws)) : ∀ (ds : List D) (vs : List V), nlFs ds = true → Reps F g H ds vs → Reps (fun a => F a ∧ a ∉ As) g H ds vs
  | [], _, _, r => r
  | d :: ds, _, n, ⟨v, vs, e, r1, r2⟩ => ⟨v, vs, e, rep_thin h d v (Bool.and_eq_true_iff.mp n).1 r1, reps_thin h ds vs (Bool.and_eq_true_iff.mp n).2 r2⟩
end
theorem nlF_own {d : D} (h : nlF d = true) : d.own = false := by cases d <;> first | rfl | cases h
theorem repO_of {d : D} {v : V} (n : nlF d = true) (h : Rep F g H d v) : RepO F g H d v [] := by
  cases d <;> first | exact ⟨h, rfl⟩ | cases n
theorem repOs_thin {As : List Addr} (h : ∀ a ∈ As, ∃ ws, H a = some (.lst ws)) : ∀ {ds : List D} {vs : List V} {fp : List Addr}, nlFs ds = true → RepOs F g H ds vs fp → RepOs (fun a => F a ∧ a ∉ As) g H ds vs fp
  | [], _, _, _, r => r
  | d :: ds, _, _, n, ⟨v, vs, f1, f2, e1, e2, r1, r2⟩ => by
    obtain ⟨n1, n2⟩ := Bool.and_eq_true_iff.mp n
    obtain ⟨r3, r4⟩ := r1.plain (nlF_own n1)
    subst r4
    exact ⟨v, vs, [], f2, e1, e2, repO_of n1 (rep_thin h d v n1 r3), repOs_thin h n2 r2⟩
theorem repO_thin {As : List Addr} {fp : List Addr} (h : ∀ a ∈ As, ∃ ws, H a = some (.lst ws)) (n : nlD d = true) (r : RepO F g H d v fp) : RepO (fun a => F a ∧ a ∉ As) g H d v fp := by
  cases d with
  | ol xs =>
    obtain ⟨a, vs, fp', e1, e2, q, s⟩ := r
    exact ⟨a, vs, fp', e1, e2, q, repOs_thin h n s⟩
  | _ =>
    first
      | (obtain ⟨r3, r4⟩ := r.plain (nlF_own n)
         subst r4
         exact repO_of n (rep_thin h _ v n r3))
      | cases n
theorem nlD_sl (h : nlD d = true) : ∀ i, d ≠ .sl i := by intro i z; rw [z] at h; cases h
theorem Sat.borrow {ys : List D} {vs : List V} {As : List Addr} (S : Sat F B g H σ ρ T) (hA : ∀ a ∈ As, ¬ B a ∧ ∃ ws, H a = some (.lst ws)) (r : Reps (fun a => F a ∨ a ∈ As) g H ys vs) :
    Sat (fun a => F a ∨ a ∈ As) (fun a => ∃ o, H a = some o) g H [] [] (vs.zip ys) ∧ ∀ (F' B' : Addr → Prop) (H' : Hp) (v : V) (d : D), Ext (fun a => F a ∨ a ∈ As) (fun a => ∃ o, H a = some o) H F' B' H' → Sat F' B' g H' [] [] [(v, d)] → nlD d = true →
      ∃ F2 B2, Ext F B H F2 B2 H' ∧ Sat F2 B2 g H' σ ρ ((v, d) :: T) := by
  have ex : ∀ a, F a ∨ a ∈ As → ∃ o, H a = some o := fun a h => h.elim (fun z => S.bt a (S.fb a z)) fun z => by obtain ⟨_, ws, y⟩ := hA a z; exact ⟨_, y⟩
  have rts : ∀ {ys : List D} {vs : List V}, Reps (fun a => F a ∨ a ∈ As) g H ys vs → RTs (fun a => F a ∨ a ∈ As) g H [] (vs.zip ys) [] := fun {ys} => by
    induction ys with
    | nil => intro vs h; rw [show vs = [] from h]; rfl
    | cons d ys ih =>
      rintro _ ⟨v, vs, rfl, h1, h2⟩
      refine ⟨[], [], rfl, RT.of ?_, ih h2⟩
      exact Rep.owned _ _ h1
  refine ⟨⟨⟨[], [], rfl, rts r, by simp, by simp⟩, ex, fun a h => h⟩, fun F' B' H' v d x S' n => ?_⟩
  obtain ⟨⟨o1, f2, h1, h4, nd, nb⟩, fb, bt⟩ := S
  obtain ⟨⟨p1, p2, k1, k2, nd', nb'⟩, fb', bt'⟩ := S'
  have k1 : p1 = [] := k1
  subst k1
  obtain ⟨q1, q2, eq, kt, kn⟩ : ∃ f1 f2, p2 = f1 ++ f2 ∧ RT F' g H' [] d v f1 ∧ f2 = [] := k2
  subst kn
  rw [List.append_nil] at eq
  subst eq
  have nA : ∀ a, F a → a ∉ As := fun a h z => (hA a z).1 (fb a h)
  have hAs : ∀ a ∈ As, ∃ ws, H' a = some (.lst ws) := fun a ha => by
    obtain ⟨_, ws, y⟩ := hA a ha
    exact ⟨ws, by rw [x.h a ⟨_, y⟩]; exact y⟩
  have hd : RepO (fun a => F' a ∧ a ∉ As) g H' d v p2 := repO_thin hAs n (kt.own (nlD_sl n))
  have c1 : ∀ a ∈ o1, ∃ o, H a = some o := h1.there
  have c2 : ∀ a ∈ f2, ∃ o, H a = some o := h4.there
  have ag : Ag F H (fun a => F' a ∧ a ∉ As) H' := ⟨fun a ha => ⟨x.f a (.inl ha), nA a ha⟩, fun a ha => x.h a (bt a (fb a ha))⟩
  have n1 : ∀ a, (∃ o, H a = some o) → Nt H a → ¬ B a → ¬ (F' a ∧ a ∉ As) := fun a ha hn hb z => (x.n a z.1).elim (fun y => y.elim (fun w => hb (fb a w)) z.2) fun y => y ⟨ha, hn⟩
  have q : ∀ a, (∃ o, H a = some o) → a ∉ p2 := fun a ha z => nb' a (by simpa using z) (x.b a ha)
  have hd1 := List.nodup_append.mp nd
  refine ⟨fun a => F' a ∧ a ∉ As, fun a => B a ∨ (F' a ∧ a ∉ As), ⟨ag.f, fun a ha => .inl ha, fun a ha => x.h a (bt a ha), fun a ha => ?_⟩, ⟨o1, p2 ++ f2, h1.mono ag fun a ha => x.h a (c1 a ha), ⟨p2, f2, rfl, RT.of hd, h4.mono ag fun a ha => x.h a (c2 a ha)⟩, ?_, fun a ha => ?_⟩, fun a ha => .inr ha, fun a ha => ?_⟩
  · rcases x.n a ha.1 with y | y
    · exact .inl (y.resolve_right ha.2)
    · exact .inr fun z => y ⟨bt a z.1, z.2⟩
  · refine List.nodup_append.mpr ⟨hd1.1, List.nodup_append.mpr ⟨by simpa using nd', hd1.2.1, fun a ha b hb z => q b (c2 b hb) (z ▸ ha)⟩, fun a ha b hb z => ?_⟩
    subst z
    rcases List.mem_append.mp hb with hb | hb
    · exact q a (c1 a ha) hb
    · exact hd1.2.2 a ha a hb rfl
  · rcases List.mem_append.mp ha with ha | ha
    · rintro (z | z)
      · exact nb a (by simp [ha]) z
      · exact n1 a (c1 a ha) (h1.nt a ha) (nb a (by simp [ha])) z
    · rcases List.mem_append.mp ha with ha | ha
      · rintro (z | z)
        · exact nb' a (by simpa using ha) (x.b a (bt a z))
        · exact nb' a (by simpa using ha) (fb' a z.1)
      · rintro (z | z)
        · exact nb a (by simp [ha]) z
        · exact n1 a (c2 a ha) (h4.nt a ha) (nb a (by simp [ha])) z
  · rcases ha with ha | ha
    · rw [x.h a (bt a ha)]; exact bt a ha
    · exact bt' a (fb' a ha.1)
end
section
variable {ρ ρ1 : Env} {QD : Res D → Env → Prop}
end
/-! ### a, b = a list -/
section
variable (g : Cn) (W : WX) (P : List Nat)
variable {X : Cx} {g : Cn} {W : WX} {P : List Nat} {F B F' B' : Addr → Prop} {H H' : Hp} {σ σ' : St} {ρ ρ' : Env} {T : Tm} {v : V} {d : D} {Dn : Ends} {fl : Fl}
variable {e a : Expr} {m : M D} {pos : Pos} {n : M Bool}
end
/-! ### in, not in: items that are data of any depth -/
section
variable {X : Cx} {g : Cn} {W : WX} {a b : Expr} {ma mb : M D} {pos : Pos} {K : PySem.W.Frag}
end
end SV
end
section
set_option Elab.async false
set_option linter.all false
set_option autoImplicit false
set_option maxRecDepth 100000
set_option maxHeartbeats 4000000
namespace SV
open PySem PySem.Spec PyProof.Rows L2
/-! ### dicts whose keys are tuples: read, asked and stored to -/
def tLook : List (List L2.Key) → List D → List L2.Key → Option D
  | k :: ks, x :: xs, j => if k = j then some x else tLook ks xs j
  | _, _, _ => none
def gDT : D → Option (List (List L2.Key) × List D)
  | .dt ks xs => some (ks, xs)
  | .ot ks xs => if plain xs = true then some (ks, xs) else none
  | _ => none
/-- d[k] -/
def gTIx (x y : D) : Option D := match gDT x, keyOfD y with
  | some (ks, xs), some k => tLook ks xs k
  | _, _ => none
section
variable {F B F' B' : Addr → Prop} {g : Cn} {W : WX} {P : List Nat} {H H' : Hp} {σ σ' : L2.St} {ρ ρ' : Env} {T : Tm} {v : V} {d : D} {X : Cx} {K : PySem.W.Frag}
theorem tLook_some {k : List L2.Key} : ∀ {kvs : List (List L2.Key × V)} {xs : List D}, Reps F g H xs (kvs.map (·.2)) → tLook (kvs.map (·.1)) xs k = some d → ∃ v, valV kvs k = some v ∧ Rep F g H d v
  | [], xs, r, e => by cases xs <;> cases e
  | p :: kvs, [], r, e => by cases e
  | p :: kvs, x :: xs, ⟨v, vs, ev, r1, r2⟩, e => by
    rw [List.map_cons, List.cons.injEq] at ev
    obtain ⟨rfl, rfl⟩ := ev
    rw [List.map_cons] at e
    unfold tLook at e
    split at e
    · rename_i hk
      cases e
      exact ⟨_, valV_pos hk, r1⟩
    · rename_i hk
      obtain ⟨v, h1, h2⟩ := tLook_some r2 e
      exact ⟨v, by rw [valV_neg hk]; exact h1, h2⟩
theorem tLook_none {k : List L2.Key} : ∀ {kvs : List (List L2.Key × V)} {xs : List D}, Reps F g H xs (kvs.map (·.2)) → tLook (kvs.map (·.1)) xs k = none → valV kvs k = none
  | [], xs, r, e => rfl
  | p :: kvs, [], r, e => by simp at r; cases r
  | p :: kvs, x :: xs, ⟨v, vs, ev, r1, r2⟩, e => by
    rw [List.map_cons, List.cons.injEq] at ev
    obtain ⟨rfl, rfl⟩ := ev
    rw [List.map_cons] at e
    unfold tLook at e
    split at e
    · cases e
    · rename_i hk
      rw [valV_neg hk]
      exact tLook_none r2 e
theorem gDT_ok {x : D} {ks : List (List L2.Key)} {xs : List D} {f : List Addr} (e : gDT x = some (ks, xs)) (r : RepO F g H x v f) : ∃ a kvs, v = .ref a ∧ H a = some (.dT kvs) ∧ kvs.map (·.1) = ks ∧ Reps F g H xs (kvs.map (·.2)) := by
  unfold gDT at e
  split at e
  · cases e
    obtain ⟨⟨a, kvs, e1, _, e2, e3, e4⟩, _⟩ := r
    exact ⟨a, kvs, e1, e2, e3, e4⟩
  · split at e
    · rename_i hp
      cases e
      obtain ⟨a, kvs, f', e1, _, e2, e3, e4⟩ := r
      exact ⟨a, kvs, e1, e2, e3, RepOs.reps hp e4⟩
    · cases e
  · cases e
theorem keysD_reps : ∀ {ds : List D} {ks : List L2.Key} {vs : List V}, keysD ds = some ks → Reps F g H ds vs → vs = ks.map kV
  | [], ks, vs, e, r => by
    cases e
    exact r
  | d :: ds, ks, _, e, ⟨v, vs, rfl, r1, r2⟩ => by
    unfold keysD at e
    split at e
    · rename_i k ek
      split at e
      · rename_i ks' es
        cases e
        rw [List.map_cons, keysD_reps es r2, keyD_ok ek (Rep.owned _ _ r1)]
      · cases e
    · cases e
theorem keyT_ok {y : D} {k : List L2.Key} {w : V} {f : List Addr} (e : keyOfD y = some k) (r : RepO F g H y w f) : ∃ b, w = .ref b ∧ H b = some (.tup (k.map kV)) := by
  unfold keyOfD at e
  split at e
  · obtain ⟨⟨a, vs, e1, _, e2, e3⟩, _⟩ := r
    exact ⟨a, e1, by rw [e2, keysD_reps e e3]⟩
  · cases e
theorem tget_of {x y : D} {u w : V} {ks : List (List L2.Key)} {xs : List D} {k : List L2.Key} {f f' : List Addr} (e : gDT x = some (ks, xs)) (ey : keyOfD y = some k) (rx : RepO F g H x u f) (ry : RepO F g H y w f') :
    ∃ a, u = .ref a ∧ (∀ d, tLook ks xs k = some d → ∃ v, DGet H a w (some v) ∧ Rep F g H d v) ∧ (tLook ks xs k = none → DGet H a w none) := by
  obtain ⟨a, kvs, rfl, ha, rfl, rs⟩ := gDT_ok e rx
  obtain ⟨b, rfl, hb⟩ := keyT_ok ey ry
  refine ⟨a, rfl, fun d hd => ?_, fun hd => ?_⟩
  · obtain ⟨v, h1, h2⟩ := tLook_some rs hd
    exact ⟨v, by rw [← h1]; exact DGet.t ha hb, h2⟩
  · rw [← tLook_none rs hd]
    exact DGet.t ha hb
theorem r_tix : SimR g W (fun x y H Q => ∃ a v, x = .ref a ∧ DGet H a y (some v) ∧ Q v H) (fLook2 gTIx) := simR_look fun F B H x y dx dy d f f' Q rx ry e q => by
  unfold gTIx at e
  split at e
  · rename_i ks xs k e1 e2
    obtain ⟨a, ea, h1, _⟩ := tget_of e1 e2 rx ry
    obtain ⟨v, h2, h3⟩ := h1 d e
    exact ⟨a, v, ea, h2, q v h3⟩
  · cases e
variable {a b : Expr} {ma mb : M D} {pos : Pos}
theorem v_tix (hu : X.A.units + 1 < cLine) (ha : VE X g W a ma) (hb : VE X g W b mb) (hs : NoSl b := by intro _ _; rfl) : VE X g W (.Subscript a b pos) (mOp (fLook2 gTIx) ma mb) :=
  .mk (pe_dget hu ha hb hs) fun F B H σ ρ T Q res ρ' S e px h => sim_op r_tix selfE selfE F B H σ ρ T Q res ρ' S e px h
/-- {} that is owned, for tuples as keys -/
theorem v_dict0t : VE X g W (.Dict [] [] pos) (ret (.ot [] [])) := .mk pe_dnewT fun F B H σ ρ T Q r ρ' S e px h p hp => by
  cases e
  obtain ⟨F3, B3, x3, S3⟩ := S.newT hp
  exact h _ rfl F3 B3 _ _ x3 S3
/-- d[k] = v -/
def stT (i : Nat) (k d : D) : SM := fun ρ => match keyOfD k, ρ[i]? with
  | some kk, some (some (.ot ks xs)) => if plain xs = true ∧ ks.length < lim then some (.nx, ρ.set i (some (.ot (putKs ks kk) (putDs ks xs kk d)))) else none
  | _, _ => none
def mSetDT (i : Nat) (mk : M D) (d : D) : SM := fun ρ => match ρ[i]? with
  | some (some (.ot _ _)) => bndS mk (fun z => stT i z d) ρ
  | _ => none
def mSetT (i : Nat) (mk me : M D) : SM := bndS me fun d0 => bndS (fFrz d0) fun d => mSetDT i mk d
theorem sim_setDT {i : Nat} {tk : TE} {mk : M D} (hk : SimE g W tk mk) {fl : Fl} {Q : L2.St → Hp → Prop} (S : Sat F B g H σ ρ ((v, d) :: T)) (rd : Rep F g H d v) (e : mSetDT i mk d ρ = some (fl, ρ'))
    (px : ∀ c fs, fl = .exc c fs → PX (α := D) g W σ T F B H ρ' (.exc c fs)) (h : fl = .nx → ∀ F' B' H', Ext F B H F' B' H' → Sat F' B' g H' σ ρ' T → Q σ H') : gSub (tVar i) tk rSetD v σ H Q := by
  unfold mSetDT at e
  split at e
  · rename_i ks0 xs0 e0
    obtain ⟨v0, hv0, f0, r0⟩ := S.get e0 rfl
    refine ⟨v0, hv0, ?_⟩
    rcases bndS_some e with ⟨z, ρ1, e1, e2⟩ | ⟨c, fs, e1, e2⟩
    · refine hk F B H σ ρ _ _ (.ok z) ρ1 S e1 PX.ok fun d' hd F1 B1 H1 w x1 S1 => ?_
      cases hd
      have rd1 := Rep.mono (x1.ag S.fb) _ _ rd
      unfold stT at e2
      split at e2
      · rename_i kk ks xs ek e3
        split at e2
        · rename_i hc
          cases e2
          have nz : ∀ i, z ≠ .sl i := fun i q => by rw [q] at ek; cases ek
          obtain ⟨_, rk⟩ := S1.top
          obtain ⟨b, rfl, hb⟩ := keyT_ok ek (rk.own nz)
          have S2 := S1.pop.pop
          obtain ⟨u, hu, S3⟩ := S2.take e3 rfl
          rw [hv0] at hu
          cases hu
          have hi : i < ρ1.length := (List.getElem?_eq_some_iff.mp e3).1
          obtain ⟨_, rt⟩ := S3.top
          obtain ⟨p, kvs, f3, rfl, _, hp, ekk, rs⟩ := (rt.own (fun i z => by cases z) : RepO F1 g H1 (.ot ks xs) v0 _)
          obtain ⟨F4, B4, x4, S4, _⟩ := S3.putT (k := kk) hp hc.1 rd1
          have lk : kvs.length < sizeLine := by
            have := congrArg List.length ekk
            rw [List.length_map] at this
            rw [this, lim_eq]
            exact hc.2
          exact ⟨p, _, rfl, DPut.t hp hb lk, h rfl F4 B4 _ (x1.trans x4) (S4.putBack (fun j z => by cases z) hi hv0)⟩
        · cases e2
      · cases e2
    · cases e2
      exact hk F B H σ ρ _ _ (.exc c fs) _ S e1 (px c fs rfl).cons fun d' hd => by cases hd
  · cases e
theorem sim_setT {i : Nat} {te tk : TE} {me mk : M D} (he : SimE g W te me) (hk : SimE g W tk mk) : SimS g W P (tAsg te (gSub (tVar i) tk rSetD)) (mSetT i mk me) := fun F B H σ ρ Dn fl ρ' S e p => by
  refine SimE.bindS he S e p fun d0 ρ1 F1 B1 H1 v e1 x1 S1 => ?_
  rcases bndS_some e1 with ⟨d, ρ2, e2, e3⟩ | ⟨c, fs, e2, e3⟩
  · obtain ⟨d', hd, F2, B2, x2, S2, rd⟩ := S1.fFrz e2
    cases hd
    refine sim_setDT hk S2 rd e3 (fun c fs hf => ?_) fun hf F3 B3 H3 x3 S3 => p.nx hf F3 B3 H3 σ ((x1.trans x2).trans x3) (fun _ _ => rfl) S3
    subst hf
    exact (p.px (α := D)).shift (x1.trans x2)
  · obtain ⟨d', hd, _⟩ := S1.fFrz e2
    cases hd
theorem vs_setT {i : Nat} {x : Str} {k e : Expr} {mk me : M D} {p1 p2 pos : Pos} (hu : X.A.units + 1 < cLine) (hN : X.N[i]? = some x) (hv : Vis X.env.scope x) (hk : VE X g W k mk) (he : VE X g W e me) (hd : (x == ("__debug__" : Str)) = false := by decide) (hcd : (x == ("__classdict__" : Str)) = false := by decide)
    (ha : ∀ v, assign (.Subscript (.Name x p1) k p2) X.env v = (do
      let ov ← holding [v] (eval (.Name x p1) X.env)
      let iv ← holding [v, ov] (eval k X.env)
      standAt p2
      holding [v, ov, iv] (setItem ov iv v)
      release [v, ov, iv] []) := by intro _; rfl)
    (hs : swapsWithSole [.Subscript (.Name x p1) k p2] e pos.line X.env = pure false := by rfl) (hw : swappedStores [.Subscript (.Name x p1) k p2] e X.env = pure none := by rfl) (h1 : (assignEach [.Subscript (.Name x p1) k p2] X.env).map (·.2) = [assign (.Subscript (.Name x p1) k p2) X.env] := by rfl) :
    VS X g W P (.Assign [.Subscript (.Name x p1) k p2] e pos) (mSetT i mk me) := .mk (ps_asg he (pg_sub (pe_var hN hv hd hcd) hk (set_dict hu) ha) hs hw h1) (sim_setT selfE selfE)
end
end SV
end
section
set_option Elab.async false
set_option linter.all false
set_option autoImplicit false
set_option maxRecDepth 100000
set_option maxHeartbeats 4000000
namespace SV
open PySem PySem.Spec PyProof.Rows L2
/-! ### all(list of truth values) -/
def blsOf : List D → Option (List Bool)
  | [] => some []
  | .bl b :: ds => (match blsOf ds with
    | some bs => some (b :: bs)
    | none => none)
  | _ :: _ => none
def fAllB (d : D) : M D := bnd (fLs d) fun xs => (match blsOf xs with
  | some bs => ret (.bl (bs.all id))
  | none => stuck)
/-! ### x.reverse() -/
/-! ### len(set(xs)), xs a list or a tuple of ints -/
section
variable {F B F' B' : Addr → Prop} {g : Cn} {W : WX} {P : List Nat} {H H' : Hp} {σ σ' : L2.St} {ρ ρ' : Env} {T : Tm} {v : V} {d : D} {X : Cx} {K : PySem.W.Frag}
theorem blsOf_reps : ∀ {xs : List D} {bs : List Bool} {vs : List V}, blsOf xs = some bs → Reps F g H xs vs → vs = bs.map V.bl
  | [], bs, vs, e, r => by
    cases e
    exact r
  | d :: xs, bs, _, e, ⟨v, vs, rfl, r1, r2⟩ => by
    cases d with
    | bl b =>
      unfold blsOf at e
      cases h : blsOf xs with
      | none => rw [h] at e; cases e
      | some cs =>
        rw [h] at e
        cases e
        rw [List.map_cons, blsOf_reps h r2, show v = .bl b from r1]
    | _ => cases e
theorem u_all : SimU g W (fun x H Q => rAll K [x] H Q) fAllB := fun F B H σ ρ T x d Q res ρ' S e px k => by
  unfold fAllB at e
  rcases bnd_some e with ⟨xs, ρ1, e1, e2⟩ | ⟨c, fs, e1, e2⟩
  · obtain ⟨xs', ez, F1, B1, x1, S1, a, vs, rfl, r1, ha⟩ := S.lsAt e1
    cases ez
    cases hi : blsOf xs with
    | none => rw [hi] at e2; cases e2
    | some bs =>
      rw [hi] at e2
      cases e2
      have ev := blsOf_reps hi r1
      subst ev
      exact ⟨a, bs, rfl, .inl (.inl ha), k _ rfl F1 B1 _ _ x1 (S1.push rfl)⟩
  · obtain ⟨xs', ez, _⟩ := S.lsAt e1
    cases ez
theorem boot_allZ : bootBuiltins "all" = some (.builtin "all") := by kernel_rfl
theorem w_all {e : Expr} {es : List Expr} {ms : M (List D)} {p pos : Pos} (hc : X.calm = true) (hg : Gl X "all") (hm : X.mg "all" = none) (ha : VA X g W (e :: es) ms) (he : starEach (e :: es) X.env = (false, eval e X.env) :: starEach es X.env := by rfl) (hpl : (backTo pos (starEach es X.env)).any (·.1) = false := by rfl) : VE X g W (.Call (.Name "all" p) (e :: es) [] pos) (mCB (fC1 fAllB) ms) :=
  v_bi (cr_all hc) (simC1 u_all) hg hm boot_allZ ha (by decide) (by decide) he hpl
/-! #### x.reverse() -/
end
/-! ### own == across classes -/
section
variable {F B F' B' : Addr → Prop} {g : Cn} {W : WX} {P : List Nat} {H H' : Hp} {σ σ' : L2.St} {ρ ρ' : Env} {T : Tm} {v : V} {d : D} {X : Cx} {K : PySem.W.Frag}
variable {a b : Expr} {pos : Pos} {ma mb : M D}
end
/-! ### isinstance of own classes, where there are three -/
/-! ### in, not in: a tuple of data of any depth -/
section
variable {X : Cx} {g : Cn} {W : WX} {a b : Expr} {ma mb : M D} {pos : Pos} {K : PySem.W.Frag}
end
end SV
end
section
set_option Elab.async false
set_option linter.all false
set_option autoImplicit false
set_option maxRecDepth 100000
set_option maxHeartbeats 4000000
namespace SV
open PySem PySem.Spec PyProof.Rows L2
/-! ### zip of two lists or of two tuples -/
section
variable {X : Cx} {g : Cn} {W : WX} {F B : Addr → Prop} {H : Hp}
theorem LAt.mono {F2 B2 : Addr → Prop} {a : Addr} {vs : List V} (h : LAt F g H a vs) (fb : ∀ a, F a → B a) (x : Ext F B H F2 B2 H) : LAt F2 g H a vs :=
  h.elim (fun z => .inl ⟨(x.ag fb).f a z.1, z.2⟩) .inr
end
end SV
end
section
set_option Elab.async false
set_option linter.all false
set_option autoImplicit false
set_option maxRecDepth 100000
set_option maxHeartbeats 4000000
namespace SV
open PySem PySem.Spec PyProof.Rows L2
/-! ### sum(list of ints) -/
def fSumL (d : D) : M D := bnd (fLs d) fun xs => (match intsOf xs with
  | some ns => ret (.int ns.sum)
  | none => stuck)
section
variable {F B F' B' : Addr → Prop} {g : Cn} {W : WX} {P : List Nat} {H H' : Hp} {σ σ' : L2.St} {ρ ρ' : Env} {T : Tm} {v : V} {d : D} {X : Cx} {K : PySem.W.Frag}
theorem u_sumL : SimU g W (fun x H Q => rSum K [x] H Q) fSumL := fun F B H σ ρ T x d Q res ρ' S e px k => by
  unfold fSumL at e
  rcases bnd_some e with ⟨xs, ρ1, e1, e2⟩ | ⟨c, fs, e1, e2⟩
  · obtain ⟨xs', ez, F1, B1, x1, S1, a, vs, rfl, r1, ha⟩ := S.lsAt e1
    cases ez
    cases hi : intsOf xs with
    | none => rw [hi] at e2; cases e2
    | some ns =>
      rw [hi] at e2
      cases e2
      have ev := intsOf_reps hi (Reps.owned _ _ r1)
      subst ev
      exact ⟨a, ns, rfl, .inl (.inl ha), k _ rfl F1 B1 _ _ x1 (S1.push rfl)⟩
  · obtain ⟨xs', ez, _⟩ := S.lsAt e1
    cases ez
theorem boot_sumZ : bootBuiltins "sum" = some (.builtin "sum") := by kernel_rfl
theorem w_sumL {e : Expr} {es : List Expr} {ms : M (List D)} {p pos : Pos} (hc : X.calm = true) (hg : Gl X "sum") (hm : X.mg "sum" = none) (ha : VA X g W (e :: es) ms) (he : starEach (e :: es) X.env = (false, eval e X.env) :: starEach es X.env := by rfl) (hpl : (backTo pos (starEach es X.env)).any (·.1) = false := by rfl) : VE X g W (.Call (.Name "sum" p) (e :: es) [] pos) (mCB (fC1 fSumL) ms) :=
  v_bi (cr_sum hc) (simC1 u_sumL) hg hm boot_sumZ ha (by decide) (by decide) he hpl
end
end SV
end
section
set_option Elab.async false
set_option linter.all false
set_option autoImplicit false
set_option maxRecDepth 100000
set_option maxHeartbeats 4000000
namespace SV
open PySem PySem.Spec PyProof.Rows L2
/-! ### sources of a zip: a list or a tuple -/
def SqB (K : PySem.W.Frag) (H : Hp) (b : Bool) (a : Addr) (xs : List V) : Prop := if b = true then SqT K H a xs else SqL K H a xs
def IterB (h : Heap) (b : Bool) (it a : Addr) (i : Nat) : Prop := if b = true then h.IsTupleIter it a i else h.IsListIter it a i
def SeqB (h : Heap) (b : Bool) (a : Addr) (items : Array Value) : Prop := if b = true then h.IsTuple a items else h.IsList a items
def itObj (b : Bool) (a : Addr) : Obj := if b = true then { cls := .type "tuple_iterator", data := .fields #[.ref a, .int 0 0] } else { cls := .type "list_iterator", data := .fields #[.ref a, .int 0 0] }
theorem begB (b : Bool) (a : Addr) (items : Array Value) : Begins (.ref a) (itObj b a) fun h => SeqB h b a items := by
  cases b with
  | true => exact begins_tuple a items
  | false => exact begins_list a items
theorem drawsB {prog : Program} {w : World} {A : Around} (hh : A.handled = none) (b : Bool) (it a : Addr) (hne : a ≠ it) (items : Array Value) :
    Draws prog w A it [it, a] items.size (fun i v => items[i]? = some v) (fun i h => IterB h b it a i ∧ SeqB h b a items) := by
  cases b with
  | true => exact Draws.tuple hh it a hne items
  | false => exact Draws.list hh it a hne items
theorem IterB.new {h : Heap} {b : Bool} {it a : Addr} (e : h.get? it = some (itObj b a)) : IterB h b it a 0 := by
  cases b with
  | true => exact ⟨_, e, rfl, rfl⟩
  | false => exact ⟨_, e, rfl, rfl⟩
theorem IterB.keep {h h' : Heap} {b : Bool} {it a : Addr} {i : Nat} (x : IterB h b it a i) (k : ∀ o, h.get? it = some o → h'.get? it = some o) : IterB h' b it a i := by
  cases b with
  | true => exact Heap.IsTupleIter.at x k
  | false => exact Heap.IsListIter.at x k
theorem SqB.read {X : Cx} {pins : List (Addr × Obj)} {σ : L2.St} {H : Hp} {s : Shared} {b : Bool} {a : Addr} {xs : List V} (I : Inv X pins σ H s) (h : SqB X.K H b a xs) : ∃ its : List Value, Vals xs its ∧ SeqB s.heap b a its.toArray := by
  cases b with
  | true =>
    obtain ⟨its, rv, p, _⟩ := I.tuple h
    exact ⟨its, rv, p⟩
  | false =>
    obtain ⟨its, rv, p, _⟩ := I.list h
    exact ⟨its, rv, p.isList⟩
end SV
end
section
set_option Elab.async false
set_option linter.all false
set_option autoImplicit false
set_option maxRecDepth 100000
set_option maxHeartbeats 4000000
namespace SV
open PySem PySem.Spec PyProof.Rows L2
theorem SqB.inj {X : Cx} {pins : List (Addr × Obj)} {σ : L2.St} {H : Hp} {s : Shared} {b : Bool} {a : Addr} {xs ys : List V} (h : SqB X.K H b a xs) (I : Inv X pins σ H s) (h2 : SqB X.K H b a ys) : xs = ys := by
  cases b with
  | true => exact I.tuple_inj h h2
  | false => exact I.list_inj h h2
def ItzB (K : PySem.W.Frag) (b1 b2 : Bool) (a b : Addr) : It :=
  ⟨fun i H => ∃ (xs ys : List V) (x y : V), SqB K H b1 a xs ∧ SqB K H b2 b ys ∧ xs[i]? = some x ∧ ys[i]? = some y,
    fun i H v H' => ∃ T x y, v = .ref T ∧ H T = none ∧ H' = upd H T (.tup [x, y]) ∧ (∀ xs, SqB K H b1 a xs → xs[i]? = some x) ∧ ∀ ys, SqB K H b2 b ys → ys[i]? = some y,
    fun i H => ∃ xs ys : List V, SqB K H b1 a xs ∧ SqB K H b2 b ys ∧ min xs.length ys.length = i⟩
theorem turn_zipB {P : Program} {w : World} {K : PySem.W.Frag} {elts : List Expr} {kk : Nat} {tpos : Pos} {b1 b2 : Bool} {a b z TI TO i1 i2 : Addr} (S : ZipSep2 z TI TO i1 i2 [i1, a] [i2, b]) (d1 : a ≠ i1) (d2 : b ≠ i2) :
    Turn P w K (.Tuple elts kk tpos) (ItzB K b1 b2 a b) [z, TI, TO, i1, i2] z (fun i h => IsZip h z TI TO .none ∧ IsTupOf2 h TI (.ref i1) (.ref i2) ∧ (∃ x y, IsTupOf2 h TO x y) ∧ IterB h b1 i1 a i ∧ IterB h b2 i2 b i) where
  mem := by simp
  obj := fun i h st c hc => by
    obtain ⟨hz, hTI, ⟨x, y, hTO⟩, h1, h2⟩ := st
    have e' : c = z ∨ c = TI ∨ c = TO ∨ c = i1 ∨ c = i2 := by simpa using hc
    have it : ∀ {k : Bool} {j l : Addr}, IterB h k j l i → ∃ o, h.get? j = some o ∧ ∀ v, o.data ≠ .cell v := fun {k j l} x => by
      cases k with
      | true => obtain ⟨o, e, _, d⟩ := x; exact ⟨o, e, fun v q => by rw [d] at q; cases q⟩
      | false => obtain ⟨o, e, _, d⟩ := x; exact ⟨o, e, fun v q => by rw [d] at q; cases q⟩
    rcases e' with q | q | q | q | q
    · rw [q]; exact ⟨_, hz, fun v q => nomatch q⟩
    · rw [q]; exact ⟨_, hTI, fun v q => nomatch q⟩
    · rw [q]; exact ⟨_, hTO, fun v q => nomatch q⟩
    · rw [q]; exact it h1
    · rw [q]; exact it h2
  keep := fun i h h' st k => by
    obtain ⟨hz, hTI, ⟨x, y, hTO⟩, h1, h2⟩ := st
    exact ⟨k z (by simp) _ hz, k TI (by simp) _ hTI, ⟨x, y, k TO (by simp) _ hTO⟩, h1.keep fun o q => k i1 (by simp) o q, h2.keep fun o q => k i2 (by simp) o q⟩
  item := by
    intro X hP hw hK hc i pins s σ H E I hf st hg
    subst hP hw hK
    have objs : ∀ c ∈ [z, TI, TO, i1, i2], ∃ o, s.heap.get? c = some o ∧ True := fun c hc => by
      obtain ⟨hz, hTI, ⟨x, y, hTO⟩, h1, h2⟩ := st
      have e' : c = z ∨ c = TI ∨ c = TO ∨ c = i1 ∨ c = i2 := by simpa using hc
      have it : ∀ {k : Bool} {j l : Addr}, IterB s.heap k j l i → ∃ o, s.heap.get? j = some o ∧ True := fun {k j l} x => by
        cases k with
        | true => obtain ⟨o, e, _⟩ := x; exact ⟨o, e, trivial⟩
        | false => obtain ⟨o, e, _⟩ := x; exact ⟨o, e, trivial⟩
      rcases e' with q | q | q | q | q
      · rw [q]; exact ⟨_, hz, trivial⟩
      · rw [q]; exact ⟨_, hTI, trivial⟩
      · rw [q]; exact ⟨_, hTO, trivial⟩
      · rw [q]; exact it h1
      · rw [q]; exact it h2
    obtain ⟨hz, hTI, hTO, h1, h2⟩ := st
    obtain ⟨xs, ys, x, y, hqx, hqy, hx, hy⟩ := hg
    obtain ⟨its, rv, p⟩ := hqx.read I
    obtain ⟨its2, rv2, p2⟩ := hqy.read I
    obtain ⟨u, hu, ru⟩ := rv.get hx
    obtain ⟨u2, hu2, ru2⟩ := rv2.get hy
    have hh : X.A.in1.handled = none := I.ok.hd hc
    have W := WalksT.zipD2 S (drawsB (prog := X.prog) (w := X.w) hh b1 i1 a d1 its.toArray) (drawsB hh b2 i2 b d2 its2.toArray)
    have l1 := (List.getElem?_eq_some_iff.mp hu).1
    have l2 := (List.getElem?_eq_some_iff.mp hu2).1
    refine W.item i s _ _ (by simp; omega) ⟨hz, hTI, hTO, ⟨h1, p⟩, ⟨h2, p2⟩⟩ fun T vals h' tk hvals hTl hT mid hk => ?_
    obtain ⟨v1, v2, e1, e2, rfl⟩ := hvals
    have e1 : its[i]? = some v1 := by simpa using e1
    have e2 : its2[i]? = some v2 := by simpa using e2
    rw [hu] at e1
    rw [hu2] at e2
    cases e1
    cases e2
    refine ⟨_, rfl, W.go elts kk tpos i T _ _ _ mid fun h'' st2 hk2 => ?_⟩
    have nT := W.apart i T h' mid
    obtain ⟨o, ho, hoc, hn, hod⟩ := hT
    have ho2 := hk2 T o nT ho
    have wr : ∀ c, c ∉ [z, TI, TO, i1, i2] → c ∉ [z, TO, i1, i2] := fun c hb m => hb (by
      have e' : c = z ∨ c = TO ∨ c = i1 ∨ c = i2 := by simpa using m
      rcases e' with e | e | e | e <;> simp [e])
    have new : ObjOk X.prog X.w (upd H T (.tup [x, y])) h'' T (.tup [x, y]) := ⟨by show 2 ≤ sizeLine; decide, [u, u2], .cons ru (.cons ru2 .nil), ⟨o, ho2, hoc, hn, hod⟩⟩
    have I1 : Inv X pins σ (upd H T (.tup [x, y])) { s with heap := h'', toks := tk } :=
      I.turnedNew (ch := [z, TI, TO, i1, i2]) (fun c o hb q => hk2 c o (wr c hb) (hk c o (wr c hb) q)) hf hTl new
    refine ⟨.ref T, _, I1, rfl, ⟨T, x, y, rfl, I.hok.fresh hTl, rfl, fun l hl => by rw [hl.inj I hqx]; exact hx, fun l hl => by rw [hl.inj I hqy]; exact hy⟩, ⟨st2.1, st2.2.1, st2.2.2.1, st2.2.2.2.1.1, st2.2.2.2.2.1⟩, fun c hcm => ?_⟩
    have hlt : c < s.heap.objs.size := by
      obtain ⟨oc, hoc2, _⟩ := objs c hcm
      exact Heap.lt_size hoc2
    rw [upd_ne (Nat.ne_of_lt (Nat.lt_of_lt_of_le hlt hTl))]
    exact (hf c hcm).1
  done := by
    intro X hP hw hK hc i pins s σ H E I hf st hg
    subst hP hw hK
    obtain ⟨hz, hTI, hTO, h1, h2⟩ := st
    obtain ⟨xs, ys, hqx, hqy, hend⟩ := hg
    obtain ⟨its, rv, p⟩ := hqx.read I
    obtain ⟨its2, rv2, p2⟩ := hqy.read I
    have l1 := rv.length
    have l2 := rv2.length
    have hh : X.A.in1.handled = none := I.ok.hd hc
    have W := WalksT.zipD2 S (drawsB (prog := X.prog) (w := X.w) hh b1 i1 a d1 its.toArray) (drawsB hh b2 i2 b d2 its2.toArray)
    have hi : i = min its.toArray.size its2.toArray.size := by simp; omega
    subst hi
    refine W.done s _ _ ⟨hz, hTI, hTO, ⟨h1, p⟩, ⟨h2, p2⟩⟩ fun h' tk hk => ⟨rfl, I.turnedL (ch := [z, TI, TO, i1, i2]) (fun c o hb q => hk c o (fun m => hb ?_) q) hf⟩
    have e' : c = z ∨ c = TO ∨ c = i1 ∨ c = i2 := by simpa using m
    rcases e' with e | e | e | e <;> simp [e]
  self := fun A i s Q E st h => wpAny_pyIter_zip st.1 h
end SV
end
section
set_option Elab.async false
set_option linter.all false
set_option autoImplicit false
set_option maxRecDepth 100000
set_option maxHeartbeats 4000000
namespace SV
open PySem PySem.Spec PyProof.Rows L2
def iZipB (K : PySem.W.Frag) (ta : TA) : TI := fun σ H R => ta σ H fun vs H1 => ∃ (a b : Addr) (xs ys : List V) (b1 b2 : Bool), vs = [.ref a, .ref b] ∧ SqB K H1 b1 a xs ∧ SqB K H1 b2 b ys ∧ R (ItzB K b1 b2 a b) H1
theorem SeqB.lt {h : Heap} {b : Bool} {a : Addr} {items : Array Value} (x : SeqB h b a items) : a < h.objs.size := by
  cases b with
  | true => obtain ⟨o, e, _⟩ := x; exact Heap.lt_size e
  | false => obtain ⟨o, e, _⟩ := x; exact Heap.lt_size e
theorem pi_zipB {X : Cx} {e e2 : Expr} {ta : TA} {p pos tpos : Pos} {elts : List Expr} {kk : Nat} (hg : Gl X "zip") (hm : X.mg "zip" = none) (ha : PA X [e, e2] ta)
    (hs : starEach [e, e2] X.env = (false, eval e X.env) :: starEach [e2] X.env := by rfl) (hpl : (backTo pos (starEach [e2] X.env)).any (·.1) = false := by rfl) :
    PI X (.Tuple elts kk tpos) (.Call (.Name "zip" p) [e, e2] [] pos) (iZipB X.K ta) := by
  refine ⟨fun pins s σ H R I h => ?_⟩
  refine Call_ (ld_blt I hg hm PyProof.Rows.boot_zip (PyProof.Rows.callWith_type1 (thn (ha.run pos pins s σ H _ I h) fun us s1 ⟨vs, H1, I1, r1, q1⟩ => ?_) hs hpl))
  obtain ⟨a, b, xs, ys, b1, b2, ex, hqx, hqy, q⟩ := q1
  subst ex
  cases r1 with
  | cons r rr =>
    cases rr with
    | cons r' rr =>
      cases rr
      cases r
      cases r'
      have fresh5 : ∀ c, c ∈ [s1.heap.objs.size + 4, s1.heap.objs.size + 2, s1.heap.objs.size + 3, s1.heap.objs.size, s1.heap.objs.size + 1] → FpOk X pins H1 c := fun c hcm => by
        have e' : c = s1.heap.objs.size + 4 ∨ c = s1.heap.objs.size + 2 ∨ c = s1.heap.objs.size + 3 ∨ c = s1.heap.objs.size ∨ c = s1.heap.objs.size + 1 := by simpa using hcm
        have hle : s1.heap.objs.size ≤ c := by
          rcases e' with z | z | z | z | z
          · rw [z]; exact Nat.le_add_right _ _
          · rw [z]; exact Nat.le_add_right _ _
          · rw [z]; exact Nat.le_add_right _ _
          · rw [z]; exact Nat.le_refl _
          · rw [z]; exact Nat.le_add_right _ _
        exact I1.fpOk hle (I1.hok.fresh hle)
      obtain ⟨its, rv, p1⟩ := hqx.read I1
      obtain ⟨its2, rv2, p2⟩ := hqy.read I1
      have la := p1.lt
      have lb := p2.lt
      refine zip_begins2 (begB b1 a its.toArray) (begB b2 b its2.toArray) p1 p2 fun h' hz hTI hTO h1 h2 hsz hk => wpAny_pyIter_zip hz ?_
      have I2 : Inv X pins σ H1 { s1 with heap := h' } := I1.kept (t' := s1.toks) hk
      exact ⟨s1.heap.objs.size + 4, [s1.heap.objs.size + 4, s1.heap.objs.size + 2, s1.heap.objs.size + 3, s1.heap.objs.size, s1.heap.objs.size + 1], _, _, H1, rfl, I2,
        turn_zipB (zip_sep2 (fp1 := [a]) (fp2 := [b]) (fun c hc => by rw [List.mem_singleton.mp hc]; exact la) (fun c hc => by rw [List.mem_singleton.mp hc]; exact lb)) (Nat.ne_of_lt la) (Nat.ne_of_lt (Nat.lt_succ_of_lt lb)),
        ⟨hz, hTI, ⟨_, _, hTO⟩, .new h1, .new h2⟩, fresh5, q⟩
end SV
end
section
set_option Elab.async false
set_option linter.all false
set_option autoImplicit false
set_option maxRecDepth 100000
set_option maxHeartbeats 4000000
namespace SV
open PySem PySem.Spec PyProof.Rows L2
section
variable {X : Cx} {g : Cn} {W : WX} {F B : Addr → Prop} {H : Hp}
def BAt (F : Addr → Prop) (g : Cn) (H : Hp) (b : Bool) (a : Addr) (vs : List V) : Prop := if b = true then F a ∧ H a = some (.tup vs) else LAt F g H a vs
theorem BAt.sq {F2 B2 : Addr → Prop} {H2 : Hp} {b : Bool} {a : Addr} {vs : List V} (h : BAt F g H b a vs) (fb : ∀ a, F a → B a) (x : Ext F B H F2 B2 H2) : SqB g.K H2 b a vs := by
  cases b with
  | true =>
    obtain ⟨fa, h⟩ := h
    have e : H2 a = H a := x.h a (fb a fa)
    exact .inl (.inl (by rw [e]; exact h))
  | false => exact LAt.sql h fb x
theorem BAt.mono {F2 B2 : Addr → Prop} {b : Bool} {a : Addr} {vs : List V} (h : BAt F g H b a vs) (fb : ∀ a, F a → B a) (x : Ext F B H F2 B2 H) : BAt F2 g H b a vs := by
  cases b with
  | true => exact ⟨(x.ag fb).f a h.1, h.2⟩
  | false => exact LAt.mono h fb x
theorem jzB {b1 b2 : Bool} {a b : Addr} {us vs : List V} {ds es : List D} (r : Reps F g H ds us) (r' : Reps F g H es vs) (h : BAt F g H b1 a us) (h' : BAt F g H b2 b vs) (fb : ∀ a, F a → B a) : JOk g F B H (ItzB g.K b1 b2 a b) (zipF ds es) := fun F2 B2 H2 σ ρ T x S => by
  have hs := h.sq fb x
  have hs' := h'.sq fb x
  have r2 := Reps.mono (x.ag fb) _ _ r
  have r2' := Reps.mono (x.ag fb) _ _ r'
  refine ⟨fun i d hd => ?_, ⟨us, vs, hs, hs', by rw [zipF_length, r.length, r'.length]⟩⟩
  obtain ⟨y0, y1, hy0, hy1, rfl⟩ := zipF_get hd
  obtain ⟨u, hu, ru⟩ := r2.get hy0
  obtain ⟨v, hv, rv⟩ := r2'.get hy1
  refine ⟨⟨us, vs, u, v, hs, hs', hu, hv⟩, fun z H' ⟨p, x1, x2, e1, hp, e2, hy, hy'⟩ => ?_⟩
  subst e1 e2
  have ey := hy us hs
  rw [hu] at ey
  cases ey
  have ey := hy' vs hs'
  rw [hv] at ey
  cases ey
  exact S.newPair ⟨_, _, rfl, ru, _, _, rfl, rv, rfl⟩ hp
def fZipB : List D → M (List D)
  | [d, e] => bnd (fSeq d) fun x => bnd (fSeq e) fun y => ret (zipF x.2 y.2)
  | _ => stuck
theorem sim_zipB {K : PySem.W.Frag} {t : TA} {a : M (List D)} (hK : g.K = K) (ha : SimA g W t a) : SimI g W (iZipB K t) (bnd a fZipB) := fun F B H σ ρ T R r ρ' S e px h => by
  subst hK
  rcases bnd_some e with ⟨ds, ρ1, e1, e2⟩ | ⟨c, fs, e1, e2⟩
  · unfold fZipB at e2
    split at e2
    · rename_i d1 d2
      refine ha F B H σ ρ T _ (.ok [d1, d2]) ρ1 S e1 PX.ok fun d' hd F1 B1 H1 vs x1 l S1 => ?_
      cases hd
      obtain ⟨v1, v2, rfl⟩ : ∃ v1 v2, vs = [v1, v2] := by match vs, l with | [v1, v2], _ => exact ⟨v1, v2, rfl⟩
      have S1 : Sat F1 B1 g H1 σ ρ1 ((v1, d1) :: (v2, d2) :: T) := S1
      rcases bnd_some e2 with ⟨z, ρ2, e3, e4⟩ | ⟨c, fs, e3, e4⟩
      · obtain ⟨b, ys, ez, F2, B2, x2, S2, a, us, rfl, r2, q⟩ := S1.fSeq (K := g.K) e3
        cases ez
        rcases bnd_some e4 with ⟨z2, ρ3, e5, e6⟩ | ⟨c, fs, e5, e6⟩
        · obtain ⟨b', ys', ez, F3, B3, x3, S3, a', us', rfl, r3, q'⟩ := S2.fSeq (K := g.K) e5
          cases ez
          have ag := x3.ag S2.fb
          cases e6
          have q : BAt F2 g H1 b a us := q
          have q' : BAt F3 g H1 b' a' us' := q'
          have q3 : BAt F3 g H1 b a us := q.mono S2.fb x3
          exact ⟨a, a', us, us', b, b', rfl, q3.sq S3.fb Ext.refl, q'.sq S3.fb Ext.refl, h _ rfl F3 B3 H1 _ (x1.trans (x2.trans x3)) S3 (jzB (Reps.mono ag _ _ r2) r3 q3 q' S3.fb)⟩
        · obtain ⟨b', ys', ez, _⟩ := S2.fSeq (K := g.K) e5
          cases ez
      · obtain ⟨b, ys, ez, _⟩ := S1.fSeq (K := g.K) e3
        cases ez
    · cases e2
  · cases r with
    | ok d => cases e2
    | exc c' fs' =>
      cases e2
      exact ha F B H σ ρ T _ (.exc c fs) _ S e1 px.cast fun d' hd => by cases hd
theorem vi_zipB {elts : List Expr} {kk : Nat} {tpos : Pos} {a b : Expr} {m : M (List D)} {p pos : Pos} (hK : g.K = X.K) (hg : Gl X "zip") (hm : X.mg "zip" = none) (ha : VA X g W [a, b] m) (hs : starEach [a, b] X.env = (false, eval a X.env) :: starEach [b] X.env := by rfl) (hpl : (backTo pos (starEach [b] X.env)).any (·.1) = false := by rfl) : VI X g W (.Tuple elts kk tpos) (.Call (.Name "zip" p) [a, b] [] pos) (bnd m fZipB) := .mk (pi_zipB hg hm ha hs hpl) (sim_zipB hK selfA)
end
end SV
end
section
set_option Elab.async false
set_option linter.all false
set_option autoImplicit false
set_option maxRecDepth 100000
set_option maxHeartbeats 4000000
namespace SV
open PySem PySem.Spec PyProof.Rows L2
def ItzC (K : PySem.W.Frag) (b1 b2 b3 : Bool) (a b c : Addr) : It :=
  ⟨fun i H => ∃ (xs ys zs : List V) (x y u : V), SqB K H b1 a xs ∧ SqB K H b2 b ys ∧ SqB K H b3 c zs ∧ xs[i]? = some x ∧ ys[i]? = some y ∧ zs[i]? = some u,
    fun i H v H' => ∃ T x y u, v = .ref T ∧ H T = none ∧ H' = upd H T (.tup [x, y, u]) ∧ (∀ xs, SqB K H b1 a xs → xs[i]? = some x) ∧ (∀ ys, SqB K H b2 b ys → ys[i]? = some y) ∧ ∀ zs, SqB K H b3 c zs → zs[i]? = some u,
    fun i H => ∃ xs ys zs : List V, SqB K H b1 a xs ∧ SqB K H b2 b ys ∧ SqB K H b3 c zs ∧ min (min xs.length ys.length) zs.length = i⟩
theorem turn_zipC {P : Program} {w : World} {K : PySem.W.Frag} {elts : List Expr} {kk : Nat} {tpos : Pos} {b1 b2 b3 : Bool} {a b d z TI TO i1 i2 i3 : Addr} (S : ZipSep3 z TI TO i1 i2 i3 [i1, a] [i2, b] [i3, d]) (d1 : a ≠ i1) (d2 : b ≠ i2) (d3 : d ≠ i3) :
    Turn P w K (.Tuple elts kk tpos) (ItzC K b1 b2 b3 a b d) [z, TI, TO, i1, i2, i3] z (fun i h => IsZip h z TI TO .none ∧ IsTupOf3 h TI (.ref i1) (.ref i2) (.ref i3) ∧ (∃ x y u, IsTupOf3 h TO x y u) ∧ IterB h b1 i1 a i ∧ IterB h b2 i2 b i ∧ IterB h b3 i3 d i) where
  mem := by simp
  obj := fun i h st c hc => by
    obtain ⟨hz, hTI, ⟨x, y, u, hTO⟩, h1, h2, h3⟩ := st
    have e' : c = z ∨ c = TI ∨ c = TO ∨ c = i1 ∨ c = i2 ∨ c = i3 := by simpa using hc
    have it : ∀ {k : Bool} {j l : Addr}, IterB h k j l i → ∃ o, h.get? j = some o ∧ ∀ v, o.data ≠ .cell v := fun {k j l} x => by
      cases k with
      | true => obtain ⟨o, e, _, d⟩ := x; exact ⟨o, e, fun v q => by rw [d] at q; cases q⟩
      | false => obtain ⟨o, e, _, d⟩ := x; exact ⟨o, e, fun v q => by rw [d] at q; cases q⟩
    rcases e' with q | q | q | q | q | q
    · rw [q]; exact ⟨_, hz, fun v q => nomatch q⟩
    · rw [q]; exact ⟨_, hTI, fun v q => nomatch q⟩
    · rw [q]; exact ⟨_, hTO, fun v q => nomatch q⟩
    · rw [q]; exact it h1
    · rw [q]; exact it h2
    · rw [q]; exact it h3
  keep := fun i h h' st k => by
    obtain ⟨hz, hTI, ⟨x, y, u, hTO⟩, h1, h2, h3⟩ := st
    exact ⟨k z (by simp) _ hz, k TI (by simp) _ hTI, ⟨x, y, u, k TO (by simp) _ hTO⟩, h1.keep fun o q => k i1 (by simp) o q, h2.keep fun o q => k i2 (by simp) o q, h3.keep fun o q => k i3 (by simp) o q⟩
  item := by
    intro X hP hw hK hc i pins s σ H E I hf st hg
    subst hP hw hK
    have objs : ∀ c ∈ [z, TI, TO, i1, i2, i3], ∃ o, s.heap.get? c = some o ∧ True := fun c hc => by
      obtain ⟨hz, hTI, ⟨x, y, u, hTO⟩, h1, h2, h3⟩ := st
      have e' : c = z ∨ c = TI ∨ c = TO ∨ c = i1 ∨ c = i2 ∨ c = i3 := by simpa using hc
      have it : ∀ {k : Bool} {j l : Addr}, IterB s.heap k j l i → ∃ o, s.heap.get? j = some o ∧ True := fun {k j l} x => by
        cases k with
        | true => obtain ⟨o, e, _⟩ := x; exact ⟨o, e, trivial⟩
        | false => obtain ⟨o, e, _⟩ := x; exact ⟨o, e, trivial⟩
      rcases e' with q | q | q | q | q | q
      · rw [q]; exact ⟨_, hz, trivial⟩
      · rw [q]; exact ⟨_, hTI, trivial⟩
      · rw [q]; exact ⟨_, hTO, trivial⟩
      · rw [q]; exact it h1
      · rw [q]; exact it h2
      · rw [q]; exact it h3
    obtain ⟨hz, hTI, hTO, h1, h2, h3⟩ := st
    obtain ⟨xs, ys, zs, x, y, u, hqx, hqy, hqz, hx, hy, hu⟩ := hg
    obtain ⟨its, rv, p⟩ := hqx.read I
    obtain ⟨its2, rv2, p2⟩ := hqy.read I
    obtain ⟨its3, rv3, p3⟩ := hqz.read I
    obtain ⟨w1, hw1, rw1⟩ := rv.get hx
    obtain ⟨w2, hw2, rw2⟩ := rv2.get hy
    obtain ⟨w3, hw3, rw3⟩ := rv3.get hu
    have hh : X.A.in1.handled = none := I.ok.hd hc
    have W := WalksT.zipD3 S (drawsB (prog := X.prog) (w := X.w) hh b1 i1 a d1 its.toArray) (drawsB hh b2 i2 b d2 its2.toArray) (drawsB hh b3 i3 d d3 its3.toArray)
    have l1 := (List.getElem?_eq_some_iff.mp hw1).1
    have l2 := (List.getElem?_eq_some_iff.mp hw2).1
    have l3 := (List.getElem?_eq_some_iff.mp hw3).1
    refine W.item i s _ _ (by simp; omega) ⟨hz, hTI, hTO, ⟨h1, p⟩, ⟨h2, p2⟩, ⟨h3, p3⟩⟩ fun T vals h' tk hvals hTl hT mid hk => ?_
    obtain ⟨v1, v2, v3, e1, e2, e3, rfl⟩ := hvals
    have e1 : its[i]? = some v1 := by simpa using e1
    have e2 : its2[i]? = some v2 := by simpa using e2
    have e3 : its3[i]? = some v3 := by simpa using e3
    rw [hw1] at e1
    rw [hw2] at e2
    rw [hw3] at e3
    cases e1
    cases e2
    cases e3
    refine ⟨_, rfl, W.go elts kk tpos i T _ _ _ mid fun h'' st2 hk2 => ?_⟩
    have nT := W.apart i T h' mid
    obtain ⟨o, ho, hoc, hn, hod⟩ := hT
    have ho2 := hk2 T o nT ho
    have wr : ∀ c, c ∉ [z, TI, TO, i1, i2, i3] → c ∉ [z, TO, i1, i2, i3] := fun c hb m => hb (by
      have e' : c = z ∨ c = TO ∨ c = i1 ∨ c = i2 ∨ c = i3 := by simpa using m
      rcases e' with e | e | e | e | e <;> simp [e])
    have new : ObjOk X.prog X.w (upd H T (.tup [x, y, u])) h'' T (.tup [x, y, u]) := ⟨by show 3 ≤ sizeLine; decide, [w1, w2, w3], .cons rw1 (.cons rw2 (.cons rw3 .nil)), ⟨o, ho2, hoc, hn, hod⟩⟩
    have I1 : Inv X pins σ (upd H T (.tup [x, y, u])) { s with heap := h'', toks := tk } :=
      I.turnedNew (ch := [z, TI, TO, i1, i2, i3]) (fun c o hb q => hk2 c o (wr c hb) (hk c o (wr c hb) q)) hf hTl new
    refine ⟨.ref T, _, I1, rfl, ⟨T, x, y, u, rfl, I.hok.fresh hTl, rfl, fun l hl => by rw [hl.inj I hqx]; exact hx, fun l hl => by rw [hl.inj I hqy]; exact hy, fun l hl => by rw [hl.inj I hqz]; exact hu⟩, ⟨st2.1, st2.2.1, st2.2.2.1, st2.2.2.2.1.1, st2.2.2.2.2.1.1, st2.2.2.2.2.2.1⟩, fun c hcm => ?_⟩
    have hlt : c < s.heap.objs.size := by
      obtain ⟨oc, hoc2, _⟩ := objs c hcm
      exact Heap.lt_size hoc2
    rw [upd_ne (Nat.ne_of_lt (Nat.lt_of_lt_of_le hlt hTl))]
    exact (hf c hcm).1
  done := by
    intro X hP hw hK hc i pins s σ H E I hf st hg
    subst hP hw hK
    obtain ⟨hz, hTI, hTO, h1, h2, h3⟩ := st
    obtain ⟨xs, ys, zs, hqx, hqy, hqz, hend⟩ := hg
    obtain ⟨its, rv, p⟩ := hqx.read I
    obtain ⟨its2, rv2, p2⟩ := hqy.read I
    obtain ⟨its3, rv3, p3⟩ := hqz.read I
    have l1 := rv.length
    have l2 := rv2.length
    have l3 := rv3.length
    have hh : X.A.in1.handled = none := I.ok.hd hc
    have W := WalksT.zipD3 S (drawsB (prog := X.prog) (w := X.w) hh b1 i1 a d1 its.toArray) (drawsB hh b2 i2 b d2 its2.toArray) (drawsB hh b3 i3 d d3 its3.toArray)
    have hi : i = min (min its.toArray.size its2.toArray.size) its3.toArray.size := by simp; omega
    subst hi
    refine W.done s _ _ ⟨hz, hTI, hTO, ⟨h1, p⟩, ⟨h2, p2⟩, ⟨h3, p3⟩⟩ fun h' tk hk => ⟨rfl, I.turnedL (ch := [z, TI, TO, i1, i2, i3]) (fun c o hb q => hk c o (fun m => hb ?_) q) hf⟩
    have e' : c = z ∨ c = TO ∨ c = i1 ∨ c = i2 ∨ c = i3 := by simpa using m
    rcases e' with e | e | e | e | e <;> simp [e]
  self := fun A i s Q E st h => wpAny_pyIter_zip st.1 h
def iZipC (K : PySem.W.Frag) (ta : TA) : TI := fun σ H R => ta σ H fun vs H1 => ∃ (a b c : Addr) (xs ys zs : List V) (b1 b2 b3 : Bool), vs = [.ref a, .ref b, .ref c] ∧ SqB K H1 b1 a xs ∧ SqB K H1 b2 b ys ∧ SqB K H1 b3 c zs ∧ R (ItzC K b1 b2 b3 a b c) H1
theorem pi_zipC {X : Cx} {e e2 e3 : Expr} {ta : TA} {p pos tpos : Pos} {elts : List Expr} {kk : Nat} (hg : Gl X "zip") (hm : X.mg "zip" = none) (ha : PA X [e, e2, e3] ta)
    (hs : starEach [e, e2, e3] X.env = (false, eval e X.env) :: starEach [e2, e3] X.env := by rfl) (hpl : (backTo pos (starEach [e2, e3] X.env)).any (·.1) = false := by rfl) :
    PI X (.Tuple elts kk tpos) (.Call (.Name "zip" p) [e, e2, e3] [] pos) (iZipC X.K ta) := by
  refine ⟨fun pins s σ H R I h => ?_⟩
  refine Call_ (ld_blt I hg hm PyProof.Rows.boot_zip (PyProof.Rows.callWith_type1 (thn (ha.run pos pins s σ H _ I h) fun us s1 ⟨vs, H1, I1, r1, q1⟩ => ?_) hs hpl))
  obtain ⟨a, b, d, xs, ys, zs, b1, b2, b3, ex, hqx, hqy, hqz, q⟩ := q1
  subst ex
  cases r1 with
  | cons r rr =>
    cases rr with
    | cons r' rr =>
      cases rr with
      | cons r'' rr =>
        cases rr
        cases r
        cases r'
        cases r''
        have fresh6 : ∀ c, c ∈ [s1.heap.objs.size + 5, s1.heap.objs.size + 3, s1.heap.objs.size + 4, s1.heap.objs.size, s1.heap.objs.size + 1, s1.heap.objs.size + 2] → FpOk X pins H1 c := fun c hcm => by
          have e' : c = s1.heap.objs.size + 5 ∨ c = s1.heap.objs.size + 3 ∨ c = s1.heap.objs.size + 4 ∨ c = s1.heap.objs.size ∨ c = s1.heap.objs.size + 1 ∨ c = s1.heap.objs.size + 2 := by simpa using hcm
          have hle : s1.heap.objs.size ≤ c := by
            rcases e' with z | z | z | z | z | z
            · rw [z]; exact Nat.le_add_right _ _
            · rw [z]; exact Nat.le_add_right _ _
            · rw [z]; exact Nat.le_add_right _ _
            · rw [z]; exact Nat.le_refl _
            · rw [z]; exact Nat.le_add_right _ _
            · rw [z]; exact Nat.le_add_right _ _
          exact I1.fpOk hle (I1.hok.fresh hle)
        obtain ⟨its, rv, p1⟩ := hqx.read I1
        obtain ⟨its2, rv2, p2⟩ := hqy.read I1
        obtain ⟨its3, rv3, p3⟩ := hqz.read I1
        have la := p1.lt
        have lb := p2.lt
        have lc := p3.lt
        refine zip_begins3 (begB b1 a its.toArray) (begB b2 b its2.toArray) (begB b3 d its3.toArray) p1 p2 p3 fun h' hz hTI hTO h1 h2 h3 hsz hk => wpAny_pyIter_zip hz ?_
        have I2 : Inv X pins σ H1 { s1 with heap := h' } := I1.kept (t' := s1.toks) hk
        exact ⟨s1.heap.objs.size + 5, [s1.heap.objs.size + 5, s1.heap.objs.size + 3, s1.heap.objs.size + 4, s1.heap.objs.size, s1.heap.objs.size + 1, s1.heap.objs.size + 2], _, _, H1, rfl, I2,
          turn_zipC (zip_sep3 (fp1 := [a]) (fp2 := [b]) (fp3 := [d]) (fun c hc => by rw [List.mem_singleton.mp hc]; exact la) (fun c hc => by rw [List.mem_singleton.mp hc]; exact lb) (fun c hc => by rw [List.mem_singleton.mp hc]; exact lc)) (Nat.ne_of_lt la) (Nat.ne_of_lt (Nat.lt_succ_of_lt lb)) (Nat.ne_of_lt (Nat.lt_succ_of_lt (Nat.lt_succ_of_lt lc))),
          ⟨hz, hTI, ⟨_, _, _, hTO⟩, .new h1, .new h2, .new h3⟩, fresh6, q⟩
section
variable {X : Cx} {g : Cn} {W : WX} {F B : Addr → Prop} {H : Hp}
def zipC : List D → List D → List D → List D
  | x :: xs, y :: ys, z :: zs => .tup [x, y, z] :: zipC xs ys zs
  | _, _, _ => []
theorem zipC_length : ∀ (xs ys zs : List D), (zipC xs ys zs).length = min (min xs.length ys.length) zs.length
  | x :: xs, y :: ys, z :: zs => by simp [zipC, zipC_length xs ys zs]
  | [], ys, zs => by simp [zipC]
  | x :: xs, [], zs => by simp [zipC]
  | x :: xs, y :: ys, [] => by simp [zipC]
theorem zipC_get : ∀ {xs ys zs : List D} {j : Nat} {d : D}, (zipC xs ys zs)[j]? = some d → ∃ x y z, xs[j]? = some x ∧ ys[j]? = some y ∧ zs[j]? = some z ∧ d = .tup [x, y, z]
  | x :: xs, y :: ys, z :: zs, 0, d, h => by
    simp [zipC] at h
    exact ⟨x, y, z, rfl, rfl, rfl, h.symm⟩
  | x :: xs, y :: ys, z :: zs, j + 1, d, h => by
    simp [zipC] at h
    obtain ⟨a, b, c, h1, h2, h3, h4⟩ := zipC_get h
    exact ⟨a, b, c, by simpa using h1, by simpa using h2, by simpa using h3, h4⟩
  | [], ys, zs, j, d, h => by simp [zipC] at h
  | x :: xs, [], zs, j, d, h => by simp [zipC] at h
  | x :: xs, y :: ys, [], j, d, h => by simp [zipC] at h
theorem jzC {b1 b2 b3 : Bool} {a b c : Addr} {us vs ws : List V} {ds es fs : List D} (r : Reps F g H ds us) (r' : Reps F g H es vs) (r'' : Reps F g H fs ws) (h : BAt F g H b1 a us) (h' : BAt F g H b2 b vs) (h'' : BAt F g H b3 c ws) (fb : ∀ a, F a → B a) : JOk g F B H (ItzC g.K b1 b2 b3 a b c) (zipC ds es fs) := fun F2 B2 H2 σ ρ T x S => by
  have hs := h.sq fb x
  have hs' := h'.sq fb x
  have hs'' := h''.sq fb x
  have r2 := Reps.mono (x.ag fb) _ _ r
  have r2' := Reps.mono (x.ag fb) _ _ r'
  have r2'' := Reps.mono (x.ag fb) _ _ r''
  refine ⟨fun i d hd => ?_, ⟨us, vs, ws, hs, hs', hs'', by rw [zipC_length, r.length, r'.length, r''.length]⟩⟩
  obtain ⟨y0, y1, y2, hy0, hy1, hy2, rfl⟩ := zipC_get hd
  obtain ⟨u, hu, ru⟩ := r2.get hy0
  obtain ⟨v, hv, rv⟩ := r2'.get hy1
  obtain ⟨t, ht, rt⟩ := r2''.get hy2
  refine ⟨⟨us, vs, ws, u, v, t, hs, hs', hs'', hu, hv, ht⟩, fun z H' ⟨p, x1, x2, x3, e1, hp, e2, hy, hy', hy''⟩ => ?_⟩
  subst e1 e2
  have ey := hy us hs
  rw [hu] at ey
  cases ey
  have ey := hy' vs hs'
  rw [hv] at ey
  cases ey
  have ey := hy'' ws hs''
  rw [ht] at ey
  cases ey
  exact S.newPair ⟨_, _, rfl, ru, _, _, rfl, rv, _, _, rfl, rt, rfl⟩ hp
def fZipC : List D → M (List D)
  | [d, e, f] => bnd (fSeq d) fun x => bnd (fSeq e) fun y => bnd (fSeq f) fun z => ret (zipC x.2 y.2 z.2)
  | _ => stuck
theorem sim_zipC {K : PySem.W.Frag} {t : TA} {a : M (List D)} (hK : g.K = K) (ha : SimA g W t a) : SimI g W (iZipC K t) (bnd a fZipC) := fun F B H σ ρ T R r ρ' S e px h => by
  subst hK
  rcases bnd_some e with ⟨ds, ρ1, e1, e2⟩ | ⟨c, fs, e1, e2⟩
  · unfold fZipC at e2
    split at e2
    · rename_i d1 d2 d3
      refine ha F B H σ ρ T _ (.ok [d1, d2, d3]) ρ1 S e1 PX.ok fun d' hd F1 B1 H1 vs x1 l S1 => ?_
      cases hd
      obtain ⟨v1, v2, v3, rfl⟩ : ∃ v1 v2 v3, vs = [v1, v2, v3] := by match vs, l with | [v1, v2, v3], _ => exact ⟨v1, v2, v3, rfl⟩
      have S1 : Sat F1 B1 g H1 σ ρ1 ((v1, d1) :: (v2, d2) :: (v3, d3) :: T) := S1
      rcases bnd_some e2 with ⟨z, ρ2, e3, e4⟩ | ⟨c, fs, e3, e4⟩
      · obtain ⟨b, ys, ez, F2, B2, x2, S2, a, us, rfl, r2, q⟩ := S1.fSeq (K := g.K) e3
        cases ez
        rcases bnd_some e4 with ⟨z2, ρ3, e5, e6⟩ | ⟨c, fs, e5, e6⟩
        · obtain ⟨b', ys', ez, F3, B3, x3, S3, a', us', rfl, r3, q'⟩ := S2.fSeq (K := g.K) e5
          cases ez
          rcases bnd_some e6 with ⟨z3, ρ4, e7, e8⟩ | ⟨c, fs, e7, e8⟩
          · obtain ⟨b'', ys'', ez, F4, B4, x4, S4, a'', us'', rfl, r4, q''⟩ := S3.fSeq (K := g.K) e7
            cases ez
            have ag := x3.ag S2.fb
            have ag4 := x4.ag S3.fb
            cases e8
            have q : BAt F2 g H1 b a us := q
            have q' : BAt F3 g H1 b' a' us' := q'
            have q'' : BAt F4 g H1 b'' a'' us'' := q''
            have q4 : BAt F4 g H1 b a us := (q.mono S2.fb x3).mono S3.fb x4
            have q4' : BAt F4 g H1 b' a' us' := q'.mono S3.fb x4
            exact ⟨a, a', a'', us, us', us'', b, b', b'', rfl, q4.sq S4.fb Ext.refl, q4'.sq S4.fb Ext.refl, q''.sq S4.fb Ext.refl, h _ rfl F4 B4 H1 _ (x1.trans (x2.trans (x3.trans x4))) S4 (jzC (Reps.mono ag4 _ _ (Reps.mono ag _ _ r2)) (Reps.mono ag4 _ _ r3) r4 q4 q4' q'' S4.fb)⟩
          · obtain ⟨b', ys', ez, _⟩ := S3.fSeq (K := g.K) e7
            cases ez
        · obtain ⟨b', ys', ez, _⟩ := S2.fSeq (K := g.K) e5
          cases ez
      · obtain ⟨b, ys, ez, _⟩ := S1.fSeq (K := g.K) e3
        cases ez
    · cases e2
  · cases r with
    | ok d => cases e2
    | exc c' fs' =>
      cases e2
      exact ha F B H σ ρ T _ (.exc c fs) _ S e1 px.cast fun d' hd => by cases hd
theorem vi_zipC {elts : List Expr} {kk : Nat} {tpos : Pos} {a b c : Expr} {m : M (List D)} {p pos : Pos} (hK : g.K = X.K) (hg : Gl X "zip") (hm : X.mg "zip" = none) (ha : VA X g W [a, b, c] m) (hs : starEach [a, b, c] X.env = (false, eval a X.env) :: starEach [b, c] X.env := by rfl) (hpl : (backTo pos (starEach [b, c] X.env)).any (·.1) = false := by rfl) : VI X g W (.Tuple elts kk tpos) (.Call (.Name "zip" p) [a, b, c] [] pos) (bnd m fZipC) := .mk (pi_zipC hg hm ha hs hpl) (sim_zipC hK selfA)
end
end SV
end
section
set_option Elab.async false
set_option linter.all false
set_option autoImplicit false
set_option maxRecDepth 100000
set_option maxHeartbeats 0
namespace LAWM
open PySem PySem.Spec L2 SV
def subT : Str → Str → Option Bool := fun c c2 => TAB.lookup (c, c2)
def m__law_mixed : SM := (mSeq (mSet 2 (mOp fMod (mCB fInt (mCons (mOp fAddA (mOp fAddA (mOp fMul (mVar 0) (ret (.int 69621))) (mOp fMul (mVar 1) (ret (.int 7907)))) (ret (.int 40503))) mNil)) (ret (.int 2147483647))))
  (mSeq (mSet 3 (mOp fMod (mCB fInt (mCons (mOp fAddA (mOp fAddA (mOp fMul (mVar 2) (mVar 2)) (mOp fMul (mVar 1) (ret (.int 104723)))) (mOp fDiv (mVar 2) (ret (.int 131)))) mNil)) (ret (.int 2147483629))))
  (mRet (mOp fDiv (mCB fInt (mCons (mOp fMod (mCB fInt (mCons (mOp fAddA (mOp fMul (mVar 3) (ret (.int 48271))) (mOp fDiv (mVar 2) (ret (.int 7)))) mNil)) (ret (.int 2147483579))) mNil)) (ret (.int 32))))))
def f__law_mixed : FM := funM 4 [false, false] m__law_mixed
def m__law_take : SM := (mSeq (mIf (mAnd (mTb (mOp fEq (mOp fIx (mVar 0) (ret (.int 2))) (ret (.int 0)))) (mTb (mOp fLt (mOp fIx (mVar 0) (ret (.int 1))) (mCB fLen (mCons (mOp fIx (mVar 0) (ret (.int 0))) mNil))))) (mSeq (mSet 2 (mOp fIx (mOp fIx (mVar 0) (ret (.int 0))) (mOp fIx (mVar 0) (ret (.int 1)))))
  (mSeq (mSetI 0 (ret (.int 1)) (mOp fAddA (mOp fIx (mVar 0) (ret (.int 1))) (ret (.int 1))))
  (mSeq (mIf (mTb (mOp fLt (mVar 2) (mOp fPow (ret (.int 10)) (ret (.int 18))))) (mRet (mOp fMod (mCB fInt (mCons (mCall [false, false] f__law_mixed [] (mCons (mOp fMod (mCB fInt (mCons (mVar 2) mNil)) (ret (.int 2147483647))) (mCons (mOp fIx (mVar 0) (ret (.int 1))) mNil))) mNil)) (mVar 1))) (endS .nx))
  (mSetI 0 (ret (.int 2)) (mVar 2))))) (endS .nx))
  (mSeq (mIf (mTb (mOp fGt (mOp fIx (mVar 0) (ret (.int 2))) (ret (.int 0)))) (mSeq (mSet 3 (mOp fIx (mVar 0) (ret (.int 2))))
  (mSeq (mSetI 0 (ret (.int 2)) (mOp fDiv (mCB fInt (mCons (mVar 3) mNil)) (mVar 1)))
  (mRet (mOp fMod (mCB fInt (mCons (mVar 3) mNil)) (mVar 1))))) (endS .nx))
  (mSeq (mSetI 0 (ret (.int 3)) (mOp fMod (mCB fInt (mCons (mOp fAddA (mOp fIx (mVar 0) (ret (.int 3))) (ret (.int 1))) mNil)) (ret (.int 2147483587))))
  (mRet (mOp fMod (mCB fInt (mCons (mCall [false, false] f__law_mixed [] (mCons (mOp fIx (mVar 0) (ret (.int 3))) (mCons (mOp fIx (mVar 0) (ret (.int 1))) mNil))) mNil)) (mVar 1))))))
def f__law_take : FM := funM 4 [true, false] m__law_take
def m__law_pick : SM := (mRet (mOp fIx (mVar 1) (mCall [true, false] f__law_take [] (mCons (mVar 0) (mCons (mCB fLen (mCons (mVar 1) mNil)) mNil)))))
def f__law_pick : FM := funM 2 [true, false] m__law_pick
def m_is_whole : SM := (mSeq (mIf (mOr (mNot (mTru (mIsi [.int] (mVar 0)))) (mTru (mIsi [.bl] (mVar 0)))) (mRet (ret (.bl false))) (endS .nx))
  (mSeq (mIf (mAnd (mTb (mNotN (mVar 1))) (mTb (mOp fLt (mVar 0) (mVar 1)))) (mRet (ret (.bl false))) (endS .nx))
  (mRet (mOrV (mIsN (mVar 2)) (mOp fLe (mVar 0) (mVar 2))))))
def f_is_whole : FM := funM 3 [false, false, false] m_is_whole
def m__check_cells : SM := (mSeq (mIf (mOr (mNot (mTru (mIsi [.lst, .tup] (mVar 0)))) (mNot (mTb (mChain fLe fLe (ret (.int 1)) (mCB fLen (mCons (mVar 0) mNil)) (ret (.int 700)))))) (mRaise "BadPicture" ["index", "what"] (mCons (ret (.int 0)) (mCons (ret (.str "cells")) mNil))) (endS .nx))
  (mForEK 0 (tgT [(tgN 1), (tgN 2)]) (mIf (mNot (mTru (mCall [false, false, false] f_is_whole [] (mCons (mVar 2) (mCons (ret (.int 0)) (mCons (ret (.int 99)) mNil)))))) (mRaise "BadPicture" ["index", "what"] (mCons (mVar 1) (mCons (ret (.str "colour")) mNil))) (endS .nx))))
def f__check_cells : FM := funM 3 [true] m__check_cells
def m__check_marks : SM := (mSeq (mIf (mOr (mNot (mTru (mIsi [.lst, .tup] (mVar 0)))) (mNot (mTb (mChain fLe fLe (ret (.int 1)) (mCB fLen (mCons (mVar 0) mNil)) (ret (.int 4)))))) (mRaise "BadPicture" ["index", "what"] (mCons (ret (.int 0)) (mCons (ret (.str "marks")) mNil))) (endS .nx))
  (mFor (bnd (mCons (mVar 0) mNil) fEnum) (tgT [(tgN 2), (tgN 3)]) (mIf (mOr (mNot (mTru (mCall [false, false, false] f_is_whole [] (mCons (mVar 3) (mCons (ret (.int 0)) (mCons (mOp fSub (mVar 1) (ret (.int 1))) mNil)))))) (mTb (mOp fIn (mVar 3) (mSl (mVar 0) (ret none) (mPart (mVar 2)))))) (mRaise "BadPicture" ["index", "what"] (mCons (mVar 2) (mCons (ret (.str "mark")) mNil))) (endS .nx))))
def f__check_marks : FM := funM 4 [false, false] m__check_marks
def m__check_ties : SM := (mSeq (mIf (mOr (mNot (mTru (mIsi [.lst, .tup] (mVar 0)))) (mTb (mOp fGt (mCB fLen (mCons (mVar 0) mNil)) (ret (.int 2000))))) (mRaise "BadPicture" ["index", "what"] (mCons (ret (.int 0)) (mCons (ret (.str "ties")) mNil))) (endS .nx))
  (mFor (bnd (mCons (mVar 0) mNil) fEnum) (tgT [(tgN 2), (tgN 3)]) (mSeq (mIf (mOr (mNot (mTru (mIsi [.lst, .tup] (mVar 3)))) (mTb (mOp fNe (mCB fLen (mCons (mVar 3) mNil)) (ret (.int 2))))) (mRaise "BadPicture" ["index", "what"] (mCons (mVar 2) (mCons (ret (.str "tie")) mNil))) (endS .nx))
  (mIf (mOr (mNot (mTru (mCall [false, false, false] f_is_whole [] (mCons (mOp fIx (mVar 3) (ret (.int 0))) (mCons (ret (.int 0)) (mCons (mOp fSub (mVar 1) (ret (.int 1))) mNil)))))) (mOr (mNot (mTru (mCall [false, false, false] f_is_whole [] (mCons (mOp fIx (mVar 3) (ret (.int 1))) (mCons (ret (.int 0)) (mCons (mOp fSub (mVar 1) (ret (.int 1))) mNil)))))) (mTb (mOp fEq (mOp fIx (mVar 3) (ret (.int 0))) (mOp fIx (mVar 3) (ret (.int 1))))))) (mRaise "BadPicture" ["index", "what"] (mCons (mVar 2) (mCons (ret (.str "tie")) mNil))) (endS .nx)))))
def f__check_ties : FM := funM 4 [false, false] m__check_ties
def m_Picture_I : SM := (mSeq (mExpr (mCall [true] f__check_cells [] (mCons (mVar 1) mNil)))
  (mSeq (mSet 4 (mCB fLen (mCons (mVar 1) mNil)))
  (mSeq (mExpr (mCall [false, false] f__check_ties [] (mCons (mVar 2) (mCons (mVar 4) mNil))))
  (mSeq (mExpr (mCall [false, false] f__check_marks [] (mCons (mVar 3) (mCons (mVar 4) mNil))))
  (mSeq (mSet 5 (mDc (mIter (mVar 2)) (tgN 6) (ret true) (mTup (mCons (mCB fMin2 (mCons (mOp fIx (mVar 6) (ret (.int 0))) (mCons (mOp fIx (mVar 6) (ret (.int 1))) mNil))) (mCons (mCB fMax2 (mCons (mOp fIx (mVar 6) (ret (.int 0))) (mCons (mOp fIx (mVar 6) (ret (.int 1))) mNil))) mNil))) (ret (.bl true)) [6]))
  (mSeq (mSetF [("Picture", "colours")] 0 "colours" (mCB fTup (mCons (mVar 1) mNil)))
  (mSeq (mSetF [("Picture", "ties")] 0 "ties" (mCB fTup (mCons (mSKeys (mVar 5)) mNil)))
  (mSetF [("Picture", "marks")] 0 "marks" (mCB fTup (mCons (mVar 3) mNil))))))))))
def f_Picture_I : FM := funM 7 [true, true, false, false] m_Picture_I
def m_check_tree : SM := (mSeq (mIf (mNot (mTru (mCall [false, false, false] f_is_whole [] (mCons (mVar 0) (mCons (ret (.int 2)) (mCons (ret (.int 10)) mNil)))))) (mRaise "BadCount" ["what"] (mCons (ret (.str "colours")) mNil)) (endS .nx))
  (mSeq (mIf (mNot (mTru (mCall [false, false, false] f_is_whole [] (mCons (mVar 1) (mCons (ret (.int 1)) (mCons (ret (.int 12)) mNil)))))) (mRaise "BadCount" ["what"] (mCons (ret (.str "pours")) mNil)) (endS .nx))
  (mSeq (mIf (mNot (mTru (mCall [false, false, false] f_is_whole [] (mCons (mVar 2) (mCons (ret (.int 0)) (mCons (mOp fSub (mVar 0) (ret (.int 1))) mNil)))))) (mRaise "BadCount" ["what"] (mCons (ret (.str "first")) mNil)) (endS .nx))
  (mSeq (mSet 3 (ret (.int 0)))
  (mSeq (mSet 4 (ret (.int 1)))
  (mFor (bnd (mCons (mVar 1) mNil) fRng1) (tgN 5) (mSeq (mAug 3 fAdd (mVar 4))
  (mSeq (mAug 4 fMul (mOp fSub (mVar 0) (ret (.int 1))))
  (mIf (mTb (mOp fGt (mVar 3) (ret (.int 700)))) (mRaise "TooMany" ["most"] (mCons (ret (.int 700)) mNil)) (endS .nx))))))))))
def f_check_tree : FM := funM 6 [false, false, false] m_check_tree
def m_tree_colours : SM := (mRet (mLc (mIter (mVar 0)) (tgN 2) (ret true) (mIfE (mTru (mVar 2)) (mOp fIx (mVar 2) (mUn fNeg (ret (.int 1)))) (mVar 1)) [2]))
def f_tree_colours : FM := funM 3 [false, false] m_tree_colours
def m_other_tones : SM := (mRet (mCB fTup (mCons (mLc (bnd (mCons (mVar 0) mNil) fRng1) (tgN 2) (mTb (mOp fNe (mVar 2) (mVar 1))) (mVar 2) [2]) mNil)))
def f_other_tones : FM := funM 3 [false, false] m_other_tones
def m_tree_rows : SM := (mSeq (mSet 3 (mLst (mCons (mTup mNil) mNil)))
  (mSeq (mSet 4 (mLst (mCons (ret .non) mNil)))
  (mSeq (mSet 5 (ret (.int 0)))
  (mSeq (mFor (bnd (mCons (mOp fSub (mVar 1) (ret (.int 1))) mNil) fRng1) (tgN 6) (mSeq (mSet 7 (mCB fLen (mCons (mVar 3) mNil)))
  (mSeq (mFor (bnd (mCons (mVar 5) (mCons (mVar 7) mNil)) fRng2) (tgN 8) (mFor (mIter (mCall [false, false] f_other_tones [] (mCons (mVar 0) (mCons (mIfE (mTru (mOp fIx (mVar 3) (mVar 8))) (mOp fIx (mOp fIx (mVar 3) (mVar 8)) (mUn fNeg (ret (.int 1)))) (mVar 2)) mNil)))) (tgN 9) (mSeq (mExpr (mLM lAppend 3 (mCons (mOp fAddA (mOp fIx (mVar 3) (mVar 8)) (mTup (mCons (mVar 9) mNil))) mNil)))
  (mExpr (mLM lAppend 4 (mCons (mVar 8) mNil))))))
  (mSet 5 (mVar 7)))))
  (mRet (mTup (mCons (mVar 3) (mCons (mVar 4) mNil))))))))
def f_tree_rows : FM := funM 10 [false, false, false] m_tree_rows
def m_telling_tree : SM := (mSeq (mExpr (mCall [false, false, false] f_check_tree [] (mCons (mVar 0) (mCons (mVar 1) (mCons (mVar 2) mNil)))))
  (mSeq (mUnp [3, 4] (mCall [false, false, false] f_tree_rows [] (mCons (mVar 0) (mCons (mVar 1) (mCons (mVar 2) mNil)))))
  (mSeq (mSet 5 (mLc (bnd (mCons (ret (.int 1)) (mCons (mCB fLen (mCons (mVar 3) mNil)) mNil)) fRng2) (tgN 6) (ret true) (mTup (mCons (mOp fIx (mVar 4) (mVar 6)) (mCons (mVar 6) mNil))) [6]))
  (mRet (mMakeL "Picture" [true, false, false] f_Picture_I (mCons (mCall [false, false] f_tree_colours [] (mCons (mVar 3) (mCons (mVar 2) mNil))) (mCons (mVar 5) (mCons (mTup (mCons (ret (.int 0)) mNil)) mNil))))))))
def f_telling_tree : FM := funM 7 [false, false, false] m_telling_tree
def m__law_great_tree : SM := (mSeq (mUnp [1, 2, 3] (mCall [true, false] f__law_pick [] (mCons (mVar 0) (mCons (mLst (mCons (mTup (mCons (ret (.int 2)) (mCons (ret (.int 12)) (mCons (ret (.int 12)) mNil)))) (mCons (mTup (mCons (ret (.int 3)) (mCons (ret (.int 9)) (mCons (ret (.int 511)) mNil)))) (mCons (mTup (mCons (ret (.int 4)) (mCons (ret (.int 6)) (mCons (ret (.int 364)) mNil)))) (mCons (mTup (mCons (ret (.int 5)) (mCons (ret (.int 5)) (mCons (ret (.int 341)) mNil)))) (mCons (mTup (mCons (ret (.int 10)) (mCons (ret (.int 3)) (mCons (ret (.int 91)) mNil)))) mNil)))))) mNil))))
  (mSeq (mSet 4 (mCall [true, false] f__law_take [] (mCons (mVar 0) (mCons (mVar 1) mNil))))
  (mSeq (mSet 5 (mCall [false, false, false] f_telling_tree [] (mCons (mVar 1) (mCons (mVar 2) (mCons (mVar 4) mNil)))))
  (mRet (mAndV (mOp fEq (mCB fLen (mCons (mUn (fLook (gFld [("Picture", "colours")] "colours")) (mVar 5)) mNil)) (mVar 3)) (mAndV (mOp fEq (mCB fLen (mCons (mUn (fLook (gFld [("Picture", "ties")] "ties")) (mVar 5)) mNil)) (mOp fSub (mVar 3) (ret (.int 1)))) (mOp fEq (mOp fIx (mOp fIx (mUn (fLook (gFld [("Picture", "ties")] "ties")) (mVar 5)) (mUn fNeg (ret (.int 1)))) (ret (.int 1))) (mOp fSub (mVar 3) (ret (.int 1))))))))))
def f__law_great_tree : FM := funM 6 [true] m__law_great_tree
def m__law_hand : SM := (mSeq (mSet 1 (mOp fAddA (mCB fLen (mCons (mVar 0) mNil)) (ret (.int 53))))
  (mSeq (mSet 2 (mLst mNil))
  (mSeq (mFor (mIter (mVar 0)) (tgN 3) (mSeq (mSet 1 (mOp fMod (mCB fInt (mCons (mOp fAddA (mOp fMul (mVar 1) (ret (.int 1021))) (mCB fInt (mCons (mVar 3) mNil))) mNil)) (ret (.int 2147483587))))
  (mExpr (mLM lAppend 2 (mCons (mCB fAbs (mCons (mCB fInt (mCons (mVar 3) mNil)) mNil)) mNil)))))
  (mRet (mLst (mCons (mVar 2) (mCons (ret (.int 0)) (mCons (ret (.int 0)) (mCons (mVar 1) mNil)))))))))
def f__law_hand : FM := funM 4 [false] m__law_hand
def m_places_within : SM := (mSeq (mSet 2 (mLst mNil))
  (mSeq (mSet 3 (ret (.int 0)))
  (mSeq (mFor (mIter (mVar 0)) (tgN 4) (mSeq (whL (mAnd (mTb (mOp fLt (mVar 3) (mCB fLen (mCons (mVar 1) mNil)))) (mTb (mOp fNe (mOp fIx (mVar 1) (mVar 3)) (mVar 4)))) (mAug 3 fAdd (ret (.int 1))) 100000)
  (mSeq (mIf (mTb (mOp fEq (mVar 3) (mCB fLen (mCons (mVar 1) mNil)))) (mRet (ret .non)) (endS .nx))
  (mSeq (mExpr (mLM lAppend 2 (mCons (mVar 3) mNil)))
  (mAug 3 fAdd (ret (.int 1)))))))
  (mRet (mCB fTup (mCons (mVar 2) mNil))))))
def f_places_within : FM := funM 5 [false, false] m_places_within
def m_row_of_tree : SM := (mSeq (mSet 3 (mOp fIx (mVar 2) (ret (.int 0))))
  (mSeq (mSet 4 (mTup mNil))
  (mSeq (mFor (bnd (mCons (mVar 0) (mCons (mVar 2) mNil)) fZipB) (tgT [(tgN 5), (tgN 6)]) (mIf (mAnd (mTb (mOp fEq (mVar 6) (mVar 3))) (mAnd (mTru (mVar 5)) (mAnd (mTb (mOp fNe (mOp fIx (mVar 5) (mUn fNeg (ret (.int 1)))) (mVar 3))) (mTb (mOp fGt (mCB fLen (mCons (mVar 5) mNil)) (mCB fLen (mCons (mVar 4) mNil))))))) (mSet 4 (mVar 5)) (endS .nx)))
  (mSeq (mIf (mTru (mVar 4)) (mRet (mOp fAddA (mVar 4) (mTup (mCons (mVar 3) mNil)))) (endS .nx))
  (mRet (mIfE (mTb (mOp fEq (mVar 3) (mVar 1))) (mTup mNil) (mTup (mCons (mVar 3) mNil))))))))
def f_row_of_tree : FM := funM 7 [false, false, false] m_row_of_tree
def m_told_row : SM := (mSeq (mExpr (mCall [false, false, false] f_check_tree [] (mCons (mVar 0) (mCons (mVar 1) (mCons (mVar 2) mNil)))))
  (mSeq (mSet 4 (mOp fIx (mCall [false, false, false] f_tree_rows [] (mCons (mVar 0) (mCons (mVar 1) (mCons (mVar 2) mNil)))) (ret (.int 0))))
  (mSeq (mIf (mOr (mNot (mTru (mIsi [.lst, .tup] (mVar 3)))) (mTb (mOp fNe (mCB fLen (mCons (mVar 3) mNil)) (mCB fLen (mCons (mVar 4) mNil))))) (mRaise "BadShown" ["shown"] (mCons (mVar 3) mNil)) (endS .nx))
  (mSeq (mIf (mOr (mNot (mTru (mCB (fC1 fAllB) (mCons (mLc (mIter (mVar 3)) (tgN 8) (ret true) (mCall [false, false, false] f_is_whole [] (mCons (mVar 8) (mCons (ret (.int 0)) (mCons (ret (.int 99)) mNil)))) [8]) mNil)))) (mTb (mOp fGe (mOp fIx (mVar 3) (ret (.int 0))) (mVar 0)))) (mRaise "BadShown" ["shown"] (mCons (mVar 3) mNil)) (endS .nx))
  (mSeq (mSet 5 (mCall [false, false, false] f_row_of_tree [] (mCons (mVar 4) (mCons (mVar 2) (mCons (mVar 3) mNil)))))
  (mSeq (mFor (bnd (mCons (mVar 4) (mCons (mCall [false, false] f_tree_colours [] (mCons (mVar 4) (mCons (mVar 2) mNil))) (mCons (mVar 3) mNil))) fZipC) (tgT [(tgN 6), (tgN 7), (tgN 8)]) (mIf (mTb (mOp fNe (mVar 8) (mIfE (mTb (mNotN (mCall [false, false] f_places_within [] (mCons (mVar 6) (mCons (mVar 5) mNil))))) (mOp fIx (mVar 3) (ret (.int 0))) (mVar 7)))) (mRaise "BadShown" ["shown"] (mCons (mVar 3) mNil)) (endS .nx)))
  (mRet (mVar 5))))))))
def f_told_row : FM := funM 9 [false, false, false, false] m_told_row
def m__law_asked : SM := (mSeq (mTry subT (mSeq (mIf (mTb (mOp fEq (mVar 0) (ret (.int 0)))) (mExpr (mCall [false, false, false] f_telling_tree [] (mCons (mVar 1) (mCons (mVar 2) (mCons (mVar 3) mNil))))) (endS .nx))
  (mIf (mTb (mOp fEq (mVar 0) (ret (.int 1)))) (mExpr (mCall [false, false, false, false] f_told_row [] (mCons (mVar 1) (mCons (mVar 2) (mCons (mVar 3) (mCons (mVar 4) mNil)))))) (endS .nx))) [("BadCount", some 5, (mRet (mTup (mCons (mXf ["BadCount"] 5 "what") mNil)))), ("TooMany", some 5, (mRet (mTup (mCons (ret (.str "many")) (mCons (mXf ["TooMany"] 5 "most") mNil))))), ("BadShown", none, (mRet (mTup (mCons (ret (.str "shown")) mNil))))])
  (mRet (mTup (mCons (ret (.str "let")) mNil))))
def f__law_asked : FM := funM 6 [false, false, false, false, false] m__law_asked
def m__law_total : SM := (mSeq (mSet 3 (ret (.int 1)))
  (mSeq (mFor (bnd (mCons (mVar 1) mNil) fRng1) (tgN 4) (mSet 3 (mOp fMul (mVar 3) (mIfE (mAnd (mTb (mOp fEq (mVar 4) (ret (.int 0)))) (mTb (mIsN (mVar 2)))) (mVar 0) (mOp fSub (mVar 0) (ret (.int 1)))))))
  (mRet (mVar 3))))
def f__law_total : FM := funM 5 [false, false, false] m__law_total
def m__law_refusals : SM := (mSeq (mSet 1 (mOp fAddA (ret (.int 2)) (mCall [true, false] f__law_take [] (mCons (mVar 0) (mCons (ret (.int 9)) mNil)))))
  (mSeq (mSet 2 (mCall [true, false] f__law_pick [] (mCons (mVar 0) (mCons (mLst (mCons (ret (.int 1)) (mCons (ret (.int 11)) (mCons (ret (.int 0)) (mCons (ret (.bl true)) (mCons (ret .non) (mCons (ret (.str "3")) (mCons (mOp fPow (ret (.int 10)) (ret (.int 20))) mNil)))))))) mNil))))
  (mSeq (mSet 3 (mCall [true, false] f__law_pick [] (mCons (mVar 0) (mCons (mLst (mCons (ret (.int 0)) (mCons (ret (.int 13)) (mCons (mUn fNeg (ret (.int 1))) (mCons (ret (.bl true)) (mCons (ret .non) (mCons (ret (.str "2")) (mCons (mOp fPow (ret (.int 10)) (ret (.int 20))) mNil)))))))) mNil))))
  (mSeq (mSet 4 (mCall [true, false] f__law_pick [] (mCons (mVar 0) (mCons (mLst (mCons (mUn fNeg (ret (.int 1))) (mCons (mVar 1) (mCons (ret .non) (mCons (ret (.bl false)) (mCons (ret (.str "0")) (mCons (mOp fPow (ret (.int 10)) (ret (.int 20))) mNil))))))) mNil))))
  (mSeq (mFor (bnd (mCons (ret (.int 2)) mNil) fRng1) (tgN 5) (mSeq (mIf (mOr (mTb (mOp fNe (mCall [false, false, false, false, false] f__law_asked [] (mCons (mVar 5) (mCons (mVar 2) (mCons (mVar 3) (mCons (mVar 4) (mCons (ret .non) mNil)))))) (mTup (mCons (ret (.str "colours")) mNil)))) (mTb (mOp fNe (mCall [false, false, false, false, false] f__law_asked [] (mCons (mVar 5) (mCons (mVar 1) (mCons (mVar 3) (mCons (mVar 4) (mCons (ret .non) mNil)))))) (mTup (mCons (ret (.str "pours")) mNil))))) (mRet (ret (.bl false))) (endS .nx))
  (mSeq (mIf (mTb (mOp fNe (mCall [false, false, false, false, false] f__law_asked [] (mCons (mVar 5) (mCons (mVar 1) (mCons (ret (.int 12)) (mCons (mVar 4) (mCons (ret .non) mNil)))))) (mTup (mCons (ret (.str "first")) mNil)))) (mRet (ret (.bl false))) (endS .nx))
  (mFor (bnd (mCons (ret (.int 1)) (mCons (ret (.int 13)) mNil)) fRng2) (tgN 6) (mSeq (mSet 7 (mCB (fC1 fSumL) (mCons (mLc (bnd (mCons (mVar 6) mNil) fRng1) (tgN 8) (ret true) (mCall [false, false, false] f__law_total [] (mCons (mVar 1) (mCons (mVar 8) (mCons (ret (.int 0)) mNil)))) [8]) mNil)))
  (mSeq (mIf (mAnd (mTb (mOp fGt (mVar 7) (ret (.int 700)))) (mTb (mOp fNe (mCall [false, false, false, false, false] f__law_asked [] (mCons (mVar 5) (mCons (mVar 1) (mCons (mVar 6) (mCons (ret (.int 0)) (mCons (ret .non) mNil)))))) (mTup (mCons (ret (.str "many")) (mCons (ret (.int 700)) mNil)))))) (mRet (ret (.bl false))) (endS .nx))
  (mIf (mAnd (mTb (mOp fLt (mVar 7) (ret (.int 700)))) (mAnd (mTb (mOp fEq (mVar 5) (ret (.int 1)))) (mTb (mOp fNe (mCall [false, false, false, false, false] f__law_asked [] (mCons (ret (.int 1)) (mCons (mVar 1) (mCons (mVar 6) (mCons (ret (.int 0)) (mCons (ret .non) mNil)))))) (mTup (mCons (ret (.str "shown")) mNil)))))) (mRet (ret (.bl false))) (endS .nx))))))))
  (mRet (ret (.bl true))))))))
def f__law_refusals : FM := funM 9 [true] m__law_refusals
def m__law_all_struck : SM := (mSeq (mSet 3 (mLst (mCons (mTup mNil) mNil)))
  (mSeq (mFor (bnd (mCons (mVar 1) mNil) fRng1) (tgN 4) (mSeq (mSet 5 (mLst mNil))
  (mSeq (mFor (mIter (mVar 3)) (tgN 6) (mFor (bnd (mCons (mVar 0) mNil) fRng1) (tgN 7) (mIf (mTb (mOp fNe (mVar 7) (mIfE (mTru (mVar 6)) (mOp fIx (mVar 6) (mUn fNeg (ret (.int 1)))) (mVar 2)))) (mExpr (mLM lAppend 5 (mCons (mOp fAddA (mVar 6) (mTup (mCons (mVar 7) mNil))) mNil))) (endS .nx))))
  (mSet 3 (mCB fLst (mCons (mVar 5) mNil))))))
  (mRet (mVar 3))))
def f__law_all_struck : FM := funM 8 [false, false, false] m__law_all_struck
def m__law_cells : SM := (mSeq (mSet 3 (mLst mNil))
  (mSeq (mFor (bnd (mCons (mVar 1) mNil) fRng1) (tgN 4) (mSet 3 (mOp fAddA (mVar 3) (mCall [false, false, false] f__law_all_struck [] (mCons (mVar 0) (mCons (mVar 4) (mCons (mVar 2) mNil)))))))
  (mRet (mVar 3))))
def f__law_cells : FM := funM 5 [false, false, false] m__law_cells
def m__law_hidden : SM := (mSeq (mSet 2 (ret (.int 0)))
  (mSeq (mFor (mIter (mVar 1)) (tgN 3) (mIf (mAnd (mTb (mOp fLt (mVar 2) (mCB fLen (mCons (mVar 0) mNil)))) (mTb (mOp fEq (mOp fIx (mVar 0) (mVar 2)) (mVar 3)))) (mSet 2 (mOp fAddA (mVar 2) (ret (.int 1)))) (endS .nx)))
  (mRet (mOp fEq (mVar 2) (mCB fLen (mCons (mVar 0) mNil))))))
def f__law_hidden : FM := funM 4 [false, false] m__law_hidden
def m__law_left : SM := (mSeq (mSet 3 (mIfE (mTru (mVar 2)) (mOp fIx (mVar 2) (mUn fNeg (ret (.int 1)))) (mVar 1)))
  (mRet (mLc (mIter (mVar 0)) (tgN 4) (ret true) (mIfE (mTru (mCall [false, false] f__law_hidden [] (mCons (mVar 4) (mCons (mVar 2) mNil)))) (mVar 3) (mIfE (mTru (mVar 4)) (mOp fIx (mVar 4) (mUn fNeg (ret (.int 1)))) (mVar 1))) [4])))
def f__law_left : FM := funM 5 [false, false, false] m__law_left
def m__law_raw : SM := (mSeq (mSet 3 (mLc (bnd (mCons (mCall [true, false] f__law_take [] (mCons (mVar 0) (mCons (ret (.int 3)) mNil))) mNil) fRng1) (tgN 5) (ret true) (mVar 2) [5]))
  (mSeq (mFor (mIter (mVar 1)) (tgN 4) (mFor (bnd (mCons (mOp fAddA (ret (.int 1)) (mCall [true, false] f__law_take [] (mCons (mVar 0) (mCons (ret (.int 3)) mNil)))) mNil) fRng1) (tgN 5) (mExpr (mLM lAppend 3 (mCons (mVar 4) mNil)))))
  (mRet (mVar 3))))
def f__law_raw : FM := funM 6 [true, false, false] m__law_raw
def m__law_read : SM := (mTry subT (mRet (mCall [false, false, false, false] f_told_row [] (mCons (mVar 0) (mCons (mVar 1) (mCons (mVar 2) (mCons (mVar 3) mNil)))))) [("BadShown", some 4, (mRet (mTup (mCons (ret (.str "shown")) (mCons (mXf ["BadShown"] 4 "shown") mNil)))))])
def f__law_read : FM := funM 5 [false, false, false, false] m__law_read
def m__law_spoilt : SM := (mSeq (mSet 6 (mCall [true, false] f__law_pick [] (mCons (mVar 0) (mCons (mVar 4) mNil))))
  (mSeq (mSet 7 (mCB fLst (mCons (mVar 6) mNil)))
  (mSeq (mFor (bnd (mCons (mOp fAddA (ret (.int 1)) (mCall [true, false] f__law_take [] (mCons (mVar 0) (mCons (ret (.int 2)) mNil)))) mNil) fRng1) (tgN 8) (mSetI 7 (mCall [true, false] f__law_take [] (mCons (mVar 0) (mCons (mCB fLen (mCons (mVar 7) mNil)) mNil))) (mCall [true, false] f__law_pick [] (mCons (mVar 0) (mCons (mLst (mCons (ret (.int 0)) (mCons (ret (.int 1)) (mCons (mOp fSub (mVar 1) (ret (.int 1))) (mCons (mVar 1) (mCons (ret (.int 99)) (mCons (mVar 3) mNil))))))) mNil)))))
  (mSeq (mSet 9 (mLc (bnd (mCons (mCB fLen (mCons (mVar 5) mNil)) mNil) fRng1) (tgN 13) (mTb (mOp fEq (mOp fIx (mVar 4) (mVar 13)) (mVar 7))) (mOp fIx (mVar 5) (mVar 13)) [13]))
  (mSeq (mSet 10 (mCall [false, false, false, false] f__law_read [] (mCons (mVar 1) (mCons (mVar 2) (mCons (mVar 3) (mCons (mCB fTup (mCons (mVar 7) mNil)) mNil))))))
  (mSeq (mIf (mTb (mOp fNe (mVar 10) (mIfE (mTru (mVar 9)) (mOp fIx (mVar 9) (ret (.int 0))) (mTup (mCons (ret (.str "shown")) (mCons (mCB fTup (mCons (mVar 7) mNil)) mNil)))))) (mRet (ret (.bl false))) (endS .nx))
  (mSeq (mSet 11 (mLst (mCons (mOp fAddA (mVar 6) (mLst (mCons (ret (.int 0)) mNil))) (mCons (mSl (mVar 6) (ret none) (mPart (mUn fNeg (ret (.int 1))))) (mCons (mOp fAddA (mLst (mCons (ret (.bl true)) mNil)) (mSl (mVar 6) (mPart (ret (.int 1))) (ret none))) (mCons (mOp fAddA (mSl (mVar 6) (ret none) (mPart (mUn fNeg (ret (.int 1))))) (mLst (mCons (ret (.int 100)) mNil))) (mCons (mOp fAddA (mSl (mVar 6) (ret none) (mPart (mUn fNeg (ret (.int 1))))) (mLst (mCons (mUn fNeg (ret (.int 1))) mNil))) (mCons (mOp fAddA (mSl (mVar 6) (ret none) (mPart (mUn fNeg (ret (.int 1))))) (mLst (mCons (ret (.str "0")) mNil))) mNil))))))))
  (mSeq (mSet 12 (mCB fTup (mCons (mCall [true, false] f__law_pick [] (mCons (mVar 0) (mCons (mVar 11) mNil))) mNil)))
  (mSeq (mIf (mTb (mOp fNe (mCall [false, false, false, false] f__law_read [] (mCons (mVar 1) (mCons (mVar 2) (mCons (mVar 3) (mCons (mVar 12) mNil))))) (mTup (mCons (ret (.str "shown")) (mCons (mVar 12) mNil))))) (mRet (ret (.bl false))) (endS .nx))
  (mSeq (mSet 12 (mCall [true, false] f__law_pick [] (mCons (mVar 0) (mCons (mLst (mCons (ret .non) (mCons (ret (.int 5)) (mCons (ret (.str "012")) (mCons (ret (.bl true)) mNil))))) mNil))))
  (mRet (mOp fEq (mCall [false, false, false, false] f__law_read [] (mCons (mVar 1) (mCons (mVar 2) (mCons (mVar 3) (mCons (mVar 12) mNil))))) (mTup (mCons (ret (.str "shown")) (mCons (mVar 12) mNil)))))))))))))))
def f__law_spoilt : FM := funM 14 [true, false, false, false, false, false] m__law_spoilt
def m__law_tree_right : SM := (mSeq (mSet 3 (ret (.ot [] [])))
  (mSeq (mFor (bnd (mCons (mCB fLen (mCons (mVar 1) mNil)) mNil) fRng1) (tgN 4) (mSetT 3 (mOp fIx (mVar 1) (mVar 4)) (mVar 4)))
  (mSeq (mSet 5 (mLc (bnd (mCons (ret (.int 1)) (mCons (mCB fLen (mCons (mVar 1) mNil)) mNil)) fRng2) (tgN 4) (ret true) (mTup (mCons (mOp (fLook2 gTIx) (mVar 3) (mSl (mOp fIx (mVar 1) (mVar 4)) (ret none) (mPart (mUn fNeg (ret (.int 1)))))) (mCons (mVar 4) mNil))) [4]))
  (mSeq (mIf (mOr (mTb (mOp fNe (mUn (fLook (gFld [("Picture", "colours")] "colours")) (mVar 0)) (mCB fTup (mCons (mLc (mIter (mVar 1)) (tgN 6) (ret true) (mIfE (mTru (mVar 6)) (mOp fIx (mVar 6) (mUn fNeg (ret (.int 1)))) (mVar 2)) [6]) mNil)))) (mTb (mOp fNe (mUn (fLook (gFld [("Picture", "marks")] "marks")) (mVar 0)) (mTup (mCons (ret (.int 0)) mNil))))) (mRet (ret (.bl false))) (endS .nx))
  (mRet (mOp fEq (mUn (fLook (gFld [("Picture", "ties")] "ties")) (mVar 0)) (mCB fTup (mCons (mCB (fC1 fSortP) (mCons (mVar 5) mNil)) mNil))))))))
def f__law_tree_right : FM := funM 7 [false, false, false] m__law_tree_right
def m__law_tuples (f__law_tuples : Nat → FM) (n : Nat) : SM := (mSeq (mIf (mTru (mIsi [.tup] (mVar 0))) (mRet (mNotT (mLc (mIter (mVar 0)) (tgN 1) (mNot (mTru (mCall [false] (f__law_tuples n) [] (mCons (mVar 1) mNil)))) (ret (.int 1)) [1]))) (endS .nx))
  (mRet (mOrV (mIsN (mVar 0)) (mAndV (mIsi [.int] (mVar 0)) (mNotT (mIsi [.bl] (mVar 0)))))))
def f__law_tuples : Nat → FM
  | 0 => funM 2 [false] stuckS
  | n + 1 => funM 2 [false] (m__law_tuples (fun _ => f__law_tuples n) n)
def m__law_whole_tree : SM := (mSeq (mSet 1 (mCall [true, false] f__law_pick [] (mCons (mVar 0) (mCons (mLst (mCons (ret (.int 2)) (mCons (ret (.int 3)) (mCons (ret (.int 3)) (mCons (ret (.int 4)) mNil))))) mNil))))
  (mSeq (mSet 2 (mOp fAddA (ret (.int 1)) (mCall [true, false] f__law_take [] (mCons (mVar 0) (mCons (mIfE (mTb (mOp fEq (mVar 1) (ret (.int 4)))) (ret (.int 3)) (ret (.int 4))) mNil)))))
  (mSeq (mIf (mTb (mOp fEq (mCall [true, false] f__law_take [] (mCons (mVar 0) (mCons (ret (.int 6)) mNil))) (ret (.int 0)))) (mSet 2 (mOp fIx (mLst (mCons (ret (.int 12)) (mCons (ret (.int 5)) (mCons (ret (.int 4)) mNil)))) (mOp fSub (mVar 1) (ret (.int 2))))) (endS .nx))
  (mSeq (mSet 3 (mCall [true, false] f__law_take [] (mCons (mVar 0) (mCons (mVar 1) mNil))))
  (mSeq (mSet 4 (mCall [false, false, false] f__law_cells [] (mCons (mVar 1) (mCons (mVar 2) (mCons (mVar 3) mNil)))))
  (mSeq (mIf (mNot (mTru (mCall [false, false, false] f__law_tree_right [] (mCons (mCall [false, false, false] f_telling_tree [] (mCons (mVar 1) (mCons (mVar 2) (mCons (mVar 3) mNil)))) (mCons (mVar 4) (mCons (mVar 3) mNil)))))) (mRet (ret (.bl false))) (endS .nx))
  (mSeq (mSet 5 (mOp fAddA (mVar 4) (mCall [false, false, false] f__law_all_struck [] (mCons (mVar 1) (mCons (mVar 2) (mCons (mVar 3) mNil))))))
  (mSeq (mSet 6 (mLc (mIter (mVar 5)) (tgN 11) (ret true) (mCall [false, false, false] f__law_left [] (mCons (mVar 4) (mCons (mVar 3) (mCons (mVar 11) mNil)))) [11]))
  (mSeq (mFor (bnd (mCons (mCB fLen (mCons (mVar 5) mNil)) mNil) fRng1) (tgN 7) (mSeq (mSet 8 (mCall [false, false, false, false] f_told_row [] (mCons (mVar 1) (mCons (mVar 2) (mCons (mVar 3) (mCons (mOp fIx (mVarW 6) (mVar 7)) mNil))))))
  (mIf (mOr (mTb (mOp fNe (mVar 8) (mOp fIx (mVar 5) (mVar 7)))) (mOr (mNot (mTru (mIsi [.tup] (mVar 8)))) (mNot (mTru (mCall [false] (f__law_tuples 5) [] (mCons (mVar 8) mNil)))))) (mRet (ret (.bl false))) (endS .nx))))
  (mSeq (mFor (bnd (mCons (ret (.int 3)) mNil) fRng1) (tgN 9) (mSeq (mSet 7 (mCall [true, false] f__law_take [] (mCons (mVar 0) (mCons (mCB fLen (mCons (mVar 5) mNil)) mNil))))
  (mSeq (mSet 10 (mCall [false, false, false] f__law_left [] (mCons (mVar 4) (mCons (mVar 3) (mCons (mCall [true, false, false] f__law_raw [] (mCons (mVar 0) (mCons (mOp fIx (mVar 5) (mVar 7)) (mCons (mVar 3) mNil)))) mNil)))))
  (mIf (mOr (mTb (mOp fNe (mCall [false, false, false, false] f_told_row [] (mCons (mVar 1) (mCons (mVar 2) (mCons (mVar 3) (mCons (mCB fTup (mCons (mVar 10) mNil)) mNil))))) (mOp fIx (mVar 5) (mVar 7)))) (mNot (mTru (mCall [true, false, false, false, false, false] f__law_spoilt [] (mCons (mVar 0) (mCons (mVar 1) (mCons (mVar 2) (mCons (mVar 3) (mCons (mVar 6) (mCons (mVar 5) mNil)))))))))) (mRet (ret (.bl false))) (endS .nx)))))
  (mRet (ret (.bl true)))))))))))))
def f__law_whole_tree : FM := funM 12 [true] m__law_whole_tree
def m_law : SM := (mSeq (mSet 1 (mCall [false] f__law_hand [] (mCons (mVar 0) mNil)))
  (mSeq (mIf (mAnd (mTb (mOp fEq (mCall [true, false] f__law_take [] (mCons (mVar 1) (mCons (ret (.int 4)) mNil))) (ret (.int 0)))) (mNot (mTru (mCall [true] f__law_great_tree [] (mCons (mVar 1) mNil))))) (mRet (ret (.bl false))) (endS .nx))
  (mRet (mAndV (mCall [true] f__law_whole_tree [] (mCons (mVar 1) mNil)) (mCall [true] f__law_refusals [] (mCons (mVar 1) mNil))))))
def f_law : FM := funM 2 [false] m_law
end LAWM
end
section
set_option Elab.async false
set_option linter.all false
set_option autoImplicit false
set_option maxRecDepth 100000
set_option maxHeartbeats 0
set_option pp.maxSteps 400
namespace LAWP
open PySem PySem.Spec L2 SV LAWM
theorem b_sl {ρ : SV.Env} {QD : Res D → SV.Env → Prop} {ma : M D} {lo hi : M (Option Int)} (h : Ev ma ρ (onOk QD fun d ρ1 => Ev lo ρ1 (onOk QD fun l ρ2 => Ev hi ρ2 (onOk QD fun u ρ3 => Ev (fCut d l u) ρ3 QD)))) : Ev (mSl ma lo hi) ρ QD := by
  unfold mSl
  simp only [ev_bnd]
  exact h
theorem b_part {ρ : SV.Env} {QO : Res (Option Int) → SV.Env → Prop} {ma : M D} (h : Ev ma ρ (onOk QO fun d ρ1 => ∃ i, d = .int i ∧ QO (.ok (some i)) ρ1)) : Ev (mPart ma) ρ QO := by
  unfold mPart
  rw [ev_bnd]
  refine h.imp fun r ρ1 q => ?_
  cases r with
  | exc c fs => exact q
  | ok d =>
    obtain ⟨i, rfl, q2⟩ := (show ∃ i, d = .int i ∧ QO (.ok (some i)) ρ1 from q)
    exact b_ret q2
theorem b_pi {i : Int} {P : Int → Prop} (h : P i) : ∃ j, D.int i = .int j ∧ P j := ⟨i, rfl, h⟩
theorem b_callK {io : List Bool} {f : FM} {dd : List D} {pk : List Pk} {n m : Nat} {a b : M (List D)} {ρ : SV.Env} {QD : Res D → SV.Env → Prop} (h : Ev a ρ (onOk QD fun ds ρ1 => Ev b ρ1 (onOk QD fun es ρ2 => Ev (fFrzs es) ρ2 (onOk QD fun ys ρ3 => Ev (fFrzs ds) ρ3 (onOk QD fun xs ρ4 =>
    ((io.all (fun b => !b) = true ∧ io.length = pk.length ∧ xs.length = n) ∧ (ys.length = m ∧ pkOk pk xs.length ys.length dd.length = true)) ∧ Ef f (pkx .non pk dd xs ys) fun r _ => QD r ρ4))))) : Ev (mCallK io f dd pk n m a b) ρ QD := by
  unfold mCallK
  rw [ev_bnd]
  refine h.imp fun r ρ1 q => ?_
  cases r with
  | exc c fs => exact q
  | ok ds =>
    rw [onOk_ok] at *
    rw [ev_bnd]
    refine q.imp fun r ρ2 q => ?_
    cases r with
    | exc c fs => exact q
    | ok es =>
      rw [onOk_ok] at *
      rw [ev_bnd]
      refine q.imp fun r ρ3 q => ?_
      cases r with
      | exc c fs => exact q
      | ok ys =>
        rw [onOk_ok] at *
        rw [ev_bnd]
        refine q.imp fun r ρ4 q => ?_
        cases r with
        | exc c fs => exact q
        | ok xs =>
          obtain ⟨c, r, cs, e, q⟩ := (show _ ∧ Ef _ _ _ from q)
          rw [onOk_ok]
          exact ⟨r, ρ4, by dsimp only; rw [if_pos c, e], q⟩
theorem lApp {ds : List D} {e : D} (h : ds.length < 16777216) : lAppend ds [e] = some (ds ++ [e], .non) := by
  unfold lAppend
  simp only
  rw [if_pos h]
theorem b_rng1 {ρ : SV.Env} {QL : Res (List D) → SV.Env → Prop} {j : Int} (c : okR j = true) (h : QL (.ok (upTo 0 j.toNat)) ρ) : Ev (fRng1 [.int j]) ρ QL := by
  unfold fRng1
  simp only
  rw [if_pos c]
  exact b_ret h
theorem b_rng2 {ρ : SV.Env} {QL : Res (List D) → SV.Env → Prop} {i j : Int} (c : okR i = true ∧ okR j = true) (h : QL (.ok (upTo i (j - i).toNat)) ρ) : Ev (fRng2 [.int i, .int j]) ρ QL := by
  unfold fRng2
  simp only
  rw [if_pos c]
  exact b_ret h
theorem b_rz {xs : List D} {ns : List Str} {P : Prop} (c : xs.length = ns.length ∧ 0 < ns.length ∧ ns.length ≤ 900) (h : P) : (xs.length = ns.length ∧ 0 < ns.length ∧ ns.length ≤ 900) ∧ P := ⟨c, h⟩
def gd : D → Bool
  | .non => true | .bl _ => true | .int _ => true | .str _ => true | .tup _ => true | .lst _ => true | .dk _ _ => true | _ => false
theorem gd_own {d : D} (h : gd d = true) : d.own = false := by cases d <;> first | rfl | cases h
theorem gd_isX {d : D} (h : gd d = true) : d.isX = false := by cases d <;> first | rfl | cases h
theorem gd_nsl {d : D} (h : gd d = true) : ∀ i, d ≠ .sl i := by intro i z; rw [z] at h; cases h
theorem gd_frz {d : D} (h : gd d = true) : d.frz = d := by cases d <;> first | rfl | cases h
theorem dr_gd {d : D} {ρ : SV.Env} (h : gd d = true) : dr ρ d = some d := by cases d <;> first | rfl | cases h
theorem cb_f : ∀ {io : List Bool} {ds : List D} {ρ : SV.Env}, io.all (fun b => !b) = true → Nat.ble ds.length io.length = true → callBack io ds [] ρ = some ρ
  | io, [], ρ, _, _ => by cases io <;> (unfold callBack; rfl)
  | [], _ :: _, _, _, h => by cases h
  | true :: io, _ :: _, _, h, _ => by simp at h
  | false :: io, d :: ds, ρ, h, h2 => by
    have z := cb_f (io := io) (ds := ds) (ρ := ρ) (by simpa using h) h2
    cases d <;> (simp only [callBack]; exact z)
theorem b_frzG {d : D} {ρ : SV.Env} {QD : Res D → SV.Env → Prop} (h : gd d = true) (q : QD (.ok d) ρ) : Ev (fFrz d) ρ QD := b_frz (gd_nsl h) (by rw [gd_frz h]; exact q)
theorem gEqF {i j : Int} : gEq false (.int i) (.int j) = some (.bl (decide (i = j))) := by
  simp [gEq, D.py, SeqAt.shaped, PyData.eqv, PyData.canLay0, PyData.depth]
  rfl
theorem gNeF {i j : Int} : gEq true (.int i) (.int j) = some (.bl (!decide (i = j))) := by
  simp [gEq, D.py, SeqAt.shaped, PyData.eqv, PyData.canLay0, PyData.depth]
  rfl
theorem b_enum {d : D} {ρ : SV.Env} {QL : Res (List D) → SV.Env → Prop} (h : Ev (fSeq d) ρ (onOk QL fun z ρ1 => QL (.ok (enumF 0 z.2)) ρ1)) : Ev (fEnum [d]) ρ QL := by
  unfold fEnum
  simp only [ev_bnd, ev_ret]
  exact h
theorem b_unp {is : List Nat} {ma : M D} {ρ : SV.Env} {QS : Fl → SV.Env → Prop} (h : Ev ma ρ (onOkS QS fun d ρ1 => ∃ ds, d = .tup ds ∧ plain ds = true ∧ ∃ ρ3, unpS is ds ρ1 = some ρ3 ∧ QS .nx ρ3)) : Es (mUnp is ma) ρ QS := by
  unfold mUnp
  rw [es_bndS, ev_bnd]
  refine h.imp fun r ρ1 q => ?_
  cases r with
  | exc c fs => exact q
  | ok a =>
    obtain ⟨ds, rfl, p, ρ3, e, q⟩ := q
    refine ⟨.ok (true, ds), ρ1, ?_, .nx, ρ3, ?_, q⟩
    · unfold fItems; simp [dr, D.seq, p]
    · simp [e]
theorem mixed_ok (n t : Int) (h0 : 0 ≤ n) (h1 : n < 2147483647) (h2 : 0 ≤ t) : ∃ v : Int, 0 ≤ v ∧ ∀ Q : Res D → List D → Prop, Q (.ok (.int v)) [] → Ef f__law_mixed [.int n, .int t] Q := by
  refine ⟨((((n * 69621 + t * 7907 + 40503) % 2147483647 * ((n * 69621 + t * 7907 + 40503) % 2147483647) + t * 104723 + (n * 69621 + t * 7907 + 40503) % 2147483647 / 131) % 2147483629 * 48271 + (n * 69621 + t * 7907 + 40503) % 2147483647 / 7) % 2147483579) / 32, by omega, fun Q hQ => ?_⟩
  refine ef_fun ?_
  simp [m__law_mixed, startE, es_seq, mSet, es_bndS, ev_bnd, mOp, mCB, mCons, mNil, k_var, ev_ret, onOk_ok, onOkS_ok, onNx_nx, onNx_ret, k_II, ev_add, D.own, D.isX, fC1, k_look, dr, gInt, k_mv_int, k_st, mRet, es_end, ioGet, hQ]
  exact ⟨⟨by omega, by omega⟩, by decide +kernel, by decide +kernel, by decide +kernel⟩
theorem gIx_lst {cs : List Int} {i : Nat} {c : Int} (h : cs[i]? = some c) : gIx (.lst (cs.map D.int)) (.int (i : Nat)) = some (.int c) := by
  have hl : i < cs.length := (List.getElem?_eq_some_iff.mp h).1
  have e : cs[i] = c := by rw [List.getElem?_eq_getElem hl] at h; exact Option.some.inj h
  simp [gIx, D.seq, atI, ixN, hl, e, D.own]
theorem gLen_fz {cs : List Int} : gLen (.fz (cs.map D.int)) = some (.int (cs.length : Nat)) := by simp [gLen]
theorem gLen_lst {cs : List Int} : gLen (.lst (cs.map D.int)) = some (.int (cs.length : Nat)) := by simp [gLen, D.seq]
def hnd (cs : List Int) (i : Nat) (r t : Int) : D := .ol [.lst (cs.map .int), .int i, .int r, .int t]
def HOk (h : D) : Prop := ∃ cs i r t, h = hnd cs i r t ∧ (∀ c ∈ cs, 0 ≤ c) ∧ cs.length ≤ 16777216 ∧ 0 ≤ r ∧ 0 ≤ t ∧ t < 2147483587
theorem div_ok {m : Int} (m0 : 0 < m) (m1 : m < 1267650600228229401496703205376) : (decide (0 < m) && decide (m.natAbs.log2 < 9000)) = true := by
  have h : m.natAbs.log2 < 100 := by
    rcases Nat.eq_zero_or_pos m.natAbs with z | z
    · rw [z]; decide
    · exact (Nat.log2_lt (by omega)).mpr (by omega)
  simp only [Bool.and_eq_true, decide_eq_true_eq]
  exact ⟨m0, by omega⟩
local macro_rules
  | `(tactic| solve | $a | $b | $c | $d | $e) => `(tactic| (repeat' (first
      | (apply_rules (transparency := .reducible) (symm := false) (exfalso := false) (maxDepth := 1000) only [@b_ok, @b_okS, @b_nx, @b_seq, @b_op, @b_ret, @b_cons, @b_nil, @b_CB, @b_C1, @b_set, @b_tb, @b_bl, @b_if, @b_end, @b_preps, @b_prepF, @b_preps0, @b_call, @b_owns, @b_owns0])
      | (apply_rules (transparency := .reducible) (symm := false) (exfalso := false) (maxDepth := 1000) only [@b_nret, @b_nexc, @b_exc, @b_excS, @b_nbrk, @b_nct, @b_mret, @b_expr, @b_setI, @b_un, @b_C2, @b_tru, @b_and, @b_or, @b_not, @b_notT, @b_andV, @b_orV, @b_blE, @b_ifE, @b_add, @b_neg, @b_aug, @b_prepT, @b_frzs, @b_frzs0, @b_tup, @b_lst, @b_isN, @b_notN, @b_isi, @b_raise, @b_ownS, @b_bnd, @b_iter, @b_fseq, @b_mfor, @b_enum, @b_callK, @b_sl, @b_part, @b_pi])
      | ((with_reducible apply b_var); rfl; (focus (first | rfl | assumption)); (focus (first | rfl | assumption)))
      | ((with_reducible apply b_varO); rfl; (focus (first | rfl | assumption)))
      | ((with_reducible apply b_st); exact Nat.le_of_ble_eq_true rfl)
      | ((with_reducible apply b_mvS); rfl; (focus (first | rfl | assumption)))
      | ((with_reducible apply b_mv); (focus (first | assumption | (intro _ z; cases z; done))))
      | ((with_reducible apply b_frzS); rfl; (focus (first | rfl | assumption)))
      | ((with_reducible apply b_frzG); focus (first | assumption | rfl))
      | ((with_reducible apply b_frz); (focus (first | assumption | (intro _ z; cases z; done))))
      | ((with_reducible apply b_own); (focus (first | assumption | (intro _ z; cases z; done))))
      | ((with_reducible apply b_II); focus (first | rfl | $c))
      | ((with_reducible apply b_look2); (focus (first | rfl | exact dr_gd (by assumption))); (focus (first | rfl | exact dr_gd (by assumption))); focus (first | exact gEqF | exact gNeF | $a | rfl))
      | ((with_reducible apply b_look); (focus (first | rfl | exact dr_gd (by assumption))); focus (first | $a | rfl))
      | ((with_reducible apply b_trv); (focus (first | rfl | exact dr_gd (by assumption))); rfl)
      | ((with_reducible apply b_io); rfl)
      | ((with_reducible apply b_lim); exact Nat.le_of_ble_eq_true rfl)
      | ((with_reducible apply b_setD); rfl)
      | ((with_reducible apply b_setK); rfl; rfl)
      | ((with_reducible apply b_LM); rfl)
      | ((with_reducible apply b_ifT); focus (first | rfl | $b))
      | ((with_reducible apply b_ifF); focus (first | rfl | $b))
      | ((with_reducible apply b_eT); focus (first | rfl | $b))
      | ((with_reducible apply b_eF); focus (first | rfl | $b))
      | ((with_reducible apply b_rng1); focus (first | (simp [okR]; done) | (simp [okR]; omega)))
      | ((with_reducible apply b_rng2); focus (first | (simp [okR]; done) | (simp [okR]; omega)))
      | ((with_reducible apply b_back); focus (first | rfl | exact cb_f rfl rfl))
      | ((with_reducible apply b_seqF); rfl)
      | ((with_reducible apply b_LMr); rfl; focus (refine lApp ?_; first | (simp; done) | (simp; omega) | $e))
      | ((with_reducible apply b_rz); exact ⟨rfl, Nat.le_of_ble_eq_true rfl, Nat.le_of_ble_eq_true rfl⟩)
      | $d
      | fail)))
theorem take_ok {h : D} {m : Int} (hh : HOk h) (m0 : 0 < m) (m1 : m < 1267650600228229401496703205376) : ∃ v h', 0 ≤ v ∧ v < m ∧ HOk h' ∧ ∀ Q : Res D → List D → Prop, Q (.ok (.int v)) [h'] → Ef f__law_take [h, .int m] Q := by
  obtain ⟨cs, i, r, t, rfl, hc, hl, r0, t0, t1⟩ := hh
  by_cases hr : r = 0
  · subst hr
    by_cases hi : i < cs.length
    · have hg : cs[i]? = some cs[i] := List.getElem?_eq_getElem hi
      have c0 : 0 ≤ cs[i] := hc _ (List.getElem_mem hi)
      generalize cs[i] = c at hg c0
      by_cases hb : c < 1000000000000000000
      · obtain ⟨v, v0, hv⟩ := mixed_ok (c % 2147483647) ((i : Int) + 1) (by omega) (by omega) (by omega)
        refine ⟨v % m, hnd cs (i + 1) 0 t, Int.emod_nonneg _ (by omega), Int.emod_lt_of_pos _ m0, ⟨cs, i + 1, 0, t, rfl, hc, hl, by omega, t0, t1⟩, fun Q hQ => ef_fun ?_⟩
        show Es m__law_take [some (hnd cs i 0 t), some (.int m), none, none] _
        unfold m__law_take
        solve | (first | exact gIx_lst hg | exact gLen_lst) | (simp; omega) | (simp; omega) | refine hv _ ?_ | fail
        exact ⟨_, rfl, hQ⟩
      · refine ⟨c % m, hnd cs (i + 1) (c / m) t, Int.emod_nonneg _ (by omega), Int.emod_lt_of_pos _ m0, ⟨cs, i + 1, _, t, rfl, hc, hl, Int.ediv_nonneg c0 (by omega), t0, t1⟩, fun Q hQ => ef_fun ?_⟩
        show Es m__law_take [some (hnd cs i 0 t), some (.int m), none, none] _
        unfold m__law_take
        solve | (first | exact gIx_lst hg | exact gLen_lst) | (simp; omega) | (first | (simp; omega) | exact div_ok m0 m1) | fail | fail
        exact ⟨_, rfl, hQ⟩
    · obtain ⟨v, v0, hv⟩ := mixed_ok ((t + 1) % 2147483587) (i : Int) (by omega) (by omega) (by omega)
      refine ⟨v % m, hnd cs i 0 ((t + 1) % 2147483587), Int.emod_nonneg _ (by omega), Int.emod_lt_of_pos _ m0, ⟨cs, i, 0, _, rfl, hc, hl, by omega, by omega, by omega⟩, fun Q hQ => ef_fun ?_⟩
      show Es m__law_take [some (hnd cs i 0 t), some (.int m), none, none] _
      unfold m__law_take
      solve | exact gLen_lst | (simp; omega) | (simp; omega) | refine hv _ ?_ | fail
      exact ⟨_, rfl, hQ⟩
  · refine ⟨r % m, hnd cs i (r / m) t, Int.emod_nonneg _ (by omega), Int.emod_lt_of_pos _ m0, ⟨cs, i, _, t, rfl, hc, hl, Int.ediv_nonneg r0 (by omega), t0, t1⟩, fun Q hQ => ef_fun ?_⟩
    show Es m__law_take [some (hnd cs i r t), some (.int m), none, none] _
    unfold m__law_take
    solve | exact gLen_lst | (simp; omega) | (first | (simp; omega) | exact div_ok m0 m1) | fail | fail
    exact ⟨_, rfl, hQ⟩
theorem take_k {h : D} {m : Int} {Q : Res D → List D → Prop} (hh : HOk h) (m0 : 0 < m) (m1 : m < 1267650600228229401496703205376) (k : ∀ v h', 0 ≤ v → v < m → HOk h' → Q (.ok (.int v)) [h']) : Ef f__law_take [h, .int m] Q := by
  obtain ⟨v, h', v0, v1, h1, q⟩ := take_ok hh m0 m1
  exact q Q (k v h' v0 v1 h1)
theorem frzs_ints : ∀ xs : List Int, D.frzs (xs.map D.int) = xs.map D.int
  | [] => rfl
  | x :: xs => by simp [D.frzs, D.frz, frzs_ints xs]
theorem hand_k {ns : List Int} (hl : ns.length ≤ 63) {Q : Res D → List D → Prop} (k : ∀ h, HOk h → Q (.ok h) []) : Ef f__law_hand [.fz (ns.map D.int)] Q := by
  refine ef_fun ?_
  show Es m__law_hand [some (.fz (ns.map D.int)), none, none, none] _
  unfold m__law_hand
  solve | exact gLen_fz | (first | (simp; done) | (simp; omega)) | (first | (simp; done) | (simp; omega)) | fail | fail
  refine es_for (fun ds ρ => ∃ (done rest : List Int) (t : Int) (x : Option D), ds = rest.map D.int ∧ ρ = [some (.fz (ns.map D.int)), some (.int t), some (.ol (done.map D.int)), x] ∧ 0 ≤ t ∧ t < 2147483587 ∧ (∀ c ∈ done, 0 ≤ c) ∧ done.length + rest.length ≤ 63) ?_ ?_ _ _ ⟨[], ns, (ns.length : Int) + 53, none, rfl, rfl, by omega, by omega, by simp, by simpa using hl⟩
  · rintro ρ ⟨done, rest, t, x, e, rfl, t0, t1, hc, hl2⟩
    solve | fail | (first | (simp; done) | (simp; omega)) | (first | (simp; done) | (simp; omega)) | fail | fail
    exact ⟨_, rfl, k _ ⟨done, 0, 0, t, by simp [hnd, D.frz, frzs_ints], hc, by omega, by omega, t0, t1⟩⟩
  · rintro d ds ρ ⟨done, rest, t, x, e, rfl, t0, t1, hc, hl2⟩
    cases rest with
    | nil => cases e
    | cons r rest =>
      cases e
      refine ⟨_, rfl, ?_⟩
      simp at hl2
      solve | fail | (first | (simp; done) | (simp; omega)) | (first | (simp; done) | (simp; omega)) | fail | fail
      exact ⟨done ++ [if r < 0 then -r else r], rest, (t * 1021 + r) % 2147483587, some (.int r), rfl, by simp, by omega, by omega, by
        intro c hm
        rcases List.mem_append.mp hm with z | z
        · exact hc c z
        · have z := List.mem_singleton.mp z
          rw [z]
          split <;> omega, by simp; omega⟩
theorem HOk.own {h : D} (hh : HOk h) : h.own = true := by obtain ⟨cs, i, r, t, rfl, _⟩ := hh; rfl
theorem HOk.isX {h : D} (hh : HOk h) : h.isX = false := by obtain ⟨cs, i, r, t, rfl, _⟩ := hh; rfl
theorem HOk.nsl {h : D} (hh : HOk h) : ∀ i, h ≠ .sl i := by obtain ⟨cs, i, r, t, rfl, _⟩ := hh; intro i z; cases z
theorem gIx_any {ds : List D} {v : Int} (h0 : 0 ≤ v) (h1 : v < ds.length) (p : ∀ d ∈ ds, gd d = true) : ∃ d, d ∈ ds ∧ gIx (.lst ds) (.int v) = some d := by
  have hl : v.toNat < ds.length := by omega
  refine ⟨ds[v.toNat], List.getElem_mem hl, ?_⟩
  have e : ixN ds.length v = some v.toNat := by unfold ixN; rw [if_pos h0, if_pos h1]
  have o := gd_own (p _ (List.getElem_mem hl))
  simp [gIx, D.seq, atI, e, o, hl]
theorem gLen_l {ds : List D} : gLen (.lst ds) = some (.int (ds.length : Nat)) := by simp [gLen, D.seq]
theorem gLen_t {ds : List D} : gLen (.tup ds) = some (.int (ds.length : Nat)) := by simp [gLen, D.seq]
theorem plain_gd : ∀ {ds : List D}, (∀ d ∈ ds, gd d = true) → plain ds = true := fun {ds} g => by
  unfold SV.plain
  exact List.all_eq_true.mpr fun d hd => by rw [gd_own (g d hd)]; rfl
theorem tupOf_l {ds : List D} {ρ : SV.Env} {QD : Res D → SV.Env → Prop} (g : ∀ d ∈ ds, gd d = true) (q : QD (.ok (.tup ds)) ρ) : Ev (fTupOf (.lst ds)) ρ QD := by
  refine ⟨_, _, ?_, q⟩
  unfold fTupOf bnd fItems
  simp [dr, D.seq, plain_gd g, SV.ret]
theorem tupOf_t {ds : List D} {ρ : SV.Env} {QD : Res D → SV.Env → Prop} (g : ∀ d ∈ ds, gd d = true) (q : QD (.ok (.tup ds)) ρ) : Ev (fTupOf (.tup ds)) ρ QD := by
  refine ⟨_, _, ?_, q⟩
  unfold fTupOf bnd fItems
  simp [dr, D.seq, plain_gd g, SV.ret]
theorem gd_ints (xs : List Int) : ∀ d ∈ xs.map D.int, gd d = true := fun d hd => by
  obtain ⟨x, _, rfl⟩ := List.mem_map.mp hd
  rfl
theorem cut_t {ds : List D} {lo hi : Option Int} {ρ : SV.Env} {QD : Res D → SV.Env → Prop} (g : ∀ d ∈ ds, gd d = true) (q : QD (.ok (.tup (SV.cut ds lo hi))) ρ) : Ev (fCut (.tup ds) lo hi) ρ QD := by
  refine ⟨_, _, ?_, q⟩
  unfold fCut bnd fItems
  simp [dr, D.seq, plain_gd g, SV.ret]
theorem upTo_succ (lo : Int) (n : Nat) : SV.upTo lo (n + 1) = .int lo :: SV.upTo (lo + 1) n := by
  unfold SV.upTo
  rw [List.range_succ_eq_map]
  simp only [List.map_cons, List.map_map, Int.ofNat_zero]
  congr 1
  · simp
  · apply List.map_congr_left
    intro a _
    simp only [Function.comp]
    congr 1
    omega
theorem frzs_gd : ∀ {ds : List D}, (∀ d ∈ ds, gd d = true) → D.frzs ds = ds
  | [], _ => rfl
  | d :: ds, g => by
    simp only [D.frzs]
    rw [gd_frz (g d (by simp)), frzs_gd fun x hx => g x (by simp [hx])]
theorem cut_take {ds : List D} (n : Nat) : SV.cut ds none (some (n : Int)) = ds.take n := by
  unfold SV.cut
  rw [HT.sIx_nat, HT.sIx_none]
  rcases Nat.le_total n ds.length with h | h
  · rw [Nat.min_eq_left h]; simp
  · rw [Nat.min_eq_right h]; simp [List.take_of_length_le h]
theorem add_ff {A B : List D} {ρ : SV.Env} {QD : Res D → SV.Env → Prop} (ga : ∀ d ∈ A, gd d = true) (gb : ∀ d ∈ B, gd d = true) (hl : A.length + B.length ≤ 16777216) (q : QD (.ok (.ol (A ++ B))) ρ) : Ev (fAddA (.ol A) (.ol B)) ρ QD := by
  refine ⟨_, _, ?_, q⟩
  simp [fAddA, fLs, bnd, SV.ret, frzs_gd ga, frzs_gd gb, hl]
theorem add_sf {A B : List D} {i : Nat} {ρ : SV.Env} {QD : Res D → SV.Env → Prop} (h : ρ[i]? = some (some (.ol A))) (ga : ∀ d ∈ A, gd d = true) (gb : ∀ d ∈ B, gd d = true) (hl : A.length + B.length ≤ 16777216) (q : QD (.ok (.ol (A ++ B))) ρ) : Ev (fAddA (.sl i) (.ol B)) ρ QD := by
  refine ⟨_, _, ?_, q⟩
  simp [fAddA, fLs, bnd, SV.ret, dr, h, D.isX, frzs_gd gb, plain_gd ga, hl]
theorem gLen_o {ds : List D} : gLen (.ol ds) = some (.int (ds.length : Nat)) := by simp [gLen, D.seq]
theorem tupOf_g {ds : List D} {ρ : SV.Env} {QD : Res D → SV.Env → Prop} (g : ∀ d ∈ ds, gd d = true) (q : QD (.ok (.tup ds)) ρ) : Ev (fTupOf (.ol ds)) ρ QD := by
  refine ⟨_, _, ?_, q⟩
  unfold fTupOf bnd fItems
  simp [SV.ret, frzs_gd g]
theorem tupOf_s {ds : List D} {ρ : SV.Env} {QD : Res D → SV.Env → Prop} {i : Nat} (h : ρ[i]? = some (some (.ol ds))) (g : ∀ d ∈ ds, gd d = true) (q : QD (.ok (.tup ds)) ρ) : Ev (fTupOf (.sl i)) ρ QD := by
  refine ⟨_, _, ?_, q⟩
  unfold fTupOf bnd fItems
  simp [dr, h, D.isX, D.seq, plain_gd g, SV.ret]
theorem lstOf_s {ds : List D} {ρ : SV.Env} {QD : Res D → SV.Env → Prop} {i : Nat} (h : ρ[i]? = some (some (.ol ds))) (g : ∀ d ∈ ds, gd d = true) (q : QD (.ok (.ol ds)) ρ) : Ev (fLstOf (.sl i)) ρ QD := by
  refine ⟨_, _, ?_, q⟩
  unfold fLstOf bnd fItems
  simp [dr, h, D.isX, D.seq, plain_gd g, SV.ret]
theorem ixN_ok {n : Nat} {m : Int} (h0 : 0 ≤ m) (h1 : m < n) : ixN n m = some m.toNat := by unfold ixN; rw [if_pos h0, if_pos h1]
theorem pys_ints : ∀ xs : List Int, D.pys (xs.map D.int) = some (xs.map PyData.int)
  | [] => rfl
  | x :: xs => by simp [D.pys, D.py, pys_ints xs]
theorem lay_ints : ∀ xs : List Int, PyData.canLayAll0 (xs.map PyData.int) = true ∧ PyData.depthAll (xs.map PyData.int) = 0
  | [] => ⟨rfl, rfl⟩
  | x :: xs => by
    obtain ⟨h1, h2⟩ := lay_ints xs
    constructor
    · simp [PyData.canLayAll0, PyData.canLay0, h1]
    · simp [PyData.depthAll, PyData.depth, h2]
theorem eqv_ints : ∀ xs ys : List Int, PyData.eqvAll (xs.map PyData.int) (ys.map PyData.int) = decide (xs = ys)
  | [], [] => by simp [PyData.eqvAll]
  | [], y :: ys => by simp [PyData.eqvAll]
  | x :: xs, [] => by simp [PyData.eqvAll]
  | x :: xs, y :: ys => by
    simp only [List.map_cons, PyData.eqvAll, PyData.eqv, eqv_ints xs ys]
    by_cases h : x = y <;> by_cases h2 : xs = ys <;> simp [h, h2]
theorem gEq_tt {neg : Bool} {xs ys : List Int} : gEq neg (.tup (xs.map D.int)) (.tup (ys.map D.int)) = some (.bl (if neg = true then !decide (xs = ys) else decide (xs = ys))) := by
  have a := lay_ints xs
  have b := lay_ints ys
  simp [gEq, D.py, pys_ints, SeqAt.shaped, PyData.canLay0, PyData.depth, a, b, PyData.eqv, eqv_ints]
theorem es_suite {i : Nat} {c : Str} {fs : List (Str × D)} {ms : SM} {ρ : SV.Env} {QS : Fl → SV.Env → Prop} (n : noX ρ = true) (hl : i < ρ.length) (h : Es ms (ρ.set i (some (.xc c (fs.map (·.1)) (fs.map (·.2))))) fun fl ρ1 => (noX (ρ1.set i none) = true ∧ fl.isExc = false) ∧ QS fl (ρ1.set i none)) : Es (suiteS (some i) c fs ms) ρ QS := by
  obtain ⟨fl, ρ1, e, h2, q⟩ := h
  refine ⟨fl, _, ?_, q⟩
  unfold suiteS
  rw [if_pos n]
  simp only
  rw [if_pos hl, e]
  simp only
  rw [if_pos h2]
theorem es_hdT {sub : Str → Str → Option Bool} {c c2 : Str} {fs : List (Str × D)} {oi : Option Nat} {ms : SM} {r : List (Str × Option Nat × SM)} {ρ : SV.Env} {QS : Fl → SV.Env → Prop} (e : sub c c2 = some true) (h : Es (suiteS oi c fs ms) ρ QS) : Es (hdGo sub c fs ((c2, oi, ms) :: r)) ρ QS := by
  obtain ⟨fl, ρ1, e1, q⟩ := h
  exact ⟨fl, ρ1, by unfold hdGo; simp only [e]; exact e1, q⟩
theorem es_hdF {sub : Str → Str → Option Bool} {c c2 : Str} {fs : List (Str × D)} {oi : Option Nat} {ms : SM} {r : List (Str × Option Nat × SM)} {ρ : SV.Env} {QS : Fl → SV.Env → Prop} (e : sub c c2 = some false) (h : Es (hdGo sub c fs r) ρ QS) : Es (hdGo sub c fs ((c2, oi, ms) :: r)) ρ QS := by
  obtain ⟨fl, ρ1, e1, q⟩ := h
  exact ⟨fl, ρ1, by unfold hdGo; simp only [e]; exact e1, q⟩
theorem b_xf {ok : List Str} {i : Nat} {f c : Str} {ns : List Str} {xs : List D} {d : D} {ρ : SV.Env} {QD : Res D → SV.Env → Prop} (h : ρ[i]? = some (some (.xc c ns xs))) (hc : c ∈ ok) (hl : (ns.zip xs).lookup f = some d) (q : QD (.ok d) ρ) : Ev (mXf ok i f) ρ QD := by
  refine ⟨_, _, ?_, q⟩
  unfold mXf
  rw [h]
  simp only
  rw [if_pos hc]
  simp only [hl]
end LAWP
end
section
set_option Elab.async false
set_option linter.all false
set_option autoImplicit false
set_option maxRecDepth 100000
set_option maxHeartbeats 0
set_option pp.maxSteps 400
namespace LAWP
open PySem PySem.Spec L2 SV LAWM
/-! ### texts of lawful signs -/
theorem sk_app {a b : Str} (h1 : PyData.strOk a = true) (h2 : PyData.strOk b = true) : PyData.strOk (a ++ b) = true := by
  unfold PyData.strOk at *
  rw [show (a ++ b).cps = a.cps ++ b.cps from rfl, Array.all_append, h1, h2]
  rfl
theorem sk_of (s : String) : PyData.strOk (Str.ofString s) = true := by
  unfold PyData.strOk
  rw [Str.ofString_eq_toList]
  simp only [List.all_toArray, List.all_map, List.all_eq_true, Function.comp]
  intro c _
  have h := c.valid
  simp only [decide_eq_true_eq]
  show c.val.toNat < 0x110000
  rcases h with h | ⟨_, h⟩
  · exact Nat.lt_trans h (by decide)
  · exact h
theorem sk_from : ∀ {ts : List Str} {k : Nat} {acc : Str}, (∀ t ∈ ts, PyData.strOk t = true) → PyData.strOk acc = true → PyData.strOk (textFrom k acc ts) = true
  | [], _, _, _, h => h
  | t :: ts, k, acc, ht, h => by
    unfold textFrom
    exact sk_from (fun x hx => ht x (by simp [hx])) (sk_app (sk_app h (sk_of _)) (ht t (by simp)))
theorem sk_join : ∀ {ts : List Str} {sep : Str}, (∀ t ∈ ts, PyData.strOk t = true) → PyData.strOk sep = true → PyData.strOk (Str.join sep ts) = true
  | [], _, _, _ => by show PyData.strOk Str.empty = true; decide +kernel
  | [x], _, ht, _ => ht x (by simp)
  | x :: y :: r, sep, ht, h => by
    show PyData.strOk (x ++ sep ++ Str.join sep (y :: r)) = true
    exact sk_app (sk_app (ht x (by simp)) h) (sk_join (fun z hz => ht z (by simp [hz])) h)
theorem sk_list {ts : List Str} (h : ∀ t ∈ ts, PyData.strOk t = true) : PyData.strOk (listText ts) = true := sk_app (sk_from h (sk_of _)) (sk_of _)
theorem sk_tup {ts : List Str} (h : ∀ t ∈ ts, PyData.strOk t = true) : PyData.strOk (tupleText ts) = true := sk_app (sk_app (sk_of _) (sk_join h (sk_of _))) (sk_of _)
/-! ### things that are compared and shown -/
def strP (x : Str) : Bool := PyData.strOk x && (PyData.strOk (reprText x) && (x.cps.toList.all (fun c => decide (c < 16 ^ 8)) && decide (x.cps.size ≤ 20)))
mutual
def pk : D → Bool
  | .non => true
  | .bl _ => true
  | .int i => decide (i.natAbs < 10 ^ 22)
  | .str x => strP x
  | .tup xs => pks xs
  | .lst xs => pks xs
  | .ol xs => pks xs
  | _ => false
def pks : List D → Bool
  | [] => true
  | x :: xs => pk x && pks xs
end
mutual
def dpt : D → Nat
  | .tup xs => dpts xs + 1
  | .lst xs => dpts xs + 1
  | .ol xs => dpts xs + 1
  | _ => 0
def dpts : List D → Nat
  | [] => 0
  | x :: xs => max (dpt x) (dpts xs)
end
mutual
def siz : D → Nat
  | .int _ => 75
  | .str _ => 20
  | .tup xs => sizs xs
  | .lst xs => sizs xs
  | .ol xs => sizs xs
  | _ => 0
def sizs : List D → Nat
  | [] => 0
  | x :: xs => siz x + 1 + sizs xs
end
structure Pk (d : D) (p : PyData) : Prop where
  py : d.py = some p
  lay : p.canLay0 = true
  dp : p.depth = dpt d
  eq : PyData.eqv p p = true
  sh : p.showable = true
  lv : p.leavesShort 24 = true
  wt : p.weight ≤ siz d
  sk : PyData.strOk p.shown = true
structure Pks (ds : List D) (ps : List PyData) : Prop where
  py : D.pys ds = some ps
  lay : PyData.canLayAll0 ps = true
  dp : PyData.depthAll ps = dpts ds
  eq : PyData.eqvAll ps ps = true
  sh : PyData.showableAll ps = true
  lv : PyData.leavesShortAll 24 ps = true
  wt : PyData.weightAll ps ≤ sizs ds
  sk : ∀ t ∈ PyData.shownAll ps, PyData.strOk t = true
theorem Pks.tup {ds : List D} {ps : List PyData} (h : Pks ds ps) : Pk (.tup ds) (.tuple ps) := ⟨by simp [D.py, h.py], by simpa [PyData.canLay0] using h.lay, by simp [PyData.depth, dpt, h.dp], by simpa [PyData.eqv] using h.eq, by simpa [PyData.showable] using h.sh, by simpa [PyData.leavesShort] using h.lv, by simpa [PyData.weight, siz] using h.wt, by simpa [PyData.shown] using sk_tup h.sk⟩
theorem Pks.lst {ds : List D} {ps : List PyData} (h : Pks ds ps) : Pk (.lst ds) (.list ps) := ⟨by simp [D.py, h.py], by simpa [PyData.canLay0] using h.lay, by simp [PyData.depth, dpt, h.dp], by simpa [PyData.eqv] using h.eq, by simpa [PyData.showable] using h.sh, by simpa [PyData.leavesShort] using h.lv, by simpa [PyData.weight, siz] using h.wt, by simpa [PyData.shown] using sk_list h.sk⟩
theorem Pks.ol {ds : List D} {ps : List PyData} (h : Pks ds ps) : Pk (.ol ds) (.list ps) := ⟨by simp [D.py, h.py], by simpa [PyData.canLay0] using h.lay, by simp [PyData.depth, dpt, h.dp], by simpa [PyData.eqv] using h.eq, by simpa [PyData.showable] using h.sh, by simpa [PyData.leavesShort] using h.lv, by simpa [PyData.weight, siz] using h.wt, by simpa [PyData.shown] using sk_list h.sk⟩
theorem int_short {i : Int} (h : i.natAbs < 10 ^ 22) : (PyData.shown (.int i)).length ≤ 24 := by
  have e := int_text_length_le10 (k := 22) (by decide) h
  show (Str.ofString (toString i)).length ≤ 24
  rw [ofString_length]
  omega
theorem pk_int {i : Int} (h : i.natAbs < 10 ^ 22) : Pk (.int i) (.int i) := by
  have h2 : i.natAbs.log2 < 74 := by
    rcases Nat.eq_zero_or_pos i.natAbs with z | z
    · rw [z]; decide
    · exact (Nat.log2_lt (by omega)).mpr (Nat.lt_of_lt_of_le h (by decide))
  refine ⟨rfl, rfl, rfl, by simp [PyData.eqv], by simp [PyData.showable]; omega, by simp only [PyData.leavesShort, decide_eq_true_eq]; exact int_short h, ?_, ?_⟩
  · simp only [PyData.weight, siz]
    split <;> omega
  · simp only [PyData.shown]; exact sk_of _
mutual
theorem pk_ok : ∀ (d : D), pk d = true → ∃ p, Pk d p
  | .non, _ => ⟨.none, rfl, rfl, rfl, rfl, rfl, rfl, Nat.le_refl _, by decide +kernel⟩
  | .bl b, _ => ⟨.bool b, rfl, rfl, rfl, by cases b <;> rfl, rfl, rfl, Nat.le_refl _, by cases b <;> decide +kernel⟩
  | .int i, h => ⟨.int i, pk_int (by simpa [pk] using h)⟩
  | .str x, h => by
    have h : strP x = true := h
    unfold strP at h
    obtain ⟨h1, h⟩ := Bool.and_eq_true_iff.mp h
    obtain ⟨h2, h⟩ := Bool.and_eq_true_iff.mp h
    obtain ⟨h3, h4⟩ := Bool.and_eq_true_iff.mp h
    exact ⟨.str x, rfl, by simpa [PyData.canLay0] using h1, rfl, by simp [PyData.eqv], rfl, by simpa [PyData.leavesShort] using h3, by simpa [PyData.weight, siz] using h4, by simpa [PyData.shown] using h2⟩
  | .tup xs, h => let ⟨ps, q⟩ := pks_ok xs h; ⟨_, q.tup⟩
  | .lst xs, h => let ⟨ps, q⟩ := pks_ok xs h; ⟨_, q.lst⟩
  | .ol xs, h => let ⟨ps, q⟩ := pks_ok xs h; ⟨_, q.ol⟩
  | .fz _, h => by simp [pk] at h
  | .dk _ _, h => by simp [pk] at h
  | .dt _ _, h => by simp [pk] at h
  | .ins _ _ _, h => by simp [pk] at h
  | .od _ _, h => by simp [pk] at h
  | .ot _ _, h => by simp [pk] at h
  | .oi _ _ _, h => by simp [pk] at h
  | .sl _, h => by simp [pk] at h
  | .xc _ _ _, h => by simp [pk] at h
  | .rg _ _, h => by simp [pk] at h
theorem pks_ok : ∀ (ds : List D), pks ds = true → ∃ ps, Pks ds ps
  | [], _ => ⟨[], rfl, rfl, rfl, rfl, rfl, rfl, Nat.le_refl _, fun t ht => by simp [PyData.shownAll] at ht⟩
  | d :: ds, h => by
    obtain ⟨h1, h2⟩ := Bool.and_eq_true_iff.mp (show (pk d && pks ds) = true from h)
    obtain ⟨p, a⟩ := pk_ok d h1
    obtain ⟨ps, b⟩ := pks_ok ds h2
    refine ⟨p :: ps, by simp [D.pys, a.py, b.py], by simp [PyData.canLayAll0, a.lay, b.lay], by simp [PyData.depthAll, dpts, a.dp, b.dp], by simp [PyData.eqvAll, a.eq, b.eq], by simp [PyData.showableAll, a.sh, b.sh], by simp [PyData.leavesShortAll, a.lv, b.lv], ?_, ?_⟩
    · have := a.wt
      have := b.wt
      simp only [PyData.weightAll, sizs]
      omega
    · intro t ht
      simp only [PyData.shownAll, List.mem_cons] at ht
      rcases ht with rfl | ht
      · exact a.sk
      · exact b.sk t ht
end
mutual
theorem py_frz : ∀ d : D, d.frz.py = d.py
  | .ol ds => by simp only [D.frz, D.py, pys_frzs ds]
  | .od _ _ => rfl
  | .ot _ _ => rfl
  | .oi _ _ _ => rfl
  | .non => rfl
  | .bl _ => rfl
  | .int _ => rfl
  | .str _ => rfl
  | .tup _ => rfl
  | .lst _ => rfl
  | .fz _ => rfl
  | .dk _ _ => rfl
  | .dt _ _ => rfl
  | .ins _ _ _ => rfl
  | .sl _ => rfl
  | .xc _ _ _ => rfl
  | .rg _ _ => rfl
  | .xv _ _ _ => rfl
  | .xw _ => rfl
theorem pys_frzs : ∀ ds : List D, D.pys (D.frzs ds) = D.pys ds
  | [] => rfl
  | d :: ds => by simp only [D.frzs, D.pys, py_frz d, pys_frzs ds]
end
/-- what is the same for == -/
theorem gEq_self {neg : Bool} {d e : D} (h : pk d = true) (hd : dpt d ≤ 64) (he : e.py = d.py) : gEq neg d e = some (.bl (!neg)) := by
  obtain ⟨p, a⟩ := pk_ok d h
  have s : SeqAt.shaped p = true := by unfold SeqAt.shaped; rw [a.lay, a.dp]; simp [hd]
  unfold gEq
  rw [he, a.py]
  simp only [s, and_self, if_true, a.eq]
  cases neg <;> rfl
end LAWP
end
section
set_option Elab.async false
set_option linter.all false
set_option autoImplicit false
set_option maxRecDepth 100000
set_option maxHeartbeats 0
set_option pp.maxSteps 400
namespace LAWP
open PySem PySem.Spec L2 SV LAWM
theorem lstOf_l {ds : List D} {ρ : SV.Env} {QD : Res D → SV.Env → Prop} (g : ∀ d ∈ ds, gd d = true) (q : QD (.ok (.ol ds)) ρ) : Ev (fLstOf (.lst ds)) ρ QD := by
  refine ⟨_, _, ?_, q⟩
  unfold fLstOf bnd fItems
  simp [dr, D.seq, plain_gd g, SV.ret]
theorem cut_l {ds : List D} {lo hi : Option Int} {ρ : SV.Env} {QD : Res D → SV.Env → Prop} (g : ∀ d ∈ ds, gd d = true) (q : QD (.ok (.ol (SV.cut ds lo hi))) ρ) : Ev (fCut (.lst ds) lo hi) ρ QD := by
  refine ⟨_, _, ?_, q⟩
  unfold fCut bnd fItems
  simp [dr, D.seq, plain_gd g, SV.ret]
theorem add_lf {A B : List D} {ρ : SV.Env} {QD : Res D → SV.Env → Prop} (ga : ∀ d ∈ A, gd d = true) (gb : ∀ d ∈ B, gd d = true) (hl : A.length + B.length ≤ 16777216) (q : QD (.ok (.ol (A ++ B))) ρ) : Ev (fAddA (.lst A) (.ol B)) ρ QD := by
  refine ⟨_, _, ?_, q⟩
  simp [fAddA, fLs, bnd, SV.ret, dr, frzs_gd gb, hl]
theorem b_chain {f g : D → D → M D} {ma mb mc : M D} {ρ : SV.Env} {QD : Res D → SV.Env → Prop} (h : Ev ma ρ (onOk QD fun x ρ1 => Ev mb ρ1 (onOk QD fun y ρ2 => Ev (f x y) ρ2 (onOk QD fun k ρ3 => ∃ b, k = .bl b ∧ Ev (if b = true then (if y.sv.isSome = true then bnd mc fun z => g y z else stuck) else SV.ret (.bl false)) ρ3 QD)))) : Ev (mChain f g ma mb mc) ρ QD := by
  unfold mChain
  rw [ev_bnd]
  refine h.imp fun r ρ1 q => ?_
  cases r with
  | exc c fs => exact q
  | ok x =>
    rw [onOk_ok] at *
    rw [ev_bnd]
    refine q.imp fun r ρ2 q => ?_
    cases r with
    | exc c fs => exact q
    | ok y =>
      rw [onOk_ok] at *
      rw [ev_bnd]
      refine q.imp fun r ρ3 q => ?_
      cases r with
      | exc c fs => exact q
      | ok k =>
        obtain ⟨b, rfl, q⟩ := q
        exact q
def fD : Option Int → D
  | none => .non
  | some i => .int i
def whB (lo hi : Option Int) : D → Bool
  | .int i => (match lo with
    | some l => decide (l ≤ i)
    | none => true) && (match hi with
    | some l => decide (i ≤ l)
    | none => true)
  | _ => false
def whole (d : D) : Bool := whB (some 0) (some 99) d
local macro_rules
  | `(tactic| solve | $a | $b | $c | $d | $e) => `(tactic| (repeat' (first
      | (apply_rules (transparency := .reducible) (symm := false) (exfalso := false) (maxDepth := 1000) only [@b_ok, @b_okS, @b_nx, @b_seq, @b_op, @b_ret, @b_cons, @b_nil, @b_CB, @b_C1, @b_set, @b_tb, @b_bl, @b_if, @b_end, @b_preps, @b_prepF, @b_preps0, @b_call, @b_owns, @b_owns0])
      | (apply_rules (transparency := .reducible) (symm := false) (exfalso := false) (maxDepth := 1000) only [@b_nret, @b_nexc, @b_exc, @b_excS, @b_nbrk, @b_nct, @b_mret, @b_expr, @b_setI, @b_un, @b_C2, @b_tru, @b_and, @b_or, @b_not, @b_notT, @b_andV, @b_orV, @b_blE, @b_ifE, @b_add, @b_neg, @b_aug, @b_prepT, @b_frzs, @b_frzs0, @b_tup, @b_lst, @b_isN, @b_notN, @b_isi, @b_raise, @b_ownS, @b_bnd, @b_iter, @b_fseq, @b_mfor, @b_enum, @b_callK, @b_sl, @b_part, @b_pi])
      | ((with_reducible apply b_var); rfl; (focus (first | rfl | assumption)); (focus (first | rfl | assumption)))
      | ((with_reducible apply b_varO); rfl; (focus (first | rfl | assumption)))
      | ((with_reducible apply b_st); exact Nat.le_of_ble_eq_true rfl)
      | ((with_reducible apply b_mvS); rfl; (focus (first | rfl | assumption)))
      | ((with_reducible apply b_mv); (focus (first | assumption | (intro _ z; cases z; done))))
      | ((with_reducible apply b_frzS); rfl; (focus (first | rfl | assumption)))
      | ((with_reducible apply b_frzG); focus (first | assumption | rfl))
      | ((with_reducible apply b_frz); (focus (first | assumption | (intro _ z; cases z; done))))
      | ((with_reducible apply b_own); (focus (first | assumption | (intro _ z; cases z; done))))
      | ((with_reducible apply b_II); focus (first | rfl | $c))
      | ((with_reducible apply b_look2); (focus (first | rfl | exact dr_gd (by assumption))); (focus (first | rfl | exact dr_gd (by assumption))); focus (first | exact gEqF | exact gNeF | $a | rfl))
      | ((with_reducible apply b_look); (focus (first | rfl | exact dr_gd (by assumption))); focus (first | $a | rfl))
      | ((with_reducible apply b_trv); (focus (first | rfl | exact dr_gd (by assumption))); rfl)
      | ((with_reducible apply b_io); rfl)
      | ((with_reducible apply b_lim); exact Nat.le_of_ble_eq_true rfl)
      | ((with_reducible apply b_setD); rfl)
      | ((with_reducible apply b_setK); rfl; rfl)
      | ((with_reducible apply b_LM); rfl)
      | ((with_reducible apply b_ifT); focus (first | rfl | $b))
      | ((with_reducible apply b_ifF); focus (first | rfl | $b))
      | ((with_reducible apply b_eT); focus (first | rfl | $b))
      | ((with_reducible apply b_eF); focus (first | rfl | $b))
      | ((with_reducible apply b_rng1); focus (first | (simp [okR]; done) | (simp [okR]; omega)))
      | ((with_reducible apply b_rng2); focus (first | (simp [okR]; done) | (simp [okR]; omega)))
      | ((with_reducible apply b_back); focus (first | rfl | exact cb_f rfl rfl))
      | ((with_reducible apply b_seqF); rfl)
      | ((with_reducible apply b_LMr); rfl; focus (refine lApp ?_; first | (simp; done) | (simp; omega) | $e))
      | ((with_reducible apply b_rz); exact ⟨rfl, Nat.le_of_ble_eq_true rfl, Nat.le_of_ble_eq_true rfl⟩)
      | $d
      | fail)))
theorem whole_g {d : D} {lo hi : Option Int} {Q : Res D → List D → Prop} (hd : gd d = true) (k : Q (.ok (.bl (whB lo hi d))) []) : Ef f_is_whole [d, fD lo, fD hi] Q := by
  refine ef_fun ?_
  show Es m_is_whole [some d, some (fD lo), some (fD hi)] _
  unfold m_is_whole
  have o := gd_own hd
  have ox := gd_isX hd
  have lg : gd (fD lo) = true := by cases lo <;> rfl
  have lw := gd_own lg
  have lx := gd_isX lg
  have hg : gd (fD hi) = true := by cases hi <;> rfl
  have hw := gd_own hg
  have hx := gd_isX hg
  cases d with
  | int i =>
    cases lo with
    | none =>
      cases hi with
      | none =>
        show Es _ [some (D.int i), some D.non, some D.non] _
        solve | fail | (first | (simp; done) | (simp; omega)) | (first | (simp; done) | (simp; omega)) | fail | fail
        exact ⟨_, rfl, k⟩
      | some b =>
        show Es _ [some (D.int i), some D.non, some (D.int b)] _
        solve | fail | (first | (simp; done) | (simp; omega)) | (first | (simp; done) | (simp; omega)) | fail | fail
        exact ⟨_, rfl, by simpa [whB] using k⟩
    | some a =>
      by_cases ha : i < a
      · have e : whB (some a) hi (.int i) = false := by simp [whB]; intro; omega
        rw [e] at k
        show Es _ [some (D.int i), some (D.int a), some (fD hi)] _
        solve | fail | (first | (simp; done) | (simp; omega)) | (first | (simp; done) | (simp; omega)) | fail | fail
        exact ⟨_, rfl, k⟩
      · have ha2 : a ≤ i := by omega
        cases hi with
        | none =>
          show Es _ [some (D.int i), some (D.int a), some D.non] _
          solve | fail | (first | (simp; done) | (simp; omega)) | (first | (simp; done) | (simp; omega)) | fail | fail
          exact ⟨_, rfl, by simpa [whB, ha2] using k⟩
        | some b =>
          show Es _ [some (D.int i), some (D.int a), some (D.int b)] _
          solve | fail | (first | (simp; done) | (simp; omega)) | (first | (simp; done) | (simp; omega)) | fail | fail
          exact ⟨_, rfl, by simpa [whB, ha2] using k⟩
  | ol xs => cases hd
  | fz xs => cases hd
  | od ks xs => cases hd
  | dt ks xs => cases hd
  | ot ks xs => cases hd
  | oi c ns xs => cases hd
  | ins c ns xs => cases hd
  | sl i => cases hd
  | xc c ns xs => cases hd
  | xv c ns xs => cases hd
  | xw c => cases hd
  | rg a b => cases hd
  | _ =>
    solve | fail | (first | (simp; done) | (simp; omega)) | (first | (simp; done) | (simp; omega)) | fail | fail
    exact ⟨_, rfl, k⟩
theorem whole_k {d : D} {Q : Res D → List D → Prop} (hd : gd d = true) (k : Q (.ok (.bl (whole d))) []) : Ef f_is_whole [d, .int 0, .int 99] Q := whole_g (lo := some 0) (hi := some 99) hd k
def bad : List D → Nat → Option Nat
  | [], _ => none
  | d :: ds, i => if whole d = true then bad ds (i + 1) else some i
def itemsOf : D → Option (List D)
  | .lst ds => some ds
  | .tup ds => some ds
  | _ => none
def Th (s : D) : Prop := gd s = true ∧ ∀ ds, itemsOf s = some ds → ∀ d ∈ ds, gd d = true
theorem gIx_lat {ds : List D} {i : Nat} {d : D} (h : ds[i]? = some d) (g : gd d = true) : gIx (.lst ds) (.int (i : Nat)) = some d := by
  have hl : i < ds.length := (List.getElem?_eq_some_iff.mp h).1
  have e : ds[i] = d := by rw [List.getElem?_eq_getElem hl] at h; exact Option.some.inj h
  simp [gIx, D.seq, atI, ixN, hl, e, gd_own g]
def Rw (xs : List Int) : Prop := ∀ x ∈ xs, 0 ≤ x ∧ x < 100
theorem Rw.app {xs : List Int} {v : Int} (r : Rw xs) (h0 : 0 ≤ v) (h1 : v < 100) : Rw (xs ++ [v]) := fun x hx => by
  rcases List.mem_append.mp hx with z | z
  · exact r x z
  · rw [List.mem_singleton.mp z]; exact ⟨h0, h1⟩
theorem bad_none : ∀ {ds : List D} {i : Nat}, bad ds i = none → ∃ xs : List Int, ds = xs.map D.int ∧ Rw xs
  | [], _, _ => ⟨[], rfl, fun x hx => by simp at hx⟩
  | d :: ds, i, h => by
    unfold bad at h
    split at h
    · rename_i hw
      obtain ⟨xs, rfl, r⟩ := bad_none h
      cases d with
      | int x =>
        have hx : 0 ≤ x ∧ x ≤ 99 := by simpa [whole, whB] using hw
        exact ⟨x :: xs, rfl, fun y hy => by
          rcases List.mem_cons.mp hy with z | z
          · rw [z]; omega
          · exact r y z⟩
      | _ => cases hw
    · cases h
theorem bad_ok : ∀ {xs : List Int} {i : Nat}, Rw xs → bad (xs.map D.int) i = none
  | [], _, _ => rfl
  | x :: xs, i, r => by
    have hx := r x (by simp)
    have hw : whole (.int x) = true := by simp [whole, whB]; omega
    simp only [List.map_cons, bad, hw, if_true]
    exact bad_ok fun y hy => r y (by simp [hy])
end LAWP
end
section
set_option Elab.async false
set_option linter.all false
set_option autoImplicit false
set_option maxRecDepth 100000
set_option maxHeartbeats 0
set_option pp.maxSteps 400
namespace LAWP
open PySem PySem.Spec L2 SV LAWM
/-! ### the picture as a thing; which cells and marks there are -/
def pic (cs : List Int) (ts : List (Int × Int)) (ms : List Int) : D := .ins "Picture" ["colours", "ties", "marks"] [.tup (cs.map .int), .tup (ts.map tupP), .tup (ms.map .int)]
theorem fld_c {cs ms : List Int} {ts : List (Int × Int)} : gFld [("Picture", "colours")] "colours" (pic cs ts ms) = some (.tup (cs.map .int)) := by
  unfold gFld pic
  simp only
  rw [if_pos (List.mem_singleton.mpr rfl)]
  rfl
theorem fld_t {cs ms : List Int} {ts : List (Int × Int)} : gFld [("Picture", "ties")] "ties" (pic cs ts ms) = some (.tup (ts.map tupP)) := by
  unfold gFld pic
  simp only
  rw [if_pos (List.mem_singleton.mpr rfl)]
  rfl
theorem fld_m {cs ms : List Int} {ts : List (Int × Int)} : gFld [("Picture", "marks")] "marks" (pic cs ts ms) = some (.tup (ms.map .int)) := by
  unfold gFld pic
  simp only
  rw [if_pos (List.mem_singleton.mpr rfl)]
  rfl
end LAWP
end
section
set_option Elab.async false
set_option linter.all false
set_option autoImplicit false
set_option maxRecDepth 100000
set_option maxHeartbeats 0
set_option pp.maxSteps 400
namespace LAWP
open PySem PySem.Spec L2 SV LAWM
theorem b_fko {i : Nat} {f : D → SV.Env → Option SV.Env} {body : SM} {xs : List D} {ρ : SV.Env} {QS : Fl → SV.Env → Prop} (h0 : ρ[i]? = some (some (.ol xs))) (pl : plain xs = true) (h : Es (forL f body (enumF 0 xs)) (ρ.set i none) fun fl ρ2 => QS fl (ρ2.set i (some (.ol xs)))) : Es (mForEK i f body) ρ QS := by
  obtain ⟨fl, ρ2, e, q⟩ := h
  exact ⟨fl, _, by unfold mForEK; rw [h0]; simp only; rw [if_pos pl, e], q⟩
theorem b_fkt {i : Nat} {f : D → SV.Env → Option SV.Env} {body : SM} {xs : List D} {ρ : SV.Env} {QS : Fl → SV.Env → Prop} (h0 : ρ[i]? = some (some (.tup xs))) (h : Es (mFor (bnd (mCons (mVar i) mNil) fEnum) f body) ρ QS) : Es (mForEK i f body) ρ QS := by
  obtain ⟨fl, ρ2, e, q⟩ := h
  exact ⟨fl, _, by unfold mForEK; rw [h0]; exact e, q⟩
local macro_rules
  | `(tactic| solve | $a | $b | $c | $d | $e) => `(tactic| (repeat' (first
      | (apply_rules (transparency := .reducible) (symm := false) (exfalso := false) (maxDepth := 1000) only [@b_ok, @b_okS, @b_nx, @b_seq, @b_op, @b_ret, @b_cons, @b_nil, @b_CB, @b_C1, @b_set, @b_tb, @b_bl, @b_if, @b_end, @b_preps, @b_prepF, @b_preps0, @b_call, @b_owns, @b_owns0])
      | (apply_rules (transparency := .reducible) (symm := false) (exfalso := false) (maxDepth := 1000) only [@b_nret, @b_nexc, @b_exc, @b_excS, @b_nbrk, @b_nct, @b_mret, @b_expr, @b_setI, @b_un, @b_C2, @b_tru, @b_and, @b_or, @b_not, @b_notT, @b_andV, @b_orV, @b_blE, @b_ifE, @b_add, @b_neg, @b_aug, @b_prepT, @b_frzs, @b_frzs0, @b_tup, @b_lst, @b_isN, @b_notN, @b_isi, @b_raise, @b_ownS, @b_bnd, @b_iter, @b_fseq, @b_mfor, @b_enum, @b_callK, @b_sl, @b_part, @b_pi])
      | ((with_reducible apply b_var); rfl; (focus (first | rfl | assumption)); (focus (first | rfl | assumption)))
      | ((with_reducible apply b_varO); rfl; (focus (first | rfl | assumption)))
      | ((with_reducible apply b_st); exact Nat.le_of_ble_eq_true rfl)
      | ((with_reducible apply b_mvS); rfl; (focus (first | rfl | assumption)))
      | ((with_reducible apply b_mv); (focus (first | assumption | (intro _ z; cases z; done))))
      | ((with_reducible apply b_frzS); rfl; (focus (first | rfl | assumption)))
      | ((with_reducible apply b_frzG); focus (first | assumption | rfl))
      | ((with_reducible apply b_frz); (focus (first | assumption | (intro _ z; cases z; done))))
      | ((with_reducible apply b_own); (focus (first | assumption | (intro _ z; cases z; done))))
      | ((with_reducible apply b_II); focus (first | rfl | $c))
      | ((with_reducible apply b_look2); (focus (first | rfl | exact dr_gd (by assumption))); (focus (first | rfl | exact dr_gd (by assumption))); focus (first | exact gEqF | exact gNeF | $a | rfl))
      | ((with_reducible apply b_look); (focus (first | rfl | exact dr_gd (by assumption))); focus (first | $a | rfl))
      | ((with_reducible apply b_trv); (focus (first | rfl | exact dr_gd (by assumption))); rfl)
      | ((with_reducible apply b_io); rfl)
      | ((with_reducible apply b_lim); exact Nat.le_of_ble_eq_true rfl)
      | ((with_reducible apply b_setD); rfl)
      | ((with_reducible apply b_setK); rfl; rfl)
      | ((with_reducible apply b_LM); rfl)
      | ((with_reducible apply b_ifT); focus (first | rfl | $b))
      | ((with_reducible apply b_ifF); focus (first | rfl | $b))
      | ((with_reducible apply b_eT); focus (first | rfl | $b))
      | ((with_reducible apply b_eF); focus (first | rfl | $b))
      | ((with_reducible apply b_rng1); focus (first | (simp [okR]; done) | (simp [okR]; omega)))
      | ((with_reducible apply b_rng2); focus (first | (simp [okR]; done) | (simp [okR]; omega)))
      | ((with_reducible apply b_back); focus (first | rfl | exact cb_f rfl rfl))
      | ((with_reducible apply b_seqF); rfl)
      | ((with_reducible apply b_LMr); rfl; focus (refine lApp ?_; first | (simp; done) | (simp; omega) | $e))
      | ((with_reducible apply b_rz); exact ⟨rfl, Nat.le_of_ble_eq_true rfl, Nat.le_of_ble_eq_true rfl⟩)
      | $d
      | fail)))
theorem cells_loop {z : Option D} {ds : List D} {QS : Fl → SV.Env → Prop} (g : ∀ d ∈ ds, gd d = true) (k1 : bad ds 0 = none → ∀ a b, QS .nx [z, a, b]) (k2 : ∀ j a b, bad ds 0 = some j → QS (.exc "BadPicture" [("index", .int (j : Nat)), ("what", .str "colour")]) [z, a, b]) :
    Es (forL (tgT [tgN 1, tgN 2]) (mIf (mNot (mTru (mCall [false, false, false] f_is_whole [] (mCons (mVar 2) (mCons (SV.ret (.int 0)) (mCons (SV.ret (.int 99)) mNil)))))) (mRaise "BadPicture" ["index", "what"] (mCons (mVar 1) (mCons (SV.ret (.str "colour")) mNil))) (endS .nx)) (enumF 0 ds)) [z, none, none] QS := by
  refine es_for (fun dsl ρ => ∃ (i : Nat) (rest : List D) (a b : Option D), dsl = enumF i rest ∧ ρ = [z, a, b] ∧ (∀ d ∈ rest, gd d = true) ∧ bad rest i = bad ds 0) ?_ ?_ _ _ ⟨0, ds, none, none, rfl, rfl, g, rfl⟩
  · rintro ρ ⟨i, rest, a, b, e, rfl, gr, eb⟩
    cases rest with
    | cons r rest => cases e
    | nil => exact k1 eb.symm a b
  · rintro d dsl ρ ⟨i, rest, a, b, e, rfl, gr, eb⟩
    cases rest with
    | nil => cases e
    | cons r rest =>
      cases e
      refine ⟨_, rfl, ?_⟩
      have gr0 := gr r (by simp)
      have o := gd_own gr0
      have ox := gd_isX gr0
      have nn := gd_nsl gr0
      have wk : ∀ {Q : Res D → List D → Prop}, Q (.ok (.bl (whole r))) [] → Ef f_is_whole [r, .int 0, .int 99] Q := fun {Q} k => whole_k gr0 k
      cases hw : whole r with
      | true =>
        solve | fail | (simp [hw]; done) | (first | (simp; done) | (simp; omega)) | refine wk ?_ | fail
        refine ⟨i + 1, rest, _, _, rfl, rfl, fun d hd => gr d (by simp [hd]), ?_⟩
        rw [← eb]
        simp [bad, hw]
      | false =>
        solve | fail | (simp [hw]; done) | (first | (simp; done) | (simp; omega)) | refine wk ?_ | fail
        exact k2 i _ _ (by rw [← eb]; simp [bad, hw])
theorem cells_k {c : D} {ds : List D} {Q : Res D → List D → Prop} (hc : c = .ol ds ∨ c = .tup ds) (g : ∀ d ∈ ds, gd d = true) (h1 : 1 ≤ ds.length) (h2 : ds.length ≤ 700) (k1 : bad ds 0 = none → Q (.ok .non) [c])
    (k2 : ∀ j, bad ds 0 = some j → Q (.exc "BadPicture" [("index", .int (j : Nat)), ("what", .str "colour")]) [c]) : Ef f__check_cells [c] Q := by
  refine ef_fun ?_
  show Es m__check_cells [some c, none, none] _
  unfold m__check_cells
  have z0 : (1 : Int) ≤ (ds.length : Nat) ∧ ((ds.length : Nat) : Int) ≤ 700 := by omega
  rcases hc with rfl | rfl
  · solve | exact gLen_o | (first | (simp; done) | (simp; omega)) | (first | (simp; done) | (simp; omega)) | fail | fail
    refine b_chain ?_
    solve | exact gLen_o | (first | (simp; done) | (simp; omega)) | (first | (simp; done) | (simp; omega)) | fail | fail
    refine b_fko rfl (plain_gd g) ?_
    refine cells_loop g (fun e a b => ?_) (fun j a b e => ?_)
    · exact ⟨[.ol ds], rfl, k1 e⟩
    · exact ⟨[.ol ds], rfl, k2 j e⟩
  · solve | exact gLen_t | (first | (simp; done) | (simp; omega)) | (first | (simp; done) | (simp; omega)) | fail | fail
    refine b_chain ?_
    solve | exact gLen_t | (first | (simp; done) | (simp; omega)) | (first | (simp; done) | (simp; omega)) | fail | fail
    refine b_fkt rfl ?_
    solve | fail | (first | (simp; done) | (simp; omega)) | (first | (simp; done) | (simp; omega)) | fail | fail
    refine cells_loop g (fun e a b => ?_) (fun j a b e => ?_)
    · exact ⟨[.tup ds], rfl, k1 e⟩
    · exact ⟨[.tup ds], rfl, k2 j e⟩
end LAWP
end
section
set_option Elab.async false
set_option linter.all false
set_option autoImplicit false
set_option maxRecDepth 100000
set_option maxHeartbeats 0
set_option pp.maxSteps 400
namespace LAWP
open PySem PySem.Spec L2 SV LAWM
theorem ix_p0 {q : Int × Int} : gIx (tupP q) (.int 0) = some (.int q.1) := by simp [tupP, gIx, D.seq, atI, ixN, D.own]
theorem ix_p1 {q : Int × Int} : gIx (tupP q) (.int 1) = some (.int q.2) := by simp [tupP, gIx, D.seq, atI, ixN, D.own]
theorem len_p {q : Int × Int} : gLen (tupP q) = some (.int 2) := by simp [tupP, gLen, D.seq]
/-- good ties -/
def TOk (n : Int) (ts : List (Int × Int)) : Prop := ∀ q ∈ ts, ((0 ≤ q.1 ∧ q.1 < n) ∧ (0 ≤ q.2 ∧ q.2 < n)) ∧ q.1 ≠ q.2
theorem wh_in {n i : Int} (h0 : 0 ≤ i) (h1 : i < n) : whB (some 0) (some (n - 1)) (.int i) = true := by simp [whB]; omega
theorem isi_p {q : Int × Int} : gIsi [.lst, .tup] (tupP q) = some (.bl true) := rfl
theorem gEq_n {i j : Int} (h : i ≠ j) : gEq false (.int i) (.int j) = some (.bl false) := by rw [gEqF, decide_eq_false h]
local macro_rules
  | `(tactic| solve | $a | $b | $c | $d | $e) => `(tactic| (repeat' (first
      | (apply_rules (transparency := .reducible) (symm := false) (exfalso := false) (maxDepth := 1000) only [@b_ok, @b_okS, @b_nx, @b_seq, @b_op, @b_ret, @b_cons, @b_nil, @b_CB, @b_C1, @b_set, @b_tb, @b_bl, @b_if, @b_end, @b_preps, @b_prepF, @b_preps0, @b_call, @b_owns, @b_owns0])
      | (apply_rules (transparency := .reducible) (symm := false) (exfalso := false) (maxDepth := 1000) only [@b_nret, @b_nexc, @b_exc, @b_excS, @b_nbrk, @b_nct, @b_mret, @b_expr, @b_setI, @b_un, @b_C2, @b_tru, @b_and, @b_or, @b_not, @b_notT, @b_andV, @b_orV, @b_blE, @b_ifE, @b_add, @b_neg, @b_aug, @b_prepT, @b_frzs, @b_frzs0, @b_tup, @b_lst, @b_isN, @b_notN, @b_isi, @b_raise, @b_ownS, @b_bnd, @b_iter, @b_fseq, @b_mfor, @b_enum, @b_callK, @b_sl, @b_part, @b_pi])
      | ((with_reducible apply b_var); rfl; (focus (first | rfl | assumption)); (focus (first | rfl | assumption)))
      | ((with_reducible apply b_varO); rfl; (focus (first | rfl | assumption)))
      | ((with_reducible apply b_st); exact Nat.le_of_ble_eq_true rfl)
      | ((with_reducible apply b_mvS); rfl; (focus (first | rfl | assumption)))
      | ((with_reducible apply b_mv); (focus (first | assumption | (intro _ z; cases z; done))))
      | ((with_reducible apply b_frzS); rfl; (focus (first | rfl | assumption)))
      | ((with_reducible apply b_frzG); focus (first | assumption | rfl))
      | ((with_reducible apply b_frz); (focus (first | assumption | (intro _ z; cases z; done))))
      | ((with_reducible apply b_own); (focus (first | assumption | (intro _ z; cases z; done))))
      | ((with_reducible apply b_II); focus (first | rfl | $c))
      | ((with_reducible apply b_look2); (focus (first | rfl | exact dr_gd (by assumption))); (focus (first | rfl | exact dr_gd (by assumption))); focus (first | exact gEqF | exact gNeF | $a | rfl))
      | ((with_reducible apply b_look); (focus (first | rfl | exact dr_gd (by assumption))); focus (first | $a | rfl))
      | ((with_reducible apply b_trv); (focus (first | rfl | exact dr_gd (by assumption))); rfl)
      | ((with_reducible apply b_io); rfl)
      | ((with_reducible apply b_lim); exact Nat.le_of_ble_eq_true rfl)
      | ((with_reducible apply b_setD); rfl)
      | ((with_reducible apply b_setK); rfl; rfl)
      | ((with_reducible apply b_LM); rfl)
      | ((with_reducible apply b_ifT); focus (first | rfl | $b))
      | ((with_reducible apply b_ifF); focus (first | rfl | $b))
      | ((with_reducible apply b_eT); focus (first | rfl | $b))
      | ((with_reducible apply b_eF); focus (first | rfl | $b))
      | ((with_reducible apply b_rng1); focus (first | (simp [okR]; done) | (simp [okR]; omega)))
      | ((with_reducible apply b_rng2); focus (first | (simp [okR]; done) | (simp [okR]; omega)))
      | ((with_reducible apply b_back); focus (first | rfl | exact cb_f rfl rfl))
      | ((with_reducible apply b_seqF); rfl)
      | ((with_reducible apply b_LMr); rfl; focus (refine lApp ?_; first | (simp; done) | (simp; omega) | $e))
      | ((with_reducible apply b_rz); exact ⟨rfl, Nat.le_of_ble_eq_true rfl, Nat.le_of_ble_eq_true rfl⟩)
      | $d
      | fail)))
theorem ties_k {t : D} {n : Int} {ts : List (Int × Int)} {Q : Res D → List D → Prop} (hc : t = .lst (ts.map tupP) ∨ t = .tup (ts.map tupP)) (g : TOk n ts) (hl : ts.length ≤ 2000) (k : Q (.ok .non) []) : Ef f__check_ties [t, .int n] Q := by
  refine ef_fun ?_
  show Es m__check_ties [some t, some (.int n), none, none] _
  unfold m__check_ties
  rcases hc with rfl | rfl
  · solve | exact gLen_l | (first | (simp; done) | (simp; omega)) | (first | (simp; done) | (simp; omega)) | fail | fail
    refine es_for (fun dsl ρ => ∃ (i : Nat) (rest : List (Int × Int)) (a b : Option D), dsl = enumF i (rest.map tupP) ∧ ρ = [some (.lst (ts.map tupP)), some (.int n), a, b] ∧ TOk n rest) ?_ ?_ _ _ ⟨0, ts, none, none, rfl, rfl, g⟩
    · rintro ρ ⟨i, rest, a, b, e, rfl, gr⟩
      exact ⟨_, rfl, k⟩
    · rintro d dsl ρ ⟨i, rest, a, b, e, rfl, gr⟩
      cases rest with
      | nil => cases e
      | cons q rest =>
        cases e
        refine ⟨_, rfl, ?_⟩
        obtain ⟨⟨⟨a0, a1⟩, b0, b1⟩, ne⟩ := gr q (by simp)
        have o : (tupP q).own = false := rfl
        have ox : (tupP q).isX = false := rfl
        have nn : ∀ i, tupP q ≠ .sl i := fun i z => by cases z
        have gq : gd (tupP q) = true := rfl
        have i0 := @ix_p0 q
        have i1 := @ix_p1 q
        have i2 := @len_p q
        have i3 := @isi_p q
        have i4 := gEq_n ne
        have w0 : ∀ {Q : Res D → List D → Prop}, Q (.ok (.bl true)) [] → Ef f_is_whole [.int q.1, .int 0, .int (n - 1)] Q := fun {Q} k => whole_g (lo := some 0) (hi := some _) rfl (by rw [wh_in a0 a1]; exact k)
        have w1 : ∀ {Q : Res D → List D → Prop}, Q (.ok (.bl true)) [] → Ef f_is_whole [.int q.2, .int 0, .int (n - 1)] Q := fun {Q} k => whole_g (lo := some 0) (hi := some _) rfl (by rw [wh_in b0 b1]; exact k)
        generalize tupP q = tq at *
        solve | (first | exact i0 | exact i1 | exact i2 | exact i3 | exact i4) | (first | (simp; done) | (simp [ne]; done)) | (first | (simp; done) | (simp; omega)) | (first | refine w0 ?_ | refine w1 ?_) | fail
        exact ⟨i + 1, rest, _, _, rfl, rfl, fun q hq => gr q (by simp [hq])⟩
  · solve | exact gLen_t | (first | (simp; done) | (simp; omega)) | (first | (simp; done) | (simp; omega)) | fail | fail
    refine es_for (fun dsl ρ => ∃ (i : Nat) (rest : List (Int × Int)) (a b : Option D), dsl = enumF i (rest.map tupP) ∧ ρ = [some (.tup (ts.map tupP)), some (.int n), a, b] ∧ TOk n rest) ?_ ?_ _ _ ⟨0, ts, none, none, rfl, rfl, g⟩
    · rintro ρ ⟨i, rest, a, b, e, rfl, gr⟩
      exact ⟨_, rfl, k⟩
    · rintro d dsl ρ ⟨i, rest, a, b, e, rfl, gr⟩
      cases rest with
      | nil => cases e
      | cons q rest =>
        cases e
        refine ⟨_, rfl, ?_⟩
        obtain ⟨⟨⟨a0, a1⟩, b0, b1⟩, ne⟩ := gr q (by simp)
        have o : (tupP q).own = false := rfl
        have ox : (tupP q).isX = false := rfl
        have nn : ∀ i, tupP q ≠ .sl i := fun i z => by cases z
        have gq : gd (tupP q) = true := rfl
        have i0 := @ix_p0 q
        have i1 := @ix_p1 q
        have i2 := @len_p q
        have i3 := @isi_p q
        have i4 := gEq_n ne
        have w0 : ∀ {Q : Res D → List D → Prop}, Q (.ok (.bl true)) [] → Ef f_is_whole [.int q.1, .int 0, .int (n - 1)] Q := fun {Q} k => whole_g (lo := some 0) (hi := some _) rfl (by rw [wh_in a0 a1]; exact k)
        have w1 : ∀ {Q : Res D → List D → Prop}, Q (.ok (.bl true)) [] → Ef f_is_whole [.int q.2, .int 0, .int (n - 1)] Q := fun {Q} k => whole_g (lo := some 0) (hi := some _) rfl (by rw [wh_in b0 b1]; exact k)
        generalize tupP q = tq at *
        solve | (first | exact i0 | exact i1 | exact i2 | exact i3 | exact i4) | (first | (simp; done) | (simp [ne]; done)) | (first | (simp; done) | (simp; omega)) | (first | refine w0 ?_ | refine w1 ?_) | fail
        exact ⟨i + 1, rest, _, _, rfl, rfl, fun q hq => gr q (by simp [hq])⟩
end LAWP
end
section
set_option Elab.async false
set_option linter.all false
set_option autoImplicit false
set_option maxRecDepth 100000
set_option maxHeartbeats 0
set_option pp.maxSteps 400
namespace LAWP
open PySem PySem.Spec L2 SV LAWM
theorem any_has : ∀ (xs : List Int) (c : Int), ((xs.map D.int).any fun z => D.eqf z (.int c)) = xs.contains c
  | [], _ => rfl
  | x :: xs, c => by
    rw [List.map_cons, List.any_cons, any_has xs c, List.contains_cons]
    congr 1
    show decide (x = c) = (c == x)
    by_cases h : x = c
    · subst h; simp
    · rw [decide_eq_false h]
      symm
      simpa using fun z => h z.symm
theorem all_fl (xs : List Int) : (xs.map D.int).all D.fl = true := by
  rw [List.all_eq_true]
  intro d hd
  obtain ⟨i, _, rfl⟩ := List.mem_map.mp hd
  rfl
theorem gIn_row {neg b : Bool} {xs : List Int} {c : Int} {s : D} (h : s.seq = some (b, xs.map D.int)) : gIn neg (.int c) s = some (.bl (if neg = true then !xs.contains c else xs.contains c)) := by
  unfold gIn
  rw [h]
  simp only
  rw [if_pos ⟨rfl, all_fl xs⟩, any_has]
theorem cutL {ds ys : List D} {lo hi : Option Int} {ρ : SV.Env} {QD : Res D → SV.Env → Prop} (g : ∀ d ∈ ds, gd d = true) (h : SV.cut ds lo hi = ys) (q : QD (.ok (.ol ys)) ρ) : Ev (fCut (.lst ds) lo hi) ρ QD := cut_l g (by rw [h]; exact q)
theorem cutT {ds ys : List D} {lo hi : Option Int} {ρ : SV.Env} {QD : Res D → SV.Env → Prop} (g : ∀ d ∈ ds, gd d = true) (h : SV.cut ds lo hi = ys) (q : QD (.ok (.tup ys)) ρ) : Ev (fCut (.tup ds) lo hi) ρ QD := cut_t g (by rw [h]; exact q)
/-- the first wrong mark -/
def mkB (n : Int) : List Int → List D → Option Nat
  | _, [] => none
  | pre, d :: ds => if whB (some 0) (some (n - 1)) d = true then (match d with
    | .int i => if pre.contains i = true then some pre.length else mkB n (pre ++ [i]) ds
    | _ => none) else some pre.length
def mkF (n : Int) (m : D) : Option (Nat × Str) := match itemsOf m with
  | some ds => if 1 ≤ ds.length ∧ ds.length ≤ 4 then (match mkB n [] ds with
    | some j => some (j, "mark")
    | none => none) else some (0, "marks")
  | none => some (0, "marks")
theorem wh_int {lo hi : Option Int} {d : D} (h : whB lo hi d = true) : ∃ i : Int, d = .int i := by
  cases d <;> first | exact ⟨_, rfl⟩ | cases h
local macro_rules
  | `(tactic| solve | $a | $b | $c | $d | $e) => `(tactic| (repeat' (first
      | (apply_rules (transparency := .reducible) (symm := false) (exfalso := false) (maxDepth := 1000) only [@b_ok, @b_okS, @b_nx, @b_seq, @b_op, @b_ret, @b_cons, @b_nil, @b_CB, @b_C1, @b_set, @b_tb, @b_bl, @b_if, @b_end, @b_preps, @b_prepF, @b_preps0, @b_call, @b_owns, @b_owns0])
      | (apply_rules (transparency := .reducible) (symm := false) (exfalso := false) (maxDepth := 1000) only [@b_nret, @b_nexc, @b_exc, @b_excS, @b_nbrk, @b_nct, @b_mret, @b_expr, @b_setI, @b_un, @b_C2, @b_tru, @b_and, @b_or, @b_not, @b_notT, @b_andV, @b_orV, @b_blE, @b_ifE, @b_add, @b_neg, @b_aug, @b_prepT, @b_frzs, @b_frzs0, @b_tup, @b_lst, @b_isN, @b_notN, @b_isi, @b_raise, @b_ownS, @b_bnd, @b_iter, @b_fseq, @b_mfor, @b_enum, @b_callK, @b_sl, @b_part, @b_pi])
      | ((with_reducible apply b_var); rfl; (focus (first | rfl | assumption)); (focus (first | rfl | assumption)))
      | ((with_reducible apply b_varO); rfl; (focus (first | rfl | assumption)))
      | ((with_reducible apply b_st); exact Nat.le_of_ble_eq_true rfl)
      | ((with_reducible apply b_mvS); rfl; (focus (first | rfl | assumption)))
      | ((with_reducible apply b_mv); (focus (first | assumption | (intro _ z; cases z; done))))
      | ((with_reducible apply b_frzS); rfl; (focus (first | rfl | assumption)))
      | ((with_reducible apply b_frzG); focus (first | assumption | rfl))
      | ((with_reducible apply b_frz); (focus (first | assumption | (intro _ z; cases z; done))))
      | ((with_reducible apply b_own); (focus (first | assumption | (intro _ z; cases z; done))))
      | ((with_reducible apply b_II); focus (first | rfl | $c))
      | ((with_reducible apply b_look2); (focus (first | rfl | exact dr_gd (by assumption))); (focus (first | rfl | exact dr_gd (by assumption))); focus (first | exact gEqF | exact gNeF | $a | rfl))
      | ((with_reducible apply b_look); (focus (first | rfl | exact dr_gd (by assumption))); focus (first | $a | rfl))
      | ((with_reducible apply b_trv); (focus (first | rfl | exact dr_gd (by assumption))); rfl)
      | ((with_reducible apply b_io); rfl)
      | ((with_reducible apply b_lim); exact Nat.le_of_ble_eq_true rfl)
      | ((with_reducible apply b_setD); rfl)
      | ((with_reducible apply b_setK); rfl; rfl)
      | ((with_reducible apply b_LM); rfl)
      | ((with_reducible apply b_ifT); focus (first | rfl | $b))
      | ((with_reducible apply b_ifF); focus (first | rfl | $b))
      | ((with_reducible apply b_eT); focus (first | rfl | $b))
      | ((with_reducible apply b_eF); focus (first | rfl | $b))
      | ((with_reducible apply b_rng1); focus (first | (simp [okR]; done) | (simp [okR]; omega)))
      | ((with_reducible apply b_rng2); focus (first | (simp [okR]; done) | (simp [okR]; omega)))
      | ((with_reducible apply b_back); focus (first | rfl | exact cb_f rfl rfl))
      | ((with_reducible apply b_seqF); rfl)
      | ((with_reducible apply b_LMr); rfl; focus (refine lApp ?_; first | (simp; done) | (simp; omega) | $e))
      | ((with_reducible apply b_rz); exact ⟨rfl, Nat.le_of_ble_eq_true rfl, Nat.le_of_ble_eq_true rfl⟩)
      | $d
      | fail)))
theorem marks_k {m : D} {n : Int} {Q : Res D → List D → Prop} (th : Th m) (k1 : mkF n m = none → Q (.ok .non) []) (k2 : ∀ j w, mkF n m = some (j, w) → Q (.exc "BadPicture" [("index", .int (j : Nat)), ("what", .str w)]) []) : Ef f__check_marks [m, .int n] Q := by
  refine ef_fun ?_
  show Es m__check_marks [some m, some (.int n), none, none] _
  unfold m__check_marks
  have g := th.1
  have po := gd_own g
  have px := gd_isX g
  cases m with
  | lst ds =>
    have gi := th.2 ds rfl
    by_cases hl : 1 ≤ ds.length ∧ ds.length ≤ 4
    · have z0 : (1 : Int) ≤ (ds.length : Nat) ∧ ((ds.length : Nat) : Int) ≤ 4 := by omega
      have k1' : mkB n [] ds = none → Q (.ok .non) [] := fun e => k1 (by simp [mkF, itemsOf, hl, e])
      have k2' := fun j (e : mkB n [] ds = some j) => k2 j "mark" (by simp [mkF, itemsOf, hl, e])
      clear k1 k2 hl
      solve | exact gLen_l | (first | (simp; done) | (simp; omega)) | (first | (simp; done) | (simp; omega)) | fail | fail
      refine b_chain ?_
      solve | exact gLen_l | (first | (simp; done) | (simp; omega)) | (first | (simp; done) | (simp; omega)) | fail | fail
      refine es_for (fun dsl ρ => ∃ (pre : List Int) (rest : List D) (a b : Option D), dsl = enumF pre.length rest ∧ ρ = [some (.lst ds), some (.int n), a, b] ∧ ds = pre.map D.int ++ rest ∧ mkB n pre rest = mkB n [] ds) ?_ ?_ _ _ ⟨[], ds, none, none, rfl, rfl, rfl, rfl⟩
      · rintro ρ ⟨pre, rest, a, b, e, rfl, ed, eb⟩
        cases rest with
        | cons r rest => cases e
        | nil => exact ⟨_, rfl, k1' eb.symm⟩
      · rintro d dsl ρ ⟨pre, rest, a, b, e, rfl, ed, eb⟩
        cases rest with
        | nil => cases e
        | cons r rest =>
          cases e
          refine ⟨_, rfl, ?_⟩
          have gr0 := gi r (by rw [ed]; simp)
          have o := gd_own gr0
          have ox := gd_isX gr0
          have nn := gd_nsl gr0
          have wk : ∀ {Q : Res D → List D → Prop}, Q (.ok (.bl (whB (some 0) (some (n - 1)) r))) [] → Ef f_is_whole [r, .int 0, .int (n - 1)] Q := fun {Q} k => whole_g (lo := some 0) (hi := some _) gr0 k
          have hcut : SV.cut ds none (some ((pre.length : Nat) : Int)) = pre.map D.int := by rw [cut_take, ed, List.take_left' (by simp)]
          cases hw : whB (some 0) (some (n - 1)) r with
          | false =>
            solve | fail | (simp [hw]; done) | (first | (simp; done) | (simp; omega)) | refine wk ?_ | fail
            exact ⟨_, rfl, k2' pre.length (by rw [← eb]; simp [mkB, hw])⟩
          | true =>
            obtain ⟨i, rfl⟩ := wh_int hw
            cases hc : pre.contains i with
            | true =>
              have gin : gIn false (.int i) (.ol (pre.map D.int)) = some (.bl true) := by rw [gIn_row (b := false) rfl]; simp [hc]; simpa using hc
              solve | exact gin | (simp [hw]; done) | (first | (simp; done) | (simp; omega)) | (first | refine wk ?_ | refine cutL gi hcut ?_) | fail
              exact ⟨_, rfl, k2' pre.length (by rw [← eb]; simp only [mkB, hw, hc, if_true])⟩
            | false =>
              have gin : gIn false (.int i) (.ol (pre.map D.int)) = some (.bl false) := by rw [gIn_row (b := false) rfl]; simp [hc]; simpa using hc
              solve | exact gin | (simp [hw]; done) | (first | (simp; done) | (simp; omega)) | (first | refine wk ?_ | refine cutL gi hcut ?_) | fail
              exact ⟨pre ++ [i], rest, _, _, by simp, rfl, by rw [ed]; simp, by rw [← eb]; simp only [mkB, hw, hc, if_true]; rfl⟩
    · have k3 := k2 0 "marks" (by simp [mkF, itemsOf, hl])
      clear k1 k2
      by_cases h1 : (1 : Int) ≤ (ds.length : Nat)
      · have h4 : ¬ ((ds.length : Nat) : Int) ≤ 4 := by omega
        solve | exact gLen_l | (first | (simp; done) | (simp [hl]; done) | (simp; omega) | (simp [hl]; omega)) | (first | (simp; done) | (simp; omega)) | fail | fail
        try refine b_chain ?_
        solve | exact gLen_l | (first | (simp; done) | (simp [hl]; done) | (simp; omega) | (simp [hl]; omega)) | (first | (simp; done) | (simp; omega)) | fail | fail
        exact ⟨_, rfl, k3⟩
      · solve | exact gLen_l | (first | (simp; done) | (simp [hl]; done) | (simp; omega) | (simp [hl]; omega)) | (first | (simp; done) | (simp; omega)) | fail | fail
        try refine b_chain ?_
        solve | exact gLen_l | (first | (simp; done) | (simp [hl]; done) | (simp; omega) | (simp [hl]; omega)) | (first | (simp; done) | (simp; omega)) | fail | fail
        exact ⟨_, rfl, k3⟩
  | tup ds =>
    have gi := th.2 ds rfl
    by_cases hl : 1 ≤ ds.length ∧ ds.length ≤ 4
    · have z0 : (1 : Int) ≤ (ds.length : Nat) ∧ ((ds.length : Nat) : Int) ≤ 4 := by omega
      have k1' : mkB n [] ds = none → Q (.ok .non) [] := fun e => k1 (by simp [mkF, itemsOf, hl, e])
      have k2' := fun j (e : mkB n [] ds = some j) => k2 j "mark" (by simp [mkF, itemsOf, hl, e])
      clear k1 k2 hl
      solve | exact gLen_t | (first | (simp; done) | (simp; omega)) | (first | (simp; done) | (simp; omega)) | fail | fail
      refine b_chain ?_
      solve | exact gLen_t | (first | (simp; done) | (simp; omega)) | (first | (simp; done) | (simp; omega)) | fail | fail
      refine es_for (fun dsl ρ => ∃ (pre : List Int) (rest : List D) (a b : Option D), dsl = enumF pre.length rest ∧ ρ = [some (.tup ds), some (.int n), a, b] ∧ ds = pre.map D.int ++ rest ∧ mkB n pre rest = mkB n [] ds) ?_ ?_ _ _ ⟨[], ds, none, none, rfl, rfl, rfl, rfl⟩
      · rintro ρ ⟨pre, rest, a, b, e, rfl, ed, eb⟩
        cases rest with
        | cons r rest => cases e
        | nil => exact ⟨_, rfl, k1' eb.symm⟩
      · rintro d dsl ρ ⟨pre, rest, a, b, e, rfl, ed, eb⟩
        cases rest with
        | nil => cases e
        | cons r rest =>
          cases e
          refine ⟨_, rfl, ?_⟩
          have gr0 := gi r (by rw [ed]; simp)
          have o := gd_own gr0
          have ox := gd_isX gr0
          have nn := gd_nsl gr0
          have wk : ∀ {Q : Res D → List D → Prop}, Q (.ok (.bl (whB (some 0) (some (n - 1)) r))) [] → Ef f_is_whole [r, .int 0, .int (n - 1)] Q := fun {Q} k => whole_g (lo := some 0) (hi := some _) gr0 k
          have hcut : SV.cut ds none (some ((pre.length : Nat) : Int)) = pre.map D.int := by rw [cut_take, ed, List.take_left' (by simp)]
          cases hw : whB (some 0) (some (n - 1)) r with
          | false =>
            solve | fail | (simp [hw]; done) | (first | (simp; done) | (simp; omega)) | refine wk ?_ | fail
            exact ⟨_, rfl, k2' pre.length (by rw [← eb]; simp [mkB, hw])⟩
          | true =>
            obtain ⟨i, rfl⟩ := wh_int hw
            cases hc : pre.contains i with
            | true =>
              have gin : gIn false (.int i) (.tup (pre.map D.int)) = some (.bl true) := by rw [gIn_row (b := true) rfl]; simp [hc]; simpa using hc
              solve | exact gin | (simp [hw]; done) | (first | (simp; done) | (simp; omega)) | (first | refine wk ?_ | refine cutT gi hcut ?_) | fail
              exact ⟨_, rfl, k2' pre.length (by rw [← eb]; simp only [mkB, hw, hc, if_true])⟩
            | false =>
              have gin : gIn false (.int i) (.tup (pre.map D.int)) = some (.bl false) := by rw [gIn_row (b := true) rfl]; simp [hc]; simpa using hc
              solve | exact gin | (simp [hw]; done) | (first | (simp; done) | (simp; omega)) | (first | refine wk ?_ | refine cutT gi hcut ?_) | fail
              exact ⟨pre ++ [i], rest, _, _, by simp, rfl, by rw [ed]; simp, by rw [← eb]; simp only [mkB, hw, hc, if_true]; rfl⟩
    · have k3 := k2 0 "marks" (by simp [mkF, itemsOf, hl])
      clear k1 k2
      by_cases h1 : (1 : Int) ≤ (ds.length : Nat)
      · have h4 : ¬ ((ds.length : Nat) : Int) ≤ 4 := by omega
        solve | exact gLen_t | (first | (simp; done) | (simp [hl]; done) | (simp; omega) | (simp [hl]; omega)) | (first | (simp; done) | (simp; omega)) | fail | fail
        try refine b_chain ?_
        solve | exact gLen_t | (first | (simp; done) | (simp [hl]; done) | (simp; omega) | (simp [hl]; omega)) | (first | (simp; done) | (simp; omega)) | fail | fail
        exact ⟨_, rfl, k3⟩
      · solve | exact gLen_t | (first | (simp; done) | (simp [hl]; done) | (simp; omega) | (simp [hl]; omega)) | (first | (simp; done) | (simp; omega)) | fail | fail
        try refine b_chain ?_
        solve | exact gLen_t | (first | (simp; done) | (simp [hl]; done) | (simp; omega) | (simp [hl]; omega)) | (first | (simp; done) | (simp; omega)) | fail | fail
        exact ⟨_, rfl, k3⟩
  | ol xs => cases g
  | fz xs => cases g
  | od ks xs => cases g
  | dt ks xs => cases g
  | ot ks xs => cases g
  | oi c ns xs => cases g
  | ins c ns xs => cases g
  | sl i => cases g
  | xc c ns xs => cases g
  | xv c ns xs => cases g
  | xw c => cases g
  | rg a b => cases g
  | _ =>
    solve | fail | (first | (simp; done) | (simp; omega)) | (first | (simp; done) | (simp; omega)) | fail | fail
    exact ⟨_, rfl, k2 0 "marks" rfl⟩
end LAWP
end
section
set_option Elab.async false
set_option linter.all false
set_option autoImplicit false
set_option maxRecDepth 100000
set_option maxHeartbeats 0
set_option pp.maxSteps 400
namespace LAWP
open PySem PySem.Spec L2 SV LAWM
/-! ### the unlike ties, ascending -/
def mm (q : Int × Int) : Int × Int := (if q.2 < q.1 then q.2 else q.1, if q.2 > q.1 then q.2 else q.1)
def nrm (ts : List (Int × Int)) : List (Int × Int) := srtP (ddP (ts.map mm))
def kq (q : Int × Int) : List L2.Key := [.inl q.1, .inl q.2]
theorem kq_inj {q r : Int × Int} (h : kq q = kq r) : q = r := by
  simp [kq] at h
  exact Prod.ext h.1 h.2
def psF : List (Int × Int) → List (Int × Int) → List (Int × Int)
  | ps, [] => ps
  | ps, q :: qs => psF (if mm q ∈ ps then ps else ps ++ [mm q]) qs
theorem psF_mem : ∀ {qs ps : List (Int × Int)} {r : Int × Int}, r ∈ psF ps qs ↔ r ∈ ps ∨ r ∈ qs.map mm
  | [], ps, r => by simp [psF]
  | q :: qs, ps, r => by
    rw [psF, psF_mem, List.map_cons, List.mem_cons]
    by_cases h : mm q ∈ ps
    · rw [if_pos h]
      constructor
      · rintro (z | z)
        · exact .inl z
        · exact .inr (.inr z)
      · rintro (z | z | z)
        · exact .inl z
        · exact .inl (z ▸ h)
        · exact .inr z
    · rw [if_neg h]
      simp only [List.mem_append, List.mem_singleton]
      constructor
      · rintro ((z | z) | z)
        · exact .inl z
        · exact .inr (.inl z)
        · exact .inr (.inr z)
      · rintro (z | z | z)
        · exact .inl (.inl z)
        · exact .inl (.inr z)
        · exact .inr z
theorem psF_nodup : ∀ {qs ps : List (Int × Int)}, ps.Nodup → (psF ps qs).Nodup
  | [], _, h => h
  | q :: qs, ps, h => by
    rw [psF]
    refine psF_nodup ?_
    split
    · exact h
    · rename_i z
      refine List.nodup_append.mpr ⟨h, by simp, fun a ha b hb e => z ?_⟩
      rw [List.mem_singleton] at hb
      rw [← hb, ← e]
      exact ha
theorem psF_srt (qs : List (Int × Int)) : srtP (psF [] qs) = nrm qs := by
  refine srtS_uniq tot_P ?_ (srtS_srt tot_P _)
  refine (srtS_perm _).trans (perm_nd (psF_nodup List.nodup_nil) (nodup_ddP _) fun x => ?_)
  rw [psF_mem, mem_ddP]
  simp
abbrev EK (i : Nat) : M D := mTup (mCons (mCB fMin2 (mCons (mOp fIx (mVar i) (SV.ret (.int 0))) (mCons (mOp fIx (mVar i) (SV.ret (.int 1))) mNil))) (mCons (mCB fMax2 (mCons (mOp fIx (mVar i) (SV.ret (.int 0))) (mCons (mOp fIx (mVar i) (SV.ret (.int 1))) mNil))) mNil))
local macro_rules
  | `(tactic| solve | $a | $b | $c | $d | $e) => `(tactic| (repeat' (first
      | (apply_rules (transparency := .reducible) (symm := false) (exfalso := false) (maxDepth := 1000) only [@b_ok, @b_okS, @b_nx, @b_seq, @b_op, @b_ret, @b_cons, @b_nil, @b_CB, @b_C1, @b_set, @b_tb, @b_bl, @b_if, @b_end, @b_preps, @b_prepF, @b_preps0, @b_call, @b_owns, @b_owns0])
      | (apply_rules (transparency := .reducible) (symm := false) (exfalso := false) (maxDepth := 1000) only [@b_nret, @b_nexc, @b_exc, @b_excS, @b_nbrk, @b_nct, @b_mret, @b_expr, @b_setI, @b_un, @b_C2, @b_tru, @b_and, @b_or, @b_not, @b_notT, @b_andV, @b_orV, @b_blE, @b_ifE, @b_add, @b_neg, @b_aug, @b_prepT, @b_frzs, @b_frzs0, @b_tup, @b_lst, @b_isN, @b_notN, @b_isi, @b_raise, @b_ownS, @b_bnd, @b_iter, @b_fseq, @b_mfor, @b_enum, @b_callK, @b_sl, @b_part, @b_pi])
      | ((with_reducible apply b_var); rfl; (focus (first | rfl | assumption)); (focus (first | rfl | assumption)))
      | ((with_reducible apply b_varO); rfl; (focus (first | rfl | assumption)))
      | ((with_reducible apply b_st); exact Nat.le_of_ble_eq_true rfl)
      | ((with_reducible apply b_mvS); rfl; (focus (first | rfl | assumption)))
      | ((with_reducible apply b_mv); (focus (first | assumption | (intro _ z; cases z; done))))
      | ((with_reducible apply b_frzS); rfl; (focus (first | rfl | assumption)))
      | ((with_reducible apply b_frzG); focus (first | assumption | rfl))
      | ((with_reducible apply b_frz); (focus (first | assumption | (intro _ z; cases z; done))))
      | ((with_reducible apply b_own); (focus (first | assumption | (intro _ z; cases z; done))))
      | ((with_reducible apply b_II); focus (first | rfl | $c))
      | ((with_reducible apply b_look2); (focus (first | rfl | exact dr_gd (by assumption))); (focus (first | rfl | exact dr_gd (by assumption))); focus (first | exact gEqF | exact gNeF | $a | rfl))
      | ((with_reducible apply b_look); (focus (first | rfl | exact dr_gd (by assumption))); focus (first | $a | rfl))
      | ((with_reducible apply b_trv); (focus (first | rfl | exact dr_gd (by assumption))); rfl)
      | ((with_reducible apply b_io); rfl)
      | ((with_reducible apply b_lim); exact Nat.le_of_ble_eq_true rfl)
      | ((with_reducible apply b_setD); rfl)
      | ((with_reducible apply b_setK); rfl; rfl)
      | ((with_reducible apply b_LM); rfl)
      | ((with_reducible apply b_ifT); focus (first | rfl | $b))
      | ((with_reducible apply b_ifF); focus (first | rfl | $b))
      | ((with_reducible apply b_eT); focus (first | rfl | $b))
      | ((with_reducible apply b_eF); focus (first | rfl | $b))
      | ((with_reducible apply b_rng1); focus (first | (simp [okR]; done) | (simp [okR]; omega)))
      | ((with_reducible apply b_rng2); focus (first | (simp [okR]; done) | (simp [okR]; omega)))
      | ((with_reducible apply b_back); focus (first | rfl | exact cb_f rfl rfl))
      | ((with_reducible apply b_seqF); rfl)
      | ((with_reducible apply b_LMr); rfl; focus (refine lApp ?_; first | (simp; done) | (simp; omega) | $e))
      | ((with_reducible apply b_rz); exact ⟨rfl, Nat.le_of_ble_eq_true rfl, Nat.le_of_ble_eq_true rfl⟩)
      | $d
      | fail)))
theorem b_ek {i : Nat} {ρ : SV.Env} {q : Int × Int} {QD : Res D → SV.Env → Prop} (h : ρ[i]? = some (some (tupP q))) (k : QD (.ok (tupP (mm q))) ρ) : Ev (EK i) ρ QD := by
  have o : (tupP q).own = false := rfl
  have ox : (tupP q).isX = false := rfl
  have i0 := @ix_p0 q
  have i1 := @ix_p1 q
  have gq : gd (tupP q) = true := rfl
  have v : ∀ {Q : Res D → SV.Env → Prop}, Q (.ok (tupP q)) ρ → Ev (mVar i) ρ Q := fun {Q} z => b_var h o ox z
  generalize tupP q = tq at *
  unfold EK
  solve | (first | exact i0 | exact i1) | (first | (simp; done) | (simp; omega)) | (first | (simp; done) | (simp; omega)) | refine v ?_ | fail
  exact k
theorem ek6 {a0 a1 a2 a3 a4 a5 : Option D} {q : Int × Int} : EK 6 [a0, a1, a2, a3, a4, a5, some (tupP q)] = some (.ok (tupP (mm q)), [a0, a1, a2, a3, a4, a5, some (tupP q)]) := by
  obtain ⟨r, ρ1, e, h1, h2⟩ := b_ek (i := 6) (ρ := [a0, a1, a2, a3, a4, a5, some (tupP q)]) (q := q) (QD := fun r ρ1 => r = .ok (tupP (mm q)) ∧ ρ1 = [a0, a1, a2, a3, a4, a5, some (tupP q)]) rfl ⟨rfl, rfl⟩
  rw [e, h1, h2]
theorem putKs_k (ps : List (Int × Int)) (r : Int × Int) : putKs (ps.map kq) (kq r) = (if r ∈ ps then ps else ps ++ [r]).map kq := by
  have e : ((ps.map kq).any fun x => decide (x = kq r)) = true ↔ r ∈ ps := by
    rw [List.any_eq_true]
    constructor
    · rintro ⟨x, hx, h⟩
      obtain ⟨p, hp, rfl⟩ := List.mem_map.mp hx
      have := kq_inj (of_decide_eq_true h)
      exact this ▸ hp
    · exact fun h => ⟨kq r, List.mem_map.mpr ⟨r, h, rfl⟩, by simp⟩
  unfold putKs
  by_cases h : r ∈ ps
  · rw [if_pos (e.mpr h), if_pos h]
  · rw [if_neg (fun z => h (e.mp z)), if_neg h, List.map_append]
    rfl
theorem psF_len (ps : List (Int × Int)) (r : Int × Int) : (if r ∈ ps then ps else ps ++ [r]).length ≤ ps.length + 1 := by
  split <;> simp
theorem dc_eval (a0 a1 a2 a3 a4 a5 : Option D) : ∀ (qs ps : List (Int × Int)) (xs : List D), ps.length + qs.length ≤ 5000 → ∃ ys, dcL (tgN 6) (SV.ret true) (EK 6) (SV.ret (.bl true)) [6] (qs.map tupP) (ps.map kq) xs [a0, a1, a2, a3, a4, a5, none] = some (((psF ps qs).map kq, ys), [a0, a1, a2, a3, a4, a5, none])
  | [], ps, xs, _ => ⟨xs, rfl⟩
  | q :: qs, ps, xs, hl => by
    simp only [List.length_cons] at hl
    have l2 := psF_len ps (mm q)
    obtain ⟨ys, e⟩ := dc_eval a0 a1 a2 a3 a4 a5 qs (if mm q ∈ ps then ps else ps ++ [mm q]) (putDs (ps.map kq) xs (kq (mm q)) (.bl true)) (by omega)
    refine ⟨ys, ?_⟩
    rw [List.map_cons]
    unfold dcL
    have t1 : tgN 6 (tupP q) [a0, a1, a2, a3, a4, a5, none] = some [a0, a1, a2, a3, a4, a5, some (tupP q)] := rfl
    have t2 : SV.ret true [a0, a1, a2, a3, a4, a5, some (tupP q)] = some (.ok true, [a0, a1, a2, a3, a4, a5, some (tupP q)]) := rfl
    have t3 : bnd (SV.ret (D.bl true)) fFrz [a0, a1, a2, a3, a4, a5, some (tupP q)] = some (.ok (.bl true), [a0, a1, a2, a3, a4, a5, some (tupP q)]) := rfl
    have t4 : keyOfD (tupP (mm q)) = some (kq (mm q)) := rfl
    have t5 : wipeE [a0, a1, a2, a3, a4, a5, some (tupP q)] [6] = [a0, a1, a2, a3, a4, a5, none] := rfl
    have t6 : (ps.map kq).length < lim := by
      rw [List.length_map]
      exact Nat.lt_of_le_of_lt (show ps.length ≤ 5000 by omega) (by decide)
    simp only [t1, t2, if_true, ek6, t4, t3, t6, t5, putKs_k]
    rw [show psF ps (q :: qs) = psF (if mm q ∈ ps then ps else ps ++ [mm q]) qs from rfl]
    exact e
theorem b_dc {a0 a1 a2 a3 a4 a5 a6 : Option D} {m : M (List D)} {ρ : SV.Env} {ts : List (Int × Int)} {QD : Res D → SV.Env → Prop} (hl : ts.length ≤ 2000) (h : Ev m ρ fun r ρ1 => r = .ok (ts.map tupP) ∧ ρ1 = [a0, a1, a2, a3, a4, a5, a6]) (k : ∀ ys, QD (.ok (.dt ((psF [] ts).map kq) ys)) [a0, a1, a2, a3, a4, a5, none]) : Ev (mDc m (tgN 6) (SV.ret true) (EK 6) (SV.ret (.bl true)) [6]) ρ QD := by
  unfold mDc
  rw [ev_bnd]
  refine h.imp fun r ρ1 q => ?_
  obtain ⟨rfl, rfl⟩ := q
  rw [onOk_ok]
  obtain ⟨ys, e⟩ := dc_eval a0 a1 a2 a3 a4 a5 ts [] [] (by simp; omega)
  have w : wipeE [a0, a1, a2, a3, a4, a5, a6] [6] = [a0, a1, a2, a3, a4, a5, none] := rfl
  refine ⟨_, _, ?_, k ys⟩
  rw [List.map_nil] at e
  dsimp only
  rw [w, e]
theorem all_pk (ps : List (Int × Int)) : (ps.map kq).all isPK = true := by
  rw [List.all_eq_true]
  intro x hx
  obtain ⟨p, _, rfl⟩ := List.mem_map.mp hx
  rfl
theorem kp_kq (ps : List (Int × Int)) : (ps.map kq).map kpOf = ps := by
  rw [List.map_map]
  conv => rhs; rw [← List.map_id ps]
  apply List.map_congr_left
  intro p _
  rfl
theorem b_skeys {m : M D} {ρ : SV.Env} {ts : List (Int × Int)} {QD : Res D → SV.Env → Prop} (h : Ev m ρ (onOk QD fun d ρ1 => ∃ ys, d = .dt ((psF [] ts).map kq) ys ∧ QD (.ok (.ol ((nrm ts).map tupP))) ρ1)) : Ev (mSKeys m) ρ QD := by
  unfold mSKeys
  rw [ev_bnd]
  refine h.imp fun r ρ1 q => ?_
  cases r with
  | exc c fs => exact q
  | ok d =>
    obtain ⟨ys, rfl, q2⟩ := (show ∃ ys, d = .dt ((psF [] ts).map kq) ys ∧ QD (.ok (.ol ((nrm ts).map tupP))) ρ1 from q)
    rw [onOk_ok]
    clear q
    unfold fSKeys
    simp only
    rw [if_pos (all_pk _), kp_kq, psF_srt]
    exact b_ret q2
/-- self.n = e -/
theorem b_setF {i : Nat} {ok : List (Str × Str)} {n c : Str} {ns : List Str} {xs : List D} {m : M D} {ρ : SV.Env} {QS : Fl → SV.Env → Prop} (h : Ev m ρ (onOkS QS fun d ρ1 => Ev (fFrz d) ρ1 (onOkS QS fun x ρ2 => ρ2[i]? = some (some (.oi c ns xs)) ∧ ((c, n) ∈ ok ∧ n ∉ ns ∧ ns.length < 1000) ∧ QS .nx (ρ2.set i (some (.oi c (ns ++ [n]) (xs ++ [x]))))))) : Es (mSetF ok i n m) ρ QS := by
  unfold mSetF
  rw [es_bndS, ev_bnd]
  refine h.imp fun r ρ1 q => ?_
  cases r with
  | exc c fs => exact q
  | ok d =>
    have q : Ev (fFrz d) ρ1 (onOkS QS fun x ρ2 => ρ2[i]? = some (some (.oi c ns xs)) ∧ ((c, n) ∈ ok ∧ n ∉ ns ∧ ns.length < 1000) ∧ QS .nx (ρ2.set i (some (.oi c (ns ++ [n]) (xs ++ [x]))))) := q
    rw [onOk_ok]
    refine q.imp fun r ρ2 q => ?_
    cases r with
    | exc c fs => exact q
    | ok x =>
      obtain ⟨h0, c1, q⟩ := (show ρ2[i]? = some (some (.oi c ns xs)) ∧ ((c, n) ∈ ok ∧ n ∉ ns ∧ ns.length < 1000) ∧ QS .nx (ρ2.set i (some (.oi c (ns ++ [n]) (xs ++ [x])))) from q)
      refine ⟨.nx, _, ?_, q⟩
      unfold stF
      rw [h0]
      simp only
      rw [if_pos c1]
end LAWP
end
section
set_option Elab.async false
set_option linter.all false
set_option autoImplicit false
set_option maxRecDepth 100000
set_option maxHeartbeats 0
set_option pp.maxSteps 400
namespace LAWP
open PySem PySem.Spec L2 SV LAWM
/-! ### a picture is made -/
theorem gd_ps (ts : List (Int × Int)) : ∀ d ∈ ts.map tupP, gd d = true := fun d hd => by
  obtain ⟨x, _, rfl⟩ := List.mem_map.mp hd
  rfl
local macro_rules
  | `(tactic| solve | $a | $b | $c | $d | $e) => `(tactic| (repeat' (first
      | (apply_rules (transparency := .reducible) (symm := false) (exfalso := false) (maxDepth := 1000) only [@b_ok, @b_okS, @b_nx, @b_seq, @b_op, @b_ret, @b_cons, @b_nil, @b_CB, @b_C1, @b_set, @b_tb, @b_bl, @b_if, @b_end, @b_preps, @b_prepF, @b_preps0, @b_call, @b_owns, @b_owns0])
      | (apply_rules (transparency := .reducible) (symm := false) (exfalso := false) (maxDepth := 1000) only [@b_nret, @b_nexc, @b_exc, @b_excS, @b_nbrk, @b_nct, @b_mret, @b_expr, @b_setI, @b_un, @b_C2, @b_tru, @b_and, @b_or, @b_not, @b_notT, @b_andV, @b_orV, @b_blE, @b_ifE, @b_add, @b_neg, @b_aug, @b_prepT, @b_frzs, @b_frzs0, @b_tup, @b_lst, @b_isN, @b_notN, @b_isi, @b_raise, @b_ownS, @b_bnd, @b_iter, @b_fseq, @b_mfor, @b_enum, @b_callK, @b_sl, @b_part, @b_pi])
      | ((with_reducible apply b_var); rfl; (focus (first | rfl | assumption)); (focus (first | rfl | assumption)))
      | ((with_reducible apply b_varO); rfl; (focus (first | rfl | assumption)))
      | ((with_reducible apply b_st); exact Nat.le_of_ble_eq_true rfl)
      | ((with_reducible apply b_mvS); rfl; (focus (first | rfl | assumption)))
      | ((with_reducible apply b_mv); (focus (first | assumption | (intro _ z; cases z; done))))
      | ((with_reducible apply b_frzS); rfl; (focus (first | rfl | assumption)))
      | ((with_reducible apply b_frzG); focus (first | assumption | rfl))
      | ((with_reducible apply b_frz); (focus (first | assumption | (intro _ z; cases z; done))))
      | ((with_reducible apply b_own); (focus (first | assumption | (intro _ z; cases z; done))))
      | ((with_reducible apply b_II); focus (first | rfl | $c))
      | ((with_reducible apply b_look2); (focus (first | rfl | exact dr_gd (by assumption))); (focus (first | rfl | exact dr_gd (by assumption))); focus (first | exact gEqF | exact gNeF | $a | rfl))
      | ((with_reducible apply b_look); (focus (first | rfl | exact dr_gd (by assumption))); focus (first | $a | rfl))
      | ((with_reducible apply b_trv); (focus (first | rfl | exact dr_gd (by assumption))); rfl)
      | ((with_reducible apply b_io); rfl)
      | ((with_reducible apply b_lim); exact Nat.le_of_ble_eq_true rfl)
      | ((with_reducible apply b_setD); rfl)
      | ((with_reducible apply b_setK); rfl; rfl)
      | ((with_reducible apply b_LM); rfl)
      | ((with_reducible apply b_ifT); focus (first | rfl | $b))
      | ((with_reducible apply b_ifF); focus (first | rfl | $b))
      | ((with_reducible apply b_eT); focus (first | rfl | $b))
      | ((with_reducible apply b_eF); focus (first | rfl | $b))
      | ((with_reducible apply b_rng1); focus (first | (simp [okR]; done) | (simp [okR]; omega)))
      | ((with_reducible apply b_rng2); focus (first | (simp [okR]; done) | (simp [okR]; omega)))
      | ((with_reducible apply b_back); focus (first | rfl | exact cb_f rfl rfl))
      | ((with_reducible apply b_seqF); rfl)
      | ((with_reducible apply b_LMr); rfl; focus (refine lApp ?_; first | (simp; done) | (simp; omega) | $e))
      | ((with_reducible apply b_rz); exact ⟨rfl, Nat.le_of_ble_eq_true rfl, Nat.le_of_ble_eq_true rfl⟩)
      | $d
      | fail)))
theorem it_ev {t : D} {ts : List (Int × Int)} {i : Nat} {ρ : SV.Env} (ht : t = .lst (ts.map tupP) ∨ t = .tup (ts.map tupP)) (h : ρ[i]? = some (some t)) : Ev (mIter (mVar i)) ρ fun r ρ1 => r = .ok (ts.map tupP) ∧ ρ1 = ρ := by
  rcases ht with rfl | rfl
  · refine b_iter ?_
    refine b_var h rfl rfl ?_
    solve | fail | (first | (simp; done) | (simp; omega)) | (first | (simp; done) | (simp; omega)) | fail | fail
    exact ⟨rfl, rfl⟩
  · refine b_iter ?_
    refine b_var h rfl rfl ?_
    solve | fail | (first | (simp; done) | (simp; omega)) | (first | (simp; done) | (simp; omega)) | fail | fail
    exact ⟨rfl, rfl⟩
theorem mkB_some {n : Int} : ∀ {ds : List D} {pre : List Int}, mkB n pre ds = none → ∃ ms : List Int, ds = ms.map D.int
  | [], _, _ => ⟨[], rfl⟩
  | d :: ds, pre, h => by
    unfold mkB at h
    split at h
    · rename_i hw
      obtain ⟨i, rfl⟩ := wh_int hw
      simp only at h
      split at h
      · cases h
      · obtain ⟨ms, rfl⟩ := mkB_some h
        exact ⟨i :: ms, rfl⟩
    · cases h
theorem mkF_some {n : Int} {m : D} (h : mkF n m = none) : ∃ ms : List Int, itemsOf m = some (ms.map D.int) := by
  unfold mkF at h
  split at h
  · rename_i ds e
    split at h
    · split at h
      · cases h
      · rename_i h1 h2
        obtain ⟨ms, rfl⟩ := mkB_some h2
        exact ⟨ms, e⟩
    · cases h
  · cases h
theorem tupOf_i {m : D} {ms : List Int} {ρ : SV.Env} {QD : Res D → SV.Env → Prop} (h : itemsOf m = some (ms.map D.int)) (q : QD (.ok (.tup (ms.map D.int))) ρ) : Ev (fTupOf m) ρ QD := by
  cases m <;> first | (cases h; done) | (cases h; first | exact tupOf_l (gd_ints _) q | exact tupOf_t (gd_ints _) q)
theorem pic_t {c t m : D} {cs ms : List Int} {ts : List (Int × Int)} {Q : Res D → List D → Prop} (hc : c = .ol (cs.map D.int) ∨ c = .tup (cs.map D.int)) (hl2 : ts.length ≤ 2000)
    (ck : ∀ {Q : Res D → List D → Prop}, Q (.ok .non) [c] → Ef f__check_cells [c] Q) (tk : ∀ {Q : Res D → List D → Prop}, Q (.ok .non) [] → Ef f__check_ties [t, .int (cs.length : Nat)] Q) (mk : ∀ {Q : Res D → List D → Prop}, Q (.ok .non) [] → Ef f__check_marks [m, .int (cs.length : Nat)] Q)
    (ht : t = .lst (ts.map tupP) ∨ t = .tup (ts.map tupP)) (hm : itemsOf m = some (ms.map D.int)) (gm : gd m = true)
    (k : Q (.ok .non) [.oi "Picture" ["colours", "ties", "marks"] [.tup (cs.map D.int), .tup ((nrm ts).map tupP), .tup (ms.map D.int)], c]) : Ef f_Picture_I [.oi "Picture" [] [], c, t, m] Q := by
  have hgt : gd t = true := by rcases ht with rfl | rfl <;> rfl
  have ot := gd_own hgt
  have oxt := gd_isX hgt
  have nt := gd_nsl hgt
  have om := gd_own gm
  have oxm := gd_isX gm
  have nm := gd_nsl gm
  have so : (D.oi "Picture" [] []).own = true := rfl
  have ll : (List.map D.int cs).length = cs.length := by simp
  rcases hc with rfl | rfl
  · have gl : gLen (.ol (cs.map D.int)) = some (.int (cs.length : Nat)) := by rw [gLen_o, ll]
    refine ef_fun ?_
    show Es m_Picture_I [some (.oi "Picture" [] []), some (.ol (cs.map D.int)), some t, some m, none, none, none] _
    unfold m_Picture_I
    solve | exact gl | (first | (simp; done) | (simp; omega)) | (first | (simp; done) | (simp; omega)) | (first | refine ck ?_ | refine tk ?_ | refine mk ?_) | fail
    refine b_dc hl2 (it_ev ht rfl) fun ys => ?_
    solve | fail | (first | (simp; done) | (simp; omega)) | (first | (simp; done) | (simp; omega)) | fail | fail
    refine b_setF (c := "Picture") (ns := []) (xs := []) ?_
    solve | fail | (first | (simp; done) | (simp; omega)) | (first | (simp; done) | (simp; omega)) | refine tupOf_s rfl (gd_ints _) ?_ | fail
    refine ⟨rfl, ⟨List.mem_singleton.mpr rfl, by decide +kernel, Nat.lt_of_sub_eq_succ rfl⟩, ?_⟩
    solve | fail | (first | (simp; done) | (simp; omega)) | (first | (simp; done) | (simp; omega)) | fail | fail
    refine b_setF (c := "Picture") (ns := ["colours"]) (xs := [.tup (cs.map D.int)]) ?_
    solve | fail | (first | (simp; done) | (simp; omega)) | (first | (simp; done) | (simp; omega)) | refine b_skeys (ts := ts) ?_ | fail
    refine ⟨ys, rfl, ?_⟩
    solve | fail | (first | (simp; done) | (simp; omega)) | (first | (simp; done) | (simp; omega)) | refine tupOf_g (gd_ps _) ?_ | fail
    refine ⟨rfl, ⟨List.mem_singleton.mpr rfl, by decide +kernel, Nat.lt_of_sub_eq_succ rfl⟩, ?_⟩
    solve | fail | (first | (simp; done) | (simp; omega)) | (first | (simp; done) | (simp; omega)) | fail | fail
    refine b_setF (c := "Picture") (ns := ["colours", "ties"]) (xs := [.tup (cs.map D.int), .tup ((nrm ts).map tupP)]) ?_
    solve | fail | (first | (simp; done) | (simp; omega)) | (first | (simp; done) | (simp; omega)) | refine tupOf_i hm ?_ | fail
    refine ⟨rfl, ⟨List.mem_singleton.mpr rfl, by decide +kernel, Nat.lt_of_sub_eq_succ rfl⟩, ?_⟩
    solve | fail | (first | (simp; done) | (simp; omega)) | (first | (simp; done) | (simp; omega)) | fail | fail
    exact ⟨_, rfl, k⟩
  · have gl : gLen (.tup (cs.map D.int)) = some (.int (cs.length : Nat)) := by rw [gLen_t, ll]
    refine ef_fun ?_
    show Es m_Picture_I [some (.oi "Picture" [] []), some (.tup (cs.map D.int)), some t, some m, none, none, none] _
    unfold m_Picture_I
    solve | exact gl | (first | (simp; done) | (simp; omega)) | (first | (simp; done) | (simp; omega)) | (first | refine ck ?_ | refine tk ?_ | refine mk ?_) | fail
    refine b_dc hl2 (it_ev ht rfl) fun ys => ?_
    solve | fail | (first | (simp; done) | (simp; omega)) | (first | (simp; done) | (simp; omega)) | fail | fail
    refine b_setF (c := "Picture") (ns := []) (xs := []) ?_
    solve | fail | (first | (simp; done) | (simp; omega)) | (first | (simp; done) | (simp; omega)) | refine tupOf_t (gd_ints _) ?_ | fail
    refine ⟨rfl, ⟨List.mem_singleton.mpr rfl, by decide +kernel, Nat.lt_of_sub_eq_succ rfl⟩, ?_⟩
    solve | fail | (first | (simp; done) | (simp; omega)) | (first | (simp; done) | (simp; omega)) | fail | fail
    refine b_setF (c := "Picture") (ns := ["colours"]) (xs := [.tup (cs.map D.int)]) ?_
    solve | fail | (first | (simp; done) | (simp; omega)) | (first | (simp; done) | (simp; omega)) | refine b_skeys (ts := ts) ?_ | fail
    refine ⟨ys, rfl, ?_⟩
    solve | fail | (first | (simp; done) | (simp; omega)) | (first | (simp; done) | (simp; omega)) | refine tupOf_g (gd_ps _) ?_ | fail
    refine ⟨rfl, ⟨List.mem_singleton.mpr rfl, by decide +kernel, Nat.lt_of_sub_eq_succ rfl⟩, ?_⟩
    solve | fail | (first | (simp; done) | (simp; omega)) | (first | (simp; done) | (simp; omega)) | fail | fail
    refine b_setF (c := "Picture") (ns := ["colours", "ties"]) (xs := [.tup (cs.map D.int), .tup ((nrm ts).map tupP)]) ?_
    solve | fail | (first | (simp; done) | (simp; omega)) | (first | (simp; done) | (simp; omega)) | refine tupOf_i hm ?_ | fail
    refine ⟨rfl, ⟨List.mem_singleton.mpr rfl, by decide +kernel, Nat.lt_of_sub_eq_succ rfl⟩, ?_⟩
    solve | fail | (first | (simp; done) | (simp; omega)) | (first | (simp; done) | (simp; omega)) | fail | fail
    exact ⟨_, rfl, k⟩
theorem pic_c {c t m : D} {fs : List (Str × D)} {n : Str} {Q : Res D → List D → Prop} (hc : (∃ ds, c = .ol ds) ∨ ∃ ds, c = .tup ds)
    (ck : ∀ {Q : Res D → List D → Prop}, Q (.exc n fs) [c] → Ef f__check_cells [c] Q) (k : Q (.exc n fs) [.oi "Picture" [] [], c]) : Ef f_Picture_I [.oi "Picture" [] [], c, t, m] Q := by
  refine ef_fun ?_
  show Es m_Picture_I [some (.oi "Picture" [] []), some c, some t, some m, none, none, none] _
  unfold m_Picture_I
  rcases hc with ⟨ds, rfl⟩ | ⟨ds, rfl⟩
  · solve | fail | (first | (simp; done) | (simp; omega)) | (first | (simp; done) | (simp; omega)) | refine ck ?_ | fail
    exact ⟨_, rfl, k⟩
  · solve | fail | (first | (simp; done) | (simp; omega)) | (first | (simp; done) | (simp; omega)) | refine ck ?_ | fail
    exact ⟨_, rfl, k⟩
theorem pic_m {c t m : D} {cs : List Int} {fs : List (Str × D)} {n : Str} {Q : Res D → List D → Prop} (hc : c = .ol (cs.map D.int) ∨ c = .tup (cs.map D.int))
    (ck : ∀ {Q : Res D → List D → Prop}, Q (.ok .non) [c] → Ef f__check_cells [c] Q) (tk : ∀ {Q : Res D → List D → Prop}, Q (.ok .non) [] → Ef f__check_ties [t, .int (cs.length : Nat)] Q) (mk : ∀ {Q : Res D → List D → Prop}, Q (.exc n fs) [] → Ef f__check_marks [m, .int (cs.length : Nat)] Q)
    (hgt : gd t = true) (gm : gd m = true)
    (k : Q (.exc n fs) [.oi "Picture" [] [], c]) : Ef f_Picture_I [.oi "Picture" [] [], c, t, m] Q := by
  have ot := gd_own hgt
  have oxt := gd_isX hgt
  have nt := gd_nsl hgt
  have om := gd_own gm
  have oxm := gd_isX gm
  have nm := gd_nsl gm
  have so : (D.oi "Picture" [] []).own = true := rfl
  have ll : (List.map D.int cs).length = cs.length := by simp
  rcases hc with rfl | rfl
  · have gl : gLen (.ol (cs.map D.int)) = some (.int (cs.length : Nat)) := by rw [gLen_o, ll]
    refine ef_fun ?_
    show Es m_Picture_I [some (.oi "Picture" [] []), some (.ol (cs.map D.int)), some t, some m, none, none, none] _
    unfold m_Picture_I
    solve | exact gl | (first | (simp; done) | (simp; omega)) | (first | (simp; done) | (simp; omega)) | (first | refine ck ?_ | refine tk ?_ | refine mk ?_) | fail
    exact ⟨_, rfl, k⟩
  · have gl : gLen (.tup (cs.map D.int)) = some (.int (cs.length : Nat)) := by rw [gLen_t, ll]
    refine ef_fun ?_
    show Es m_Picture_I [some (.oi "Picture" [] []), some (.tup (cs.map D.int)), some t, some m, none, none, none] _
    unfold m_Picture_I
    solve | exact gl | (first | (simp; done) | (simp; omega)) | (first | (simp; done) | (simp; omega)) | (first | refine ck ?_ | refine tk ?_ | refine mk ?_) | fail
    exact ⟨_, rfl, k⟩
/-- the picture of cells, ties, marks: made, or the first fault -/
theorem pic_k {c t m : D} {ds : List D} {ts : List (Int × Int)} {Q : Res D → List D → Prop} (hc : c = .ol ds ∨ c = .tup ds) (g : ∀ d ∈ ds, gd d = true) (h1 : 1 ≤ ds.length) (h2 : ds.length ≤ 700)
    (ht : t = .lst (ts.map tupP) ∨ t = .tup (ts.map tupP)) (gt : TOk ds.length ts) (hl : ts.length ≤ 2000) (th : Th m)
    (k0 : ∀ j, bad ds 0 = some j → Q (.exc "BadPicture" [("index", .int (j : Nat)), ("what", .str "colour")]) [.oi "Picture" [] [], c])
    (k1 : ∀ j w, bad ds 0 = none → mkF ds.length m = some (j, w) → Q (.exc "BadPicture" [("index", .int (j : Nat)), ("what", .str w)]) [.oi "Picture" [] [], c])
    (k2 : ∀ (cs ms : List Int), ds = cs.map D.int → bad ds 0 = none → mkF ds.length m = none → itemsOf m = some (ms.map D.int) → Q (.ok .non) [.oi "Picture" ["colours", "ties", "marks"] [.tup (cs.map D.int), .tup ((nrm ts).map tupP), .tup (ms.map D.int)], c]) :
    Ef f_Picture_I [.oi "Picture" [] [], c, t, m] Q := by
  cases hb : bad ds 0 with
  | some j =>
    exact pic_c (hc.imp (fun e => ⟨_, e⟩) (fun e => ⟨_, e⟩)) (fun {Q} q => cells_k hc g h1 h2 (fun e => by rw [hb] at e; cases e) (fun i e => by rw [hb] at e; cases e; exact q)) (k0 j hb)
  | none =>
    obtain ⟨cs, rfl, _⟩ := bad_none hb
    have el : (List.map D.int cs).length = cs.length := by simp
    rw [el] at gt k1 k2
    have hgt : gd t = true := by rcases ht with rfl | rfl <;> rfl
    have ck : ∀ {Q : Res D → List D → Prop}, Q (.ok .non) [c] → Ef f__check_cells [c] Q := fun {Q} q => cells_k hc g h1 h2 (fun e => q) (fun i e => by rw [hb] at e; cases e)
    have tk : ∀ {Q : Res D → List D → Prop}, Q (.ok .non) [] → Ef f__check_ties [t, .int (cs.length : Nat)] Q := fun {Q} q => ties_k ht gt hl q
    cases hm : mkF cs.length m with
    | some p =>
      obtain ⟨j, w⟩ := p
      exact pic_m hc ck tk (fun {Q} q => marks_k th (fun e => by rw [hm] at e; cases e) (fun i v e => by rw [hm] at e; cases e; exact q)) hgt th.1 (k1 j w hb hm)
    | none =>
      obtain ⟨ms, im⟩ := mkF_some hm
      exact pic_t hc hl ck tk (fun {Q} q => marks_k th (fun e => q) (fun i v e => by rw [hm] at e; cases e)) ht im th.1 (k2 cs ms rfl hb hm im)
end LAWP
end
section
set_option Elab.async false
set_option linter.all false
set_option autoImplicit false
set_option maxRecDepth 100000
set_option maxHeartbeats 0
set_option pp.maxSteps 400
namespace LAWP
open PySem PySem.Spec L2 SV LAWM
theorem b_makeL {c : Str} {io : List Bool} {f : FM} {a : M (List D)} {ρ : SV.Env} {QD : Res D → SV.Env → Prop} (h : Ev a ρ (onOk QD fun ds ρ1 => Ev (fPreps io ds) ρ1 (onOk QD fun xs ρ2 => io.length = ds.length ∧ Ef f (.oi c [] [] :: xs) fun r cs => ∃ self cs', cs = self :: cs' ∧ ∃ ρ3, callBack io ds cs' ρ2 = some ρ3 ∧ match r with
    | .ok d => d = .non ∧ QD (.ok self.frz) ρ3
    | .exc k fs => QD (.exc k fs) ρ3))) : Ev (mMakeL c io f a) ρ QD := by
  unfold mMakeL
  rw [ev_bnd]
  refine h.imp fun r ρ1 q => ?_
  cases r with
  | exc c fs => exact q
  | ok ds =>
    rw [onOk_ok] at *
    rw [ev_bnd]
    refine q.imp fun r ρ2 q => ?_
    cases r with
    | exc c fs => exact q
    | ok xs =>
      rw [onOk_ok] at *
      obtain ⟨hl, r, cs, e, self, cs', rfl, ρ3, eb, q⟩ := q
      cases r with
      | ok d =>
        obtain ⟨rfl, q⟩ := q
        exact ⟨_, _, by dsimp only; rw [if_pos hl, e]; dsimp only; rw [eb], q⟩
      | exc k fs => exact ⟨_, _, by dsimp only; rw [if_pos hl, e]; dsimp only; rw [eb], q⟩
/-- good marks -/
def MOk (n : Int) (ms : List Int) : Prop := (1 ≤ ms.length ∧ ms.length ≤ 4) ∧ ms.Nodup ∧ ∀ i ∈ ms, 0 ≤ i ∧ i < n
theorem mkB_ok {n : Int} : ∀ {ms pre : List Int}, (pre ++ ms).Nodup → (∀ i ∈ ms, 0 ≤ i ∧ i < n) → mkB n pre (ms.map D.int) = none
  | [], _, _, _ => rfl
  | i :: ms, pre, nd, r => by
    have hi := r i (by simp)
    have hw : whB (some 0) (some (n - 1)) (.int i) = true := wh_in hi.1 hi.2
    have hc : pre.contains i = false := by
      cases e : pre.contains i with
      | false => rfl
      | true =>
        have hm : i ∈ pre := by simpa using e
        exact absurd rfl ((List.nodup_append.mp nd).2.2 i hm i (by simp))
    rw [List.map_cons]
    unfold mkB
    rw [if_pos hw]
    simp only [hc]
    rw [if_neg (by simp)]
    exact mkB_ok (by simpa using nd) fun j hj => r j (by simp [hj])
theorem mkF_ok {n : Int} {m : D} {ms : List Int} (h : MOk n ms) (e : itemsOf m = some (ms.map D.int)) : mkF n m = none := by
  unfold mkF
  rw [e]
  simp only
  rw [if_pos (by simpa using h.1), mkB_ok (by simpa using h.2.1) h.2.2]
theorem map_inj {xs ys : List Int} (h : xs.map D.int = ys.map D.int) : xs = ys := by
  have := congrArg (List.map fun d : D => match d with | .int i => i | _ => 0) h
  simpa [List.map_map, Function.comp_def] using this
theorem th_m {ms : List Int} : Th (.lst (ms.map D.int)) ∧ Th (.tup (ms.map D.int)) := ⟨⟨rfl, fun ds e d hd => by cases e; exact gd_ints _ d hd⟩, ⟨rfl, fun ds e d hd => by cases e; exact gd_ints _ d hd⟩⟩
structure POk (cs : List Int) (ts : List (Int × Int)) (ms : List Int) : Prop where
  c : Rw cs
  c1 : 1 ≤ cs.length
  c2 : cs.length ≤ 700
  t : TOk cs.length ts
  tl : ts.length ≤ 1000
  m : MOk cs.length ms
theorem lc_map {v : Nat} {m : M (List D)} {el : M D} {ρ : SV.Env} {QD : Res D → SV.Env → Prop} (xs : List D) (g : D → D) (hv : v < ρ.length) (hm : Ev m ρ fun r ρ1 => r = .ok xs ∧ ρ1 = ρ) (hl : xs.length ≤ 16777216)
    (he : ∀ x ∈ xs, Ev el (ρ.set v (some x)) fun r ρ1 => r = .ok (g x) ∧ ρ1 = ρ.set v (some x)) (nsl : ∀ x ∈ xs, ∀ i, g x ≠ .sl i) (q : QD (.ok (.ol (xs.map g))) (ρ.set v none)) : Ev (mLc m (tgN v) (SV.ret true) el [v]) ρ QD := by
  have wp : ∀ d : Option D, wipeE (ρ.set v d) [v] = ρ.set v none := fun d => by
    show (ρ.set v d).set v none = _
    rw [List.set_set]
  refine ev_lc (fun ds acc ρ1 => ∃ done, done ++ ds = xs ∧ acc = done.map g ∧ ρ1 = ρ.set v none) (hm.imp fun r ρ1 z => ?_) ?_ ?_
  · obtain ⟨rfl, rfl⟩ := z
    exact ⟨⟨[], rfl, rfl, rfl⟩, hl⟩
  · rintro acc ρ1 ⟨done, e, rfl, rfl⟩
    rw [List.append_nil] at e
    rw [e]
    exact q
  · rintro d ds acc ρ1 ⟨done, e, rfl, rfl⟩
    have hm : d ∈ xs := by rw [← e]; simp
    refine ⟨ρ.set v (some d), ?_, ?_⟩
    · unfold tgN
      rw [if_pos (by rw [List.length_set]; exact hv), List.set_set]
    · refine ⟨_, _, rfl, true, rfl, ?_⟩
      rw [if_pos rfl]
      refine (he d hm).imp fun r ρ2 z => ?_
      obtain ⟨rfl, rfl⟩ := z
      refine ⟨_, rfl, ?_⟩
      rw [ev_own (nsl d hm)]
      exact ⟨_, rfl, done ++ [d], by simpa using e, by simp, wp _⟩
/-- Picture(l, ts, m) of an owned list of colours -/
theorem mkpic_k {cs ms : List Int} {ts : List (Int × Int)} {m : D} {Q : Res D → List D → Prop} (p : POk cs ts ms) (hm : m = .lst (ms.map D.int) ∨ m = .tup (ms.map D.int)) (q : Q (.ok .non) [.oi "Picture" ["colours", "ties", "marks"] [.tup (cs.map D.int), .tup ((nrm ts).map tupP), .tup (ms.map D.int)], .ol (cs.map D.int)]) : Ef f_Picture_I [.oi "Picture" [] [], .ol (cs.map D.int), .lst (ts.map tupP), m] Q := by
  have tl := p.tl
  have ll : (cs.map D.int).length = cs.length := by simp
  have th : Th m := by rcases hm with rfl | rfl; exact th_m.1; exact th_m.2
  have im : itemsOf m = some (ms.map D.int) := by rcases hm with rfl | rfl <;> rfl
  refine pic_k (.inl rfl) (gd_ints _) (by rw [ll]; exact p.c1) (by rw [ll]; exact p.c2) (.inl rfl) (by rw [ll]; exact p.t) (by omega) th (fun j e => ?_) (fun j w _ e => ?_) (fun cs' ms' e _ _ e2 => ?_)
  · rw [bad_ok p.c] at e; cases e
  · rw [ll, mkF_ok p.m im] at e; cases e
  · rw [im] at e2
    rw [← map_inj e, ← map_inj (Option.some.inj e2)]; exact q
end LAWP
end
section
set_option Elab.async false
set_option linter.all false
set_option autoImplicit false
set_option maxRecDepth 100000
set_option maxHeartbeats 0
set_option pp.maxSteps 400
namespace LAWP
open PySem PySem.Spec L2 SV LAWM
theorem ddP_nd : ∀ {l : List (Int × Int)}, l.Nodup → ddP l = l
  | [], _ => rfl
  | q :: l, h => by
    have h := List.nodup_cons.mp h
    unfold ddP
    rw [if_neg h.1, ddP_nd h.2]
end LAWP
end
section
set_option Elab.async false
set_option linter.all false
set_option autoImplicit false
set_option maxRecDepth 100000
set_option maxHeartbeats 0
set_option pp.maxSteps 400
namespace LAWP
open PySem PySem.Spec L2 SV LAWM
/-! ### the tree in plain Lean -/
abbrev Rws := List (List Int)
def lastT (f : Int) (r : List Int) : Int := r.getLast?.getD f
def nt (c last : Int) : List Int := ((List.range c.toNat).map fun i : Nat => (i : Int)).filter fun t => decide (t ≠ last)
def kids (c f : Int) (r : List Int) : Rws := (nt c (lastT f r)).map fun t => r ++ [t]
def lev (c f : Int) : Nat → Rws
  | 0 => [[]]
  | n + 1 => (lev c f n).flatMap (kids c f)
def cells (c f : Int) : Nat → Rws
  | 0 => []
  | n + 1 => cells c f n ++ lev c f n
theorem lastT_nil (f : Int) : lastT f [] = f := rfl
theorem lastT_app (f t : Int) (r : List Int) : lastT f (r ++ [t]) = t := by simp [lastT]
theorem mem_nt {c last t : Int} : t ∈ nt c last ↔ (0 ≤ t ∧ t < c) ∧ t ≠ last := by
  unfold nt
  rw [List.mem_filter]
  constructor
  · rintro ⟨h, h2⟩
    obtain ⟨i, hi, rfl⟩ := List.mem_map.mp h
    rw [List.mem_range] at hi
    exact ⟨⟨by omega, by omega⟩, by simpa using h2⟩
  · rintro ⟨⟨h0, h1⟩, h2⟩
    exact ⟨List.mem_map.mpr ⟨t.toNat, List.mem_range.mpr (by omega), by omega⟩, by simpa using h2⟩
theorem mem_kids {c f : Int} {r x : List Int} : x ∈ kids c f r ↔ ∃ t, ((0 ≤ t ∧ t < c) ∧ t ≠ lastT f r) ∧ x = r ++ [t] := by
  unfold kids
  rw [List.mem_map]
  constructor
  · rintro ⟨t, ht, rfl⟩; exact ⟨t, mem_nt.mp ht, rfl⟩
  · rintro ⟨t, ht, rfl⟩; exact ⟨t, mem_nt.mpr ht, rfl⟩
/-- a row that is struck behind f, of colours below c -/
inductive Vd (c f : Int) : List Int → Prop
  | nil : Vd c f []
  | app {r : List Int} {t : Int} : Vd c f r → 0 ≤ t → t < c → t ≠ lastT f r → Vd c f (r ++ [t])
theorem mem_lev {c f : Int} : ∀ {n : Nat} {x : List Int}, x ∈ lev c f n ↔ Vd c f x ∧ x.length = n
  | 0, x => by
    unfold lev
    rw [List.mem_singleton]
    constructor
    · rintro rfl; exact ⟨.nil, rfl⟩
    · rintro ⟨_, h⟩; exact List.length_eq_zero_iff.mp h
  | n + 1, x => by
    unfold lev
    rw [List.mem_flatMap]
    constructor
    · rintro ⟨r, hr, hx⟩
      obtain ⟨t, ⟨⟨h0, h1⟩, h2⟩, rfl⟩ := mem_kids.mp hx
      obtain ⟨v, hl⟩ := mem_lev.mp hr
      exact ⟨.app v h0 h1 h2, by simp [hl]⟩
    · rintro ⟨v, hl⟩
      cases v with
      | nil => cases hl
      | @app r t v h0 h1 h2 => exact ⟨r, mem_lev.mpr ⟨v, by simpa using hl⟩, mem_kids.mpr ⟨t, ⟨⟨h0, h1⟩, h2⟩, rfl⟩⟩
theorem mem_cells {c f : Int} : ∀ {n : Nat} {x : List Int}, x ∈ cells c f n ↔ Vd c f x ∧ x.length < n
  | 0, x => by simp [cells]
  | n + 1, x => by
    unfold cells
    rw [List.mem_append, mem_cells, mem_lev]
    constructor
    · rintro (⟨v, h⟩ | ⟨v, h⟩) <;> exact ⟨v, by omega⟩
    · rintro ⟨v, h⟩
      by_cases e : x.length = n
      · exact .inr ⟨v, e⟩
      · exact .inl ⟨v, by omega⟩
theorem nodup_nt (c l : Int) : (nt c l).Nodup := by
  refine List.Nodup.sublist List.filter_sublist ?_
  refine List.Pairwise.map _ (fun a b h => ?_) List.nodup_range
  omega
theorem nodup_lev (c f : Int) : ∀ n : Nat, (lev c f n).Nodup
  | 0 => by simp [lev]
  | n + 1 => by
    unfold lev
    refine List.pairwise_flatMap.mpr ⟨fun r _ => ?_, ?_⟩
    · refine List.Pairwise.map _ (fun a b h => ?_) (nodup_nt c (lastT f r))
      intro e
      have := (List.append_inj' e rfl).2
      simp at this
      exact h this
    · refine (nodup_lev c f n).imp fun {a b} h => ?_
      intro x hx y hy e
      subst e
      obtain ⟨t, _, e1⟩ := mem_kids.mp hx
      obtain ⟨u, _, e2⟩ := mem_kids.mp hy
      rw [e1] at e2
      exact h (List.append_inj' e2 rfl).1
theorem nodup_cells (c f : Int) : ∀ n : Nat, (cells c f n).Nodup
  | 0 => by simp [cells]
  | n + 1 => by
    unfold cells
    refine List.nodup_append.mpr ⟨nodup_cells c f n, nodup_lev c f n, fun a ha b hb e => ?_⟩
    subst e
    have h1 := (mem_cells.mp ha).2
    have h2 := (mem_lev.mp hb).2
    omega
/-! ### how many -/
def tot (c : Int) : Nat → Nat
  | 0 => 0
  | n + 1 => tot c n + (c - 1).toNat ^ n
theorem len_nt {c l : Int} (h0 : 0 ≤ l) (h1 : l < c) : (nt c l).length = (c - 1).toNat := by
  have key : ∀ n : Nat, ((List.range n).filter fun i : Nat => decide ((i : Int) ≠ l)).length = if l.toNat < n then n - 1 else n := by
    intro n
    induction n with
    | zero => simp
    | succ n ih =>
      rw [List.range_succ, List.filter_append, List.length_append, ih]
      by_cases e : (n : Int) = l
      · have e2 : l.toNat = n := by omega
        simp [e, e2]
      · simp [e]
        split <;> split <;> omega
  unfold nt
  rw [List.filter_map, List.length_map]
  have k := key c.toNat
  rw [if_pos (by omega)] at k
  simp only [Function.comp_def] at k ⊢
  rw [k]
  omega
theorem Vd.last {c f : Int} (h0 : 0 ≤ f) (h1 : f < c) {r : List Int} (v : Vd c f r) : 0 ≤ lastT f r ∧ lastT f r < c := by
  cases v with
  | nil => exact ⟨h0, h1⟩
  | app v a b d => rw [lastT_app]; exact ⟨a, b⟩
theorem len_lev {c f : Int} (h0 : 0 ≤ f) (h1 : f < c) : ∀ n : Nat, (lev c f n).length = (c - 1).toNat ^ n
  | 0 => rfl
  | n + 1 => by
    unfold lev
    have ih := len_lev h0 h1 n
    have key : ∀ L : Rws, (∀ r ∈ L, Vd c f r) → (L.flatMap (kids c f)).length = L.length * (c - 1).toNat := by
      intro L
      induction L with
      | nil => intro _; simp
      | cons r L ihL =>
        intro h
        have v := (h r (by simp)).last h0 h1
        rw [List.flatMap_cons, List.length_append, ihL fun x hx => h x (by simp [hx])]
        unfold kids
        rw [List.length_map, len_nt v.1 v.2, List.length_cons, Nat.succ_mul, Nat.add_comm]
    rw [key _ fun r hr => (mem_lev.mp hr).1, ih, Nat.pow_succ]
theorem len_cells {c f : Int} (h0 : 0 ≤ f) (h1 : f < c) : ∀ n : Nat, (cells c f n).length = tot c n
  | 0 => rfl
  | n + 1 => by
    unfold cells tot
    rw [List.length_append, len_cells h0 h1 n, len_lev h0 h1 n]
theorem tot_le {c : Int} {m n : Nat} (h : m ≤ n) : tot c m ≤ tot c n := by
  induction n with
  | zero => have : m = 0 := by omega
            rw [this]; exact Nat.le_refl _
  | succ n ih =>
    by_cases e : m = n + 1
    · rw [e]; exact Nat.le_refl _
    · exact Nat.le_trans (ih (by omega)) (Nat.le_add_right _ _)
/-! ### what is shown -/
def hid (r w : List Int) : Bool := r.isSublist w
theorem hid_iff {r w : List Int} : hid r w = true ↔ r.Sublist w := List.isSublist_iff_sublist
/-- what is left behind a row: every cell's colour -/
def lft (C : Rws) (f : Int) (r : List Int) : List Int := C.map fun x => if hid x r = true then lastT f r else lastT f x
theorem lft_len (C : Rws) (f : Int) (r : List Int) : (lft C f r).length = C.length := by simp [lft]
/-- the longest row found -/
def lgS (e : Int) (z x : List Int) (t : Int) : List Int := if t = e ∧ x ≠ [] ∧ lastT 0 x ≠ e ∧ z.length < x.length then x else z
def lg (e : Int) : Rws → List Int → List Int → List Int
  | x :: xs, t :: ts, z => lg e xs ts (lgS e z x t)
  | _, _, z => z
def rot (C : Rws) (f : Int) (s : List Int) : List Int := if lg (s.headD 0) C s [] ≠ [] then lg (s.headD 0) C s [] ++ [s.headD 0] else if s.headD 0 = f then [] else [s.headD 0]
def toldI (C : Rws) (c f : Int) (s : List Int) : Option (List Int) := if s.length = C.length ∧ s.headD 0 < c ∧ s = C.map (fun x => if hid x (rot C f s) = true then s.headD 0 else lastT f x) then some (rot C f s) else none
theorem lastT_ne {f g : Int} {x : List Int} (h : x ≠ []) : lastT f x = lastT g x := by
  rcases List.eq_nil_or_concat x with rfl | ⟨y, t, rfl⟩
  · exact absurd rfl h
  · rw [List.concat_eq_append, lastT_app, lastT_app]
theorem lg_mem {e : Int} : ∀ {xs : Rws} {ts z : List Int}, lg e xs ts z = z ∨ (lg e xs ts z ∈ xs ∧ lg e xs ts z ≠ [] ∧ lastT 0 (lg e xs ts z) ≠ e)
  | [], ts, z => .inl rfl
  | x :: xs, [], z => .inl rfl
  | x :: xs, t :: ts, z => by
    unfold lg
    rcases lg_mem (e := e) (xs := xs) (ts := ts) (z := lgS e z x t) with h | ⟨h, h1, h2⟩
    · rw [h]
      unfold lgS
      split
      · rename_i hc
        exact .inr ⟨by simp, hc.2.1, hc.2.2.1⟩
      · exact .inl rfl
    · exact .inr ⟨by simp [h], h1, h2⟩
/-- if all that may be taken are q or shorter, and q is among them, q is taken -/
theorem lg_q {e : Int} {q : List Int} : ∀ {xs : Rws} {ts z : List Int}, (z = q ∨ z.length < q.length) → xs.length = ts.length → (∀ i (hi : i < xs.length) (hj : i < ts.length), ts[i] = e → xs[i] ≠ [] → lastT 0 xs[i] ≠ e → xs[i] = q ∨ xs[i].length < q.length) →
    (z = q ∨ ∃ i, ∃ (hi : i < xs.length) (hj : i < ts.length), xs[i] = q ∧ ts[i] = e ∧ q ≠ [] ∧ lastT 0 q ≠ e) → lg e xs ts z = q
  | [], ts, z, hz, hl, hc, hq => by
    rcases hq with rfl | ⟨i, hi, _⟩
    · rfl
    · simp at hi
  | x :: xs, [], z, hz, hl, hc, hq => by simp at hl
  | x :: xs, t :: ts, z, hz, hl, hc, hq => by
    unfold lg
    have hx := hc 0 (by simp) (by simp)
    simp only [List.getElem_cons_zero] at hx
    refine lg_q ?_ (by simpa using hl) (fun i hi hj a b d => ?_) ?_
    · unfold lgS
      split
      · rename_i h
        exact hx h.1 h.2.1 h.2.2.1
      · exact hz
    · have := hc (i + 1) (by simpa using hi) (by simpa using hj)
      simp only [List.getElem_cons_succ] at this
      exact this a b d
    · rcases hq with rfl | ⟨i, hi, hj, e1, e2, e3, e4⟩
      · left
        unfold lgS
        split
        · rename_i h
          rcases hx h.1 h.2.1 h.2.2.1 with rfl | h2
          · rfl
          · omega
        · rfl
      · cases i with
        | zero =>
          simp only [List.getElem_cons_zero] at e1 e2
          left
          unfold lgS
          subst e1
          by_cases h : z.length < x.length
          · rw [if_pos ⟨e2, e3, e4, h⟩]
          · rcases hz with rfl | h2
            · split <;> rfl
            · exact absurd h2 h
        | succ i =>
          right
          simp only [List.getElem_cons_succ] at e1 e2
          exact ⟨i, by simpa using hi, by simpa using hj, e1, e2, e3, e4⟩
theorem sub_snoc {x q : List Int} {e : Int} (h : x.Sublist (q ++ [e])) (hx : x ≠ []) (hl : lastT 0 x ≠ e) : x.Sublist q := by
  obtain ⟨a, b, rfl, h1, h2⟩ := List.sublist_append_iff.mp h
  cases b with
  | nil => simpa using h1
  | cons b bs =>
    have hb : (b :: bs) = [e] := by
      have hlen := h2.length_le
      simp at hlen
      subst hlen
      have := List.singleton_sublist.mp h2
      simp at this
      rw [this]
    rw [hb, lastT_app] at hl
    exact absurd rfl hl
theorem Vd.prefix {c f : Int} {q : List Int} {e : Int} (v : Vd c f (q ++ [e])) : Vd c f q ∧ 0 ≤ e ∧ e < c ∧ e ≠ lastT f q := by
  generalize hx : q ++ [e] = x at v
  cases v with
  | nil => simp at hx
  | app v h0 h1 h2 =>
    obtain ⟨rfl, h⟩ := List.append_inj' hx rfl
    simp at h
    subst h
    exact ⟨v, h0, h1, h2⟩
theorem cells_get0 (c f : Int) : ∀ {p : Nat}, 1 ≤ p → (cells c f p)[0]? = some []
  | 1, _ => rfl
  | p + 2, _ => by
    have ih := cells_get0 c f (p := p + 1) (by omega)
    have hl : 0 < (cells c f (p + 1)).length := by
      cases h : cells c f (p + 1) with
      | nil => rw [h] at ih; simp at ih
      | cons x xs => simp
    unfold cells
    rw [List.getElem?_append_left hl, ih]
theorem cells_cons (c f : Int) {p : Nat} (h : 1 ≤ p) : ∃ T, cells c f p = [] :: T := by
  have z := cells_get0 c f h
  cases e : cells c f p with
  | nil => rw [e] at z; simp at z
  | cons x xs => rw [e] at z; simp at z; subst z; exact ⟨xs, rfl⟩
theorem hid_nil (r : List Int) : hid [] r = true := by simp [hid_iff]
theorem lft_head {c f : Int} {p : Nat} (h : 1 ≤ p) (r : List Int) : (lft (cells c f p) f r).headD 0 = lastT f r := by
  obtain ⟨T, e⟩ := cells_cons c f h
  unfold lft
  rw [e, List.map_cons, List.headD_cons, if_pos (hid_nil r)]
/-- a picture that a row left tells that row -/
theorem told_lft {c f : Int} {p : Nat} (hp : 1 ≤ p) (f0 : 0 ≤ f) (f1 : f < c) {r : List Int} (v : Vd c f r) (hl : r.length ≤ p) : toldI (cells c f p) c f (lft (cells c f p) f r) = some r := by
  have hd := lft_head (c := c) (f := f) hp r
  have hr : rot (cells c f p) f (lft (cells c f p) f r) = r := by
    unfold rot
    rw [hd]
    rcases List.eq_nil_or_concat r with rfl | ⟨q, e, hre⟩
    · have z : lg (lastT f []) (cells c f p) (lft (cells c f p) f []) [] = [] := by
        refine lg_q (.inl rfl) (by rw [lft_len]) (fun i hi hj a b d => ?_) (.inl rfl)
        exfalso
        simp only [lft, List.getElem_map] at a
        have hh : hid (cells c f p)[i] [] = false := by
          cases hc : hid (cells c f p)[i] [] with
          | false => rfl
          | true => exact absurd (List.sublist_nil.mp (hid_iff.mp hc)) b
        rw [hh, if_neg (by simp)] at a
        rw [lastT_ne (g := 0) b] at a
        exact d a
      rw [z, if_neg (by simp), if_pos (lastT_nil f)]
    · rw [List.concat_eq_append] at hre
      subst hre
      obtain ⟨vq, e0, e1, e2⟩ := v.prefix
      rw [lastT_app]
      have z : lg e (cells c f p) (lft (cells c f p) f (q ++ [e])) [] = q := by
        refine lg_q ?_ (by rw [lft_len]) (fun i hi hj a b d => ?_) ?_
        · cases q with
          | nil => exact .inl rfl
          | cons x xs => exact .inr (by simp)
        · simp only [lft, List.getElem_map] at a
          have hh : hid (cells c f p)[i] (q ++ [e]) = true := by
            cases hc : hid (cells c f p)[i] (q ++ [e]) with
            | true => rfl
            | false =>
              rw [hc, if_neg (by simp), lastT_ne (g := 0) b] at a
              exact absurd a d
          have hs := sub_snoc (hid_iff.mp hh) b d
          by_cases hle : (cells c f p)[i].length = q.length
          · exact .inl (hs.eq_of_length hle)
          · have := hs.length_le
            exact .inr (by omega)
        · by_cases hq : q = []
          · exact .inl hq.symm
          · have hm : q ∈ cells c f p := mem_cells.mpr ⟨vq, by simp at hl; omega⟩
            obtain ⟨i, hi, hi2⟩ := List.getElem_of_mem hm
            refine .inr ⟨i, hi, by rw [lft_len]; exact hi, hi2, ?_, hq, ?_⟩
            · simp only [lft, List.getElem_map]
              rw [hi2, if_pos (hid_iff.mpr (List.sublist_append_left q [e])), lastT_app]
            · rw [← lastT_ne (f := f) hq]
              exact fun z => e2 z.symm
      rw [z]
      by_cases hq : q = []
      · subst hq
        rw [if_neg (by simp), if_neg (by rw [lastT_nil] at e2; exact e2)]
        rfl
      · rw [if_pos hq]
  unfold toldI
  rw [hr, hd, if_pos ⟨lft_len _ _ _, (v.last f0 f1).2, rfl⟩]
/-- what is told was left by the row that is told -/
theorem told_row {c f : Int} {p : Nat} (hp : 1 ≤ p) {s r : List Int} (h0 : 0 ≤ s.headD 0) (h : toldI (cells c f p) c f s = some r) : (Vd c f r ∧ r.length ≤ p) ∧ lft (cells c f p) f r = s := by
  unfold toldI at h
  split at h
  · rename_i hc
    obtain ⟨h1, h2, h3⟩ := hc
    cases h
    have key : (Vd c f (rot (cells c f p) f s) ∧ (rot (cells c f p) f s).length ≤ p) ∧ lastT f (rot (cells c f p) f s) = s.headD 0 := by
      unfold rot
      split
      · rename_i hne
        rcases lg_mem (e := s.headD 0) (xs := cells c f p) (ts := s) (z := []) with e | ⟨e, e1, e2⟩
        · exact absurd e hne
        · obtain ⟨v, hl⟩ := mem_cells.mp e
          rw [← lastT_ne (f := f) hne] at e2
          exact ⟨⟨.app v h0 h2 (fun z => e2 z.symm), by rw [List.length_append, List.length_singleton]; omega⟩, lastT_app _ _ _⟩
      · split
        · rename_i e
          exact ⟨⟨.nil, by simp⟩, by rw [lastT_nil]; exact e.symm⟩
        · rename_i e
          exact ⟨⟨.app .nil h0 h2 e, by simpa using hp⟩, lastT_app f _ []⟩
    refine ⟨key.1, ?_⟩
    unfold lft
    rw [key.2]
    exact h3.symm
  · cases h
/-! ### rows with stutters -/
inductive Raw : Int → List Int → List Int → Prop
  | nil {a : Int} (n : Nat) : Raw a [] (List.replicate n a)
  | cons {a t : Int} {r w : List Int} (n : Nat) : Raw t r w → Raw a (t :: r) (List.replicate n a ++ t :: w)
theorem strip {a : Int} {s : List Int} (hs : s.head? ≠ some a) : ∀ {n : Nat} {v : List Int}, s.Sublist (List.replicate n a ++ v) → s.Sublist v
  | 0, v, h => by simpa using h
  | n + 1, v, h => by
    rw [List.replicate_succ, List.cons_append] at h
    cases h with
    | cons _ h => exact strip hs h
    | cons_cons _ h => exact absurd rfl hs
/-- no two neighbours alike, and the first is not a -/
def Ch : Int → List Int → Prop
  | _, [] => True
  | a, x :: xs => a ≠ x ∧ Ch x xs
theorem raw_sub {a : Int} {r w : List Int} (h : Raw a r w) : ∀ {s : List Int}, Ch a s → s.Sublist w → s.Sublist r := by
  induction h with
  | nil n =>
    intro s hs h
    rename_i a
    cases s with
    | nil => exact List.Sublist.refl _
    | cons x xs =>
      have := strip (a := a) (s := x :: xs) (v := []) (by simp only [List.head?_cons, ne_eq, Option.some.injEq]; exact fun z => hs.1 z.symm) (by simpa using h)
      simp at this
  | @cons a t r w n h ih =>
    intro s hs h2
    cases s with
    | nil => simp
    | cons x xs =>
      have h3 := strip (a := a) (s := x :: xs) (by simp only [List.head?_cons, ne_eq, Option.some.injEq]; exact fun z => hs.1 z.symm) h2
      by_cases e : x = t
      · subst e
        cases h3 with
        | cons _ h3 =>
          cases hxs : xs with
          | nil => simp
          | cons y ys => subst hxs; exact (ih hs.2 ((List.sublist_cons_self _ _).trans h3)).cons_cons _
        | cons_cons _ h3 => exact (ih hs.2 h3).cons_cons _
      · cases h3 with
        | cons _ h3 => exact (ih (show Ch t (x :: xs) from ⟨fun z => e z.symm, hs.2⟩) h3).cons _
        | cons_cons _ h3 => exact absurd rfl e
theorem raw_sup {a : Int} {r w : List Int} (h : Raw a r w) : r.Sublist w := by
  induction h with
  | nil n => simp
  | cons n h ih => exact (ih.cons_cons _).trans (List.sublist_append_right _ _)
theorem raw_last {a : Int} {r w : List Int} (h : Raw a r w) : lastT a w = lastT a r := by
  induction h with
  | nil n =>
    cases n with
    | zero => rfl
    | succ n => simp [lastT, List.replicate_succ', lastT_nil]
  | @cons a t r w n h ih =>
    have e1 : ∀ (x : Int) (l m : List Int), lastT x (l ++ t :: m) = lastT t m := by
      intro x l m
      rcases List.eq_nil_or_concat m with rfl | ⟨m, y, rfl⟩
      · rw [lastT_app, lastT_nil]
      · rw [List.concat_eq_append, lastT_app, show l ++ t :: (m ++ [y]) = (l ++ t :: m) ++ [y] by simp, lastT_app]
    rw [e1, ih]
    exact (e1 a [] r).symm
theorem raw_app {a t : Int} {r w : List Int} (h : Raw a r w) (n : Nat) : Raw a (r ++ [t]) (w ++ t :: List.replicate n t) := by
  induction h with
  | nil m => exact .cons m (.nil n)
  | cons m h ih => rw [List.append_assoc]; exact .cons m ih
theorem ch_app {a : Int} : ∀ {x : List Int} {t : Int}, Ch a x → t ≠ lastT a x → Ch a (x ++ [t])
  | [], t, _, h => ⟨fun z => h z.symm, trivial⟩
  | x :: xs, t, hc, h => by
    refine ⟨hc.1, ch_app hc.2 ?_⟩
    intro z
    apply h
    rw [z]
    rcases List.eq_nil_or_concat xs with rfl | ⟨m, y, rfl⟩
    · rfl
    · rw [List.concat_eq_append, lastT_app, show x :: (m ++ [y]) = (x :: m) ++ [y] by simp, lastT_app]
theorem Vd.ch {c f : Int} {x : List Int} (v : Vd c f x) : Ch f x := by
  induction v with
  | nil => trivial
  | app v h0 h1 h2 ih => exact ch_app ih h2
theorem lft_raw {c f : Int} {p : Nat} {r w : List Int} (h : Raw f r w) : lft (cells c f p) f w = lft (cells c f p) f r := by
  unfold lft
  refine List.map_congr_left fun x hx => ?_
  rw [raw_last h]
  have v := (mem_cells.mp hx).1
  have e : hid x w = hid x r := by
    cases h1 : hid x r with
    | true => exact hid_iff.mpr ((hid_iff.mp h1).trans (raw_sup h))
    | false =>
      cases h2 : hid x w with
      | false => rfl
      | true => rw [hid_iff.mpr (raw_sub h v.ch (hid_iff.mp h2))] at h1; cases h1
  rw [e]
end LAWP
end
section
set_option Elab.async false
set_option linter.all false
set_option autoImplicit false
set_option maxRecDepth 100000
set_option maxHeartbeats 0
set_option pp.maxSteps 400
namespace LAWP
open PySem PySem.Spec L2 SV LAWM
/-! ### the tree's rows, by the program -/
def rwD (r : List Int) : D := .tup (r.map D.int)
def rwsD (R : Rws) : List D := R.map rwD
theorem rwsD_app (R S : Rws) : rwsD (R ++ S) = rwsD R ++ rwsD S := by simp [rwsD]
theorem rwsD_one (r : List Int) : rwsD [r] = [rwD r] := rfl
theorem gd_rws (R : Rws) : ∀ d ∈ rwsD R, gd d = true := fun d hd => by
  obtain ⟨r, _, rfl⟩ := List.mem_map.mp hd
  rfl
theorem rwD_app (r : List Int) (t : Int) : rwD (r ++ [t]) = .tup (r.map D.int ++ [.int t]) := by simp [rwD]
theorem ix_rws {R : Rws} {i : Nat} {r : List Int} (h : R[i]? = some r) : gIx (.ol (rwsD R)) (.int (i : Nat)) = some (rwD r) := by
  have hl : i < (rwsD R).length := by simp [rwsD]; exact (List.getElem?_eq_some_iff.mp h).1
  have e : (rwsD R)[i]? = some (rwD r) := by simp [rwsD, h]
  have e2 : (rwsD R)[i] = rwD r := by rw [List.getElem?_eq_getElem hl] at e; exact Option.some.inj e
  simp [gIx, D.seq, atI, ixN, hl, e2, D.own, rwD]
theorem ix_rwsL {R : Rws} {i : Nat} {r : List Int} (h : R[i]? = some r) : gIx (.lst (rwsD R)) (.int (i : Nat)) = some (rwD r) := by
  have hl : i < (rwsD R).length := by simp [rwsD]; exact (List.getElem?_eq_some_iff.mp h).1
  have e : (rwsD R)[i]? = some (rwD r) := by simp [rwsD, h]
  have e2 : (rwsD R)[i] = rwD r := by rw [List.getElem?_eq_getElem hl] at e; exact Option.some.inj e
  simp [gIx, D.seq, atI, ixN, hl, e2, D.own, rwD]
theorem ix_lastT {q : List Int} {l : Int} : gIx (rwD (q ++ [l])) (.int (-1)) = some (.int l) := by
  have e : atI ((q ++ [l]).map D.int) (-1) = some (.int l) := by rw [List.map_append]; exact atI_last _ _
  show (match atI ((q ++ [l]).map D.int) (-1) with
    | some d => if d.own = true then none else some d
    | none => none) = _
  rw [e]
  rfl
theorem add_rt {r : List Int} {t : Int} {ρ : SV.Env} {QD : Res D → SV.Env → Prop} (hl : r.length ≤ 1000) (q : QD (.ok (rwD (r ++ [t]))) ρ) : Ev (fAddA (rwD r) (.tup [.int t])) ρ QD := by
  refine ⟨_, _, ?_, q⟩
  have h : (r.map D.int).length + [D.int t].length ≤ lim := by rw [List.length_map]; simp [lim]; omega
  show (if (r.map D.int).length + [D.int t].length ≤ lim then SV.ret (D.tup (r.map D.int ++ [D.int t])) else stuck) ρ = _
  rw [if_pos h, ← rwD_app]
  rfl
/-- `r[-1] if r else first` -/
local macro_rules
  | `(tactic| solve | $a | $b | $c | $d | $e) => `(tactic| (repeat' (first
      | (apply_rules (transparency := .reducible) (symm := false) (exfalso := false) (maxDepth := 1000) only [@b_ok, @b_okS, @b_nx, @b_seq, @b_op, @b_ret, @b_cons, @b_nil, @b_CB, @b_C1, @b_set, @b_tb, @b_bl, @b_if, @b_end, @b_preps, @b_prepF, @b_preps0, @b_call, @b_owns, @b_owns0])
      | (apply_rules (transparency := .reducible) (symm := false) (exfalso := false) (maxDepth := 1000) only [@b_nret, @b_nexc, @b_exc, @b_excS, @b_nbrk, @b_nct, @b_mret, @b_expr, @b_setI, @b_un, @b_C2, @b_tru, @b_and, @b_or, @b_not, @b_notT, @b_andV, @b_orV, @b_blE, @b_ifE, @b_add, @b_neg, @b_aug, @b_prepT, @b_frzs, @b_frzs0, @b_tup, @b_lst, @b_isN, @b_notN, @b_isi, @b_raise, @b_ownS, @b_bnd, @b_iter, @b_fseq, @b_mfor, @b_enum, @b_callK, @b_sl, @b_part, @b_pi])
      | ((with_reducible apply b_var); rfl; (focus (first | rfl | assumption)); (focus (first | rfl | assumption)))
      | ((with_reducible apply b_varO); rfl; (focus (first | rfl | assumption)))
      | ((with_reducible apply b_st); exact Nat.le_of_ble_eq_true rfl)
      | ((with_reducible apply b_mvS); rfl; (focus (first | rfl | assumption)))
      | ((with_reducible apply b_mv); (focus (first | assumption | (intro _ z; cases z; done))))
      | ((with_reducible apply b_frzS); rfl; (focus (first | rfl | assumption)))
      | ((with_reducible apply b_frzG); focus (first | assumption | rfl))
      | ((with_reducible apply b_frz); (focus (first | assumption | (intro _ z; cases z; done))))
      | ((with_reducible apply b_own); (focus (first | assumption | (intro _ z; cases z; done))))
      | ((with_reducible apply b_II); focus (first | rfl | $c))
      | ((with_reducible apply b_look2); (focus (first | rfl | exact dr_gd (by assumption))); (focus (first | rfl | exact dr_gd (by assumption))); focus (first | exact gEqF | exact gNeF | $a | rfl))
      | ((with_reducible apply b_look); (focus (first | rfl | exact dr_gd (by assumption))); focus (first | $a | rfl))
      | ((with_reducible apply b_trv); (focus (first | rfl | exact dr_gd (by assumption))); rfl)
      | ((with_reducible apply b_io); rfl)
      | ((with_reducible apply b_lim); exact Nat.le_of_ble_eq_true rfl)
      | ((with_reducible apply b_setD); rfl)
      | ((with_reducible apply b_setK); rfl; rfl)
      | ((with_reducible apply b_LM); rfl)
      | ((with_reducible apply b_ifT); focus (first | rfl | $b))
      | ((with_reducible apply b_ifF); focus (first | rfl | $b))
      | ((with_reducible apply b_eT); focus (first | rfl | $b))
      | ((with_reducible apply b_eF); focus (first | rfl | $b))
      | ((with_reducible apply b_rng1); focus (first | (simp [okR]; done) | (simp [okR]; omega)))
      | ((with_reducible apply b_rng2); focus (first | (simp [okR]; done) | (simp [okR]; omega)))
      | ((with_reducible apply b_back); focus (first | rfl | exact cb_f rfl rfl))
      | ((with_reducible apply b_seqF); rfl)
      | ((with_reducible apply b_LMr); rfl; focus (refine lApp ?_; first | (simp; done) | (simp; omega) | $e))
      | ((with_reducible apply b_rz); exact ⟨rfl, Nat.le_of_ble_eq_true rfl, Nat.le_of_ble_eq_true rfl⟩)
      | $d
      | fail)))
theorem b_lastE {e : M D} {i : Nat} {ρ : SV.Env} {r : List Int} {f : Int} {QD : Res D → SV.Env → Prop} (he : Ev e ρ fun x ρ1 => x = .ok (rwD r) ∧ ρ1 = ρ) (hi : ρ[i]? = some (some (.int f))) (q : QD (.ok (.int (lastT f r))) ρ) : Ev (mIfE (mTru e) (mOp fIx e (mUn fNeg (SV.ret (.int 1)))) (mVar i)) ρ QD := by
  refine b_ifE (b_tru (he.imp ?_))
  rintro _ _ ⟨rfl, rfl⟩
  rcases List.eq_nil_or_concat r with rfl | ⟨m, l, rfl⟩
  · refine b_ok ?_
    exact b_trv rfl rfl (b_eF rfl (b_var hi rfl rfl q))
  · rw [List.concat_eq_append, lastT_app] at *
    refine b_ok ?_
    refine b_trv (b := true) rfl (by simp [rwD, D.tru]) (b_eT rfl ?_)
    refine b_op (he.imp ?_)
    rintro _ _ ⟨rfl, rfl⟩
    solve | exact ix_lastT | (first | (simp; done) | (simp; omega)) | (first | (simp; done) | (simp; omega)) | fail | fail
    exact q
theorem others_k {c l : Int} {Q : Res D → List D → Prop} (c0 : 0 ≤ c) (c1 : c ≤ 10) (k : Q (.ok (.tup ((nt c l).map D.int))) []) : Ef f_other_tones [.int c, .int l] Q := by
  refine ef_fun ?_
  show Es m_other_tones [some (.int c), some (.int l), none] _
  unfold m_other_tones
  solve | fail | (first | (simp; done) | (simp; omega)) | (first | (simp; done) | (simp; omega)) | fail | fail
  refine ev_lc (fun dsl acc ρ => ∃ (i m : Nat), dsl = SV.upTo (i : Int) m ∧ i + m = c.toNat ∧ acc = ((((List.range i).map fun i : Nat => (i : Int)).filter fun t => decide (t ≠ l)).map D.int) ∧ ρ = [some (.int c), some (.int l), none]) ?_ ?_ ?_
  · solve | fail | (first | (simp; done) | (simp; omega)) | (first | (simp; done) | (simp; omega)) | fail | fail
    exact ⟨⟨0, c.toNat, by simp, by omega, rfl, rfl⟩, by rw [SV.upTo_length]; simp [lim]; omega⟩
  · rintro acc ρ ⟨i, m, e, hi, rfl, rfl⟩
    cases m with
    | succ m => rw [upTo_succ] at e; cases e
    | zero =>
      have e2 : i = c.toNat := by omega
      subst e2
      solve | fail | (first | (simp; done) | (simp; omega)) | (first | (simp; done) | (simp; omega)) | refine tupOf_g (gd_ints _) ?_ | fail
      exact ⟨_, rfl, k⟩
  · rintro d dsl acc ρ ⟨i, m, e, hi, rfl, rfl⟩
    cases m with
    | zero => cases e
    | succ m =>
      rw [upTo_succ] at e
      cases e
      refine ⟨_, rfl, ?_⟩
      by_cases h : (i : Int) = l
      · solve | fail | (first | (simp; done) | (simp; omega)) | (first | (simp; done) | (simp; omega)) | fail | fail
        refine ⟨false, by simp [h], ?_⟩
        rw [if_neg (by simp)]
        exact ⟨i + 1, m, by simp, by omega, by rw [List.range_succ, List.map_append, List.filter_append]; simp [h], rfl⟩
      · solve | fail | (first | (simp; done) | (simp; omega)) | (first | (simp; done) | (simp; omega)) | fail | fail
        refine ⟨true, by simp [h], ?_⟩
        rw [if_pos rfl]
        solve | fail | (first | (simp; done) | (simp; omega)) | (first | (simp; done) | (simp; omega)) | fail | fail
        refine ⟨_, rfl, ?_⟩
        solve | fail | (first | (simp; done) | (simp; omega)) | (first | (simp; done) | (simp; omega)) | fail | fail
        exact ⟨_, rfl, i + 1, m, by simp, by omega, by rw [List.range_succ, List.map_append, List.filter_append]; simp [h], rfl⟩
/-- where each row but the first comes from -/
structure Bf (R : Rws) (B : List Int) : Prop where
  len : B.length + 1 = R.length
  par : ∀ (i : Nat) (b : Int), B[i]? = some b → 0 ≤ b ∧ b ≤ i ∧ ∃ r, R[b.toNat]? = some r ∧ R[i + 1]?.map List.dropLast = some r
  mono : B.Pairwise (· ≤ ·)
theorem Bf.app {R : Rws} {B : List Int} {pl : Nat} {r : List Int} {t : Int} (h : Bf R B) (hr : R[pl]? = some r) (hb : ∀ b ∈ B, b ≤ (pl : Int)) : Bf (R ++ [r ++ [t]]) (B ++ [(pl : Int)]) where
  len := by simp [h.len]
  par := fun i b e => by
    have hp : pl < R.length := (List.getElem?_eq_some_iff.mp hr).1
    rcases Nat.lt_trichotomy i B.length with hi | hi | hi
    · rw [List.getElem?_append_left hi] at e
      obtain ⟨h0, h1, r', hr', hd⟩ := h.par i b e
      have hl := h.len
      refine ⟨h0, h1, r', ?_, ?_⟩
      · rw [List.getElem?_append_left (by omega)]; exact hr'
      · rw [List.getElem?_append_left (by omega)]; exact hd
    · subst hi
      rw [List.getElem?_append_right (Nat.le_refl _)] at e
      simp at e
      subst e
      have hl := h.len
      refine ⟨by omega, by omega, r, ?_, ?_⟩
      · rw [List.getElem?_append_left (by omega)]; simpa using hr
      · rw [List.getElem?_append_right (by omega), hl]
        simp
    · rw [List.getElem?_eq_none (by simp; omega)] at e
      cases e
  mono := List.pairwise_append.mpr ⟨h.mono, by simp, fun a ha b hb2 => by rw [List.mem_singleton] at hb2; subst hb2; exact hb a ha⟩
def bfD (B : List Int) : List D := .non :: B.map D.int
theorem bfD_app (B : List Int) (b : Int) : bfD (B ++ [b]) = bfD B ++ [.int b] := by simp [bfD]
theorem lev_get {c f : Int} {k j : Nat} {r : List Int} (h : (lev c f k)[j]? = some r) {R Z : Rws} (hz : R ++ Z = cells c f (k + 2)) (hl : (cells c f (k + 1)).length ≤ R.length) : R[(cells c f k).length + j]? = some r := by
  have h1 : (cells c f (k + 1))[(cells c f k).length + j]? = some r := by
    show (cells c f k ++ lev c f k)[(cells c f k).length + j]? = some r
    rw [List.getElem?_append_right (by omega)]
    simpa using h
  have hl2 : (cells c f k).length + j < (cells c f (k + 1)).length := (List.getElem?_eq_some_iff.mp h1).1
  have h2 : (cells c f (k + 2))[(cells c f k).length + j]? = some r := by
    show (cells c f (k + 1) ++ lev c f (k + 1))[(cells c f k).length + j]? = some r
    rw [List.getElem?_append_left hl2]; exact h1
  rw [← hz, List.getElem?_append_left (by omega)] at h2
  exact h2
theorem rows_k {c f : Int} {p : Nat} {Q : Res D → List D → Prop} (c0 : 2 ≤ c) (c1 : c ≤ 10) (p0 : 1 ≤ p) (p1 : p ≤ 12) (f0 : 0 ≤ f) (f1 : f < c) (ht : tot c p ≤ 700)
    (k : ∀ B, Bf (cells c f p) B → Q (.ok (.tup [.lst (rwsD (cells c f p)), .lst (bfD B)])) []) : Ef f_tree_rows [.int c, .int (p : Nat), .int f] Q := by
  refine ef_fun ?_
  show Es m_tree_rows [some (.int c), some (.int (p : Nat)), some (.int f), none, none, none, none, none, none, none] _
  unfold m_tree_rows
  solve | fail | (first | (simp; done) | (simp; omega)) | (first | (simp; done) | (simp; omega)) | fail | fail
  refine es_for (fun dsl ρ => ∃ (j m : Nat) (B : List Int) (a6 a7 a8 a9 : Option D), dsl = SV.upTo (j : Int) m ∧ j + m + 1 = p ∧ Bf (cells c f (j + 1)) B ∧ (∀ b ∈ B, b < ((cells c f j).length : Int)) ∧ ρ = [some (.int c), some (.int (p : Nat)), some (.int f), some (.ol (rwsD (cells c f (j + 1)))), some (.ol (bfD B)), some (.int ((cells c f j).length : Nat)), a6, a7, a8, a9]) ?_ ?_ _ _ ⟨0, p - 1, [], none, none, none, none, by simp, by omega, ⟨rfl, (fun i b e => by simp at e), by simp⟩, (by simp), rfl⟩
  · rintro ρ ⟨j, m, B, a6, a7, a8, a9, e, hj, hB, hb, rfl⟩
    cases m with
    | succ m => rw [upTo_succ] at e; cases e
    | zero =>
      have e2 : j + 1 = p := by omega
      rw [e2] at hB
      rw [e2]
      have fr := frzs_gd (gd_rws (cells c f p))
      have fr2 : D.frzs (bfD B) = bfD B := by
        refine frzs_gd fun d hd => ?_
        unfold bfD at hd
        rcases List.mem_cons.mp hd with rfl | hd
        · rfl
        · exact gd_ints _ d hd
      solve | fail | (first | (simp; done) | (simp; omega)) | (first | (simp; done) | (simp; omega)) | fail | fail
      simp only [D.frz, fr, fr2]
      solve | fail | (first | (simp; done) | (simp; omega)) | (first | (simp; done) | (simp; omega)) | fail | fail
      exact ⟨_, rfl, k B hB⟩
  · rintro d dsl ρ ⟨j, m, B, a6, a7, a8, a9, e, hj, hB, hb, rfl⟩
    cases m with
    | zero => cases e
    | succ m =>
      rw [upTo_succ] at e
      cases e
      refine ⟨_, rfl, ?_⟩
      have n1 := len_cells f0 f1 (j + 2)
      have n2 : tot c (j + 2) ≤ 700 := Nat.le_trans (tot_le (by omega)) ht
      have n3 : (cells c f (j + 1)).length = (cells c f j).length + (lev c f j).length := by show (cells c f j ++ lev c f j).length = _; simp
      have gl : gLen (.ol (rwsD (cells c f (j + 1)))) = some (.int ((cells c f (j + 1)).length : Nat)) := by rw [gLen_o]; simp [rwsD]
      have n4 : (cells c f (j + 2)).length = (cells c f (j + 1)).length + (lev c f (j + 1)).length := by show (cells c f (j + 1) ++ lev c f (j + 1)).length = _; simp
      solve | exact gl | (first | (simp; done) | (simp; omega)) | (first | (simp; done) | (simp; omega)) | fail | fail
      refine es_for (fun dsl ρ => ∃ (i m2 : Nat) (R : Rws) (B : List Int) (a8 a9 : Option D), dsl = SV.upTo (((cells c f j).length + i : Nat) : Int) m2 ∧ i + m2 = (lev c f j).length ∧ R ++ ((lev c f j).drop i).flatMap (kids c f) = cells c f (j + 2) ∧ (cells c f (j + 1)).length ≤ R.length ∧ Bf R B ∧ (∀ b ∈ B, b < (((cells c f j).length + i : Nat) : Int)) ∧ ρ = [some (.int c), some (.int (p : Nat)), some (.int f), some (.ol (rwsD R)), some (.ol (bfD B)), some (.int ((cells c f j).length : Nat)), some (.int (j : Int)), some (.int ((cells c f (j + 1)).length : Nat)), a8, a9]) ?_ ?_ _ _ ⟨0, (lev c f j).length, cells c f (j + 1), B, a8, a9, by rw [show ((((cells c f (j + 1)).length : Nat) : Int) - ((cells c f j).length : Nat)).toNat = (lev c f j).length by omega]; rfl, by omega, by rw [List.drop_zero]; rfl, Nat.le_refl _, hB, (fun b h => by have := hb b h; omega), rfl⟩
      · rintro ρ ⟨i, m2, R, B, a8, a9, e, hi, hz, hl, hB, hb, rfl⟩
        cases m2 with
        | succ m2 => rw [upTo_succ] at e; cases e
        | zero =>
          have e2 : i = (lev c f j).length := by omega
          rw [e2, List.drop_length, List.flatMap_nil, List.append_nil] at hz
          subst hz
          have gl2 : gLen (.ol (rwsD (cells c f (j + 2)))) = some (.int ((cells c f (j + 2)).length : Nat)) := by rw [gLen_o]; simp [rwsD]
          solve | fail | (first | (simp; done) | (simp; omega)) | (first | (simp; done) | (simp; omega)) | fail | fail
          exact ⟨j + 1, m, B, _, _, _, _, by simp, by omega, hB, (fun b h => by have := hb b h; omega), rfl⟩
      · rintro d dsl ρ ⟨i, m2, R, B, a8, a9, e, hi, hz, hl, hB, hb, rfl⟩
        cases m2 with
        | zero => cases e
        | succ m2 =>
          rw [upTo_succ] at e
          cases e
          refine ⟨_, rfl, ?_⟩
          have hi2 : i < (lev c f j).length := by omega
          obtain ⟨r, hr⟩ : ∃ r, (lev c f j)[i]? = some r := ⟨_, List.getElem?_eq_getElem hi2⟩
          have v := (mem_lev.mp (List.mem_of_getElem? hr)).1
          have vl := (mem_lev.mp (List.mem_of_getElem? hr)).2
          have hR := lev_get hr hz hl
          have gx := ix_rws hR
          have dr : (lev c f j).drop i = r :: (lev c f j).drop (i + 1) := by
            rw [List.drop_eq_getElem_cons hi2]
            have e2 : (lev c f j)[i] = r := by rw [List.getElem?_eq_getElem hi2] at hr; exact Option.some.inj hr
            rw [e2]
          rw [dr, List.flatMap_cons] at hz
          have lb := v.last f0 f1
          refine b_mfor (b_iter (b_call (b_cons (b_var rfl rfl rfl (b_ok (b_cons (b_lastE (r := r) (f := f) ?he rfl (b_ok ?_))))))))
          case he =>
            solve | exact gx | (first | (simp; done) | (simp; omega)) | (first | (simp; done) | (simp; omega)) | fail | fail
            exact ⟨rfl, rfl⟩
          solve | fail | (first | (simp; done) | (simp; omega)) | (first | (simp; done) | (simp; omega)) | refine others_k (by omega) (by omega) ?_ | fail
          refine es_for (fun dsl ρ => ∃ (rest : List Int) (R : Rws) (B : List Int) (a9 : Option D), dsl = rest.map D.int ∧ R ++ (rest.map (fun t => r ++ [t]) ++ ((lev c f j).drop (i + 1)).flatMap (kids c f)) = cells c f (j + 2) ∧ (cells c f (j + 1)).length ≤ R.length ∧ Bf R B ∧ (∀ b ∈ B, b < (((cells c f j).length + i + 1 : Nat) : Int)) ∧ ρ = [some (.int c), some (.int (p : Nat)), some (.int f), some (.ol (rwsD R)), some (.ol (bfD B)), some (.int ((cells c f j).length : Nat)), some (.int (j : Int)), some (.int ((cells c f (j + 1)).length : Nat)), some (.int (((cells c f j).length + i : Nat) : Int)), a9]) ?_ ?_ _ _ ⟨nt c (lastT f r), R, B, a9, rfl, hz, hl, hB, (fun b h => by have := hb b h; omega), rfl⟩
          · rintro ρ ⟨rest, R, B, a9, e, hz, hl, hB, hb, rfl⟩
            cases rest with
            | cons t rest => cases e
            | nil => exact ⟨i + 1, m2, R, B, _, _, rfl, by omega, hz, hl, hB, hb, rfl⟩
          · rintro d dsl ρ ⟨rest, R, B, a9, e, hz, hl, hB, hb, rfl⟩
            cases rest with
            | nil => cases e
            | cons t rest =>
              cases e
              refine ⟨_, rfl, ?_⟩
              have hz2 : R ++ (kids c f r ++ ((lev c f j).drop (i + 1)).flatMap (kids c f)) = R ++ (kids c f r ++ ((lev c f j).drop (i + 1)).flatMap (kids c f)) := rfl
              have hR := lev_get hr hz hl
              have gx := ix_rws hR
              have hlen : R.length < 700 := by
                have := congrArg List.length hz
                rw [List.length_append, List.map_cons, List.cons_append, List.length_cons, n1] at this
                omega
              have hbl := hB.len
              solve | exact gx | (first | (simp; done) | (simp; omega)) | (first | (simp; done) | (simp; omega)) | with_reducible refine add_rt (by omega) ?_ | (first | (simp [rwsD]; omega) | (simp [bfD]; omega))
              refine ⟨rest, R ++ [r ++ [t]], B ++ [(((cells c f j).length + i : Nat) : Int)], some (.int t), rfl, by rw [← hz]; simp, by rw [List.length_append]; omega, hB.app hR fun b h => by have := hb b h; omega, (fun b h => ?_), ?_⟩
              · rcases List.mem_append.mp h with h | h
                · exact hb b h
                · rw [List.mem_singleton] at h; omega
              · simp [rwsD_app, rwsD_one, rwD_app, bfD_app]
end LAWP
end
section
set_option Elab.async false
set_option linter.all false
set_option autoImplicit false
set_option maxRecDepth 100000
set_option maxHeartbeats 0
set_option pp.maxSteps 400
namespace LAWP
open PySem PySem.Spec L2 SV LAWM
theorem wh_of {lo hi : Int} {d : D} (h : whB (some lo) (some hi) d = true) : ∃ i : Int, d = .int i ∧ lo ≤ i ∧ i ≤ hi := by
  obtain ⟨i, rfl⟩ := wh_int h
  simp [whB] at h
  exact ⟨i, rfl, h.1, h.2⟩
local macro_rules
  | `(tactic| solve | $a | $b | $c | $d | $e) => `(tactic| (repeat' (first
      | (apply_rules (transparency := .reducible) (symm := false) (exfalso := false) (maxDepth := 1000) only [@b_ok, @b_okS, @b_nx, @b_seq, @b_op, @b_ret, @b_cons, @b_nil, @b_CB, @b_C1, @b_set, @b_tb, @b_bl, @b_if, @b_end, @b_preps, @b_prepF, @b_preps0, @b_call, @b_owns, @b_owns0])
      | (apply_rules (transparency := .reducible) (symm := false) (exfalso := false) (maxDepth := 1000) only [@b_nret, @b_nexc, @b_exc, @b_excS, @b_nbrk, @b_nct, @b_mret, @b_expr, @b_setI, @b_un, @b_C2, @b_tru, @b_and, @b_or, @b_not, @b_notT, @b_andV, @b_orV, @b_blE, @b_ifE, @b_add, @b_neg, @b_aug, @b_prepT, @b_frzs, @b_frzs0, @b_tup, @b_lst, @b_isN, @b_notN, @b_isi, @b_raise, @b_ownS, @b_bnd, @b_iter, @b_fseq, @b_mfor, @b_enum, @b_callK, @b_sl, @b_part, @b_pi])
      | ((with_reducible apply b_var); rfl; (focus (first | rfl | assumption)); (focus (first | rfl | assumption)))
      | ((with_reducible apply b_varO); rfl; (focus (first | rfl | assumption)))
      | ((with_reducible apply b_st); exact Nat.le_of_ble_eq_true rfl)
      | ((with_reducible apply b_mvS); rfl; (focus (first | rfl | assumption)))
      | ((with_reducible apply b_mv); (focus (first | assumption | (intro _ z; cases z; done))))
      | ((with_reducible apply b_frzS); rfl; (focus (first | rfl | assumption)))
      | ((with_reducible apply b_frzG); focus (first | assumption | rfl))
      | ((with_reducible apply b_frz); (focus (first | assumption | (intro _ z; cases z; done))))
      | ((with_reducible apply b_own); (focus (first | assumption | (intro _ z; cases z; done))))
      | ((with_reducible apply b_II); focus (first | rfl | $c))
      | ((with_reducible apply b_look2); (focus (first | rfl | exact dr_gd (by assumption))); (focus (first | rfl | exact dr_gd (by assumption))); focus (first | exact gEqF | exact gNeF | $a | rfl))
      | ((with_reducible apply b_look); (focus (first | rfl | exact dr_gd (by assumption))); focus (first | $a | rfl))
      | ((with_reducible apply b_trv); (focus (first | rfl | exact dr_gd (by assumption))); rfl)
      | ((with_reducible apply b_io); rfl)
      | ((with_reducible apply b_lim); exact Nat.le_of_ble_eq_true rfl)
      | ((with_reducible apply b_setD); rfl)
      | ((with_reducible apply b_setK); rfl; rfl)
      | ((with_reducible apply b_LM); rfl)
      | ((with_reducible apply b_ifT); focus (first | rfl | $b))
      | ((with_reducible apply b_ifF); focus (first | rfl | $b))
      | ((with_reducible apply b_eT); focus (first | rfl | $b))
      | ((with_reducible apply b_eF); focus (first | rfl | $b))
      | ((with_reducible apply b_rng1); focus (first | (simp [okR]; done) | (simp [okR]; omega)))
      | ((with_reducible apply b_rng2); focus (first | (simp [okR]; done) | (simp [okR]; omega)))
      | ((with_reducible apply b_back); focus (first | rfl | exact cb_f rfl rfl))
      | ((with_reducible apply b_seqF); rfl)
      | ((with_reducible apply b_LMr); rfl; focus (refine lApp ?_; first | (simp; done) | (simp; omega) | $e))
      | ((with_reducible apply b_rz); exact ⟨rfl, Nat.le_of_ble_eq_true rfl, Nat.le_of_ble_eq_true rfl⟩)
      | $d
      | fail)))
theorem chk_k {a b d : D} {Q : Res D → List D → Prop} (ga : gd a = true) (gb : gd b = true) (gdd : gd d = true)
    (k1 : whB (some 2) (some 10) a = false → Q (.exc "BadCount" [("what", .str "colours")]) [])
    (k2 : whB (some 2) (some 10) a = true → whB (some 1) (some 12) b = false → Q (.exc "BadCount" [("what", .str "pours")]) [])
    (k3 : ∀ c : Int, a = .int c → 2 ≤ c → c ≤ 10 → whB (some 1) (some 12) b = true → whB (some 0) (some (c - 1)) d = false → Q (.exc "BadCount" [("what", .str "first")]) [])
    (k4 : ∀ (c f : Int) (p : Nat), a = .int c → b = .int (p : Nat) → d = .int f → 2 ≤ c → c ≤ 10 → 1 ≤ p → p ≤ 12 → 0 ≤ f → f < c → 700 < tot c p → Q (.exc "TooMany" [("most", .int 700)]) [])
    (k5 : ∀ (c f : Int) (p : Nat), a = .int c → b = .int (p : Nat) → d = .int f → 2 ≤ c → c ≤ 10 → 1 ≤ p → p ≤ 12 → 0 ≤ f → f < c → tot c p ≤ 700 → Q (.ok .non) []) : Ef f_check_tree [a, b, d] Q := by
  refine ef_fun ?_
  show Es m_check_tree [some a, some b, some d, none, none, none] _
  unfold m_check_tree
  have o := gd_own ga
  have ox := gd_isX ga
  have nn := gd_nsl ga
  have o2 := gd_own gb
  have ox2 := gd_isX gb
  have nn2 := gd_nsl gb
  have o3 := gd_own gdd
  have ox3 := gd_isX gdd
  have nn3 := gd_nsl gdd
  have w1 : ∀ {Q : Res D → List D → Prop}, Q (.ok (.bl (whB (some 2) (some 10) a))) [] → Ef f_is_whole [a, .int 2, .int 10] Q := fun {Q} k => whole_g (lo := some 2) (hi := some 10) ga k
  have w2 : ∀ {Q : Res D → List D → Prop}, Q (.ok (.bl (whB (some 1) (some 12) b))) [] → Ef f_is_whole [b, .int 1, .int 12] Q := fun {Q} k => whole_g (lo := some 1) (hi := some 12) gb k
  cases h1 : whB (some 2) (some 10) a with
  | false =>
    solve | fail | (simp [h1]; done) | (first | (simp; done) | (simp; omega)) | refine w1 ?_ | fail
    exact ⟨_, rfl, k1 h1⟩
  | true =>
    cases h2 : whB (some 1) (some 12) b with
    | false =>
      solve | fail | (simp [h1, h2]; done) | (first | (simp; done) | (simp; omega)) | (first | first | refine w1 ?_ | refine w2 ?_) | fail
      exact ⟨_, rfl, k2 h1 h2⟩
    | true =>
      obtain ⟨c, rfl, c0, c1⟩ := wh_of h1
      obtain ⟨pi, rfl, pi0, pi1⟩ := wh_of h2
      obtain ⟨p, rfl⟩ : ∃ p : Nat, pi = (p : Int) := ⟨pi.toNat, by omega⟩
      have w3 : ∀ {Q : Res D → List D → Prop}, Q (.ok (.bl (whB (some 0) (some (c - 1)) d))) [] → Ef f_is_whole [d, .int 0, .int (c - 1)] Q := fun {Q} k => whole_g (lo := some 0) (hi := some _) gdd k
      cases h3 : whB (some 0) (some (c - 1)) d with
      | false =>
        solve | fail | (simp [h1, h2, h3]; done) | (first | (simp; done) | (simp; omega)) | (first | first | refine w1 ?_ | refine w2 ?_ | refine w3 ?_) | fail
        exact ⟨_, rfl, k3 c rfl c0 c1 h2 h3⟩
      | true =>
        obtain ⟨f, rfl, f0, f1⟩ := wh_of h3
        solve | fail | (simp [h1, h2, h3]; done) | (first | (simp; done) | (simp; omega)) | (first | first | refine w1 ?_ | refine w2 ?_ | refine w3 ?_) | fail
        have tn : ((p : Nat) : Int).toNat = p := by omega
        try rw [tn]
        refine es_for (fun dsl ρ => ∃ (j m : Nat) (t w : Int) (a5 : Option D), dsl = SV.upTo (j : Int) m ∧ j + m = p ∧ t = (tot c j : Nat) ∧ w = (((c - 1).toNat ^ j : Nat) : Int) ∧ tot c j ≤ 700 ∧ ρ = [some (.int c), some (.int (p : Nat)), some (.int f), some (.int t), some (.int w), a5]) ?_ ?_ _ _ ⟨0, p, 0, 1, none, by simp, by omega, rfl, rfl, Nat.zero_le _, rfl⟩
        · rintro ρ ⟨j, m, t, w, a5, e, hj, ht, hw, hb, rfl⟩
          cases m with
          | succ m => rw [upTo_succ] at e; cases e
          | zero =>
            have e2 : j = p := by omega
            subst e2
            exact ⟨_, rfl, k5 c f j rfl rfl rfl c0 c1 (by omega) (by omega) f0 (by omega) hb⟩
        · rintro d dsl ρ ⟨j, m, t, w, a5, e, hj, ht, hw, hb, rfl⟩
          cases m with
          | zero => cases e
          | succ m =>
            rw [upTo_succ] at e
            cases e
            refine ⟨_, rfl, ?_⟩
            have e1 : t + w = (tot c (j + 1) : Nat) := by rw [ht, hw]; show _ = ((tot c j + (c - 1).toNat ^ j : Nat) : Int); omega
            have e2 : w * (c - 1) = (((c - 1).toNat ^ (j + 1) : Nat) : Int) := by
              rw [hw, Nat.pow_succ, Int.natCast_mul, show ((c - 1).toNat : Int) = c - 1 by omega]
            by_cases hg : 700 < tot c (j + 1)
            · solve | fail | (simp; omega) | (first | (simp; done) | (simp; omega)) | fail | fail
              exact ⟨_, rfl, k4 c f p rfl rfl rfl c0 c1 (by omega) (by omega) f0 (by omega) (Nat.lt_of_lt_of_le hg (tot_le (by omega)))⟩
            · solve | fail | (simp; omega) | (first | (simp; done) | (simp; omega)) | fail | fail
              exact ⟨j + 1, m, t + w, w * (c - 1), _, by simp, by omega, e1, e2, by omega, rfl⟩
theorem var_e {i : Nat} {d : D} {ρ : SV.Env} (h : ρ[i]? = some (some d)) (o : d.own = false) (ox : d.isX = false) : Ev (mVar i) ρ fun r ρ1 => r = .ok d ∧ ρ1 = ρ := b_var h o ox ⟨rfl, rfl⟩
theorem lc_rows {C : Rws} {f : Int} {i v : Nat} {m : M (List D)} {ρ : SV.Env} {QD : Res D → SV.Env → Prop} (hm : Ev m ρ fun r ρ1 => r = .ok (rwsD C) ∧ ρ1 = ρ) (hl : C.length ≤ 100000) (hi : ρ[i]? = some (some (.int f))) (hv : v < ρ.length) (ne : v ≠ i) (q : QD (.ok (.ol ((C.map (lastT f)).map D.int))) (ρ.set v none)) :
    Ev (mLc m (tgN v) (SV.ret true) (mIfE (mTru (mVar v)) (mOp fIx (mVar v) (mUn fNeg (SV.ret (.int 1)))) (mVar i)) [v]) ρ QD := by
  refine lc_map (rwsD C) (fun d => match d with | .tup xs => .int (lastT f (xs.map fun d => match d with | .int i => i | _ => 0)) | d => d) hv hm (by simp [rwsD]; omega) (fun x hx => ?_) (fun x hx j => ?_) ?_
  · obtain ⟨r, _, rfl⟩ := List.mem_map.mp hx
    refine b_lastE (r := r) (f := f) (var_e (by rw [List.getElem?_set_self hv]) rfl rfl) (by rw [List.getElem?_set_ne (by omega)]; exact hi) ⟨?_, rfl⟩
    simp [rwD, List.map_map, Function.comp_def]
  · obtain ⟨r, _, rfl⟩ := List.mem_map.mp hx
    intro z
    cases z
  · have e : (rwsD C).map (fun d => match d with | .tup xs => D.int (lastT f (xs.map fun d => match d with | .int i => i | _ => 0)) | d => d) = (C.map (lastT f)).map D.int := by
      simp [rwsD, rwD, List.map_map, Function.comp_def]
    rw [e]
    exact q
theorem tcols_k {C : Rws} {f : Int} {Q : Res D → List D → Prop} (hl : C.length ≤ 100000) (k : Q (.ok (.ol ((C.map (lastT f)).map D.int))) []) : Ef f_tree_colours [.lst (rwsD C), .int f] Q := by
  refine ef_fun ?_
  show Es m_tree_colours [some (.lst (rwsD C)), some (.int f), none] _
  unfold m_tree_colours
  refine b_mret (lc_rows (C := C) (f := f) ?_ hl rfl (Nat.le_of_ble_eq_true rfl) (by decide) ?_)
  · solve | fail | (first | (simp; done) | (simp; omega)) | (first | (simp; done) | (simp; omega)) | fail | fail
    exact ⟨rfl, rfl⟩
  · solve | fail | (first | (simp; done) | (simp; omega)) | (first | (simp; done) | (simp; omega)) | fail | fail
    exact ⟨_, rfl, k⟩
end LAWP
end
section
set_option Elab.async false
set_option linter.all false
set_option autoImplicit false
set_option maxRecDepth 100000
set_option maxHeartbeats 0
set_option pp.maxSteps 400
namespace LAWP
open PySem PySem.Spec L2 SV LAWM
/-- the ties of the tree -/
def tsB (B : List Int) : List (Int × Int) := (List.range B.length).map fun i => (B.getD i 0, ((i + 1 : Nat) : Int))
theorem tsB_len (B : List Int) : (tsB B).length = B.length := by simp [tsB]
theorem tsB_get {B : List Int} {i : Nat} {b : Int} (h : B[i]? = some b) : (tsB B)[i]? = some (b, ((i + 1 : Nat) : Int)) := by
  have hl := (List.getElem?_eq_some_iff.mp h).1
  have e2 : B[i] = b := by rw [List.getElem?_eq_getElem hl] at h; exact Option.some.inj h
  simp [tsB, hl, List.getD, e2]
theorem mem_tsB {B : List Int} {q : Int × Int} (h : q ∈ tsB B) : ∃ i b, B[i]? = some b ∧ q = (b, ((i + 1 : Nat) : Int)) := by
  obtain ⟨i, hi, rfl⟩ := List.mem_map.mp h
  rw [List.mem_range] at hi
  exact ⟨i, B[i], List.getElem?_eq_getElem hi, by simp [List.getD, List.getElem?_eq_getElem hi]⟩
theorem tok_tsB {R : Rws} {B : List Int} (h : Bf R B) : TOk R.length (tsB B) := fun q hq => by
  obtain ⟨i, b, hb, rfl⟩ := mem_tsB hq
  obtain ⟨h0, h1, _⟩ := h.par i b hb
  have hl := (List.getElem?_eq_some_iff.mp hb).1
  have := h.len
  dsimp only
  omega
theorem rw_cols {c f : Int} {p : Nat} (c1 : c ≤ 10) (f0 : 0 ≤ f) (f1 : f < c) : Rw ((cells c f p).map (lastT f)) := fun x hx => by
  obtain ⟨r, hr, rfl⟩ := List.mem_map.mp hx
  have := (mem_cells.mp hr).1.last f0 f1
  omega
theorem chk_ok {c f : Int} {p : Nat} {Q : Res D → List D → Prop} (c0 : 2 ≤ c) (c1 : c ≤ 10) (p0 : 1 ≤ p) (p1 : p ≤ 12) (f0 : 0 ≤ f) (f1 : f < c) (ht : tot c p ≤ 700) (q : Q (.ok .non) []) : Ef f_check_tree [.int c, .int (p : Nat), .int f] Q := by
  have b1 : whB (some 2) (some 10) (.int c) = true := by simp [whB]; omega
  have b2 : whB (some 1) (some 12) (.int (p : Nat)) = true := by simp [whB]; omega
  refine chk_k rfl rfl rfl (fun h => ?_) (fun _ h => ?_) (fun c' e _ _ _ h => ?_) (fun c' f' p' e1 e2 e3 _ _ _ _ _ _ h => ?_) (fun _ _ _ _ _ _ _ _ _ _ _ _ _ => q)
  · rw [b1] at h; cases h
  · rw [b2] at h; cases h
  · cases e
    have b3 : whB (some 0) (some (c - 1)) (.int f) = true := by simp [whB]; omega
    rw [b3] at h; cases h
  · cases e1
    have : p' = p := by injection e2 with e2; omega
    subst this
    omega
local macro_rules
  | `(tactic| solve | $a | $b | $c | $d | $e) => `(tactic| (repeat' (first
      | (apply_rules (transparency := .reducible) (symm := false) (exfalso := false) (maxDepth := 1000) only [@b_ok, @b_okS, @b_nx, @b_seq, @b_op, @b_ret, @b_cons, @b_nil, @b_CB, @b_C1, @b_set, @b_tb, @b_bl, @b_if, @b_end, @b_preps, @b_prepF, @b_preps0, @b_call, @b_owns, @b_owns0])
      | (apply_rules (transparency := .reducible) (symm := false) (exfalso := false) (maxDepth := 1000) only [@b_nret, @b_nexc, @b_exc, @b_excS, @b_nbrk, @b_nct, @b_mret, @b_expr, @b_setI, @b_un, @b_C2, @b_tru, @b_and, @b_or, @b_not, @b_notT, @b_andV, @b_orV, @b_blE, @b_ifE, @b_add, @b_neg, @b_aug, @b_prepT, @b_frzs, @b_frzs0, @b_tup, @b_lst, @b_isN, @b_notN, @b_isi, @b_raise, @b_ownS, @b_bnd, @b_iter, @b_fseq, @b_mfor, @b_enum, @b_callK, @b_sl, @b_part, @b_pi])
      | ((with_reducible apply b_var); rfl; (focus (first | rfl | assumption)); (focus (first | rfl | assumption)))
      | ((with_reducible apply b_varO); rfl; (focus (first | rfl | assumption)))
      | ((with_reducible apply b_st); exact Nat.le_of_ble_eq_true rfl)
      | ((with_reducible apply b_mvS); rfl; (focus (first | rfl | assumption)))
      | ((with_reducible apply b_mv); (focus (first | assumption | (intro _ z; cases z; done))))
      | ((with_reducible apply b_frzS); rfl; (focus (first | rfl | assumption)))
      | ((with_reducible apply b_frzG); focus (first | assumption | rfl))
      | ((with_reducible apply b_frz); (focus (first | assumption | (intro _ z; cases z; done))))
      | ((with_reducible apply b_own); (focus (first | assumption | (intro _ z; cases z; done))))
      | ((with_reducible apply b_II); focus (first | rfl | $c))
      | ((with_reducible apply b_look2); (focus (first | rfl | exact dr_gd (by assumption))); (focus (first | rfl | exact dr_gd (by assumption))); focus (first | exact gEqF | exact gNeF | $a | rfl))
      | ((with_reducible apply b_look); (focus (first | rfl | exact dr_gd (by assumption))); focus (first | $a | rfl))
      | ((with_reducible apply b_trv); (focus (first | rfl | exact dr_gd (by assumption))); rfl)
      | ((with_reducible apply b_io); rfl)
      | ((with_reducible apply b_lim); exact Nat.le_of_ble_eq_true rfl)
      | ((with_reducible apply b_setD); rfl)
      | ((with_reducible apply b_setK); rfl; rfl)
      | ((with_reducible apply b_LM); rfl)
      | ((with_reducible apply b_ifT); focus (first | rfl | $b))
      | ((with_reducible apply b_ifF); focus (first | rfl | $b))
      | ((with_reducible apply b_eT); focus (first | rfl | $b))
      | ((with_reducible apply b_eF); focus (first | rfl | $b))
      | ((with_reducible apply b_rng1); focus (first | (simp [okR]; done) | (simp [okR]; omega)))
      | ((with_reducible apply b_rng2); focus (first | (simp [okR]; done) | (simp [okR]; omega)))
      | ((with_reducible apply b_back); focus (first | rfl | exact cb_f rfl rfl))
      | ((with_reducible apply b_seqF); rfl)
      | ((with_reducible apply b_LMr); rfl; focus (refine lApp ?_; first | (simp; done) | (simp; omega) | $e))
      | ((with_reducible apply b_rz); exact ⟨rfl, Nat.le_of_ble_eq_true rfl, Nat.le_of_ble_eq_true rfl⟩)
      | $d
      | fail)))
theorem tell_k {c f : Int} {p : Nat} {Q : Res D → List D → Prop} (c0 : 2 ≤ c) (c1 : c ≤ 10) (p0 : 1 ≤ p) (p1 : p ≤ 12) (f0 : 0 ≤ f) (f1 : f < c) (ht : tot c p ≤ 700)
    (k : ∀ B, Bf (cells c f p) B → Q (.ok (pic ((cells c f p).map (lastT f)) (nrm (tsB B)) [0])) []) : Ef f_telling_tree [.int c, .int (p : Nat), .int f] Q := by
  refine ef_fun ?_
  show Es m_telling_tree [some (.int c), some (.int (p : Nat)), some (.int f), none, none, none, none] _
  unfold m_telling_tree
  have n1 := len_cells f0 f1 p
  have ck : ∀ {Q : Res D → List D → Prop}, Q (.ok .non) [] → Ef f_check_tree [.int c, .int (p : Nat), .int f] Q := fun {Q} q => chk_ok c0 c1 p0 p1 f0 f1 ht q
  solve | fail | (first | (simp; done) | (simp; omega)) | (first | (simp; done) | (simp; omega)) | (first | first | refine b_unp ?_ | refine ck ?_ | refine rows_k c0 c1 p0 p1 f0 f1 ht fun B hB => ?_) | fail
  refine ⟨_, rfl, rfl, _, rfl, ?_⟩
  have gl : gLen (.lst (rwsD (cells c f p))) = some (.int ((cells c f p).length : Nat)) := by rw [gLen_l]; simp [rwsD]
  have hl := hB.len
  have mk : ∀ {Q : Res D → List D → Prop}, Q (.ok .non) [.oi "Picture" ["colours", "ties", "marks"] [.tup (((cells c f p).map (lastT f)).map D.int), .tup ((nrm (tsB B)).map tupP), .tup (([0] : List Int).map D.int)], .ol (((cells c f p).map (lastT f)).map D.int)] → Ef f_Picture_I [.oi "Picture" [] [], .ol (((cells c f p).map (lastT f)).map D.int), .lst ((tsB B).map tupP), .tup [.int 0]] Q := fun {Q} q => by
    refine mkpic_k (ms := [0]) ⟨rw_cols c1 f0 f1, by rw [List.length_map]; omega, by rw [List.length_map]; omega, by rw [List.length_map]; exact tok_tsB hB, by rw [tsB_len]; omega, ⟨by decide, by decide, fun i hi => ?_⟩⟩ (.inr rfl) q
    rw [List.mem_singleton] at hi
    subst hi
    rw [List.length_map]
    omega
  refine b_nx (b_seq (b_set ?_))
  refine ev_lc (fun dsl acc ρ => ∃ (i m : Nat), dsl = SV.upTo ((i : Int) + 1) m ∧ i + m = B.length ∧ acc = ((tsB B).take i).map tupP ∧ ρ = [some (.int c), some (.int (p : Nat)), some (.int f), some (.lst (rwsD (cells c f p))), some (.lst (bfD B)), none, none]) ?_ ?_ ?_
  · solve | exact gl | (first | (simp; done) | (simp; omega)) | (first | (simp; done) | (simp; omega)) | fail | fail
    refine ⟨⟨0, B.length, ?_, by omega, rfl, rfl⟩, ?_⟩
    · rw [show ((((cells c f p).length : Nat) : Int) - 1).toNat = B.length by omega]; rfl
    · rw [SV.upTo_length]; simp [lim]; omega
  · rintro acc ρ ⟨i, m, e, hi, rfl, rfl⟩
    cases m with
    | succ m => rw [upTo_succ] at e; cases e
    | zero =>
      have e2 : i = (tsB B).length := by rw [tsB_len]; omega
      rw [e2, List.take_length]
      have fr := frzs_gd (gd_ps (tsB B))
      solve | fail | (first | (simp; done) | (simp; omega)) | (first | (simp; done) | (simp; omega)) | (first | first | refine b_makeL ?_ | refine tcols_k (by omega) ?_) | fail
      refine ⟨rfl, ?_⟩
      rw [show (D.ol ((tsB B).map tupP)).frz = .lst ((tsB B).map tupP) by simp [D.frz, fr]]
      refine mk ⟨_, _, rfl, _, rfl, rfl, ?_⟩
      rw [show (D.oi "Picture" ["colours", "ties", "marks"] [.tup (((cells c f p).map (lastT f)).map D.int), .tup ((nrm (tsB B)).map tupP), .tup (([0] : List Int).map D.int)]).frz = pic ((cells c f p).map (lastT f)) (nrm (tsB B)) [0] by rfl]
      have k2 := k B hB
      generalize hpp : pic ((cells c f p).map (lastT f)) (nrm (tsB B)) [0] = pp at *
      have po : pp.own = false := by rw [← hpp]; rfl
      have pn : ∀ i, pp ≠ .sl i := fun i z => by rw [← hpp] at z; cases z
      solve | fail | (first | (simp; done) | (simp; omega)) | (first | (simp; done) | (simp; omega)) | fail | fail
      exact ⟨_, rfl, k2⟩
  · rintro d dsl acc ρ ⟨i, m, e, hi, rfl, rfl⟩
    cases m with
    | zero => cases e
    | succ m =>
      rw [upTo_succ] at e
      cases e
      refine ⟨_, rfl, ?_⟩
      obtain ⟨b, hb⟩ : ∃ b, B[i]? = some b := ⟨_, List.getElem?_eq_getElem (by omega)⟩
      have gx : gIx (.lst (bfD B)) (.int ((i : Int) + 1)) = some (.int b) := by
        have h2 : (bfD B)[i + 1]? = some (.int b) := by simp [bfD, hb]
        have := gIx_lat h2 rfl
        simpa using this
      solve | fail | (first | (simp; done) | (simp; omega)) | (first | (simp; done) | (simp; omega)) | fail | fail
      refine ⟨true, rfl, ?_⟩
      rw [if_pos rfl]
      solve | exact gx | (first | (simp; done) | (simp; omega)) | (first | (simp; done) | (simp; omega)) | fail | fail
      refine ⟨_, rfl, ?_⟩
      solve | fail | (first | (simp; done) | (simp; omega)) | (first | (simp; done) | (simp; omega)) | fail | fail
      refine ⟨_, rfl, i + 1, m, by simp, by omega, ?_, rfl⟩
      rw [List.take_succ, tsB_get hb]
      simp [tupP]
end LAWP
end
section
set_option Elab.async false
set_option linter.all false
set_option autoImplicit false
set_option maxRecDepth 100000
set_option maxHeartbeats 0
set_option pp.maxSteps 400
namespace LAWP
open PySem PySem.Spec L2 SV LAWM
/-! ### rows hidden in rows; what a picture tells -/
def IsRow (s : D) (xs : List Int) : Prop := s = .lst (xs.map D.int) ∨ s = .tup (xs.map D.int)
theorem IsRow.gd {s : D} {xs : List Int} (h : IsRow s xs) : gd s = true := by rcases h with rfl | rfl <;> rfl
theorem IsRow.seqF {s : D} {xs : List Int} (h : IsRow s xs) : ∃ b, s.seqF = some (b, xs.map D.int) := by rcases h with rfl | rfl <;> exact ⟨_, rfl⟩
theorem gIx_row {s : D} {xs : List Int} {i : Nat} {c : Int} (h : IsRow s xs) (e : xs[i]? = some c) : gIx s (.int (i : Nat)) = some (.int c) := by
  rcases h with rfl | rfl
  · exact gIx_lst e
  · have hl : i < xs.length := (List.getElem?_eq_some_iff.mp e).1
    have e2 : xs[i] = c := by rw [List.getElem?_eq_getElem hl] at e; exact Option.some.inj e
    simp [gIx, D.seq, atI, ixN, hl, e2, D.own]
theorem gLen_row {s : D} {xs : List Int} (h : IsRow s xs) : gLen s = some (.int (xs.length : Nat)) := by
  rcases h with rfl | rfl <;> simp [gLen, D.seq]
theorem drop_at {xs : List Int} {i : Nat} {c : Int} (h : xs[i]? = some c) : xs.drop i = c :: xs.drop (i + 1) := by
  have hp : i < xs.length := (List.getElem?_eq_some_iff.mp h).1
  rw [List.drop_eq_getElem_cons hp]
  have e2 : xs[i] = c := by rw [List.getElem?_eq_getElem hp] at h; exact Option.some.inj h
  rw [e2]
theorem hid_cn (t : Int) (ts : List Int) : hid (t :: ts) [] = false := rfl
theorem hid_cc (t y : Int) (ts ys : List Int) : hid (t :: ts) (y :: ys) = if t = y then hid ts ys else hid (t :: ts) ys := by
  show (if (t == y) = true then ts.isSublist ys else (t :: ts).isSublist ys) = _
  simp only [beq_iff_eq]
  rfl
theorem tupOf_ol {xs : List Int} {ρ : SV.Env} {QD : Res D → SV.Env → Prop} {i : Nat} (h : ρ[i]? = some (some (.ol (xs.map D.int)))) (q : QD (.ok (.tup (xs.map D.int))) ρ) : Ev (fTupOf (.sl i)) ρ QD := by
  refine ⟨_, _, ?_, q⟩
  unfold fTupOf bnd fItems
  simp [dr, h, D.isX, D.seq, plain_gd (gd_ints xs), SV.ret]
local macro_rules
  | `(tactic| solve | $a | $b | $c | $d | $e) => `(tactic| (repeat' (first
      | (apply_rules (transparency := .reducible) (symm := false) (exfalso := false) (maxDepth := 1000) only [@b_ok, @b_okS, @b_nx, @b_seq, @b_op, @b_ret, @b_cons, @b_nil, @b_CB, @b_C1, @b_set, @b_tb, @b_bl, @b_if, @b_end, @b_preps, @b_prepF, @b_preps0, @b_call, @b_owns, @b_owns0])
      | (apply_rules (transparency := .reducible) (symm := false) (exfalso := false) (maxDepth := 1000) only [@b_nret, @b_nexc, @b_exc, @b_excS, @b_nbrk, @b_nct, @b_mret, @b_expr, @b_setI, @b_un, @b_C2, @b_tru, @b_and, @b_or, @b_not, @b_notT, @b_andV, @b_orV, @b_blE, @b_ifE, @b_add, @b_neg, @b_aug, @b_prepT, @b_frzs, @b_frzs0, @b_tup, @b_lst, @b_isN, @b_notN, @b_isi, @b_raise, @b_ownS, @b_bnd, @b_iter, @b_fseq, @b_mfor, @b_enum, @b_callK, @b_sl, @b_part, @b_pi])
      | ((with_reducible apply b_var); rfl; (focus (first | rfl | assumption)); (focus (first | rfl | assumption)))
      | ((with_reducible apply b_varO); rfl; (focus (first | rfl | assumption)))
      | ((with_reducible apply b_st); exact Nat.le_of_ble_eq_true rfl)
      | ((with_reducible apply b_mvS); rfl; (focus (first | rfl | assumption)))
      | ((with_reducible apply b_mv); (focus (first | assumption | (intro _ z; cases z; done))))
      | ((with_reducible apply b_frzS); rfl; (focus (first | rfl | assumption)))
      | ((with_reducible apply b_frzG); focus (first | assumption | rfl))
      | ((with_reducible apply b_frz); (focus (first | assumption | (intro _ z; cases z; done))))
      | ((with_reducible apply b_own); (focus (first | assumption | (intro _ z; cases z; done))))
      | ((with_reducible apply b_II); focus (first | rfl | $c))
      | ((with_reducible apply b_look2); (focus (first | rfl | exact dr_gd (by assumption))); (focus (first | rfl | exact dr_gd (by assumption))); focus (first | exact gEqF | exact gNeF | $a | rfl))
      | ((with_reducible apply b_look); (focus (first | rfl | exact dr_gd (by assumption))); focus (first | $a | rfl))
      | ((with_reducible apply b_trv); (focus (first | rfl | exact dr_gd (by assumption))); rfl)
      | ((with_reducible apply b_io); rfl)
      | ((with_reducible apply b_lim); exact Nat.le_of_ble_eq_true rfl)
      | ((with_reducible apply b_setD); rfl)
      | ((with_reducible apply b_setK); rfl; rfl)
      | ((with_reducible apply b_LM); rfl)
      | ((with_reducible apply b_ifT); focus (first | rfl | $b))
      | ((with_reducible apply b_ifF); focus (first | rfl | $b))
      | ((with_reducible apply b_eT); focus (first | rfl | $b))
      | ((with_reducible apply b_eF); focus (first | rfl | $b))
      | ((with_reducible apply b_rng1); focus (first | (simp [okR]; done) | (simp [okR]; omega)))
      | ((with_reducible apply b_rng2); focus (first | (simp [okR]; done) | (simp [okR]; omega)))
      | ((with_reducible apply b_back); focus (first | rfl | exact cb_f rfl rfl))
      | ((with_reducible apply b_seqF); rfl)
      | ((with_reducible apply b_LMr); rfl; focus (refine lApp ?_; first | (simp; done) | (simp; omega) | $e))
      | ((with_reducible apply b_rz); exact ⟨rfl, Nat.le_of_ble_eq_true rfl, Nat.le_of_ble_eq_true rfl⟩)
      | $d
      | fail)))
theorem places_k {s u : D} {xs w : List Int} {Q : Res D → List D → Prop} (hs : IsRow s xs) (hu : IsRow u w) (hl : xs.length ≤ 1000) (hw : w.length ≤ 1000) (k1 : hid xs w = false → Q (.ok .non) []) (k2 : ∀ l : List Int, hid xs w = true → Q (.ok (.tup (l.map D.int))) []) : Ef f_places_within [s, u] Q := by
  refine ef_fun ?_
  show Es m_places_within [some s, some u, none, none, none] _
  unfold m_places_within
  have sd := hs.gd
  have o := gd_own sd
  have ox := gd_isX sd
  have ud := hu.gd
  have uo := gd_own ud
  have ux := gd_isX ud
  obtain ⟨b, hb⟩ := hs.seqF
  solve | fail | (first | (simp; done) | (simp; omega)) | (first | (simp; done) | (simp; omega)) | fail | fail
  refine b_seqF hb ?_
  solve | fail | (first | (simp; done) | (simp; omega)) | (first | (simp; done) | (simp; omega)) | fail | fail
  refine es_for (fun dsl ρ => ∃ (rest acc : List Int) (p : Nat) (x : Option D), dsl = rest.map D.int ∧ ρ = [some s, some u, some (.ol (acc.map D.int)), some (.int (p : Nat)), x] ∧ hid rest (w.drop p) = hid xs w ∧ p ≤ w.length ∧ acc.length + rest.length ≤ 1000) ?_ ?_ _ _ ⟨xs, [], 0, none, rfl, rfl, rfl, by omega, by simpa using hl⟩
  · rintro ρ ⟨rest, acc, p, x, e, rfl, hP, hp, hl2⟩
    cases rest with
    | cons r rest => cases e
    | nil =>
      rw [hid_nil] at hP
      solve | fail | (first | (simp; done) | (simp; omega)) | (first | (simp; done) | (simp; omega)) | refine tupOf_ol rfl ?_ | fail
      exact ⟨_, rfl, k2 acc hP.symm⟩
  · rintro d dsl ρ ⟨rest, acc, p, x, e, rfl, hP, hp, hl2⟩
    cases rest with
    | nil => cases e
    | cons r rest =>
      cases e
      refine ⟨_, rfl, b_seq ?_⟩
      refine es_while (fun m ρ => ∃ q : Nat, ρ = [some s, some u, some (.ol (acc.map D.int)), some (.int (q : Nat)), some (.int r)] ∧ q ≤ w.length ∧ hid (r :: rest) (w.drop q) = hid xs w ∧ m = w.length - q) ?_ 100000 (w.length - p) _ (by omega) ⟨p, rfl, hp, hP, rfl⟩
      rintro m ρ ⟨q, rfl, hq, hn, rfl⟩
      by_cases hql : q < w.length
      · have hg : w[q]? = some w[q] := List.getElem?_eq_getElem hql
        generalize w[q] = c at hg
        have hx := drop_at hg
        rw [hx, hid_cc] at hn
        by_cases hc : c = r
        · subst hc
          rw [if_pos rfl] at hn
          solve | (first | exact gIx_row hu hg | exact gLen_row hu) | (first | (simp; omega) | (simp; done)) | (first | (simp; done) | (simp; omega)) | fail | fail
          rw [if_neg (by simp)]
          solve | (first | exact gIx_row hu hg | exact gLen_row hu) | (first | (simp; omega) | (simp; done)) | (first | (simp; done) | (simp; omega)) | fail | (simp at hl2 ⊢; omega)
          exact ⟨rest, acc ++ [(q : Int)], q + 1, some (.int c), rfl, by simp, hn, by omega, by simp at hl2 ⊢; omega⟩
        · rw [if_neg (fun z => hc z.symm)] at hn
          solve | (first | exact gIx_row hu hg | exact gLen_row hu) | (first | (simp; omega) | (simp [hc]; done)) | (first | (simp; done) | (simp; omega)) | fail | fail
          rw [if_pos (by simp [hc])]
          refine ⟨by omega, ?_⟩
          solve | fail | (first | (simp; done) | (simp; omega)) | (first | (simp; done) | (simp; omega)) | fail | fail
          exact ⟨q + 1, rfl, by omega, hn, by omega⟩
      · have eq : q = w.length := by omega
        rw [eq, List.drop_length, hid_cn] at hn
        solve | exact gLen_row hu | (first | (simp; omega) | (simp; done)) | (first | (simp; done) | (simp; omega)) | fail | fail
        rw [if_neg (by simp)]
        solve | exact gLen_row hu | (first | (simp; omega) | (simp [eq]; done)) | (first | (simp; done) | (simp; omega)) | fail | fail
        exact ⟨_, rfl, k1 hn.symm⟩
theorem lhid_k {s u : D} {xs w : List Int} {Q : Res D → List D → Prop} (hs : IsRow s xs) (hu : IsRow u w) (hl : xs.length ≤ 1000) (hw : w.length ≤ 1000) (k : Q (.ok (.bl (hid xs w))) []) : Ef f__law_hidden [s, u] Q := by
  refine ef_fun ?_
  show Es m__law_hidden [some s, some u, none, none] _
  unfold m__law_hidden
  have sd := hs.gd
  have o := gd_own sd
  have ox := gd_isX sd
  have ud := hu.gd
  have uo := gd_own ud
  have ux := gd_isX ud
  obtain ⟨b, hb⟩ := hu.seqF
  solve | fail | (first | (simp; done) | (simp; omega)) | (first | (simp; done) | (simp; omega)) | fail | fail
  refine b_seqF hb ?_
  solve | fail | (first | (simp; done) | (simp; omega)) | (first | (simp; done) | (simp; omega)) | fail | fail
  refine es_for (fun dsl ρ => ∃ (rest : List Int) (a : Nat) (x : Option D), dsl = rest.map D.int ∧ a ≤ xs.length ∧ hid (xs.drop a) rest = hid xs w ∧ ρ = [some s, some u, some (.int (a : Nat)), x]) ?_ ?_ _ _ ⟨w, 0, none, rfl, by omega, rfl, rfl⟩
  · rintro ρ ⟨rest, a, x, e, ha, hP, rfl⟩
    cases rest with
    | cons r rest => cases e
    | nil =>
      have e2 : hid xs w = decide ((a : Int) = (xs.length : Nat)) := by
        rw [← hP]
        by_cases h : a = xs.length
        · rw [h, List.drop_length, hid_nil]; simp
        · have hg : xs[a]? = some xs[a] := List.getElem?_eq_getElem (by omega)
          rw [drop_at hg, hid_cn]
          simp
          omega
      rw [e2] at k
      solve | exact gLen_row hs | (first | (simp; done) | (simp; omega)) | (first | (simp; done) | (simp; omega)) | fail | fail
      exact ⟨_, rfl, k⟩
  · rintro d dsl ρ ⟨rest, a, x, e, ha, hP, rfl⟩
    cases rest with
    | nil => cases e
    | cons r rest =>
      cases e
      refine ⟨_, rfl, ?_⟩
      by_cases h : a < xs.length
      · have hg : xs[a]? = some xs[a] := List.getElem?_eq_getElem h
        generalize xs[a] = c at hg
        rw [drop_at hg, hid_cc] at hP
        by_cases hc : c = r
        · rw [if_pos hc] at hP
          solve | (first | exact gIx_row hs hg | exact gLen_row hs) | (first | (simp [hc]; done) | (simp; omega)) | (first | (simp; done) | (simp; omega)) | fail | fail
          exact ⟨rest, a + 1, some (.int r), rfl, by omega, hP, by simp⟩
        · rw [if_neg hc, ← drop_at hg] at hP
          solve | (first | exact gIx_row hs hg | exact gLen_row hs) | (first | (simp [hc]; done) | (simp; omega)) | (first | (simp; done) | (simp; omega)) | fail | fail
          exact ⟨rest, a, _, rfl, by omega, hP, rfl⟩
      · have ea : a = xs.length := by omega
        solve | exact gLen_row hs | (simp; omega) | (first | (simp; done) | (simp; omega)) | fail | fail
        refine ⟨rest, a, _, rfl, by omega, ?_, rfl⟩
        rw [← hP, ea, List.drop_length, hid_nil, hid_nil]
end LAWP
end
section
set_option Elab.async false
set_option linter.all false
set_option autoImplicit false
set_option maxRecDepth 100000
set_option maxHeartbeats 0
set_option pp.maxSteps 400
namespace LAWP
open PySem PySem.Spec L2 SV LAWM
theorem b_zipB {d e : D} {ρ : SV.Env} {QL : Res (List D) → SV.Env → Prop} (h : Ev (fSeq d) ρ (onOk QL fun x ρ1 => Ev (fSeq e) ρ1 (onOk QL fun y ρ2 => QL (.ok (zipF x.2 y.2)) ρ2))) : Ev (fZipB [d, e]) ρ QL := by
  show Ev (bnd (fSeq d) fun x => bnd (fSeq e) fun y => SV.ret (zipF x.2 y.2)) ρ QL
  refine b_bnd (h.imp fun r ρ1 q => ?_)
  cases r with
  | exc c fs => exact q
  | ok x =>
    refine b_bnd (Ev.imp q fun r ρ1 q => ?_)
    cases r with
    | exc c fs => exact q
    | ok y => exact b_ret q
theorem b_zipC {d e f : D} {ρ : SV.Env} {QL : Res (List D) → SV.Env → Prop} (h : Ev (fSeq d) ρ (onOk QL fun x ρ1 => Ev (fSeq e) ρ1 (onOk QL fun y ρ2 => Ev (fSeq f) ρ2 (onOk QL fun z ρ3 => QL (.ok (zipC x.2 y.2 z.2)) ρ3)))) : Ev (fZipC [d, e, f]) ρ QL := by
  show Ev (bnd (fSeq d) fun x => bnd (fSeq e) fun y => bnd (fSeq f) fun z => SV.ret (zipC x.2 y.2 z.2)) ρ QL
  refine b_bnd (h.imp fun r ρ1 q => ?_)
  cases r with
  | exc c fs => exact q
  | ok x =>
    refine b_bnd (Ev.imp q fun r ρ1 q => ?_)
    cases r with
    | exc c fs => exact q
    | ok y =>
      refine b_bnd (Ev.imp q fun r ρ1 q => ?_)
      cases r with
      | exc c fs => exact q
      | ok z => exact b_ret q
theorem gLen_rw {r : List Int} : gLen (rwD r) = some (.int (r.length : Nat)) := by simp [rwD, gLen, D.seq]
local macro_rules
  | `(tactic| solve | $a | $b | $c | $d | $e) => `(tactic| (repeat' (first
      | (apply_rules (transparency := .reducible) (symm := false) (exfalso := false) (maxDepth := 1000) only [@b_ok, @b_okS, @b_nx, @b_seq, @b_op, @b_ret, @b_cons, @b_nil, @b_CB, @b_C1, @b_set, @b_tb, @b_bl, @b_if, @b_end, @b_preps, @b_prepF, @b_preps0, @b_call, @b_owns, @b_owns0])
      | (apply_rules (transparency := .reducible) (symm := false) (exfalso := false) (maxDepth := 1000) only [@b_nret, @b_nexc, @b_exc, @b_excS, @b_nbrk, @b_nct, @b_mret, @b_expr, @b_setI, @b_un, @b_C2, @b_tru, @b_and, @b_or, @b_not, @b_notT, @b_andV, @b_orV, @b_blE, @b_ifE, @b_add, @b_neg, @b_aug, @b_prepT, @b_frzs, @b_frzs0, @b_tup, @b_lst, @b_isN, @b_notN, @b_isi, @b_raise, @b_ownS, @b_bnd, @b_iter, @b_fseq, @b_mfor, @b_enum, @b_callK, @b_sl, @b_part, @b_pi])
      | ((with_reducible apply b_var); rfl; (focus (first | rfl | assumption)); (focus (first | rfl | assumption)))
      | ((with_reducible apply b_varO); rfl; (focus (first | rfl | assumption)))
      | ((with_reducible apply b_st); exact Nat.le_of_ble_eq_true rfl)
      | ((with_reducible apply b_mvS); rfl; (focus (first | rfl | assumption)))
      | ((with_reducible apply b_mv); (focus (first | assumption | (intro _ z; cases z; done))))
      | ((with_reducible apply b_frzS); rfl; (focus (first | rfl | assumption)))
      | ((with_reducible apply b_frzG); focus (first | assumption | rfl))
      | ((with_reducible apply b_frz); (focus (first | assumption | (intro _ z; cases z; done))))
      | ((with_reducible apply b_own); (focus (first | assumption | (intro _ z; cases z; done))))
      | ((with_reducible apply b_II); focus (first | rfl | $c))
      | ((with_reducible apply b_look2); (focus (first | rfl | exact dr_gd (by assumption))); (focus (first | rfl | exact dr_gd (by assumption))); focus (first | exact gEqF | exact gNeF | $a | rfl))
      | ((with_reducible apply b_look); (focus (first | rfl | exact dr_gd (by assumption))); focus (first | $a | rfl))
      | ((with_reducible apply b_trv); (focus (first | rfl | exact dr_gd (by assumption))); rfl)
      | ((with_reducible apply b_io); rfl)
      | ((with_reducible apply b_lim); exact Nat.le_of_ble_eq_true rfl)
      | ((with_reducible apply b_setD); rfl)
      | ((with_reducible apply b_setK); rfl; rfl)
      | ((with_reducible apply b_LM); rfl)
      | ((with_reducible apply b_ifT); focus (first | rfl | $b))
      | ((with_reducible apply b_ifF); focus (first | rfl | $b))
      | ((with_reducible apply b_eT); focus (first | rfl | $b))
      | ((with_reducible apply b_eF); focus (first | rfl | $b))
      | ((with_reducible apply b_rng1); focus (first | (simp [okR]; done) | (simp [okR]; omega)))
      | ((with_reducible apply b_rng2); focus (first | (simp [okR]; done) | (simp [okR]; omega)))
      | ((with_reducible apply b_back); focus (first | rfl | exact cb_f rfl rfl))
      | ((with_reducible apply b_seqF); rfl)
      | ((with_reducible apply b_LMr); rfl; focus (refine lApp ?_; first | (simp; done) | (simp; omega) | $e))
      | ((with_reducible apply b_rz); exact ⟨rfl, Nat.le_of_ble_eq_true rfl, Nat.le_of_ble_eq_true rfl⟩)
      | $d
      | fail)))
theorem rotree_k {C : Rws} {f t0 : Int} {s : D} {ts : List Int} {Q : Res D → List D → Prop} (hs : IsRow s (t0 :: ts)) (hl : (t0 :: ts).length = C.length) (hC : ∀ r ∈ C, r.length ≤ 100) (k : Q (.ok (rwD (rot C f (t0 :: ts)))) []) : Ef f_row_of_tree [.lst (rwsD C), .int f, s] Q := by
  refine ef_fun ?_
  show Es m_row_of_tree [some (.lst (rwsD C)), some (.int f), some s, none, none, none, none] _
  unfold m_row_of_tree
  have sd := hs.gd
  have o := gd_own sd
  have ox := gd_isX sd
  have nsl := gd_nsl sd
  obtain ⟨b, hb⟩ := hs.seqF
  have g0 : gIx s (.int 0) = some (.int t0) := gIx_row (i := 0) hs rfl
  solve | exact g0 | (first | (simp; done) | (simp; omega)) | (first | (simp; done) | (simp; omega)) | refine b_zipB ?_ | fail
  refine b_seqF hb ?_
  solve | fail | (first | (simp; done) | (simp; omega)) | (first | (simp; done) | (simp; omega)) | fail | fail
  refine es_for (fun dsl ρ => ∃ (Cr : Rws) (tr z : List Int) (a5 a6 : Option D), dsl = zipF (rwsD Cr) (tr.map D.int) ∧ tr.length = Cr.length ∧ (∀ r ∈ Cr, r.length ≤ 100) ∧ z.length ≤ 100 ∧ lg t0 Cr tr z = lg t0 C (t0 :: ts) [] ∧ ρ = [some (.lst (rwsD C)), some (.int f), some s, some (.int t0), some (rwD z), a5, a6]) ?_ ?_ _ _ ⟨C, t0 :: ts, [], none, none, rfl, hl, hC, by simp, rfl, rfl⟩
  · rintro ρ ⟨Cr, tr, z, a5, a6, e, hl2, hCr, hz, hg, rfl⟩
    cases Cr with
    | cons x Cr =>
      cases tr with
      | nil => cases hl2
      | cons t tr => cases e
    | nil =>
      have hg2 : z = lg t0 C (t0 :: ts) [] := by rw [← hg]; cases tr <;> rfl
      unfold rot at k
      rw [List.headD_cons, ← hg2] at k
      by_cases h : z = []
      · subst h
        rw [if_neg (by simp)] at k
        by_cases h2 : t0 = f
        · rw [if_pos h2] at k
          solve | fail | (first | (simp; done) | (simp [h2]; done)) | (first | (simp; done) | (simp; omega)) | fail | fail
          exact ⟨_, rfl, k⟩
        · rw [if_neg h2] at k
          solve | fail | (first | (simp; done) | (simp [h2]; done)) | (first | (simp; done) | (simp; omega)) | fail | fail
          exact ⟨_, rfl, k⟩
      · rw [if_pos h] at k
        have tz : (rwD z).tru = some true := by
          cases z with
          | nil => exact absurd rfl h
          | cons x xs => simp [rwD, D.tru]
        refine b_seq (b_if (b_tru (b_var rfl rfl rfl (b_ok (b_trv rfl tz ?_)))))
        solve | fail | (first | (simp; done) | (simp; omega)) | (first | (simp; done) | (simp; omega)) | with_reducible refine add_rt (by omega) ?_ | fail
        exact ⟨_, rfl, k⟩
  · rintro d dsl ρ ⟨Cr, tr, z, a5, a6, e, hl2, hCr, hz, hg, rfl⟩
    cases Cr with
    | nil => cases e
    | cons x Cr =>
      cases tr with
      | nil => cases hl2
      | cons t tr =>
        cases e
        refine ⟨_, rfl, ?_⟩
        have hx := hCr x (by simp)
        have go : lg t0 (x :: Cr) (t :: tr) z = lg t0 Cr tr (lgS t0 z x t) := rfl
        rw [go] at hg
        have hC2 : ∀ r ∈ Cr, r.length ≤ 100 := fun r hr => hCr r (by simp [hr])
        have hl3 : tr.length = Cr.length := by simpa using hl2
        unfold lgS at hg
        by_cases h1 : t = t0
        · rcases List.eq_nil_or_concat x with rfl | ⟨m, l, rfl⟩
          · rw [if_neg (by simp)] at hg
            solve | fail | (simp [h1]; done) | (first | (simp; done) | (simp; omega)) | fail | fail
            exact ⟨Cr, tr, z, _, _, rfl, hl3, hC2, hz, hg, rfl⟩
          · rw [List.concat_eq_append] at *
            rw [lastT_app] at hg
            have tx : (rwD (m ++ [l])).tru = some true := by simp [rwD, D.tru]
            by_cases h2 : l = t0
            · rw [if_neg (fun z => z.2.2.1 h2)] at hg
              solve | exact ix_lastT | (simp [h1, h2]; done) | (first | (simp; done) | (simp; omega)) | fail | fail
              exact ⟨Cr, tr, z, _, _, rfl, hl3, hC2, hz, hg, rfl⟩
            · by_cases h3 : z.length < (m ++ [l]).length
              · rw [if_pos ⟨h1, by simp, h2, h3⟩] at hg
                solve | (first | exact ix_lastT | exact gLen_rw) | (first | (simp [h1, h2]; done) | (simp at h3 ⊢; omega)) | (first | (simp; done) | (simp; omega)) | fail | fail
                exact ⟨Cr, tr, m ++ [l], _, _, rfl, hl3, hC2, hx, hg, rfl⟩
              · rw [if_neg (fun z => h3 z.2.2.2)] at hg
                solve | (first | exact ix_lastT | exact gLen_rw) | (first | (simp [h1, h2]; done) | (simp at h3 ⊢; omega)) | (first | (simp; done) | (simp; omega)) | fail | fail
                exact ⟨Cr, tr, z, _, _, rfl, hl3, hC2, hz, hg, rfl⟩
        · rw [if_neg (fun z => h1 z.1)] at hg
          solve | fail | (simp [h1]; done) | (first | (simp; done) | (simp; omega)) | fail | fail
          exact ⟨Cr, tr, z, _, _, rfl, hl3, hC2, hz, hg, rfl⟩
end LAWP
end
section
set_option Elab.async false
set_option linter.all false
set_option autoImplicit false
set_option maxRecDepth 100000
set_option maxHeartbeats 0
set_option pp.maxSteps 400
namespace LAWP
open PySem PySem.Spec L2 SV LAWM
theorem all_o {bs : List Bool} {ρ : SV.Env} {QD : Res D → SV.Env → Prop} (q : QD (.ok (.bl (bs.all id))) ρ) : Ev (fAllB (.ol (bs.map D.bl))) ρ QD := by
  have fz : D.frzs (bs.map D.bl) = bs.map D.bl := frzs_gd fun d hd => by
    obtain ⟨b, _, rfl⟩ := List.mem_map.mp hd
    rfl
  have bl : ∀ bs : List Bool, blsOf (bs.map D.bl) = some bs := fun bs => by
    induction bs with
    | nil => rfl
    | cons b bs ih => simp [blsOf, ih]
  refine ⟨_, _, ?_, q⟩
  unfold fAllB bnd fLs
  simp [fz, bl, SV.ret]
theorem bad_all : ∀ {ds : List D} {i : Nat}, (bad ds i = none) ↔ ((ds.map whole).all id = true)
  | [], _ => by simp [bad]
  | d :: ds, i => by
    unfold bad
    cases h : whole d with
    | true => rw [if_pos rfl, bad_all]; simp [h]
    | false => rw [if_neg (by simp)]; simp [h]
/-- what told_row tells of a thing -/
def tldD (C : Rws) (c f : Int) (d : D) : Option (List Int) := match itemsOf d with
  | none => none
  | some ds => if ds.length = C.length ∧ bad ds 0 = none then toldI C c f (ds.map fun d => match d with | .int i => i | _ => 0) else none
theorem map_back (s : List Int) : (s.map D.int).map (fun d : D => match d with | .int i => i | _ => 0) = s := by simp [List.map_map, Function.comp_def]
def toldQ (C : Rws) (c f : Int) (d : D) (Q : Res D → List D → Prop) : Prop := (∀ r, tldD C c f d = some r → Q (.ok (rwD r)) []) ∧ (tldD C c f d = none → Q (.exc "BadShown" [("shown", d)]) [])
theorem isi_seq {d : D} (g : gd d = true) : gIsi [.lst, .tup] d = some (.bl (itemsOf d).isSome) := by cases d <;> first | rfl | cases g
theorem len_items {d : D} {ds : List D} (h : itemsOf d = some ds) : gLen d = some (.int (ds.length : Nat)) := by cases d <;> cases h <;> simp [gLen, D.seq]
theorem seqF_items {d : D} {ds : List D} (h : itemsOf d = some ds) : ∃ b, d.seqF = some (b, ds) := by cases d <;> cases h <;> exact ⟨_, rfl⟩
theorem row_items {d : D} {s : List Int} (h : itemsOf d = some (s.map D.int)) : IsRow d s := by cases d <;> cases h <;> first | exact .inl rfl | exact .inr rfl
theorem rot_len {c f : Int} {p : Nat} {s : List Int} : (rot (cells c f p) f s).length ≤ p + 1 := by
  have h : (lg (s.headD 0) (cells c f p) s []).length ≤ p := by
    rcases lg_mem (e := s.headD 0) (xs := cells c f p) (ts := s) (z := []) with e | ⟨e, _⟩
    · rw [e]; simp
    · have := (mem_cells.mp e).2; omega
  unfold rot
  split
  · rw [List.length_append, List.length_singleton]; omega
  · split <;> simp
local macro_rules
  | `(tactic| solve | $a | $b | $c | $d | $e) => `(tactic| (repeat' (first
      | (apply_rules (transparency := .reducible) (symm := false) (exfalso := false) (maxDepth := 1000) only [@b_ok, @b_okS, @b_nx, @b_seq, @b_op, @b_ret, @b_cons, @b_nil, @b_CB, @b_C1, @b_set, @b_tb, @b_bl, @b_if, @b_end, @b_preps, @b_prepF, @b_preps0, @b_call, @b_owns, @b_owns0])
      | (apply_rules (transparency := .reducible) (symm := false) (exfalso := false) (maxDepth := 1000) only [@b_nret, @b_nexc, @b_exc, @b_excS, @b_nbrk, @b_nct, @b_mret, @b_expr, @b_setI, @b_un, @b_C2, @b_tru, @b_and, @b_or, @b_not, @b_notT, @b_andV, @b_orV, @b_blE, @b_ifE, @b_add, @b_neg, @b_aug, @b_prepT, @b_frzs, @b_frzs0, @b_tup, @b_lst, @b_isN, @b_notN, @b_isi, @b_raise, @b_ownS, @b_bnd, @b_iter, @b_fseq, @b_mfor, @b_enum, @b_callK, @b_sl, @b_part, @b_pi])
      | ((with_reducible apply b_var); rfl; (focus (first | rfl | assumption)); (focus (first | rfl | assumption)))
      | ((with_reducible apply b_varO); rfl; (focus (first | rfl | assumption)))
      | ((with_reducible apply b_st); exact Nat.le_of_ble_eq_true rfl)
      | ((with_reducible apply b_mvS); rfl; (focus (first | rfl | assumption)))
      | ((with_reducible apply b_mv); (focus (first | assumption | (intro _ z; cases z; done))))
      | ((with_reducible apply b_frzS); rfl; (focus (first | rfl | assumption)))
      | ((with_reducible apply b_frzG); focus (first | assumption | rfl))
      | ((with_reducible apply b_frz); (focus (first | assumption | (intro _ z; cases z; done))))
      | ((with_reducible apply b_own); (focus (first | assumption | (intro _ z; cases z; done))))
      | ((with_reducible apply b_II); focus (first | rfl | $c))
      | ((with_reducible apply b_look2); (focus (first | rfl | exact dr_gd (by assumption))); (focus (first | rfl | exact dr_gd (by assumption))); focus (first | exact gEqF | exact gNeF | $a | rfl))
      | ((with_reducible apply b_look); (focus (first | rfl | exact dr_gd (by assumption))); focus (first | $a | rfl))
      | ((with_reducible apply b_trv); (focus (first | rfl | exact dr_gd (by assumption))); rfl)
      | ((with_reducible apply b_io); rfl)
      | ((with_reducible apply b_lim); exact Nat.le_of_ble_eq_true rfl)
      | ((with_reducible apply b_setD); rfl)
      | ((with_reducible apply b_setK); rfl; rfl)
      | ((with_reducible apply b_LM); rfl)
      | ((with_reducible apply b_ifT); focus (first | rfl | $b))
      | ((with_reducible apply b_ifF); focus (first | rfl | $b))
      | ((with_reducible apply b_eT); focus (first | rfl | $b))
      | ((with_reducible apply b_eF); focus (first | rfl | $b))
      | ((with_reducible apply b_rng1); focus (first | (simp [okR]; done) | (simp [okR]; omega)))
      | ((with_reducible apply b_rng2); focus (first | (simp [okR]; done) | (simp [okR]; omega)))
      | ((with_reducible apply b_back); focus (first | rfl | exact cb_f rfl rfl))
      | ((with_reducible apply b_seqF); rfl)
      | ((with_reducible apply b_LMr); rfl; focus (refine lApp ?_; first | (simp; done) | (simp; omega) | $e))
      | ((with_reducible apply b_rz); exact ⟨rfl, Nat.le_of_ble_eq_true rfl, Nat.le_of_ble_eq_true rfl⟩)
      | $d
      | fail)))
theorem told_k {c f : Int} {p : Nat} {d : D} {Q : Res D → List D → Prop} (c0 : 2 ≤ c) (c1 : c ≤ 10) (p0 : 1 ≤ p) (p1 : p ≤ 12) (f0 : 0 ≤ f) (f1 : f < c) (ht : tot c p ≤ 700) (th : Th d)
    (k : toldQ (cells c f p) c f d Q) : Ef f_told_row [.int c, .int (p : Nat), .int f, d] Q := by
  refine ef_fun ?_
  show Es m_told_row [some (.int c), some (.int (p : Nat)), some (.int f), some d, none, none, none, none, none] _
  unfold m_told_row
  obtain ⟨kr, kx⟩ := k
  have sd := th.1
  have o := gd_own sd
  have ox := gd_isX sd
  have nsl := gd_nsl sd
  have n1 := len_cells f0 f1 p
  have ck : ∀ {Q : Res D → List D → Prop}, Q (.ok .non) [] → Ef f_check_tree [.int c, .int (p : Nat), .int f] Q := fun {Q} q => chk_ok c0 c1 p0 p1 f0 f1 ht q
  have gl : gLen (.lst (rwsD (cells c f p))) = some (.int ((cells c f p).length : Nat)) := by rw [gLen_l]; simp [rwsD]
  solve | fail | (first | (simp; done) | (simp; omega)) | (first | (simp; done) | (simp; omega)) | (first | first | refine ck ?_ | refine rows_k c0 c1 p0 p1 f0 f1 ht fun B hB => ?_) | fail
  have gi := isi_seq sd
  cases hi : itemsOf d with
  | none =>
    rw [hi] at gi
    have e : tldD (cells c f p) c f d = none := by unfold tldD; rw [hi]
    solve | exact gi | (first | (simp; done) | (simp; omega)) | (first | (simp; done) | (simp; omega)) | fail | fail
    exact ⟨_, rfl, kx e⟩
  | some ds =>
    rw [hi] at gi
    have gn := len_items hi
    have gds := th.2 ds hi
    by_cases hl : ds.length = (cells c f p).length
    · obtain ⟨b, hb⟩ := seqF_items hi
      solve | (first | exact gi | exact gn | exact gl) | (simp [hl]; done) | (first | (simp; done) | (simp; omega)) | fail | fail
      refine lc_map ds (fun x => .bl (whole x)) (Nat.le_of_ble_eq_true rfl) ?_ (by omega) (fun x hx => ?_) (fun x hx j z => by cases z) ?_
      · solve | fail | (first | (simp; done) | (simp; omega)) | (first | (simp; done) | (simp; omega)) | fail | fail
        refine b_seqF hb ?_
        exact ⟨rfl, rfl⟩
      · have gx := gds x hx
        have ox := gd_own gx
        have oxx := gd_isX gx
        have nx := gd_nsl gx
        solve | fail | (first | (simp; done) | (simp; omega)) | (first | (simp; done) | (simp; omega)) | refine whole_k gx ?_ | fail
        exact ⟨rfl, rfl⟩
      · have e2 : ds.map (fun x => D.bl (whole x)) = (ds.map whole).map D.bl := by simp
        rw [e2]
        cases hw : (ds.map whole).all id with
        | false =>
          have e : tldD (cells c f p) c f d = none := by
            unfold tldD
            rw [hi]
            simp only
            rw [if_neg]
            rintro ⟨_, z⟩
            rw [bad_all.mp z] at hw
            cases hw
          solve | fail | (simp [hw]; done) | (first | (simp; done) | (simp; omega)) | refine all_o ?_ | fail
          exact ⟨_, rfl, kx e⟩
        | true =>
          obtain ⟨s, rfl, rs⟩ := bad_none (bad_all.mpr hw : bad ds 0 = none)
          have e : tldD (cells c f p) c f d = toldI (cells c f p) c f s := by
            unfold tldD
            rw [hi]
            simp only
            rw [if_pos ⟨hl, bad_all.mpr hw⟩, map_back]
          rw [e] at kr kx
          have hr := row_items hi
          have hls : s.length = (cells c f p).length := by simpa using hl
          cases s with
          | nil => rw [List.length_nil] at hls; have := hB.len; omega
          | cons t0 ts =>
            have g0 : gIx d (.int 0) = some (.int t0) := gIx_row (i := 0) hr rfl
            by_cases hc : t0 < c
            · have hrc : ∀ r ∈ cells c f p, r.length ≤ 100 := fun r hr => by have := (mem_cells.mp hr).2; omega
              solve | exact g0 | (first | (rw [hw]; rfl) | (simp; omega)) | (first | (simp; done) | (simp; omega)) | (first | first | refine all_o ?_ | refine rotree_k (f := f) hr hls hrc ?_ | refine b_zipC ?_ | refine tcols_k (by omega) ?_) | fail
              obtain ⟨b, hb⟩ := hr.seqF
              refine b_seqF hb ?_
              solve | fail | (first | (simp; done) | (simp; omega)) | (first | (simp; done) | (simp; omega)) | fail | fail
              have rl := rot_len (c := c) (f := f) (p := p) (s := t0 :: ts)
              generalize hrr : rot (cells c f p) f (t0 :: ts) = r at *
              refine es_for (fun dsl ρ => ∃ (Cr : Rws) (sr : List Int) (a6 a7 a8 : Option D), dsl = zipC (rwsD Cr) ((Cr.map (lastT f)).map D.int) (sr.map D.int) ∧ sr.length = Cr.length ∧ (∀ r ∈ Cr, r.length ≤ 100) ∧ (sr = Cr.map (fun x => if hid x r = true then t0 else lastT f x) ↔ t0 :: ts = (cells c f p).map (fun x => if hid x r = true then t0 else lastT f x)) ∧ ρ = [some (.int c), some (.int (p : Nat)), some (.int f), some d, some (.lst (rwsD (cells c f p))), some (rwD r), a6, a7, a8]) ?_ ?_ _ _ ⟨cells c f p, t0 :: ts, none, none, none, by rw [frzs_gd (gd_ints _)], hls, hrc, Iff.rfl, rfl⟩
              · rintro ρ ⟨Cr, sr, a6, a7, a8, e3, hl3, hrc2, hif, rfl⟩
                cases Cr with
                | cons x Cr =>
                  cases sr with
                  | nil => cases hl3
                  | cons t sr => cases e3
                | nil =>
                  cases sr with
                  | cons t sr => cases hl3
                  | nil =>
                    have e4 : toldI (cells c f p) c f (t0 :: ts) = some r := by
                      unfold toldI
                      rw [hrr, if_pos ⟨hls, hc, hif.mp rfl⟩]
                    solve | fail | (first | (simp; done) | (simp; omega)) | (first | (simp; done) | (simp; omega)) | fail | fail
                    exact ⟨_, rfl, kr r e4⟩
              · rintro dd dsl ρ ⟨Cr, sr, a6, a7, a8, e3, hl3, hrc2, hif, rfl⟩
                cases Cr with
                | nil => cases e3
                | cons x Cr =>
                  cases sr with
                  | nil => cases hl3
                  | cons t sr =>
                    cases e3
                    refine ⟨_, rfl, ?_⟩
                    have hx := hrc2 x (by simp)
                    have hrc3 : ∀ r ∈ Cr, r.length ≤ 100 := fun r hr => hrc2 r (by simp [hr])
                    have hl4 : sr.length = Cr.length := by simpa using hl3
                    rw [List.map_cons, List.cons.injEq] at hif
                    have bad2 : ¬ (t = if hid x r = true then t0 else lastT f x) → toldI (cells c f p) c f (t0 :: ts) = none := fun hn => by
                      unfold toldI
                      rw [hrr, if_neg (fun z => hn (hif.mpr z.2.2).1)]
                    cases hh : hid x r with
                    | true =>
                      rw [hh] at hif bad2
                      by_cases ht2 : t = t0
                      · solve | exact g0 | (simp [ht2]; done) | (first | (simp; done) | (simp; omega)) | refine places_k (.inr rfl) (.inr rfl) (by omega) (by omega) (fun z => by rw [hh] at z; cases z) (fun l _ => ?_) | fail
                        exact ⟨Cr, sr, _, _, _, rfl, hl4, hrc3, by rw [← hif]; simp [ht2], rfl⟩
                      · solve | exact g0 | (simp [ht2]; done) | (first | (simp; done) | (simp; omega)) | refine places_k (.inr rfl) (.inr rfl) (by omega) (by omega) (fun z => by rw [hh] at z; cases z) (fun l _ => ?_) | fail
                        exact ⟨_, rfl, kx (bad2 (by simpa using ht2))⟩
                    | false =>
                      rw [hh] at hif bad2
                      by_cases ht2 : t = lastT f x
                      · solve | exact g0 | (simp [ht2]; done) | (first | (simp; done) | (simp; omega)) | refine places_k (.inr rfl) (.inr rfl) (by omega) (by omega) (fun _ => ?_) (fun l z => by rw [hh] at z; cases z) | fail
                        exact ⟨Cr, sr, _, _, _, rfl, hl4, hrc3, by rw [← hif]; simp [ht2], rfl⟩
                      · solve | exact g0 | (simp [ht2]; done) | (first | (simp; done) | (simp; omega)) | refine places_k (.inr rfl) (.inr rfl) (by omega) (by omega) (fun _ => ?_) (fun l z => by rw [hh] at z; cases z) | fail
                        exact ⟨_, rfl, kx (bad2 (by simpa using ht2))⟩
            · have e2 : toldI (cells c f p) c f (t0 :: ts) = none := by
                unfold toldI
                rw [if_neg (fun z => hc z.2.1)]
              solve | exact g0 | (first | (rw [hw]; rfl) | (simp; omega)) | (first | (simp; done) | (simp; omega)) | refine all_o ?_ | fail
              exact ⟨_, rfl, kx e2⟩
    · have e : tldD (cells c f p) c f d = none := by
        unfold tldD
        rw [hi]
        simp only
        rw [if_neg (fun z => hl z.1)]
      solve | (first | exact gi | exact gn | exact gl) | (first | (simp; omega) | (simp; done)) | (first | (simp; done) | (simp; omega)) | fail | fail
      exact ⟨_, rfl, kx e⟩
end LAWP
end
section
set_option Elab.async false
set_option linter.all false
set_option autoImplicit false
set_option maxRecDepth 100000
set_option maxHeartbeats 0
set_option pp.maxSteps 400
namespace LAWP
open PySem PySem.Spec L2 SV LAWM
/-! ### the law's own tree -/
local macro_rules
  | `(tactic| solve | $a | $b | $c | $d | $e) => `(tactic| (repeat' (first
      | (apply_rules (transparency := .reducible) (symm := false) (exfalso := false) (maxDepth := 1000) only [@b_ok, @b_okS, @b_nx, @b_seq, @b_op, @b_ret, @b_cons, @b_nil, @b_CB, @b_C1, @b_set, @b_tb, @b_bl, @b_if, @b_end, @b_preps, @b_prepF, @b_preps0, @b_call, @b_owns, @b_owns0])
      | (apply_rules (transparency := .reducible) (symm := false) (exfalso := false) (maxDepth := 1000) only [@b_nret, @b_nexc, @b_exc, @b_excS, @b_nbrk, @b_nct, @b_mret, @b_expr, @b_setI, @b_un, @b_C2, @b_tru, @b_and, @b_or, @b_not, @b_notT, @b_andV, @b_orV, @b_blE, @b_ifE, @b_add, @b_neg, @b_aug, @b_prepT, @b_frzs, @b_frzs0, @b_tup, @b_lst, @b_isN, @b_notN, @b_isi, @b_raise, @b_ownS, @b_bnd, @b_iter, @b_fseq, @b_mfor, @b_enum, @b_callK, @b_sl, @b_part, @b_pi])
      | ((with_reducible apply b_var); rfl; (focus (first | rfl | assumption)); (focus (first | rfl | assumption)))
      | ((with_reducible apply b_varO); rfl; (focus (first | rfl | assumption)))
      | ((with_reducible apply b_st); exact Nat.le_of_ble_eq_true rfl)
      | ((with_reducible apply b_mvS); rfl; (focus (first | rfl | assumption)))
      | ((with_reducible apply b_mv); (focus (first | assumption | (intro _ z; cases z; done))))
      | ((with_reducible apply b_frzS); rfl; (focus (first | rfl | assumption)))
      | ((with_reducible apply b_frzG); focus (first | assumption | rfl))
      | ((with_reducible apply b_frz); (focus (first | assumption | (intro _ z; cases z; done))))
      | ((with_reducible apply b_own); (focus (first | assumption | (intro _ z; cases z; done))))
      | ((with_reducible apply b_II); focus (first | rfl | $c))
      | ((with_reducible apply b_look2); (focus (first | rfl | exact dr_gd (by assumption))); (focus (first | rfl | exact dr_gd (by assumption))); focus (first | exact gEqF | exact gNeF | $a | rfl))
      | ((with_reducible apply b_look); (focus (first | rfl | exact dr_gd (by assumption))); focus (first | $a | rfl))
      | ((with_reducible apply b_trv); (focus (first | rfl | exact dr_gd (by assumption))); rfl)
      | ((with_reducible apply b_io); rfl)
      | ((with_reducible apply b_lim); exact Nat.le_of_ble_eq_true rfl)
      | ((with_reducible apply b_setD); rfl)
      | ((with_reducible apply b_setK); rfl; rfl)
      | ((with_reducible apply b_LM); rfl)
      | ((with_reducible apply b_ifT); focus (first | rfl | $b))
      | ((with_reducible apply b_ifF); focus (first | rfl | $b))
      | ((with_reducible apply b_eT); focus (first | rfl | $b))
      | ((with_reducible apply b_eF); focus (first | rfl | $b))
      | ((with_reducible apply b_rng1); focus (first | (simp [okR]; done) | (simp [okR]; omega)))
      | ((with_reducible apply b_rng2); focus (first | (simp [okR]; done) | (simp [okR]; omega)))
      | ((with_reducible apply b_back); focus (first | rfl | exact cb_f rfl rfl))
      | ((with_reducible apply b_seqF); rfl)
      | ((with_reducible apply b_LMr); rfl; focus (refine lApp ?_; first | (simp; done) | (simp; omega) | $e))
      | ((with_reducible apply b_rz); exact ⟨rfl, Nat.le_of_ble_eq_true rfl, Nat.le_of_ble_eq_true rfl⟩)
      | $d
      | fail)))
theorem lall_k {c f : Int} {n : Nat} {Q : Res D → List D → Prop} (c0 : 2 ≤ c) (c1 : c ≤ 10) (n1 : n ≤ 12) (f0 : 0 ≤ f) (f1 : f < c) (ht : tot c (n + 1) ≤ 700) (k : Q (.ok (.ol (rwsD (lev c f n)))) []) : Ef f__law_all_struck [.int c, .int (n : Nat), .int f] Q := by
  refine ef_fun ?_
  show Es m__law_all_struck [some (.int c), some (.int (n : Nat)), some (.int f), none, none, none, none, none] _
  unfold m__law_all_struck
  solve | fail | (first | (simp; done) | (simp; omega)) | (first | (simp; done) | (simp; omega)) | fail | fail
  have tn : ((n : Nat) : Int).toNat = n := by omega
  try rw [tn]
  refine es_for (fun dsl ρ => ∃ (j m : Nat) (a4 a5 a6 a7 : Option D), dsl = SV.upTo (j : Int) m ∧ j + m = n ∧ ρ = [some (.int c), some (.int (n : Nat)), some (.int f), some (.ol (rwsD (lev c f j))), a4, a5, a6, a7]) ?_ ?_ _ _ ⟨0, n, none, none, none, none, by simp, by omega, rfl⟩
  · rintro ρ ⟨j, m, a4, a5, a6, a7, e, hj, rfl⟩
    cases m with
    | succ m => rw [upTo_succ] at e; cases e
    | zero =>
      have e2 : j = n := by omega
      subst e2
      solve | fail | (first | (simp; done) | (simp; omega)) | (first | (simp; done) | (simp; omega)) | fail | fail
      exact ⟨_, rfl, k⟩
  · rintro d dsl ρ ⟨j, m, a4, a5, a6, a7, e, hj, rfl⟩
    cases m with
    | zero => cases e
    | succ m =>
      rw [upTo_succ] at e
      cases e
      refine ⟨_, rfl, ?_⟩
      have ln := len_lev f0 f1 (j + 1)
      have lt : (lev c f (j + 1)).length ≤ 700 := by
        have h1 : tot c (j + 2) ≤ 700 := Nat.le_trans (tot_le (by omega)) ht
        have h2 : tot c (j + 2) = tot c (j + 1) + (c - 1).toNat ^ (j + 1) := rfl
        omega
      have fr := frzs_gd (gd_rws (lev c f j))
      solve | fail | (first | (simp; done) | (simp; omega)) | (first | (simp; done) | (simp; omega)) | fail | fail
      simp only [fr]
      refine es_for (fun dsl ρ => ∃ (rest R : Rws) (a6 a7 : Option D), dsl = rwsD rest ∧ R ++ rest.flatMap (kids c f) = lev c f (j + 1) ∧ (∀ r ∈ rest, Vd c f r ∧ r.length = j) ∧ ρ = [some (.int c), some (.int (n : Nat)), some (.int f), some (.lst (rwsD (lev c f j))), some (.int (j : Int)), some (.ol (rwsD R)), a6, a7]) ?_ ?_ _ _ ⟨lev c f j, [], a6, a7, rfl, rfl, fun r hr => mem_lev.mp hr, by rw [show (D.ol (rwsD (lev c f j))).frz = .lst (rwsD (lev c f j)) by simp [D.frz, fr]]; rfl⟩
      · rintro ρ ⟨rest, R, a6, a7, e, hz, hv, rfl⟩
        cases rest with
        | cons r rest => cases e
        | nil =>
          have hz2 : R = lev c f (j + 1) := by rw [← hz]; simp
          subst hz2
          solve | fail | (first | (simp; done) | (simp; omega)) | (first | (simp; done) | (simp; omega)) | refine lstOf_s rfl (gd_rws _) ?_ | fail
          exact ⟨j + 1, m, _, _, _, _, by simp, by omega, rfl⟩
      · rintro d dsl ρ ⟨rest, R, a6, a7, e, hz, hv, rfl⟩
        cases rest with
        | nil => cases e
        | cons r rest =>
          cases e
          refine ⟨_, rfl, ?_⟩
          obtain ⟨v, vl⟩ := hv r (by simp)
          rw [List.flatMap_cons] at hz
          solve | fail | (first | (simp; done) | (simp; omega)) | (first | (simp; done) | (simp; omega)) | fail | fail
          have tc : (c : Int).toNat = c.toNat := rfl
          refine es_for (fun dsl ρ => ∃ (i m2 : Nat) (R2 : Rws) (a7 : Option D), dsl = SV.upTo (i : Int) m2 ∧ i + m2 = c.toNat ∧ R2 = R ++ ((((List.range i).map fun i : Nat => (i : Int)).filter fun t => decide (t ≠ lastT f r)).map fun t => r ++ [t]) ∧ R2.length ≤ R.length + i ∧ ρ = [some (.int c), some (.int (n : Nat)), some (.int f), some (.lst (rwsD (lev c f j))), some (.int (j : Int)), some (.ol (rwsD R2)), some (rwD r), a7]) ?_ ?_ _ _ ⟨0, c.toNat, R, _, by simp, by omega, by simp, by omega, rfl⟩
          · rintro ρ ⟨i, m2, R2, a7, e, hi, hR, hl, rfl⟩
            cases m2 with
            | succ m2 => rw [upTo_succ] at e; cases e
            | zero =>
              have e2 : i = c.toNat := by omega
              subst e2
              exact ⟨rest, R2, _, _, rfl, by rw [hR, ← hz]; simp [kids, nt], fun r hr => hv r (by simp [hr]), rfl⟩
          · rintro d dsl ρ ⟨i, m2, R2, a7, e, hi, hR, hl, rfl⟩
            cases m2 with
            | zero => cases e
            | succ m2 =>
              rw [upTo_succ] at e
              cases e
              refine ⟨_, rfl, ?_⟩
              have hRl : R.length ≤ 700 := by
                have := congrArg List.length hz
                rw [List.length_append] at this
                omega
              refine b_if (b_tb (b_op (b_var rfl rfl rfl (b_ok (b_lastE (r := r) (f := f) ?he rfl (b_ok ?_))))))
              case he => exact var_e rfl rfl rfl
              by_cases h : (i : Int) = lastT f r
              · solve | fail | (simp [h]; done) | (first | (simp; done) | (simp; omega)) | fail | fail
                exact ⟨i + 1, m2, R2, _, by simp, by omega, by rw [hR, List.range_succ, List.map_append, List.filter_append]; simp [h], by omega, rfl⟩
              · solve | fail | (simp [h]; done) | (first | (simp; done) | (simp; omega)) | with_reducible refine add_rt (by omega) ?_ | (simp [rwsD]; omega)
                refine ⟨i + 1, m2, R2 ++ [r ++ [(i : Int)]], some (.int (i : Int)), by simp, by omega, by rw [hR, List.range_succ, List.map_append, List.filter_append]; simp [h], by rw [List.length_append, List.length_singleton]; omega, ?_⟩
                simp [rwsD_app, rwsD_one]
end LAWP
end
section
set_option Elab.async false
set_option linter.all false
set_option autoImplicit false
set_option maxRecDepth 100000
set_option maxHeartbeats 0
set_option pp.maxSteps 400
namespace LAWP
open PySem PySem.Spec L2 SV LAWM
local macro_rules
  | `(tactic| solve | $a | $b | $c | $d | $e) => `(tactic| (repeat' (first
      | (apply_rules (transparency := .reducible) (symm := false) (exfalso := false) (maxDepth := 1000) only [@b_ok, @b_okS, @b_nx, @b_seq, @b_op, @b_ret, @b_cons, @b_nil, @b_CB, @b_C1, @b_set, @b_tb, @b_bl, @b_if, @b_end, @b_preps, @b_prepF, @b_preps0, @b_call, @b_owns, @b_owns0])
      | (apply_rules (transparency := .reducible) (symm := false) (exfalso := false) (maxDepth := 1000) only [@b_nret, @b_nexc, @b_exc, @b_excS, @b_nbrk, @b_nct, @b_mret, @b_expr, @b_setI, @b_un, @b_C2, @b_tru, @b_and, @b_or, @b_not, @b_notT, @b_andV, @b_orV, @b_blE, @b_ifE, @b_add, @b_neg, @b_aug, @b_prepT, @b_frzs, @b_frzs0, @b_tup, @b_lst, @b_isN, @b_notN, @b_isi, @b_raise, @b_ownS, @b_bnd, @b_iter, @b_fseq, @b_mfor, @b_enum, @b_callK, @b_sl, @b_part, @b_pi])
      | ((with_reducible apply b_var); rfl; (focus (first | rfl | assumption)); (focus (first | rfl | assumption)))
      | ((with_reducible apply b_varO); rfl; (focus (first | rfl | assumption)))
      | ((with_reducible apply b_st); exact Nat.le_of_ble_eq_true rfl)
      | ((with_reducible apply b_mvS); rfl; (focus (first | rfl | assumption)))
      | ((with_reducible apply b_mv); (focus (first | assumption | (intro _ z; cases z; done))))
      | ((with_reducible apply b_frzS); rfl; (focus (first | rfl | assumption)))
      | ((with_reducible apply b_frzG); focus (first | assumption | rfl))
      | ((with_reducible apply b_frz); (focus (first | assumption | (intro _ z; cases z; done))))
      | ((with_reducible apply b_own); (focus (first | assumption | (intro _ z; cases z; done))))
      | ((with_reducible apply b_II); focus (first | rfl | $c))
      | ((with_reducible apply b_look2); (focus (first | rfl | exact dr_gd (by assumption))); (focus (first | rfl | exact dr_gd (by assumption))); focus (first | exact gEqF | exact gNeF | $a | rfl))
      | ((with_reducible apply b_look); (focus (first | rfl | exact dr_gd (by assumption))); focus (first | $a | rfl))
      | ((with_reducible apply b_trv); (focus (first | rfl | exact dr_gd (by assumption))); rfl)
      | ((with_reducible apply b_io); rfl)
      | ((with_reducible apply b_lim); exact Nat.le_of_ble_eq_true rfl)
      | ((with_reducible apply b_setD); rfl)
      | ((with_reducible apply b_setK); rfl; rfl)
      | ((with_reducible apply b_LM); rfl)
      | ((with_reducible apply b_ifT); focus (first | rfl | $b))
      | ((with_reducible apply b_ifF); focus (first | rfl | $b))
      | ((with_reducible apply b_eT); focus (first | rfl | $b))
      | ((with_reducible apply b_eF); focus (first | rfl | $b))
      | ((with_reducible apply b_rng1); focus (first | (simp [okR]; done) | (simp [okR]; omega)))
      | ((with_reducible apply b_rng2); focus (first | (simp [okR]; done) | (simp [okR]; omega)))
      | ((with_reducible apply b_back); focus (first | rfl | exact cb_f rfl rfl))
      | ((with_reducible apply b_seqF); rfl)
      | ((with_reducible apply b_LMr); rfl; focus (refine lApp ?_; first | (simp; done) | (simp; omega) | $e))
      | ((with_reducible apply b_rz); exact ⟨rfl, Nat.le_of_ble_eq_true rfl, Nat.le_of_ble_eq_true rfl⟩)
      | $d
      | fail)))
theorem lcells_k {c f : Int} {p : Nat} {Q : Res D → List D → Prop} (c0 : 2 ≤ c) (c1 : c ≤ 10) (p1 : p ≤ 12) (f0 : 0 ≤ f) (f1 : f < c) (ht : tot c p ≤ 700) (k : Q (.ok (.ol (rwsD (cells c f p)))) []) : Ef f__law_cells [.int c, .int (p : Nat), .int f] Q := by
  refine ef_fun ?_
  show Es m__law_cells [some (.int c), some (.int (p : Nat)), some (.int f), none, none] _
  unfold m__law_cells
  solve | fail | (first | (simp; done) | (simp; omega)) | (first | (simp; done) | (simp; omega)) | fail | fail
  have tn : ((p : Nat) : Int).toNat = p := by omega
  try rw [tn]
  refine es_for (fun dsl ρ => ∃ (j m : Nat) (a4 : Option D), dsl = SV.upTo (j : Int) m ∧ j + m = p ∧ ρ = [some (.int c), some (.int (p : Nat)), some (.int f), some (.ol (rwsD (cells c f j))), a4]) ?_ ?_ _ _ ⟨0, p, none, by simp, by omega, rfl⟩
  · rintro ρ ⟨j, m, a4, e, hj, rfl⟩
    cases m with
    | succ m => rw [upTo_succ] at e; cases e
    | zero =>
      have e2 : j = p := by omega
      subst e2
      solve | fail | (first | (simp; done) | (simp; omega)) | (first | (simp; done) | (simp; omega)) | fail | fail
      exact ⟨_, rfl, k⟩
  · rintro d dsl ρ ⟨j, m, a4, e, hj, rfl⟩
    cases m with
    | zero => cases e
    | succ m =>
      rw [upTo_succ] at e
      cases e
      refine ⟨_, rfl, ?_⟩
      have h1 : tot c (j + 1) ≤ 700 := Nat.le_trans (tot_le (by omega)) ht
      have n1 := len_cells f0 f1 (j + 1)
      have n2 : (cells c f (j + 1)).length = (cells c f j).length + (lev c f j).length := by show (cells c f j ++ lev c f j).length = _; simp
      solve | fail | (first | (simp; done) | (simp; omega)) | (first | (simp; done) | (simp; omega)) | (first | first | refine lall_k c0 c1 (by omega) f0 f1 h1 ?_ | refine add_sf rfl (gd_rws _) (gd_rws _) (by simp [rwsD]; omega) ?_) | fail
      exact ⟨j + 1, m, _, by simp, by omega, by rw [← rwsD_app]; rfl⟩
theorem ix_lastR {s : D} {q : List Int} {l : Int} (h : IsRow s (q ++ [l])) : gIx s (.int (-1)) = some (.int l) := by
  rcases h with rfl | rfl
  · have e : atI ((q ++ [l]).map D.int) (-1) = some (.int l) := by rw [List.map_append]; exact atI_last _ _
    show (match atI ((q ++ [l]).map D.int) (-1) with
      | some d => if d.own = true then none else some d
      | none => none) = _
    rw [e]
    rfl
  · exact ix_lastT
theorem tru_row {s : D} {x : Int} {q : List Int} (h : IsRow s (x :: q)) : s.tru = some true := by rcases h with rfl | rfl <;> simp [D.tru]
theorem b_lastR {e : M D} {i : Nat} {ρ : SV.Env} {s : D} {r : List Int} {f : Int} {QD : Res D → SV.Env → Prop} (hs : IsRow s r) (he : Ev e ρ fun x ρ1 => x = .ok s ∧ ρ1 = ρ) (hi : ρ[i]? = some (some (.int f))) (q : QD (.ok (.int (lastT f r))) ρ) : Ev (mIfE (mTru e) (mOp fIx e (mUn fNeg (SV.ret (.int 1)))) (mVar i)) ρ QD := by
  have sd := hs.gd
  refine b_ifE (b_tru (he.imp ?_))
  rintro _ _ ⟨rfl, rfl⟩
  rcases List.eq_nil_or_concat r with rfl | ⟨m, l, rfl⟩
  · refine b_ok ?_
    have ts : s.tru = some false := by rcases hs with rfl | rfl <;> rfl
    exact b_trv (dr_gd sd) ts (b_eF rfl (b_var hi rfl rfl q))
  · rw [List.concat_eq_append, lastT_app] at *
    refine b_ok ?_
    have ts : s.tru = some true := by
      cases m with
      | nil => exact tru_row hs
      | cons x m => exact tru_row hs
    refine b_trv (b := true) (dr_gd sd) ts (b_eT rfl ?_)
    refine b_op (he.imp ?_)
    rintro _ _ ⟨rfl, rfl⟩
    solve | exact ix_lastR hs | (first | (simp; done) | (simp; omega)) | (first | (simp; done) | (simp; omega)) | fail | fail
    exact q
def unR : D → List Int
  | .tup xs => xs.map fun d => match d with | .int i => i | _ => 0
  | _ => []
theorem unR_rw (r : List Int) : unR (rwD r) = r := by simp [unR, rwD, List.map_map, Function.comp_def]
def LE4 : M D := mIfE (mTru (mVar 4)) (mOp fIx (mVar 4) (mUn fNeg (SV.ret (.int 1)))) (mVar 1)
theorem lleft_k {C : Rws} {f : Int} {s : D} {r : List Int} {Q : Res D → List D → Prop} (hs : IsRow s r) (hl : C.length ≤ 700) (hC : ∀ x ∈ C, x.length ≤ 100) (hr : r.length ≤ 100) (k : Q (.ok (.ol ((lft C f r).map D.int))) []) : Ef f__law_left [.lst (rwsD C), .int f, s] Q := by
  refine ef_fun ?_
  show Es m__law_left [some (.lst (rwsD C)), some (.int f), some s, none, none] _
  unfold m__law_left
  have sd := hs.gd
  have o := gd_own sd
  have ox := gd_isX sd
  have nsl := gd_nsl sd
  refine b_seq (b_set (b_lastR (i := 1) hs (var_e rfl o ox) rfl ?_))
  solve | fail | (first | (simp; done) | (simp; omega)) | (first | (simp; done) | (simp; omega)) | fail | fail
  refine lc_map (rwsD C) (fun d => .int (if hid (unR d) r = true then lastT f r else lastT f (unR d))) (Nat.le_of_ble_eq_true rfl) ?_ (by simp [rwsD]; omega) (fun x hx => ?_) (fun x hx j z => by cases z) ?_
  · solve | fail | (first | (simp; done) | (simp; omega)) | (first | (simp; done) | (simp; omega)) | fail | fail
    exact ⟨rfl, rfl⟩
  · obtain ⟨y, hy, rfl⟩ := List.mem_map.mp hx
    have hxl := hC y hy
    rw [unR_rw]
    show Ev (mIfE (mTru (mCall [false, false] f__law_hidden [] (mCons (mVar 4) (mCons (mVar 2) mNil)))) (mVar 3) LE4) _ _
    have l4 : ∀ {QD : Res D → SV.Env → Prop}, QD (.ok (.int (lastT f y))) [some (.lst (rwsD C)), some (.int f), some s, some (.int (lastT f r)), some (rwD y)] → Ev LE4 [some (.lst (rwsD C)), some (.int f), some s, some (.int (lastT f r)), some (rwD y)] QD := fun {QD} q => b_lastE (i := 1) (r := y) (var_e rfl rfl rfl) rfl q
    cases hh : hid y r with
    | true =>
      solve | fail | (first | (rw [hh]; done) | rfl) | (first | (simp; done) | (simp; omega)) | refine lhid_k (.inr rfl) hs (by omega) (by omega) ?_ | fail
      exact ⟨rfl, rfl⟩
    | false =>
      solve | fail | (first | (rw [hh]; done) | rfl) | (first | (simp; done) | (simp; omega)) | (first | first | refine l4 ?_ | refine lhid_k (.inr rfl) hs (by omega) (by omega) ?_) | fail
      exact ⟨rfl, rfl⟩
  · have e : (rwsD C).map (fun d => D.int (if hid (unR d) r = true then lastT f r else lastT f (unR d))) = (lft C f r).map D.int := by
      simp only [rwsD, lft, List.map_map]
      refine List.map_congr_left fun x _ => ?_
      simp [unR_rw]
    rw [e]
    solve | fail | (first | (simp; done) | (simp; omega)) | (first | (simp; done) | (simp; omega)) | fail | fail
    exact ⟨_, rfl, k⟩
theorem lraw_k {h : D} {f : Int} {r : List Int} {Q : Res D → List D → Prop} (hh : HOk h) (hl : r.length ≤ 13) (k : ∀ w h', Raw f r w → w.length ≤ 60 → HOk h' → Q (.ok (.ol (w.map D.int))) [h']) : Ef f__law_raw [h, rwD r, .int f] Q := by
  refine ef_fun ?_
  show Es m__law_raw [some h, some (rwD r), some (.int f), none, none, none] _
  unfold m__law_raw
  have o := hh.own
  have ox := hh.isX
  have orr : (rwD r).own = false := rfl
  have oxr : (rwD r).isX = false := rfl
  refine b_seq (b_set ?_)
  refine ev_lc (fun dsl acc ρ => ∃ (i m : Nat) (h1 : D), dsl = SV.upTo (i : Int) m ∧ i + m ≤ 2 ∧ acc = (List.replicate i f).map D.int ∧ HOk h1 ∧ ρ = [some h1, some (rwD r), some (.int f), none, none, none]) ?_ ?_ ?_
  · solve | fail | (first | (simp; done) | (simp; omega)) | (first | (simp; done) | (simp; omega)) | refine take_k hh (by omega) (by omega) fun v h1 v0 v1 hh1 => ?_ | fail
    exact ⟨⟨0, v.toNat, h1, by simp, by omega, rfl, hh1, rfl⟩, by rw [SV.upTo_length]; simp [lim]; omega⟩
  · rintro acc ρ ⟨i, m, h1, e, hi, rfl, hh1, rfl⟩
    cases m with
    | succ m => rw [upTo_succ] at e; cases e
    | zero =>
      solve | fail | (first | (simp; done) | (simp; omega)) | (first | (simp; done) | (simp; omega)) | fail | fail
      refine es_for (fun dsl ρ => ∃ (done rest w : List Int) (h : D) (a4 a5 : Option D), dsl = rest.map D.int ∧ done ++ rest = r ∧ Raw f done w ∧ w.length ≤ 3 + 3 * done.length ∧ HOk h ∧ ρ = [some h, some (rwD r), some (.int f), some (.ol (w.map D.int)), a4, a5]) ?_ ?_ _ _ ⟨[], r, List.replicate i f, h1, none, none, rfl, rfl, .nil i, by simp; omega, hh1, rfl⟩
      · rintro ρ ⟨done, rest, w, h, a4, a5, e, hd, hw, hwl, hh, rfl⟩
        cases rest with
        | cons t rest => cases e
        | nil =>
          rw [List.append_nil] at hd
          subst hd
          have ox := hh.isX
          solve | fail | (first | (simp; done) | (simp; omega)) | (first | (simp; done) | (simp; omega)) | fail | fail
          exact ⟨[h], by simp [ioGet, ox], k w h hw (by omega) hh⟩
      · rintro d dsl ρ ⟨done, rest, w, h, a4, a5, e, hd, hw, hwl, hh, rfl⟩
        cases rest with
        | nil => cases e
        | cons t rest =>
          cases e
          refine ⟨_, rfl, ?_⟩
          have o := hh.own
          have ox := hh.isX
          have dl : done.length < 13 := by
            have := congrArg List.length hd
            rw [List.length_append, List.length_cons] at this
            omega
          solve | fail | (first | (simp; done) | (simp; omega)) | (first | (simp; done) | (simp; omega)) | refine take_k hh (by omega) (by omega) fun v h2 v0 v1 hh2 => ?_ | fail
          refine es_for (fun dsl ρ => ∃ (i m : Nat) (a5 : Option D), dsl = SV.upTo (i : Int) m ∧ i + m = (1 + v).toNat ∧ ρ = [some h2, some (rwD r), some (.int f), some (.ol ((w ++ List.replicate i t).map D.int)), some (.int t), a5]) ?_ ?_ _ _ ⟨0, (1 + v).toNat, a5, by simp, by omega, by simp⟩
          · rintro ρ ⟨i, m, a5, e, hi, rfl⟩
            cases m with
            | succ m => rw [upTo_succ] at e; cases e
            | zero =>
              obtain ⟨n, rfl⟩ : ∃ n, i = n + 1 := ⟨i - 1, by omega⟩
              refine ⟨done ++ [t], rest, w ++ List.replicate (n + 1) t, h2, _, _, rfl, by rw [← hd]; simp, ?_, by simp; omega, hh2, rfl⟩
              rw [List.replicate_succ]
              exact raw_app hw n
          · rintro d dsl ρ ⟨i, m, a5, e, hi, rfl⟩
            cases m with
            | zero => cases e
            | succ m =>
              rw [upTo_succ] at e
              cases e
              refine ⟨_, rfl, ?_⟩
              solve | fail | (first | (simp; done) | (simp; omega)) | (first | (simp; done) | (simp; omega)) | fail | (simp; omega)
              refine ⟨i + 1, m, some (.int (i : Int)), by simp, by omega, ?_⟩
              simp [List.replicate_succ']
  · rintro d dsl acc ρ ⟨i, m, h1, e, hi, rfl, hh1, rfl⟩
    cases m with
    | zero => cases e
    | succ m =>
      rw [upTo_succ] at e
      cases e
      refine ⟨_, rfl, ?_⟩
      solve | fail | (first | (simp; done) | (simp; omega)) | (first | (simp; done) | (simp; omega)) | fail | fail
      refine ⟨true, rfl, ?_⟩
      rw [if_pos rfl]
      solve | fail | (first | (simp; done) | (simp; omega)) | (first | (simp; done) | (simp; omega)) | fail | fail
      refine ⟨_, rfl, ?_⟩
      solve | fail | (first | (simp; done) | (simp; omega)) | (first | (simp; done) | (simp; omega)) | fail | fail
      exact ⟨_, rfl, i + 1, m, h1, by simp, by omega, by rw [List.replicate_succ', List.map_append]; rfl, hh1, rfl⟩
theorem ltot_k {c : Int} {n : Nat} {Q : Res D → List D → Prop} (c0 : 2 ≤ c) (c1 : c ≤ 10) (n1 : n ≤ 12) (k : Q (.ok (.int (((c - 1).toNat ^ n : Nat) : Int))) []) : Ef f__law_total [.int c, .int (n : Nat), .int 0] Q := by
  refine ef_fun ?_
  show Es m__law_total [some (.int c), some (.int (n : Nat)), some (.int 0), none, none] _
  unfold m__law_total
  solve | fail | (first | (simp; done) | (simp; omega)) | (first | (simp; done) | (simp; omega)) | fail | fail
  have tn : ((n : Nat) : Int).toNat = n := by omega
  try rw [tn]
  refine es_for (fun dsl ρ => ∃ (j m : Nat) (t : Int) (a4 : Option D), dsl = SV.upTo (j : Int) m ∧ j + m = n ∧ t = (((c - 1).toNat ^ j : Nat) : Int) ∧ ρ = [some (.int c), some (.int (n : Nat)), some (.int 0), some (.int t), a4]) ?_ ?_ _ _ ⟨0, n, 1, none, by simp, by omega, rfl, rfl⟩
  · rintro ρ ⟨j, m, t, a4, e, hj, ht, rfl⟩
    cases m with
    | succ m => rw [upTo_succ] at e; cases e
    | zero =>
      have e2 : j = n := by omega
      subst e2
      rw [← ht] at k
      solve | fail | (first | (simp; done) | (simp; omega)) | (first | (simp; done) | (simp; omega)) | fail | fail
      exact ⟨_, rfl, k⟩
  · rintro d dsl ρ ⟨j, m, t, a4, e, hj, ht, rfl⟩
    cases m with
    | zero => cases e
    | succ m =>
      rw [upTo_succ] at e
      cases e
      refine ⟨_, rfl, ?_⟩
      have e2 : t * (c - 1) = (((c - 1).toNat ^ (j + 1) : Nat) : Int) := by
        rw [ht, Nat.pow_succ, Int.natCast_mul, show ((c - 1).toNat : Int) = c - 1 by omega]
      by_cases h : j = 0
      · solve | fail | (first | (simp [h]; done) | (simp; omega)) | (first | (simp; done) | (simp; omega)) | fail | fail
        exact ⟨j + 1, m, t * (c - 1), _, by simp, by omega, e2, rfl⟩
      · solve | fail | (first | (simp [h]; done) | (simp; omega)) | (first | (simp; done) | (simp; omega)) | fail | fail
        exact ⟨j + 1, m, t * (c - 1), _, by simp, by omega, e2, rfl⟩
end LAWP
end
section
set_option Elab.async false
set_option linter.all false
set_option autoImplicit false
set_option maxRecDepth 100000
set_option maxHeartbeats 0
set_option pp.maxSteps 400
namespace LAWP
open PySem PySem.Spec L2 SV LAWM
theorem pks_ints : ∀ {xs : List Int}, (∀ x ∈ xs, x.natAbs < 10 ^ 22) → pks (xs.map D.int) = true
  | [], _ => rfl
  | x :: xs, h => by
    show (pk (.int x) && pks (xs.map D.int)) = true
    rw [pks_ints fun y hy => h y (by simp [hy])]
    simpa [pk] using h x (by simp)
theorem dpts_ints : ∀ xs : List Int, dpts (xs.map D.int) = 0
  | [] => rfl
  | x :: xs => by
    show max (dpt (.int x)) (dpts (xs.map D.int)) = 0
    rw [dpts_ints xs]
    rfl
theorem pks_ps : ∀ {ts : List (Int × Int)}, (∀ q ∈ ts, q.1.natAbs < 10 ^ 22 ∧ q.2.natAbs < 10 ^ 22) → pks (ts.map tupP) = true
  | [], _ => rfl
  | q :: ts, h => by
    show (pk (tupP q) && pks (ts.map tupP)) = true
    rw [pks_ps fun y hy => h y (by simp [hy])]
    have := pks_ints (xs := [q.1, q.2]) (by
      intro x hx
      have z := h q (by simp)
      simp at hx
      rcases hx with rfl | rfl
      · exact z.1
      · exact z.2)
    rw [show pk (tupP q) = pks ([q.1, q.2].map D.int) from rfl, this]
    rfl
theorem dpts_ps : ∀ ts : List (Int × Int), dpts (ts.map tupP) ≤ 1
  | [] => Nat.zero_le _
  | q :: ts => by
    have := dpts_ps ts
    have e : dpt (tupP q) = dpts ([q.1, q.2].map D.int) + 1 := by unfold tupP; simp [dpt]
    have e2 := dpts_ints [q.1, q.2]
    show max (dpt (tupP q)) (dpts (ts.map tupP)) ≤ 1
    omega
theorem eq_ps {ts : List (Int × Int)} {neg : Bool} (h : ∀ q ∈ ts, q.1.natAbs < 10 ^ 22 ∧ q.2.natAbs < 10 ^ 22) : gEq neg (.tup (ts.map tupP)) (.tup (ts.map tupP)) = some (.bl (!neg)) := by
  refine gEq_self (show pk (.tup (ts.map tupP)) = true by simpa [pk] using pks_ps h) ?_ rfl
  have := dpts_ps ts
  simp only [dpt]
  omega
theorem sortP_s {qs : List (Int × Int)} {i : Nat} {ρ : SV.Env} {QD : Res D → SV.Env → Prop} (h : ρ[i]? = some (some (.ol (qs.map tupP)))) (q : QD (.ok (.ol ((srtP qs).map tupP))) ρ) : Ev (fSortP (.sl i)) ρ QD := by
  refine ⟨_, _, ?_, q⟩
  unfold fSortP bnd fLs
  simp [dr, h, D.isX, plain_gd (gd_ps qs), pairsD_map, SV.ret]
/-! ### the dict of the places -/
theorem b_setT {i : Nat} {mk me : M D} {ρ : SV.Env} {QS : Fl → SV.Env → Prop} (h : Ev me ρ (onOkS QS fun d0 ρ1 => Ev (fFrz d0) ρ1 (onOkS QS fun d ρ2 => Es (mSetDT i mk d) ρ2 QS))) : Es (mSetT i mk me) ρ QS := by
  unfold mSetT
  rw [es_bndS]
  refine h.imp fun r ρ1 q => ?_
  cases r with
  | exc c fs => exact q
  | ok d =>
    show Es (bndS (fFrz d) fun d => mSetDT i mk d) ρ1 QS
    rw [es_bndS]
    exact q
theorem b_setDT {i : Nat} {mk : M D} {d : D} {ks : List (List L2.Key)} {xs : List D} {ρ : SV.Env} {QS : Fl → SV.Env → Prop} (h0 : ρ[i]? = some (some (.ot ks xs))) (h : Ev mk ρ (onOkS QS fun z ρ1 => Es (stT i z d) ρ1 QS)) : Es (mSetDT i mk d) ρ QS := by
  have e : Es (bndS mk fun z => stT i z d) ρ QS := by rw [es_bndS]; exact h
  obtain ⟨fl, ρ1, e1, q⟩ := e
  refine ⟨fl, ρ1, ?_, q⟩
  unfold mSetDT
  rw [h0]
  exact e1
def kr (r : List Int) : List L2.Key := r.map Sum.inl
theorem kr_inj {r q : List Int} (h : kr r = kr q) : r = q := by
  have := congrArg (List.map fun k : L2.Key => match k with | .inl i => i | .inr _ => 0) h
  simpa [kr, List.map_map, Function.comp_def] using this
theorem key_rw (r : List Int) : keyOfD (rwD r) = some (kr r) := by
  show keysD (r.map D.int) = some (kr r)
  induction r with
  | nil => rfl
  | cons x r ih =>
    rw [List.map_cons]
    unfold keysD
    rw [ih]
    rfl
theorem b_stT {i : Nat} {r : List Int} {d : D} {ks : List (List L2.Key)} {xs : List D} {ρ : SV.Env} {QS : Fl → SV.Env → Prop} (h0 : ρ[i]? = some (some (.ot ks xs))) (pl : plain xs = true) (hl : ks.length < 16777216) (nin : kr r ∉ ks) (q : QS .nx (ρ.set i (some (.ot (ks ++ [kr r]) (xs ++ [d]))))) : Es (stT i (rwD r) d) ρ QS := by
  refine ⟨_, _, ?_, q⟩
  have na : ¬ (ks.any fun x => decide (x = kr r)) = true := by
    intro z
    rw [List.any_eq_true] at z
    obtain ⟨x, hx, e⟩ := z
    exact nin (of_decide_eq_true e ▸ hx)
  unfold stT
  rw [key_rw, h0]
  simp only
  rw [if_pos ⟨pl, hl⟩]
  unfold putKs putDs
  rw [if_neg na, if_neg na]
theorem tLook_at : ∀ {C : Rws} {xs : List D} {j : Nat} {q : List Int} {d : D}, C.Nodup → C[j]? = some q → xs[j]? = some d → C.length = xs.length → tLook (C.map kr) xs (kr q) = some d
  | [], xs, j, q, d, _, h, _, _ => by simp at h
  | x :: C, [], j, q, d, _, _, h, _ => by simp at h
  | x :: C, y :: xs, 0, q, d, nd, h, h2, hl => by
    simp at h h2
    subst h h2
    simp [tLook]
  | x :: C, y :: xs, j + 1, q, d, nd, h, h2, hl => by
    simp at h h2
    have hm : q ∈ C := List.mem_of_getElem? h
    have ne : ¬ kr x = kr q := fun z => (List.nodup_cons.mp nd).1 (kr_inj z ▸ hm)
    show (if kr x = kr q then some y else tLook (C.map kr) xs (kr q)) = some d
    rw [if_neg ne]
    exact tLook_at (List.nodup_cons.mp nd).2 h h2 (by simpa using hl)
theorem cut_dl {ds : List D} : SV.cut ds none (some (-1)) = ds.dropLast := by
  unfold SV.cut
  rw [HT.sIx_none]
  have e : HT.sIx ds.length ds.length (some (-1)) = ds.length - 1 := by
    show (if (-1 : Int) < 0 then ((-1 : Int) + (ds.length : Int)).toNat else min (-1 : Int).toNat ds.length) = _
    rw [if_pos (by decide)]
    omega
  rw [e, List.dropLast_eq_take]
  simp
theorem cut_rw {r : List Int} {ρ : SV.Env} {QD : Res D → SV.Env → Prop} (q : QD (.ok (rwD r.dropLast)) ρ) : Ev (fCut (rwD r) none (some (-1))) ρ QD := by
  refine cutT (gd_ints r) cut_dl ?_
  rw [← List.map_dropLast]
  exact q
theorem nrm_tsB {R : Rws} {B : List Int} (h : Bf R B) : nrm (tsB B) = srtP (tsB B) := by
  have e1 : (tsB B).map mm = tsB B := by
    have : (tsB B).map mm = (tsB B).map id := List.map_congr_left fun q hq => by
      obtain ⟨i, b, hb, rfl⟩ := mem_tsB hq
      obtain ⟨h0, h1, _⟩ := h.par i b hb
      unfold mm
      simp only
      rw [if_neg (by omega), if_pos (by omega)]
      rfl
    rw [this, List.map_id]
  have nd : (tsB B).Nodup := by
    unfold tsB
    refine List.Pairwise.map _ (fun a b hab => ?_) List.nodup_range
    intro z
    injection z with z1 z2
    omega
  unfold nrm
  rw [e1, ddP_nd nd]
def rgN (n : Nat) : List Int := (List.range n).map fun i : Nat => (i : Int)
theorem rgN_succ (n : Nat) : rgN (n + 1) = rgN n ++ [(n : Int)] := by simp [rgN, List.range_succ]
theorem rgN_get {n i : Nat} (h : i < n) : (rgN n)[i]? = some (i : Int) := by simp [rgN, h]
local macro_rules
  | `(tactic| solve | $a | $b | $c | $d | $e) => `(tactic| (repeat' (first
      | (apply_rules (transparency := .reducible) (symm := false) (exfalso := false) (maxDepth := 1000) only [@b_ok, @b_okS, @b_nx, @b_seq, @b_op, @b_ret, @b_cons, @b_nil, @b_CB, @b_C1, @b_set, @b_tb, @b_bl, @b_if, @b_end, @b_preps, @b_prepF, @b_preps0, @b_call, @b_owns, @b_owns0])
      | (apply_rules (transparency := .reducible) (symm := false) (exfalso := false) (maxDepth := 1000) only [@b_nret, @b_nexc, @b_exc, @b_excS, @b_nbrk, @b_nct, @b_mret, @b_expr, @b_setI, @b_un, @b_C2, @b_tru, @b_and, @b_or, @b_not, @b_notT, @b_andV, @b_orV, @b_blE, @b_ifE, @b_add, @b_neg, @b_aug, @b_prepT, @b_frzs, @b_frzs0, @b_tup, @b_lst, @b_isN, @b_notN, @b_isi, @b_raise, @b_ownS, @b_bnd, @b_iter, @b_fseq, @b_mfor, @b_enum, @b_callK, @b_sl, @b_part, @b_pi])
      | ((with_reducible apply b_var); rfl; (focus (first | rfl | assumption)); (focus (first | rfl | assumption)))
      | ((with_reducible apply b_varO); rfl; (focus (first | rfl | assumption)))
      | ((with_reducible apply b_st); exact Nat.le_of_ble_eq_true rfl)
      | ((with_reducible apply b_mvS); rfl; (focus (first | rfl | assumption)))
      | ((with_reducible apply b_mv); (focus (first | assumption | (intro _ z; cases z; done))))
      | ((with_reducible apply b_frzS); rfl; (focus (first | rfl | assumption)))
      | ((with_reducible apply b_frzG); focus (first | assumption | rfl))
      | ((with_reducible apply b_frz); (focus (first | assumption | (intro _ z; cases z; done))))
      | ((with_reducible apply b_own); (focus (first | assumption | (intro _ z; cases z; done))))
      | ((with_reducible apply b_II); focus (first | rfl | $c))
      | ((with_reducible apply b_look2); (focus (first | rfl | exact dr_gd (by assumption))); (focus (first | rfl | exact dr_gd (by assumption))); focus (first | exact gEqF | exact gNeF | $a | rfl))
      | ((with_reducible apply b_look); (focus (first | rfl | exact dr_gd (by assumption))); focus (first | $a | rfl))
      | ((with_reducible apply b_trv); (focus (first | rfl | exact dr_gd (by assumption))); rfl)
      | ((with_reducible apply b_io); rfl)
      | ((with_reducible apply b_lim); exact Nat.le_of_ble_eq_true rfl)
      | ((with_reducible apply b_setD); rfl)
      | ((with_reducible apply b_setK); rfl; rfl)
      | ((with_reducible apply b_LM); rfl)
      | ((with_reducible apply b_ifT); focus (first | rfl | $b))
      | ((with_reducible apply b_ifF); focus (first | rfl | $b))
      | ((with_reducible apply b_eT); focus (first | rfl | $b))
      | ((with_reducible apply b_eF); focus (first | rfl | $b))
      | ((with_reducible apply b_rng1); focus (first | (simp [okR]; done) | (simp [okR]; omega)))
      | ((with_reducible apply b_rng2); focus (first | (simp [okR]; done) | (simp [okR]; omega)))
      | ((with_reducible apply b_back); focus (first | rfl | exact cb_f rfl rfl))
      | ((with_reducible apply b_seqF); rfl)
      | ((with_reducible apply b_LMr); rfl; focus (refine lApp ?_; first | (simp; done) | (simp; omega) | $e))
      | ((with_reducible apply b_rz); exact ⟨rfl, Nat.le_of_ble_eq_true rfl, Nat.le_of_ble_eq_true rfl⟩)
      | $d
      | fail)))
theorem ltree_k {c f : Int} {p : Nat} {B : List Int} {Q : Res D → List D → Prop} (c0 : 2 ≤ c) (c1 : c ≤ 10) (p0 : 1 ≤ p) (p1 : p ≤ 12) (f0 : 0 ≤ f) (f1 : f < c) (ht : tot c p ≤ 700) (hB : Bf (cells c f p) B) (k : Q (.ok (.bl true)) []) : Ef f__law_tree_right [pic ((cells c f p).map (lastT f)) (nrm (tsB B)) [0], .lst (rwsD (cells c f p)), .int f] Q := by
  have fc := fld_c (cs := (cells c f p).map (lastT f)) (ts := nrm (tsB B)) (ms := [0])
  have ft := fld_t (cs := (cells c f p).map (lastT f)) (ts := nrm (tsB B)) (ms := [0])
  have fm := fld_m (cs := (cells c f p).map (lastT f)) (ts := nrm (tsB B)) (ms := [0])
  rw [nrm_tsB hB] at *
  generalize hC : cells c f p = C at *
  have nd : C.Nodup := hC ▸ nodup_cells c f p
  have hl : C.length = tot c p := hC ▸ len_cells f0 f1 p
  generalize htr : pic (C.map (lastT f)) (srtP (tsB B)) [0] = tr at *
  have po : tr.own = false := by rw [← htr]; rfl
  have px : tr.isX = false := by rw [← htr]; rfl
  have pn : ∀ i, tr ≠ .sl i := fun i z => by rw [← htr] at z; cases z
  refine ef_fun ?_
  show Es m__law_tree_right [some tr, some (.lst (rwsD C)), some (.int f), none, none, none, none] _
  unfold m__law_tree_right
  have gl : gLen (.lst (rwsD C)) = some (.int (C.length : Nat)) := by rw [gLen_l]; simp [rwsD]
  solve | exact gl | (first | (simp; done) | (simp; omega)) | (first | (simp; done) | (simp; omega)) | fail | fail
  have tn : ((C.length : Nat) : Int).toNat = C.length := by omega
  try rw [tn]
  refine es_for (fun dsl ρ => ∃ (i m : Nat) (a4 : Option D), dsl = SV.upTo (i : Int) m ∧ i + m = C.length ∧ ρ = [some tr, some (.lst (rwsD C)), some (.int f), some (.ot ((C.take i).map kr) ((rgN i).map D.int)), a4, none, none]) ?_ ?_ _ _ ⟨0, C.length, none, by simp, by omega, rfl⟩
  · rintro ρ ⟨i, m, a4, e, hi, rfl⟩
    cases m with
    | succ m => rw [upTo_succ] at e; cases e
    | zero =>
      have e2 : i = C.length := by omega
      subst e2
      rw [List.take_length]
      have bl := hB.len
      refine b_nx (b_seq (b_set ?_))
      refine ev_lc (fun dsl acc ρ => ∃ (i m : Nat), dsl = SV.upTo ((i : Int) + 1) m ∧ i + m = B.length ∧ acc = ((tsB B).take i).map tupP ∧ ρ = [some tr, some (.lst (rwsD C)), some (.int f), some (.ot (C.map kr) ((rgN C.length).map D.int)), none, none, none]) ?_ ?_ ?_
      · solve | exact gl | (first | (simp; done) | (simp; omega)) | (first | (simp; done) | (simp; omega)) | fail | fail
        refine ⟨⟨0, B.length, ?_, by omega, rfl, rfl⟩, ?_⟩
        · rw [show (((C.length : Nat) : Int) - 1).toNat = B.length by omega]; rfl
        · rw [SV.upTo_length]; simp [lim]; omega
      · rintro acc ρ ⟨i, m, e, hi, rfl, rfl⟩
        cases m with
        | succ m => rw [upTo_succ] at e; cases e
        | zero =>
          have e2 : i = (tsB B).length := by rw [tsB_len]; omega
          rw [e2, List.take_length]
          subst htr
          solve | exact fc | (first | (simp; done) | (simp; omega)) | (first | (simp; done) | (simp; omega)) | fail | fail
          refine lc_rows (C := C) (f := f) ?_ (by omega) rfl (Nat.le_of_ble_eq_true rfl) (by decide) ?_
          · solve | fail | (first | (simp; done) | (simp; omega)) | (first | (simp; done) | (simp; omega)) | fail | fail
            exact ⟨rfl, rfl⟩
          · have g1 : gEq true (.tup ((C.map (lastT f)).map D.int)) (.tup ((C.map (lastT f)).map D.int)) = some (.bl false) := by rw [gEq_tt]; simp
            have g2 : gEq true (.tup (([0] : List Int).map D.int)) (.tup [.int 0]) = some (.bl false) := gEq_tt (neg := true) (xs := [0]) (ys := [0])
            have g3 : gEq false (.tup ((srtP (tsB B)).map tupP)) (.tup ((srtP (tsB B)).map tupP)) = some (.bl true) := eq_ps fun q hq => by
              obtain ⟨i, b, hb, rfl⟩ := mem_tsB ((srtS_perm _).mem_iff.mp hq)
              obtain ⟨h0, h1, _⟩ := hB.par i b hb
              have := (List.getElem?_eq_some_iff.mp hb).1
              dsimp only
              omega
            solve | (first | exact fc | exact ft | exact fm | exact g1 | exact g2 | exact g3) | (first | (simp; done) | (simp; omega)) | (first | (simp; done) | (simp; omega)) | (first | first | refine tupOf_g (gd_ints _) ?_ | refine tupOf_g (gd_ps _) ?_ | refine sortP_s rfl ?_) | fail
            exact ⟨_, rfl, k⟩
      · rintro d dsl acc ρ ⟨i, m, e, hi, rfl, rfl⟩
        cases m with
        | zero => cases e
        | succ m =>
          rw [upTo_succ] at e
          cases e
          refine ⟨_, rfl, ?_⟩
          obtain ⟨b, hb⟩ : ∃ b, B[i]? = some b := ⟨_, List.getElem?_eq_getElem (by omega)⟩
          obtain ⟨b0, b1, r, hr, hd⟩ := hB.par i b hb
          obtain ⟨x, hx, rfl⟩ := Option.map_eq_some_iff.mp hd
          have gx := ix_rwsL hx
          have gt : gTIx (.ot (C.map kr) ((rgN C.length).map D.int)) (rwD x.dropLast) = some (.int b) := by
            have hbl : b.toNat < C.length := (List.getElem?_eq_some_iff.mp hr).1
            have e5 := tLook_at nd hr (xs := (rgN C.length).map D.int) (d := .int b) (by rw [List.getElem?_map, rgN_get hbl]; simp; omega) (by simp [rgN])
            have hg : gDT (.ot (C.map kr) ((rgN C.length).map D.int)) = some (C.map kr, (rgN C.length).map D.int) := by
              show (if plain _ = true then _ else none) = _
              rw [if_pos (plain_gd (gd_ints _))]
            unfold gTIx
            rw [hg, key_rw]
            exact e5
          solve | fail | (first | (simp; done) | (simp; omega)) | (first | (simp; done) | (simp; omega)) | fail | fail
          refine ⟨true, rfl, ?_⟩
          rw [if_pos rfl]
          solve | (first | exact gx | exact gt) | (first | (simp; done) | (simp; omega)) | (first | (simp; done) | (simp; omega)) | refine cut_rw ?_ | fail
          refine ⟨_, rfl, ?_⟩
          solve | fail | (first | (simp; done) | (simp; omega)) | (first | (simp; done) | (simp; omega)) | fail | fail
          refine ⟨_, rfl, i + 1, m, by simp, by omega, ?_, rfl⟩
          rw [List.take_succ, tsB_get hb]
          simp [tupP]
  · rintro d dsl ρ ⟨i, m, a4, e, hi, rfl⟩
    cases m with
    | zero => cases e
    | succ m =>
      rw [upTo_succ] at e
      cases e
      refine ⟨_, rfl, ?_⟩
      have hil : i < C.length := by omega
      have hg : C[i]? = some C[i] := List.getElem?_eq_getElem hil
      have gx := ix_rwsL hg
      have nin : kr C[i] ∉ (C.take i).map kr := fun z => by
        obtain ⟨q, hq, e⟩ := List.mem_map.mp z
        have e2 := kr_inj e
        subst e2
        obtain ⟨j, hj, e3⟩ := List.getElem_of_mem hq
        rw [List.getElem_take] at e3
        have hj2 : j < i := by rw [List.length_take] at hj; omega
        exact List.pairwise_iff_getElem.mp nd j i (by omega) hil hj2 e3
      refine b_setT (b_var rfl rfl rfl (b_okS (b_frzG rfl (b_okS (b_setDT rfl ?_)))))
      solve | exact gx | (first | (simp; done) | (simp; omega)) | (first | (simp; done) | (simp; omega)) | fail | fail
      refine b_stT rfl (plain_gd (gd_ints _)) (by simp; omega) nin ?_
      exact ⟨i + 1, m, some (.int (i : Int)), by simp, by omega, by rw [List.take_succ, hg, rgN_succ, List.map_append, List.map_append]; rfl⟩
end LAWP
end
section
set_option Elab.async false
set_option linter.all false
set_option autoImplicit false
set_option maxRecDepth 100000
set_option maxHeartbeats 0
set_option pp.maxSteps 400
namespace LAWP
open PySem PySem.Spec L2 SV LAWM
/-! ### read, asked, refused -/
local macro_rules
  | `(tactic| solve | $a | $b | $c | $d | $e) => `(tactic| (repeat' (first
      | (apply_rules (transparency := .reducible) (symm := false) (exfalso := false) (maxDepth := 1000) only [@b_ok, @b_okS, @b_nx, @b_seq, @b_op, @b_ret, @b_cons, @b_nil, @b_CB, @b_C1, @b_set, @b_tb, @b_bl, @b_if, @b_end, @b_preps, @b_prepF, @b_preps0, @b_call, @b_owns, @b_owns0])
      | (apply_rules (transparency := .reducible) (symm := false) (exfalso := false) (maxDepth := 1000) only [@b_nret, @b_nexc, @b_exc, @b_excS, @b_nbrk, @b_nct, @b_mret, @b_expr, @b_setI, @b_un, @b_C2, @b_tru, @b_and, @b_or, @b_not, @b_notT, @b_andV, @b_orV, @b_blE, @b_ifE, @b_add, @b_neg, @b_aug, @b_prepT, @b_frzs, @b_frzs0, @b_tup, @b_lst, @b_isN, @b_notN, @b_isi, @b_raise, @b_ownS, @b_bnd, @b_iter, @b_fseq, @b_mfor, @b_enum, @b_callK, @b_sl, @b_part, @b_pi])
      | ((with_reducible apply b_var); rfl; (focus (first | rfl | assumption)); (focus (first | rfl | assumption)))
      | ((with_reducible apply b_varO); rfl; (focus (first | rfl | assumption)))
      | ((with_reducible apply b_st); exact Nat.le_of_ble_eq_true rfl)
      | ((with_reducible apply b_mvS); rfl; (focus (first | rfl | assumption)))
      | ((with_reducible apply b_mv); (focus (first | assumption | (intro _ z; cases z; done))))
      | ((with_reducible apply b_frzS); rfl; (focus (first | rfl | assumption)))
      | ((with_reducible apply b_frzG); focus (first | assumption | rfl))
      | ((with_reducible apply b_frz); (focus (first | assumption | (intro _ z; cases z; done))))
      | ((with_reducible apply b_own); (focus (first | assumption | (intro _ z; cases z; done))))
      | ((with_reducible apply b_II); focus (first | rfl | $c))
      | ((with_reducible apply b_look2); (focus (first | rfl | exact dr_gd (by assumption))); (focus (first | rfl | exact dr_gd (by assumption))); focus (first | exact gEqF | exact gNeF | $a | rfl))
      | ((with_reducible apply b_look); (focus (first | rfl | exact dr_gd (by assumption))); focus (first | $a | rfl))
      | ((with_reducible apply b_trv); (focus (first | rfl | exact dr_gd (by assumption))); rfl)
      | ((with_reducible apply b_io); rfl)
      | ((with_reducible apply b_lim); exact Nat.le_of_ble_eq_true rfl)
      | ((with_reducible apply b_setD); rfl)
      | ((with_reducible apply b_setK); rfl; rfl)
      | ((with_reducible apply b_LM); rfl)
      | ((with_reducible apply b_ifT); focus (first | rfl | $b))
      | ((with_reducible apply b_ifF); focus (first | rfl | $b))
      | ((with_reducible apply b_eT); focus (first | rfl | $b))
      | ((with_reducible apply b_eF); focus (first | rfl | $b))
      | ((with_reducible apply b_rng1); focus (first | (simp [okR]; done) | (simp [okR]; omega)))
      | ((with_reducible apply b_rng2); focus (first | (simp [okR]; done) | (simp [okR]; omega)))
      | ((with_reducible apply b_back); focus (first | rfl | exact cb_f rfl rfl))
      | ((with_reducible apply b_seqF); rfl)
      | ((with_reducible apply b_LMr); rfl; focus (refine lApp ?_; first | (simp; done) | (simp; omega) | $e))
      | ((with_reducible apply b_rz); exact ⟨rfl, Nat.le_of_ble_eq_true rfl, Nat.le_of_ble_eq_true rfl⟩)
      | $d
      | fail)))
theorem pick_k {h : D} {ds : List D} {Q : Res D → List D → Prop} (hh : HOk h) (n0 : 0 < ds.length) (n1 : ds.length < 1000) (p : ∀ d ∈ ds, gd d = true) (k : ∀ d h', d ∈ ds → HOk h' → Q (.ok d) [h']) : Ef f__law_pick [h, .lst ds] Q := by
  refine ef_fun ?_
  show Es m__law_pick [some h, some (.lst ds)] _
  unfold m__law_pick
  have o := hh.own
  have ox := hh.isX
  solve | exact gLen_l | (first | (simp; done) | (simp; omega)) | (first | (simp; done) | (simp; omega)) | refine take_k hh (by omega) (by omega) fun v h1 v0 v1 hh1 => ?_ | fail
  have ox1 := hh1.isX
  obtain ⟨d, hd, e⟩ := gIx_any v0 v1 p
  have nd := gd_nsl (p d hd)
  solve | exact e | (first | (simp; done) | (simp; omega)) | (first | (simp; done) | (simp; omega)) | fail | fail
  exact ⟨_, by simp [ioGet, ox1], k d h1 hd hh1⟩
theorem sp_shown : strP ("shown" : Str) = true := by decide +kernel
theorem eq_shown {neg : Bool} {d : D} (h : pk d = true) (hd : dpt d ≤ 8) : gEq neg (.tup [.str "shown", d]) (.tup [.str "shown", d]) = some (.bl (!neg)) := by
  refine gEq_self ?_ ?_ rfl
  · show (pk (.str "shown") && (pk d && true)) = true
    rw [h, show pk (.str "shown") = true from sp_shown]
    rfl
  · simp only [dpt, dpts]
    omega
theorem lread_k {c f : Int} {p : Nat} {d : D} {Q : Res D → List D → Prop} (c0 : 2 ≤ c) (c1 : c ≤ 10) (p0 : 1 ≤ p) (p1 : p ≤ 12) (f0 : 0 ≤ f) (f1 : f < c) (ht : tot c p ≤ 700) (th : Th d)
    (k : (∀ r, tldD (cells c f p) c f d = some r → Q (.ok (rwD r)) []) ∧ (tldD (cells c f p) c f d = none → Q (.ok (.tup [.str "shown", d])) [])) : Ef f__law_read [.int c, .int (p : Nat), .int f, d] Q := by
  refine ef_fun ?_
  show Es m__law_read [some (.int c), some (.int (p : Nat)), some (.int f), some d, none] _
  unfold m__law_read
  obtain ⟨kr, kx⟩ := k
  have sd := th.1
  have o := gd_own sd
  have ox := gd_isX sd
  have nsl := gd_nsl sd
  have n : noX [some (.int c), some (.int (p : Nat)), some (.int f), some d, none] = true := by (simp [noX, ox] <;> first | rfl | exact ⟨rfl, rfl⟩ | exact ⟨rfl, rfl, rfl⟩)
  refine b_try ?_
  cases e : tldD (cells c f p) c f d with
  | some r =>
    solve | fail | (first | (simp; done) | (simp; omega)) | (first | (simp; done) | (simp; omega)) | refine told_k c0 c1 p0 p1 f0 f1 ht th ⟨fun r2 e2 => ?_, fun e2 => by rw [e] at e2; cases e2⟩ | fail
    rw [e] at e2
    cases e2
    solve | fail | (first | (simp; done) | (simp; omega)) | (first | (simp; done) | (simp; omega)) | fail | fail
    exact ⟨_, rfl, kr r e⟩
  | none =>
    solve | fail | (first | (simp; done) | (simp; omega)) | (first | (simp; done) | (simp; omega)) | refine told_k c0 c1 p0 p1 f0 f1 ht th ⟨fun r2 e2 => (by rw [e] at e2; cases e2), fun e2 => ?_⟩ | fail
    refine es_hdT (by decide +kernel) (es_suite n (Nat.le_of_ble_eq_true rfl) ?_)
    solve | fail | (first | (simp; done) | (simp; omega)) | (first | (simp; done) | (simp; omega)) | refine b_xf rfl (by decide +kernel) rfl ?_ | fail
    exact ⟨⟨by (simp [noX, ox] <;> first | rfl | exact ⟨rfl, rfl⟩ | exact ⟨rfl, rfl, rfl⟩), rfl⟩, ⟨_, rfl, kx e⟩⟩
theorem tell_x {a b d : D} {c : Str} {fs : List (Str × D)} {Q : Res D → List D → Prop} (ga : gd a = true) (gb : gd b = true) (gg : gd d = true) (h : ∀ {Q : Res D → List D → Prop}, Q (.exc c fs) [] → Ef f_check_tree [a, b, d] Q) (q : Q (.exc c fs) []) : Ef f_telling_tree [a, b, d] Q := by
  refine ef_fun ?_
  show Es m_telling_tree [some a, some b, some d, none, none, none, none] _
  unfold m_telling_tree
  have o1 := gd_own ga
  have x1 := gd_isX ga
  have n1 := gd_nsl ga
  have o2 := gd_own gb
  have x2 := gd_isX gb
  have n2 := gd_nsl gb
  have o3 := gd_own gg
  have x3 := gd_isX gg
  have n3 := gd_nsl gg
  solve | fail | (first | (simp; done) | (simp; omega)) | (first | (simp; done) | (simp; omega)) | refine h ?_ | fail
  exact ⟨_, rfl, q⟩
theorem told_x {a b d : D} {c : Str} {fs : List (Str × D)} {Q : Res D → List D → Prop} (ga : gd a = true) (gb : gd b = true) (gg : gd d = true) (h : ∀ {Q : Res D → List D → Prop}, Q (.exc c fs) [] → Ef f_check_tree [a, b, d] Q) (q : Q (.exc c fs) []) : Ef f_told_row [a, b, d, .non] Q := by
  refine ef_fun ?_
  show Es m_told_row [some a, some b, some d, some .non, none, none, none, none, none] _
  unfold m_told_row
  have o1 := gd_own ga
  have x1 := gd_isX ga
  have n1 := gd_nsl ga
  have o2 := gd_own gb
  have x2 := gd_isX gb
  have n2 := gd_nsl gb
  have o3 := gd_own gg
  have x3 := gd_isX gg
  have n3 := gd_nsl gg
  solve | fail | (first | (simp; done) | (simp; omega)) | (first | (simp; done) | (simp; omega)) | refine h ?_ | fail
  exact ⟨_, rfl, q⟩
theorem asked_c {i : Int} {a b d : D} {w : Str} {Q : Res D → List D → Prop} (i0 : 0 ≤ i) (i1 : i < 2) (ga : gd a = true) (gb : gd b = true) (gg : gd d = true) (h : ∀ {Q : Res D → List D → Prop}, Q (.exc "BadCount" [("what", .str w)]) [] → Ef f_check_tree [a, b, d] Q) (q : Q (.ok (.tup [.str w])) []) : Ef f__law_asked [.int i, a, b, d, .non] Q := by
  refine ef_fun ?_
  show Es m__law_asked [some (.int i), some a, some b, some d, some .non, none] _
  unfold m__law_asked
  have o1 := gd_own ga
  have x1 := gd_isX ga
  have n1 := gd_nsl ga
  have o2 := gd_own gb
  have x2 := gd_isX gb
  have n2 := gd_nsl gb
  have o3 := gd_own gg
  have x3 := gd_isX gg
  have n3 := gd_nsl gg
  refine b_seq (b_try ?_)
  have n : noX [some (.int i), some a, some b, some d, some .non, none] = true := by (simp [noX, x1, x2, x3] <;> first | rfl | exact ⟨rfl, rfl⟩ | exact ⟨rfl, rfl, rfl⟩)
  obtain rfl | rfl : i = 0 ∨ i = 1 := by omega
  · solve | fail | (simp; done) | (first | (simp; done) | (simp; omega)) | refine tell_x ga gb gg h ?_ | fail
    refine es_hdT (by decide +kernel) (es_suite n (Nat.le_of_ble_eq_true rfl) ?_)
    solve | fail | (first | (simp; done) | (simp; omega)) | (first | (simp; done) | (simp; omega)) | refine b_xf rfl (by decide +kernel) rfl ?_ | fail
    exact ⟨⟨by (simp [noX, x1, x2, x3] <;> first | rfl | exact ⟨rfl, rfl⟩ | exact ⟨rfl, rfl, rfl⟩), rfl⟩, ⟨_, rfl, q⟩⟩
  · solve | fail | (simp; done) | (first | (simp; done) | (simp; omega)) | refine told_x ga gb gg h ?_ | fail
    refine es_hdT (by decide +kernel) (es_suite n (Nat.le_of_ble_eq_true rfl) ?_)
    solve | fail | (first | (simp; done) | (simp; omega)) | (first | (simp; done) | (simp; omega)) | refine b_xf rfl (by decide +kernel) rfl ?_ | fail
    exact ⟨⟨by (simp [noX, x1, x2, x3] <;> first | rfl | exact ⟨rfl, rfl⟩ | exact ⟨rfl, rfl, rfl⟩), rfl⟩, ⟨_, rfl, q⟩⟩
theorem asked_m {i : Int} {a b d : D} {Q : Res D → List D → Prop} (i0 : 0 ≤ i) (i1 : i < 2) (ga : gd a = true) (gb : gd b = true) (gg : gd d = true) (h : ∀ {Q : Res D → List D → Prop}, Q (.exc "TooMany" [("most", .int 700)]) [] → Ef f_check_tree [a, b, d] Q) (q : Q (.ok (.tup [.str "many", .int 700])) []) : Ef f__law_asked [.int i, a, b, d, .non] Q := by
  refine ef_fun ?_
  show Es m__law_asked [some (.int i), some a, some b, some d, some .non, none] _
  unfold m__law_asked
  have o1 := gd_own ga
  have x1 := gd_isX ga
  have n1 := gd_nsl ga
  have o2 := gd_own gb
  have x2 := gd_isX gb
  have n2 := gd_nsl gb
  have o3 := gd_own gg
  have x3 := gd_isX gg
  have n3 := gd_nsl gg
  refine b_seq (b_try ?_)
  have n : noX [some (.int i), some a, some b, some d, some .non, none] = true := by (simp [noX, x1, x2, x3] <;> first | rfl | exact ⟨rfl, rfl⟩ | exact ⟨rfl, rfl, rfl⟩)
  obtain rfl | rfl : i = 0 ∨ i = 1 := by omega
  · solve | fail | (simp; done) | (first | (simp; done) | (simp; omega)) | refine tell_x ga gb gg h ?_ | fail
    refine es_hdF (by decide +kernel) (es_hdT (by decide +kernel) (es_suite n (Nat.le_of_ble_eq_true rfl) ?_))
    solve | fail | (first | (simp; done) | (simp; omega)) | (first | (simp; done) | (simp; omega)) | refine b_xf rfl (by decide +kernel) rfl ?_ | fail
    exact ⟨⟨by (simp [noX, x1, x2, x3] <;> first | rfl | exact ⟨rfl, rfl⟩ | exact ⟨rfl, rfl, rfl⟩), rfl⟩, ⟨_, rfl, q⟩⟩
  · solve | fail | (simp; done) | (first | (simp; done) | (simp; omega)) | refine told_x ga gb gg h ?_ | fail
    refine es_hdF (by decide +kernel) (es_hdT (by decide +kernel) (es_suite n (Nat.le_of_ble_eq_true rfl) ?_))
    solve | fail | (first | (simp; done) | (simp; omega)) | (first | (simp; done) | (simp; omega)) | refine b_xf rfl (by decide +kernel) rfl ?_ | fail
    exact ⟨⟨by (simp [noX, x1, x2, x3] <;> first | rfl | exact ⟨rfl, rfl⟩ | exact ⟨rfl, rfl, rfl⟩), rfl⟩, ⟨_, rfl, q⟩⟩
theorem es_suite0 {c : Str} {fs : List (Str × D)} {ms : SM} {ρ : SV.Env} {QS : Fl → SV.Env → Prop} (n : noX ρ = true) (h : Es ms ρ fun fl ρ1 => (noX ρ1 = true ∧ fl.isExc = false) ∧ QS fl ρ1) : Es (suiteS none c fs ms) ρ QS := by
  obtain ⟨fl, ρ1, e, h2, q⟩ := h
  refine ⟨fl, _, ?_, q⟩
  unfold suiteS
  rw [if_pos n]
  simp only
  rw [e]
  simp only
  rw [if_pos h2]
theorem asked_s {c f : Int} {p : Nat} {Q : Res D → List D → Prop} (c0 : 2 ≤ c) (c1 : c ≤ 10) (p0 : 1 ≤ p) (p1 : p ≤ 12) (f0 : 0 ≤ f) (f1 : f < c) (ht : tot c p ≤ 700) (q : Q (.ok (.tup [.str "shown"])) []) : Ef f__law_asked [.int 1, .int c, .int (p : Nat), .int f, .non] Q := by
  refine ef_fun ?_
  show Es m__law_asked [some (.int 1), some (.int c), some (.int (p : Nat)), some (.int f), some .non, none] _
  unfold m__law_asked
  refine b_seq (b_try ?_)
  have th : Th .non := ⟨rfl, fun ds e => by cases e⟩
  solve | fail | (simp; done) | (first | (simp; done) | (simp; omega)) | refine told_k c0 c1 p0 p1 f0 f1 ht th ⟨fun r e => (by cases e), fun _ => ?_⟩ | fail
  refine es_hdF (by decide +kernel) (es_hdF (by decide +kernel) (es_hdT (by decide +kernel) (es_suite0 rfl ?_)))
  solve | fail | (first | (simp; done) | (simp; omega)) | (first | (simp; done) | (simp; omega)) | fail | fail
  exact ⟨⟨rfl, rfl⟩, ⟨_, rfl, q⟩⟩
end LAWP
end
section
set_option Elab.async false
set_option linter.all false
set_option autoImplicit false
set_option maxRecDepth 100000
set_option maxHeartbeats 0
set_option pp.maxSteps 400
namespace LAWP
open PySem PySem.Spec L2 SV LAWM
theorem ints_map : ∀ xs : List Int, intsOf (xs.map D.int) = some xs
  | [] => rfl
  | x :: xs => by rw [List.map_cons]; unfold intsOf; rw [ints_map xs]
theorem sum_o {xs : List Int} {ρ : SV.Env} {QD : Res D → SV.Env → Prop} (q : QD (.ok (.int xs.sum)) ρ) : Ev (fSumL (.ol (xs.map D.int))) ρ QD := by
  refine ⟨_, _, ?_, q⟩
  unfold fSumL bnd fLs
  simp [frzs_gd (gd_ints xs), ints_map, SV.ret]
/-- no whole number from a to b -/
structure Nw (a b : Int) (d : D) : Prop where
  g : gd d = true
  w : whB (some a) (some b) d = false
theorem nw_int {a b i : Int} (h : i < a ∨ b < i) : Nw a b (.int i) := ⟨rfl, by
  simp only [whB]
  rcases h with h | h
  · rw [decide_eq_false (by omega)]; rfl
  · rw [decide_eq_false (show ¬ i ≤ b by omega)]; simp⟩
theorem sum_rg (c : Int) : ∀ p : Nat, ((List.range p).map fun j : Nat => (((c - 1).toNat ^ j : Nat) : Int)).sum = (tot c p : Nat)
  | 0 => rfl
  | p + 1 => by
    rw [List.range_succ, List.map_append, List.sum_append, sum_rg c p]
    show _ = ((tot c p + (c - 1).toNat ^ p : Nat) : Int)
    simp
theorem ne_s1 {w : Str} (h : pk (.str w) = true) : gEq true (.tup [.str w]) (.tup [.str w]) = some (.bl false) := by
  refine gEq_self ?_ ?_ rfl
  · show (pk (.str w) && true) = true
    rw [h]
    rfl
  · simp [dpt, dpts]
theorem ne_many : gEq true (.tup [.str "many", .int 700]) (.tup [.str "many", .int 700]) = some (.bl false) := by
  refine gEq_self ?_ ?_ rfl
  · decide +kernel
  · simp [dpt, dpts]
local macro_rules
  | `(tactic| solve | $a | $b | $c | $d | $e) => `(tactic| (repeat' (first
      | (apply_rules (transparency := .reducible) (symm := false) (exfalso := false) (maxDepth := 1000) only [@b_ok, @b_okS, @b_nx, @b_seq, @b_op, @b_ret, @b_cons, @b_nil, @b_CB, @b_C1, @b_set, @b_tb, @b_bl, @b_if, @b_end, @b_preps, @b_prepF, @b_preps0, @b_call, @b_owns, @b_owns0])
      | (apply_rules (transparency := .reducible) (symm := false) (exfalso := false) (maxDepth := 1000) only [@b_nret, @b_nexc, @b_exc, @b_excS, @b_nbrk, @b_nct, @b_mret, @b_expr, @b_setI, @b_un, @b_C2, @b_tru, @b_and, @b_or, @b_not, @b_notT, @b_andV, @b_orV, @b_blE, @b_ifE, @b_add, @b_neg, @b_aug, @b_prepT, @b_frzs, @b_frzs0, @b_tup, @b_lst, @b_isN, @b_notN, @b_isi, @b_raise, @b_ownS, @b_bnd, @b_iter, @b_fseq, @b_mfor, @b_enum, @b_callK, @b_sl, @b_part, @b_pi])
      | ((with_reducible apply b_var); rfl; (focus (first | rfl | assumption)); (focus (first | rfl | assumption)))
      | ((with_reducible apply b_varO); rfl; (focus (first | rfl | assumption)))
      | ((with_reducible apply b_st); exact Nat.le_of_ble_eq_true rfl)
      | ((with_reducible apply b_mvS); rfl; (focus (first | rfl | assumption)))
      | ((with_reducible apply b_mv); (focus (first | assumption | (intro _ z; cases z; done))))
      | ((with_reducible apply b_frzS); rfl; (focus (first | rfl | assumption)))
      | ((with_reducible apply b_frzG); focus (first | assumption | rfl))
      | ((with_reducible apply b_frz); (focus (first | assumption | (intro _ z; cases z; done))))
      | ((with_reducible apply b_own); (focus (first | assumption | (intro _ z; cases z; done))))
      | ((with_reducible apply b_II); focus (first | rfl | $c))
      | ((with_reducible apply b_look2); (focus (first | rfl | exact dr_gd (by assumption))); (focus (first | rfl | exact dr_gd (by assumption))); focus (first | exact gEqF | exact gNeF | $a | rfl))
      | ((with_reducible apply b_look); (focus (first | rfl | exact dr_gd (by assumption))); focus (first | $a | rfl))
      | ((with_reducible apply b_trv); (focus (first | rfl | exact dr_gd (by assumption))); rfl)
      | ((with_reducible apply b_io); rfl)
      | ((with_reducible apply b_lim); exact Nat.le_of_ble_eq_true rfl)
      | ((with_reducible apply b_setD); rfl)
      | ((with_reducible apply b_setK); rfl; rfl)
      | ((with_reducible apply b_LM); rfl)
      | ((with_reducible apply b_ifT); focus (first | rfl | $b))
      | ((with_reducible apply b_ifF); focus (first | rfl | $b))
      | ((with_reducible apply b_eT); focus (first | rfl | $b))
      | ((with_reducible apply b_eF); focus (first | rfl | $b))
      | ((with_reducible apply b_rng1); focus (first | (simp [okR]; done) | (simp [okR]; omega)))
      | ((with_reducible apply b_rng2); focus (first | (simp [okR]; done) | (simp [okR]; omega)))
      | ((with_reducible apply b_back); focus (first | rfl | exact cb_f rfl rfl))
      | ((with_reducible apply b_seqF); rfl)
      | ((with_reducible apply b_LMr); rfl; focus (refine lApp ?_; first | (simp; done) | (simp; omega) | $e))
      | ((with_reducible apply b_rz); exact ⟨rfl, Nat.le_of_ble_eq_true rfl, Nat.le_of_ble_eq_true rfl⟩)
      | $d
      | fail)))
theorem lref_k {h : D} {Q : Res D → List D → Prop} (hh : HOk h) (k : ∀ h', HOk h' → Q (.ok (.bl true)) [h']) : Ef f__law_refusals [h] Q := by
  refine ef_fun ?_
  show Es m__law_refusals [some h, none, none, none, none, none, none, none, none] _
  unfold m__law_refusals
  have o := hh.own
  have ox := hh.isX
  solve | fail | (simp; done) | (first | (simp; done) | (simp; omega)) | refine take_k hh (by omega) (by omega) fun v h1 v0 v1 hh1 => ?_ | fail
  obtain ⟨c, ec, c0, c1⟩ : ∃ c, c = 2 + v ∧ 2 ≤ c ∧ c ≤ 10 := ⟨_, rfl, by omega, by omega⟩
  rw [← ec]
  have o1 := hh1.own
  have ox1 := hh1.isX
  have dv : decide (Int.natAbs 20 < 9000) = true := by decide
  have pw : ∀ {h : D} {Q : Res D → List D → Prop}, HOk h → (∀ d h1, Nw 2 10 d → HOk h1 → Q (.ok d) [h1]) → Ef f__law_pick [h, (D.ol [D.int 1, .int 11, .int 0, .bl true, .non, .str "3", .int (10 ^ Int.toNat 20)]).frz] Q := fun {h Q} hh q => by
    have e : (D.ol [D.int 1, .int 11, .int 0, .bl true, .non, .str "3", .int (10 ^ Int.toNat 20)]).frz = .lst [D.int 1, .int 11, .int 0, .bl true, .non, .str "3", .int (10 ^ Int.toNat 20)] := rfl
    rw [e]
    refine pick_k hh (by simp) (by simp) (fun d hd => ?_) fun d h1 hd hh1 => q d h1 ?_ hh1
    · simp only [List.mem_cons, List.not_mem_nil, or_false] at hd
      rcases hd with rfl | rfl | rfl | rfl | rfl | rfl | rfl <;> rfl
    · simp only [List.mem_cons, List.not_mem_nil, or_false] at hd
      rcases hd with rfl | rfl | rfl | rfl | rfl | rfl | rfl
      · exact nw_int (by omega)
      · exact nw_int (by omega)
      · exact nw_int (by omega)
      · exact ⟨rfl, rfl⟩
      · exact ⟨rfl, rfl⟩
      · exact ⟨rfl, rfl⟩
      · exact nw_int (.inr (by decide))
  have pl : ∀ {h : D} {Q : Res D → List D → Prop}, HOk h → (∀ d h1, Nw 1 12 d → HOk h1 → Q (.ok d) [h1]) → Ef f__law_pick [h, (D.ol [D.int 0, .int 13, .int (-1), .bl true, .non, .str "2", .int (10 ^ Int.toNat 20)]).frz] Q := fun {h Q} hh q => by
    have e : (D.ol [D.int 0, .int 13, .int (-1), .bl true, .non, .str "2", .int (10 ^ Int.toNat 20)]).frz = .lst [D.int 0, .int 13, .int (-1), .bl true, .non, .str "2", .int (10 ^ Int.toNat 20)] := rfl
    rw [e]
    refine pick_k hh (by simp) (by simp) (fun d hd => ?_) fun d h1 hd hh1 => q d h1 ?_ hh1
    · simp only [List.mem_cons, List.not_mem_nil, or_false] at hd
      rcases hd with rfl | rfl | rfl | rfl | rfl | rfl | rfl <;> rfl
    · simp only [List.mem_cons, List.not_mem_nil, or_false] at hd
      rcases hd with rfl | rfl | rfl | rfl | rfl | rfl | rfl
      · exact nw_int (by omega)
      · exact nw_int (by omega)
      · exact nw_int (by omega)
      · exact ⟨rfl, rfl⟩
      · exact ⟨rfl, rfl⟩
      · exact ⟨rfl, rfl⟩
      · exact nw_int (.inr (by decide))
  have ph : ∀ {h : D} {Q : Res D → List D → Prop}, HOk h → (∀ d h1, Nw 0 (c - 1) d → HOk h1 → Q (.ok d) [h1]) → Ef f__law_pick [h, (D.ol [D.int (-1), .int c, .non, .bl false, .str "0", .int (10 ^ Int.toNat 20)]).frz] Q := fun {h Q} hh q => by
    have e : (D.ol [D.int (-1), .int c, .non, .bl false, .str "0", .int (10 ^ Int.toNat 20)]).frz = .lst [D.int (-1), .int c, .non, .bl false, .str "0", .int (10 ^ Int.toNat 20)] := rfl
    rw [e]
    refine pick_k hh (by simp) (by simp) (fun d hd => ?_) fun d h1 hd hh1 => q d h1 ?_ hh1
    · simp only [List.mem_cons, List.not_mem_nil, or_false] at hd
      rcases hd with rfl | rfl | rfl | rfl | rfl | rfl <;> rfl
    · simp only [List.mem_cons, List.not_mem_nil, or_false] at hd
      rcases hd with rfl | rfl | rfl | rfl | rfl | rfl
      · exact nw_int (by omega)
      · exact nw_int (by omega)
      · exact ⟨rfl, rfl⟩
      · exact ⟨rfl, rfl⟩
      · exact ⟨rfl, rfl⟩
      · exact nw_int (.inr (by have : (10 : Int) ^ Int.toNat 20 = 100000000000000000000 := by decide
                               omega))
  solve | fail | (simp; done) | exact dv | fail | fail
  refine pw hh1 fun dw h2 nw hh2 => ?_
  have gw := nw.g
  have ow := gd_own gw
  have xw := gd_isX gw
  have nnw := gd_nsl gw
  have o2 := hh2.own
  have ox2 := hh2.isX
  solve | fail | (simp; done) | exact dv | fail | fail
  refine pl hh2 fun dl h3 nl hh3 => ?_
  have gl := nl.g
  have ol := gd_own gl
  have xl := gd_isX gl
  have nnl := gd_nsl gl
  have o3 := hh3.own
  have ox3 := hh3.isX
  solve | fail | (simp; done) | exact dv | fail | fail
  refine ph hh3 fun dh h4 nh hh4 => ?_
  have gh := nh.g
  have oh := gd_own gh
  have xh := gd_isX gh
  have nnh := gd_nsl gh
  have o4 := hh4.own
  have ox4 := hh4.isX
  have q1 := ne_s1 (w := "colours") (by decide +kernel)
  have q2 := ne_s1 (w := "pours") (by decide +kernel)
  have q3 := ne_s1 (w := "first") (by decide +kernel)
  have q4 := ne_s1 (w := "shown") (by decide +kernel)
  have wc : whB (some 2) (some 10) (.int c) = true := by simp [whB]; omega
  have w12 : whB (some 1) (some 12) (.int 12) = true := rfl
  have ck1 : ∀ {Q : Res D → List D → Prop}, Q (.exc "BadCount" [("what", .str "colours")]) [] → Ef f_check_tree [dw, dl, dh] Q := fun {Q} q => chk_k gw gl gh (fun _ => q) (fun z => by rw [nw.w] at z; cases z) (fun c' e a b => by have z := nw.w; rw [e] at z; simp [whB] at z; omega) (fun c' f' p' e _ _ a b => by have z := nw.w; rw [e] at z; simp [whB] at z; omega) (fun c' f' p' e _ _ a b => by have z := nw.w; rw [e] at z; simp [whB] at z; omega)
  have ck2 : ∀ {Q : Res D → List D → Prop}, Q (.exc "BadCount" [("what", .str "pours")]) [] → Ef f_check_tree [.int c, dl, dh] Q := fun {Q} q => chk_k rfl gl gh (fun z => by rw [wc] at z; cases z) (fun _ _ => q) (fun c' e a b z => by rw [nl.w] at z; cases z) (fun c' f' p' _ e _ _ _ a b => by have z := nl.w; rw [e] at z; simp [whB] at z; omega) (fun c' f' p' _ e _ _ _ a b => by have z := nl.w; rw [e] at z; simp [whB] at z; omega)
  have ck3 : ∀ {Q : Res D → List D → Prop}, Q (.exc "BadCount" [("what", .str "first")]) [] → Ef f_check_tree [.int c, .int 12, dh] Q := fun {Q} q => chk_k rfl rfl gh (fun z => by rw [wc] at z; cases z) (fun _ z => by rw [w12] at z; cases z) (fun c' e a b _ _ => q) (fun c' f' p' e1 _ e _ _ _ _ a b => by have z := nh.w; rw [e] at z; cases e1; simp [whB] at z; omega) (fun c' f' p' e1 _ e _ _ _ _ a b => by have z := nh.w; rw [e] at z; cases e1; simp [whB] at z; omega)
  solve | fail | (simp; done) | (first | (simp; done) | (simp; omega)) | fail | fail
  refine es_for (fun dsl ρ => ∃ (i m : Nat) (a5 a6 a7 a8 : Option D), dsl = SV.upTo (i : Int) m ∧ i + m = 2 ∧ ρ = [some h4, some (.int c), some dw, some dl, some dh, a5, a6, a7, a8]) ?_ ?_ _ _ ⟨0, 2, none, none, none, none, rfl, rfl, rfl⟩
  · rintro ρ ⟨i, m, a5, a6, a7, a8, e, hi, rfl⟩
    cases m with
    | succ m => rw [upTo_succ] at e; cases e
    | zero =>
      solve | fail | (first | (simp; done) | (simp; omega)) | (first | (simp; done) | (simp; omega)) | fail | fail
      exact ⟨[h4], by simp [ioGet, ox4], k h4 hh4⟩
  · rintro d dsl ρ ⟨i, m, a5, a6, a7, a8, e, hi, rfl⟩
    cases m with
    | zero => cases e
    | succ m =>
      rw [upTo_succ] at e
      cases e
      refine ⟨_, rfl, ?_⟩
      solve | (first | exact q1 | exact q2 | exact q3) | (simp; done) | (first | (simp; done) | (simp; omega)) | (first | first | (refine asked_c (w := "colours") (by omega) (by omega) gw gl gh ck1 ?_) | (refine asked_c (w := "pours") (by omega) (by omega) rfl gl gh ck2 ?_) | (refine asked_c (w := "first") (by omega) (by omega) rfl rfl gh ck3 ?_)) | fail
      refine es_for (fun dsl ρ => ∃ (j m2 : Nat) (a6 a7 a8 : Option D), dsl = SV.upTo ((j : Int) + 1) m2 ∧ j + m2 = 12 ∧ ρ = [some h4, some (.int c), some dw, some dl, some dh, some (.int (i : Int)), a6, a7, a8]) ?_ ?_ _ _ ⟨0, 12, a6, a7, a8, rfl, rfl, rfl⟩
      · rintro ρ ⟨j, m2, a6, a7, a8, e, hj, rfl⟩
        cases m2 with
        | succ m2 => rw [upTo_succ] at e; cases e
        | zero => exact ⟨i + 1, m, _, _, _, _, by simp, by omega, rfl⟩
      · rintro d dsl ρ ⟨j, m2, a6, a7, a8, e, hj, rfl⟩
        cases m2 with
        | zero => cases e
        | succ m2 =>
          rw [upTo_succ] at e
          cases e
          refine ⟨_, rfl, ?_⟩
          have tn : ((j : Int) + 1).toNat = j + 1 := by omega
          refine b_seq (b_set (b_CB (b_cons ?_)))
          refine ev_lc (fun dsl acc ρ => ∃ (n r : Nat), dsl = SV.upTo (n : Int) r ∧ n + r = j + 1 ∧ acc = ((List.range n).map fun j : Nat => (((c - 1).toNat ^ j : Nat) : Int)).map D.int ∧ ρ = [some h4, some (.int c), some dw, some dl, some dh, some (.int (i : Int)), some (.int ((j : Int) + 1)), a7, none]) ?_ ?_ ?_
          · solve | fail | (first | (simp; done) | (simp; omega)) | (first | (simp; done) | (simp; omega)) | fail | fail
            exact ⟨⟨0, j + 1, by rw [tn]; rfl, by omega, rfl, rfl⟩, by rw [SV.upTo_length]; simp [lim]; omega⟩
          · rintro acc ρ ⟨n, r, e, hn, rfl, rfl⟩
            cases r with
            | succ r => rw [upTo_succ] at e; cases e
            | zero =>
              have e2 : n = j + 1 := by omega
              subst e2
              have hs := sum_rg c (j + 1)
              solve | fail | (first | (simp; done) | (simp; omega)) | (first | (simp; done) | (simp; omega)) | refine sum_o ?_ | fail
              rw [hs]
              have up : (j : Int) + 1 = ((j + 1 : Nat) : Int) := by omega
              rw [up]
              have th0 : Th (.non) := ⟨rfl, fun ds e => by cases e⟩
              by_cases h7 : 700 < tot c (j + 1)
              · have ckm : ∀ {Q : Res D → List D → Prop}, Q (.exc "TooMany" [("most", .int 700)]) [] → Ef f_check_tree [.int c, .int ((j + 1 : Nat) : Int), .int 0] Q := fun {Q} q => by
                  have b2 : whB (some 1) (some 12) (.int ((j + 1 : Nat) : Int)) = true := by simp [whB]; omega
                  refine chk_k rfl rfl rfl (fun h => by rw [wc] at h; cases h) (fun _ h => by rw [b2] at h; cases h) (fun c' e _ _ _ h => ?_) (fun _ _ _ _ _ _ _ _ _ _ _ _ _ => q) (fun c' f' p' e1 e2 e3 _ _ _ _ _ _ h => ?_)
                  · cases e
                    have b3 : whB (some 0) (some (c - 1)) (.int 0) = true := by simp [whB]; omega
                    rw [b3] at h; cases h
                  · cases e1
                    have : p' = j + 1 := by injection e2 with e2; omega
                    subst this
                    omega
                solve | exact ne_many | (first | (simp; omega) | (simp; done)) | (first | (simp; done) | (simp; omega)) | refine asked_m (by omega) (by omega) rfl rfl rfl ckm ?_ | fail
                exact ⟨j + 1, m2, _, _, _, by simp, by omega, rfl⟩
              · by_cases h8 : tot c (j + 1) < 700
                · obtain rfl | rfl : i = 0 ∨ i = 1 := by omega
                  · solve | fail | (first | (simp; omega) | (simp; done)) | (first | (simp; done) | (simp; omega)) | fail | fail
                    exact ⟨j + 1, m2, _, _, _, by simp, by omega, rfl⟩
                  · solve | exact q4 | (first | (simp; omega) | (simp; done)) | (first | (simp; done) | (simp; omega)) | refine asked_s c0 c1 (by omega) (by omega) (by omega) (by omega) (by omega) ?_ | fail
                    exact ⟨j + 1, m2, _, _, _, by simp, by omega, rfl⟩
                · solve | fail | (first | (simp; omega) | (simp; done)) | (first | (simp; done) | (simp; omega)) | fail | fail
                  exact ⟨j + 1, m2, _, _, _, by simp, by omega, rfl⟩
          · rintro d dsl acc ρ ⟨n, r, e, hn, rfl, rfl⟩
            cases r with
            | zero => cases e
            | succ r =>
              rw [upTo_succ] at e
              cases e
              refine ⟨_, rfl, ?_⟩
              solve | fail | (first | (simp; done) | (simp; omega)) | (first | (simp; done) | (simp; omega)) | fail | fail
              refine ⟨true, rfl, ?_⟩
              rw [if_pos rfl]
              solve | fail | (first | (simp; done) | (simp; omega)) | (first | (simp; done) | (simp; omega)) | refine ltot_k c0 c1 (by omega) ?_ | fail
              refine ⟨_, rfl, ?_⟩
              solve | fail | (first | (simp; done) | (simp; omega)) | (first | (simp; done) | (simp; omega)) | fail | fail
              exact ⟨_, rfl, n + 1, r, by simp, by omega, by rw [List.range_succ, List.map_append, List.map_append]; rfl, rfl⟩
end LAWP
end
section
set_option Elab.async false
set_option linter.all false
set_option autoImplicit false
set_option maxRecDepth 100000
set_option maxHeartbeats 0
set_option pp.maxSteps 400
namespace LAWP
open PySem PySem.Spec L2 SV LAWM
/-! ### spoilt pictures -/
theorem cut_drop {ds : List D} (n : Nat) : SV.cut ds (some (n : Int)) none = ds.drop n := by
  unfold SV.cut
  rw [HT.sIx_nat, HT.sIx_none]
  rcases Nat.le_total n ds.length with h | h
  · rw [Nat.min_eq_left h, List.take_of_length_le (by rw [List.length_drop]; exact Nat.le_refl _)]
  · rw [Nat.min_eq_right h, List.drop_length, List.drop_eq_nil_of_le h]
    simp
theorem gEq_lo {neg : Bool} {xs ys : List Int} : gEq neg (.lst (xs.map D.int)) (.ol (ys.map D.int)) = some (.bl (if neg = true then !decide (xs = ys) else decide (xs = ys))) := by
  have a := lay_ints xs
  have b := lay_ints ys
  simp [gEq, D.py, pys_ints, SeqAt.shaped, PyData.canLay0, PyData.depth, a, b, PyData.eqv, eqv_ints]
theorem gLen_oi {s : List Int} : gLen (.ol (s.map D.int)) = some (.int (s.length : Nat)) := by rw [gLen_o]; simp
theorem pks_of : ∀ {ds : List D}, (∀ x ∈ ds, pk x = true) → pks ds = true
  | [], _ => rfl
  | x :: ds, h => by
    show (pk x && pks ds) = true
    rw [h x (by simp), pks_of fun y hy => h y (by simp [hy])]
    rfl
theorem dpts_of : ∀ {ds : List D}, (∀ x ∈ ds, dpt x = 0) → dpts ds = 0
  | [], _ => rfl
  | x :: ds, h => by
    show max (dpt x) (dpts ds) = 0
    rw [h x (by simp), dpts_of fun y hy => h y (by simp [hy])]
    rfl
def allD (C : Rws) (f : Int) (R : Rws) : List D := R.map fun r => .lst ((lft C f r).map D.int)
theorem gd_all (C : Rws) (f : Int) (R : Rws) : ∀ d ∈ allD C f R, gd d = true := fun d hd => by
  obtain ⟨r, _, rfl⟩ := List.mem_map.mp hd
  rfl
theorem ix_all {C R : Rws} {f : Int} {i : Nat} {r : List Int} (h : R[i]? = some r) : gIx (.lst (allD C f R)) (.int (i : Nat)) = some (.lst ((lft C f r).map D.int)) := gIx_lat (by simp [allD, h]) rfl
theorem tld_tup {C : Rws} {c f : Int} {s : List Int} (hl : s.length = C.length) (r : Rw s) : tldD C c f (.tup (s.map D.int)) = toldI C c f s := by
  show (if (s.map D.int).length = C.length ∧ bad (s.map D.int) 0 = none then toldI C c f _ else none) = _
  rw [if_pos ⟨by rw [List.length_map]; exact hl, bad_ok r⟩, map_back]
theorem tld_lst {C : Rws} {c f : Int} {s : List Int} (hl : s.length = C.length) (r : Rw s) : tldD C c f (.lst (s.map D.int)) = toldI C c f s := by
  show (if (s.map D.int).length = C.length ∧ bad (s.map D.int) 0 = none then toldI C c f _ else none) = _
  rw [if_pos ⟨by rw [List.length_map]; exact hl, bad_ok r⟩, map_back]
theorem tld_bad {C : Rws} {c f : Int} {ds : List D} (h : ds.length ≠ C.length ∨ ∃ x ∈ ds, whole x = false) : tldD C c f (.tup ds) = none := by
  show (if ds.length = C.length ∧ bad ds 0 = none then toldI C c f _ else none) = none
  refine if_neg ?_
  rintro ⟨a, b⟩
  rcases h with h | ⟨x, hx, hw⟩
  · exact h a
  · have := bad_all.mp b
    rw [List.all_eq_true] at this
    have := this (whole x) (List.mem_map.mpr ⟨x, hx, rfl⟩)
    rw [hw] at this
    cases this
structure BadL (C : Rws) (c f : Int) (ds : List D) : Prop where
  g : ∀ x ∈ ds, gd x = true
  t : tldD C c f (.tup ds) = none
  p : ∀ x ∈ ds, pk x = true
  dp : ∀ x ∈ ds, dpt x = 0
theorem BadL.th {C : Rws} {c f : Int} {ds : List D} (h : BadL C c f ds) : Th (.tup ds) := ⟨rfl, fun es e d hd => by cases e; exact h.g d hd⟩
theorem BadL.eq {C : Rws} {c f : Int} {ds : List D} {neg : Bool} (h : BadL C c f ds) : gEq neg (.tup [.str "shown", .tup ds]) (.tup [.str "shown", .tup ds]) = some (.bl (!neg)) :=
  eq_shown (show pk (.tup ds) = true by simpa [pk] using pks_of h.p) (by have := dpts_of h.dp; simp only [dpt]; omega)
theorem sml_rw {s : List Int} (r : Rw s) : ∀ x ∈ s.map D.int, (gd x = true ∧ pk x = true) ∧ dpt x = 0 := fun x hx => by
  obtain ⟨i, hi, rfl⟩ := List.mem_map.mp hx
  have := r i hi
  have e22 : (10 : Nat) ^ 22 = 10000000000000000000000 := by decide
  exact ⟨⟨rfl, by simp only [pk, decide_eq_true_eq]; omega⟩, by simp [dpt]⟩
/-- a row with an item that makes it bad -/
theorem badL_of {C : Rws} {c f : Int} {A B : List D} {x : D} (hA : ∀ y ∈ A, (gd y = true ∧ pk y = true) ∧ dpt y = 0) (hB : ∀ y ∈ B, (gd y = true ∧ pk y = true) ∧ dpt y = 0) (hx : (gd x = true ∧ pk x = true) ∧ dpt x = 0) (h : (A ++ x :: B).length ≠ C.length ∨ whole x = false) : BadL C c f (A ++ x :: B) := by
  have all : ∀ y ∈ A ++ x :: B, (gd y = true ∧ pk y = true) ∧ dpt y = 0 := fun y hy => by
    rcases List.mem_append.mp hy with h | h
    · exact hA y h
    · rcases List.mem_cons.mp h with rfl | h
      · exact hx
      · exact hB y h
  exact ⟨fun y hy => (all y hy).1.1, tld_bad (h.imp id fun h => ⟨x, by simp, h⟩), fun y hy => (all y hy).1.2, fun y hy => (all y hy).2⟩
theorem badL_short {C : Rws} {c f : Int} {A : List D} (hA : ∀ y ∈ A, (gd y = true ∧ pk y = true) ∧ dpt y = 0) (h : A.length ≠ C.length) : BadL C c f A := ⟨fun y hy => (hA y hy).1.1, tld_bad (.inl h), fun y hy => (hA y hy).1.2, fun y hy => (hA y hy).2⟩
theorem rw_lft {c f : Int} {p : Nat} {r : List Int} (c1 : c ≤ 10) (f0 : 0 ≤ f) (f1 : f < c) (v : Vd c f r) : Rw (lft (cells c f p) f r) := fun x hx => by
  obtain ⟨y, hy, rfl⟩ := List.mem_map.mp hx
  have h1 := (mem_cells.mp hy).1.last f0 f1
  have h2 := v.last f0 f1
  split <;> omega
def LP11 : SM := (mSeq (mSet 11 (mLst (mCons (mOp fAddA (mVar 6) (mLst (mCons (SV.ret (.int 0)) mNil))) (mCons (mSl (mVar 6) (SV.ret none) (mPart (mUn fNeg (SV.ret (.int 1))))) (mCons (mOp fAddA (mLst (mCons (SV.ret (.bl true)) mNil)) (mSl (mVar 6) (mPart (SV.ret (.int 1))) (SV.ret none))) (mCons (mOp fAddA (mSl (mVar 6) (SV.ret none) (mPart (mUn fNeg (SV.ret (.int 1))))) (mLst (mCons (SV.ret (.int 100)) mNil))) (mCons (mOp fAddA (mSl (mVar 6) (SV.ret none) (mPart (mUn fNeg (SV.ret (.int 1))))) (mLst (mCons (mUn fNeg (SV.ret (.int 1))) mNil))) (mCons (mOp fAddA (mSl (mVar 6) (SV.ret none) (mPart (mUn fNeg (SV.ret (.int 1))))) (mLst (mCons (SV.ret (.str "0")) mNil))) mNil))))))))
  (mSeq (mSet 12 (mCB fTup (mCons (mCall [true, false] f__law_pick [] (mCons (mVar 0) (mCons (mVar 11) mNil))) mNil)))
  (mSeq (mIf (mTb (mOp fNe (mCall [false, false, false, false] f__law_read [] (mCons (mVar 1) (mCons (mVar 2) (mCons (mVar 3) (mCons (mVar 12) mNil))))) (mTup (mCons (SV.ret (.str "shown")) (mCons (mVar 12) mNil))))) (mRet (SV.ret (.bl false))) (endS .nx))
  (mSeq (mSet 12 (mCall [true, false] f__law_pick [] (mCons (mVar 0) (mCons (mLst (mCons (SV.ret .non) (mCons (SV.ret (.int 5)) (mCons (SV.ret (.str "012")) (mCons (SV.ret (.bl true)) mNil))))) mNil))))
  (mRet (mOp fEq (mCall [false, false, false, false] f__law_read [] (mCons (mVar 1) (mCons (mVar 2) (mCons (mVar 3) (mCons (mVar 12) mNil))))) (mTup (mCons (SV.ret (.str "shown")) (mCons (mVar 12) mNil)))))))))
local macro_rules
  | `(tactic| solve | $a | $b | $c | $d | $e) => `(tactic| (repeat' (first
      | (apply_rules (transparency := .reducible) (symm := false) (exfalso := false) (maxDepth := 1000) only [@b_ok, @b_okS, @b_nx, @b_seq, @b_op, @b_ret, @b_cons, @b_nil, @b_CB, @b_C1, @b_set, @b_tb, @b_bl, @b_if, @b_end, @b_preps, @b_prepF, @b_preps0, @b_call, @b_owns, @b_owns0])
      | (apply_rules (transparency := .reducible) (symm := false) (exfalso := false) (maxDepth := 1000) only [@b_nret, @b_nexc, @b_exc, @b_excS, @b_nbrk, @b_nct, @b_mret, @b_expr, @b_setI, @b_un, @b_C2, @b_tru, @b_and, @b_or, @b_not, @b_notT, @b_andV, @b_orV, @b_blE, @b_ifE, @b_add, @b_neg, @b_aug, @b_prepT, @b_frzs, @b_frzs0, @b_tup, @b_lst, @b_isN, @b_notN, @b_isi, @b_raise, @b_ownS, @b_bnd, @b_iter, @b_fseq, @b_mfor, @b_enum, @b_callK, @b_sl, @b_part, @b_pi])
      | ((with_reducible apply b_var); rfl; (focus (first | rfl | assumption)); (focus (first | rfl | assumption)))
      | ((with_reducible apply b_varO); rfl; (focus (first | rfl | assumption)))
      | ((with_reducible apply b_st); exact Nat.le_of_ble_eq_true rfl)
      | ((with_reducible apply b_mvS); rfl; (focus (first | rfl | assumption)))
      | ((with_reducible apply b_mv); (focus (first | assumption | (intro _ z; cases z; done))))
      | ((with_reducible apply b_frzS); rfl; (focus (first | rfl | assumption)))
      | ((with_reducible apply b_frzG); focus (first | assumption | rfl))
      | ((with_reducible apply b_frz); (focus (first | assumption | (intro _ z; cases z; done))))
      | ((with_reducible apply b_own); (focus (first | assumption | (intro _ z; cases z; done))))
      | ((with_reducible apply b_II); focus (first | rfl | $c))
      | ((with_reducible apply b_look2); (focus (first | rfl | exact dr_gd (by assumption))); (focus (first | rfl | exact dr_gd (by assumption))); focus (first | exact gEqF | exact gNeF | $a | rfl))
      | ((with_reducible apply b_look); (focus (first | rfl | exact dr_gd (by assumption))); focus (first | $a | rfl))
      | ((with_reducible apply b_trv); (focus (first | rfl | exact dr_gd (by assumption))); rfl)
      | ((with_reducible apply b_io); rfl)
      | ((with_reducible apply b_lim); exact Nat.le_of_ble_eq_true rfl)
      | ((with_reducible apply b_setD); rfl)
      | ((with_reducible apply b_setK); rfl; rfl)
      | ((with_reducible apply b_LM); rfl)
      | ((with_reducible apply b_ifT); focus (first | rfl | $b))
      | ((with_reducible apply b_ifF); focus (first | rfl | $b))
      | ((with_reducible apply b_eT); focus (first | rfl | $b))
      | ((with_reducible apply b_eF); focus (first | rfl | $b))
      | ((with_reducible apply b_rng1); focus (first | (simp [okR]; done) | (simp [okR]; omega)))
      | ((with_reducible apply b_rng2); focus (first | (simp [okR]; done) | (simp [okR]; omega)))
      | ((with_reducible apply b_back); focus (first | rfl | exact cb_f rfl rfl))
      | ((with_reducible apply b_seqF); rfl)
      | ((with_reducible apply b_LMr); rfl; focus (refine lApp ?_; first | (simp; done) | (simp; omega) | $e))
      | ((with_reducible apply b_rz); exact ⟨rfl, Nat.le_of_ble_eq_true rfl, Nat.le_of_ble_eq_true rfl⟩)
      | $d
      | fail)))
theorem lp11_k {h : D} {c f : Int} {p : Nat} {b : List Int} {ALL RWS OUT : D} {a8 a9 a10 : Option D} {Q : Res D → List D → Prop} (hh : HOk h) (c0 : 2 ≤ c) (c1 : c ≤ 10) (p0 : 1 ≤ p) (p1 : p ≤ 12) (f0 : 0 ≤ f) (f1 : f < c) (ht : tot c p ≤ 700) (rb : Rw b) (lb : b.length = (cells c f p).length) (k : ∀ h', HOk h' → Q (.ok (.bl true)) [h']) :
    Es LP11 [some h, some (.int c), some (.int (p : Nat)), some (.int f), some ALL, some RWS, some (.lst (b.map D.int)), some OUT, a8, a9, a10, none, none, none] (fun fl ρ =>
          ∃ cs, ioGet [true, false, false, false, false, false] ρ = some cs ∧
              match fl with
              | Fl.ret d => Q (Res.ok d) cs
              | Fl.nx => Q (Res.ok D.non) cs
              | Fl.exc c fs => Q (Res.exc c fs) cs
              | x => False) := by
  unfold LP11
  have o := hh.own
  have ox := hh.isX
  have lC := len_cells f0 f1 p
  have lp : 0 < (cells c f p).length := by obtain ⟨T, e⟩ := cells_cons c f p0; rw [e]; simp
  have sb := sml_rw rb
  have gb := gd_ints b
  have lbb : (b.map D.int).length = (cells c f p).length := by rw [List.length_map]; exact lb
  have hdl : ∀ y ∈ (b.map D.int).dropLast, (gd y = true ∧ pk y = true) ∧ dpt y = 0 := fun y hy => sb y (List.dropLast_subset _ hy)
  have hdr : ∀ y ∈ (b.map D.int).drop 1, (gd y = true ∧ pk y = true) ∧ dpt y = 0 := fun y hy => sb y (List.mem_of_mem_drop hy)
  have nil : ∀ y ∈ ([] : List D), (gd y = true ∧ pk y = true) ∧ dpt y = 0 := fun y hy => by cases hy
  have B1 : BadL (cells c f p) c f (b.map D.int ++ [.int 0]) := badL_of sb nil ⟨⟨rfl, by decide +kernel⟩, by simp [dpt]⟩ (.inl (by simp; omega))
  have B2 : BadL (cells c f p) c f (b.map D.int).dropLast := badL_short hdl (by rw [List.length_dropLast]; omega)
  have B3 : BadL (cells c f p) c f ([D.bl true] ++ (b.map D.int).drop 1) := badL_of nil hdr ⟨⟨rfl, rfl⟩, by simp [dpt]⟩ (.inr rfl)
  have B4 : BadL (cells c f p) c f ((b.map D.int).dropLast ++ [.int 100]) := badL_of hdl nil ⟨⟨rfl, by decide +kernel⟩, by simp [dpt]⟩ (.inr rfl)
  have B5 : BadL (cells c f p) c f ((b.map D.int).dropLast ++ [.int (-1)]) := badL_of hdl nil ⟨⟨rfl, by decide +kernel⟩, by simp [dpt]⟩ (.inr rfl)
  have B6 : BadL (cells c f p) c f ((b.map D.int).dropLast ++ [.str "0"]) := badL_of hdl nil ⟨⟨rfl, by decide +kernel⟩, by simp [dpt]⟩ (.inr rfl)
  have cdl : SV.cut (b.map D.int) none (some (-1)) = (b.map D.int).dropLast := cut_dl
  have cdr : SV.cut (b.map D.int) (some 1) none = (b.map D.int).drop 1 := cut_drop 1
  have gdl : ∀ y ∈ (b.map D.int).dropLast, gd y = true := fun y hy => (hdl y hy).1.1
  have gdr : ∀ y ∈ (b.map D.int).drop 1, gd y = true := fun y hy => (hdr y hy).1.1
  have g1 : ∀ {x : D}, gd x = true → ∀ y ∈ [x], gd y = true := fun {x} hx y hy => by rw [List.mem_singleton] at hy; subst hy; exact hx
  have ll : (b.map D.int).length ≤ 700 := by omega
  have l2 : (b.map D.int).dropLast.length ≤ 700 := by rw [List.length_dropLast]; omega
  have l3 : ((b.map D.int).drop 1).length ≤ 700 := by rw [List.length_drop]; omega
  generalize (b.map D.int).dropLast = DL at *
  generalize (b.map D.int).drop 1 = DR at *
  generalize b.map D.int = BB at *
  solve | fail | (first | (simp; done) | (simp; omega)) | (first | (simp; done) | (simp; omega)) | (first | first | refine cutL gb cdl ?_ | refine cutL gb cdr ?_ | (refine add_lf gb (g1 rfl) (by simp; omega) ?_) | (refine add_ff gdl (g1 rfl) (by simp; omega) ?_) | (refine add_ff (g1 rfl) gdr (by simp; omega) ?_)) | fail
  have pk6 : ∀ {Q : Res D → List D → Prop}, (∀ ds h1, BadL (cells c f p) c f ds → HOk h1 → Q (.ok (.lst ds)) [h1]) → Ef f__law_pick [h, (D.ol [D.ol (BB ++ [D.int 0]), D.ol DL, D.ol ([D.bl true] ++ DR), D.ol (DL ++ [D.int 100]), D.ol (DL ++ [D.int (-1)]), D.ol (DL ++ [D.str "0"])]).frz] Q := fun {Q} q => by
    have e : (D.ol [D.ol (BB ++ [D.int 0]), D.ol DL, D.ol ([D.bl true] ++ DR), D.ol (DL ++ [D.int 100]), D.ol (DL ++ [D.int (-1)]), D.ol (DL ++ [D.str "0"])]).frz = .lst [.lst (BB ++ [D.int 0]), .lst DL, .lst ([D.bl true] ++ DR), .lst (DL ++ [D.int 100]), .lst (DL ++ [D.int (-1)]), .lst (DL ++ [D.str "0"])] := by
      have e1 := frzs_gd B1.g
      have e2 := frzs_gd B2.g
      have e3 := frzs_gd B3.g
      have e4 := frzs_gd B4.g
      have e5 := frzs_gd B5.g
      have e6 := frzs_gd B6.g
      show D.lst [.lst (D.frzs _), .lst (D.frzs _), .lst (D.frzs _), .lst (D.frzs _), .lst (D.frzs _), .lst (D.frzs _)] = _
      rw [e1, e2, e3, e4, e5, e6]
    rw [e]
    refine pick_k hh (by simp) (by simp) (fun d hd => ?_) fun d h1 hd hh1 => ?_
    · simp only [List.mem_cons, List.not_mem_nil, or_false] at hd
      rcases hd with rfl | rfl | rfl | rfl | rfl | rfl <;> rfl
    · simp only [List.mem_cons, List.not_mem_nil, or_false] at hd
      rcases hd with rfl | rfl | rfl | rfl | rfl | rfl
      · exact q _ h1 B1 hh1
      · exact q _ h1 B2 hh1
      · exact q _ h1 B3 hh1
      · exact q _ h1 B4 hh1
      · exact q _ h1 B5 hh1
      · exact q _ h1 B6 hh1
  refine pk6 fun ds h1 hB hh1 => ?_
  have hq := hB.eq (neg := true)
  have o1 := hh1.own
  have ox1 := hh1.isX
  solve | exact hq | (simp; done) | (first | (simp; done) | (simp; omega)) | (first | first | refine tupOf_l hB.g ?_ | refine lread_k c0 c1 p0 p1 f0 f1 ht hB.th ⟨fun r2 e2 => (by rw [hB.t] at e2; cases e2), fun e2 => ?_⟩) | fail
  have pk4 : ∀ {Q : Res D → List D → Prop}, (∀ d h1, Th d → tldD (cells c f p) c f d = none → gEq false (.tup [.str "shown", d]) (.tup [.str "shown", d]) = some (.bl true) → HOk h1 → Q (.ok d) [h1]) → Ef f__law_pick [h1, (D.ol [D.non, .int 5, .str "012", .bl true]).frz] Q := fun {Q} q => by
    have e : (D.ol [D.non, .int 5, .str "012", .bl true]).frz = .lst [D.non, .int 5, .str "012", .bl true] := rfl
    rw [e]
    refine pick_k hh1 (by simp) (by simp) (fun d hd => ?_) fun d h1 hd hh1 => ?_
    · simp only [List.mem_cons, List.not_mem_nil, or_false] at hd
      rcases hd with rfl | rfl | rfl | rfl <;> rfl
    · simp only [List.mem_cons, List.not_mem_nil, or_false] at hd
      rcases hd with rfl | rfl | rfl | rfl
      · exact q _ h1 ⟨rfl, fun ds e => by cases e⟩ rfl (eq_shown rfl (by simp [dpt])) hh1
      · exact q _ h1 ⟨rfl, fun ds e => by cases e⟩ rfl (eq_shown (by decide +kernel) (by simp [dpt])) hh1
      · exact q _ h1 ⟨rfl, fun ds e => by cases e⟩ rfl (eq_shown (by decide +kernel) (by simp [dpt])) hh1
      · exact q _ h1 ⟨rfl, fun ds e => by cases e⟩ rfl (eq_shown rfl (by simp [dpt])) hh1
  refine pk4 fun d h2 th tn eq hh2 => ?_
  have gdd := th.1
  have od := gd_own th.1
  have oxd := gd_isX th.1
  have nd := gd_nsl th.1
  have o2 := hh2.own
  have ox2 := hh2.isX
  solve | exact eq | (simp; done) | (first | (simp; done) | (simp; omega)) | (first | first | refine lread_k c0 c1 p0 p1 f0 f1 ht th ⟨fun r2 e2 => (by rw [tn] at e2; cases e2), fun e2 => ?_⟩) | fail
  exact ⟨[h2], by simp [ioGet, ox2], k h2 hh2⟩
theorem lspoilt_k {h : D} {c f : Int} {p : Nat} {Q : Res D → List D → Prop} (hh : HOk h) (c0 : 2 ≤ c) (c1 : c ≤ 10) (p0 : 1 ≤ p) (p1 : p ≤ 12) (f0 : 0 ≤ f) (f1 : f < c) (ht : tot c (p + 1) ≤ 700) (k : ∀ h', HOk h' → Q (.ok (.bl true)) [h']) :
    Ef f__law_spoilt [h, .int c, .int (p : Nat), .int f, .lst (allD (cells c f p) f (cells c f (p + 1))), .lst (rwsD (cells c f (p + 1)))] Q := by
  have htp : tot c p ≤ 700 := Nat.le_trans (tot_le (by omega)) ht
  have lC := len_cells f0 f1 p
  have lR := len_cells f0 f1 (p + 1)
  have lp : 0 < (cells c f p).length := by obtain ⟨T, e⟩ := cells_cons c f p0; rw [e]; simp
  have lRp : 0 < (cells c f (p + 1)).length := by obtain ⟨T, e⟩ := cells_cons c f (show 1 ≤ p + 1 by omega); rw [e]; simp
  have la : (allD (cells c f p) f (cells c f (p + 1))).length = (cells c f (p + 1)).length := by simp [allD]
  refine ef_fun ?_
  show Es m__law_spoilt [some h, some (.int c), some (.int (p : Nat)), some (.int f), some (.lst (allD (cells c f p) f (cells c f (p + 1)))), some (.lst (rwsD (cells c f (p + 1)))), none, none, none, none, none, none, none, none] _
  rw [show m__law_spoilt = (mSeq (mSet 6 (mCall [true, false] f__law_pick [] (mCons (mVar 0) (mCons (mVar 4) mNil))))
  (mSeq (mSet 7 (mCB fLst (mCons (mVar 6) mNil)))
  (mSeq (mFor (bnd (mCons (mOp fAddA (SV.ret (.int 1)) (mCall [true, false] f__law_take [] (mCons (mVar 0) (mCons (SV.ret (.int 2)) mNil)))) mNil) fRng1) (tgN 8) (mSetI 7 (mCall [true, false] f__law_take [] (mCons (mVar 0) (mCons (mCB fLen (mCons (mVar 7) mNil)) mNil))) (mCall [true, false] f__law_pick [] (mCons (mVar 0) (mCons (mLst (mCons (SV.ret (.int 0)) (mCons (SV.ret (.int 1)) (mCons (mOp fSub (mVar 1) (SV.ret (.int 1))) (mCons (mVar 1) (mCons (SV.ret (.int 99)) (mCons (mVar 3) mNil))))))) mNil)))))
  (mSeq (mSet 9 (mLc (bnd (mCons (mCB fLen (mCons (mVar 5) mNil)) mNil) fRng1) (tgN 13) (mTb (mOp fEq (mOp fIx (mVar 4) (mVar 13)) (mVar 7))) (mOp fIx (mVar 5) (mVar 13)) [13]))
  (mSeq (mSet 10 (mCall [false, false, false, false] f__law_read [] (mCons (mVar 1) (mCons (mVar 2) (mCons (mVar 3) (mCons (mCB fTup (mCons (mVar 7) mNil)) mNil))))))
  (mSeq (mIf (mTb (mOp fNe (mVar 10) (mIfE (mTru (mVar 9)) (mOp fIx (mVar 9) (SV.ret (.int 0))) (mTup (mCons (SV.ret (.str "shown")) (mCons (mCB fTup (mCons (mVar 7) mNil)) mNil)))))) (mRet (SV.ret (.bl false))) (endS .nx))
  LP11)))))) from rfl]
  have o := hh.own
  have ox := hh.isX
  solve | fail | (simp; done) | (first | (simp; done) | (simp; omega)) | refine pick_k hh (by omega) (by omega) (gd_all _ _ _) fun db h1 hdb hh1 => ?_ | fail
  obtain ⟨r0, hr0, rfl⟩ := List.mem_map.mp hdb
  have vr0 := (mem_cells.mp hr0).1
  have rb := rw_lft (p := p) c1 f0 f1 vr0
  have lb := lft_len (cells c f p) f r0
  generalize lft (cells c f p) f r0 = b at *
  have o1 := hh1.own
  have ox1 := hh1.isX
  solve | fail | (simp; done) | (first | (simp; done) | (simp; omega)) | (first | first | refine lstOf_l (gd_ints _) ?_ | refine take_k hh1 (by omega) (by omega) fun v h2 v0 v1 hh2 => ?_) | fail
  refine es_for (fun dsl ρ => ∃ (s : List Int) (h : D) (a8 : Option D), s.length = b.length ∧ Rw s ∧ HOk h ∧ ρ = [some h, some (.int c), some (.int (p : Nat)), some (.int f), some (.lst (allD (cells c f p) f (cells c f (p + 1)))), some (.lst (rwsD (cells c f (p + 1)))), some (.lst (b.map D.int)), some (.ol (s.map D.int)), a8, none, none, none, none, none]) ?_ ?_ _ _ ⟨b, h2, none, rfl, rb, hh2, rfl⟩
  · rintro ρ ⟨s, h, a8, ls, rs, hh, rfl⟩
    have ls2 : s.length = (cells c f p).length := by rw [ls, lb]
    have glr : gLen (.lst (rwsD (cells c f (p + 1)))) = some (.int ((cells c f (p + 1)).length : Nat)) := by rw [gLen_l]; simp [rwsD]
    refine b_nx (b_seq (b_set ?_))
    refine ev_lc (fun dsl acc ρ => ∃ (i m : Nat), dsl = SV.upTo (i : Int) m ∧ i + m = (cells c f (p + 1)).length ∧ acc = rwsD (((cells c f (p + 1)).take i).filter fun r => decide (lft (cells c f p) f r = s)) ∧ ρ = [some h, some (.int c), some (.int (p : Nat)), some (.int f), some (.lst (allD (cells c f p) f (cells c f (p + 1)))), some (.lst (rwsD (cells c f (p + 1)))), some (.lst (b.map D.int)), some (.ol (s.map D.int)), a8, none, none, none, none, none]) ?_ ?_ ?_
    · solve | exact glr | (first | (simp; done) | (simp; omega)) | (first | (simp; done) | (simp; omega)) | fail | fail
      exact ⟨⟨0, (cells c f (p + 1)).length, by simp, by omega, rfl, rfl⟩, by rw [SV.upTo_length]; simp [lim]; omega⟩
    · rintro acc ρ ⟨i, m, e, hi, rfl, rfl⟩
      cases m with
      | succ m => rw [upTo_succ] at e; cases e
      | zero =>
        have e2 : i = (cells c f (p + 1)).length := by omega
        rw [e2, List.take_length]
        have thS : Th (.tup (s.map D.int)) := th_m.2
        have tS := tld_tup (c := c) (f := f) ls2 rs
        have fnd : ∀ r ∈ cells c f (p + 1), lft (cells c f p) f r = s → toldI (cells c f p) c f s = some r := fun r hr e => by
          obtain ⟨v, hl⟩ := mem_cells.mp hr
          rw [← e]
          exact told_lft p0 f0 f1 v (by omega)
        have s0 : 0 ≤ s.headD 0 := by
          cases hs : s with
          | nil => exact Int.le_refl _
          | cons x xs => exact (rs x (by rw [hs]; simp)).1
        have mF : ∀ r, r ∈ (cells c f (p + 1)).filter (fun r => decide (lft (cells c f p) f r = s)) ↔ r ∈ cells c f (p + 1) ∧ lft (cells c f p) f r = s := fun r => by rw [List.mem_filter]; simp
        generalize hF : (cells c f (p + 1)).filter (fun r => decide (lft (cells c f p) f r = s)) = F at *
        have qs : gEq true (.tup [.str "shown", .tup (s.map D.int)]) (.tup [.str "shown", .tup (s.map D.int)]) = some (.bl false) :=
          eq_shown (show pk (.tup (s.map D.int)) = true by simpa [pk] using pks_of fun x hx => (sml_rw rs x hx).1.2) (by have := dpts_of fun x hx => (sml_rw rs x hx).2; simp only [dpt]; omega)
        have rest : ∀ a9 a10 : Option D, Es LP11 [some h, some (.int c), some (.int (p : Nat)), some (.int f), some (.lst (allD (cells c f p) f (cells c f (p + 1)))), some (.lst (rwsD (cells c f (p + 1)))), some (.lst (b.map D.int)), some (.ol (s.map D.int)), a8, a9, a10, none, none, none] (fun fl ρ =>
          ∃ cs, ioGet [true, false, false, false, false, false] ρ = some cs ∧
              match fl with
              | Fl.ret d => Q (Res.ok d) cs
              | Fl.nx => Q (Res.ok D.non) cs
              | Fl.exc c fs => Q (Res.exc c fs) cs
              | x => False) := fun a9 a10 => lp11_k hh c0 c1 p0 p1 f0 f1 htp rb lb k
        cases hT : toldI (cells c f p) c f s with
        | some r =>
          have hm : r ∈ F := (mF r).mpr (by
            obtain ⟨⟨v, hl⟩, e⟩ := told_row p0 s0 hT
            exact ⟨mem_cells.mpr ⟨v, by omega⟩, e⟩)
          cases F with
          | nil => cases hm
          | cons r2 F =>
            have e3 := (mF r2).mp (by simp)
            have e4 := fnd r2 e3.1 e3.2
            rw [hT] at e4
            cases e4
            have g0 : gIx (.ol (rwsD (r :: F))) (.int 0) = some (rwD r) := ix_rws (i := 0) rfl
            have g1 : gEq true (rwD r) (rwD r) = some (.bl false) := by unfold rwD; rw [gEq_tt]; simp
            solve | (first | exact g0 | exact g1) | (first | (simp; done) | (simp; omega)) | (first | (simp; done) | (simp; omega)) | (first | first | refine tupOf_ol rfl ?_ | refine lread_k c0 c1 p0 p1 f0 f1 htp thS ⟨fun r2 e2 => ?_, fun e2 => (by rw [tS, hT] at e2; cases e2)⟩) | fail
            rw [tS, hT] at e2
            cases e2
            solve | (first | exact g0 | exact g1) | (simp; done) | (first | (simp; done) | (simp; omega)) | refine rest _ _ | fail
        | none =>
          cases F with
          | cons r2 F =>
            have e3 := (mF r2).mp (by simp)
            have e4 := fnd r2 e3.1 e3.2
            rw [hT] at e4
            cases e4
          | nil =>
            solve | exact qs | (first | (simp; done) | (simp; omega)) | (first | (simp; done) | (simp; omega)) | (first | first | refine rest _ _ | refine tupOf_ol rfl ?_ | refine lread_k c0 c1 p0 p1 f0 f1 htp thS ⟨fun r2 e2 => (by rw [tS, hT] at e2; cases e2), fun e2 => ?_⟩) | fail
    · rintro d dsl acc ρ ⟨i, m, e, hi, rfl, rfl⟩
      cases m with
      | zero => cases e
      | succ m =>
        rw [upTo_succ] at e
        cases e
        refine ⟨_, rfl, ?_⟩
        obtain ⟨r, hr⟩ : ∃ r, (cells c f (p + 1))[i]? = some r := ⟨_, List.getElem?_eq_getElem (by omega)⟩
        have g1 := ix_all (C := cells c f p) (f := f) hr
        have g2 := ix_rwsL hr
        have tk : (cells c f (p + 1)).take (i + 1) = (cells c f (p + 1)).take i ++ [r] := by rw [List.take_succ, hr]; rfl
        by_cases hq : lft (cells c f p) f r = s
        · have g3 : gEq false (.lst ((lft (cells c f p) f r).map D.int)) (.ol (s.map D.int)) = some (.bl true) := by rw [gEq_lo]; simp [hq]
          solve | (first | exact g1 | exact g2 | exact g3) | (first | (simp; done) | (simp; omega)) | (first | (simp; done) | (simp; omega)) | fail | fail
          refine ⟨true, rfl, ?_⟩
          rw [if_pos rfl]
          solve | (first | exact g1 | exact g2 | exact g3) | (first | (simp; done) | (simp; omega)) | (first | (simp; done) | (simp; omega)) | fail | fail
          refine ⟨_, rfl, ?_⟩
          solve | fail | (first | (simp; done) | (simp; omega)) | (first | (simp; done) | (simp; omega)) | fail | fail
          exact ⟨_, rfl, i + 1, m, by simp, by omega, by rw [tk, List.filter_append, show [r].filter (fun r => decide (lft (cells c f p) f r = s)) = [r] by simp [hq], rwsD_app]; rfl, rfl⟩
        · have g3 : gEq false (.lst ((lft (cells c f p) f r).map D.int)) (.ol (s.map D.int)) = some (.bl false) := by rw [gEq_lo]; simp [hq]
          solve | (first | exact g1 | exact g2 | exact g3) | (first | (simp; done) | (simp; omega)) | (first | (simp; done) | (simp; omega)) | fail | fail
          refine ⟨false, rfl, ?_⟩
          rw [if_neg (by simp)]
          exact ⟨i + 1, m, by simp, by omega, by rw [tk, List.filter_append, show [r].filter (fun r => decide (lft (cells c f p) f r = s)) = [] by simp [hq], List.append_nil], rfl⟩
  · rintro d dsl ρ ⟨s, h, a8, ls, rs, hh, rfl⟩
    refine ⟨_, rfl, ?_⟩
    have o := hh.own
    have ox := hh.isX
    have pk1 : ∀ {Q : Res D → List D → Prop}, (∀ x h1, 0 ≤ x → x < 100 → HOk h1 → Q (.ok (.int x)) [h1]) → Ef f__law_pick [h, (D.ol [D.int 0, .int 1, .int (c - 1), .int c, .int 99, .int f]).frz] Q := fun {Q} q => by
      have e : (D.ol [D.int 0, .int 1, .int (c - 1), .int c, .int 99, .int f]).frz = .lst [D.int 0, .int 1, .int (c - 1), .int c, .int 99, .int f] := rfl
      rw [e]
      refine pick_k hh (by simp) (by simp) (fun d hd => ?_) fun d h1 hd hh1 => ?_
      · simp only [List.mem_cons, List.not_mem_nil, or_false] at hd
        rcases hd with rfl | rfl | rfl | rfl | rfl | rfl <;> rfl
      · simp only [List.mem_cons, List.not_mem_nil, or_false] at hd
        rcases hd with rfl | rfl | rfl | rfl | rfl | rfl <;> exact q _ h1 (by omega) (by omega) hh1
    solve | exact gLen_oi | (first | (simp; done) | (simp; omega)) | (first | (simp; done) | (simp; omega)) | (first | first | refine pk1 fun x h2 x0 x1 hh2 => ?_) | fail
    have o2 := hh2.own
    have ox2 := hh2.isX
    solve | exact gLen_oi | (first | (simp; done) | (simp; omega)) | (first | (simp; done) | (simp; omega)) | refine take_k hh2 (by omega) (by omega) fun v h3 v0 v1 hh3 => ?_ | fail
    refine ⟨v, _, v.toNat, rfl, rfl, ixN_ok v0 (by rw [List.length_map]; omega), ?_⟩
    refine ⟨s.set v.toNat x, h3, _, by rw [List.length_set]; exact ls, fun y hy => ?_, hh3, by rw [List.map_set]; rfl⟩
    rcases List.mem_or_eq_of_mem_set hy with hy | rfl
    · exact rs y hy
    · exact ⟨x0, x1⟩
end LAWP
end
section
set_option Elab.async false
set_option linter.all false
set_option autoImplicit false
set_option maxRecDepth 100000
set_option maxHeartbeats 0
set_option pp.maxSteps 400
namespace LAWP
open PySem PySem.Spec L2 SV LAWM
def WT0 : SM := (mSet 1 (mCall [true, false] f__law_pick [] (mCons (mVar 0) (mCons (mLst (mCons (SV.ret (.int 2)) (mCons (SV.ret (.int 3)) (mCons (SV.ret (.int 3)) (mCons (SV.ret (.int 4)) mNil))))) mNil))))
def WT1 : SM := (mSet 2 (mOp fAddA (SV.ret (.int 1)) (mCall [true, false] f__law_take [] (mCons (mVar 0) (mCons (mIfE (mTb (mOp fEq (mVar 1) (SV.ret (.int 4)))) (SV.ret (.int 3)) (SV.ret (.int 4))) mNil)))))
def WT2 : SM := (mIf (mTb (mOp fEq (mCall [true, false] f__law_take [] (mCons (mVar 0) (mCons (SV.ret (.int 6)) mNil))) (SV.ret (.int 0)))) (mSet 2 (mOp fIx (mLst (mCons (SV.ret (.int 12)) (mCons (SV.ret (.int 5)) (mCons (SV.ret (.int 4)) mNil)))) (mOp fSub (mVar 1) (SV.ret (.int 2))))) (endS .nx))
def WT3 : SM := (mSet 3 (mCall [true, false] f__law_take [] (mCons (mVar 0) (mCons (mVar 1) mNil))))
def WT4 : SM := (mSet 4 (mCall [false, false, false] f__law_cells [] (mCons (mVar 1) (mCons (mVar 2) (mCons (mVar 3) mNil)))))
def WT5 : SM := (mIf (mNot (mTru (mCall [false, false, false] f__law_tree_right [] (mCons (mCall [false, false, false] f_telling_tree [] (mCons (mVar 1) (mCons (mVar 2) (mCons (mVar 3) mNil)))) (mCons (mVar 4) (mCons (mVar 3) mNil)))))) (mRet (SV.ret (.bl false))) (endS .nx))
def WT6 : SM := (mSet 5 (mOp fAddA (mVar 4) (mCall [false, false, false] f__law_all_struck [] (mCons (mVar 1) (mCons (mVar 2) (mCons (mVar 3) mNil))))))
def WT7 : SM := (mSet 6 (mLc (mIter (mVar 5)) (tgN 11) (SV.ret true) (mCall [false, false, false] f__law_left [] (mCons (mVar 4) (mCons (mVar 3) (mCons (mVar 11) mNil)))) [11]))
def WT8 : SM := (mFor (bnd (mCons (mCB fLen (mCons (mVar 5) mNil)) mNil) fRng1) (tgN 7) (mSeq (mSet 8 (mCall [false, false, false, false] f_told_row [] (mCons (mVar 1) (mCons (mVar 2) (mCons (mVar 3) (mCons (mOp fIx (mVarW 6) (mVar 7)) mNil)))))) (mIf (mOr (mTb (mOp fNe (mVar 8) (mOp fIx (mVar 5) (mVar 7)))) (mOr (mNot (mTru (mIsi [.tup] (mVar 8)))) (mNot (mTru (mCall [false] (f__law_tuples 5) [] (mCons (mVar 8) mNil)))))) (mRet (SV.ret (.bl false))) (endS .nx))))
def WT9 : SM := (mFor (bnd (mCons (SV.ret (.int 3)) mNil) fRng1) (tgN 9) (mSeq (mSet 7 (mCall [true, false] f__law_take [] (mCons (mVar 0) (mCons (mCB fLen (mCons (mVar 5) mNil)) mNil)))) (mSeq (mSet 10 (mCall [false, false, false] f__law_left [] (mCons (mVar 4) (mCons (mVar 3) (mCons (mCall [true, false, false] f__law_raw [] (mCons (mVar 0) (mCons (mOp fIx (mVar 5) (mVar 7)) (mCons (mVar 3) mNil)))) mNil))))) (mIf (mOr (mTb (mOp fNe (mCall [false, false, false, false] f_told_row [] (mCons (mVar 1) (mCons (mVar 2) (mCons (mVar 3) (mCons (mCB fTup (mCons (mVar 10) mNil)) mNil))))) (mOp fIx (mVar 5) (mVar 7)))) (mNot (mTru (mCall [true, false, false, false, false, false] f__law_spoilt [] (mCons (mVar 0) (mCons (mVar 1) (mCons (mVar 2) (mCons (mVar 3) (mCons (mVar 6) (mCons (mVar 5) mNil)))))))))) (mRet (SV.ret (.bl false))) (endS .nx)))))
def WT10 : SM := (mRet (SV.ret (.bl true)))
theorem segs_WT : m__law_whole_tree = (mSeq WT0 (mSeq WT1 (mSeq WT2 (mSeq WT3 (mSeq WT4 (mSeq WT5 (mSeq WT6 (mSeq WT7 (mSeq WT8 (mSeq WT9 WT10)))))))))) := rfl
theorem b_vwo {i : Nat} {xs ys : List D} {ρ : SV.Env} {QD : Res D → SV.Env → Prop} (h : ρ[i]? = some (some (.ol xs))) (e : D.frzs xs = ys) (q : QD (.ok (.sl i)) (ρ.set i (some (.ol ys)))) : Ev (mVarW i) ρ QD := by
  subst e
  obtain ⟨r, ρ1, e, q⟩ := b_varZ h q
  exact ⟨r, ρ1, by unfold mVarW; rw [h]; exact e, q⟩
local macro_rules
  | `(tactic| solve | $a | $b | $c | $d | $e) => `(tactic| (repeat' (first
      | (apply_rules (transparency := .reducible) (symm := false) (exfalso := false) (maxDepth := 1000) only [@b_ok, @b_okS, @b_nx, @b_seq, @b_op, @b_ret, @b_cons, @b_nil, @b_CB, @b_C1, @b_set, @b_tb, @b_bl, @b_if, @b_end, @b_preps, @b_prepF, @b_preps0, @b_call, @b_owns, @b_owns0])
      | (apply_rules (transparency := .reducible) (symm := false) (exfalso := false) (maxDepth := 1000) only [@b_nret, @b_nexc, @b_exc, @b_excS, @b_nbrk, @b_nct, @b_mret, @b_expr, @b_setI, @b_un, @b_C2, @b_tru, @b_and, @b_or, @b_not, @b_notT, @b_andV, @b_orV, @b_blE, @b_ifE, @b_add, @b_neg, @b_aug, @b_prepT, @b_frzs, @b_frzs0, @b_tup, @b_lst, @b_isN, @b_notN, @b_isi, @b_raise, @b_ownS, @b_bnd, @b_iter, @b_fseq, @b_mfor, @b_enum, @b_callK, @b_sl, @b_part, @b_pi])
      | ((with_reducible apply b_var); rfl; (focus (first | rfl | assumption)); (focus (first | rfl | assumption)))
      | ((with_reducible apply b_varO); rfl; (focus (first | rfl | assumption)))
      | ((with_reducible apply b_st); exact Nat.le_of_ble_eq_true rfl)
      | ((with_reducible apply b_mvS); rfl; (focus (first | rfl | assumption)))
      | ((with_reducible apply b_mv); (focus (first | assumption | (intro _ z; cases z; done))))
      | ((with_reducible apply b_frzS); rfl; (focus (first | rfl | assumption)))
      | ((with_reducible apply b_frzG); focus (first | assumption | rfl))
      | ((with_reducible apply b_frz); (focus (first | assumption | (intro _ z; cases z; done))))
      | ((with_reducible apply b_own); (focus (first | assumption | (intro _ z; cases z; done))))
      | ((with_reducible apply b_II); focus (first | rfl | $c))
      | ((with_reducible apply b_look2); (focus (first | rfl | exact dr_gd (by assumption))); (focus (first | rfl | exact dr_gd (by assumption))); focus (first | exact gEqF | exact gNeF | $a | rfl))
      | ((with_reducible apply b_look); (focus (first | rfl | exact dr_gd (by assumption))); focus (first | $a | rfl))
      | ((with_reducible apply b_trv); (focus (first | rfl | exact dr_gd (by assumption))); rfl)
      | ((with_reducible apply b_io); rfl)
      | ((with_reducible apply b_lim); exact Nat.le_of_ble_eq_true rfl)
      | ((with_reducible apply b_setD); rfl)
      | ((with_reducible apply b_setK); rfl; rfl)
      | ((with_reducible apply b_LM); rfl)
      | ((with_reducible apply b_ifT); focus (first | rfl | $b))
      | ((with_reducible apply b_ifF); focus (first | rfl | $b))
      | ((with_reducible apply b_eT); focus (first | rfl | $b))
      | ((with_reducible apply b_eF); focus (first | rfl | $b))
      | ((with_reducible apply b_rng1); focus (first | (simp [okR]; done) | (simp [okR]; omega)))
      | ((with_reducible apply b_rng2); focus (first | (simp [okR]; done) | (simp [okR]; omega)))
      | ((with_reducible apply b_back); focus (first | rfl | exact cb_f rfl rfl))
      | ((with_reducible apply b_seqF); rfl)
      | ((with_reducible apply b_LMr); rfl; focus (refine lApp ?_; first | (simp; done) | (simp; omega) | $e))
      | ((with_reducible apply b_rz); exact ⟨rfl, Nat.le_of_ble_eq_true rfl, Nat.le_of_ble_eq_true rfl⟩)
      | $d
      | fail)))
theorem tuples_int {x : Int} {n : Nat} {Q : Res D → List D → Prop} (k : Q (.ok (.bl true)) []) : Ef (f__law_tuples (n + 1)) [.int x] Q := by
  show Ef (funM 2 [false] (m__law_tuples (fun _ => f__law_tuples n) n)) [.int x] Q
  refine ef_fun ?_
  show Es (m__law_tuples (fun _ => f__law_tuples n) n) [some (.int x), none] _
  unfold m__law_tuples
  solve | fail | (first | (simp; done) | (simp; omega)) | (first | (simp; done) | (simp; omega)) | fail | fail
  exact ⟨_, rfl, k⟩
theorem tuples_row {xs : List Int} {n : Nat} {Q : Res D → List D → Prop} (hl : xs.length ≤ 1000) (k : Q (.ok (.bl true)) []) : Ef (f__law_tuples (n + 2)) [.tup (xs.map D.int)] Q := by
  show Ef (funM 2 [false] (m__law_tuples (fun _ => f__law_tuples (n + 1)) (n + 1))) [.tup (xs.map D.int)] Q
  refine ef_fun ?_
  show Es (m__law_tuples (fun _ => f__law_tuples (n + 1)) (n + 1)) [some (.tup (xs.map D.int)), none] _
  unfold m__law_tuples
  solve | fail | (first | (simp; done) | (simp; omega)) | (first | (simp; done) | (simp; omega)) | fail | fail
  refine ev_lc (fun ds acc ρ => ∃ (rest : List Int), ds = rest.map D.int ∧ acc = [] ∧ ρ = [some (.tup (xs.map D.int)), none]) ?_ ?_ ?_
  · solve | fail | (first | (simp; done) | (simp; omega)) | (first | (simp; done) | (simp; omega)) | fail | fail
    exact ⟨⟨xs, rfl, rfl, rfl⟩, by simp [lim]; omega⟩
  · rintro acc ρ ⟨rest, e, rfl, rfl⟩
    solve | fail | (first | (simp; done) | (simp; omega)) | (first | (simp; done) | (simp; omega)) | fail | fail
    exact ⟨_, rfl, k⟩
  · rintro d ds acc ρ ⟨rest, e, rfl, rfl⟩
    cases rest with
    | nil => cases e
    | cons r rest =>
      cases e
      refine ⟨_, rfl, ?_⟩
      solve | fail | (first | (simp; done) | (simp; omega)) | (first | (simp; done) | (simp; omega)) | refine tuples_int ?_ | fail
      exact ⟨_, rfl, rest, rfl, rfl, rfl⟩
theorem frz_all (C : Rws) (f : Int) (R : Rws) : D.frzs (R.map fun r => D.ol ((lft C f r).map D.int)) = allD C f R := by
  induction R with
  | nil => rfl
  | cons r R ih =>
    show D.lst (D.frzs _) :: D.frzs _ = _
    rw [ih, frzs_gd (gd_ints _)]
    rfl
abbrev QW (Q : Res D → List D → Prop) : Fl → SV.Env → Prop := fun fl ρ => ∃ cs, ioGet [true] ρ = some cs ∧
  match fl with
  | Fl.ret d => Q (Res.ok d) cs
  | Fl.nx => Q (Res.ok D.non) cs
  | Fl.exc c fs => Q (Res.exc c fs) cs
  | x => False
theorem wt9_k {h : D} {c f : Int} {p : Nat} {a8 a9 a10 : Option D} {d6 a7 : Option D} {QS : Fl → SV.Env → Prop} (hh : HOk h) (c0 : 2 ≤ c) (c1 : c ≤ 10) (p0 : 1 ≤ p) (p1 : p ≤ 12) (f0 : 0 ≤ f) (f1 : f < c) (ht : tot c (p + 1) ≤ 700)
    (h6 : (∃ xs, d6 = some (.ol xs) ∧ D.frzs xs = allD (cells c f p) f (cells c f (p + 1))) ∨ d6 = some (.lst (allD (cells c f p) f (cells c f (p + 1)))))
    (k : ∀ h' b6 b7 b8 b9 b10 b11, HOk h' → QS .nx [some h', some (.int c), some (.int (p : Nat)), some (.int f), some (.lst (rwsD (cells c f p))), some (.lst (rwsD (cells c f (p + 1)))), b6, b7, b8, b9, b10, b11]) :
    Es WT9 [some h, some (.int c), some (.int (p : Nat)), some (.int f), some (.lst (rwsD (cells c f p))), some (.lst (rwsD (cells c f (p + 1)))), d6, a7, a8, a9, a10, none] QS := by
  have htp : tot c p ≤ 700 := Nat.le_trans (tot_le (by omega)) ht
  have lC := len_cells f0 f1 p
  have lR := len_cells f0 f1 (p + 1)
  have lRp : 0 < (cells c f (p + 1)).length := by obtain ⟨T, e⟩ := cells_cons c f (show 1 ≤ p + 1 by omega); rw [e]; simp
  have hrc : ∀ r ∈ cells c f p, r.length ≤ 100 := fun r hr => by have := (mem_cells.mp hr).2; omega
  have glr : gLen (.lst (rwsD (cells c f (p + 1)))) = some (.int ((cells c f (p + 1)).length : Nat)) := by rw [gLen_l]; simp [rwsD]
  unfold WT9
  solve | fail | (first | (simp; done) | (simp; omega)) | (first | (simp; done) | (simp; omega)) | fail | fail
  refine es_for (fun dsl ρ => ∃ (i m : Nat) (h : D) (d6 a7 a9 a10 : Option D), dsl = SV.upTo (i : Int) m ∧ i + m = 3 ∧ HOk h ∧ ((∃ xs, d6 = some (.ol xs) ∧ D.frzs xs = allD (cells c f p) f (cells c f (p + 1))) ∨ d6 = some (.lst (allD (cells c f p) f (cells c f (p + 1))))) ∧ ρ = [some h, some (.int c), some (.int (p : Nat)), some (.int f), some (.lst (rwsD (cells c f p))), some (.lst (rwsD (cells c f (p + 1)))), d6, a7, a8, a9, a10, none]) ?_ ?_ _ _ ⟨0, 3, h, d6, a7, a9, a10, rfl, rfl, hh, h6, rfl⟩
  · rintro ρ ⟨i, m, h, d6, a7, a9, a10, e, hi, hh, h6, rfl⟩
    exact k _ _ _ _ _ _ _ hh
  · rintro d dsl ρ ⟨i, m, h, d6, a7, a9, a10, e, hi, hh, h6, rfl⟩
    cases m with
    | zero => cases e
    | succ m =>
      rw [upTo_succ] at e
      cases e
      refine ⟨_, rfl, ?_⟩
      have o := hh.own
      have ox := hh.isX
      solve | exact glr | (simp; done) | (first | (simp; done) | (simp; omega)) | refine take_k hh (by omega) (by omega) fun v h1 v0 v1 hh1 => ?_ | fail
      obtain ⟨j, rfl⟩ : ∃ j : Nat, v = (j : Int) := ⟨v.toNat, by omega⟩
      obtain ⟨r, hr⟩ : ∃ r, (cells c f (p + 1))[j]? = some r := ⟨_, List.getElem?_eq_getElem (by omega)⟩
      have hm := mem_cells.mp (List.mem_of_getElem? hr)
      have g2 := ix_rwsL hr
      have o1 := hh1.own
      have ox1 := hh1.isX
      solve | exact g2 | (simp; done) | (first | (simp; done) | (simp; omega)) | refine lraw_k hh1 (by omega) fun w h2 raw wl hh2 => ?_ | fail
      rw [show (D.ol (w.map D.int)).frz = .lst (w.map D.int) by show D.lst (D.frzs _) = _; rw [frzs_gd (gd_ints _)]]
      refine lleft_k (.inl rfl) (by omega) hrc (by omega) ?_
      rw [lft_raw raw]
      have rl := rw_lft (p := p) c1 f0 f1 hm.1
      have ll := lft_len (cells c f p) f r
      have tl := told_lft (c := c) (f := f) p0 f0 f1 hm.1 (by omega)
      have tS := tld_tup (C := cells c f p) (c := c) (f := f) ll rl
      rw [tl] at tS
      have thS : Th (.tup ((lft (cells c f p) f r).map D.int)) := th_m.2
      have g1 : gEq true (rwD r) (rwD r) = some (.bl false) := by unfold rwD; rw [gEq_tt]; simp
      have o2 := hh2.own
      have ox2 := hh2.isX
      generalize lft (cells c f p) f r = s at *
      rcases h6 with ⟨xs, rfl, e6⟩ | rfl
      · have e7 : (D.ol xs).frz = .lst (allD (cells c f p) f (cells c f (p + 1))) := by show D.lst (D.frzs xs) = _; rw [e6]
        solve | (first | exact g1 | exact g2) | (simp; done) | (first | (simp; done) | (simp; omega)) | (first | first | refine tupOf_ol rfl ?_ | refine told_k c0 c1 p0 p1 f0 f1 htp thS ⟨fun r2 e2 => ?_, fun e2 => (by rw [tS] at e2; cases e2)⟩) | fail
        rw [tS] at e2
        cases e2
        solve | (first | exact g1 | exact g2) | (simp; done) | (first | (simp; done) | (simp; omega)) | fail | fail
        rw [e7]
        refine lspoilt_k hh2 c0 c1 p0 p1 f0 f1 ht fun h3 hh3 => ?_
        solve | (first | exact g1 | exact g2) | (simp; done) | (first | (simp; done) | (simp; omega)) | fail | fail
        exact ⟨i + 1, m, h3, _, _, _, _, by simp, by omega, hh3, .inr rfl, rfl⟩
      · solve | (first | exact g1 | exact g2) | (simp; done) | (first | (simp; done) | (simp; omega)) | (first | first | refine tupOf_ol rfl ?_ | refine told_k c0 c1 p0 p1 f0 f1 htp thS ⟨fun r2 e2 => ?_, fun e2 => (by rw [tS] at e2; cases e2)⟩) | fail
        rw [tS] at e2
        cases e2
        solve | (first | exact g1 | exact g2) | (simp; done) | (first | (simp; done) | (simp; omega)) | refine lspoilt_k hh2 c0 c1 p0 p1 f0 f1 ht fun h3 hh3 => ?_ | fail
        exact ⟨i + 1, m, h3, _, _, _, _, by simp, by omega, hh3, .inr rfl, rfl⟩
theorem lc_mapF {v : Nat} {m : M (List D)} {el : M D} {ρ ρ1 : SV.Env} {QD : Res D → SV.Env → Prop} (xs : List D) (g : D → D) (hv : v < ρ1.length) (hm : Ev m ρ fun r ρ2 => r = .ok xs ∧ ρ2 = ρ1) (hl : xs.length ≤ 16777216)
    (he : ∀ x ∈ xs, Ev el (ρ1.set v (some x)) fun r ρ2 => r = .ok (g x) ∧ ρ2 = ρ1.set v (some x)) (nsl : ∀ x ∈ xs, ∀ i, g x ≠ .sl i) (q : QD (.ok (.ol (xs.map g))) (ρ1.set v none)) : Ev (mLc m (tgN v) (SV.ret true) el [v]) ρ QD := by
  have wp : ∀ d : Option D, wipeE (ρ1.set v d) [v] = ρ1.set v none := fun d => by
    show (ρ1.set v d).set v none = _
    rw [List.set_set]
  refine ev_lc (fun ds acc ρ2 => ∃ done, done ++ ds = xs ∧ acc = done.map g ∧ ρ2 = ρ1.set v none) (hm.imp fun r ρ1 z => ?_) ?_ ?_
  · obtain ⟨rfl, rfl⟩ := z
    exact ⟨⟨[], rfl, rfl, rfl⟩, hl⟩
  · rintro acc ρ2 ⟨done, e, rfl, rfl⟩
    rw [List.append_nil] at e
    rw [e]
    exact q
  · rintro d ds acc ρ2 ⟨done, e, rfl, rfl⟩
    have hm : d ∈ xs := by rw [← e]; simp
    refine ⟨ρ1.set v (some d), ?_, ?_⟩
    · unfold tgN
      rw [if_pos (by rw [List.length_set]; exact hv), List.set_set]
    · refine ⟨_, _, rfl, true, rfl, ?_⟩
      rw [if_pos rfl]
      refine (he d hm).imp fun r ρ2 z => ?_
      obtain ⟨rfl, rfl⟩ := z
      refine ⟨_, rfl, ?_⟩
      rw [ev_own (nsl d hm)]
      exact ⟨_, rfl, done ++ [d], by simpa using e, by simp, wp _⟩
theorem ix_allO {C R : Rws} {f : Int} {i : Nat} {r : List Int} (h : R[i]? = some r) : gIx (.ol (allD C f R)) (.int (i : Nat)) = some (.lst ((lft C f r).map D.int)) := by
  have h2 : (allD C f R)[i]? = some (.lst ((lft C f r).map D.int)) := by simp [allD, h]
  have hl : i < (allD C f R).length := (List.getElem?_eq_some_iff.mp h2).1
  have e2 : (allD C f R)[i] = .lst ((lft C f r).map D.int) := by rw [List.getElem?_eq_getElem hl] at h2; exact Option.some.inj h2
  simp [gIx, D.seq, atI, ixN, hl, e2, D.own]
theorem wrest_k {h : D} {c : Int} {p : Nat} {Q : Res D → List D → Prop} {a3 a4 a5 a6 a7 a8 a9 a10 a11 : Option D} (hh : HOk h) (c0 : 2 ≤ c) (c1 : c ≤ 10) (p0 : 1 ≤ p) (p1 : p ≤ 12) (ht : tot c (p + 1) ≤ 700) (k : ∀ h', HOk h' → Q (.ok (.bl true)) [h']) :
    Es (mSeq WT3 (mSeq WT4 (mSeq WT5 (mSeq WT6 (mSeq WT7 (mSeq WT8 (mSeq WT9 WT10))))))) [some h, some (.int c), some (.int (p : Nat)), none, none, none, none, none, none, none, none, none] (QW Q) := by
  have o := hh.own
  have ox := hh.isX
  unfold WT3
  refine b_seq ?_
  solve | fail | (simp; done) | (first | (simp; done) | (simp; omega)) | refine take_k hh (by omega) (by omega) fun f h1 f0 f1 hh1 => ?_ | fail
  clear o ox
  have o := hh1.own
  have ox := hh1.isX
  have htp : tot c p ≤ 700 := Nat.le_trans (tot_le (by omega)) ht
  have lC := len_cells f0 f1 p
  have lR := len_cells f0 f1 (p + 1)
  have lRp : 0 < (cells c f (p + 1)).length := by obtain ⟨T, e⟩ := cells_cons c f (show 1 ≤ p + 1 by omega); rw [e]; simp
  have hrc : ∀ r ∈ cells c f p, r.length ≤ 100 := fun r hr => by have := (mem_cells.mp hr).2; omega
  have glr : gLen (.lst (rwsD (cells c f (p + 1)))) = some (.int ((cells c f (p + 1)).length : Nat)) := by rw [gLen_l]; simp [rwsD]
  unfold WT4
  have fz : (D.ol (rwsD (cells c f p))).frz = .lst (rwsD (cells c f p)) := by show D.lst (D.frzs _) = _; rw [frzs_gd (gd_rws _)]
  solve | fail | (simp; done) | (first | (simp; done) | (simp; omega)) | refine lcells_k c0 c1 p1 f0 f1 htp ?_ | fail
  unfold WT5
  solve | fail | (first | (simp; done) | (simp; omega)) | (first | (simp; done) | (simp; omega)) | fail | fail
  refine tell_k c0 c1 p0 p1 f0 f1 htp fun B hB => ?_
  have lt : ∀ {Q : Res D → List D → Prop}, Q (.ok (.bl true)) [] → Ef f__law_tree_right [pic ((cells c f p).map (lastT f)) (nrm (tsB B)) [0], .lst (rwsD (cells c f p)), .int f] Q := fun {Q} q => ltree_k c0 c1 p0 p1 f0 f1 htp hB q
  generalize hpp : pic ((cells c f p).map (lastT f)) (nrm (tsB B)) [0] = pp at *
  have po : pp.own = false := by rw [← hpp]; rfl
  have px : pp.isX = false := by rw [← hpp]; rfl
  have pn : ∀ i, pp ≠ .sl i := fun i z => by rw [← hpp] at z; cases z
  have pf : pp.frz = pp := by rw [← hpp]; rfl
  solve | fail | (simp; done) | (first | (simp; done) | (simp; omega)) | fail | fail
  rw [fz]
  try rw [pf]
  refine lt ?_
  unfold WT6
  have n3 : (cells c f (p + 1)).length = (cells c f p).length + (lev c f p).length := by show (cells c f p ++ lev c f p).length = _; simp
  have hc : rwsD (cells c f p) ++ rwsD (lev c f p) = rwsD (cells c f (p + 1)) := (rwsD_app _ _).symm
  have fzR : (D.ol (rwsD (cells c f (p + 1)))).frz = .lst (rwsD (cells c f (p + 1))) := by show D.lst (D.frzs _) = _; rw [frzs_gd (gd_rws _)]
  solve | fail | (simp; done) | (first | (simp; done) | (simp; omega)) | (first | first | refine lall_k c0 c1 (by omega) f0 f1 ht ?_ | refine add_lf (gd_rws _) (gd_rws _) (by simp [rwsD]; omega) ?_) | fail
  rw [hc]
  unfold WT7
  refine b_set ?_
  refine lc_mapF (ρ1 := [some h1, some (.int c), some (.int (p : Nat)), some (.int f), some (.lst (rwsD (cells c f p))), some (.lst (rwsD (cells c f (p + 1)))), none, none, none, none, none, none]) (rwsD (cells c f (p + 1))) (fun d => .ol ((lft (cells c f p) f (unR d)).map D.int)) (by simp) ?_ (by simp [rwsD]; omega) (fun x hx => ?_) (fun x hx j z => by cases z) ?_
  · solve | fail | (first | (simp; done) | (simp; omega)) | (first | (simp; done) | (simp; omega)) | fail | fail
    rw [fzR, frzs_gd (gd_rws _)]
    exact ⟨rfl, rfl⟩
  · obtain ⟨r, hr, rfl⟩ := List.mem_map.mp hx
    have hm := mem_cells.mp hr
    rw [unR_rw]
    solve | fail | (simp; done) | (first | (simp; done) | (simp; omega)) | refine lleft_k (.inr rfl) (by omega) hrc (by omega) ?_ | fail
    exact ⟨rfl, rfl⟩
  have em : (rwsD (cells c f (p + 1))).map (fun d => D.ol ((lft (cells c f p) f (unR d)).map D.int)) = (cells c f (p + 1)).map fun r => D.ol ((lft (cells c f p) f r).map D.int) := by
    simp only [rwsD, List.map_map]
    refine List.map_congr_left fun x _ => ?_
    simp [unR_rw]
  rw [em]
  have fa := frz_all (cells c f p) f (cells c f (p + 1))
  generalize ((cells c f (p + 1)).map fun r => D.ol ((lft (cells c f p) f r).map D.int)) = xs0 at *
  unfold WT8
  solve | exact glr | (simp; done) | (first | (simp; done) | (simp; omega)) | fail | fail
  have tn : (((cells c f (p + 1)).length : Nat) : Int).toNat = (cells c f (p + 1)).length := by omega
  try rw [tn]
  refine es_for (fun dsl ρ => ∃ (i m : Nat) (xs : List D) (a7 a8 : Option D), dsl = SV.upTo (i : Int) m ∧ i + m = (cells c f (p + 1)).length ∧ D.frzs xs = allD (cells c f p) f (cells c f (p + 1)) ∧ ρ = [some h1, some (.int c), some (.int (p : Nat)), some (.int f), some (.lst (rwsD (cells c f p))), some (.lst (rwsD (cells c f (p + 1)))), some (.ol xs), a7, a8, none, none, none]) ?_ ?_ _ _ ⟨0, (cells c f (p + 1)).length, xs0, none, none, by first | rfl | simp, by omega, fa, rfl⟩
  · rintro ρ ⟨i, m, xs, a7, a8, e, hi, fx, rfl⟩
    refine b_nx (b_seq (wt9_k hh1 c0 c1 p0 p1 f0 f1 ht (.inl ⟨xs, rfl, fx⟩) fun h2 b6 b7 b8 b9 b10 b11 hh2 => ?_))
    have ox2 := hh2.isX
    unfold WT10
    solve | fail | (first | (simp; done) | (simp; omega)) | (first | (simp; done) | (simp; omega)) | fail | fail
    exact ⟨[h2], by simp [ioGet, ox2], k h2 hh2⟩
  · rintro d dsl ρ ⟨i, m, xs, a7, a8, e, hi, fx, rfl⟩
    cases m with
    | zero => cases e
    | succ m =>
      rw [upTo_succ] at e
      cases e
      refine ⟨_, rfl, ?_⟩
      obtain ⟨r, hr⟩ : ∃ r, (cells c f (p + 1))[i]? = some r := ⟨_, List.getElem?_eq_getElem (by omega)⟩
      have hm := mem_cells.mp (List.mem_of_getElem? hr)
      have g2 := ix_rwsL hr
      have g3 := ix_allO (C := cells c f p) (f := f) hr
      have rl := rw_lft (p := p) c1 f0 f1 hm.1
      have ll := lft_len (cells c f p) f r
      have tl := told_lft (c := c) (f := f) p0 f0 f1 hm.1 (by omega)
      have tS := tld_lst (C := cells c f p) (c := c) (f := f) ll rl
      rw [tl] at tS
      have thS : Th (.lst ((lft (cells c f p) f r).map D.int)) := th_m.1
      have g1 : gEq true (rwD r) (rwD r) = some (.bl false) := by unfold rwD; rw [gEq_tt]; simp
      generalize lft (cells c f p) f r = s at *
      solve | exact g3 | (simp; done) | (first | (simp; done) | (simp; omega)) | (first | first | refine b_vwo rfl fx ?_ | refine told_k c0 c1 p0 p1 f0 f1 htp thS ⟨fun r2 e2 => ?_, fun e2 => (by rw [tS] at e2; cases e2)⟩) | fail
      rw [tS] at e2
      cases e2
      solve | (first | exact g1 | exact g2) | (simp; done) | (first | (simp; done) | (simp; omega)) | refine tuples_row (by omega) ?_ | fail
      exact ⟨i + 1, m, allD (cells c f p) f (cells c f (p + 1)), _, _, by simp, by omega, frzs_gd (gd_all _ _ _), rfl⟩
theorem whole_tree_k {h : D} {Q : Res D → List D → Prop} (hh : HOk h) (k : ∀ h', HOk h' → Q (.ok (.bl true)) [h']) : Ef f__law_whole_tree [h] Q := by
  refine ef_fun ?_
  show Es m__law_whole_tree [some h, none, none, none, none, none, none, none, none, none, none, none] (QW Q)
  rw [segs_WT]
  have o := hh.own
  have ox := hh.isX
  unfold WT0
  refine b_seq ?_
  have pk1 : ∀ {Q : Res D → List D → Prop}, (∀ c h1, (c = 2 ∨ c = 3 ∨ c = 4) → HOk h1 → Q (.ok (.int c)) [h1]) → Ef f__law_pick [h, (D.ol [D.int 2, .int 3, .int 3, .int 4]).frz] Q := fun {Q} q => by
    have e : (D.ol [D.int 2, .int 3, .int 3, .int 4]).frz = .lst [D.int 2, .int 3, .int 3, .int 4] := rfl
    rw [e]
    refine pick_k hh (by simp) (by simp) (fun d hd => ?_) fun d h1 hd hh1 => ?_
    · simp only [List.mem_cons, List.not_mem_nil, or_false] at hd
      rcases hd with rfl | rfl | rfl | rfl <;> rfl
    · simp only [List.mem_cons, List.not_mem_nil, or_false] at hd
      rcases hd with rfl | rfl | rfl | rfl <;> exact q _ h1 (by decide) hh1
  solve | fail | (first | (simp; done) | (simp; omega)) | (first | (simp; done) | (simp; omega)) | fail | fail
  refine pk1 fun c h1 hc hh1 => ?_
  have o1 := hh1.own
  have ox1 := hh1.isX
  have key : ∀ (P : Nat) (QS : Fl → SV.Env → Prop), (∀ (p : Nat) h2, 1 ≤ p → p ≤ P → HOk h2 → QS .nx [some h2, some (.int c), some (.int (p : Nat)), none, none, none, none, none, none, none, none, none]) → ((if c = 4 then 3 else 4) ≤ P) → Es WT1 [some h1, some (.int c), none, none, none, none, none, none, none, none, none, none] QS := fun P QS q hP => by
    unfold WT1
    by_cases h4 : c = 4
    · rw [if_pos h4] at hP
      solve | fail | (simp [h4]; done) | (first | (simp; done) | (simp; omega)) | refine take_k hh1 (by omega) (by omega) fun v h2 v0 v1 hh2 => ?_ | fail
      have e : (1 : Int) + v = (((1 + v).toNat : Nat) : Int) := by omega
      rw [e]
      exact q _ h2 (by omega) (by omega) hh2
    · rw [if_neg h4] at hP
      solve | fail | (simp [h4]; done) | (first | (simp; done) | (simp; omega)) | refine take_k hh1 (by omega) (by omega) fun v h2 v0 v1 hh2 => ?_ | fail
      have e : (1 : Int) + v = (((1 + v).toNat : Nat) : Int) := by omega
      rw [e]
      exact q _ h2 (by omega) (by omega) hh2
  solve | fail | (first | (simp; done) | (simp; omega)) | (first | (simp; done) | (simp; omega)) | fail | fail
  refine key (if c = 4 then 3 else 4) _ (fun p h2 p0 p1 hh2 => ?_) (Nat.le_refl _)
  have p4 : p ≤ 4 := by
    split at p1 <;> omega
  have o2 := hh2.own
  have ox2 := hh2.isX
  unfold WT2
  have t1 : tot c (p + 1) ≤ 700 := by
    refine Nat.le_trans (tot_le (show p + 1 ≤ 5 by omega)) ?_
    rcases hc with rfl | rfl | rfl <;> decide
  refine b_nx (b_seq ?_)
  solve | fail | fail | (first | (simp; done) | (simp; omega)) | refine take_k hh2 (by omega) (by omega) fun v h3 v0 v1 hh3 => ?_ | fail
  have o3 := hh3.own
  have ox3 := hh3.isX
  by_cases hv : v = 0
  · obtain ⟨p', hp', g5, t2⟩ : ∃ p' : Nat, (1 ≤ p' ∧ p' ≤ 12) ∧ gIx (.ol [D.int 12, .int 5, .int 4]) (.int (c - 2)) = some (.int (p' : Nat)) ∧ tot c (p' + 1) ≤ 700 := by
      rcases hc with rfl | rfl | rfl
      · exact ⟨12, by omega, rfl, by decide⟩
      · exact ⟨5, by omega, rfl, by decide⟩
      · exact ⟨4, by omega, rfl, by decide⟩
    solve | exact g5 | (simp [hv]; done) | (first | (simp; done) | (simp; omega)) | fail | fail
    have z := wrest_k (a3 := none) (a4 := none) (a5 := none) (a6 := none) (a7 := none) (a8 := none) (a9 := none) (a10 := none) (a11 := none) hh3 (by omega) (by omega) hp'.1 hp'.2 t2 k
    rw [es_seq] at z
    exact z
  · solve | fail | (simp [hv]; done) | (first | (simp; done) | (simp; omega)) | fail | fail
    have z := wrest_k (a3 := none) (a4 := none) (a5 := none) (a6 := none) (a7 := none) (a8 := none) (a9 := none) (a10 := none) (a11 := none) hh3 (by omega) (by omega) p0 (by omega) t1 k
    rw [es_seq] at z
    exact z
end LAWP
end
section
set_option Elab.async false
set_option linter.all false
set_option autoImplicit false
set_option maxRecDepth 100000
set_option maxHeartbeats 0
set_option pp.maxSteps 400
namespace LAWP
open PySem PySem.Spec L2 SV LAWM
theorem srt_tsB {R : Rws} {B : List Int} (h : Bf R B) : nrm (tsB B) = tsB B := by
  rw [nrm_tsB h]
  refine (srtS_uniq tot_P (List.Perm.refl _) ?_).symm
  refine List.pairwise_iff_getElem.mpr fun i j hi hj hij => ?_
  rw [tsB_len] at hi hj
  have e1 : (tsB B)[i]'(by rw [tsB_len]; exact hi) = (B[i], ((i + 1 : Nat) : Int)) := by
    have := tsB_get (List.getElem?_eq_getElem hi)
    rw [List.getElem?_eq_getElem (by rw [tsB_len]; exact hi)] at this
    exact Option.some.inj this
  have e2 : (tsB B)[j]'(by rw [tsB_len]; exact hj) = (B[j], ((j + 1 : Nat) : Int)) := by
    have := tsB_get (List.getElem?_eq_getElem hj)
    rw [List.getElem?_eq_getElem (by rw [tsB_len]; exact hj)] at this
    exact Option.some.inj this
  rw [e1, e2]
  have := List.pairwise_iff_getElem.mp h.mono i j hi hj hij
  refine SrtO.lexB_no.mpr ?_
  dsimp only
  omega
local macro_rules
  | `(tactic| solve | $a | $b | $c | $d | $e) => `(tactic| (repeat' (first
      | (apply_rules (transparency := .reducible) (symm := false) (exfalso := false) (maxDepth := 1000) only [@b_ok, @b_okS, @b_nx, @b_seq, @b_op, @b_ret, @b_cons, @b_nil, @b_CB, @b_C1, @b_set, @b_tb, @b_bl, @b_if, @b_end, @b_preps, @b_prepF, @b_preps0, @b_call, @b_owns, @b_owns0])
      | (apply_rules (transparency := .reducible) (symm := false) (exfalso := false) (maxDepth := 1000) only [@b_nret, @b_nexc, @b_exc, @b_excS, @b_nbrk, @b_nct, @b_mret, @b_expr, @b_setI, @b_un, @b_C2, @b_tru, @b_and, @b_or, @b_not, @b_notT, @b_andV, @b_orV, @b_blE, @b_ifE, @b_add, @b_neg, @b_aug, @b_prepT, @b_frzs, @b_frzs0, @b_tup, @b_lst, @b_isN, @b_notN, @b_isi, @b_raise, @b_ownS, @b_bnd, @b_iter, @b_fseq, @b_mfor, @b_enum, @b_callK, @b_sl, @b_part, @b_pi])
      | ((with_reducible apply b_var); rfl; (focus (first | rfl | assumption)); (focus (first | rfl | assumption)))
      | ((with_reducible apply b_varO); rfl; (focus (first | rfl | assumption)))
      | ((with_reducible apply b_st); exact Nat.le_of_ble_eq_true rfl)
      | ((with_reducible apply b_mvS); rfl; (focus (first | rfl | assumption)))
      | ((with_reducible apply b_mv); (focus (first | assumption | (intro _ z; cases z; done))))
      | ((with_reducible apply b_frzS); rfl; (focus (first | rfl | assumption)))
      | ((with_reducible apply b_frzG); focus (first | assumption | rfl))
      | ((with_reducible apply b_frz); (focus (first | assumption | (intro _ z; cases z; done))))
      | ((with_reducible apply b_own); (focus (first | assumption | (intro _ z; cases z; done))))
      | ((with_reducible apply b_II); focus (first | rfl | $c))
      | ((with_reducible apply b_look2); (focus (first | rfl | exact dr_gd (by assumption))); (focus (first | rfl | exact dr_gd (by assumption))); focus (first | exact gEqF | exact gNeF | $a | rfl))
      | ((with_reducible apply b_look); (focus (first | rfl | exact dr_gd (by assumption))); focus (first | $a | rfl))
      | ((with_reducible apply b_trv); (focus (first | rfl | exact dr_gd (by assumption))); rfl)
      | ((with_reducible apply b_io); rfl)
      | ((with_reducible apply b_lim); exact Nat.le_of_ble_eq_true rfl)
      | ((with_reducible apply b_setD); rfl)
      | ((with_reducible apply b_setK); rfl; rfl)
      | ((with_reducible apply b_LM); rfl)
      | ((with_reducible apply b_ifT); focus (first | rfl | $b))
      | ((with_reducible apply b_ifF); focus (first | rfl | $b))
      | ((with_reducible apply b_eT); focus (first | rfl | $b))
      | ((with_reducible apply b_eF); focus (first | rfl | $b))
      | ((with_reducible apply b_rng1); focus (first | (simp [okR]; done) | (simp [okR]; omega)))
      | ((with_reducible apply b_rng2); focus (first | (simp [okR]; done) | (simp [okR]; omega)))
      | ((with_reducible apply b_back); focus (first | rfl | exact cb_f rfl rfl))
      | ((with_reducible apply b_seqF); rfl)
      | ((with_reducible apply b_LMr); rfl; focus (refine lApp ?_; first | (simp; done) | (simp; omega) | $e))
      | ((with_reducible apply b_rz); exact ⟨rfl, Nat.le_of_ble_eq_true rfl, Nat.le_of_ble_eq_true rfl⟩)
      | $d
      | fail)))
theorem great_k {h : D} {Q : Res D → List D → Prop} (hh : HOk h) (k : ∀ h', HOk h' → Q (.ok (.bl true)) [h']) : Ef f__law_great_tree [h] Q := by
  refine ef_fun ?_
  show Es m__law_great_tree [some h, none, none, none, none, none] _
  unfold m__law_great_tree
  have o := hh.own
  have ox := hh.isX
  have pk1 : ∀ {Q : Res D → List D → Prop}, (∀ (c : Int) (p n : Nat) h1, (2 ≤ c ∧ c ≤ 10) → (2 ≤ p ∧ p ≤ 12) → (tot c p = n ∧ n ≤ 700) → HOk h1 → Q (.ok (.tup [.int c, .int (p : Nat), .int (n : Nat)])) [h1]) → Ef f__law_pick [h, (D.ol [D.tup [.int 2, .int 12, .int 12], .tup [.int 3, .int 9, .int 511], .tup [.int 4, .int 6, .int 364], .tup [.int 5, .int 5, .int 341], .tup [.int 10, .int 3, .int 91]]).frz] Q := fun {Q} q => by
    have e : (D.ol [D.tup [.int 2, .int 12, .int 12], .tup [.int 3, .int 9, .int 511], .tup [.int 4, .int 6, .int 364], .tup [.int 5, .int 5, .int 341], .tup [.int 10, .int 3, .int 91]]).frz = .lst [D.tup [.int 2, .int 12, .int 12], .tup [.int 3, .int 9, .int 511], .tup [.int 4, .int 6, .int 364], .tup [.int 5, .int 5, .int 341], .tup [.int 10, .int 3, .int 91]] := rfl
    rw [e]
    refine pick_k hh (by simp) (by simp) (fun d hd => ?_) fun d h1 hd hh1 => ?_
    · simp only [List.mem_cons, List.not_mem_nil, or_false] at hd
      rcases hd with rfl | rfl | rfl | rfl | rfl <;> rfl
    · simp only [List.mem_cons, List.not_mem_nil, or_false] at hd
      rcases hd with rfl | rfl | rfl | rfl | rfl
      · exact q 2 12 12 h1 (by decide) (by decide) (by decide) hh1
      · exact q 3 9 511 h1 (by decide) (by decide) (by decide) hh1
      · exact q 4 6 364 h1 (by decide) (by decide) (by decide) hh1
      · exact q 5 5 341 h1 (by decide) (by decide) (by decide) hh1
      · exact q 10 3 91 h1 (by decide) (by decide) (by decide) hh1
  refine b_seq (b_unp ?_)
  solve | fail | (first | (simp; done) | (simp; omega)) | (first | (simp; done) | (simp; omega)) | fail | fail
  refine pk1 fun c p n h1 hc hp hn hh1 => ?_
  have o1 := hh1.own
  have ox1 := hh1.isX
  solve | fail | (first | (simp; done) | (simp; omega)) | (first | (simp; done) | (simp; omega)) | fail | fail
  refine ⟨_, rfl, rfl, _, rfl, ?_⟩
  solve | fail | (simp; done) | (first | (simp; done) | (simp; omega)) | refine take_k hh1 (by omega) (by omega) fun f h2 f0 f1 hh2 => ?_ | fail
  refine tell_k hc.1 hc.2 (by omega) hp.2 f0 f1 (by omega) fun B hB => ?_
  rw [srt_tsB hB]
  have lC := len_cells f0 f1 p
  have bl := hB.len
  have fc := fld_c (cs := (cells c f p).map (lastT f)) (ts := tsB B) (ms := [0])
  have ft := fld_t (cs := (cells c f p).map (lastT f)) (ts := tsB B) (ms := [0])
  have l1 : gLen (.tup (((cells c f p).map (lastT f)).map D.int)) = some (.int (n : Nat)) := by rw [gLen_t, List.length_map, List.length_map, lC, hn.1]
  have l2 : gLen (.tup ((tsB B).map tupP)) = some (.int ((B.length : Nat) : Int)) := by rw [gLen_t, List.length_map, tsB_len]
  have n2 : 2 ≤ n := by
    have h1 : tot c 2 ≤ tot c p := tot_le hp.1
    have h2 : tot c 2 = 1 + (c - 1).toNat := by show 0 + (c - 1).toNat ^ 0 + (c - 1).toNat ^ 1 = _; simp
    omega
  have en : B.length + 1 = n := by omega
  obtain ⟨b, hb⟩ : ∃ b, B[B.length - 1]? = some b := ⟨_, List.getElem?_eq_getElem (by omega)⟩
  have hl : (tsB B)[B.length - 1]? = some (b, ((B.length : Nat) : Int)) := by
    have := tsB_get hb
    rw [show B.length - 1 + 1 = B.length by omega] at this
    exact this
  have lst : tsB B = (tsB B).dropLast ++ [(b, ((B.length : Nat) : Int))] := by
    have hne : tsB B ≠ [] := by
      intro z
      rw [z] at hl
      simp at hl
    have e1 := List.dropLast_concat_getLast hne
    have e2 : (tsB B).getLast hne = (b, ((B.length : Nat) : Int)) := by
      rw [List.getLast_eq_getElem]
      have h3 : (tsB B)[(tsB B).length - 1]? = some (b, ((B.length : Nat) : Int)) := by rw [tsB_len]; exact hl
      rw [List.getElem?_eq_getElem (by rw [tsB_len]; omega)] at h3
      exact Option.some.inj h3
    rw [e2] at e1
    exact e1.symm
  have l3 : gIx (.tup ((tsB B).map tupP)) (.int (-1)) = some (tupP (b, ((B.length : Nat) : Int))) := by
    have e : atI ((tsB B).map tupP) (-1) = some (tupP (b, ((B.length : Nat) : Int))) := by rw [lst, List.map_append]; exact atI_last _ _
    show (match atI ((tsB B).map tupP) (-1) with
      | some d => if d.own = true then none else some d
      | none => none) = _
    rw [e]
    rfl
  have l4 := ix_p1 (q := (b, ((B.length : Nat) : Int)))
  have o2 := hh2.own
  have ox2 := hh2.isX
  generalize hpp : pic ((cells c f p).map (lastT f)) (tsB B) [0] = pp at *
  have po : pp.own = false := by rw [← hpp]; rfl
  have px : pp.isX = false := by rw [← hpp]; rfl
  have pn : ∀ i, pp ≠ .sl i := fun i z => by rw [← hpp] at z; cases z
  solve | fail | (first | (simp; done) | (simp; omega)) | (first | (simp; done) | (simp; omega)) | fail | fail
  subst hpp
  solve | (first | exact fc | exact ft | exact l1 | exact l2 | exact l3 | exact l4) | (first | (simp; done) | (simp; omega)) | (first | (simp; done) | (simp; omega)) | fail | fail
  have eb : decide ((b, ((B.length : Nat) : Int)).2 = (n : Int) - 1) = true := decide_eq_true (by dsimp only; omega)
  exact ⟨[h2], by simp [ioGet, ox2], by rw [eb]; exact k h2 hh2⟩
theorem law_true (ns : List Int) (hl : ns.length ≤ 63) : f_law [.fz (ns.map D.int)] = some (.ok (.bl true), []) := by
  have key : Ef f_law [.fz (ns.map D.int)] fun r cs => r = .ok (.bl true) ∧ cs = [] := by
    refine ef_fun ?_
    show Es m_law [some (.fz (ns.map D.int)), none] _
    unfold m_law
    refine b_seq (b_set (b_call ?_))
    solve | fail | fail | (first | (simp; done) | (simp; omega)) | refine hand_k hl fun h hh => ?_ | fail
    have o := hh.own
    have ox := hh.isX
    have nsl := hh.nsl
    solve | fail | (first | (simp; done) | (simp; omega)) | (first | (simp; done) | (simp; omega)) | fail | fail
    refine take_k (m := 4) hh (by decide) (by decide) fun v h1 v0 v1 hh1 => ?_
    have o1 := hh1.own
    have ox1 := hh1.isX
    by_cases hv : v = 0
    · solve | fail | (simp [hv]; done) | (first | (simp; done) | (simp; omega)) | fail | fail
      refine great_k hh1 fun h2 hh2 => ?_
      have o2 := hh2.own
      have ox2 := hh2.isX
      solve | fail | (simp; done) | (first | (simp; done) | (simp; omega)) | fail | fail
      refine whole_tree_k hh2 fun h3 hh3 => ?_
      have o3 := hh3.own
      have ox3 := hh3.isX
      solve | fail | (simp; done) | (first | (simp; done) | (simp; omega)) | fail | fail
      refine lref_k hh3 fun h4 hh4 => ?_
      solve | fail | (simp; done) | (first | (simp; done) | (simp; omega)) | fail | fail
      exact ⟨_, rfl, rfl, rfl⟩
    · solve | fail | (simp [hv]; done) | (first | (simp; done) | (simp; omega)) | fail | fail
      refine whole_tree_k hh1 fun h3 hh3 => ?_
      have o3 := hh3.own
      have ox3 := hh3.isX
      solve | fail | (simp; done) | (first | (simp; done) | (simp; omega)) | fail | fail
      refine lref_k hh3 fun h4 hh4 => ?_
      solve | fail | (simp; done) | (first | (simp; done) | (simp; omega)) | fail | fail
      exact ⟨_, rfl, rfl, rfl⟩
  obtain ⟨r, cs, e, rfl, rfl⟩ := key
  exact e
end LAWP
end
section
set_option Elab.async false
set_option linter.all false
set_option autoImplicit false
set_option maxRecDepth 100000
set_option maxHeartbeats 0
namespace LAWW
open PySem PySem.Spec PyProof.Rows L2 SV LAWM
def XN : List Str := [("BadPicture" : Str), ("BadCount" : Str), ("TooMany" : Str), ("BadShown" : Str)]
structure Fx (K : PySem.W.Frag) (mg : Str → Option Value) : Prop where
  g__law_mixed : mg "_law_mixed" = some (.ref (He.ga K "_law_mixed"))
  g__law_take : mg "_law_take" = some (.ref (He.ga K "_law_take"))
  g__law_pick : mg "_law_pick" = some (.ref (He.ga K "_law_pick"))
  g_is_whole : mg "is_whole" = some (.ref (He.ga K "is_whole"))
  g__check_cells : mg "_check_cells" = some (.ref (He.ga K "_check_cells"))
  g__check_marks : mg "_check_marks" = some (.ref (He.ga K "_check_marks"))
  g__check_ties : mg "_check_ties" = some (.ref (He.ga K "_check_ties"))
  g_check_tree : mg "check_tree" = some (.ref (He.ga K "check_tree"))
  g_tree_colours : mg "tree_colours" = some (.ref (He.ga K "tree_colours"))
  g_other_tones : mg "other_tones" = some (.ref (He.ga K "other_tones"))
  g_tree_rows : mg "tree_rows" = some (.ref (He.ga K "tree_rows"))
  g_telling_tree : mg "telling_tree" = some (.ref (He.ga K "telling_tree"))
  g__law_great_tree : mg "_law_great_tree" = some (.ref (He.ga K "_law_great_tree"))
  g__law_hand : mg "_law_hand" = some (.ref (He.ga K "_law_hand"))
  g_places_within : mg "places_within" = some (.ref (He.ga K "places_within"))
  g_row_of_tree : mg "row_of_tree" = some (.ref (He.ga K "row_of_tree"))
  g_told_row : mg "told_row" = some (.ref (He.ga K "told_row"))
  g__law_asked : mg "_law_asked" = some (.ref (He.ga K "_law_asked"))
  g__law_total : mg "_law_total" = some (.ref (He.ga K "_law_total"))
  g__law_refusals : mg "_law_refusals" = some (.ref (He.ga K "_law_refusals"))
  g__law_all_struck : mg "_law_all_struck" = some (.ref (He.ga K "_law_all_struck"))
  g__law_cells : mg "_law_cells" = some (.ref (He.ga K "_law_cells"))
  g__law_hidden : mg "_law_hidden" = some (.ref (He.ga K "_law_hidden"))
  g__law_left : mg "_law_left" = some (.ref (He.ga K "_law_left"))
  g__law_raw : mg "_law_raw" = some (.ref (He.ga K "_law_raw"))
  g__law_read : mg "_law_read" = some (.ref (He.ga K "_law_read"))
  g__law_spoilt : mg "_law_spoilt" = some (.ref (He.ga K "_law_spoilt"))
  g__law_tree_right : mg "_law_tree_right" = some (.ref (He.ga K "_law_tree_right"))
  g__law_tuples : mg "_law_tuples" = some (.ref (He.ga K "_law_tuples"))
  g__law_whole_tree : mg "_law_whole_tree" = some (.ref (He.ga K "_law_whole_tree"))
  g_law : mg "law" = some (.ref (He.ga K "law"))
  g_Picture : mg "Picture" = some (.ref (He.ga K "Picture"))
  own_Picture : OwnC K "Picture" ["colours", "ties", "marks"]
  g_BadPicture : mg "BadPicture" = some (.ref (He.ga K "BadPicture"))
  g_BadCount : mg "BadCount" = some (.ref (He.ga K "BadCount"))
  g_TooMany : mg "TooMany" = some (.ref (He.ga K "TooMany"))
  g_BadShown : mg "BadShown" = some (.ref (He.ga K "BadShown"))
  n_abs : mg "abs" = none
  n_all : mg "all" = none
  n_bool : mg "bool" = none
  n_enumerate : mg "enumerate" = none
  n_int : mg "int" = none
  n_isinstance : mg "isinstance" = none
  n_len : mg "len" = none
  n_list : mg "list" = none
  n_max : mg "max" = none
  n_min : mg "min" = none
  n_range : mg "range" = none
  n_sorted : mg "sorted" = none
  n_sum : mg "sum" = none
  n_tuple : mg "tuple" = none
  n_zip : mg "zip" = none
  i_MOST_COLOUR : ∃ t, mg "MOST_COLOUR" = some (.int 99 t)
  i_MOST_TONES : ∃ t, mg "MOST_TONES" = some (.int 10 t)
  i_MOST_STEPS : ∃ t, mg "MOST_STEPS" = some (.int 12 t)
  i_MOST_CELLS : ∃ t, mg "MOST_CELLS" = some (.int 700 t)
  i_MOST_TIES : ∃ t, mg "MOST_TIES" = some (.int 2000 t)
  i_MOST_TREE : ∃ t, mg "MOST_TREE" = some (.int 700 t)
  em : exmTab K TAB = true
  xl : ∀ q ∈ XL, ExF K q.1 q.2
  xg : ∀ q ∈ XL, mg q.1 = some (.ref (He.ga K q.1))
  xg2 : ∀ c ∈ XN, mg c = some (.ref (He.ga K c))
  d__law_mixed : ∃ fd, FunD K "_law_mixed" "_law_mixed" (defArgs s__law_mixed) (defBody s__law_mixed) (defScope s__law_mixed) [] [] (He.ga K "_law_mixed") fd
  d__law_take : ∃ fd, FunD K "_law_take" "_law_take" (defArgs s__law_take) (defBody s__law_take) (defScope s__law_take) [] [] (He.ga K "_law_take") fd
  d__law_pick : ∃ fd, FunD K "_law_pick" "_law_pick" (defArgs s__law_pick) (defBody s__law_pick) (defScope s__law_pick) [] [] (He.ga K "_law_pick") fd
  d_is_whole : ∃ fd, FunD K "is_whole" "is_whole" (defArgs s_is_whole) (defBody s_is_whole) (defScope s_is_whole) [.non, .non] [] (He.ga K "is_whole") fd
  d__check_cells : ∃ fd, FunD K "_check_cells" "_check_cells" (defArgs s__check_cells) (defBody s__check_cells) (defScope s__check_cells) [] [] (He.ga K "_check_cells") fd
  d__check_marks : ∃ fd, FunD K "_check_marks" "_check_marks" (defArgs s__check_marks) (defBody s__check_marks) (defScope s__check_marks) [] [] (He.ga K "_check_marks") fd
  d__check_ties : ∃ fd, FunD K "_check_ties" "_check_ties" (defArgs s__check_ties) (defBody s__check_ties) (defScope s__check_ties) [] [] (He.ga K "_check_ties") fd
  d_Picture_I : ∃ fd, FunD K "__init__" "Picture.__init__" (defArgs s_Picture_I) (defBody s_Picture_I) (defScope s_Picture_I) [] [] (He.ma K (He.ga K "Picture") "__init__") fd
  d_check_tree : ∃ fd, FunD K "check_tree" "check_tree" (defArgs s_check_tree) (defBody s_check_tree) (defScope s_check_tree) [] [] (He.ga K "check_tree") fd
  d_tree_colours : ∃ fd, FunD K "tree_colours" "tree_colours" (defArgs s_tree_colours) (defBody s_tree_colours) (defScope s_tree_colours) [] [] (He.ga K "tree_colours") fd
  d_other_tones : ∃ fd, FunD K "other_tones" "other_tones" (defArgs s_other_tones) (defBody s_other_tones) (defScope s_other_tones) [] [] (He.ga K "other_tones") fd
  d_tree_rows : ∃ fd, FunD K "tree_rows" "tree_rows" (defArgs s_tree_rows) (defBody s_tree_rows) (defScope s_tree_rows) [] [] (He.ga K "tree_rows") fd
  d_telling_tree : ∃ fd, FunD K "telling_tree" "telling_tree" (defArgs s_telling_tree) (defBody s_telling_tree) (defScope s_telling_tree) [] [] (He.ga K "telling_tree") fd
  d__law_great_tree : ∃ fd, FunD K "_law_great_tree" "_law_great_tree" (defArgs s__law_great_tree) (defBody s__law_great_tree) (defScope s__law_great_tree) [] [] (He.ga K "_law_great_tree") fd
  d__law_hand : ∃ fd, FunD K "_law_hand" "_law_hand" (defArgs s__law_hand) (defBody s__law_hand) (defScope s__law_hand) [] [] (He.ga K "_law_hand") fd
  d_places_within : ∃ fd, FunD K "places_within" "places_within" (defArgs s_places_within) (defBody s_places_within) (defScope s_places_within) [] [] (He.ga K "places_within") fd
  d_row_of_tree : ∃ fd, FunD K "row_of_tree" "row_of_tree" (defArgs s_row_of_tree) (defBody s_row_of_tree) (defScope s_row_of_tree) [] [] (He.ga K "row_of_tree") fd
  d_told_row : ∃ fd, FunD K "told_row" "told_row" (defArgs s_told_row) (defBody s_told_row) (defScope s_told_row) [] [] (He.ga K "told_row") fd
  d__law_asked : ∃ fd, FunD K "_law_asked" "_law_asked" (defArgs s__law_asked) (defBody s__law_asked) (defScope s__law_asked) [] [] (He.ga K "_law_asked") fd
  d__law_total : ∃ fd, FunD K "_law_total" "_law_total" (defArgs s__law_total) (defBody s__law_total) (defScope s__law_total) [] [] (He.ga K "_law_total") fd
  d__law_refusals : ∃ fd, FunD K "_law_refusals" "_law_refusals" (defArgs s__law_refusals) (defBody s__law_refusals) (defScope s__law_refusals) [] [] (He.ga K "_law_refusals") fd
  d__law_all_struck : ∃ fd, FunD K "_law_all_struck" "_law_all_struck" (defArgs s__law_all_struck) (defBody s__law_all_struck) (defScope s__law_all_struck) [] [] (He.ga K "_law_all_struck") fd
  d__law_cells : ∃ fd, FunD K "_law_cells" "_law_cells" (defArgs s__law_cells) (defBody s__law_cells) (defScope s__law_cells) [] [] (He.ga K "_law_cells") fd
  d__law_hidden : ∃ fd, FunD K "_law_hidden" "_law_hidden" (defArgs s__law_hidden) (defBody s__law_hidden) (defScope s__law_hidden) [] [] (He.ga K "_law_hidden") fd
  d__law_left : ∃ fd, FunD K "_law_left" "_law_left" (defArgs s__law_left) (defBody s__law_left) (defScope s__law_left) [] [] (He.ga K "_law_left") fd
  d__law_raw : ∃ fd, FunD K "_law_raw" "_law_raw" (defArgs s__law_raw) (defBody s__law_raw) (defScope s__law_raw) [] [] (He.ga K "_law_raw") fd
  d__law_read : ∃ fd, FunD K "_law_read" "_law_read" (defArgs s__law_read) (defBody s__law_read) (defScope s__law_read) [] [] (He.ga K "_law_read") fd
  d__law_spoilt : ∃ fd, FunD K "_law_spoilt" "_law_spoilt" (defArgs s__law_spoilt) (defBody s__law_spoilt) (defScope s__law_spoilt) [] [] (He.ga K "_law_spoilt") fd
  d__law_tree_right : ∃ fd, FunD K "_law_tree_right" "_law_tree_right" (defArgs s__law_tree_right) (defBody s__law_tree_right) (defScope s__law_tree_right) [] [] (He.ga K "_law_tree_right") fd
  d__law_tuples : ∃ fd, FunD K "_law_tuples" "_law_tuples" (defArgs s__law_tuples) (defBody s__law_tuples) (defScope s__law_tuples) [] [] (He.ga K "_law_tuples") fd
  d__law_whole_tree : ∃ fd, FunD K "_law_whole_tree" "_law_whole_tree" (defArgs s__law_whole_tree) (defBody s__law_whole_tree) (defScope s__law_whole_tree) [] [] (He.ga K "_law_whole_tree") fd
  d_law : ∃ fd, FunD K "law" "law" (defArgs s_law) (defBody s_law) (defScope s_law) [] [] (He.ga K "law") fd
  d_BadPicture : ∃ fd, FunD K "__init__" "BadPicture.__init__" (defArgs i_BadPicture) (defBody i_BadPicture) (defScope i_BadPicture) [] [] (He.ma K (He.ga K "BadPicture") "__init__") fd
  d_BadCount : ∃ fd, FunD K "__init__" "BadCount.__init__" (defArgs i_BadCount) (defBody i_BadCount) (defScope i_BadCount) [] [] (He.ma K (He.ga K "BadCount") "__init__") fd
  d_TooMany : ∃ fd, FunD K "__init__" "TooMany.__init__" (defArgs i_TooMany) (defBody i_TooMany) (defScope i_TooMany) [] [] (He.ma K (He.ga K "TooMany") "__init__") fd
  d_BadShown : ∃ fd, FunD K "__init__" "BadShown.__init__" (defArgs i_BadShown) (defBody i_BadShown) (defScope i_BadShown) [] [] (He.ma K (He.ga K "BadShown") "__init__") fd
section
variable {P : Program} {w : World} {K : PySem.W.Frag} {mg : Str → Option Value} {base : Heap}
theorem sx_BadPicture : FnScope ["self", "index", "what"] ["self", "index", "what"] (defScope i_BadPicture) := ⟨rfl, rfl, rfl, by decide +kernel, rfl, by decide +kernel, by decide +kernel⟩
theorem x_BadPicture (Q : Fx K mg) : ExF K "BadPicture" ["index", "what"] := Q.xl ("BadPicture", ["index", "what"]) (by simp [XL])
theorem ok_BadPicture (Q : Fx K mg) : ∃ fd, FnOk P w K mg base (L2.CX P w) 1 (He.ma K (He.ga K "BadPicture") "__init__") fd ["self", "index", "what"] (spIni (He.ga K "BadPicture") ["index", "what"]) ∧ Binds K fd ["self", "index", "what"] [] := by
  obtain ⟨fd, F⟩ := Q.d_BadPicture
  have X := x_BadPicture Q
  exact ⟨fd, ini2 F sx_BadPicture rfl rfl rfl (by decide) (by decide) (by decide) (by decide) X.oex (X.no _ (by decide)) (X.no _ (by decide)), F.bindsN fun _ _ _ _ _ _ us hl => match us, hl with | [_, _, _], _ => rfl⟩
theorem sx_BadCount : FnScope ["self", "what"] ["self", "what"] (defScope i_BadCount) := ⟨rfl, rfl, rfl, by decide +kernel, rfl, by decide +kernel, by decide +kernel⟩
theorem x_BadCount (Q : Fx K mg) : ExF K "BadCount" ["what"] := Q.xl ("BadCount", ["what"]) (by simp [XL])
theorem ok_BadCount (Q : Fx K mg) : ∃ fd, FnOk P w K mg base (L2.CX P w) 1 (He.ma K (He.ga K "BadCount") "__init__") fd ["self", "what"] (spIni (He.ga K "BadCount") ["what"]) ∧ Binds K fd ["self", "what"] [] := by
  obtain ⟨fd, F⟩ := Q.d_BadCount
  have X := x_BadCount Q
  exact ⟨fd, ini1 F sx_BadCount rfl rfl (by decide) (by decide) X.oex (X.no _ (by decide)), F.bindsN fun _ _ _ _ _ _ us hl => match us, hl with | [_, _], _ => rfl⟩
theorem sx_TooMany : FnScope ["self", "most"] ["self", "most"] (defScope i_TooMany) := ⟨rfl, rfl, rfl, by decide +kernel, rfl, by decide +kernel, by decide +kernel⟩
theorem x_TooMany (Q : Fx K mg) : ExF K "TooMany" ["most"] := Q.xl ("TooMany", ["most"]) (by simp [XL])
theorem ok_TooMany (Q : Fx K mg) : ∃ fd, FnOk P w K mg base (L2.CX P w) 1 (He.ma K (He.ga K "TooMany") "__init__") fd ["self", "most"] (spIni (He.ga K "TooMany") ["most"]) ∧ Binds K fd ["self", "most"] [] := by
  obtain ⟨fd, F⟩ := Q.d_TooMany
  have X := x_TooMany Q
  exact ⟨fd, ini1 F sx_TooMany rfl rfl (by decide) (by decide) X.oex (X.no _ (by decide)), F.bindsN fun _ _ _ _ _ _ us hl => match us, hl with | [_, _], _ => rfl⟩
theorem sx_BadShown : FnScope ["self", "shown"] ["self", "shown"] (defScope i_BadShown) := ⟨rfl, rfl, rfl, by decide +kernel, rfl, by decide +kernel, by decide +kernel⟩
theorem x_BadShown (Q : Fx K mg) : ExF K "BadShown" ["shown"] := Q.xl ("BadShown", ["shown"]) (by simp [XL])
theorem ok_BadShown (Q : Fx K mg) : ∃ fd, FnOk P w K mg base (L2.CX P w) 1 (He.ma K (He.ga K "BadShown") "__init__") fd ["self", "shown"] (spIni (He.ga K "BadShown") ["shown"]) ∧ Binds K fd ["self", "shown"] [] := by
  obtain ⟨fd, F⟩ := Q.d_BadShown
  have X := x_BadShown Q
  exact ⟨fd, ini1 F sx_BadShown rfl rfl (by decide) (by decide) X.oex (X.no _ (by decide)), F.bindsN fun _ _ _ _ _ _ us hl => match us, hl with | [_, _], _ => rfl⟩
theorem sc__law_mixed : FnScope ["_law_number", "_law_turn", "_law_once", "_law_twice"] ["_law_number", "_law_turn"] (defScope s__law_mixed) := ⟨rfl, rfl, rfl, by decide +kernel, rfl, by decide +kernel, by decide +kernel⟩
theorem ok__law_mixed (Q : Fx K mg) : ∃ fd, FunD K "_law_mixed" "_law_mixed" (defArgs s__law_mixed) (defBody s__law_mixed) (defScope s__law_mixed) [] [] (He.ga K "_law_mixed") fd ∧ FnOk P w K mg base (L2.CX P w) 1 (He.ga K "_law_mixed") fd ["_law_number", "_law_turn"] (spV (cn mg K) [false, false] f__law_mixed) ∧ Bd K fd ["_law_number", "_law_turn"] [] ∧ True := by
  obtain ⟨fd, F⟩ := Q.d__law_mixed
  refine ⟨fd, F, funV F sc__law_mixed [false, false] m__law_mixed rfl (by decide) fun cdv A outer s H E hr => ?_, ⟨⟨[], .nil, F.bindsN fun _ _ _ _ _ _ us hl => match us, hl with | [_, _], _ => rfl⟩⟩, True.intro⟩
  exact (vss_cons (vs_set sc__law_mixed.nd (i := 2) rfl (by first | exact Or.inl rfl | exact Or.inr rfl) (by decide) (w_mod (w_int rfl Q.n_int (va_c (w_add (w_add (w_mul (w_var 0) v_int) (w_mul (w_var 1) v_int)) v_int) va_nil)) v_int))
  (vss_cons (vs_set sc__law_mixed.nd (i := 3) rfl (by first | exact Or.inl rfl | exact Or.inr rfl) (by decide) (w_mod (w_int rfl Q.n_int (va_c (w_add (w_add (w_mul (w_var 2) (w_var 2)) (w_mul (w_var 1) v_int)) (w_div (w_var 2) v_int)) va_nil)) v_int))
  (vss_one (vs_ret (w_div (w_int rfl Q.n_int (va_c (w_mod (w_int rfl Q.n_int (va_c (w_add (w_mul (w_var 3) v_int) (w_div (w_var 2) v_int)) va_nil)) v_int) va_nil)) v_int)))))
theorem sc__law_take : FnScope ["_law_hand_here", "_law_many", "_law_cell", "_law_rest"] ["_law_hand_here", "_law_many"] (defScope s__law_take) := ⟨rfl, rfl, rfl, by decide +kernel, rfl, by decide +kernel, by decide +kernel⟩
theorem ok__law_take (Q : Fx K mg) : ∃ fd, FunD K "_law_take" "_law_take" (defArgs s__law_take) (defBody s__law_take) (defScope s__law_take) [] [] (He.ga K "_law_take") fd ∧ FnOk P w K mg base (L2.CX P w) 2 (He.ga K "_law_take") fd ["_law_hand_here", "_law_many"] (spV (cn mg K) [true, false] f__law_take) ∧ Bd K fd ["_law_hand_here", "_law_many"] [] ∧ True := by
  obtain ⟨fd, F⟩ := Q.d__law_take
  obtain ⟨fd__law_mixed, F__law_mixed0, O__law_mixed, B__law_mixed_p2, _⟩ := ok__law_mixed (P := P) (w := w) (base := base) Q
  have F__law_mixed := F__law_mixed0
  refine ⟨fd, F, funV F sc__law_take [true, false] m__law_take rfl (by decide) fun cdv A outer s H E hr => ?_, ⟨⟨[], .nil, F.bindsN fun _ _ _ _ _ _ us hl => match us, hl with | [_, _], _ => rfl⟩⟩, True.intro⟩
  exact (vss_cons (vs_if (VW.vt (vw_and (t_eq hr (w_ix (w_var 0) v_int) v_int) (vw_and1 (t_lt (w_ix (w_var 0) v_int) (w_len rfl rfl Q.n_len (va_c (w_ix (w_var 0) v_int) va_nil)))))) (vss_cons (vs_set sc__law_take.nd (i := 2) rfl (by first | exact Or.inl rfl | exact Or.inr rfl) (by decide) (w_ix (w_ix (w_var 0) v_int) (w_ix (w_var 0) v_int)))
  (vss_cons (vs_setI (i := 0) rfl (by first | exact Or.inl rfl | exact Or.inr (Or.inl rfl) | exact Or.inr (Or.inr rfl)) v_int (w_add (w_ix (w_var 0) v_int) v_int))
  (vss_cons (vs_if (t_lt (w_var 2) (w_pow v_int v_int)) (vss_one (vs_ret (w_mod (w_int rfl Q.n_int (va_c (w_call (dd := []) tk_def hr O__law_mixed B__law_mixed_p2 Q.g__law_mixed F__law_mixed.kp (va_c (w_mod (w_int rfl Q.n_int (va_c (w_var 2) va_nil)) v_int) (va_c (w_ix (w_var 0) v_int) va_nil))) va_nil)) (w_var 1)))) vss_nil)
  (vss_one (vs_setI (i := 0) rfl (by first | exact Or.inl rfl | exact Or.inr (Or.inl rfl) | exact Or.inr (Or.inr rfl)) v_int (w_var 2)))))) vss_nil)
  (vss_cons (vs_if (t_gt (w_ix (w_var 0) v_int) v_int) (vss_cons (vs_set sc__law_take.nd (i := 3) rfl (by first | exact Or.inl rfl | exact Or.inr rfl) (by decide) (w_ix (w_var 0) v_int))
  (vss_cons (vs_setI (i := 0) rfl (by first | exact Or.inl rfl | exact Or.inr (Or.inl rfl) | exact Or.inr (Or.inr rfl)) v_int (w_div (w_int rfl Q.n_int (va_c (w_var 3) va_nil)) (w_var 1)))
  (vss_one (vs_ret (w_mod (w_int rfl Q.n_int (va_c (w_var 3) va_nil)) (w_var 1)))))) vss_nil)
  (vss_cons (vs_setI (i := 0) rfl (by first | exact Or.inl rfl | exact Or.inr (Or.inl rfl) | exact Or.inr (Or.inr rfl)) v_int (w_mod (w_int rfl Q.n_int (va_c (w_add (w_ix (w_var 0) v_int) v_int) va_nil)) v_int))
  (vss_one (vs_ret (w_mod (w_int rfl Q.n_int (va_c (w_call (dd := []) tk_def hr O__law_mixed B__law_mixed_p2 Q.g__law_mixed F__law_mixed.kp (va_c (w_ix (w_var 0) v_int) (va_c (w_ix (w_var 0) v_int) va_nil))) va_nil)) (w_var 1)))))))
theorem sc__law_pick : FnScope ["_law_hand_here", "_law_things"] ["_law_hand_here", "_law_things"] (defScope s__law_pick) := ⟨rfl, rfl, rfl, by decide +kernel, rfl, by decide +kernel, by decide +kernel⟩
theorem ok__law_pick (Q : Fx K mg) : ∃ fd, FunD K "_law_pick" "_law_pick" (defArgs s__law_pick) (defBody s__law_pick) (defScope s__law_pick) [] [] (He.ga K "_law_pick") fd ∧ FnOk P w K mg base (L2.CX P w) 3 (He.ga K "_law_pick") fd ["_law_hand_here", "_law_things"] (spV (cn mg K) [true, false] f__law_pick) ∧ Bd K fd ["_law_hand_here", "_law_things"] [] ∧ True := by
  obtain ⟨fd, F⟩ := Q.d__law_pick
  obtain ⟨fd__law_take, F__law_take0, O__law_take, B__law_take_p2, _⟩ := ok__law_take (P := P) (w := w) (base := base) Q
  have F__law_take := F__law_take0
  refine ⟨fd, F, funV F sc__law_pick [true, false] m__law_pick rfl (by decide) fun cdv A outer s H E hr => ?_, ⟨⟨[], .nil, F.bindsN fun _ _ _ _ _ _ us hl => match us, hl with | [_, _], _ => rfl⟩⟩, True.intro⟩
  exact (vss_one (vs_ret (w_ix (w_var 1) (w_call (dd := []) tk_def hr O__law_take B__law_take_p2 Q.g__law_take F__law_take.kp (va_c (w_var 0) (va_c (w_len rfl rfl Q.n_len (va_c (w_var 1) va_nil)) va_nil))))))
theorem sc_is_whole : FnScope ["thing", "low", "high"] ["thing", "low", "high"] (defScope s_is_whole) := ⟨rfl, rfl, rfl, by decide +kernel, rfl, by decide +kernel, by decide +kernel⟩
theorem ok_is_whole (Q : Fx K mg) : ∃ fd, FunD K "is_whole" "is_whole" (defArgs s_is_whole) (defBody s_is_whole) (defScope s_is_whole) [.non, .non] [] (He.ga K "is_whole") fd ∧ FnOk P w K mg base (L2.CX P w) 1 (He.ga K "is_whole") fd ["thing", "low", "high"] (spV (cn mg K) [false, false, false] f_is_whole) ∧ Bd K fd ["thing", "low", "high"] [] ∧ True := by
  obtain ⟨fd, F⟩ := Q.d_is_whole
  refine ⟨fd, F, funV F sc_is_whole [false, false, false] m_is_whole rfl (by decide) fun cdv A outer s H E hr => ?_, ⟨F.binds1 3 2 (fun h => by cases h) rfl fun _ _ _ _ _ _ _ us its h1 h2 => match us, its, h1, h2 with | [_, _, _], [_, _], _, _ => ⟨_, rfl, rfl⟩⟩, True.intro⟩
  exact (vss_cons (vs_if (VW.vt (vw_or (vt_not (vt_tru (v_isi1 rfl Q.n_isinstance (w_var 0) ⟨⟨rfl, Q.n_int, PyProof.Rows.boot_int, by decide, by decide⟩, True.intro⟩))) (vw_or1 (vt_tru (v_isi1 rfl Q.n_isinstance (w_var 0) ⟨⟨rfl, Q.n_bool, PyProof.Rows.boot_bool, by decide, by decide⟩, True.intro⟩))))) (vss_one (vs_ret v_bl)) vss_nil)
  (vss_cons (vs_if (VW.vt (vw_and (vt_notN (w_var 1)) (vw_and1 (t_lt (w_var 0) (w_var 1))))) (vss_one (vs_ret v_bl)) vss_nil)
  (vss_one (vs_ret (v_or (v_isN (w_var 2)) (v_one (w_le (w_var 0) (w_var 2))))))))
theorem sc__check_cells : FnScope ["colours", "index", "colour"] ["colours"] (defScope s__check_cells) := ⟨rfl, rfl, rfl, by decide +kernel, rfl, by decide +kernel, by decide +kernel⟩
theorem ok__check_cells (Q : Fx K mg) : ∃ fd, FunD K "_check_cells" "_check_cells" (defArgs s__check_cells) (defBody s__check_cells) (defScope s__check_cells) [] [] (He.ga K "_check_cells") fd ∧ FnOk P w K mg base (L2.CX P w) 3 (He.ga K "_check_cells") fd ["colours"] (spV (cn mg K) [true] f__check_cells) ∧ Bd K fd ["colours"] [] ∧ True := by
  obtain ⟨fd, F⟩ := Q.d__check_cells
  obtain ⟨fd_is_whole, F_is_whole0, O_is_whole, B_is_whole_p3, _⟩ := ok_is_whole (P := P) (w := w) (base := base) Q
  have F_is_whole := F_is_whole0
  obtain ⟨fx_BadPicture, O_BadPicture, B_BadPicture⟩ := ok_BadPicture (P := P) (w := w) (base := base) Q
  have X_BadPicture := x_BadPicture Q
  refine ⟨fd, F, funV F sc__check_cells [true] m__check_cells rfl (by decide) fun cdv A outer s H E hr => ?_, ⟨⟨[], .nil, F.bindsN fun _ _ _ _ _ _ us hl => match us, hl with | [_], _ => rfl⟩⟩, True.intro⟩
  exact (vss_cons (vs_if (VW.vt (vw_or (vt_not (vt_tru (v_isiT rfl Q.n_isinstance (w_var 0) ⟨⟨rfl, Q.n_list, PyProof.Rows.boot_list, by decide, by decide⟩, ⟨⟨rfl, Q.n_tuple, PyProof.Rows.boot_tuple, by decide, by decide⟩, True.intro⟩⟩))) (vw_or1 (vt_not (vt_chain op_le r_le op_le r_le v_int (w_len rfl rfl Q.n_len (va_c (w_var 0) va_nil)) (v_gint rfl Q.i_MOST_CELLS.choose_spec)))))) (vss_one (vs_raise rfl tk_def X_BadPicture.oex X_BadPicture.ini X_BadPicture.tyI O_BadPicture (hr.mono (by first | decide | omega)) B_BadPicture rfl Q.g_BadPicture rfl (by decide) (va_c v_int (va_c v_str va_nil)))) vss_nil)
  (vss_one (vs_forEK (i := 0) ps_def rfl rfl rfl Q.n_enumerate rfl (by first | exact Or.inl rfl | exact Or.inr (Or.inl rfl) | exact Or.inr (Or.inr rfl)) (by decide) (vg_tp rfl (vgs_cons (vg_nm sc__check_cells.nd (i := 1) rfl (by first | exact Or.inl rfl | exact Or.inr rfl) (by decide)) (vgs_cons (vg_nm sc__check_cells.nd (i := 2) rfl (by first | exact Or.inl rfl | exact Or.inr rfl) (by decide)) vgs_nil))) (vss_one (vs_if (vt_not (vt_tru (w_call (dd := []) tk_def hr O_is_whole B_is_whole_p3 Q.g_is_whole F_is_whole.kp (va_c (w_var 2) (va_c v_int (va_c (v_gint rfl Q.i_MOST_COLOUR.choose_spec) va_nil)))))) (vss_one (vs_raise rfl tk_def X_BadPicture.oex X_BadPicture.ini X_BadPicture.tyI O_BadPicture (hr.mono (by first | decide | omega)) B_BadPicture rfl Q.g_BadPicture rfl (by decide) (va_c (w_var 1) (va_c v_str va_nil)))) vss_nil)))))
theorem sc__check_marks : FnScope ["marks", "many", "index", "cell"] ["marks", "many"] (defScope s__check_marks) := ⟨rfl, rfl, rfl, by decide +kernel, rfl, by decide +kernel, by decide +kernel⟩
theorem ok__check_marks (Q : Fx K mg) : ∃ fd, FunD K "_check_marks" "_check_marks" (defArgs s__check_marks) (defBody s__check_marks) (defScope s__check_marks) [] [] (He.ga K "_check_marks") fd ∧ FnOk P w K mg base (L2.CX P w) 3 (He.ga K "_check_marks") fd ["marks", "many"] (spV (cn mg K) [false, false] f__check_marks) ∧ Bd K fd ["marks", "many"] [] ∧ True := by
  obtain ⟨fd, F⟩ := Q.d__check_marks
  obtain ⟨fd_is_whole, F_is_whole0, O_is_whole, B_is_whole_p3, _⟩ := ok_is_whole (P := P) (w := w) (base := base) Q
  have F_is_whole := F_is_whole0
  obtain ⟨fx_BadPicture, O_BadPicture, B_BadPicture⟩ := ok_BadPicture (P := P) (w := w) (base := base) Q
  have X_BadPicture := x_BadPicture Q
  refine ⟨fd, F, funV F sc__check_marks [false, false] m__check_marks rfl (by decide) fun cdv A outer s H E hr => ?_, ⟨⟨[], .nil, F.bindsN fun _ _ _ _ _ _ us hl => match us, hl with | [_, _], _ => rfl⟩⟩, True.intro⟩
  exact (vss_cons (vs_if (VW.vt (vw_or (vt_not (vt_tru (v_isiT rfl Q.n_isinstance (w_var 0) ⟨⟨rfl, Q.n_list, PyProof.Rows.boot_list, by decide, by decide⟩, ⟨⟨rfl, Q.n_tuple, PyProof.Rows.boot_tuple, by decide, by decide⟩, True.intro⟩⟩))) (vw_or1 (vt_not (vt_chain op_le r_le op_le r_le v_int (w_len rfl rfl Q.n_len (va_c (w_var 0) va_nil)) v_int))))) (vss_one (vs_raise rfl tk_def X_BadPicture.oex X_BadPicture.ini X_BadPicture.tyI O_BadPicture (hr.mono (by first | decide | omega)) B_BadPicture rfl Q.g_BadPicture rfl (by decide) (va_c v_int (va_c v_str va_nil)))) vss_nil)
  (vss_one (vs_for ps_def rfl (vi_enum rfl rfl Q.n_enumerate (va_c (w_var 0) va_nil)) (vg_tp rfl (vgs_cons (vg_nm sc__check_marks.nd (i := 2) rfl (by first | exact Or.inl rfl | exact Or.inr rfl) (by decide)) (vgs_cons (vg_nm sc__check_marks.nd (i := 3) rfl (by first | exact Or.inl rfl | exact Or.inr rfl) (by decide)) vgs_nil))) (vss_one (vs_if (VW.vt (vw_or (vt_not (vt_tru (w_call (dd := []) tk_def hr O_is_whole B_is_whole_p3 Q.g_is_whole F_is_whole.kp (va_c (w_var 3) (va_c v_int (va_c (w_sub (w_var 1) v_int) va_nil)))))) (vw_or1 (t_in (w_var 3) (v_sl (w_var 0) vo_none (vo_some (w_var 2))))))) (vss_one (vs_raise rfl tk_def X_BadPicture.oex X_BadPicture.ini X_BadPicture.tyI O_BadPicture (hr.mono (by first | decide | omega)) B_BadPicture rfl Q.g_BadPicture rfl (by decide) (va_c (w_var 2) (va_c v_str va_nil)))) vss_nil)))))
theorem sc__check_ties : FnScope ["ties", "many", "index", "tie"] ["ties", "many"] (defScope s__check_ties) := ⟨rfl, rfl, rfl, by decide +kernel, rfl, by decide +kernel, by decide +kernel⟩
theorem ok__check_ties (Q : Fx K mg) : ∃ fd, FunD K "_check_ties" "_check_ties" (defArgs s__check_ties) (defBody s__check_ties) (defScope s__check_ties) [] [] (He.ga K "_check_ties") fd ∧ FnOk P w K mg base (L2.CX P w) 3 (He.ga K "_check_ties") fd ["ties", "many"] (spV (cn mg K) [false, false] f__check_ties) ∧ Bd K fd ["ties", "many"] [] ∧ True := by
  obtain ⟨fd, F⟩ := Q.d__check_ties
  obtain ⟨fd_is_whole, F_is_whole0, O_is_whole, B_is_whole_p3, _⟩ := ok_is_whole (P := P) (w := w) (base := base) Q
  have F_is_whole := F_is_whole0
  obtain ⟨fx_BadPicture, O_BadPicture, B_BadPicture⟩ := ok_BadPicture (P := P) (w := w) (base := base) Q
  have X_BadPicture := x_BadPicture Q
  refine ⟨fd, F, funV F sc__check_ties [false, false] m__check_ties rfl (by decide) fun cdv A outer s H E hr => ?_, ⟨⟨[], .nil, F.bindsN fun _ _ _ _ _ _ us hl => match us, hl with | [_, _], _ => rfl⟩⟩, True.intro⟩
  exact (vss_cons (vs_if (VW.vt (vw_or (vt_not (vt_tru (v_isiT rfl Q.n_isinstance (w_var 0) ⟨⟨rfl, Q.n_list, PyProof.Rows.boot_list, by decide, by decide⟩, ⟨⟨rfl, Q.n_tuple, PyProof.Rows.boot_tuple, by decide, by decide⟩, True.intro⟩⟩))) (vw_or1 (t_gt (w_len rfl rfl Q.n_len (va_c (w_var 0) va_nil)) (v_gint rfl Q.i_MOST_TIES.choose_spec))))) (vss_one (vs_raise rfl tk_def X_BadPicture.oex X_BadPicture.ini X_BadPicture.tyI O_BadPicture (hr.mono (by first | decide | omega)) B_BadPicture rfl Q.g_BadPicture rfl (by decide) (va_c v_int (va_c v_str va_nil)))) vss_nil)
  (vss_one (vs_for ps_def rfl (vi_enum rfl rfl Q.n_enumerate (va_c (w_var 0) va_nil)) (vg_tp rfl (vgs_cons (vg_nm sc__check_ties.nd (i := 2) rfl (by first | exact Or.inl rfl | exact Or.inr rfl) (by decide)) (vgs_cons (vg_nm sc__check_ties.nd (i := 3) rfl (by first | exact Or.inl rfl | exact Or.inr rfl) (by decide)) vgs_nil))) (vss_cons (vs_if (VW.vt (vw_or (vt_not (vt_tru (v_isiT rfl Q.n_isinstance (w_var 3) ⟨⟨rfl, Q.n_list, PyProof.Rows.boot_list, by decide, by decide⟩, ⟨⟨rfl, Q.n_tuple, PyProof.Rows.boot_tuple, by decide, by decide⟩, True.intro⟩⟩))) (vw_or1 (t_ne hr (w_len rfl rfl Q.n_len (va_c (w_var 3) va_nil)) v_int)))) (vss_one (vs_raise rfl tk_def X_BadPicture.oex X_BadPicture.ini X_BadPicture.tyI O_BadPicture (hr.mono (by first | decide | omega)) B_BadPicture rfl Q.g_BadPicture rfl (by decide) (va_c (w_var 2) (va_c v_str va_nil)))) vss_nil)
  (vss_one (vs_if (VW.vt (vw_or (vt_not (vt_tru (w_call (dd := []) tk_def hr O_is_whole B_is_whole_p3 Q.g_is_whole F_is_whole.kp (va_c (w_ix (w_var 3) v_int) (va_c v_int (va_c (w_sub (w_var 1) v_int) va_nil)))))) (vw_or (vt_not (vt_tru (w_call (dd := []) tk_def hr O_is_whole B_is_whole_p3 Q.g_is_whole F_is_whole.kp (va_c (w_ix (w_var 3) v_int) (va_c v_int (va_c (w_sub (w_var 1) v_int) va_nil)))))) (vw_or1 (t_eq hr (w_ix (w_var 3) v_int) (w_ix (w_var 3) v_int)))))) (vss_one (vs_raise rfl tk_def X_BadPicture.oex X_BadPicture.ini X_BadPicture.tyI O_BadPicture (hr.mono (by first | decide | omega)) B_BadPicture rfl Q.g_BadPicture rfl (by decide) (va_c (w_var 2) (va_c v_str va_nil)))) vss_nil))))))
theorem sc_Picture_I : FnScope ["self", "colours", "ties", "marks", "many", "pairs", "tie"] ["self", "colours", "ties", "marks"] (defScope s_Picture_I) := ⟨rfl, rfl, rfl, by decide +kernel, rfl, by decide +kernel, by decide +kernel⟩
theorem ok_Picture_I (Q : Fx K mg) : ∃ fd, FunD K "__init__" "Picture.__init__" (defArgs s_Picture_I) (defBody s_Picture_I) (defScope s_Picture_I) [] [] (He.ma K (He.ga K "Picture") "__init__") fd ∧ FnOk P w K mg base (L2.CX P w) 4 (He.ma K (He.ga K "Picture") "__init__") fd ["self", "colours", "ties", "marks"] (spV (cn mg K) [true, true, false, false] f_Picture_I) ∧ Binds K fd ["self", "colours", "ties", "marks"] [] ∧ True := by
  obtain ⟨fd, F⟩ := Q.d_Picture_I
  obtain ⟨fd__check_cells, F__check_cells0, O__check_cells, B__check_cells_p1, _⟩ := ok__check_cells (P := P) (w := w) (base := base) Q
  have F__check_cells := F__check_cells0
  obtain ⟨fd__check_marks, F__check_marks0, O__check_marks, B__check_marks_p2, _⟩ := ok__check_marks (P := P) (w := w) (base := base) Q
  have F__check_marks := F__check_marks0
  obtain ⟨fd__check_ties, F__check_ties0, O__check_ties, B__check_ties_p2, _⟩ := ok__check_ties (P := P) (w := w) (base := base) Q
  have F__check_ties := F__check_ties0
  refine ⟨fd, F, funV F sc_Picture_I [true, true, false, false] m_Picture_I rfl (by decide) fun cdv A outer s H E hr => ?_, F.bindsN fun _ _ _ _ _ _ us hl => match us, hl with | [_, _, _, _], _ => rfl, True.intro⟩
  exact (vss_cons (vs_expr (w_call (dd := []) tk_def hr O__check_cells B__check_cells_p1 Q.g__check_cells F__check_cells.kp (va_c (w_var 1) va_nil)))
  (vss_cons (vs_set sc_Picture_I.nd (i := 4) rfl (by first | exact Or.inl rfl | exact Or.inr rfl) (by decide) (w_len rfl rfl Q.n_len (va_c (w_var 1) va_nil)))
  (vss_cons (vs_expr (w_call (dd := []) tk_def hr O__check_ties B__check_ties_p2 Q.g__check_ties F__check_ties.kp (va_c (w_var 2) (va_c (w_var 4) va_nil))))
  (vss_cons (vs_expr (w_call (dd := []) tk_def hr O__check_marks B__check_marks_p2 Q.g__check_marks F__check_marks.kp (va_c (w_var 3) (va_c (w_var 4) va_nil))))
  (vss_cons (vs_setDc (own := [("tie", 6)]) (Nat.lt_of_le_of_lt (Nat.le_add_right _ 64) hr.units) rfl sc_Picture_I.nd (i := 5) rfl rfl (by decide) rfl (vi_seq rfl (w_var 2)) (blk_ok (by kernel_rfl)) (fun _ _ _ _ _ => (vg_nm sc_Picture_I.nd (i := 6) rfl (by first | exact Or.inl rfl | exact Or.inr rfl) (butP_no rfl))) (fun _ _ _ _ _ => vts_nil) (fun _ _ _ _ _ => (v_tup (va_c (w_min rfl rfl Q.n_min (va_c (w_ix (w_var 6) v_int) (va_c (w_ix (w_var 6) v_int) va_nil))) (va_c (w_max rfl rfl Q.n_max (va_c (w_ix (w_var 6) v_int) (va_c (w_ix (w_var 6) v_int) va_nil))) va_nil)))) (fun _ _ _ _ _ => v_bl))
  (vss_cons (vs_setF (i := 0) rfl (by first | exact Or.inl rfl | exact Or.inr (Or.inl rfl) | exact Or.inr (Or.inr rfl)) (fld_of Q.own_Picture Q.g_Picture (by decide)) (w_tuple rfl Q.n_tuple (va_c (w_var 1) va_nil)))
  (vss_cons (vs_setF (i := 0) rfl (by first | exact Or.inl rfl | exact Or.inr (Or.inl rfl) | exact Or.inr (Or.inr rfl)) (fld_of Q.own_Picture Q.g_Picture (by decide)) (w_tuple rfl Q.n_tuple (va_c (w_skeys rfl rfl Q.n_sorted (w_var 5)) va_nil)))
  (vss_one (vs_setF (i := 0) rfl (by first | exact Or.inl rfl | exact Or.inr (Or.inl rfl) | exact Or.inr (Or.inr rfl)) (fld_of Q.own_Picture Q.g_Picture (by decide)) (w_tuple rfl Q.n_tuple (va_c (w_var 3) va_nil)))))))))))
theorem sc_check_tree : FnScope ["colours", "pours", "first", "total", "wide", "k"] ["colours", "pours", "first"] (defScope s_check_tree) := ⟨rfl, rfl, rfl, by decide +kernel, rfl, by decide +kernel, by decide +kernel⟩
theorem ok_check_tree (Q : Fx K mg) : ∃ fd, FunD K "check_tree" "check_tree" (defArgs s_check_tree) (defBody s_check_tree) (defScope s_check_tree) [] [] (He.ga K "check_tree") fd ∧ FnOk P w K mg base (L2.CX P w) 3 (He.ga K "check_tree") fd ["colours", "pours", "first"] (spV (cn mg K) [false, false, false] f_check_tree) ∧ Bd K fd ["colours", "pours", "first"] [] ∧ True := by
  obtain ⟨fd, F⟩ := Q.d_check_tree
  obtain ⟨fd_is_whole, F_is_whole0, O_is_whole, B_is_whole_p3, _⟩ := ok_is_whole (P := P) (w := w) (base := base) Q
  have F_is_whole := F_is_whole0
  obtain ⟨fx_BadCount, O_BadCount, B_BadCount⟩ := ok_BadCount (P := P) (w := w) (base := base) Q
  have X_BadCount := x_BadCount Q
  obtain ⟨fx_TooMany, O_TooMany, B_TooMany⟩ := ok_TooMany (P := P) (w := w) (base := base) Q
  have X_TooMany := x_TooMany Q
  refine ⟨fd, F, funV F sc_check_tree [false, false, false] m_check_tree rfl (by decide) fun cdv A outer s H E hr => ?_, ⟨⟨[], .nil, F.bindsN fun _ _ _ _ _ _ us hl => match us, hl with | [_, _, _], _ => rfl⟩⟩, True.intro⟩
  exact (vss_cons (vs_if (vt_not (vt_tru (w_call (dd := []) tk_def hr O_is_whole B_is_whole_p3 Q.g_is_whole F_is_whole.kp (va_c (w_var 0) (va_c v_int (va_c (v_gint rfl Q.i_MOST_TONES.choose_spec) va_nil)))))) (vss_one (vs_raise rfl tk_def X_BadCount.oex X_BadCount.ini X_BadCount.tyI O_BadCount (hr.mono (by first | decide | omega)) B_BadCount rfl Q.g_BadCount rfl (by decide) (va_c v_str va_nil))) vss_nil)
  (vss_cons (vs_if (vt_not (vt_tru (w_call (dd := []) tk_def hr O_is_whole B_is_whole_p3 Q.g_is_whole F_is_whole.kp (va_c (w_var 1) (va_c v_int (va_c (v_gint rfl Q.i_MOST_STEPS.choose_spec) va_nil)))))) (vss_one (vs_raise rfl tk_def X_BadCount.oex X_BadCount.ini X_BadCount.tyI O_BadCount (hr.mono (by first | decide | omega)) B_BadCount rfl Q.g_BadCount rfl (by decide) (va_c v_str va_nil))) vss_nil)
  (vss_cons (vs_if (vt_not (vt_tru (w_call (dd := []) tk_def hr O_is_whole B_is_whole_p3 Q.g_is_whole F_is_whole.kp (va_c (w_var 2) (va_c v_int (va_c (w_sub (w_var 0) v_int) va_nil)))))) (vss_one (vs_raise rfl tk_def X_BadCount.oex X_BadCount.ini X_BadCount.tyI O_BadCount (hr.mono (by first | decide | omega)) B_BadCount rfl Q.g_BadCount rfl (by decide) (va_c v_str va_nil))) vss_nil)
  (vss_cons (vs_set sc_check_tree.nd (i := 3) rfl (by first | exact Or.inl rfl | exact Or.inr rfl) (by decide) v_int)
  (vss_cons (vs_set sc_check_tree.nd (i := 4) rfl (by first | exact Or.inl rfl | exact Or.inr rfl) (by decide) v_int)
  (vss_one (vs_for ps_def rfl (vi_rng1 rfl Q.n_range (va_c (w_var 1) va_nil)) (vg_nm sc_check_tree.nd (i := 5) rfl (by first | exact Or.inl rfl | exact Or.inr rfl) (by decide)) (vss_cons (vs_aug sc_check_tree.nd (i := 3) rfl (by first | exact Or.inl rfl | exact Or.inr rfl) (by decide) (w_var 4) iop_add r_add)
  (vss_cons (vs_aug sc_check_tree.nd (i := 4) rfl (by first | exact Or.inl rfl | exact Or.inr rfl) (by decide) (w_sub (w_var 0) v_int) iop_mul r_mul)
  (vss_one (vs_if (t_gt (w_var 3) (v_gint rfl Q.i_MOST_TREE.choose_spec)) (vss_one (vs_raise rfl tk_def X_TooMany.oex X_TooMany.ini X_TooMany.tyI O_TooMany (hr.mono (by first | decide | omega)) B_TooMany rfl Q.g_TooMany rfl (by decide) (va_c (v_gint rfl Q.i_MOST_TREE.choose_spec) va_nil))) vss_nil)))))))))))
theorem sc_tree_colours : FnScope ["rows", "first", "row"] ["rows", "first"] (defScope s_tree_colours) := ⟨rfl, rfl, rfl, by decide +kernel, rfl, by decide +kernel, by decide +kernel⟩
theorem ok_tree_colours (Q : Fx K mg) : ∃ fd, FunD K "tree_colours" "tree_colours" (defArgs s_tree_colours) (defBody s_tree_colours) (defScope s_tree_colours) [] [] (He.ga K "tree_colours") fd ∧ FnOk P w K mg base (L2.CX P w) 1 (He.ga K "tree_colours") fd ["rows", "first"] (spV (cn mg K) [false, false] f_tree_colours) ∧ Bd K fd ["rows", "first"] [] ∧ True := by
  obtain ⟨fd, F⟩ := Q.d_tree_colours
  refine ⟨fd, F, funV F sc_tree_colours [false, false] m_tree_colours rfl (by decide) fun cdv A outer s H E hr => ?_, ⟨⟨[], .nil, F.bindsN fun _ _ _ _ _ _ us hl => match us, hl with | [_, _], _ => rfl⟩⟩, True.intro⟩
  exact (vss_one (vs_ret (v_lc (own := [("row", 2)]) rfl sc_tree_colours.nd (vi_seq rfl (w_var 0)) (blk_ok (by kernel_rfl)) (fun _ _ _ _ _ => (vg_nm sc_tree_colours.nd (i := 2) rfl (by first | exact Or.inl rfl | exact Or.inr rfl) (butP_no rfl))) (fun _ _ _ _ _ => vts_nil) (fun _ _ _ _ _ => (v_ifE (vt_tru (w_var 2)) (w_ix (w_var 2) (w_neg v_int)) (w_var 1))))))
theorem sc_other_tones : FnScope ["colours", "last", "tone"] ["colours", "last"] (defScope s_other_tones) := ⟨rfl, rfl, rfl, by decide +kernel, rfl, by decide +kernel, by decide +kernel⟩
theorem ok_other_tones (Q : Fx K mg) : ∃ fd, FunD K "other_tones" "other_tones" (defArgs s_other_tones) (defBody s_other_tones) (defScope s_other_tones) [] [] (He.ga K "other_tones") fd ∧ FnOk P w K mg base (L2.CX P w) 1 (He.ga K "other_tones") fd ["colours", "last"] (spV (cn mg K) [false, false] f_other_tones) ∧ Bd K fd ["colours", "last"] [] ∧ True := by
  obtain ⟨fd, F⟩ := Q.d_other_tones
  refine ⟨fd, F, funV F sc_other_tones [false, false] m_other_tones rfl (by decide) fun cdv A outer s H E hr => ?_, ⟨⟨[], .nil, F.bindsN fun _ _ _ _ _ _ us hl => match us, hl with | [_, _], _ => rfl⟩⟩, True.intro⟩
  exact (vss_one (vs_ret (w_tuple rfl Q.n_tuple (va_c (v_lc (own := [("tone", 2)]) rfl sc_other_tones.nd (vi_rng1 rfl Q.n_range (va_c (w_var 0) va_nil)) (blk_ok (by kernel_rfl)) (fun _ _ _ _ _ => (vg_nm sc_other_tones.nd (i := 2) rfl (by first | exact Or.inl rfl | exact Or.inr rfl) (butP_no rfl))) (fun _ _ _ _ _ => (vts_one (t_ne hr (w_var 2) (w_var 1)))) (fun _ _ _ _ _ => (w_var 2))) va_nil))))
theorem sc_tree_rows : FnScope ["colours", "pours", "first", "rows", "before", "begin", "k", "end", "place", "tone"] ["colours", "pours", "first"] (defScope s_tree_rows) := ⟨rfl, rfl, rfl, by decide +kernel, rfl, by decide +kernel, by decide +kernel⟩
theorem ok_tree_rows (Q : Fx K mg) : ∃ fd, FunD K "tree_rows" "tree_rows" (defArgs s_tree_rows) (defBody s_tree_rows) (defScope s_tree_rows) [] [] (He.ga K "tree_rows") fd ∧ FnOk P w K mg base (L2.CX P w) 2 (He.ga K "tree_rows") fd ["colours", "pours", "first"] (spV (cn mg K) [false, false, false] f_tree_rows) ∧ Bd K fd ["colours", "pours", "first"] [] ∧ True := by
  obtain ⟨fd, F⟩ := Q.d_tree_rows
  obtain ⟨fd_other_tones, F_other_tones0, O_other_tones, B_other_tones_p2, _⟩ := ok_other_tones (P := P) (w := w) (base := base) Q
  have F_other_tones := F_other_tones0
  refine ⟨fd, F, funV F sc_tree_rows [false, false, false] m_tree_rows rfl (by decide) fun cdv A outer s H E hr => ?_, ⟨⟨[], .nil, F.bindsN fun _ _ _ _ _ _ us hl => match us, hl with | [_, _, _], _ => rfl⟩⟩, True.intro⟩
  exact (vss_cons (vs_set sc_tree_rows.nd (i := 3) rfl (by first | exact Or.inl rfl | exact Or.inr rfl) (by decide) (v_lst (va_c (v_tup va_nil) va_nil)))
  (vss_cons (vs_set sc_tree_rows.nd (i := 4) rfl (by first | exact Or.inl rfl | exact Or.inr rfl) (by decide) (v_lst (va_c v_non va_nil)))
  (vss_cons (vs_set sc_tree_rows.nd (i := 5) rfl (by first | exact Or.inl rfl | exact Or.inr rfl) (by decide) v_int)
  (vss_cons (vs_for ps_def rfl (vi_rng1 rfl Q.n_range (va_c (w_sub (w_var 1) v_int) va_nil)) (vg_nm sc_tree_rows.nd (i := 6) rfl (by first | exact Or.inl rfl | exact Or.inr rfl) (by decide)) (vss_cons (vs_set sc_tree_rows.nd (i := 7) rfl (by first | exact Or.inl rfl | exact Or.inr rfl) (by decide) (w_len rfl rfl Q.n_len (va_c (w_var 3) va_nil)))
  (vss_cons (vs_for ps_def rfl (vi_rng2 rfl Q.n_range (va_c (w_var 5) (va_c (w_var 7) va_nil))) (vg_nm sc_tree_rows.nd (i := 8) rfl (by first | exact Or.inl rfl | exact Or.inr rfl) (by decide)) (vss_one (vs_for ps_def rfl (vi_seq rfl (w_call (dd := []) tk_def hr O_other_tones B_other_tones_p2 Q.g_other_tones F_other_tones.kp (va_c (w_var 0) (va_c (v_ifE (vt_tru (w_ix (w_var 3) (w_var 8))) (w_ix (w_ix (w_var 3) (w_var 8)) (w_neg v_int)) (w_var 2)) va_nil)))) (vg_nm sc_tree_rows.nd (i := 9) rfl (by first | exact Or.inl rfl | exact Or.inr rfl) (by decide)) (vss_cons (vs_expr (w_append 3 (va_c (w_add (w_ix (w_var 3) (w_var 8)) (v_tup (va_c (w_var 9) va_nil))) va_nil)))
  (vss_one (vs_expr (w_append 4 (va_c (w_var 8) va_nil))))))))
  (vss_one (vs_set sc_tree_rows.nd (i := 5) rfl (by first | exact Or.inl rfl | exact Or.inr rfl) (by decide) (w_var 7))))))
  (vss_one (vs_ret (v_tup (va_c (w_var 3) (va_c (w_var 4) va_nil)))))))))
theorem sc_telling_tree : FnScope ["colours", "pours", "first", "rows", "before", "ties", "cell"] ["colours", "pours", "first"] (defScope s_telling_tree) := ⟨rfl, rfl, rfl, by decide +kernel, rfl, by decide +kernel, by decide +kernel⟩
theorem ok_telling_tree (Q : Fx K mg) : ∃ fd, FunD K "telling_tree" "telling_tree" (defArgs s_telling_tree) (defBody s_telling_tree) (defScope s_telling_tree) [] [] (He.ga K "telling_tree") fd ∧ FnOk P w K mg base (L2.CX P w) 6 (He.ga K "telling_tree") fd ["colours", "pours", "first"] (spV (cn mg K) [false, false, false] f_telling_tree) ∧ Bd K fd ["colours", "pours", "first"] [] ∧ True := by
  obtain ⟨fd, F⟩ := Q.d_telling_tree
  obtain ⟨fd_Picture_I, F_Picture_I0, O_Picture_I, B_Picture_I, _⟩ := ok_Picture_I (P := P) (w := w) (base := base) Q
  have F_Picture_I := F_Picture_I0
  obtain ⟨fd_check_tree, F_check_tree0, O_check_tree, B_check_tree_p3, _⟩ := ok_check_tree (P := P) (w := w) (base := base) Q
  have F_check_tree := F_check_tree0
  obtain ⟨fd_tree_colours, F_tree_colours0, O_tree_colours, B_tree_colours_p2, _⟩ := ok_tree_colours (P := P) (w := w) (base := base) Q
  have F_tree_colours := F_tree_colours0
  obtain ⟨fd_tree_rows, F_tree_rows0, O_tree_rows, B_tree_rows_p3, _⟩ := ok_tree_rows (P := P) (w := w) (base := base) Q
  have F_tree_rows := F_tree_rows0
  refine ⟨fd, F, funV F sc_telling_tree [false, false, false] m_telling_tree rfl (by decide) fun cdv A outer s H E hr => ?_, ⟨⟨[], .nil, F.bindsN fun _ _ _ _ _ _ us hl => match us, hl with | [_, _, _], _ => rfl⟩⟩, True.intro⟩
  exact (vss_cons (vs_expr (w_call (dd := []) tk_def hr O_check_tree B_check_tree_p3 Q.g_check_tree F_check_tree.kp (va_c (w_var 0) (va_c (w_var 1) (va_c (w_var 2) va_nil)))))
  (vss_cons (vs_unp (is := [3, 4]) rfl (w_call (dd := []) tk_def hr O_tree_rows B_tree_rows_p3 Q.g_tree_rows F_tree_rows.kp (va_c (w_var 0) (va_c (w_var 1) (va_c (w_var 2) va_nil)))) (pgs_cons (pg_name sc_telling_tree.nd (i := 3) rfl (by first | exact Or.inl rfl | exact Or.inr rfl)) (pgs_cons (pg_name sc_telling_tree.nd (i := 4) rfl (by first | exact Or.inl rfl | exact Or.inr rfl)) pgs_nil)) (by decide))
  (vss_cons (by first | exact vs_setLc (own := [("cell", 6)]) rfl sc_telling_tree.nd (i := 5) rfl rfl (by decide) rfl (vi_rng2 rfl Q.n_range (va_c v_int (va_c (w_len rfl rfl Q.n_len (va_c (w_var 3) va_nil)) va_nil))) (blk_ok (by kernel_rfl)) (fun _ _ _ _ _ => (vg_nm sc_telling_tree.nd (i := 6) rfl (by first | exact Or.inl rfl | exact Or.inr rfl) (butP_no rfl))) (fun _ _ _ _ _ => vts_nil) (fun _ _ _ _ _ => (v_tup (va_c (w_ix (w_var 4) (w_var 6)) (va_c (w_var 6) va_nil)))) | exact vs_set sc_telling_tree.nd (i := 5) rfl (by first | exact Or.inl rfl | exact Or.inr rfl) (by decide) (v_lc (own := [("cell", 6)]) rfl sc_telling_tree.nd (vi_rng2 rfl Q.n_range (va_c v_int (va_c (w_len rfl rfl Q.n_len (va_c (w_var 3) va_nil)) va_nil))) (blk_ok (by kernel_rfl)) (fun _ _ _ _ _ => (vg_nm sc_telling_tree.nd (i := 6) rfl (by first | exact Or.inl rfl | exact Or.inr rfl) (butP_no rfl))) (fun _ _ _ _ _ => vts_nil) (fun _ _ _ _ _ => (v_tup (va_c (w_ix (w_var 4) (w_var 6)) (va_c (w_var 6) va_nil))))))
  (vss_one (vs_ret (v_makeL tk_def Q.own_Picture.mks O_Picture_I (hr.mono (by first | decide | omega)) rfl Q.g_Picture rfl B_Picture_I (va_c (w_call (dd := []) tk_def hr O_tree_colours B_tree_colours_p2 Q.g_tree_colours F_tree_colours.kp (va_c (w_var 3) (va_c (w_var 2) va_nil))) (va_c (w_var 5) (va_c (v_tup (va_c v_int va_nil)) va_nil)))))))))
theorem sc__law_great_tree : FnScope ["_law_hand_here", "_law_tones", "_law_pours", "_law_cells_here", "_law_first", "_law_tree"] ["_law_hand_here"] (defScope s__law_great_tree) := ⟨rfl, rfl, rfl, by decide +kernel, rfl, by decide +kernel, by decide +kernel⟩
theorem ok__law_great_tree (Q : Fx K mg) : ∃ fd, FunD K "_law_great_tree" "_law_great_tree" (defArgs s__law_great_tree) (defBody s__law_great_tree) (defScope s__law_great_tree) [] [] (He.ga K "_law_great_tree") fd ∧ FnOk P w K mg base (L2.CX P w) 7 (He.ga K "_law_great_tree") fd ["_law_hand_here"] (spV (cn mg K) [true] f__law_great_tree) ∧ Bd K fd ["_law_hand_here"] [] ∧ True := by
  obtain ⟨fd, F⟩ := Q.d__law_great_tree
  obtain ⟨fd__law_pick, F__law_pick0, O__law_pick, B__law_pick_p2, _⟩ := ok__law_pick (P := P) (w := w) (base := base) Q
  have F__law_pick := F__law_pick0
  obtain ⟨fd__law_take, F__law_take0, O__law_take, B__law_take_p2, _⟩ := ok__law_take (P := P) (w := w) (base := base) Q
  have F__law_take := F__law_take0
  obtain ⟨fd_telling_tree, F_telling_tree0, O_telling_tree, B_telling_tree_p3, _⟩ := ok_telling_tree (P := P) (w := w) (base := base) Q
  have F_telling_tree := F_telling_tree0
  refine ⟨fd, F, funV F sc__law_great_tree [true] m__law_great_tree rfl (by decide) fun cdv A outer s H E hr => ?_, ⟨⟨[], .nil, F.bindsN fun _ _ _ _ _ _ us hl => match us, hl with | [_], _ => rfl⟩⟩, True.intro⟩
  exact (vss_cons (vs_unp (is := [1, 2, 3]) rfl (w_call (dd := []) tk_def hr O__law_pick B__law_pick_p2 Q.g__law_pick F__law_pick.kp (va_c (w_var 0) (va_c (v_lst (va_c (v_tup (va_c v_int (va_c v_int (va_c v_int va_nil)))) (va_c (v_tup (va_c v_int (va_c v_int (va_c v_int va_nil)))) (va_c (v_tup (va_c v_int (va_c v_int (va_c v_int va_nil)))) (va_c (v_tup (va_c v_int (va_c v_int (va_c v_int va_nil)))) (va_c (v_tup (va_c v_int (va_c v_int (va_c v_int va_nil)))) va_nil)))))) va_nil))) (pgs_cons (pg_name sc__law_great_tree.nd (i := 1) rfl (by first | exact Or.inl rfl | exact Or.inr rfl)) (pgs_cons (pg_name sc__law_great_tree.nd (i := 2) rfl (by first | exact Or.inl rfl | exact Or.inr rfl)) (pgs_cons (pg_name sc__law_great_tree.nd (i := 3) rfl (by first | exact Or.inl rfl | exact Or.inr rfl)) pgs_nil))) (by decide))
  (vss_cons (vs_set sc__law_great_tree.nd (i := 4) rfl (by first | exact Or.inl rfl | exact Or.inr rfl) (by decide) (w_call (dd := []) tk_def hr O__law_take B__law_take_p2 Q.g__law_take F__law_take.kp (va_c (w_var 0) (va_c (w_var 1) va_nil))))
  (vss_cons (vs_set sc__law_great_tree.nd (i := 5) rfl (by first | exact Or.inl rfl | exact Or.inr rfl) (by decide) (w_call (dd := []) tk_def hr O_telling_tree B_telling_tree_p3 Q.g_telling_tree F_telling_tree.kp (va_c (w_var 1) (va_c (w_var 2) (va_c (w_var 4) va_nil)))))
  (vss_one (vs_ret (v_and (w_eq hr (w_len rfl rfl Q.n_len (va_c (v_fld (ok := [("Picture", "colours")]) (fld_of Q.own_Picture Q.g_Picture (by decide)) (w_var 5)) va_nil)) (w_var 3)) (v_and (w_eq hr (w_len rfl rfl Q.n_len (va_c (v_fld (ok := [("Picture", "ties")]) (fld_of Q.own_Picture Q.g_Picture (by decide)) (w_var 5)) va_nil)) (w_sub (w_var 3) v_int)) (v_one (w_eq hr (w_ix (w_ix (v_fld (ok := [("Picture", "ties")]) (fld_of Q.own_Picture Q.g_Picture (by decide)) (w_var 5)) (w_neg v_int)) v_int) (w_sub (w_var 3) v_int))))))))))
theorem sc__law_hand : FnScope ["_law_script", "_law_total_here", "_law_cells_here", "_law_cell"] ["_law_script"] (defScope s__law_hand) := ⟨rfl, rfl, rfl, by decide +kernel, rfl, by decide +kernel, by decide +kernel⟩
theorem ok__law_hand (Q : Fx K mg) : ∃ fd, FunD K "_law_hand" "_law_hand" (defArgs s__law_hand) (defBody s__law_hand) (defScope s__law_hand) [] [] (He.ga K "_law_hand") fd ∧ FnOk P w K mg base (L2.CX P w) 1 (He.ga K "_law_hand") fd ["_law_script"] (spV (cn mg K) [false] f__law_hand) ∧ Bd K fd ["_law_script"] [] ∧ True := by
  obtain ⟨fd, F⟩ := Q.d__law_hand
  refine ⟨fd, F, funV F sc__law_hand [false] m__law_hand rfl (by decide) fun cdv A outer s H E hr => ?_, ⟨⟨[], .nil, F.bindsN fun _ _ _ _ _ _ us hl => match us, hl with | [_], _ => rfl⟩⟩, True.intro⟩
  exact (vss_cons (vs_set sc__law_hand.nd (i := 1) rfl (by first | exact Or.inl rfl | exact Or.inr rfl) (by decide) (w_add (w_len rfl rfl Q.n_len (va_c (w_var 0) va_nil)) v_int))
  (vss_cons (vs_set sc__law_hand.nd (i := 2) rfl (by first | exact Or.inl rfl | exact Or.inr rfl) (by decide) (v_lst va_nil))
  (vss_cons (vs_for ps_def rfl (vi_seq rfl (w_var 0)) (vg_nm sc__law_hand.nd (i := 3) rfl (by first | exact Or.inl rfl | exact Or.inr rfl) (by decide)) (vss_cons (vs_set sc__law_hand.nd (i := 1) rfl (by first | exact Or.inl rfl | exact Or.inr rfl) (by decide) (w_mod (w_int rfl Q.n_int (va_c (w_add (w_mul (w_var 1) v_int) (w_int rfl Q.n_int (va_c (w_var 3) va_nil))) va_nil)) v_int))
  (vss_one (vs_expr (w_append 2 (va_c (w_abs rfl Q.n_abs (va_c (w_int rfl Q.n_int (va_c (w_var 3) va_nil)) va_nil)) va_nil))))))
  (vss_one (vs_ret (v_lst (va_c (w_var 2) (va_c v_int (va_c v_int (va_c (w_var 1) va_nil))))))))))
theorem sc_places_within : FnScope ["row", "within", "found", "place", "tone"] ["row", "within"] (defScope s_places_within) := ⟨rfl, rfl, rfl, by decide +kernel, rfl, by decide +kernel, by decide +kernel⟩
theorem ok_places_within (Q : Fx K mg) : ∃ fd, FunD K "places_within" "places_within" (defArgs s_places_within) (defBody s_places_within) (defScope s_places_within) [] [] (He.ga K "places_within") fd ∧ FnOk P w K mg base (L2.CX P w) 1 (He.ga K "places_within") fd ["row", "within"] (spV (cn mg K) [false, false] f_places_within) ∧ Bd K fd ["row", "within"] [] ∧ True := by
  obtain ⟨fd, F⟩ := Q.d_places_within
  refine ⟨fd, F, funV F sc_places_within [false, false] m_places_within rfl (by decide) fun cdv A outer s H E hr => ?_, ⟨⟨[], .nil, F.bindsN fun _ _ _ _ _ _ us hl => match us, hl with | [_, _], _ => rfl⟩⟩, True.intro⟩
  exact (vss_cons (vs_set sc_places_within.nd (i := 2) rfl (by first | exact Or.inl rfl | exact Or.inr rfl) (by decide) (v_lst va_nil))
  (vss_cons (vs_set sc_places_within.nd (i := 3) rfl (by first | exact Or.inl rfl | exact Or.inr rfl) (by decide) v_int)
  (vss_cons (vs_for ps_def rfl (vi_seq rfl (w_var 0)) (vg_nm sc_places_within.nd (i := 4) rfl (by first | exact Or.inl rfl | exact Or.inr rfl) (by decide)) (vss_cons (vs_while 100000 ps_def (VW.vt (vw_and (t_lt (w_var 3) (w_len rfl rfl Q.n_len (va_c (w_var 1) va_nil))) (vw_and1 (t_ne hr (w_ix (w_var 1) (w_var 3)) (w_var 4))))) (vss_one (vs_aug sc_places_within.nd (i := 3) rfl (by first | exact Or.inl rfl | exact Or.inr rfl) (by decide) v_int iop_add r_add)))
  (vss_cons (vs_if (t_eq hr (w_var 3) (w_len rfl rfl Q.n_len (va_c (w_var 1) va_nil))) (vss_one (vs_ret v_non)) vss_nil)
  (vss_cons (vs_expr (w_append 2 (va_c (w_var 3) va_nil)))
  (vss_one (vs_aug sc_places_within.nd (i := 3) rfl (by first | exact Or.inl rfl | exact Or.inr rfl) (by decide) v_int iop_add r_add))))))
  (vss_one (vs_ret (w_tuple rfl Q.n_tuple (va_c (w_var 2) va_nil)))))))
theorem sc_row_of_tree : FnScope ["rows", "first", "shown", "end", "longest", "row", "tone"] ["rows", "first", "shown"] (defScope s_row_of_tree) := ⟨rfl, rfl, rfl, by decide +kernel, rfl, by decide +kernel, by decide +kernel⟩
theorem ok_row_of_tree (Q : Fx K mg) : ∃ fd, FunD K "row_of_tree" "row_of_tree" (defArgs s_row_of_tree) (defBody s_row_of_tree) (defScope s_row_of_tree) [] [] (He.ga K "row_of_tree") fd ∧ FnOk P w K mg base (L2.CX P w) 1 (He.ga K "row_of_tree") fd ["rows", "first", "shown"] (spV (cn mg K) [false, false, false] f_row_of_tree) ∧ Bd K fd ["rows", "first", "shown"] [] ∧ True := by
  obtain ⟨fd, F⟩ := Q.d_row_of_tree
  refine ⟨fd, F, funV F sc_row_of_tree [false, false, false] m_row_of_tree rfl (by decide) fun cdv A outer s H E hr => ?_, ⟨⟨[], .nil, F.bindsN fun _ _ _ _ _ _ us hl => match us, hl with | [_, _, _], _ => rfl⟩⟩, True.intro⟩
  exact (vss_cons (vs_set sc_row_of_tree.nd (i := 3) rfl (by first | exact Or.inl rfl | exact Or.inr rfl) (by decide) (w_ix (w_var 2) v_int))
  (vss_cons (vs_set sc_row_of_tree.nd (i := 4) rfl (by first | exact Or.inl rfl | exact Or.inr rfl) (by decide) (v_tup va_nil))
  (vss_cons (vs_for ps_def rfl (vi_zipB rfl rfl Q.n_zip (va_c (w_var 0) (va_c (w_var 2) va_nil))) (vg_tp rfl (vgs_cons (vg_nm sc_row_of_tree.nd (i := 5) rfl (by first | exact Or.inl rfl | exact Or.inr rfl) (by decide)) (vgs_cons (vg_nm sc_row_of_tree.nd (i := 6) rfl (by first | exact Or.inl rfl | exact Or.inr rfl) (by decide)) vgs_nil))) (vss_one (vs_if (VW.vt (vw_and (t_eq hr (w_var 6) (w_var 3)) (vw_and (vt_tru (w_var 5)) (vw_and (t_ne hr (w_ix (w_var 5) (w_neg v_int)) (w_var 3)) (vw_and1 (t_gt (w_len rfl rfl Q.n_len (va_c (w_var 5) va_nil)) (w_len rfl rfl Q.n_len (va_c (w_var 4) va_nil)))))))) (vss_one (vs_set sc_row_of_tree.nd (i := 4) rfl (by first | exact Or.inl rfl | exact Or.inr rfl) (by decide) (w_var 5))) vss_nil)))
  (vss_cons (vs_if (vt_tru (w_var 4)) (vss_one (vs_ret (w_add (w_var 4) (v_tup (va_c (w_var 3) va_nil))))) vss_nil)
  (vss_one (vs_ret (v_ifE (t_eq hr (w_var 3) (w_var 1)) (v_tup va_nil) (v_tup (va_c (w_var 3) va_nil)))))))))
theorem sc_told_row : FnScope ["colours", "pours", "first", "shown", "rows", "row", "here", "begin", "tone"] ["colours", "pours", "first", "shown"] (defScope s_told_row) := ⟨rfl, rfl, rfl, by decide +kernel, rfl, by decide +kernel, by decide +kernel⟩
theorem ok_told_row (Q : Fx K mg) : ∃ fd, FunD K "told_row" "told_row" (defArgs s_told_row) (defBody s_told_row) (defScope s_told_row) [] [] (He.ga K "told_row") fd ∧ FnOk P w K mg base (L2.CX P w) 4 (He.ga K "told_row") fd ["colours", "pours", "first", "shown"] (spV (cn mg K) [false, false, false, false] f_told_row) ∧ Bd K fd ["colours", "pours", "first", "shown"] [] ∧ True := by
  obtain ⟨fd, F⟩ := Q.d_told_row
  obtain ⟨fd_check_tree, F_check_tree0, O_check_tree, B_check_tree_p3, _⟩ := ok_check_tree (P := P) (w := w) (base := base) Q
  have F_check_tree := F_check_tree0
  obtain ⟨fd_is_whole, F_is_whole0, O_is_whole, B_is_whole_p3, _⟩ := ok_is_whole (P := P) (w := w) (base := base) Q
  have F_is_whole := F_is_whole0
  obtain ⟨fd_places_within, F_places_within0, O_places_within, B_places_within_p2, _⟩ := ok_places_within (P := P) (w := w) (base := base) Q
  have F_places_within := F_places_within0
  obtain ⟨fd_row_of_tree, F_row_of_tree0, O_row_of_tree, B_row_of_tree_p3, _⟩ := ok_row_of_tree (P := P) (w := w) (base := base) Q
  have F_row_of_tree := F_row_of_tree0
  obtain ⟨fd_tree_colours, F_tree_colours0, O_tree_colours, B_tree_colours_p2, _⟩ := ok_tree_colours (P := P) (w := w) (base := base) Q
  have F_tree_colours := F_tree_colours0
  obtain ⟨fd_tree_rows, F_tree_rows0, O_tree_rows, B_tree_rows_p3, _⟩ := ok_tree_rows (P := P) (w := w) (base := base) Q
  have F_tree_rows := F_tree_rows0
  obtain ⟨fx_BadShown, O_BadShown, B_BadShown⟩ := ok_BadShown (P := P) (w := w) (base := base) Q
  have X_BadShown := x_BadShown Q
  refine ⟨fd, F, funV F sc_told_row [false, false, false, false] m_told_row rfl (by decide) fun cdv A outer s H E hr => ?_, ⟨⟨[], .nil, F.bindsN fun _ _ _ _ _ _ us hl => match us, hl with | [_, _, _, _], _ => rfl⟩⟩, True.intro⟩
  exact (vss_cons (vs_expr (w_call (dd := []) tk_def hr O_check_tree B_check_tree_p3 Q.g_check_tree F_check_tree.kp (va_c (w_var 0) (va_c (w_var 1) (va_c (w_var 2) va_nil)))))
  (vss_cons (vs_set sc_told_row.nd (i := 4) rfl (by first | exact Or.inl rfl | exact Or.inr rfl) (by decide) (w_ix (w_call (dd := []) tk_def hr O_tree_rows B_tree_rows_p3 Q.g_tree_rows F_tree_rows.kp (va_c (w_var 0) (va_c (w_var 1) (va_c (w_var 2) va_nil)))) v_int))
  (vss_cons (vs_if (VW.vt (vw_or (vt_not (vt_tru (v_isiT rfl Q.n_isinstance (w_var 3) ⟨⟨rfl, Q.n_list, PyProof.Rows.boot_list, by decide, by decide⟩, ⟨⟨rfl, Q.n_tuple, PyProof.Rows.boot_tuple, by decide, by decide⟩, True.intro⟩⟩))) (vw_or1 (t_ne hr (w_len rfl rfl Q.n_len (va_c (w_var 3) va_nil)) (w_len rfl rfl Q.n_len (va_c (w_var 4) va_nil)))))) (vss_one (vs_raise rfl tk_def X_BadShown.oex X_BadShown.ini X_BadShown.tyI O_BadShown (hr.mono (by first | decide | omega)) B_BadShown rfl Q.g_BadShown rfl (by decide) (va_c (w_var 3) va_nil))) vss_nil)
  (vss_cons (vs_if (VW.vt (vw_or (vt_not (vt_tru (w_all rfl rfl Q.n_all (va_c (v_lc (own := [("tone", 8)]) rfl sc_told_row.nd (vi_seq rfl (w_var 3)) (blk_ok (by kernel_rfl)) (fun _ _ _ _ _ => (vg_nm sc_told_row.nd (i := 8) rfl (by first | exact Or.inl rfl | exact Or.inr rfl) (butP_no rfl))) (fun _ _ _ _ _ => vts_nil) (fun _ _ _ _ _ => (w_call (dd := []) takesF hr O_is_whole B_is_whole_p3 Q.g_is_whole F_is_whole.kp (va_c (w_var 8) (va_c v_int (va_c (v_gint rfl Q.i_MOST_COLOUR.choose_spec) va_nil)))))) va_nil)))) (vw_or1 (t_ge (w_ix (w_var 3) v_int) (w_var 0))))) (vss_one (vs_raise rfl tk_def X_BadShown.oex X_BadShown.ini X_BadShown.tyI O_BadShown (hr.mono (by first | decide | omega)) B_BadShown rfl Q.g_BadShown rfl (by decide) (va_c (w_var 3) va_nil))) vss_nil)
  (vss_cons (vs_set sc_told_row.nd (i := 5) rfl (by first | exact Or.inl rfl | exact Or.inr rfl) (by decide) (w_call (dd := []) tk_def hr O_row_of_tree B_row_of_tree_p3 Q.g_row_of_tree F_row_of_tree.kp (va_c (w_var 4) (va_c (w_var 2) (va_c (w_var 3) va_nil)))))
  (vss_cons (vs_for ps_def rfl (vi_zipC rfl rfl Q.n_zip (va_c (w_var 4) (va_c (w_call (dd := []) tk_def hr O_tree_colours B_tree_colours_p2 Q.g_tree_colours F_tree_colours.kp (va_c (w_var 4) (va_c (w_var 2) va_nil))) (va_c (w_var 3) va_nil)))) (vg_tp rfl (vgs_cons (vg_nm sc_told_row.nd (i := 6) rfl (by first | exact Or.inl rfl | exact Or.inr rfl) (by decide)) (vgs_cons (vg_nm sc_told_row.nd (i := 7) rfl (by first | exact Or.inl rfl | exact Or.inr rfl) (by decide)) (vgs_cons (vg_nm sc_told_row.nd (i := 8) rfl (by first | exact Or.inl rfl | exact Or.inr rfl) (by decide)) vgs_nil)))) (vss_one (vs_if (t_ne hr (w_var 8) (v_ifE (vt_notN (w_call (dd := []) tk_def hr O_places_within B_places_within_p2 Q.g_places_within F_places_within.kp (va_c (w_var 6) (va_c (w_var 5) va_nil)))) (w_ix (w_var 3) v_int) (w_var 7))) (vss_one (vs_raise rfl tk_def X_BadShown.oex X_BadShown.ini X_BadShown.tyI O_BadShown (hr.mono (by first | decide | omega)) B_BadShown rfl Q.g_BadShown rfl (by decide) (va_c (w_var 3) va_nil))) vss_nil)))
  (vss_one (vs_ret (w_var 5)))))))))
theorem sc__law_asked : FnScope ["_law_kind", "_law_tones", "_law_pours", "_law_first", "_law_shown", "raised"] ["_law_kind", "_law_tones", "_law_pours", "_law_first", "_law_shown"] (defScope s__law_asked) := ⟨rfl, rfl, rfl, by decide +kernel, rfl, by decide +kernel, by decide +kernel⟩
theorem ok__law_asked (Q : Fx K mg) : ∃ fd, FunD K "_law_asked" "_law_asked" (defArgs s__law_asked) (defBody s__law_asked) (defScope s__law_asked) [] [] (He.ga K "_law_asked") fd ∧ FnOk P w K mg base (L2.CX P w) 7 (He.ga K "_law_asked") fd ["_law_kind", "_law_tones", "_law_pours", "_law_first", "_law_shown"] (spV (cn mg K) [false, false, false, false, false] f__law_asked) ∧ Bd K fd ["_law_kind", "_law_tones", "_law_pours", "_law_first", "_law_shown"] [] ∧ True := by
  obtain ⟨fd, F⟩ := Q.d__law_asked
  obtain ⟨fd_telling_tree, F_telling_tree0, O_telling_tree, B_telling_tree_p3, _⟩ := ok_telling_tree (P := P) (w := w) (base := base) Q
  have F_telling_tree := F_telling_tree0
  obtain ⟨fd_told_row, F_told_row0, O_told_row, B_told_row_p4, _⟩ := ok_told_row (P := P) (w := w) (base := base) Q
  have F_told_row := F_told_row0
  refine ⟨fd, F, funV F sc__law_asked [false, false, false, false, false] m__law_asked rfl (by decide) fun cdv A outer s H E hr => ?_, ⟨⟨[], .nil, F.bindsN fun _ _ _ _ _ _ us hl => match us, hl with | [_, _, _, _, _], _ => rfl⟩⟩, True.intro⟩
  exact (vss_cons (vs_try rfl rfl sc__law_asked.nd tk_def rfl (sub_of Q.em Q.xg2 (by decide +kernel)) (fun Wi pn xe tk ps => (vss_cons (vs_if (t_eq hr (w_var 0) v_int) (vss_one (vs_expr (w_call (dd := []) tk hr O_telling_tree B_telling_tree_p3 Q.g_telling_tree F_telling_tree.kp (va_c (w_var 1) (va_c (w_var 2) (va_c (w_var 3) va_nil)))))) vss_nil)
  (vss_one (vs_if (t_eq hr (w_var 0) v_int) (vss_one (vs_expr (w_call (dd := []) tk hr O_told_row B_told_row_p4 Q.g_told_row F_told_row.kp (va_c (w_var 1) (va_c (w_var 2) (va_c (w_var 3) (va_c (w_var 4) va_nil))))))) vss_nil)))) (.named rfl Q.g_BadCount (by decide) (i := 5) rfl rfl (by decide) (fun _ _ _ _ _ hz hfd => (vss_one (vs_ret (v_tup (va_c (v_xf (ok := ["BadCount"]) hz hfd (i := 5) rfl (by first | exact Or.inl rfl | exact Or.inr (Or.inl rfl) | exact Or.inr (Or.inr rfl)) (xf_of Q.xl Q.xg (by decide +kernel))) va_nil))))) (.named rfl Q.g_TooMany (by decide) (i := 5) rfl rfl (by decide) (fun _ _ _ _ _ hz hfd => (vss_one (vs_ret (v_tup (va_c v_str (va_c (v_xf (ok := ["TooMany"]) hz hfd (i := 5) rfl (by first | exact Or.inl rfl | exact Or.inr (Or.inl rfl) | exact Or.inr (Or.inr rfl)) (xf_of Q.xl Q.xg (by decide +kernel))) va_nil)))))) (.bare rfl Q.g_BadShown (by decide) (fun _ _ _ _ _ hz hfd => (vss_one (vs_ret (v_tup (va_c v_str va_nil))))) HdsV.nil))))
  (vss_one (vs_ret (v_tup (va_c v_str va_nil)))))
theorem sc__law_total : FnScope ["_law_tones", "_law_depth", "_law_head", "_law_total_here", "_law_turn"] ["_law_tones", "_law_depth", "_law_head"] (defScope s__law_total) := ⟨rfl, rfl, rfl, by decide +kernel, rfl, by decide +kernel, by decide +kernel⟩
theorem ok__law_total (Q : Fx K mg) : ∃ fd, FunD K "_law_total" "_law_total" (defArgs s__law_total) (defBody s__law_total) (defScope s__law_total) [] [] (He.ga K "_law_total") fd ∧ FnOk P w K mg base (L2.CX P w) 1 (He.ga K "_law_total") fd ["_law_tones", "_law_depth", "_law_head"] (spV (cn mg K) [false, false, false] f__law_total) ∧ Bd K fd ["_law_tones", "_law_depth", "_law_head"] [] ∧ True := by
  obtain ⟨fd, F⟩ := Q.d__law_total
  refine ⟨fd, F, funV F sc__law_total [false, false, false] m__law_total rfl (by decide) fun cdv A outer s H E hr => ?_, ⟨⟨[], .nil, F.bindsN fun _ _ _ _ _ _ us hl => match us, hl with | [_, _, _], _ => rfl⟩⟩, True.intro⟩
  exact (vss_cons (vs_set sc__law_total.nd (i := 3) rfl (by first | exact Or.inl rfl | exact Or.inr rfl) (by decide) v_int)
  (vss_cons (vs_for ps_def rfl (vi_rng1 rfl Q.n_range (va_c (w_var 1) va_nil)) (vg_nm sc__law_total.nd (i := 4) rfl (by first | exact Or.inl rfl | exact Or.inr rfl) (by decide)) (vss_one (vs_set sc__law_total.nd (i := 3) rfl (by first | exact Or.inl rfl | exact Or.inr rfl) (by decide) (w_mul (w_var 3) (v_ifE (VW.vt (vw_and (t_eq hr (w_var 4) v_int) (vw_and1 (vt_isN (w_var 2))))) (w_var 0) (w_sub (w_var 0) v_int))))))
  (vss_one (vs_ret (w_var 3)))))
theorem sc__law_refusals : FnScope ["_law_hand_here", "_law_tones", "_law_wide", "_law_long", "_law_head", "_law_kind", "_law_pours", "_law_many", "_law_depth"] ["_law_hand_here"] (defScope s__law_refusals) := ⟨rfl, rfl, rfl, by decide +kernel, rfl, by decide +kernel, by decide +kernel⟩
theorem ok__law_refusals (Q : Fx K mg) : ∃ fd, FunD K "_law_refusals" "_law_refusals" (defArgs s__law_refusals) (defBody s__law_refusals) (defScope s__law_refusals) [] [] (He.ga K "_law_refusals") fd ∧ FnOk P w K mg base (L2.CX P w) 8 (He.ga K "_law_refusals") fd ["_law_hand_here"] (spV (cn mg K) [true] f__law_refusals) ∧ Bd K fd ["_law_hand_here"] [] ∧ True := by
  obtain ⟨fd, F⟩ := Q.d__law_refusals
  obtain ⟨fd__law_asked, F__law_asked0, O__law_asked, B__law_asked_p5, _⟩ := ok__law_asked (P := P) (w := w) (base := base) Q
  have F__law_asked := F__law_asked0
  obtain ⟨fd__law_pick, F__law_pick0, O__law_pick, B__law_pick_p2, _⟩ := ok__law_pick (P := P) (w := w) (base := base) Q
  have F__law_pick := F__law_pick0
  obtain ⟨fd__law_take, F__law_take0, O__law_take, B__law_take_p2, _⟩ := ok__law_take (P := P) (w := w) (base := base) Q
  have F__law_take := F__law_take0
  obtain ⟨fd__law_total, F__law_total0, O__law_total, B__law_total_p3, _⟩ := ok__law_total (P := P) (w := w) (base := base) Q
  have F__law_total := F__law_total0
  refine ⟨fd, F, funV F sc__law_refusals [true] m__law_refusals rfl (by decide) fun cdv A outer s H E hr => ?_, ⟨⟨[], .nil, F.bindsN fun _ _ _ _ _ _ us hl => match us, hl with | [_], _ => rfl⟩⟩, True.intro⟩
  exact (vss_cons (vs_set sc__law_refusals.nd (i := 1) rfl (by first | exact Or.inl rfl | exact Or.inr rfl) (by decide) (w_add v_int (w_call (dd := []) tk_def hr O__law_take B__law_take_p2 Q.g__law_take F__law_take.kp (va_c (w_var 0) (va_c v_int va_nil)))))
  (vss_cons (vs_set sc__law_refusals.nd (i := 2) rfl (by first | exact Or.inl rfl | exact Or.inr rfl) (by decide) (w_call (dd := []) tk_def hr O__law_pick B__law_pick_p2 Q.g__law_pick F__law_pick.kp (va_c (w_var 0) (va_c (v_lst (va_c v_int (va_c v_int (va_c v_int (va_c v_bl (va_c v_non (va_c v_str (va_c (w_pow v_int v_int) va_nil)))))))) va_nil))))
  (vss_cons (vs_set sc__law_refusals.nd (i := 3) rfl (by first | exact Or.inl rfl | exact Or.inr rfl) (by decide) (w_call (dd := []) tk_def hr O__law_pick B__law_pick_p2 Q.g__law_pick F__law_pick.kp (va_c (w_var 0) (va_c (v_lst (va_c v_int (va_c v_int (va_c (w_neg v_int) (va_c v_bl (va_c v_non (va_c v_str (va_c (w_pow v_int v_int) va_nil)))))))) va_nil))))
  (vss_cons (vs_set sc__law_refusals.nd (i := 4) rfl (by first | exact Or.inl rfl | exact Or.inr rfl) (by decide) (w_call (dd := []) tk_def hr O__law_pick B__law_pick_p2 Q.g__law_pick F__law_pick.kp (va_c (w_var 0) (va_c (v_lst (va_c (w_neg v_int) (va_c (w_var 1) (va_c v_non (va_c v_bl (va_c v_str (va_c (w_pow v_int v_int) va_nil))))))) va_nil))))
  (vss_cons (vs_for ps_def rfl (vi_rng1 rfl Q.n_range (va_c v_int va_nil)) (vg_nm sc__law_refusals.nd (i := 5) rfl (by first | exact Or.inl rfl | exact Or.inr rfl) (by decide)) (vss_cons (vs_if (VW.vt (vw_or (t_ne hr (w_call (dd := []) tk_def hr O__law_asked B__law_asked_p5 Q.g__law_asked F__law_asked.kp (va_c (w_var 5) (va_c (w_var 2) (va_c (w_var 3) (va_c (w_var 4) (va_c v_non va_nil)))))) (v_tup (va_c v_str va_nil))) (vw_or1 (t_ne hr (w_call (dd := []) tk_def hr O__law_asked B__law_asked_p5 Q.g__law_asked F__law_asked.kp (va_c (w_var 5) (va_c (w_var 1) (va_c (w_var 3) (va_c (w_var 4) (va_c v_non va_nil)))))) (v_tup (va_c v_str va_nil)))))) (vss_one (vs_ret v_bl)) vss_nil)
  (vss_cons (vs_if (t_ne hr (w_call (dd := []) tk_def hr O__law_asked B__law_asked_p5 Q.g__law_asked F__law_asked.kp (va_c (w_var 5) (va_c (w_var 1) (va_c v_int (va_c (w_var 4) (va_c v_non va_nil)))))) (v_tup (va_c v_str va_nil))) (vss_one (vs_ret v_bl)) vss_nil)
  (vss_one (vs_for ps_def rfl (vi_rng2 rfl Q.n_range (va_c v_int (va_c v_int va_nil))) (vg_nm sc__law_refusals.nd (i := 6) rfl (by first | exact Or.inl rfl | exact Or.inr rfl) (by decide)) (vss_cons (vs_set sc__law_refusals.nd (i := 7) rfl (by first | exact Or.inl rfl | exact Or.inr rfl) (by decide) (w_sumL rfl rfl Q.n_sum (va_c (v_lc (own := [("_law_depth", 8)]) rfl sc__law_refusals.nd (vi_rng1 rfl Q.n_range (va_c (w_var 6) va_nil)) (blk_ok (by kernel_rfl)) (fun _ _ _ _ _ => (vg_nm sc__law_refusals.nd (i := 8) rfl (by first | exact Or.inl rfl | exact Or.inr rfl) (butP_no rfl))) (fun _ _ _ _ _ => vts_nil) (fun _ _ _ _ _ => (w_call (dd := []) takesF hr O__law_total B__law_total_p3 Q.g__law_total F__law_total.kp (va_c (w_var 1) (va_c (w_var 8) (va_c v_int va_nil)))))) va_nil)))
  (vss_cons (vs_if (VW.vt (vw_and (t_gt (w_var 7) v_int) (vw_and1 (t_ne hr (w_call (dd := []) tk_def hr O__law_asked B__law_asked_p5 Q.g__law_asked F__law_asked.kp (va_c (w_var 5) (va_c (w_var 1) (va_c (w_var 6) (va_c v_int (va_c v_non va_nil)))))) (v_tup (va_c v_str (va_c v_int va_nil))))))) (vss_one (vs_ret v_bl)) vss_nil)
  (vss_one (vs_if (VW.vt (vw_and (t_lt (w_var 7) v_int) (vw_and (t_eq hr (w_var 5) v_int) (vw_and1 (t_ne hr (w_call (dd := []) tk_def hr O__law_asked B__law_asked_p5 Q.g__law_asked F__law_asked.kp (va_c v_int (va_c (w_var 1) (va_c (w_var 6) (va_c v_int (va_c v_non va_nil)))))) (v_tup (va_c v_str va_nil))))))) (vss_one (vs_ret v_bl)) vss_nil)))))))))
  (vss_one (vs_ret v_bl)))))))
theorem sc__law_all_struck : FnScope ["_law_tones", "_law_depth", "_law_head", "_law_level", "_law_turn", "_law_following", "_law_row", "_law_tone"] ["_law_tones", "_law_depth", "_law_head"] (defScope s__law_all_struck) := ⟨rfl, rfl, rfl, by decide +kernel, rfl, by decide +kernel, by decide +kernel⟩
theorem ok__law_all_struck (Q : Fx K mg) : ∃ fd, FunD K "_law_all_struck" "_law_all_struck" (defArgs s__law_all_struck) (defBody s__law_all_struck) (defScope s__law_all_struck) [] [] (He.ga K "_law_all_struck") fd ∧ FnOk P w K mg base (L2.CX P w) 1 (He.ga K "_law_all_struck") fd ["_law_tones", "_law_depth", "_law_head"] (spV (cn mg K) [false, false, false] f__law_all_struck) ∧ Bd K fd ["_law_tones", "_law_depth", "_law_head"] [] ∧ True := by
  obtain ⟨fd, F⟩ := Q.d__law_all_struck
  refine ⟨fd, F, funV F sc__law_all_struck [false, false, false] m__law_all_struck rfl (by decide) fun cdv A outer s H E hr => ?_, ⟨⟨[], .nil, F.bindsN fun _ _ _ _ _ _ us hl => match us, hl with | [_, _, _], _ => rfl⟩⟩, True.intro⟩
  exact (vss_cons (vs_set sc__law_all_struck.nd (i := 3) rfl (by first | exact Or.inl rfl | exact Or.inr rfl) (by decide) (v_lst (va_c (v_tup va_nil) va_nil)))
  (vss_cons (vs_for ps_def rfl (vi_rng1 rfl Q.n_range (va_c (w_var 1) va_nil)) (vg_nm sc__law_all_struck.nd (i := 4) rfl (by first | exact Or.inl rfl | exact Or.inr rfl) (by decide)) (vss_cons (vs_set sc__law_all_struck.nd (i := 5) rfl (by first | exact Or.inl rfl | exact Or.inr rfl) (by decide) (v_lst va_nil))
  (vss_cons (vs_for ps_def rfl (vi_seq rfl (w_var 3)) (vg_nm sc__law_all_struck.nd (i := 6) rfl (by first | exact Or.inl rfl | exact Or.inr rfl) (by decide)) (vss_one (vs_for ps_def rfl (vi_rng1 rfl Q.n_range (va_c (w_var 0) va_nil)) (vg_nm sc__law_all_struck.nd (i := 7) rfl (by first | exact Or.inl rfl | exact Or.inr rfl) (by decide)) (vss_one (vs_if (t_ne hr (w_var 7) (v_ifE (vt_tru (w_var 6)) (w_ix (w_var 6) (w_neg v_int)) (w_var 2))) (vss_one (vs_expr (w_append 5 (va_c (w_add (w_var 6) (v_tup (va_c (w_var 7) va_nil))) va_nil)))) vss_nil)))))
  (vss_one (vs_set sc__law_all_struck.nd (i := 3) rfl (by first | exact Or.inl rfl | exact Or.inr rfl) (by decide) (w_list rfl Q.n_list (va_c (w_var 5) va_nil)))))))
  (vss_one (vs_ret (w_var 3)))))
theorem sc__law_cells : FnScope ["_law_tones", "_law_pours", "_law_first", "_law_out", "_law_depth"] ["_law_tones", "_law_pours", "_law_first"] (defScope s__law_cells) := ⟨rfl, rfl, rfl, by decide +kernel, rfl, by decide +kernel, by decide +kernel⟩
theorem ok__law_cells (Q : Fx K mg) : ∃ fd, FunD K "_law_cells" "_law_cells" (defArgs s__law_cells) (defBody s__law_cells) (defScope s__law_cells) [] [] (He.ga K "_law_cells") fd ∧ FnOk P w K mg base (L2.CX P w) 2 (He.ga K "_law_cells") fd ["_law_tones", "_law_pours", "_law_first"] (spV (cn mg K) [false, false, false] f__law_cells) ∧ Bd K fd ["_law_tones", "_law_pours", "_law_first"] [] ∧ True := by
  obtain ⟨fd, F⟩ := Q.d__law_cells
  obtain ⟨fd__law_all_struck, F__law_all_struck0, O__law_all_struck, B__law_all_struck_p3, _⟩ := ok__law_all_struck (P := P) (w := w) (base := base) Q
  have F__law_all_struck := F__law_all_struck0
  refine ⟨fd, F, funV F sc__law_cells [false, false, false] m__law_cells rfl (by decide) fun cdv A outer s H E hr => ?_, ⟨⟨[], .nil, F.bindsN fun _ _ _ _ _ _ us hl => match us, hl with | [_, _, _], _ => rfl⟩⟩, True.intro⟩
  exact (vss_cons (vs_set sc__law_cells.nd (i := 3) rfl (by first | exact Or.inl rfl | exact Or.inr rfl) (by decide) (v_lst va_nil))
  (vss_cons (vs_for ps_def rfl (vi_rng1 rfl Q.n_range (va_c (w_var 1) va_nil)) (vg_nm sc__law_cells.nd (i := 4) rfl (by first | exact Or.inl rfl | exact Or.inr rfl) (by decide)) (vss_one (vs_set sc__law_cells.nd (i := 3) rfl (by first | exact Or.inl rfl | exact Or.inr rfl) (by decide) (w_add (w_var 3) (w_call (dd := []) tk_def hr O__law_all_struck B__law_all_struck_p3 Q.g__law_all_struck F__law_all_struck.kp (va_c (w_var 0) (va_c (w_var 4) (va_c (w_var 2) va_nil))))))))
  (vss_one (vs_ret (w_var 3)))))
theorem sc__law_hidden : FnScope ["_law_row", "_law_within", "_law_at", "_law_colour"] ["_law_row", "_law_within"] (defScope s__law_hidden) := ⟨rfl, rfl, rfl, by decide +kernel, rfl, by decide +kernel, by decide +kernel⟩
theorem ok__law_hidden (Q : Fx K mg) : ∃ fd, FunD K "_law_hidden" "_law_hidden" (defArgs s__law_hidden) (defBody s__law_hidden) (defScope s__law_hidden) [] [] (He.ga K "_law_hidden") fd ∧ FnOk P w K mg base (L2.CX P w) 1 (He.ga K "_law_hidden") fd ["_law_row", "_law_within"] (spV (cn mg K) [false, false] f__law_hidden) ∧ Bd K fd ["_law_row", "_law_within"] [] ∧ True := by
  obtain ⟨fd, F⟩ := Q.d__law_hidden
  refine ⟨fd, F, funV F sc__law_hidden [false, false] m__law_hidden rfl (by decide) fun cdv A outer s H E hr => ?_, ⟨⟨[], .nil, F.bindsN fun _ _ _ _ _ _ us hl => match us, hl with | [_, _], _ => rfl⟩⟩, True.intro⟩
  exact (vss_cons (vs_set sc__law_hidden.nd (i := 2) rfl (by first | exact Or.inl rfl | exact Or.inr rfl) (by decide) v_int)
  (vss_cons (vs_for ps_def rfl (vi_seq rfl (w_var 1)) (vg_nm sc__law_hidden.nd (i := 3) rfl (by first | exact Or.inl rfl | exact Or.inr rfl) (by decide)) (vss_one (vs_if (VW.vt (vw_and (t_lt (w_var 2) (w_len rfl rfl Q.n_len (va_c (w_var 0) va_nil))) (vw_and1 (t_eq hr (w_ix (w_var 0) (w_var 2)) (w_var 3))))) (vss_one (vs_set sc__law_hidden.nd (i := 2) rfl (by first | exact Or.inl rfl | exact Or.inr rfl) (by decide) (w_add (w_var 2) v_int))) vss_nil)))
  (vss_one (vs_ret (w_eq hr (w_var 2) (w_len rfl rfl Q.n_len (va_c (w_var 0) va_nil)))))))
theorem sc__law_left : FnScope ["_law_cells_here", "_law_first", "_law_row", "_law_end", "_law_inner"] ["_law_cells_here", "_law_first", "_law_row"] (defScope s__law_left) := ⟨rfl, rfl, rfl, by decide +kernel, rfl, by decide +kernel, by decide +kernel⟩
theorem ok__law_left (Q : Fx K mg) : ∃ fd, FunD K "_law_left" "_law_left" (defArgs s__law_left) (defBody s__law_left) (defScope s__law_left) [] [] (He.ga K "_law_left") fd ∧ FnOk P w K mg base (L2.CX P w) 2 (He.ga K "_law_left") fd ["_law_cells_here", "_law_first", "_law_row"] (spV (cn mg K) [false, false, false] f__law_left) ∧ Bd K fd ["_law_cells_here", "_law_first", "_law_row"] [] ∧ True := by
  obtain ⟨fd, F⟩ := Q.d__law_left
  obtain ⟨fd__law_hidden, F__law_hidden0, O__law_hidden, B__law_hidden_p2, _⟩ := ok__law_hidden (P := P) (w := w) (base := base) Q
  have F__law_hidden := F__law_hidden0
  refine ⟨fd, F, funV F sc__law_left [false, false, false] m__law_left rfl (by decide) fun cdv A outer s H E hr => ?_, ⟨⟨[], .nil, F.bindsN fun _ _ _ _ _ _ us hl => match us, hl with | [_, _, _], _ => rfl⟩⟩, True.intro⟩
  exact (vss_cons (vs_set sc__law_left.nd (i := 3) rfl (by first | exact Or.inl rfl | exact Or.inr rfl) (by decide) (v_ifE (vt_tru (w_var 2)) (w_ix (w_var 2) (w_neg v_int)) (w_var 1)))
  (vss_one (vs_ret (v_lc (own := [("_law_inner", 4)]) rfl sc__law_left.nd (vi_seq rfl (w_var 0)) (blk_ok (by kernel_rfl)) (fun _ _ _ _ _ => (vg_nm sc__law_left.nd (i := 4) rfl (by first | exact Or.inl rfl | exact Or.inr rfl) (butP_no rfl))) (fun _ _ _ _ _ => vts_nil) (fun _ _ _ _ _ => (v_ifE (vt_tru (w_call (dd := []) takesF hr O__law_hidden B__law_hidden_p2 Q.g__law_hidden F__law_hidden.kp (va_c (w_var 4) (va_c (w_var 2) va_nil)))) (w_var 3) (v_ifE (vt_tru (w_var 4)) (w_ix (w_var 4) (w_neg v_int)) (w_var 1))))))))
theorem sc__law_raw : FnScope ["_law_hand_here", "_law_row", "_law_first", "_law_out", "_law_tone", "_law_turn"] ["_law_hand_here", "_law_row", "_law_first"] (defScope s__law_raw) := ⟨rfl, rfl, rfl, by decide +kernel, rfl, by decide +kernel, by decide +kernel⟩
theorem ok__law_raw (Q : Fx K mg) : ∃ fd, FunD K "_law_raw" "_law_raw" (defArgs s__law_raw) (defBody s__law_raw) (defScope s__law_raw) [] [] (He.ga K "_law_raw") fd ∧ FnOk P w K mg base (L2.CX P w) 3 (He.ga K "_law_raw") fd ["_law_hand_here", "_law_row", "_law_first"] (spV (cn mg K) [true, false, false] f__law_raw) ∧ Bd K fd ["_law_hand_here", "_law_row", "_law_first"] [] ∧ True := by
  obtain ⟨fd, F⟩ := Q.d__law_raw
  obtain ⟨fd__law_take, F__law_take0, O__law_take, B__law_take_p2, _⟩ := ok__law_take (P := P) (w := w) (base := base) Q
  have F__law_take := F__law_take0
  refine ⟨fd, F, funV F sc__law_raw [true, false, false] m__law_raw rfl (by decide) fun cdv A outer s H E hr => ?_, ⟨⟨[], .nil, F.bindsN fun _ _ _ _ _ _ us hl => match us, hl with | [_, _, _], _ => rfl⟩⟩, True.intro⟩
  exact (vss_cons (by first | exact vs_setLc (own := [("_law_turn", 5)]) rfl sc__law_raw.nd (i := 3) rfl rfl (by decide) rfl (vi_rng1 rfl Q.n_range (va_c (w_call (dd := []) tk_def hr O__law_take B__law_take_p2 Q.g__law_take F__law_take.kp (va_c (w_var 0) (va_c v_int va_nil))) va_nil)) (blk_ok (by kernel_rfl)) (fun _ _ _ _ _ => (vg_nm sc__law_raw.nd (i := 5) rfl (by first | exact Or.inl rfl | exact Or.inr rfl) (butP_no rfl))) (fun _ _ _ _ _ => vts_nil) (fun _ _ _ _ _ => (w_var 2)) | exact vs_set sc__law_raw.nd (i := 3) rfl (by first | exact Or.inl rfl | exact Or.inr rfl) (by decide) (v_lc (own := [("_law_turn", 5)]) rfl sc__law_raw.nd (vi_rng1 rfl Q.n_range (va_c (w_call (dd := []) tk_def hr O__law_take B__law_take_p2 Q.g__law_take F__law_take.kp (va_c (w_var 0) (va_c v_int va_nil))) va_nil)) (blk_ok (by kernel_rfl)) (fun _ _ _ _ _ => (vg_nm sc__law_raw.nd (i := 5) rfl (by first | exact Or.inl rfl | exact Or.inr rfl) (butP_no rfl))) (fun _ _ _ _ _ => vts_nil) (fun _ _ _ _ _ => (w_var 2))))
  (vss_cons (vs_for ps_def rfl (vi_seq rfl (w_var 1)) (vg_nm sc__law_raw.nd (i := 4) rfl (by first | exact Or.inl rfl | exact Or.inr rfl) (by decide)) (vss_one (vs_for ps_def rfl (vi_rng1 rfl Q.n_range (va_c (w_add v_int (w_call (dd := []) tk_def hr O__law_take B__law_take_p2 Q.g__law_take F__law_take.kp (va_c (w_var 0) (va_c v_int va_nil)))) va_nil)) (vg_nm sc__law_raw.nd (i := 5) rfl (by first | exact Or.inl rfl | exact Or.inr rfl) (by decide)) (vss_one (vs_expr (w_append 3 (va_c (w_var 4) va_nil)))))))
  (vss_one (vs_ret (w_var 3)))))
theorem sc__law_read : FnScope ["_law_tones", "_law_pours", "_law_first", "_law_shown", "raised"] ["_law_tones", "_law_pours", "_law_first", "_law_shown"] (defScope s__law_read) := ⟨rfl, rfl, rfl, by decide +kernel, rfl, by decide +kernel, by decide +kernel⟩
theorem ok__law_read (Q : Fx K mg) : ∃ fd, FunD K "_law_read" "_law_read" (defArgs s__law_read) (defBody s__law_read) (defScope s__law_read) [] [] (He.ga K "_law_read") fd ∧ FnOk P w K mg base (L2.CX P w) 5 (He.ga K "_law_read") fd ["_law_tones", "_law_pours", "_law_first", "_law_shown"] (spV (cn mg K) [false, false, false, false] f__law_read) ∧ Bd K fd ["_law_tones", "_law_pours", "_law_first", "_law_shown"] [] ∧ True := by
  obtain ⟨fd, F⟩ := Q.d__law_read
  obtain ⟨fd_told_row, F_told_row0, O_told_row, B_told_row_p4, _⟩ := ok_told_row (P := P) (w := w) (base := base) Q
  have F_told_row := F_told_row0
  refine ⟨fd, F, funV F sc__law_read [false, false, false, false] m__law_read rfl (by decide) fun cdv A outer s H E hr => ?_, ⟨⟨[], .nil, F.bindsN fun _ _ _ _ _ _ us hl => match us, hl with | [_, _, _, _], _ => rfl⟩⟩, True.intro⟩
  exact (vss_one (vs_try rfl rfl sc__law_read.nd tk_def rfl (sub_of Q.em Q.xg2 (by decide +kernel)) (fun Wi pn xe tk ps => (vss_one (vs_ret (w_call (dd := []) tk hr O_told_row B_told_row_p4 Q.g_told_row F_told_row.kp (va_c (w_var 0) (va_c (w_var 1) (va_c (w_var 2) (va_c (w_var 3) va_nil)))))))) (.named rfl Q.g_BadShown (by decide) (i := 4) rfl rfl (by decide) (fun _ _ _ _ _ hz hfd => (vss_one (vs_ret (v_tup (va_c v_str (va_c (v_xf (ok := ["BadShown"]) hz hfd (i := 4) rfl (by first | exact Or.inl rfl | exact Or.inr (Or.inl rfl) | exact Or.inr (Or.inr rfl)) (xf_of Q.xl Q.xg (by decide +kernel))) va_nil)))))) HdsV.nil)))
theorem sc__law_spoilt : FnScope ["_law_hand_here", "_law_tones", "_law_pours", "_law_first", "_law_all_left", "_law_rows", "_law_base", "_law_out", "_law_turn", "_law_found", "_law_told", "_law_lists", "_law_odd", "_law_at"] ["_law_hand_here", "_law_tones", "_law_pours", "_law_first", "_law_all_left", "_law_rows"] (defScope s__law_spoilt) := ⟨rfl, rfl, rfl, by decide +kernel, rfl, by decide +kernel, by decide +kernel⟩
theorem ok__law_spoilt (Q : Fx K mg) : ∃ fd, FunD K "_law_spoilt" "_law_spoilt" (defArgs s__law_spoilt) (defBody s__law_spoilt) (defScope s__law_spoilt) [] [] (He.ga K "_law_spoilt") fd ∧ FnOk P w K mg base (L2.CX P w) 6 (He.ga K "_law_spoilt") fd ["_law_hand_here", "_law_tones", "_law_pours", "_law_first", "_law_all_left", "_law_rows"] (spV (cn mg K) [true, false, false, false, false, false] f__law_spoilt) ∧ Bd K fd ["_law_hand_here", "_law_tones", "_law_pours", "_law_first", "_law_all_left", "_law_rows"] [] ∧ True := by
  obtain ⟨fd, F⟩ := Q.d__law_spoilt
  obtain ⟨fd__law_pick, F__law_pick0, O__law_pick, B__law_pick_p2, _⟩ := ok__law_pick (P := P) (w := w) (base := base) Q
  have F__law_pick := F__law_pick0
  obtain ⟨fd__law_read, F__law_read0, O__law_read, B__law_read_p4, _⟩ := ok__law_read (P := P) (w := w) (base := base) Q
  have F__law_read := F__law_read0
  obtain ⟨fd__law_take, F__law_take0, O__law_take, B__law_take_p2, _⟩ := ok__law_take (P := P) (w := w) (base := base) Q
  have F__law_take := F__law_take0
  refine ⟨fd, F, funV F sc__law_spoilt [true, false, false, false, false, false] m__law_spoilt rfl (by decide) fun cdv A outer s H E hr => ?_, ⟨⟨[], .nil, F.bindsN fun _ _ _ _ _ _ us hl => match us, hl with | [_, _, _, _, _, _], _ => rfl⟩⟩, True.intro⟩
  exact (vss_cons (vs_set sc__law_spoilt.nd (i := 6) rfl (by first | exact Or.inl rfl | exact Or.inr rfl) (by decide) (w_call (dd := []) tk_def hr O__law_pick B__law_pick_p2 Q.g__law_pick F__law_pick.kp (va_c (w_var 0) (va_c (w_var 4) va_nil))))
  (vss_cons (vs_set sc__law_spoilt.nd (i := 7) rfl (by first | exact Or.inl rfl | exact Or.inr rfl) (by decide) (w_list rfl Q.n_list (va_c (w_var 6) va_nil)))
  (vss_cons (vs_for ps_def rfl (vi_rng1 rfl Q.n_range (va_c (w_add v_int (w_call (dd := []) tk_def hr O__law_take B__law_take_p2 Q.g__law_take F__law_take.kp (va_c (w_var 0) (va_c v_int va_nil)))) va_nil)) (vg_nm sc__law_spoilt.nd (i := 8) rfl (by first | exact Or.inl rfl | exact Or.inr rfl) (by decide)) (vss_one (vs_setI (i := 7) rfl (by first | exact Or.inl rfl | exact Or.inr (Or.inl rfl) | exact Or.inr (Or.inr rfl)) (w_call (dd := []) tk_def hr O__law_take B__law_take_p2 Q.g__law_take F__law_take.kp (va_c (w_var 0) (va_c (w_len rfl rfl Q.n_len (va_c (w_var 7) va_nil)) va_nil))) (w_call (dd := []) tk_def hr O__law_pick B__law_pick_p2 Q.g__law_pick F__law_pick.kp (va_c (w_var 0) (va_c (v_lst (va_c v_int (va_c v_int (va_c (w_sub (w_var 1) v_int) (va_c (w_var 1) (va_c v_int (va_c (w_var 3) va_nil))))))) va_nil))))))
  (vss_cons (by first | exact vs_setLc (own := [("_law_at", 13)]) rfl sc__law_spoilt.nd (i := 9) rfl rfl (by decide) rfl (vi_rng1 rfl Q.n_range (va_c (w_len rfl rfl Q.n_len (va_c (w_var 5) va_nil)) va_nil)) (blk_ok (by kernel_rfl)) (fun _ _ _ _ _ => (vg_nm sc__law_spoilt.nd (i := 13) rfl (by first | exact Or.inl rfl | exact Or.inr rfl) (butP_no rfl))) (fun _ _ _ _ _ => (vts_one (t_eq hr (w_ix (w_var 4) (w_var 13)) (w_var 7)))) (fun _ _ _ _ _ => (w_ix (w_var 5) (w_var 13))) | exact vs_set sc__law_spoilt.nd (i := 9) rfl (by first | exact Or.inl rfl | exact Or.inr rfl) (by decide) (v_lc (own := [("_law_at", 13)]) rfl sc__law_spoilt.nd (vi_rng1 rfl Q.n_range (va_c (w_len rfl rfl Q.n_len (va_c (w_var 5) va_nil)) va_nil)) (blk_ok (by kernel_rfl)) (fun _ _ _ _ _ => (vg_nm sc__law_spoilt.nd (i := 13) rfl (by first | exact Or.inl rfl | exact Or.inr rfl) (butP_no rfl))) (fun _ _ _ _ _ => (vts_one (t_eq hr (w_ix (w_var 4) (w_var 13)) (w_var 7)))) (fun _ _ _ _ _ => (w_ix (w_var 5) (w_var 13)))))
  (vss_cons (vs_set sc__law_spoilt.nd (i := 10) rfl (by first | exact Or.inl rfl | exact Or.inr rfl) (by decide) (w_call (dd := []) tk_def hr O__law_read B__law_read_p4 Q.g__law_read F__law_read.kp (va_c (w_var 1) (va_c (w_var 2) (va_c (w_var 3) (va_c (w_tuple rfl Q.n_tuple (va_c (w_var 7) va_nil)) va_nil))))))
  (vss_cons (vs_if (t_ne hr (w_var 10) (v_ifE (vt_tru (w_var 9)) (w_ix (w_var 9) v_int) (v_tup (va_c v_str (va_c (w_tuple rfl Q.n_tuple (va_c (w_var 7) va_nil)) va_nil))))) (vss_one (vs_ret v_bl)) vss_nil)
  (vss_cons (vs_set sc__law_spoilt.nd (i := 11) rfl (by first | exact Or.inl rfl | exact Or.inr rfl) (by decide) (v_lst (va_c (w_add (w_var 6) (v_lst (va_c v_int va_nil))) (va_c (v_sl (w_var 6) vo_none (vo_some (w_neg v_int))) (va_c (w_add (v_lst (va_c v_bl va_nil)) (v_sl (w_var 6) (vo_some v_int) vo_none)) (va_c (w_add (v_sl (w_var 6) vo_none (vo_some (w_neg v_int))) (v_lst (va_c v_int va_nil))) (va_c (w_add (v_sl (w_var 6) vo_none (vo_some (w_neg v_int))) (v_lst (va_c (w_neg v_int) va_nil))) (va_c (w_add (v_sl (w_var 6) vo_none (vo_some (w_neg v_int))) (v_lst (va_c v_str va_nil))) va_nil))))))))
  (vss_cons (vs_set sc__law_spoilt.nd (i := 12) rfl (by first | exact Or.inl rfl | exact Or.inr rfl) (by decide) (w_tuple rfl Q.n_tuple (va_c (w_call (dd := []) tk_def hr O__law_pick B__law_pick_p2 Q.g__law_pick F__law_pick.kp (va_c (w_var 0) (va_c (w_var 11) va_nil))) va_nil)))
  (vss_cons (vs_if (t_ne hr (w_call (dd := []) tk_def hr O__law_read B__law_read_p4 Q.g__law_read F__law_read.kp (va_c (w_var 1) (va_c (w_var 2) (va_c (w_var 3) (va_c (w_var 12) va_nil))))) (v_tup (va_c v_str (va_c (w_var 12) va_nil)))) (vss_one (vs_ret v_bl)) vss_nil)
  (vss_cons (vs_set sc__law_spoilt.nd (i := 12) rfl (by first | exact Or.inl rfl | exact Or.inr rfl) (by decide) (w_call (dd := []) tk_def hr O__law_pick B__law_pick_p2 Q.g__law_pick F__law_pick.kp (va_c (w_var 0) (va_c (v_lst (va_c v_non (va_c v_int (va_c v_str (va_c v_bl va_nil))))) va_nil))))
  (vss_one (vs_ret (w_eq hr (w_call (dd := []) tk_def hr O__law_read B__law_read_p4 Q.g__law_read F__law_read.kp (va_c (w_var 1) (va_c (w_var 2) (va_c (w_var 3) (va_c (w_var 12) va_nil))))) (v_tup (va_c v_str (va_c (w_var 12) va_nil))))))))))))))))
theorem sc__law_tree_right : FnScope ["_law_tree", "_law_cells_here", "_law_first", "_law_at", "_law_cell", "_law_ties", "_law_inner"] ["_law_tree", "_law_cells_here", "_law_first"] (defScope s__law_tree_right) := ⟨rfl, rfl, rfl, by decide +kernel, rfl, by decide +kernel, by decide +kernel⟩
theorem ok__law_tree_right (Q : Fx K mg) : ∃ fd, FunD K "_law_tree_right" "_law_tree_right" (defArgs s__law_tree_right) (defBody s__law_tree_right) (defScope s__law_tree_right) [] [] (He.ga K "_law_tree_right") fd ∧ FnOk P w K mg base (L2.CX P w) 1 (He.ga K "_law_tree_right") fd ["_law_tree", "_law_cells_here", "_law_first"] (spV (cn mg K) [false, false, false] f__law_tree_right) ∧ Bd K fd ["_law_tree", "_law_cells_here", "_law_first"] [] ∧ True := by
  obtain ⟨fd, F⟩ := Q.d__law_tree_right
  refine ⟨fd, F, funV F sc__law_tree_right [false, false, false] m__law_tree_right rfl (by decide) fun cdv A outer s H E hr => ?_, ⟨⟨[], .nil, F.bindsN fun _ _ _ _ _ _ us hl => match us, hl with | [_, _, _], _ => rfl⟩⟩, True.intro⟩
  exact (vss_cons (vs_set sc__law_tree_right.nd (i := 3) rfl (by first | exact Or.inl rfl | exact Or.inr rfl) (by decide) v_dict0t)
  (vss_cons (vs_for ps_def rfl (vi_rng1 rfl Q.n_range (va_c (w_len rfl rfl Q.n_len (va_c (w_var 1) va_nil)) va_nil)) (vg_nm sc__law_tree_right.nd (i := 4) rfl (by first | exact Or.inl rfl | exact Or.inr rfl) (by decide)) (vss_one (vs_setT (i := 3) (huR hr) rfl (by first | exact Or.inl rfl | exact Or.inr (Or.inl rfl) | exact Or.inr (Or.inr rfl)) (w_ix (w_var 1) (w_var 4)) (w_var 4))))
  (vss_cons (by first | exact vs_setLc (own := [("_law_cell", 4)]) rfl sc__law_tree_right.nd (i := 5) rfl rfl (by decide) rfl (vi_rng2 rfl Q.n_range (va_c v_int (va_c (w_len rfl rfl Q.n_len (va_c (w_var 1) va_nil)) va_nil))) (blk_ok (by kernel_rfl)) (fun _ _ _ _ _ => (vg_nm sc__law_tree_right.nd (i := 4) rfl (by first | exact Or.inl rfl | exact Or.inr rfl) (butP_no rfl))) (fun _ _ _ _ _ => vts_nil) (fun _ _ _ _ _ => (v_tup (va_c (v_tix (huR hr) (w_var 3) (v_sl (w_ix (w_var 1) (w_var 4)) vo_none (vo_some (w_neg v_int)))) (va_c (w_var 4) va_nil)))) | exact vs_set sc__law_tree_right.nd (i := 5) rfl (by first | exact Or.inl rfl | exact Or.inr rfl) (by decide) (v_lc (own := [("_law_cell", 4)]) rfl sc__law_tree_right.nd (vi_rng2 rfl Q.n_range (va_c v_int (va_c (w_len rfl rfl Q.n_len (va_c (w_var 1) va_nil)) va_nil))) (blk_ok (by kernel_rfl)) (fun _ _ _ _ _ => (vg_nm sc__law_tree_right.nd (i := 4) rfl (by first | exact Or.inl rfl | exact Or.inr rfl) (butP_no rfl))) (fun _ _ _ _ _ => vts_nil) (fun _ _ _ _ _ => (v_tup (va_c (v_tix (huR hr) (w_var 3) (v_sl (w_ix (w_var 1) (w_var 4)) vo_none (vo_some (w_neg v_int)))) (va_c (w_var 4) va_nil))))))
  (vss_cons (vs_if (VW.vt (vw_or (t_ne hr (v_fld (ok := [("Picture", "colours")]) (fld_of Q.own_Picture Q.g_Picture (by decide)) (w_var 0)) (w_tuple rfl Q.n_tuple (va_c (v_lc (own := [("_law_inner", 6)]) rfl sc__law_tree_right.nd (vi_seq rfl (w_var 1)) (blk_ok (by kernel_rfl)) (fun _ _ _ _ _ => (vg_nm sc__law_tree_right.nd (i := 6) rfl (by first | exact Or.inl rfl | exact Or.inr rfl) (butP_no rfl))) (fun _ _ _ _ _ => vts_nil) (fun _ _ _ _ _ => (v_ifE (vt_tru (w_var 6)) (w_ix (w_var 6) (w_neg v_int)) (w_var 2)))) va_nil))) (vw_or1 (t_ne hr (v_fld (ok := [("Picture", "marks")]) (fld_of Q.own_Picture Q.g_Picture (by decide)) (w_var 0)) (v_tup (va_c v_int va_nil)))))) (vss_one (vs_ret v_bl)) vss_nil)
  (vss_one (vs_ret (w_eq hr (v_fld (ok := [("Picture", "ties")]) (fld_of Q.own_Picture Q.g_Picture (by decide)) (w_var 0)) (w_tuple rfl Q.n_tuple (va_c (w_sortP rfl Q.n_sorted (va_c (w_var 5) va_nil)) va_nil)))))))))
theorem sc__law_tuples : FnScope ["_law_thing", "_law_item"] ["_law_thing"] (defScope s__law_tuples) := ⟨rfl, rfl, rfl, by decide +kernel, rfl, by decide +kernel, by decide +kernel⟩
theorem ok__law_tuples (Q : Fx K mg) : ∃ fd, FunD K "_law_tuples" "_law_tuples" (defArgs s__law_tuples) (defBody s__law_tuples) (defScope s__law_tuples) [] [] (He.ga K "_law_tuples") fd ∧ (∀ n, FnOk P w K mg base (L2.CX P w) (0 + n + 1) (He.ga K "_law_tuples") fd ["_law_thing"] (spV (cn mg K) [false] (f__law_tuples n))) ∧ Bd K fd ["_law_thing"] [] ∧ True := by
  obtain ⟨fd, F⟩ := Q.d__law_tuples
  have F__law_tuples := F
  have B__law_tuples_p1 : Bd K fd ["_law_thing"] [] := ⟨⟨[], .nil, F.bindsN fun _ _ _ _ _ _ us hl => match us, hl with | [_], _ => rfl⟩⟩
  refine ⟨fd, F, fun n => ?_, ⟨⟨[], .nil, F.bindsN fun _ _ _ _ _ _ us hl => match us, hl with | [_], _ => rfl⟩⟩, True.intro⟩
  induction n with
  | zero => exact funV F sc__law_tuples [false] stuckS rfl (by decide) fun cdv A outer s H E hr => vss_stuck
  | succ n O__law_tuples => exact funV F sc__law_tuples [false] (m__law_tuples (fun _ => f__law_tuples n) n) rfl (by decide) fun cdv A outer s H E hr => (vss_cons (vs_if (vt_tru (v_isi1 rfl Q.n_isinstance (w_var 0) ⟨⟨rfl, Q.n_tuple, PyProof.Rows.boot_tuple, by decide, by decide⟩, True.intro⟩)) (vss_one (vs_ret (w_not (v_lc (own := [("_law_item", 1)]) rfl sc__law_tuples.nd (vi_seq rfl (w_var 0)) (blk_ok (by kernel_rfl)) (fun _ _ _ _ _ => (vg_nm sc__law_tuples.nd (i := 1) rfl (by first | exact Or.inl rfl | exact Or.inr rfl) (butP_no rfl))) (fun _ _ _ _ _ => (vts_one (vt_not (vt_tru (w_call (dd := []) takesF hr O__law_tuples B__law_tuples_p1 Q.g__law_tuples F__law_tuples.kp (va_c (w_var 1) va_nil) (hkk := by omega)))))) (fun _ _ _ _ _ => v_int))))) vss_nil)
  (vss_one (vs_ret (v_or (v_isN (w_var 0)) (v_one (v_and (v_isi1 rfl Q.n_isinstance (w_var 0) ⟨⟨rfl, Q.n_int, PyProof.Rows.boot_int, by decide, by decide⟩, True.intro⟩) (v_one (w_not (v_isi1 rfl Q.n_isinstance (w_var 0) ⟨⟨rfl, Q.n_bool, PyProof.Rows.boot_bool, by decide, by decide⟩, True.intro⟩)))))))))
theorem sc__law_whole_tree : FnScope ["_law_hand_here", "_law_tones", "_law_pours", "_law_first", "_law_cells_here", "_law_rows", "_law_all_left", "_law_at", "_law_told", "_law_turn", "_law_left_here", "_law_row"] ["_law_hand_here"] (defScope s__law_whole_tree) := ⟨rfl, rfl, rfl, by decide +kernel, rfl, by decide +kernel, by decide +kernel⟩
theorem ok__law_whole_tree (Q : Fx K mg) : ∃ fd, FunD K "_law_whole_tree" "_law_whole_tree" (defArgs s__law_whole_tree) (defBody s__law_whole_tree) (defScope s__law_whole_tree) [] [] (He.ga K "_law_whole_tree") fd ∧ FnOk P w K mg base (L2.CX P w) 7 (He.ga K "_law_whole_tree") fd ["_law_hand_here"] (spV (cn mg K) [true] f__law_whole_tree) ∧ Bd K fd ["_law_hand_here"] [] ∧ True := by
  obtain ⟨fd, F⟩ := Q.d__law_whole_tree
  obtain ⟨fd__law_all_struck, F__law_all_struck0, O__law_all_struck, B__law_all_struck_p3, _⟩ := ok__law_all_struck (P := P) (w := w) (base := base) Q
  have F__law_all_struck := F__law_all_struck0
  obtain ⟨fd__law_cells, F__law_cells0, O__law_cells, B__law_cells_p3, _⟩ := ok__law_cells (P := P) (w := w) (base := base) Q
  have F__law_cells := F__law_cells0
  obtain ⟨fd__law_left, F__law_left0, O__law_left, B__law_left_p3, _⟩ := ok__law_left (P := P) (w := w) (base := base) Q
  have F__law_left := F__law_left0
  obtain ⟨fd__law_pick, F__law_pick0, O__law_pick, B__law_pick_p2, _⟩ := ok__law_pick (P := P) (w := w) (base := base) Q
  have F__law_pick := F__law_pick0
  obtain ⟨fd__law_raw, F__law_raw0, O__law_raw, B__law_raw_p3, _⟩ := ok__law_raw (P := P) (w := w) (base := base) Q
  have F__law_raw := F__law_raw0
  obtain ⟨fd__law_spoilt, F__law_spoilt0, O__law_spoilt, B__law_spoilt_p6, _⟩ := ok__law_spoilt (P := P) (w := w) (base := base) Q
  have F__law_spoilt := F__law_spoilt0
  obtain ⟨fd__law_take, F__law_take0, O__law_take, B__law_take_p2, _⟩ := ok__law_take (P := P) (w := w) (base := base) Q
  have F__law_take := F__law_take0
  obtain ⟨fd__law_tree_right, F__law_tree_right0, O__law_tree_right, B__law_tree_right_p3, _⟩ := ok__law_tree_right (P := P) (w := w) (base := base) Q
  have F__law_tree_right := F__law_tree_right0
  obtain ⟨fd__law_tuples, F__law_tuples0, O__law_tuples, B__law_tuples_p1, _⟩ := ok__law_tuples (P := P) (w := w) (base := base) Q
  have F__law_tuples := F__law_tuples0
  have O__law_tuples := O__law_tuples 5
  obtain ⟨fd_telling_tree, F_telling_tree0, O_telling_tree, B_telling_tree_p3, _⟩ := ok_telling_tree (P := P) (w := w) (base := base) Q
  have F_telling_tree := F_telling_tree0
  obtain ⟨fd_told_row, F_told_row0, O_told_row, B_told_row_p4, _⟩ := ok_told_row (P := P) (w := w) (base := base) Q
  have F_told_row := F_told_row0
  refine ⟨fd, F, funV F sc__law_whole_tree [true] m__law_whole_tree rfl (by decide) fun cdv A outer s H E hr => ?_, ⟨⟨[], .nil, F.bindsN fun _ _ _ _ _ _ us hl => match us, hl with | [_], _ => rfl⟩⟩, True.intro⟩
  exact (vss_cons (vs_set sc__law_whole_tree.nd (i := 1) rfl (by first | exact Or.inl rfl | exact Or.inr rfl) (by decide) (w_call (dd := []) tk_def hr O__law_pick B__law_pick_p2 Q.g__law_pick F__law_pick.kp (va_c (w_var 0) (va_c (v_lst (va_c v_int (va_c v_int (va_c v_int (va_c v_int va_nil))))) va_nil))))
  (vss_cons (vs_set sc__law_whole_tree.nd (i := 2) rfl (by first | exact Or.inl rfl | exact Or.inr rfl) (by decide) (w_add v_int (w_call (dd := []) tk_def hr O__law_take B__law_take_p2 Q.g__law_take F__law_take.kp (va_c (w_var 0) (va_c (v_ifE (t_eq hr (w_var 1) v_int) v_int v_int) va_nil)))))
  (vss_cons (vs_if (t_eq hr (w_call (dd := []) tk_def hr O__law_take B__law_take_p2 Q.g__law_take F__law_take.kp (va_c (w_var 0) (va_c v_int va_nil))) v_int) (vss_one (vs_set sc__law_whole_tree.nd (i := 2) rfl (by first | exact Or.inl rfl | exact Or.inr rfl) (by decide) (w_ix (v_lst (va_c v_int (va_c v_int (va_c v_int va_nil)))) (w_sub (w_var 1) v_int)))) vss_nil)
  (vss_cons (vs_set sc__law_whole_tree.nd (i := 3) rfl (by first | exact Or.inl rfl | exact Or.inr rfl) (by decide) (w_call (dd := []) tk_def hr O__law_take B__law_take_p2 Q.g__law_take F__law_take.kp (va_c (w_var 0) (va_c (w_var 1) va_nil))))
  (vss_cons (vs_set sc__law_whole_tree.nd (i := 4) rfl (by first | exact Or.inl rfl | exact Or.inr rfl) (by decide) (w_call (dd := []) tk_def hr O__law_cells B__law_cells_p3 Q.g__law_cells F__law_cells.kp (va_c (w_var 1) (va_c (w_var 2) (va_c (w_var 3) va_nil)))))
  (vss_cons (vs_if (vt_not (vt_tru (w_call (dd := []) tk_def hr O__law_tree_right B__law_tree_right_p3 Q.g__law_tree_right F__law_tree_right.kp (va_c (w_call (dd := []) tk_def hr O_telling_tree B_telling_tree_p3 Q.g_telling_tree F_telling_tree.kp (va_c (w_var 1) (va_c (w_var 2) (va_c (w_var 3) va_nil)))) (va_c (w_var 4) (va_c (w_var 3) va_nil)))))) (vss_one (vs_ret v_bl)) vss_nil)
  (vss_cons (vs_set sc__law_whole_tree.nd (i := 5) rfl (by first | exact Or.inl rfl | exact Or.inr rfl) (by decide) (w_add (w_var 4) (w_call (dd := []) tk_def hr O__law_all_struck B__law_all_struck_p3 Q.g__law_all_struck F__law_all_struck.kp (va_c (w_var 1) (va_c (w_var 2) (va_c (w_var 3) va_nil))))))
  (vss_cons (by first | exact vs_setLc (own := [("_law_row", 11)]) rfl sc__law_whole_tree.nd (i := 6) rfl rfl (by decide) rfl (vi_seq rfl (w_var 5)) (blk_ok (by kernel_rfl)) (fun _ _ _ _ _ => (vg_nm sc__law_whole_tree.nd (i := 11) rfl (by first | exact Or.inl rfl | exact Or.inr rfl) (butP_no rfl))) (fun _ _ _ _ _ => vts_nil) (fun _ _ _ _ _ => (w_call (dd := []) takesF hr O__law_left B__law_left_p3 Q.g__law_left F__law_left.kp (va_c (w_var 4) (va_c (w_var 3) (va_c (w_var 11) va_nil))))) | exact vs_set sc__law_whole_tree.nd (i := 6) rfl (by first | exact Or.inl rfl | exact Or.inr rfl) (by decide) (v_lc (own := [("_law_row", 11)]) rfl sc__law_whole_tree.nd (vi_seq rfl (w_var 5)) (blk_ok (by kernel_rfl)) (fun _ _ _ _ _ => (vg_nm sc__law_whole_tree.nd (i := 11) rfl (by first | exact Or.inl rfl | exact Or.inr rfl) (butP_no rfl))) (fun _ _ _ _ _ => vts_nil) (fun _ _ _ _ _ => (w_call (dd := []) takesF hr O__law_left B__law_left_p3 Q.g__law_left F__law_left.kp (va_c (w_var 4) (va_c (w_var 3) (va_c (w_var 11) va_nil)))))))
  (vss_cons (vs_for ps_def rfl (vi_rng1 rfl Q.n_range (va_c (w_len rfl rfl Q.n_len (va_c (w_var 5) va_nil)) va_nil)) (vg_nm sc__law_whole_tree.nd (i := 7) rfl (by first | exact Or.inl rfl | exact Or.inr rfl) (by decide)) (vss_cons (vs_set sc__law_whole_tree.nd (i := 8) rfl (by first | exact Or.inl rfl | exact Or.inr rfl) (by decide) (w_call (dd := []) tk_def hr O_told_row B_told_row_p4 Q.g_told_row F_told_row.kp (va_c (w_var 1) (va_c (w_var 2) (va_c (w_var 3) (va_c (w_ix (w_varW 6) (w_var 7)) va_nil))))))
  (vss_one (vs_if (VW.vt (vw_or (t_ne hr (w_var 8) (w_ix (w_var 5) (w_var 7))) (vw_or (vt_not (vt_tru (v_isi1 rfl Q.n_isinstance (w_var 8) ⟨⟨rfl, Q.n_tuple, PyProof.Rows.boot_tuple, by decide, by decide⟩, True.intro⟩))) (vw_or1 (vt_not (vt_tru (w_call (dd := []) tk_def hr O__law_tuples B__law_tuples_p1 Q.g__law_tuples F__law_tuples.kp (va_c (w_var 8) va_nil)))))))) (vss_one (vs_ret v_bl)) vss_nil))))
  (vss_cons (vs_for ps_def rfl (vi_rng1 rfl Q.n_range (va_c v_int va_nil)) (vg_nm sc__law_whole_tree.nd (i := 9) rfl (by first | exact Or.inl rfl | exact Or.inr rfl) (by decide)) (vss_cons (vs_set sc__law_whole_tree.nd (i := 7) rfl (by first | exact Or.inl rfl | exact Or.inr rfl) (by decide) (w_call (dd := []) tk_def hr O__law_take B__law_take_p2 Q.g__law_take F__law_take.kp (va_c (w_var 0) (va_c (w_len rfl rfl Q.n_len (va_c (w_var 5) va_nil)) va_nil))))
  (vss_cons (vs_set sc__law_whole_tree.nd (i := 10) rfl (by first | exact Or.inl rfl | exact Or.inr rfl) (by decide) (w_call (dd := []) tk_def hr O__law_left B__law_left_p3 Q.g__law_left F__law_left.kp (va_c (w_var 4) (va_c (w_var 3) (va_c (w_call (dd := []) tk_def hr O__law_raw B__law_raw_p3 Q.g__law_raw F__law_raw.kp (va_c (w_var 0) (va_c (w_ix (w_var 5) (w_var 7)) (va_c (w_var 3) va_nil)))) va_nil)))))
  (vss_one (vs_if (VW.vt (vw_or (t_ne hr (w_call (dd := []) tk_def hr O_told_row B_told_row_p4 Q.g_told_row F_told_row.kp (va_c (w_var 1) (va_c (w_var 2) (va_c (w_var 3) (va_c (w_tuple rfl Q.n_tuple (va_c (w_var 10) va_nil)) va_nil))))) (w_ix (w_var 5) (w_var 7))) (vw_or1 (vt_not (vt_tru (w_call (dd := []) tk_def hr O__law_spoilt B__law_spoilt_p6 Q.g__law_spoilt F__law_spoilt.kp (va_c (w_var 0) (va_c (w_var 1) (va_c (w_var 2) (va_c (w_var 3) (va_c (w_var 6) (va_c (w_var 5) va_nil)))))))))))) (vss_one (vs_ret v_bl)) vss_nil)))))
  (vss_one (vs_ret v_bl))))))))))))
theorem sc_law : FnScope ["_law_script", "_law_hand_here"] ["_law_script"] (defScope s_law) := ⟨rfl, rfl, rfl, by decide +kernel, rfl, by decide +kernel, by decide +kernel⟩
theorem ok_law (Q : Fx K mg) : ∃ fd, FunD K "law" "law" (defArgs s_law) (defBody s_law) (defScope s_law) [] [] (He.ga K "law") fd ∧ FnOk P w K mg base (L2.CX P w) 9 (He.ga K "law") fd ["_law_script"] (spV (cn mg K) [false] f_law) ∧ True := by
  obtain ⟨fd, F⟩ := Q.d_law
  obtain ⟨fd__law_great_tree, F__law_great_tree0, O__law_great_tree, B__law_great_tree_p1, _⟩ := ok__law_great_tree (P := P) (w := w) (base := base) Q
  have F__law_great_tree := F__law_great_tree0
  obtain ⟨fd__law_hand, F__law_hand0, O__law_hand, B__law_hand_p1, _⟩ := ok__law_hand (P := P) (w := w) (base := base) Q
  have F__law_hand := F__law_hand0
  obtain ⟨fd__law_refusals, F__law_refusals0, O__law_refusals, B__law_refusals_p1, _⟩ := ok__law_refusals (P := P) (w := w) (base := base) Q
  have F__law_refusals := F__law_refusals0
  obtain ⟨fd__law_take, F__law_take0, O__law_take, B__law_take_p2, _⟩ := ok__law_take (P := P) (w := w) (base := base) Q
  have F__law_take := F__law_take0
  obtain ⟨fd__law_whole_tree, F__law_whole_tree0, O__law_whole_tree, B__law_whole_tree_p1, _⟩ := ok__law_whole_tree (P := P) (w := w) (base := base) Q
  have F__law_whole_tree := F__law_whole_tree0
  refine ⟨fd, F, funV F sc_law [false] m_law rfl (by decide) fun cdv A outer s H E hr => ?_, True.intro⟩
  exact (vss_cons (vs_set sc_law.nd (i := 1) rfl (by first | exact Or.inl rfl | exact Or.inr rfl) (by decide) (w_call (dd := []) tk_def hr O__law_hand B__law_hand_p1 Q.g__law_hand F__law_hand.kp (va_c (w_var 0) va_nil)))
  (vss_cons (vs_if (VW.vt (vw_and (t_eq hr (w_call (dd := []) tk_def hr O__law_take B__law_take_p2 Q.g__law_take F__law_take.kp (va_c (w_var 1) (va_c v_int va_nil))) v_int) (vw_and1 (vt_not (vt_tru (w_call (dd := []) tk_def hr O__law_great_tree B__law_great_tree_p1 Q.g__law_great_tree F__law_great_tree.kp (va_c (w_var 1) va_nil))))))) (vss_one (vs_ret v_bl)) vss_nil)
  (vss_one (vs_ret (v_and (w_call (dd := []) tk_def hr O__law_whole_tree B__law_whole_tree_p1 Q.g__law_whole_tree F__law_whole_tree.kp (va_c (w_var 1) va_nil)) (v_one (w_call (dd := []) tk_def hr O__law_refusals B__law_refusals_p1 Q.g__law_refusals F__law_refusals.kp (va_c (w_var 1) va_nil))))))))
end
end LAWW
end
section
set_option Elab.async false
set_option linter.all false
set_option autoImplicit false
set_option maxRecDepth 100000
set_option maxHeartbeats 0
namespace LAWH
open PySem PySem.Spec PyProof.Rows L2 SV LAWM LAWW

theorem facts {K : PySem.W.Frag} {h : Heap} {mg : Str → Option Value} {w : World} (X : K.In h) (G : h.Ns mainGlobals mg) (c : He.SaysX fa fn [] [] ex w h K) : Fx K mg := by
  have d := c.t.d
  obtain ⟨e1, e23⟩ := Bool.and_eq_true_iff.mp (show ((XL.all fun q => exFB K q.1 q.2) && (exmTab K TAB && ownB K "Picture" ["colours", "ties", "marks"])) = true from c.more)
  obtain ⟨e2, e3⟩ := Bool.and_eq_true_iff.mp e23
  exact {
    g__law_mixed := He.glo_ok X G (d.fact 0 rfl)
    g__law_take := He.glo_ok X G (d.fact 1 rfl)
    g__law_pick := He.glo_ok X G (d.fact 2 rfl)
    g_is_whole := He.glo_ok X G (d.fact 3 rfl)
    g__check_cells := He.glo_ok X G (d.fact 4 rfl)
    g__check_marks := He.glo_ok X G (d.fact 5 rfl)
    g__check_ties := He.glo_ok X G (d.fact 6 rfl)
    g_check_tree := He.glo_ok X G (d.fact 7 rfl)
    g_tree_colours := He.glo_ok X G (d.fact 8 rfl)
    g_other_tones := He.glo_ok X G (d.fact 9 rfl)
    g_tree_rows := He.glo_ok X G (d.fact 10 rfl)
    g_telling_tree := He.glo_ok X G (d.fact 11 rfl)
    g__law_great_tree := He.glo_ok X G (d.fact 12 rfl)
    g__law_hand := He.glo_ok X G (d.fact 13 rfl)
    g_places_within := He.glo_ok X G (d.fact 14 rfl)
    g_row_of_tree := He.glo_ok X G (d.fact 15 rfl)
    g_told_row := He.glo_ok X G (d.fact 16 rfl)
    g__law_asked := He.glo_ok X G (d.fact 17 rfl)
    g__law_total := He.glo_ok X G (d.fact 18 rfl)
    g__law_refusals := He.glo_ok X G (d.fact 19 rfl)
    g__law_all_struck := He.glo_ok X G (d.fact 20 rfl)
    g__law_cells := He.glo_ok X G (d.fact 21 rfl)
    g__law_hidden := He.glo_ok X G (d.fact 22 rfl)
    g__law_left := He.glo_ok X G (d.fact 23 rfl)
    g__law_raw := He.glo_ok X G (d.fact 24 rfl)
    g__law_read := He.glo_ok X G (d.fact 25 rfl)
    g__law_spoilt := He.glo_ok X G (d.fact 26 rfl)
    g__law_tree_right := He.glo_ok X G (d.fact 27 rfl)
    g__law_tuples := He.glo_ok X G (d.fact 28 rfl)
    g__law_whole_tree := He.glo_ok X G (d.fact 29 rfl)
    g_law := He.glo_ok X G (d.fact 30 rfl)
    g_Picture := He.glo_ok X G (d.fact 31 rfl)
    own_Picture := ownB_ok e3
    g_BadPicture := He.glo_ok X G (d.fact 32 rfl)
    g_BadCount := He.glo_ok X G (d.fact 33 rfl)
    g_TooMany := He.glo_ok X G (d.fact 34 rfl)
    g_BadShown := He.glo_ok X G (d.fact 35 rfl)
    n_abs := He.free_ok X G (d.fact 36 rfl)
    n_all := He.free_ok X G (d.fact 37 rfl)
    n_bool := He.free_ok X G (d.fact 38 rfl)
    n_enumerate := He.free_ok X G (d.fact 39 rfl)
    n_int := He.free_ok X G (d.fact 40 rfl)
    n_isinstance := He.free_ok X G (d.fact 41 rfl)
    n_len := He.free_ok X G (d.fact 42 rfl)
    n_list := He.free_ok X G (d.fact 43 rfl)
    n_max := He.free_ok X G (d.fact 44 rfl)
    n_min := He.free_ok X G (d.fact 45 rfl)
    n_range := He.free_ok X G (d.fact 46 rfl)
    n_sorted := He.free_ok X G (d.fact 47 rfl)
    n_sum := He.free_ok X G (d.fact 48 rfl)
    n_tuple := He.free_ok X G (d.fact 49 rfl)
    n_zip := He.free_ok X G (d.fact 50 rfl)
    i_MOST_COLOUR := He.int_ok X G (d.fact 51 rfl)
    i_MOST_TONES := He.int_ok X G (d.fact 52 rfl)
    i_MOST_STEPS := He.int_ok X G (d.fact 53 rfl)
    i_MOST_CELLS := He.int_ok X G (d.fact 54 rfl)
    i_MOST_TIES := He.int_ok X G (d.fact 55 rfl)
    i_MOST_TREE := He.int_ok X G (d.fact 56 rfl)
    em := e2
    xl := fun q hq => exFB_ok (List.all_eq_true.mp e1 q hq)
    xg := fun q hq => by
      simp only [XL, List.mem_cons, List.not_mem_nil, or_false] at hq
      rcases hq with rfl | rfl | rfl | rfl
      · exact He.glo_ok X G (d.fact 32 rfl)
      · exact He.glo_ok X G (d.fact 33 rfl)
      · exact He.glo_ok X G (d.fact 34 rfl)
      · exact He.glo_ok X G (d.fact 35 rfl)
    xg2 := fun q hq => by
      simp only [XN, List.mem_cons, List.not_mem_nil, or_false] at hq
      rcases hq with rfl | rfl | rfl | rfl
      · exact He.glo_ok X G (d.fact 32 rfl)
      · exact He.glo_ok X G (d.fact 33 rfl)
      · exact He.glo_ok X G (d.fact 34 rfl)
      · exact He.glo_ok X G (d.fact 35 rfl)
    d__law_mixed := d.def_ 0 rfl
    d__law_take := d.def_ 1 rfl
    d__law_pick := d.def_ 2 rfl
    d_is_whole := d.def_ 3 rfl
    d__check_cells := d.def_ 4 rfl
    d__check_marks := d.def_ 5 rfl
    d__check_ties := d.def_ 6 rfl
    d_Picture_I := d.def_ 7 rfl
    d_check_tree := d.def_ 8 rfl
    d_tree_colours := d.def_ 9 rfl
    d_other_tones := d.def_ 10 rfl
    d_tree_rows := d.def_ 11 rfl
    d_telling_tree := d.def_ 12 rfl
    d__law_great_tree := d.def_ 13 rfl
    d__law_hand := d.def_ 14 rfl
    d_places_within := d.def_ 15 rfl
    d_row_of_tree := d.def_ 16 rfl
    d_told_row := d.def_ 17 rfl
    d__law_asked := d.def_ 18 rfl
    d__law_total := d.def_ 19 rfl
    d__law_refusals := d.def_ 20 rfl
    d__law_all_struck := d.def_ 21 rfl
    d__law_cells := d.def_ 22 rfl
    d__law_hidden := d.def_ 23 rfl
    d__law_left := d.def_ 24 rfl
    d__law_raw := d.def_ 25 rfl
    d__law_read := d.def_ 26 rfl
    d__law_spoilt := d.def_ 27 rfl
    d__law_tree_right := d.def_ 28 rfl
    d__law_tuples := d.def_ 29 rfl
    d__law_whole_tree := d.def_ 30 rfl
    d_law := d.def_ 31 rfl
    d_BadPicture := d.def_ 32 rfl
    d_BadCount := d.def_ 33 rfl
    d_TooMany := d.def_ 34 rfl
    d_BadShown := d.def_ 35 rfl
  }
end LAWH
open PySem PySem.W PySem.Calls PyProof.Rows
theorem PySem.Challenge.cw_spreadhues_k26_whole_one_picture_tells_a_holds : PySem.Challenge.rw_spreadhues_k26_whole_one_picture_tells_a.Holds := by
  w_on; o_law
  refine HandSHeadRun.head_any (r := OpenLaw.row PySem.Challenge.rw_spreadhues_k26_whole_one_picture_tells_a) (q := view (OpenLaw.row PySem.Challenge.rw_spreadhues_k26_whole_one_picture_tells_a).prog [49]) (H := LAWH.hk) (ob := LAWH.ob) (M := 8400) (loose := LAWH.LO) (d := HandSHeadRun.topDef (OpenLaw.row PySem.Challenge.rw_spreadhues_k26_whole_one_picture_tells_a).prog 49) (kwd := []) LAWH.ob_eq
    (by kernel_rfl) (fun s => by kernel_rfl) LAWH.run (by kernel_rfl) (by kernel_rfl) (by kernel_rfl) (by rfl) (by first | assumption | decide +kernel) (by decide +kernel) ⟨rfl, rfl, rfl, rfl, rfl, by decide +kernel⟩ ?hw ?hc
  case hw => w_witness2
  case hc =>
    refine SV.law_walk (l := PySem.Challenge.rw_spreadhues_k26_whole_one_picture_tells_a) (n := 63) (k := 9) (x := "_law_script") rfl (by decide) (by kernel_rfl) ⟨rfl, by decide, by decide⟩ ?F
    intro w mg fa h Y G hmg0
    obtain ⟨K, KX, c⟩ := Y
    have hmg : mg ("law" : PySem.Str) = some (.ref fa) := by
      have e : (HandSHeadRun.topDef (OpenLaw.row PySem.Challenge.rw_spreadhues_k26_whole_one_picture_tells_a).prog 49).name = ("law" : PySem.Str) := by kernel_rfl
      rw [← e]
      exact hmg0
    have Q := LAWH.facts KX G c
    obtain ⟨fd, F⟩ := Q.d_law
    have e := hmg.symm.trans Q.g_law
    cases e
    have b := L2.FunD.bindsA (ps := ["_law_script"]) F fun _ _ _ _ _ _ us hl => match us, hl with | [_], _ => rfl
    refine ⟨K, fd, SV.spV (SV.cn mg K) [false] LAWM.f_law, KX, fun s v => b s [v] rfl, fun H a ns hl hO hS => SV.law_sp LAWP.law_true H a ns hl hO hS, fun base _ _ => ?_⟩
    obtain ⟨fd2, F2, O, _⟩ := LAWW.ok_law (P := (PySem.Challenge.rw_spreadhues_k26_whole_one_picture_tells_a).prog) (w := w) (base := base) Q
    have e2 : fd2 = fd := SV.fd_uniq F2 F
    rw [← e2]
    exact O
end
