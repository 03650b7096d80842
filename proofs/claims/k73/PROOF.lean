import PyProof.Rows.All
import Wide.All
import OpenK.AllK
import Wide.FinOn
import HandS.ForMost
import HandS.ForExc
import HandS.Wide
import HandS.IsInst
import HandS.Deep
import HandS.Star
import HandS.Flow
import HandS.Zip
import HandS.FStr
import HandS.Style
import HandS.TupAny
import HandS.Conv
import HandS.Codes
import HandS.HeadHook2
import HandS.Lambda
import HandS.Nested
import KE.KRevSl
import KE.GoesEnumKw
import KE.GoesMore
import HandS.Head0
import HandS.Head1
import HandS.Head2
import HandS.HeadEnd
import HandS.HeadHook1
import HandS.CallLocal
import KE.KCallOwn
import PyProof.ReprReads
import PyProof.ReprRoads
import HandS.Exc
import HandS.ExcInit
import HandS.ExcOwn
import HandS.ExcField
import KE.KExcIs
import PyProof.InstNe
import HandS.DictComp
import PyProof.SeqIndex
import HandS.TryOnly
import HandS.ClsMeth
import HandS.HeadNt
import HandS.Text
import HandS.RaiseMore
import HandS.ExcValue
import HandS.HeadHook4
import HandS.EndTab
import HandS.NestedK
import KE.KDictZip
import HandS.Property
import HandS.OwnEq
import PyProof.NeKinds
import PyProof.Rows.StrBin
import PyProof.ReprLen
import PyProof.FitsInt
import PySem.Challenge.RW_handlebends_k73_desks_refuse_and_known_o
set_option Elab.async false
set_option linter.all false
set_option autoImplicit false
set_option maxRecDepth 100000
set_option maxHeartbeats 0
namespace HB
open PySem L2
abbrev AlX : Type := He.AlD × Bool
/-- a constant that is a tuple without a dict -/
def tupN (K : PySem.W.Frag) (x : Str) (vs : List He.Dv) : Bool := He.tupB K x vs && (match K.lookup (He.ga K x) with
  | some o => o.dict.isNone
  | none => false)
end HB
namespace HB
open PySem L2
def oexB (K : PySem.W.Frag) (C : Addr) : Bool := (match K.lookup C with
  | some ⟨.type "type", _, .cls kd, sl⟩ => (match kd.mro, sl.toList with
    | .ref C2 :: bm, [_, _, _, _, some (.builtin n), _] => decide (C2 = C) && (decide (n = "ValueError.__new__") && (!kd.hasDel && (kd.hasDict && PySem.HandSPX.refsVE bm)))
    | _, _ => false)
  | _ => false) && (He.eqO (PySem.W.findIn K (.ref C) "__setattr__") (some (some (.builtin "object.__setattr__"))) && (decide (PySem.W.subIn K (.ref C) (.type "BaseException") = some true) && (decide (PySem.W.typeIn K (.ref C) = some (.type "type")) && PySem.W.keepIn K (.ref C))))
/-- a class over BendError with one field, kept by its own __init__ -/
def excB (K : PySem.W.Frag) (c f : Str) : Bool := oexB K (He.ga K c) && (xfB K (He.ga K c) && (He.eqO (PySem.W.findIn K (.ref (He.ga K c)) f) (some none) && (He.eqO (PySem.W.findIn K (.ref (He.ga K c)) "__init__") (some (some (.ref (He.ma K (He.ga K c) "__init__")))) &&
  decide (PySem.W.typeIn K (.ref (He.ma K (He.ga K c) "__init__")) = some (.type "function")))))
/-- the class that all of them are -/
def botB (K : PySem.W.Frag) (b : Str) : Bool := PySem.W.readsIn K (He.ga K b) (.type "type") && (match PySem.W.findCls K (.ref (He.ga K b)) (.type "type") "__init__" with
  | some (.val (.builtin "ValueError.__init__")) => He.eqO (PySem.W.specialIn K (.ref (He.ga K b)) "__getattribute__") (some (some (.builtin "type.__getattribute__")))
  | _ => false)
end HB
namespace HB
open PySem L2
section
variable {X : Cx} {i : Nat}
/-- what isinstance wants of an error class -/
def isxB (K : PySem.W.Frag) (c : Str) : Bool := (PySem.W.clsIn K (He.ga K c)).isSome && (He.eqO (PySem.W.findIn K (.ref (He.ga K c)) "__class__") (some (some (.builtin "object.__class__"))) && (decide (PySem.W.specialIn K (.builtin "object.__class__") "__get__" = some (some (.builtin "getset_descriptor.__get__"))) &&
  (decide (PySem.W.takesIn K (.builtin "object.__class__") = some true) && decide (PySem.W.mroIn K (He.ga K c) (.type "object") = some true))))
end
end HB
namespace HB
open PySem L2
def obsE (fa : List He.Fa) (fn : List He.DefD) (tp : List (Str × List He.Dv)) (xs : List (PySem.W.Frag → Bool)) (K : PySem.W.Frag) : AlX := (He.obsD fa fn K, (tp.all fun p => tupN K p.1 p.2) && xs.all fun p => p K)
end HB
namespace HB
open PySem L2
section
variable {X : Cx} {E : XK}
def isoB (K : PySem.W.Frag) (c : Str) : Bool := ["NoneType", "bool", "int", "str", "list", "tuple"].all fun T => decide (PySem.W.kitOne K (.type T) (.ref (He.ga K c)) = some false)
end
end HB
namespace HB
open PySem L2
def obsF (as : List Addr) (fa : List He.Fa) (fn : List He.DefD) (tp : List (Str × List He.Dv)) (xs : List (PySem.W.Frag → Bool)) (g : Addr → Option Obj) : AlX := obsE fa fn tp xs (He.frG g (cStatics :: as))
def seenA : List Addr := List.range' 3 1300
end HB
namespace HB
open PySem L2
def excB0 (K : PySem.W.Frag) (c : Str) : Bool := oexB K (He.ga K c) && (He.eqO (PySem.W.findIn K (.ref (He.ga K c)) "__init__") (some (some (.ref (He.ma K (He.ga K c) "__init__")))) &&
  decide (PySem.W.typeIn K (.ref (He.ma K (He.ga K c) "__init__")) = some (.type "function")))
end HB
namespace HB
open PySem L2
def cmDef (c m qual : Str) (st : Stmt) : He5.DefA := ⟨fun K => He5.wf K (He.ga K c) "classmethod" m, m, qual, defArgs st, defBody st, defScope st, [], []⟩
def crB (K : PySem.W.Frag) (c : Str) : Bool := PySem.W.readsIn K (He.ga K c) (.type "type") && decide (PySem.W.specialIn K (.ref (He.ga K c)) "__getattribute__" = some (some (.builtin "type.__getattribute__")))
def cmB (K : PySem.W.Frag) (c m : Str) : Bool := He5.wrapB K (He.ga K c) "classmethod" "classmethod.__get__" m && PySem.W.fnIn K (He5.wf K (He.ga K c) "classmethod" m)
def hookG (as : List Addr) (fa : List He.Fa) (fn : List He.DefD) (fm : List He5.DefA) (tp : List (Str × List He.Dv)) (xs : List (PySem.W.Frag → Bool)) : PySem.W.Hook where
  α := AlX × He.AlD
  obs := fun s => (obsF as fa fn tp xs s.heap.get?, He5.obsA [] fm (He.frG s.heap.get? (cStatics :: as)))
  val := fun _ => ((He.valD fn, true), He5.valA fm)
  says := fun _ h => ∃ K : PySem.W.Frag, K.In h ∧ He.SaysD fa fn K ∧ (tp.all fun p => tupN K p.1 p.2) = true ∧ (xs.all fun p => p K) = true ∧ He5.SaysA [] fm K
  of := fun _ _ e => ⟨_, He.frG_in, congrArg (fun z : AlX × He.AlD => z.1.1) e, (He.ba (congrArg (fun z : AlX × He.AlD => z.1.2) e)).1, (He.ba (congrArg (fun z : AlX × He.AlD => z.1.2) e)).2, congrArg (fun z : AlX × He.AlD => z.2) e⟩
  keeps := fun _ _ _ y k => let ⟨K, hK, said⟩ := y; ⟨K, hK.keeps k, said⟩
def obsG (as : List Addr) (fa : List He.Fa) (fn : List He.DefD) (fm : List He5.DefA) (tp : List (Str × List He.Dv)) (xs : List (PySem.W.Frag → Bool)) (g : Addr → Option Obj) : AlX × He.AlD := (obsF as fa fn tp xs g, He5.obsA [] fm (He.frG g (cStatics :: as)))
end HB
namespace HB
open PySem L2 NdefX LamX
def noFd (K : PySem.W.Frag) (x : Str) : Bool := match K.lookup (He.ga K x) with
  | some ⟨_, _, .func _, _⟩ => false
  | _ => true
end HB
namespace HB
open PySem L2
abbrev propA (K : PySem.W.Frag) (c m : Str) : Addr := He5.wf K (He.ga K c) "property" m
/-- what the look at the head tells of a property -/
def propB (K : PySem.W.Frag) (c m : Str) : Bool := (match PySem.W.findIn K (.ref (He.ga K c)) m with
    | some (some (.ref p)) => decide (p = He.ma K (He.ga K c) m)
    | _ => false) && (decide (PySem.W.specialIn K (.ref (He.ma K (He.ga K c) m)) "__get__" = some (some (.builtin "property.__get__"))) && (decide (PySem.W.takesIn K (.ref (He.ma K (He.ga K c) m)) = some true) && (match PySem.W.recIn K (He.ma K (He.ga K c) m) "property" with
    | some (.ref g :: _) => decide (g = propA K c m)
    | _ => false)))
end HB
namespace HB
open PySem L2 PySem.SeqAt PySem.Spec PyProof.Rows
open SeqRoads2 MeetsSeq3 MeetsSeq2 MeetsSeq AutoSeq1
/-- a property's def -/
def prDef (c m qual : Str) (st : Stmt) : He5.DefA := ⟨fun K => propA K c m, m, qual, defArgs st, defBody st, defScope st, [], []⟩
end HB
namespace HB
open PySem L2
def apartB (cs : List Str) (K : PySem.W.Frag) : Bool := cs.all fun c => cs.all fun c' => decide (PySem.W.exmOne K (.ref (He.ga K c)) (.ref (He.ga K c')) = some (decide (c = c')))
end HB
namespace HB
open PySem L2 PySem.Spec PyProof.Rows
def rowDB (e : DictEntry) (p : Int × Str) : Bool := (match e.key, e.val with
  | .int i _, .str z _ => decide (i = p.1) && decide (z = p.2)
  | _, _ => false) && decide (e.hash = hashInt p.1)
def rowsB : List DictEntry → List (Int × Str) → Bool
  | [], [] => true
  | e :: es, p :: ps => rowDB e p && rowsB es ps
  | _, _ => false
def isDT : Value → Bool
  | .type t => t == "dict"
  | _ => false
def rowsD (tab : List (Int × Str)) : Data → Bool
  | .dict es _ => rowsB es.toList tab
  | _ => false
def exD (tab : List (Int × Str)) (o : Obj) : Bool := isDT o.cls && (o.dict.isNone && (Nat.beq o.slots.size 0 && rowsD tab o.data))
def glDic (x : Str) (tab : List (Int × Str)) (K : PySem.W.Frag) : Bool := match K.lookup (He.ga K x) with
  | some o => exD tab o
  | none => false
end HB
namespace HB
open PySem L2
def topS (i : Nat) : Stmt := PySem.Challenge.pw_handlebends_k73_desks_refuse_and_known_o.main.body.getD i (.Pass ⟨0, 0, 0, 0⟩)
abbrev s_Desk_init : Stmt := (C8.clsBody (topS 108)).getD 0 (.Pass ⟨0, 0, 0, 0⟩)
abbrev s_InvalidBend_init : Stmt := (C8.clsBody (topS 3)).getD 0 (.Pass ⟨0, 0, 0, 0⟩)
abbrev s_is_less : Stmt := topS 25
abbrev s_is_sequence : Stmt := topS 16
abbrev s_common_part : Stmt := topS 17
abbrev s_is_integer : Stmt := topS 15
abbrev s_is_value : Stmt := topS 19
abbrev s_value_of : Stmt := topS 20
abbrev s_are_marks : Stmt := topS 35
abbrev s_text_of : Stmt := topS 30
abbrev s_text_of_bend : Stmt := topS 37
abbrev s_Bend_init : Stmt := (C8.clsBody (topS 36)).getD 0 (.Pass ⟨0, 0, 0, 0⟩)
abbrev s_Bend___len__ : Stmt := (C8.clsBody (topS 36)).getD 2 (.Pass ⟨0, 0, 0, 0⟩)
abbrev s_InvalidText_init : Stmt := (C8.clsBody (topS 4)).getD 0 (.Pass ⟨0, 0, 0, 0⟩)
abbrev s_number_in_v70a5 : Stmt := topS 31
abbrev s_value_in_vdbf8 : Stmt := topS 32
abbrev s_values_in_v091a : Stmt := topS 33
abbrev s_rows_in_vbcc3 : Stmt := topS 38
abbrev s_Bend_read_o : Stmt := (C8.clsBody (topS 36)).getD 1 (.Pass ⟨0, 0, 0, 0⟩)
abbrev s_Bend___str__ : Stmt := (C8.clsBody (topS 36)).getD 4 (.Pass ⟨0, 0, 0, 0⟩)
abbrev s_Live_bend : Stmt := (C8.clsBody (topS 98)).getD 1 (.Pass ⟨0, 0, 0, 0⟩)
abbrev s_Live_signs : Stmt := (C8.clsBody (topS 98)).getD 2 (.Pass ⟨0, 0, 0, 0⟩)
abbrev s_knots_of : Stmt := topS 39
abbrev s_Piece_init : Stmt := (C8.clsBody (topS 61)).getD 0 (.Pass ⟨0, 0, 0, 0⟩)
abbrev s_in_lowest : Stmt := topS 18
abbrev s_less_by : Stmt := topS 22
abbrev s_power_at : Stmt := topS 48
abbrev s_trimmed : Stmt := topS 47
abbrev s_poly_less : Stmt := topS 50
abbrev s_added : Stmt := topS 21
abbrev s_poly_sum : Stmt := topS 49
abbrev s_multiplied : Stmt := topS 23
abbrev s_poly_times : Stmt := topS 52
abbrev s_quotient : Stmt := topS 24
abbrev s_share_poly : Stmt := topS 62
abbrev s_piece_at : Stmt := topS 63
abbrev s_pieces_of : Stmt := topS 64
abbrev s_poly_at : Stmt := topS 53
abbrev s_is_at_most : Stmt := topS 26
abbrev s_poly_in : Stmt := topS 65
abbrev s_curve_at : Stmt := topS 92
abbrev s_Place_is_known : Stmt := (C8.clsBody (topS 81)).getD 1 (.Pass ⟨0, 0, 0, 0⟩)
abbrev s_middle_of : Stmt := topS 29
abbrev s_gaps_in : Stmt := topS 91
abbrev s_Place_init : Stmt := (C8.clsBody (topS 81)).getD 0 (.Pass ⟨0, 0, 0, 0⟩)
abbrev s_changes_of : Stmt := topS 84
abbrev s_sign_of : Stmt := topS 27
abbrev s_changes_at : Stmt := topS 85
abbrev s_poly_scaled : Stmt := topS 51
abbrev s_divided : Stmt := topS 55
abbrev s_common_factor : Stmt := topS 56
abbrev s_poly_slope : Stmt := topS 54
abbrev s_plain_part : Stmt := topS 82
abbrev s_sorted_places : Stmt := topS 87
abbrev s_sturm_row : Stmt := topS 83
abbrev s_without_zero : Stmt := topS 86
abbrev s_times_between : Stmt := topS 88
abbrev s_with_stretch : Stmt := topS 89
abbrev s_places_in : Stmt := topS 90
abbrev s_signs_in : Stmt := topS 93
abbrev s_sign_row : Stmt := topS 94
abbrev s_Live_undo : Stmt := (C8.clsBody (topS 98)).getD 8 (.Pass ⟨0, 0, 0, 0⟩)
abbrev s_order_at : Stmt := topS 57
abbrev s_alike_slopes : Stmt := topS 67
abbrev s_merged : Stmt := topS 68
abbrev s_choices : Stmt := topS 58
abbrev s_shared : Stmt := topS 59
abbrev s_bend_with_v58ff : Stmt := topS 66
abbrev s_least_of_v2f02 : Stmt := topS 69
abbrev s_least_v607e : Stmt := topS 78
abbrev s_told_signs : Stmt := topS 104
abbrev s_Desk_alone : Stmt := (C8.clsBody (topS 108)).getD 3 (.Pass ⟨0, 0, 0, 0⟩)
abbrev s_Live_go_on : Stmt := (C8.clsBody (topS 98)).getD 3 (.Pass ⟨0, 0, 0, 0⟩)
abbrev s_InvalidTime_init : Stmt := (C8.clsBody (topS 5)).getD 0 (.Pass ⟨0, 0, 0, 0⟩)
abbrev s_need_inside : Stmt := topS 70
abbrev s_put_in : Stmt := topS 73
abbrev s_with_mark_v73ae : Stmt := topS 75
abbrev s_Live_mark : Stmt := (C8.clsBody (topS 98)).getD 6 (.Pass ⟨0, 0, 0, 0⟩)
abbrev s_Bend___eq__ : Stmt := (C8.clsBody (topS 36)).getD 3 (.Pass ⟨0, 0, 0, 0⟩)
abbrev s_NoMark_init : Stmt := (C8.clsBody (topS 7)).getD 0 (.Pass ⟨0, 0, 0, 0⟩)
abbrev s_taken_out : Stmt := topS 74
abbrev s_smooth_at : Stmt := topS 71
abbrev s_wanted_at : Stmt := topS 76
abbrev s_without_mark_v2561 : Stmt := topS 77
abbrev s_Live_unmark : Stmt := (C8.clsBody (topS 98)).getD 7 (.Pass ⟨0, 0, 0, 0⟩)
abbrev s_share_of : Stmt := topS 42
abbrev s_span_of : Stmt := topS 41
abbrev s_all_weights : Stmt := topS 43
abbrev s_need_time : Stmt := topS 40
abbrev s_summed : Stmt := topS 28
abbrev s_value : Stmt := topS 44
abbrev s_Desk_timed : Stmt := (C8.clsBody (topS 108)).getD 2 (.Pass ⟨0, 0, 0, 0⟩)
abbrev s_InvalidCommand_init : Stmt := (C8.clsBody (topS 6)).getD 0 (.Pass ⟨0, 0, 0, 0⟩)
abbrev s_Live_init : Stmt := (C8.clsBody (topS 98)).getD 0 (.Pass ⟨0, 0, 0, 0⟩)
abbrev s_Refused_init : Stmt := (C8.clsBody (topS 8)).getD 0 (.Pass ⟨0, 0, 0, 0⟩)
abbrev s_is_pull : Stmt := topS 96
abbrev s_pulled_v4480 : Stmt := topS 97
abbrev s_Live_pull_o : Stmt := (C8.clsBody (topS 98)).getD 4 (.Pass ⟨0, 0, 0, 0⟩)
abbrev s_number_of : Stmt := topS 106
abbrev s_time_of : Stmt := topS 107
abbrev s_words_of : Stmt := topS 105
abbrev s_Desk_say_o : Stmt := (C8.clsBody (topS 108)).getD 1 (.Pass ⟨0, 0, 0, 0⟩)
abbrev s_Live___len__ : Stmt := (C8.clsBody (topS 98)).getD 10 (.Pass ⟨0, 0, 0, 0⟩)
abbrev s_law_box : Stmt := topS 110
abbrev s_law_heard_v5980_o : Stmt := topS 114
abbrev s_law_take : Stmt := topS 111
abbrev s_law_pick : Stmt := topS 112
abbrev s_law_value_ve847 : Stmt := topS 113
abbrev s_law : Stmt := topS 115
end HB
namespace HB
open PySem L2
def fa0 : List He.Fa := [.free "abs",
  .free "all",
  .free "any",
  .free "bool",
  .free "enumerate",
  .free "int",
  .free "isinstance",
  .free "len",
  .free "list",
  .free "max",
  .free "min",
  .free "range",
  .free "repr",
  .free "str",
  .free "tuple",
  .free "zip",
  .glo "ALONE",
  .str "DIGITS" "0123456789",
  .glo "DOWN",
  .int "MOST_DIGITS_desk" 2,
  .int "MOST_DIGITS_values" 9,
  .glo "NONE",
  .glo "NOUGHT",
  .glo "ONE",
  .int "PAIR" 2,
  .glo "TIMED",
  .cls "Bend",
  .mkr "Bend",
  .glo "Bend",
  .cls "Desk"]
def fa1 : List He.Fa := [.mkr "Desk",
  .glo "Desk",
  .cls "Live",
  .mkr "Live",
  .glo "Live",
  .cls "Piece",
  .mkr "Piece",
  .glo "Piece",
  .cls "Place",
  .mkr "Place",
  .glo "Place",
  .meth "Bend" "__len__",
  .meth "Bend" "__str__",
  .meth "Place" "is_known",
  .meth "Live" "undo",
  .meth "Desk" "alone",
  .meth "Live" "go_on",
  .meth "Live" "mark",
  .meth "Bend" "__eq__",
  .meth "Live" "unmark",
  .meth "Desk" "timed",
  .meth "Live" "pull",
  .meth "Desk" "say",
  .meth "Live" "__len__",
  .glo "SIGNS",
  .glo "BendError",
  .glo "InvalidBend",
  .glo "InvalidCommand",
  .glo "InvalidText",
  .glo "InvalidTime"]
def fa2 : List He.Fa := [.glo "NoMark",
  .glo "Refused",
  .noat "Bend" "degree",
  .noat "Bend" "handles",
  .noat "Bend" "marks",
  .noat "Bend" "text",
  .noat "Desk" "live",
  .noat "Live" "now",
  .noat "Live" "past",
  .noat "Live" "row",
  .noat "Piece" "end",
  .noat "Piece" "poly",
  .noat "Piece" "start",
  .noat "Place" "factor",
  .noat "Place" "first",
  .noat "Place" "is_stretch",
  .noat "Place" "last",
  .noat "Place" "poly",
  .glo "is_less",
  .glo "is_sequence",
  .glo "common_part",
  .glo "is_integer",
  .glo "is_value",
  .glo "value_of",
  .glo "are_marks",
  .glo "text_of",
  .glo "text_of_bend",
  .glo "number_in",
  .glo "value_in",
  .glo "values_in"]
def fa3 : List He.Fa := [.glo "rows_in",
  .glo "knots_of",
  .glo "in_lowest",
  .glo "less_by",
  .glo "power_at",
  .glo "trimmed",
  .glo "poly_less",
  .glo "added",
  .glo "poly_sum",
  .glo "multiplied",
  .glo "poly_times",
  .glo "quotient",
  .glo "share_poly",
  .glo "piece_at",
  .glo "pieces_of",
  .glo "poly_at",
  .glo "is_at_most",
  .glo "poly_in",
  .glo "curve_at",
  .glo "middle_of",
  .glo "gaps_in",
  .glo "changes_of",
  .glo "sign_of",
  .glo "changes_at",
  .glo "poly_scaled",
  .glo "divided",
  .glo "common_factor",
  .glo "poly_slope",
  .glo "plain_part",
  .glo "sorted_places"]
def fa4 : List He.Fa := [.glo "sturm_row",
  .glo "without_zero",
  .glo "times_between",
  .glo "with_stretch",
  .glo "places_in",
  .glo "signs_in",
  .glo "sign_row",
  .glo "order_at",
  .glo "alike_slopes",
  .glo "merged",
  .glo "choices",
  .glo "shared",
  .glo "bend_with",
  .glo "least_of",
  .glo "least",
  .glo "told_signs",
  .glo "need_inside",
  .glo "put_in",
  .glo "with_mark",
  .glo "taken_out",
  .glo "smooth_at",
  .glo "wanted_at",
  .glo "without_mark",
  .glo "share_of",
  .glo "span_of",
  .glo "all_weights",
  .glo "need_time",
  .glo "summed",
  .glo "value",
  .glo "is_pull"]
def fa5 : List He.Fa := [.glo "pulled",
  .glo "number_of",
  .glo "time_of",
  .glo "words_of",
  .glo "_law_box",
  .glo "_law_heard",
  .glo "_law_take",
  .glo "_law_pick",
  .glo "_law_value",
  .glo "law"]
def fa : List He.Fa := fa0 ++ fa1 ++ fa2 ++ fa3 ++ fa4 ++ fa5
def fn0 : List He.DefD := [⟨("Desk", some "__init__"), "__init__", "Desk.__init__", defArgs s_Desk_init, defBody s_Desk_init, defScope s_Desk_init, [], []⟩,
  ⟨("InvalidBend", some "__init__"), "__init__", "InvalidBend.__init__", defArgs s_InvalidBend_init, defBody s_InvalidBend_init, defScope s_InvalidBend_init, [], []⟩,
  ⟨("is_less", none), "is_less", "is_less", defArgs s_is_less, defBody s_is_less, defScope s_is_less, [], []⟩,
  ⟨("is_sequence", none), "is_sequence", "is_sequence", defArgs s_is_sequence, defBody s_is_sequence, defScope s_is_sequence, [], []⟩,
  ⟨("common_part", none), "common_part", "common_part", defArgs s_common_part, defBody s_common_part, defScope s_common_part, [], []⟩,
  ⟨("is_integer", none), "is_integer", "is_integer", defArgs s_is_integer, defBody s_is_integer, defScope s_is_integer, [], []⟩,
  ⟨("is_value", none), "is_value", "is_value", defArgs s_is_value, defBody s_is_value, defScope s_is_value, [], []⟩,
  ⟨("value_of", none), "value_of", "value_of", defArgs s_value_of, defBody s_value_of, defScope s_value_of, [], []⟩,
  ⟨("are_marks", none), "are_marks", "are_marks", defArgs s_are_marks, defBody s_are_marks, defScope s_are_marks, [], []⟩,
  ⟨("text_of", none), "text_of", "text_of", defArgs s_text_of, defBody s_text_of, defScope s_text_of, [], []⟩,
  ⟨("text_of_bend", none), "text_of_bend", "text_of_bend", defArgs s_text_of_bend, defBody s_text_of_bend, defScope s_text_of_bend, [], []⟩,
  ⟨("Bend", some "__init__"), "__init__", "Bend.__init__", defArgs s_Bend_init, defBody s_Bend_init, defScope s_Bend_init, [], []⟩,
  ⟨("Bend", some "__len__"), "__len__", "Bend.__len__", defArgs s_Bend___len__, defBody s_Bend___len__, defScope s_Bend___len__, [], []⟩,
  ⟨("InvalidText", some "__init__"), "__init__", "InvalidText.__init__", defArgs s_InvalidText_init, defBody s_InvalidText_init, defScope s_InvalidText_init, [], []⟩,
  ⟨("number_in", none), "number_in", "number_in", defArgs s_number_in_v70a5, defBody s_number_in_v70a5, defScope s_number_in_v70a5, [], []⟩,
  ⟨("value_in", none), "value_in", "value_in", defArgs s_value_in_vdbf8, defBody s_value_in_vdbf8, defScope s_value_in_vdbf8, [], []⟩,
  ⟨("values_in", none), "values_in", "values_in", defArgs s_values_in_v091a, defBody s_values_in_v091a, defScope s_values_in_v091a, [], []⟩,
  ⟨("rows_in", none), "rows_in", "rows_in", defArgs s_rows_in_vbcc3, defBody s_rows_in_vbcc3, defScope s_rows_in_vbcc3, [], []⟩,
  ⟨("Bend", some "__str__"), "__str__", "Bend.__str__", defArgs s_Bend___str__, defBody s_Bend___str__, defScope s_Bend___str__, [], []⟩,
  ⟨("knots_of", none), "knots_of", "knots_of", defArgs s_knots_of, defBody s_knots_of, defScope s_knots_of, [], []⟩,
  ⟨("Piece", some "__init__"), "__init__", "Piece.__init__", defArgs s_Piece_init, defBody s_Piece_init, defScope s_Piece_init, [], []⟩,
  ⟨("in_lowest", none), "in_lowest", "in_lowest", defArgs s_in_lowest, defBody s_in_lowest, defScope s_in_lowest, [], []⟩,
  ⟨("less_by", none), "less_by", "less_by", defArgs s_less_by, defBody s_less_by, defScope s_less_by, [], []⟩,
  ⟨("power_at", none), "power_at", "power_at", defArgs s_power_at, defBody s_power_at, defScope s_power_at, [], []⟩,
  ⟨("trimmed", none), "trimmed", "trimmed", defArgs s_trimmed, defBody s_trimmed, defScope s_trimmed, [], []⟩,
  ⟨("poly_less", none), "poly_less", "poly_less", defArgs s_poly_less, defBody s_poly_less, defScope s_poly_less, [], []⟩,
  ⟨("added", none), "added", "added", defArgs s_added, defBody s_added, defScope s_added, [], []⟩,
  ⟨("poly_sum", none), "poly_sum", "poly_sum", defArgs s_poly_sum, defBody s_poly_sum, defScope s_poly_sum, [], []⟩,
  ⟨("multiplied", none), "multiplied", "multiplied", defArgs s_multiplied, defBody s_multiplied, defScope s_multiplied, [], []⟩,
  ⟨("poly_times", none), "poly_times", "poly_times", defArgs s_poly_times, defBody s_poly_times, defScope s_poly_times, [], []⟩]
def fn1 : List He.DefD := [⟨("quotient", none), "quotient", "quotient", defArgs s_quotient, defBody s_quotient, defScope s_quotient, [], []⟩,
  ⟨("share_poly", none), "share_poly", "share_poly", defArgs s_share_poly, defBody s_share_poly, defScope s_share_poly, [], []⟩,
  ⟨("piece_at", none), "piece_at", "piece_at", defArgs s_piece_at, defBody s_piece_at, defScope s_piece_at, [], []⟩,
  ⟨("pieces_of", none), "pieces_of", "pieces_of", defArgs s_pieces_of, defBody s_pieces_of, defScope s_pieces_of, [], []⟩,
  ⟨("poly_at", none), "poly_at", "poly_at", defArgs s_poly_at, defBody s_poly_at, defScope s_poly_at, [], []⟩,
  ⟨("is_at_most", none), "is_at_most", "is_at_most", defArgs s_is_at_most, defBody s_is_at_most, defScope s_is_at_most, [], []⟩,
  ⟨("poly_in", none), "poly_in", "poly_in", defArgs s_poly_in, defBody s_poly_in, defScope s_poly_in, [], []⟩,
  ⟨("curve_at", none), "curve_at", "curve_at", defArgs s_curve_at, defBody s_curve_at, defScope s_curve_at, [], []⟩,
  ⟨("Place", some "is_known"), "is_known", "Place.is_known", defArgs s_Place_is_known, defBody s_Place_is_known, defScope s_Place_is_known, [], []⟩,
  ⟨("middle_of", none), "middle_of", "middle_of", defArgs s_middle_of, defBody s_middle_of, defScope s_middle_of, [], []⟩,
  ⟨("gaps_in", none), "gaps_in", "gaps_in", defArgs s_gaps_in, defBody s_gaps_in, defScope s_gaps_in, [], []⟩,
  ⟨("Place", some "__init__"), "__init__", "Place.__init__", defArgs s_Place_init, defBody s_Place_init, defScope s_Place_init, [], []⟩,
  ⟨("changes_of", none), "changes_of", "changes_of", defArgs s_changes_of, defBody s_changes_of, defScope s_changes_of, [], []⟩,
  ⟨("sign_of", none), "sign_of", "sign_of", defArgs s_sign_of, defBody s_sign_of, defScope s_sign_of, [], []⟩,
  ⟨("changes_at", none), "changes_at", "changes_at", defArgs s_changes_at, defBody s_changes_at, defScope s_changes_at, [], []⟩,
  ⟨("poly_scaled", none), "poly_scaled", "poly_scaled", defArgs s_poly_scaled, defBody s_poly_scaled, defScope s_poly_scaled, [], []⟩,
  ⟨("divided", none), "divided", "divided", defArgs s_divided, defBody s_divided, defScope s_divided, [], []⟩,
  ⟨("common_factor", none), "common_factor", "common_factor", defArgs s_common_factor, defBody s_common_factor, defScope s_common_factor, [], []⟩,
  ⟨("poly_slope", none), "poly_slope", "poly_slope", defArgs s_poly_slope, defBody s_poly_slope, defScope s_poly_slope, [], []⟩,
  ⟨("plain_part", none), "plain_part", "plain_part", defArgs s_plain_part, defBody s_plain_part, defScope s_plain_part, [], []⟩,
  ⟨("sorted_places", none), "sorted_places", "sorted_places", defArgs s_sorted_places, defBody s_sorted_places, defScope s_sorted_places, [], []⟩,
  ⟨("sturm_row", none), "sturm_row", "sturm_row", defArgs s_sturm_row, defBody s_sturm_row, defScope s_sturm_row, [], []⟩,
  ⟨("without_zero", none), "without_zero", "without_zero", defArgs s_without_zero, defBody s_without_zero, defScope s_without_zero, [], []⟩,
  ⟨("times_between", none), "times_between", "times_between", defArgs s_times_between, defBody s_times_between, defScope s_times_between, [], []⟩,
  ⟨("with_stretch", none), "with_stretch", "with_stretch", defArgs s_with_stretch, defBody s_with_stretch, defScope s_with_stretch, [], []⟩,
  ⟨("places_in", none), "places_in", "places_in", defArgs s_places_in, defBody s_places_in, defScope s_places_in, [], []⟩,
  ⟨("signs_in", none), "signs_in", "signs_in", defArgs s_signs_in, defBody s_signs_in, defScope s_signs_in, [], []⟩,
  ⟨("sign_row", none), "sign_row", "sign_row", defArgs s_sign_row, defBody s_sign_row, defScope s_sign_row, [], []⟩,
  ⟨("Live", some "undo"), "undo", "Live.undo", defArgs s_Live_undo, defBody s_Live_undo, defScope s_Live_undo, [], []⟩,
  ⟨("order_at", none), "order_at", "order_at", defArgs s_order_at, defBody s_order_at, defScope s_order_at, [], []⟩]
def fn2 : List He.DefD := [⟨("alike_slopes", none), "alike_slopes", "alike_slopes", defArgs s_alike_slopes, defBody s_alike_slopes, defScope s_alike_slopes, [], []⟩,
  ⟨("merged", none), "merged", "merged", defArgs s_merged, defBody s_merged, defScope s_merged, [], []⟩,
  ⟨("choices", none), "choices", "choices", defArgs s_choices, defBody s_choices, defScope s_choices, [], []⟩,
  ⟨("shared", none), "shared", "shared", defArgs s_shared, defBody s_shared, defScope s_shared, [], []⟩,
  ⟨("bend_with", none), "bend_with", "bend_with", defArgs s_bend_with_v58ff, defBody s_bend_with_v58ff, defScope s_bend_with_v58ff, [], []⟩,
  ⟨("least_of", none), "least_of", "least_of", defArgs s_least_of_v2f02, defBody s_least_of_v2f02, defScope s_least_of_v2f02, [], []⟩,
  ⟨("least", none), "least", "least", defArgs s_least_v607e, defBody s_least_v607e, defScope s_least_v607e, [], []⟩,
  ⟨("told_signs", none), "told_signs", "told_signs", defArgs s_told_signs, defBody s_told_signs, defScope s_told_signs, [], []⟩,
  ⟨("Desk", some "alone"), "alone", "Desk.alone", defArgs s_Desk_alone, defBody s_Desk_alone, defScope s_Desk_alone, [], []⟩,
  ⟨("Live", some "go_on"), "go_on", "Live.go_on", defArgs s_Live_go_on, defBody s_Live_go_on, defScope s_Live_go_on, [], []⟩,
  ⟨("InvalidTime", some "__init__"), "__init__", "InvalidTime.__init__", defArgs s_InvalidTime_init, defBody s_InvalidTime_init, defScope s_InvalidTime_init, [], []⟩,
  ⟨("need_inside", none), "need_inside", "need_inside", defArgs s_need_inside, defBody s_need_inside, defScope s_need_inside, [], []⟩,
  ⟨("put_in", none), "put_in", "put_in", defArgs s_put_in, defBody s_put_in, defScope s_put_in, [], []⟩,
  ⟨("with_mark", none), "with_mark", "with_mark", defArgs s_with_mark_v73ae, defBody s_with_mark_v73ae, defScope s_with_mark_v73ae, [], []⟩,
  ⟨("Live", some "mark"), "mark", "Live.mark", defArgs s_Live_mark, defBody s_Live_mark, defScope s_Live_mark, [], []⟩,
  ⟨("Bend", some "__eq__"), "__eq__", "Bend.__eq__", defArgs s_Bend___eq__, defBody s_Bend___eq__, defScope s_Bend___eq__, [], []⟩,
  ⟨("NoMark", some "__init__"), "__init__", "NoMark.__init__", defArgs s_NoMark_init, defBody s_NoMark_init, defScope s_NoMark_init, [], []⟩,
  ⟨("taken_out", none), "taken_out", "taken_out", defArgs s_taken_out, defBody s_taken_out, defScope s_taken_out, [], []⟩,
  ⟨("smooth_at", none), "smooth_at", "smooth_at", defArgs s_smooth_at, defBody s_smooth_at, defScope s_smooth_at, [], []⟩,
  ⟨("wanted_at", none), "wanted_at", "wanted_at", defArgs s_wanted_at, defBody s_wanted_at, defScope s_wanted_at, [], []⟩,
  ⟨("without_mark", none), "without_mark", "without_mark", defArgs s_without_mark_v2561, defBody s_without_mark_v2561, defScope s_without_mark_v2561, [], []⟩,
  ⟨("Live", some "unmark"), "unmark", "Live.unmark", defArgs s_Live_unmark, defBody s_Live_unmark, defScope s_Live_unmark, [], []⟩,
  ⟨("share_of", none), "share_of", "share_of", defArgs s_share_of, defBody s_share_of, defScope s_share_of, [], []⟩,
  ⟨("span_of", none), "span_of", "span_of", defArgs s_span_of, defBody s_span_of, defScope s_span_of, [], []⟩,
  ⟨("all_weights", none), "all_weights", "all_weights", defArgs s_all_weights, defBody s_all_weights, defScope s_all_weights, [], []⟩,
  ⟨("need_time", none), "need_time", "need_time", defArgs s_need_time, defBody s_need_time, defScope s_need_time, [], []⟩,
  ⟨("summed", none), "summed", "summed", defArgs s_summed, defBody s_summed, defScope s_summed, [], []⟩,
  ⟨("value", none), "value", "value", defArgs s_value, defBody s_value, defScope s_value, [], []⟩,
  ⟨("Desk", some "timed"), "timed", "Desk.timed", defArgs s_Desk_timed, defBody s_Desk_timed, defScope s_Desk_timed, [], []⟩,
  ⟨("InvalidCommand", some "__init__"), "__init__", "InvalidCommand.__init__", defArgs s_InvalidCommand_init, defBody s_InvalidCommand_init, defScope s_InvalidCommand_init, [], []⟩]
def fn3 : List He.DefD := [⟨("Live", some "__init__"), "__init__", "Live.__init__", defArgs s_Live_init, defBody s_Live_init, defScope s_Live_init, [], []⟩,
  ⟨("Refused", some "__init__"), "__init__", "Refused.__init__", defArgs s_Refused_init, defBody s_Refused_init, defScope s_Refused_init, [], []⟩,
  ⟨("is_pull", none), "is_pull", "is_pull", defArgs s_is_pull, defBody s_is_pull, defScope s_is_pull, [], []⟩,
  ⟨("pulled", none), "pulled", "pulled", defArgs s_pulled_v4480, defBody s_pulled_v4480, defScope s_pulled_v4480, [], []⟩,
  ⟨("Live", some "pull"), "pull", "Live.pull", defArgs s_Live_pull_o, defBody s_Live_pull_o, defScope s_Live_pull_o, [], []⟩,
  ⟨("number_of", none), "number_of", "number_of", defArgs s_number_of, defBody s_number_of, defScope s_number_of, [], []⟩,
  ⟨("time_of", none), "time_of", "time_of", defArgs s_time_of, defBody s_time_of, defScope s_time_of, [], []⟩,
  ⟨("words_of", none), "words_of", "words_of", defArgs s_words_of, defBody s_words_of, defScope s_words_of, [], []⟩,
  ⟨("Desk", some "say"), "say", "Desk.say", defArgs s_Desk_say_o, defBody s_Desk_say_o, defScope s_Desk_say_o, [], []⟩,
  ⟨("Live", some "__len__"), "__len__", "Live.__len__", defArgs s_Live___len__, defBody s_Live___len__, defScope s_Live___len__, [], []⟩,
  ⟨("_law_box", none), "_law_box", "_law_box", defArgs s_law_box, defBody s_law_box, defScope s_law_box, [], []⟩,
  ⟨("_law_heard", none), "_law_heard", "_law_heard", defArgs s_law_heard_v5980_o, defBody s_law_heard_v5980_o, defScope s_law_heard_v5980_o, [], []⟩,
  ⟨("_law_take", none), "_law_take", "_law_take", defArgs s_law_take, defBody s_law_take, defScope s_law_take, [], []⟩,
  ⟨("_law_pick", none), "_law_pick", "_law_pick", defArgs s_law_pick, defBody s_law_pick, defScope s_law_pick, [], []⟩,
  ⟨("_law_value", none), "_law_value", "_law_value", defArgs s_law_value_ve847, defBody s_law_value_ve847, defScope s_law_value_ve847, [], []⟩,
  ⟨("law", none), "law", "law", defArgs s_law, defBody s_law, defScope s_law, [], []⟩]
def fn : List He.DefD := fn0 ++ fn1 ++ fn2 ++ fn3
def tp0 : List (Str × List He.Dv) := [("ALONE", [.str "signs", .str "least", .str "undo"]),
  ("DOWN", [.int (-1), .int 1]),
  ("NONE", []),
  ("NOUGHT", [.int 0, .int 1]),
  ("ONE", [.int 1, .int 1]),
  ("TIMED", [.str "mark", .str "unmark", .str "value"])]
def tp : List (Str × List He.Dv) := tp0
def loo0 : List Str := ["_wall",
  "__name__",
  "BendError",
  "InvalidBend",
  "InvalidText",
  "InvalidTime",
  "InvalidCommand",
  "NoMark",
  "Refused",
  "PAIR",
  "DIGITS",
  "MOST_DIGITS_values",
  "NOUGHT",
  "ONE",
  "is_integer",
  "is_sequence",
  "common_part",
  "in_lowest",
  "is_value",
  "value_of",
  "added",
  "less_by",
  "multiplied",
  "quotient",
  "is_less",
  "is_at_most",
  "sign_of",
  "summed",
  "middle_of",
  "text_of"]
def loo1 : List Str := ["number_in",
  "value_in",
  "values_in",
  "are_marks",
  "Bend",
  "text_of_bend",
  "rows_in",
  "knots_of",
  "need_time",
  "span_of",
  "share_of",
  "all_weights",
  "value",
  "NONE",
  "trimmed",
  "power_at",
  "poly_sum",
  "poly_less",
  "poly_scaled",
  "poly_times",
  "poly_at",
  "poly_slope",
  "divided",
  "common_factor",
  "order_at",
  "choices",
  "shared",
  "Piece",
  "share_poly",
  "piece_at"]
def loo2 : List Str := ["pieces_of",
  "poly_in",
  "bend_with",
  "alike_slopes",
  "merged",
  "least_of",
  "need_inside",
  "smooth_at",
  "put_in",
  "taken_out",
  "with_mark",
  "wanted_at",
  "without_mark",
  "least",
  "DOWN",
  "Place",
  "plain_part",
  "sturm_row",
  "changes_of",
  "changes_at",
  "without_zero",
  "sorted_places",
  "times_between",
  "with_stretch",
  "places_in",
  "gaps_in",
  "curve_at",
  "signs_in",
  "sign_row",
  "is_pull"]
def loo3 : List Str := ["pulled",
  "Live",
  "MOST_DIGITS_desk",
  "ALONE",
  "TIMED",
  "SIGNS",
  "told_signs",
  "words_of",
  "number_of",
  "time_of",
  "Desk",
  "_law_box",
  "_law_take",
  "_law_pick",
  "_law_value",
  "_law_heard"]
def loo : List Str := loo0 ++ loo1 ++ loo2 ++ loo3
def fm : List He5.DefA := [cmDef "Bend" "read" "Bend.read" s_Bend_read_o, prDef "Live" "bend" "Live.bend" s_Live_bend, prDef "Live" "signs" "Live.signs" s_Live_signs]
def xs0 : List (PySem.W.Frag → Bool) := [glDic "SIGNS" [((-1), "-"), (0, "0"), (1, "+")],
  apartB ["InvalidCommand", "InvalidText", "InvalidBend", "InvalidTime", "NoMark", "Refused"],
  fun K => excB K "InvalidBend" "word",
  fun K => excB K "InvalidText" "at",
  fun K => excB K "InvalidTime" "time",
  fun K => excB K "NoMark" "time",
  fun K => excB K "Refused" "at",
  fun K => excB0 K "InvalidCommand",
  fun K => botB K "BendError",
  fun K => isxB K "Bend",
  fun K => isoB K "Bend",
  fun K => crB K "Bend",
  fun K => cmB K "Bend" "read",
  fun K => propB K "Live" "bend",
  fun K => propB K "Live" "signs",
  fun K => noFd K "not_nought",
  fun K => noFd K "_law_all_heard"]
def xs : List (PySem.W.Frag → Bool) := xs0
abbrev rowR : PySem.W.OpenRow := PySem.W.OpenLaw.row PySem.Challenge.rw_handlebends_k73_desks_refuse_and_known_o
def seenB : List Addr := [928,927,924,923,922,917,916,915,910,909,908,903,902,901,896,895,894,889,888,887,886,885,884,883,882,881,880,875,874,873,868,867,866,861,860,859,854,853,852,847,846,845,844,843,842,841,840,839,838,833,832,831,826,825,824,819,818,817,814,813,812,811,810,809,808,807,806,805,804,803,802,797,796,795,790,789,788,783,782,781,776,775,774,769,768,767,762,761,760,755,754,753,748,747,746,741,740,739,738,733,732,731,730,725,724,723,718,717,716,715,714,713,712,711,710,709,704,703,702,697,696,695,690,689,688,683,682,681,676,675,674,669,668,667,662,661,660,655,654,653,650,649,648,645,644,643,638,637,636,633,632,631,628,627,626,621,620,619,614,613,612,611,610,609,608,607,606,605,600,599,598,593,592,591,590,589,588,587,586,585,584,583,578,577,576,571,570,569,564,563,562,557,556,555,550,549,548,545,544,543,540,539,538,533,532,531,528,527,526,521,520,519,514,513,512,509,508,507,504,503,502,499,498,497,494,493,492,487,486,485,484,483,482,481,480,479,478,473,472,471,470,469,468,467,466,465,464,459,458,457,452,451,450,445,444,443,438,437,436,433,432,431,428,427,426,421,420,419,416,415,414,411,410,409,406,405,404,401,400,399,394,393,392,387,386,385,384,381,380,379,376,375,374,369,368,367,364,363,362,357,356,355,352,351,350,345,344,343,340,339,338,337,336,335,334,333,332,331,326,325,324,319,318,317,312,311,310,305,304,303,302,301,300,295,294,293,290,289,288,287,286,285,284,283,282,281,278,277,276,273,272,271,268,267,266,263,262,261,256,255,254,249,248,247,242,241,240,235,234,233,228,227,226,221,220,219,214,213,212,207,206,205,200,199,198,193,192,191,186,185,184,179,178,177,172,171,170,165,164,163,158,157,156,151,150,149,148,147,146,145,144,143,142,137,136,135,134,133,132,131,130,129,128,127,126,125,124,123,118,117,116,115,114,113,112,111,110,109,108,107,106,105,104,99,98,97,96,95,94,93,92,91,90,89,88,87,86,85,80,79,78,77,76,75,74,73,72,71,70,69,68,67,66,61,60,59,58,57,56,55,54,53,52,51,50,49,48,47,42,41,40,39,38,37,36,35,34,33,32,31,30,29,28,27,25,24,23,22,21,20,15,14,13,12,11,10,9,7,6,5,4,3]
abbrev hk : PySem.W.Hook := hookG seenB fa fn fm tp xs
def ob (s : PySem.W.SharedT) : AlX × He.AlD := obsG seenB fa fn fm tp xs (HandSHeadRun.getT s)
def setW (b : Bool) (w : World) : World := { w with params := { w.params with followText := fun s => bif s == "special-get-raises" then b else w.params.followText s } }
theorem setW_eq (w : World) : setW (w.params.followText "special-get-raises") w = w := by
  have e : (fun s => bif s == "special-get-raises" then w.params.followText "special-get-raises" else w.params.followText s) = w.params.followText := by
    funext s
    cases h : s == "special-get-raises" with
    | false => rfl
    | true => rw [eq_of_beq h]; rfl
  unfold setW
  rw [e]
theorem topRunT (w : World) : HandSHeadRun.RunEq rowR (PySem.W.view rowR.prog [115]) hk ob 20000 loo (setW true w) := by
  intro os
  kernel_rfl
theorem topRunF (w : World) : HandSHeadRun.RunEq rowR (PySem.W.view rowR.prog [115]) hk ob 20000 loo (setW false w) := by
  intro os
  kernel_rfl
theorem topRun (w : World) : HandSHeadRun.RunEq rowR (PySem.W.view rowR.prog [115]) hk ob 20000 loo w := by
  have z : HandSHeadRun.RunEq rowR (PySem.W.view rowR.prog [115]) hk ob 20000 loo (setW (w.params.followText "special-get-raises") w) := by
    cases w.params.followText "special-get-raises" with
    | true => exact topRunT w
    | false => exact topRunF w
  rw [setW_eq] at z
  exact z
end HB
namespace HB
open PySem L2
abbrev D := PyData
abbrev Exn := Str × List (Str × D)
/-- no table -/
class NoT (o : HO) : Prop where
  no : ∀ ps, o ≠ .tbl ps
instance {xs : List V} : NoT (.lst xs) := ⟨fun _ z => by cases z⟩
instance {xs : List V} : NoT (.tup xs) := ⟨fun _ z => by cases z⟩
instance {xs : List (Key × V)} : NoT (.dK xs) := ⟨fun _ z => by cases z⟩
instance {xs : List (List Key × V)} : NoT (.dT xs) := ⟨fun _ z => by cases z⟩
instance {S : Int → Bool} {n : Nat} : NoT (.set S n) := ⟨fun _ z => by cases z⟩
instance {C dx : Addr} {fs : List (Str × V)} : NoT (.ins C dx fs) := ⟨fun _ z => by cases z⟩
instance {x : Addr} : NoT (.own x) := ⟨fun _ z => by cases z⟩
instance {fs : List (Str × V)} : NoT (.xd fs) := ⟨fun _ z => by cases z⟩
instance {f x : Addr} : NoT (.met f x) := ⟨fun _ z => by cases z⟩
instance {lo hi : Int} : NoT (.rng lo hi) := ⟨fun _ z => by cases z⟩
instance {o : Obj} {u : HO} : NoT (.frz o u) := ⟨fun _ z => by cases z⟩
instance {φ : Heap → Prop} : NoT (.ext φ) := ⟨fun _ z => by cases z⟩
instance {f : Addr} {F : NdefX.NF} : NoT (NdefX.FnO f F) := ⟨fun _ z => by unfold NdefX.FnO at z; cases z⟩
instance {c : Addr} {q : Str} : NoT (LamX.CodeO c q) := ⟨fun _ z => by unfold LamX.CodeO at z; cases z⟩
/-- tables stay tables -/
def Tt (H H' : Hp) : Prop := ∀ b ps, H b = some (.tbl ps) → ∃ ps', H' b = some (.tbl ps')
theorem Tt.refl (H : Hp) : Tt H H := fun _ ps h => ⟨ps, h⟩
theorem Tt.trans {H H1 H2 : Hp} (a : Tt H H1) (b : Tt H1 H2) : Tt H H2 := fun c ps h => let ⟨ps', h'⟩ := a c ps h; b c ps' h'
/-- the name of the nested def (the lambda) that stands there -/
def nestQ (line col : Nat) : Str := if col = 4 then "not_nought.<locals>.choose" else "_law_all_heard.<locals>.<lambda>"
/-- a table that tells known code objects; those of the made functions are known -/
def TabG (H : Hp) (P : Addr) : Prop := NdefX.TabN H P nestQ ∧ ∀ f F, H f = some (NdefX.FnO f F) → H F.c = some (LamX.CodeO F.c F.qual)
/-- .. and what they tell is known -/
structure Tx (H H' : Hp) : Prop where
  t : Tt H H'
  n : ∀ P, TabG H P → TabG H' P
theorem Tx.refl (H : Hp) : Tx H H := ⟨.refl H, fun _ h => h⟩
theorem Tx.trans {H H1 H2 : Hp} (a : Tx H H1) (b : Tx H1 H2) : Tx H H2 := ⟨a.t.trans b.t, fun P h => b.n P (a.n P h)⟩
/-- what is there stays there, tables as tables -/
structure Dm (H H' : Hp) : Prop where
  d : ∀ b, H' b = none → H b = none
  t : Tx H H'
instance {H H' : Hp} : CoeFun (Dm H H') fun _ => ∀ b, H' b = none → H b = none := ⟨Dm.d⟩
theorem Dm.trans {H H1 H2 : Hp} (a : Dm H H1) (b : Dm H1 H2) : Dm H H2 := ⟨fun c h => a.d c (b.d c h), a.t.trans b.t⟩
structure Same (H H' : Hp) : Prop where
  s : ∀ b o, H b = some o → [NoT o] → H' b = some o
  t : Tt H H'
instance {H H' : Hp} : CoeFun (Same H H') fun _ => ∀ b o, H b = some o → [NoT o] → H' b = some o := ⟨Same.s⟩
theorem Same.refl (H : Hp) : Same H H := ⟨fun _ _ h => h, .refl H⟩
theorem Same.trans {H H1 H2 : Hp} (a : Same H H1) (b : Same H1 H2) : Same H H2 := ⟨fun c o h => b.s c o (a.s c o h), a.t.trans b.t⟩
theorem not_not {o : HO} (h : ¬ NoT o) : ∃ ps, o = .tbl ps := by
  cases o with
  | tbl ps => exact ⟨ps, rfl⟩
  | _ => exact (h inferInstance).elim
theorem Same.some {H H' : Hp} (e : Same H H') {l : Addr} {o : HO} (h : H l = some o) : ∃ o', H' l = some o' := by
  by_cases q : NoT o
  · exact ⟨o, e.s l o h⟩
  · obtain ⟨ps, rfl⟩ := not_not q
    obtain ⟨ps', h'⟩ := e.t l ps h
    exact ⟨_, h'⟩
theorem Same.free {H H' : Hp} {l : Addr} (e : Same H H') (h : H' l = Option.none) : H l = Option.none := by
  cases q : H l with
  | none => rfl
  | some o =>
    obtain ⟨o', h'⟩ := e.some q
    rw [h'] at h
    cases h
theorem Same.seq {H H' : Hp} {K : PySem.W.Frag} {a : Addr} {xs : List V} (e : Same H H') (h : SqL K H a xs) : SqL K H' a xs := by
  rcases h with (k | ⟨o, k⟩) | k
  · exact .inl (.inl (e.s _ _ k))
  · exact .inl (.inr ⟨o, e.s _ _ k⟩)
  · exact .inr k
/-- the defs that make functions -/
def makers : List Str := ["not_nought", "_law_all_heard"]
/-- the function that stands at f -/
def IsFd (K : PySem.W.Frag) (f : Addr) (fd : FuncData) : Prop := ∃ oc od osl, K.lookup f = some ⟨oc, od, .func fd, osl⟩
/-- P is the table of the def x, and not of what never changes -/
def TabAt (K : PySem.W.Frag) (x : Str) (P : Addr) : Prop := ∃ fd c, IsFd K (He.ga K x) fd ∧ fd.code = .ref c ∧ PySem.W.codeHdIn K c P = true ∧ K.lookup P = none
structure TabOk (K : PySem.W.Frag) (H : Hp) : Prop where
  at_ : ∀ x ∈ makers, ∀ P, TabAt K x P → TabG H P
theorem TabOk.up {K : PySem.W.Frag} {H H' : Hp} (t : TabOk K H) (g : ∀ P, TabG H P → TabG H' P) : TabOk K H' := ⟨fun x hx P h => g P (t.at_ x hx P h)⟩
/-- the known things within the heap, and the tables in order -/
structure Sub (K : PySem.W.Frag) (G H : Hp) : Prop extends Same G H where
  tb : TabOk K H
instance {K : PySem.W.Frag} {G H : Hp} : CoeFun (Sub K G H) fun _ => ∀ b o, G b = some o → [NoT o] → H b = some o := ⟨fun s => s.toSame.s⟩
instance {K : PySem.W.Frag} {G H : Hp} : CoeOut (Sub K G H) (Same G H) := ⟨Sub.toSame⟩
/-- a tuple whose object has no dict -/
def SqP (K : PySem.W.Frag) (H : Hp) (a : Addr) (xs : List V) : Prop := (∃ o, H a = some (.frz o (.tup xs)) ∧ o.dict = none) ∨
  ∃ (o : Obj) (its : Array Value) (n : Nat), K.lookup a = some o ∧ o.dict = none ∧ o.cls = .type "tuple" ∧ o.data = .seq its n ∧ its.size ≤ sizeLine ∧ Vals xs its.toList
theorem SqP.t {K : PySem.W.Frag} {H : Hp} {a : Addr} {xs : List V} (h : SqP K H a xs) : SqT K H a xs :=
  h.elim (fun ⟨o, e, _⟩ => .inl (.inr ⟨o, e⟩)) fun ⟨o, its, n, l, _, c, d, z, r⟩ => .inr ⟨o, its, n, l, c, d, z, r⟩
theorem sqP_mono {K : PySem.W.Frag} {H H' : Hp} {a : Addr} {xs : List V} (s : Same H H') (h : SqP K H a xs) : SqP K H' a xs := h.elim (fun ⟨o, e, n⟩ => .inl ⟨o, s _ _ e, n⟩) .inr
theorem SqP.new {K : PySem.W.Frag} {H : Hp} {p : Addr} {o : Obj} {xs : List V} (n : o.dict = none) : SqP K (upd H p (.frz o (.tup xs))) p xs := .inl ⟨o, upd_same, n⟩
/-- the cell at a holds v -/
def cellO (a : Addr) (v : V) : HO := .ext fun h => ∃ u, L2.RelV v u ∧ h.IsCell a (some u)
instance {a : Addr} {v : V} : NoT (cellO a v) := ⟨fun _ z => by unfold cellO at z; cases z⟩
/-- fd begins with the def whose text is F's -/
def NestIn (fd : FuncData) (F : NdefX.NF) : Prop := ∃ pos rest, fd.body = .stmts (.FunctionDef F.name F.params F.body [] none [] F.scope none F.name pos :: rest)
structure NestOf (K : PySem.W.Frag) (F : NdefX.NF) (a : Addr) : Prop where
  cl : F.cl = [(("rows" : Str), a)]
  qual : F.qual = ("not_nought.<locals>.choose" : Str)
  nest : ∀ fd, IsFd K (He.ga K "not_nought") fd → NestIn fd F
mutual
inductive Rp (K : PySem.W.Frag) (H : Hp) : V → D → Prop
  | non : Rp K H .non .none
  | bl (b : Bool) : Rp K H (.bl b) (.bool b)
  | int (i : Int) : Rp K H (.int i) (.int i)
  | str (x : Str) : Rp K H (.str x) (.str x)
  | lst {a : Addr} {xs : List V} {ds : List D} : H a = some (.lst xs) → RpAll K H xs ds → Rp K H (.ref a) (.list ds)
  | tup {a : Addr} {xs : List V} {ds : List D} : SqP K H a xs → RpAll K H xs ds → Rp K H (.ref a) (.tuple ds)
  | frz {a : Addr} {xs : List V} {ds : List D} : SqL K H a xs → RpAll K H xs ds → Rp K H (.ref a) (.dict [(.none, .list ds)])
  | obj {a dx : Addr} {c : Str} {fs : List (Str × V)} {kvs : List (D × D)} : H a = some (.ins (He.ga K c) dx fs) → RpF K H fs kvs → Rp K H (.ref a) (.dict ((.str c, .none) :: kvs))
  | adr (a : Addr) : Rp K H (.ref a) (.dict [(.int a, .none)])
  | fn (x : Str) : Rp K H (.ref (He.ga K x)) (.dict [(.none, .str x)])
  | gst (a : Addr) (g : Nat) : Rp K H (.ref a) (.dict [(.bool true, .int g)])
  | clo {f a : Addr} {F : NdefX.NF} {v : V} {d : D} : NestOf K F a → H f = some (NdefX.FnO f F) → H a = some (cellO a v) → Rp K H v d → Rp K H (.ref f) (.dict [(.bool false, d)])
inductive RpAll (K : PySem.W.Frag) (H : Hp) : List V → List D → Prop
  | nil : RpAll K H [] []
  | cons {v : V} {vs : List V} {d : D} {ds : List D} : Rp K H v d → RpAll K H vs ds → RpAll K H (v :: vs) (d :: ds)
inductive RpF (K : PySem.W.Frag) (H : Hp) : List (Str × V) → List (D × D) → Prop
  | nil : RpF K H [] []
  | cons {f : Str} {v : V} {fs : List (Str × V)} {d : D} {kvs : List (D × D)} : Rp K H v d → RpF K H fs kvs → RpF K H ((f, v) :: fs) ((.str f, d) :: kvs)
end
theorem sqT_mono {K : PySem.W.Frag} {H H' : Hp} {a : Addr} {xs : List V} (s : Same H H') (h : SqT K H a xs) : SqT K H' a xs := by
  exact h.elim (fun z => .inl (z.elim (fun y => .inl (s _ _ y)) fun ⟨o, y⟩ => .inr ⟨o, s _ _ y⟩)) .inr
theorem Rp.mono {K : PySem.W.Frag} {H H' : Hp} (s : Same H H') {v : V} {d : D} (r : Rp K H v d) : Rp K H' v d :=
  @Rp.rec K H (fun v d _ => Rp K H' v d) (fun vs ds _ => RpAll K H' vs ds) (fun fs kvs _ => RpF K H' fs kvs)
    .non (fun b => .bl b) (fun i => .int i) (fun x => .str x) (fun h _ ih => .lst (s _ _ h) ih) (fun h _ ih => .tup (sqP_mono s h) ih) (fun h _ ih => .frz (s.seq h) ih) (fun h _ ih => .obj (s _ _ h) ih) (fun a => .adr a) (fun x => .fn x) (fun v g => .gst v g) (fun n hf ha _ ih => .clo n (s _ _ hf) (s _ _ ha) ih)
    .nil (fun _ _ h t => .cons h t) .nil (fun _ _ h t => .cons h t) v d r
theorem RpAll.mono {K : PySem.W.Frag} {H H' : Hp} (s : Same H H') : ∀ {vs : List V} {ds : List D}, RpAll K H vs ds → RpAll K H' vs ds
  | _, _, .nil => .nil
  | _, _, .cons r t => .cons (r.mono s) (RpAll.mono s t)
theorem RpAll.length {K : PySem.W.Frag} {H : Hp} : ∀ {vs : List V} {ds : List D}, RpAll K H vs ds → vs.length = ds.length
  | _, _, .nil => rfl
  | _, _, .cons _ t => congrArg (· + 1) t.length
theorem RpAll.get {K : PySem.W.Frag} {H : Hp} : ∀ {vs : List V} {ds : List D} {i : Nat} {d : D}, RpAll K H vs ds → ds[i]? = some d → ∃ v, vs[i]? = some v ∧ Rp K H v d
  | _, _, _, _, .nil, no => by simp at no
  | _, _, 0, _, .cons r _, e => by
    have e2 := Option.some.inj (show some _ = some _ from e)
    subst e2
    exact ⟨_, rfl, r⟩
  | _, _, i + 1, _, .cons _ t, e => by
    obtain ⟨v, h1, h2⟩ := RpAll.get (i := i) t e
    exact ⟨v, h1, h2⟩
theorem RpAll.append {K : PySem.W.Frag} {H : Hp} : ∀ {vs ws : List V} {ds es : List D}, RpAll K H vs ds → RpAll K H ws es → RpAll K H (vs ++ ws) (ds ++ es)
  | _, _, _, _, .nil, s => s
  | _, _, _, _, .cons r t, s => .cons r (t.append s)
theorem RpAll.set {K : PySem.W.Frag} {H : Hp} {v : V} {d : D} (r : Rp K H v d) : ∀ {vs : List V} {ds : List D} (i : Nat), RpAll K H vs ds → RpAll K H (vs.set i v) (ds.set i d)
  | _, _, _, .nil => .nil
  | _, _, 0, .cons _ rest => .cons r rest
  | _, _, i + 1, .cons q t => .cons q (RpAll.set r i t)
theorem RpAll.take {K : PySem.W.Frag} {H : Hp} : ∀ {vs : List V} {ds : List D} (n : Nat), RpAll K H vs ds → RpAll K H (vs.take n) (ds.take n)
  | _, _, 0, _ => .nil
  | _, _, _ + 1, .nil => .nil
  | _, _, n + 1, .cons r t => .cons r (t.take n)
theorem RpAll.drop {K : PySem.W.Frag} {H : Hp} : ∀ {vs : List V} {ds : List D} (n : Nat), RpAll K H vs ds → RpAll K H (vs.drop n) (ds.drop n)
  | _, _, 0, r => r
  | _, _, _ + 1, .nil => .nil
  | _, _, n + 1, .cons _ t => t.drop n
inductive Sl where
  | no
  | pur (d : D)
  | own (ds : List D)
  | box (ds : List D)
  | dl (o : Bool) (g : Nat) (z : D)
  | gst (o : Bool) (xs : List D)
  | ins (o : Bool) (c : Str) (kvs : List (D × D))
/-- a list that another slot holds: its mark -/
abbrev gD (g : Nat) : D := .dict [(.bool true, .int g)]
def Sl.ls : Sl → Option (List D)
  | .own ds => some ds
  | .box ds => some ds
  | _ => none
/-- what the slot's list holds, whatever the slot's kind -/
def Sl.hs : Sl → Option (List D)
  | .own ds => some ds
  | .box ds => some ds
  | .dl _ g z => some [gD g, z]
  | .gst _ xs => some xs
  | .ins _ _ kvs => some (kvs.map Prod.snd)
  | _ => none
theorem Sl.ls_hs {s : Sl} {ds : List D} (h : s.ls = some ds) : s.hs = some ds := by
  cases s with
  | own _ => exact h
  | box _ => exact h
  | _ => cases h
/-- a list handed in, within another one -/
def Sl.isD : Sl → Bool
  | .dl false _ _ => true
  | .gst false _ => true
  | .ins false _ _ => true
  | _ => false
theorem Sl.isD_hs {s : Sl} (h : s.isD = true) : ∃ es, s.hs = some es := by
  cases s with
  | dl _ g z => exact ⟨_, rfl⟩
  | gst _ xs => exact ⟨_, rfl⟩
  | ins _ _ kvs => exact ⟨_, rfl⟩
  | _ => cases h
theorem RpF.mono {K : PySem.W.Frag} {H H' : Hp} (s : Same H H') : ∀ {fs : List (Str × V)} {kvs : List (D × D)}, RpF K H fs kvs → RpF K H' fs kvs
  | _, _, .nil => .nil
  | _, _, .cons r t => .cons (r.mono s) (RpF.mono s t)
/-- what stands where the slot's own thing stands: a list, or an instance -/
def Shp (K : PySem.W.Frag) (G : Hp) : Sl → List D → HO → Prop
  | .ins _ c kvs, _, o => ∃ dx fs, o = .ins (He.ga K c) dx fs ∧ RpF K G fs kvs
  | _, ds, o => ∃ vs, o = .lst vs ∧ RpAll K G vs ds
/-- the slot's thing is an instance -/
def Sl.isI : Sl → Bool
  | .ins _ _ _ => true
  | _ => false
theorem Sl.ls_I {s : Sl} {ds : List D} (h : s.ls = some ds) : s.isI = false := by
  cases s with
  | ins _ _ _ => cases h
  | _ => rfl
theorem Shp.mono {K : PySem.W.Frag} {G G' : Hp} {s : Sl} {ds : List D} {o : HO} (g : Same G G') (h : Shp K G s ds o) : Shp K G' s ds o := by
  cases s with
  | ins _ c kvs => obtain ⟨dx, fs, e, r⟩ := h; exact ⟨dx, fs, e, r.mono g⟩
  | _ => obtain ⟨vs, e, r⟩ := h; exact ⟨vs, e, r.mono g⟩
theorem Shp.lst {K : PySem.W.Frag} {G : Hp} {s : Sl} {ds : List D} {o : HO} (h : Shp K G s ds o) (n : s.isI = false) : ∃ vs, o = .lst vs ∧ RpAll K G vs ds := by
  cases s with
  | ins _ c kvs => cases n
  | _ => exact h
theorem Shp.of {K : PySem.W.Frag} {G : Hp} {s : Sl} {ds : List D} {vs : List V} (n : s.isI = false) (r : RpAll K G vs ds) : Shp K G s ds (.lst vs) := by
  cases s with
  | ins _ c kvs => cases n
  | _ => exact ⟨vs, rfl, r⟩
theorem Shp.noT {K : PySem.W.Frag} {G : Hp} {s : Sl} {ds : List D} {o : HO} (h : Shp K G s ds o) : NoT o := by
  cases s with
  | ins _ c kvs => obtain ⟨dx, fs, rfl, _⟩ := h; exact inferInstance
  | _ => obtain ⟨vs, rfl, _⟩ := h; exact inferInstance
abbrev En := List Sl
/-- a list that is the slot's alone stands at b -/
def Ownd (ρ : En) (σ : St) (b : Addr) : Prop := ∃ (i : Nat) (s : Sl) (ds : List D), ρ[i]? = some s ∧ s.hs = some ds ∧ σ[i]? = some (some (.ref b))
structure J (K : PySem.W.Frag) (G : Hp) (ρ : En) (σ : St) (H : Hp) : Prop where
  sub : Sub K G H
  len : ρ.length = σ.length
  pur : ∀ (i : Nat) (d : D), ρ[i]? = some (.pur d) → ∃ v, σ[i]? = some (some v) ∧ Rp K G v d
  hold : ∀ (i : Nat) (s : Sl) (ds : List D), ρ[i]? = some s → s.hs = some ds → ∃ (a : Addr) (o : HO), σ[i]? = some (some (.ref a)) ∧ H a = some o ∧ G a = none ∧ Shp K G s ds o
  alone : ∀ (i j : Nat) (s t : Sl) (ds es : List D) (b : Addr), ρ[i]? = some s → s.hs = some ds → ρ[j]? = some t → t.hs = some es → σ[i]? = some (some (.ref b)) → σ[j]? = some (some (.ref b)) → i = j
  lk : ∀ (i g : Nat) (o o' : Bool) (z : D) (xs : List D), ρ[i]? = some (.dl o g z) → ρ[g]? = some (.gst o' xs) → ∃ (a : Addr) (v u : V), σ[i]? = some (some (.ref a)) ∧ H a = some (.lst [v, u]) ∧ σ[g]? = some (some v)
theorem J.own {K : PySem.W.Frag} {G : Hp} {ρ : En} {σ : St} {H : Hp} (j : J K G ρ σ H) (i : Nat) (s : Sl) (ds : List D) (h : ρ[i]? = some s) (hl : s.ls = some ds) : ∃ (a : Addr) (vs : List V), σ[i]? = some (some (.ref a)) ∧ H a = some (.lst vs) ∧ G a = none ∧ RpAll K G vs ds := by
  obtain ⟨a, o, h1, h2, h3, h4⟩ := j.hold i s ds h (Sl.ls_hs hl)
  obtain ⟨vs, e, r⟩ := h4.lst (Sl.ls_I hl)
  subst e
  exact ⟨a, vs, h1, h2, h3, r⟩
theorem J.dis {K : PySem.W.Frag} {G : Hp} {ρ : En} {σ : St} {H : Hp} (j : J K G ρ σ H) (i k : Nat) (s t : Sl) (ds es : List D) (b : Addr) (h1 : ρ[i]? = some s) (l1 : s.hs = some ds) (h2 : ρ[k]? = some t) (l2 : t.hs = some es) (h3 : σ[i]? = some (some (.ref b))) (h4 : σ[k]? = some (some (.ref b))) : i = k := j.alone i k s t ds es b h1 l1 h2 l2 h3 h4
/-- what may have happened -/
structure Ex (K : PySem.W.Frag) (G : Hp) (ρ : En) (σ : St) (H : Hp) (G' : Hp) (ρ' : En) (σ' : St) (H' : Hp) : Prop where
  j : J K G' ρ' σ' H'
  g : Same G G'
  new : ∀ b, G' b ≠ none → G b ≠ none ∨ H b = none ∨ Ownd ρ σ b
  kept : ∀ b o, H b = some o → ¬ Ownd ρ σ b → [NoT o] → H' b = some o
  ow : ∀ b, Ownd ρ' σ' b → Ownd ρ σ b ∨ H b = none
  dom : ∀ b, H' b = none → H b = none
  bx : ∀ (i : Nat) (ds : List D), ρ'[i]? = some (.box ds) → (∃ es, ρ[i]? = some (.box es)) ∧ σ'[i]? = σ[i]?
  bd : ∀ (i : Nat) (s : Sl), ρ'[i]? = some s → s.isD = true → (∃ s0, ρ[i]? = some s0 ∧ s0.isD = true) ∧ σ'[i]? = σ[i]?
  tt : Tx H H'
/-- nothing that was there is changed -/
structure PX (G H G' H' : Hp) : Prop where
  h : Same H H'
  g : Same G G'
  s : Same G' H'
  new : ∀ b, G' b ≠ none → G b ≠ none ∨ H b = none
  tb : ∀ P, TabG H P → TabG H' P
theorem PX.refl {G H : Hp} (s : Same G H) : PX G H G H := ⟨.refl _, .refl _, s, fun _ h => .inl h, fun _ h => h⟩
theorem PX.trans {G H G1 H1 G2 H2 : Hp} (a : PX G H G1 H1) (b : PX G1 H1 G2 H2) : PX G H G2 H2 :=
  ⟨a.h.trans b.h, a.g.trans b.g, b.s, fun c hc => (b.new c hc).elim (fun z => a.new c z) fun z => .inr (a.h.free z), fun P t => b.tb P (a.tb P t)⟩
theorem same_upd {H : Hp} {p : Addr} {o : HO} (np : H p = none) : Same H (upd H p o) := ⟨fun b x e => (upd_ne (ne_of_none e np)).trans e, fun b ps e => ⟨ps, (upd_ne (ne_of_none e np)).trans e⟩⟩
theorem same_upd2 {G H : Hp} {p : Addr} {o : HO} (s : Same G H) : Same (upd G p o) (upd H p o) := ⟨fun b x e => by
  by_cases hb : b = p
  · subst hb; rw [upd_same] at e ⊢; exact e
  · rw [upd_ne hb] at e ⊢; exact s.s _ _ e, fun b ps e => by
  by_cases hb : b = p
  · subst hb; rw [upd_same] at e ⊢; exact ⟨ps, e⟩
  · rw [upd_ne hb] at e ⊢; exact s.t _ _ e⟩
/-- neither a table nor a code object nor a made function -/
class NoC (o : HO) : Prop extends NoT o where
  nc : ∀ c q, o ≠ LamX.CodeO c q
  nf : ∀ f F, o ≠ NdefX.FnO f F
instance {xs : List V} : NoC (.lst xs) := ⟨fun _ _ z => (by unfold LamX.CodeO at z; cases z), fun _ _ z => (by unfold NdefX.FnO at z; cases z)⟩
instance {xs : List V} : NoC (.tup xs) := ⟨fun _ _ z => (by unfold LamX.CodeO at z; cases z), fun _ _ z => (by unfold NdefX.FnO at z; cases z)⟩
instance {S : Int → Bool} {n : Nat} : NoC (.set S n) := ⟨fun _ _ z => (by unfold LamX.CodeO at z; cases z), fun _ _ z => (by unfold NdefX.FnO at z; cases z)⟩
instance {xs : List (Key × V)} : NoC (.dK xs) := ⟨fun _ _ z => (by unfold LamX.CodeO at z; cases z), fun _ _ z => (by unfold NdefX.FnO at z; cases z)⟩
instance {xs : List (List Key × V)} : NoC (.dT xs) := ⟨fun _ _ z => (by unfold LamX.CodeO at z; cases z), fun _ _ z => (by unfold NdefX.FnO at z; cases z)⟩
instance {C dx : Addr} {fs : List (Str × V)} : NoC (.ins C dx fs) := ⟨fun _ _ z => (by unfold LamX.CodeO at z; cases z), fun _ _ z => (by unfold NdefX.FnO at z; cases z)⟩
instance {x : Addr} : NoC (.own x) := ⟨fun _ _ z => (by unfold LamX.CodeO at z; cases z), fun _ _ z => (by unfold NdefX.FnO at z; cases z)⟩
instance {fs : List (Str × V)} : NoC (.xd fs) := ⟨fun _ _ z => (by unfold LamX.CodeO at z; cases z), fun _ _ z => (by unfold NdefX.FnO at z; cases z)⟩
instance {f x : Addr} : NoC (.met f x) := ⟨fun _ _ z => (by unfold LamX.CodeO at z; cases z), fun _ _ z => (by unfold NdefX.FnO at z; cases z)⟩
instance {lo hi : Int} : NoC (.rng lo hi) := ⟨fun _ _ z => (by unfold LamX.CodeO at z; cases z), fun _ _ z => (by unfold NdefX.FnO at z; cases z)⟩
instance {o : Obj} {u : HO} : NoC (.frz o u) := ⟨fun _ _ z => (by unfold LamX.CodeO at z; cases z), fun _ _ z => (by unfold NdefX.FnO at z; cases z)⟩
/-- no table and no code object stands at p -/
def PlainAt (H : Hp) (p : Addr) : Prop := ∀ o, H p = some o → NoC o
theorem pl_none {H : Hp} {p : Addr} (h : H p = none) : PlainAt H p := fun o e => by rw [h] at e; cases e
theorem pl_of {H : Hp} {p : Addr} {o : HO} (h : H p = some o) [n : NoC o] : PlainAt H p := fun o' e => by rw [h] at e; cases e; exact n
theorem Tt.put {H : Hp} {p : Addr} {o : HO} (pl : PlainAt H p) : Tt H (upd H p o) := fun b ps e => by
  by_cases hb : b = p
  · subst hb; exact absurd rfl ((pl _ e).no ps)
  · exact ⟨ps, (upd_ne hb).trans e⟩
theorem tabG_put {H : Hp} {P p : Addr} {o : HO} (t : TabG H P) (pl : PlainAt H p) [n : NoC o] : TabG (upd H p o) P := by
  obtain ⟨⟨ps, e, h1, h2⟩, h3⟩ := t
  refine ⟨⟨ps, ?_, h1, fun pos cv hc => ?_⟩, fun f F hf => ?_⟩
  · refine (upd_ne fun z => ?_).trans e
    subst z
    exact absurd rfl ((pl _ e).no ps)
  · obtain ⟨c, e1, e2⟩ := h2 pos cv hc
    exact ⟨c, e1, (upd_ne fun z => by subst z; exact (pl _ e2).nc c _ rfl).trans e2⟩
  · have z := h3 f F ((upd_ne fun z => by subst z; rw [upd_same] at hf; exact n.nf _ _ (Option.some.inj hf)).symm.trans hf)
    exact (upd_ne fun y => by rw [y] at z; exact (pl _ z).nc _ _ (by rw [← y])).trans z
theorem Tx.put {H : Hp} {p : Addr} {o : HO} (pl : PlainAt H p) [NoC o] : Tx H (upd H p o) := ⟨.put pl, fun _ t => tabG_put t pl⟩
theorem TabOk.put {K : PySem.W.Frag} {H : Hp} {p : Addr} {o : HO} (t : TabOk K H) (pl : PlainAt H p) [n : NoC o] : TabOk K (upd H p o) := t.up fun _ g => tabG_put g pl
/-- all stays, the tables in order -/
structure SameT (H H' : Hp) : Prop extends Same H H' where
  g : ∀ P, TabG H P → TabG H' P
instance {H H' : Hp} : CoeOut (SameT H H') (Same H H') := ⟨SameT.toSame⟩
theorem SameT.trans {H H1 H2 : Hp} (a : SameT H H1) (b : SameT H1 H2) : SameT H H2 := ⟨a.toSame.trans b.toSame, fun P t => b.g P (a.g P t)⟩
theorem sameT_upd {H : Hp} {p : Addr} {o : HO} (np : H p = none) [NoC o] : SameT H (upd H p o) := ⟨same_upd np, fun _ t => tabG_put t (pl_none np)⟩
theorem SameT.tx {H H' : Hp} (s : SameT H H') : Tx H H' := ⟨s.toSame.t, s.g⟩
section
variable {K : PySem.W.Frag} {G H : Hp}
theorem Sub.up {G' H' : Hp} (s : Sub K G H) (x : PX G H G' H') : Sub K G' H' := ⟨x.s, s.tb.up x.tb⟩
/-- what stands there is known from now on -/
theorem Sub.take (s : Sub K G H) {p : Addr} {o : HO} (h : H p = some o) : Sub K (upd G p o) H := ⟨⟨fun b x e => by
  by_cases hb : b = p
  · subst hb; rw [upd_same] at e; rw [← e]; exact h
  · rw [upd_ne hb] at e; exact s.toSame.s _ _ e, fun b ps e => by
  by_cases hb : b = p
  · subst hb; rw [upd_same] at e; exact ⟨ps, by rw [← e]; exact h⟩
  · rw [upd_ne hb] at e; exact s.toSame.t _ _ e⟩, s.tb⟩
/-- what is not known changes -/
theorem Sub.put (s : Sub K G H) {p : Addr} {o : HO} (h : G p = none) (pl : PlainAt H p) [NoC o] : Sub K G (upd H p o) := ⟨⟨fun b x e => (upd_ne (ne_of_none e h)).trans (s.toSame.s _ _ e), fun b ps e => by
  obtain ⟨ps', e'⟩ := s.toSame.t b ps e
  exact ⟨ps', (upd_ne (ne_of_none e h)).trans e'⟩⟩, s.tb.put pl⟩
theorem Sub.new (s : Sub K G H) {p : Addr} {o : HO} (h : H p = none) [NoC o] : Sub K G (upd H p o) := s.put (s.toSame.free h) (pl_none h)
end
/-- a new object -/
theorem PX.alloc {G H : Hp} (s : Same G H) {p : Addr} (hp : H p = none) (o : HO) [NoC o] : PX G H (upd G p o) (upd H p o) :=
  ⟨same_upd hp, same_upd (s.free hp), same_upd2 s, fun b hb => by
    by_cases e : b = p
    · subst e; exact .inr hp
    · rw [upd_ne e] at hb; exact .inl hb, fun _ t => tabG_put t (pl_none hp)⟩
section
variable {K : PySem.W.Frag} {G H G' H' : Hp} {ρ ρ' : En} {σ σ' : St}
theorem J.px (j : J K G ρ σ H) (x : PX G H G' H') : J K G' ρ σ H' where
  sub := j.sub.up x
  len := j.len
  pur := fun i d e => let ⟨v, h1, h2⟩ := j.pur i d e; ⟨v, h1, h2.mono x.g⟩
  hold := fun i s ds e hl => by
    obtain ⟨a, vs, h1, h2, h3, h4⟩ := j.hold i s ds e hl
    haveI := h4.noT
    refine ⟨a, vs, h1, x.h _ _ h2, ?_, h4.mono x.g⟩
    cases q : G' a with
    | none => rfl
    | some o =>
      rcases x.new a (by rw [q]; simp) with z | z
      · exact absurd h3 z
      · rw [h2] at z; cases z
  alone := j.alone
  lk := fun i g o o' z xs e1 e2 => let ⟨a, v, u, h1, h2, h3⟩ := j.lk i g o o' z xs e1 e2; ⟨a, v, u, h1, x.h _ _ h2, h3⟩
theorem J.ex (j : J K G ρ σ H) (x : PX G H G' H') : Ex K G ρ σ H G' ρ σ H' :=
  ⟨j.px x, x.g, fun b hb => (x.new b hb).elim .inl fun z => .inr (.inl z), fun b o e _ => x.h _ _ e, fun b h => .inl h, fun b h => x.h.free h, fun i ds h => ⟨⟨ds, h⟩, rfl⟩, fun i s h q => ⟨⟨s, h, q⟩, rfl⟩, ⟨x.h.t, x.tb⟩⟩
theorem J.refl (j : J K G ρ σ H) : Ex K G ρ σ H G ρ σ H := j.ex (.refl j.sub)
theorem J.ownd (j : J K G ρ σ H) {b : Addr} (h : Ownd ρ σ b) : ∃ o, H b = some o ∧ G b = none := by
  obtain ⟨i, s, ds, h1, hl, h2⟩ := h
  obtain ⟨a, vs, h3, h4, h5, _⟩ := j.hold i s ds h1 hl
  rw [h2] at h3
  cases h3
  exact ⟨vs, h4, h5⟩
theorem Ex.trans {G1 G2 H1 H2 : Hp} {ρ1 ρ2 : En} {σ1 σ2 : St} (a : Ex K G ρ σ H G1 ρ1 σ1 H1) (b : Ex K G1 ρ1 σ1 H1 G2 ρ2 σ2 H2) : Ex K G ρ σ H G2 ρ2 σ2 H2 where
  j := b.j
  g := a.g.trans b.g
  new := fun c hc => by
    rcases b.new c hc with z | z | z
    · exact a.new c z
    · exact .inr (.inl (a.dom c z))
    · rcases a.ow c z with z | z
      · exact .inr (.inr z)
      · exact .inr (.inl z)
  kept := fun c o e n => b.kept c o (a.kept c o e n) fun z => by
    rcases a.ow c z with z | z
    · exact n z
    · rw [e] at z; cases z
  ow := fun c hc => by
    rcases b.ow c hc with z | z
    · exact a.ow c z
    · exact .inr (a.dom c z)
  dom := fun c hc => a.dom c (b.dom c hc)
  bx := fun i ds h => by
    obtain ⟨⟨es, h1⟩, h2⟩ := b.bx i ds h
    obtain ⟨h3, h4⟩ := a.bx i es h1
    exact ⟨h3, h2.trans h4⟩
  bd := fun i s h q => by
    obtain ⟨⟨s1, h1, q1⟩, h2⟩ := b.bd i s h q
    obtain ⟨h3, h4⟩ := a.bd i s1 h1 q1
    exact ⟨h3, h2.trans h4⟩
  tt := a.tt.trans b.tt
end
end HB
namespace HB
open PySem L2
abbrev tupO (us : List Value) : Obj := { cls := .type "tuple", data := .seq us.toArray }
/-- what is asked of whoever makes a tuple of xs -/
def NewT (H : Hp) (xs : List V) (Q : VK) : Prop := ∀ p o, H p = none → o.dict = none → Q (.ref p) (upd H p (.frz o (.tup xs)))
section
variable {X : Cx}
theorem new_tuple {pins : List (Addr × Obj)} {σ : St} {H : Hp} {s : Shared} {xs : List V} {us : List Value} {Q : VK} (I : Inv X pins σ H s) (r : Vals xs us) (z : xs.length ≤ sizeLine) (q : NewT H xs Q) :
    EP X pins σ Q (.ref s.heap.objs.size) { s with heap := s.heap.push (tupO us) } := by
  have here : (s.heap.push (tupO us)).get? s.heap.objs.size = some (tupO us) := Heap.get?_push_size _ rfl
  have ok : ObjOk X.prog X.w (upd H s.heap.objs.size (.frz (tupO us) (.tup xs))) (s.heap.push (tupO us)) s.heap.objs.size (.frz (tupO us) (.tup xs)) := ⟨here, z, us, r, _, here, rfl, _, rfl⟩
  exact ⟨.ref s.heap.objs.size, _, I.laid (t' := s.toks) (fun _ _ e => Heap.get?_push_of_some _ e) (Nat.le_refl _) ok, rfl, q _ _ (I.hok.fresh (Nat.le_refl _)) rfl⟩
/-- a display -/
def tTupP (t : TA) : TE := fun σ H Q => t σ H fun xs H1 => xs.length ≤ sizeLine ∧ NewT H1 xs Q
theorem pe_tupP {es : List Expr} {t : TA} {k : Nat} {pos : Pos} (h : PA X es t) : PE X (.Tuple es k pos) (tTupP t) :=
  PE.mk fun pins s σ H Q I hq => wpAny_Tuple_spliced (thn (h.run pos pins s σ H _ I hq) fun us s1 ⟨xs, H1, I1, r, z, q⟩ => ⟨r.length ▸ z, new_tuple I1 r z q⟩)
/-- tuple(x) of a list -/
def rTupP (K : PySem.W.Frag) : List V → Hp → VK → Prop := fun vs H Q => ∃ a xs, vs = [.ref a] ∧ SqL K H a xs ∧ NewT H xs Q
theorem call_tupP : CallR X (.type "tuple") (rTupP X.K) := fun pins s σ H vs us Q I r ⟨a, xs, e, hs, q⟩ => by
  subst e
  match us, r with
  | [_], .cons rfl .nil =>
    have ⟨its, rv, pl, hz⟩ := I.list hs
    refine call_tuple_list pl.isList (fun h' kp => ?_) (by simpa [← rv.length] using hz)
    exact new_tuple (s := { s with heap := h' }) (I.kept (t' := s.toks) kp) rv hz q
/-- t[lo:hi], not the whole of it -/
def rSlP (K : PySem.W.Frag) : V → Option Int → Option Int → Hp → VK → Prop := fun x lo hi H Q => ∃ a xs, x = .ref a ∧ SqT K H a xs ∧
  ¬ (HT.sIx xs.length 0 lo = 0 ∧ HT.sIx xs.length xs.length hi = xs.length) ∧ NewT H (cutV xs lo hi) Q
theorem cut_vals {xs : List V} {us : List Value} (r : Vals xs us) (lo hi : Option Int) : Vals (cutV xs lo hi) ((us.drop (HT.sIx us.length 0 lo)).take (HT.sIx us.length us.length hi - HT.sIx us.length 0 lo)) := by
  unfold cutV
  rw [r.length]
  exact (r.drop _).take _
theorem sl_tupP : SlR X (rSlP X.K) := fun pins s σ H x v vl vu lo hi sl Q I rx hs pl pu ⟨a, xs, e, hx, hw, q⟩ => by
  subst e
  cases rx
  have ⟨its, r, ht, hz⟩ := I.tuple hx
  have len : xs.length = its.toArray.size := by simp [r.length]
  have all := HT.getItem_tuple_cut (prog := X.prog) (w := X.w) (E := X.xe) (A := X.A) (Q := EP X pins σ Q) ht hs pl pu (len ▸ hw) (new_tuple I (by simpa using cut_vals r lo hi) (Nat.le_trans (cutV_length xs lo hi) hz) q) (len ▸ hz)
  exact ⟨"tuple", _, PyProof.Rows.slot_tuple_getitem.lookup, ht.typeIs, all⟩
/-- t + u, both not empty -/
def rCatP (K : PySem.W.Frag) : R2 := fun x y H Q => ∃ a b xs ys, x = .ref a ∧ y = .ref b ∧ SqT K H a xs ∧ SqT K H b ys ∧ xs ≠ [] ∧ ys ≠ [] ∧ xs.length + ys.length ≤ sizeLine ∧ NewT H (xs ++ ys) Q
theorem op_catP : OpR X (binaryOp .Add) (rCatP X.K) := fun pins s σ H x y v u Q I rx ry ⟨a, b, xs, ys, ex, ey, ha, hb, nx, ny, hz, q⟩ => by
  subst ex ey
  cases rx
  cases ry
  have ⟨us, r1, p1, _⟩ := I.tuple ha
  have ⟨ws, r2, p2, _⟩ := I.tuple hb
  have lens : us.length + ws.length ≤ sizeLine := by have := r1.length; have := r2.length; omega
  exact HT.cat_tup p1 p2 (fun z => nx (r1.nil_iff.mp z)) (fun z => absurd (r2.nil_iff.mp z) ny) (fun _ => new_tuple I (r1.append r2) (by simpa using hz) q) lens
/-- t + u where one is empty: the other one itself -/
def rCat0 (K : PySem.W.Frag) : R2 := fun x y H Q => ∃ a b xs ys, x = .ref a ∧ y = .ref b ∧ SqT K H a xs ∧ SqT K H b ys ∧ xs.length + ys.length ≤ sizeLine ∧ ((xs = [] ∧ Q y H) ∨ (xs ≠ [] ∧ ys = [] ∧ Q x H))
theorem op_cat0 : OpR X (binaryOp .Add) (rCat0 X.K) := fun pins s σ H x y v u Q I rx ry ⟨a, b, xs, ys, ex, ey, ha, hb, hz, q⟩ => by
  subst ex ey
  refine op_catA pins s σ H _ _ v u Q I rx ry ⟨a, b, xs, ys, rfl, rfl, ha, hb, hz, fun e => ?_, fun n e => ?_, fun n m => ?_⟩
  · exact q.elim (fun z => z.2) fun z => absurd e z.1
  · exact q.elim (fun z => absurd z.1 n) fun z => z.2.2
  · exact q.elim (fun z => absurd z.1 n) fun z => absurd z.2.1 m
end
section
variable {s : Shared} {A : Around} {prog : Program} {w : World} {E : Value → Shared → Prop}
/-- how many places [::-1] goes over -/
theorem many_back (n : Nat) : Builtin.Slice.slicePlaces ((n : Int) - 1) (-1) (-1) = n := by
  cases n with
  | zero => rfl
  | succ k =>
    have e : ((k + 1 : Nat) : Int) - 1 = k := by omega
    rw [e]
    simp only [Builtin.Slice.slicePlaces]
    rw [if_neg (by decide), if_pos (by omega), show (- -1 : Int) = 1 from rfl, Int.ediv_one]
    omega
theorem picked_back (xs : Array Value) : ((List.range xs.size).filterMap fun (m : Nat) => xs[(((xs.size : Int) - 1) + (m : Int) * (-1)).toNat]?) = xs.toList.reverse := by
  have places : (List.range xs.size).map (fun m : Nat => (((xs.size : Int) - 1) + (m : Int) * (-1)).toNat) = (List.range xs.size).reverse := by
    rw [← PySem.W.krv_range]
    exact List.map_congr_left fun k hk => by have := List.mem_range.mp hk; omega
  calc _ = ((List.range xs.size).map fun m : Nat => (((xs.size : Int) - 1) + (m : Int) * (-1)).toNat).filterMap (xs[·]?) := (List.filterMap_map ..).symm
    _ = _ := by rw [places, List.filterMap_reverse, PySem.W.krv_all]
/-- the slice object [::-1] -/
structure Back (h : Heap) (sl : Addr) : Prop where
  ex : ∃ vl vu vs, h.IsSliceOf sl vl vu vs ∧ IsPart vl none ∧ IsPart vu none ∧ IsPart vs (some (-1))
theorem back_applied {sl : Addr} {n : Nat} {Q : Int × Int × Nat → Shared → Prop} (b : Back s.heap sl) (h : Q ((n : Int) - 1, -1, n) s) : wpAny (model prog w) A (Builtin.Slice.sliceApplied (.ref sl) (pure (n : Int))) Q E s := by
  obtain ⟨vl, vu, vs, ⟨ob, at_, _, dat⟩, pl, pu, ps⟩ := b.ex
  have f0 : ∀ {R : Value → Shared → Prop}, R vl s → wpAny (model prog w) A (field (.ref sl) 0) R E s := fun k => wpAny_field at_ dat rfl k
  have f1 : ∀ {R : Value → Shared → Prop}, R vu s → wpAny (model prog w) A (field (.ref sl) 1) R E s := fun k => wpAny_field at_ dat rfl k
  have f2 : ∀ {R : Value → Shared → Prop}, R vs s → wpAny (model prog w) A (field (.ref sl) 2) R E s := fun k => wpAny_field at_ dat rfl k
  wp_walk using f0, f1, f2, HT.slicePart_ pl, HT.slicePart_ pu, HT.slicePart_ ps
  show Q ((n : Int) - 1, -1, Builtin.Slice.slicePlaces ((n : Int) - 1) (-1) (-1)) s
  exact (many_back n).symm ▸ h
theorem tuple_back {t sl : Addr} {items : Array Value} {Q : Value → Shared → Prop} (ht : PyProof.Rows.IsTup s.heap t items) (b : Back s.heap sl) (hz : items.size ≤ sizeLine) (h : Q (.ref s.heap.objs.size) { s with heap := s.heap.push (tupO items.toList.reverse) }) :
    wpAny (model prog w) A (getItem (.ref t) (.ref sl)) Q E s := by
  have ty := ht.typeIs
  have tys : s.TypeIs (.ref sl) "slice" := let ⟨_, _, _, ⟨ob, at_, c, _⟩, _⟩ := b.ex; ⟨ob, at_, c⟩
  have run : wpAny (model prog w) A.in1 (Builtin.«tuple.__getitem__» ⟨[.ref t, .ref sl], []⟩) (fun r s' => ∃ v, r = .done (.ret v) ∧ Q v s') E s := by
    have ⟨⟨c, dd, dt, sls⟩, ho, hc, n, hd⟩ := ht
    dsimp only at hc hd
    subst hc hd
    wp_walk using wpAny_load ho, wpAny_typeOf tys, back_applied b
    rw [picked_back, if_neg (by simpa using hz)]
    wp_walk
    exact ⟨_, rfl, h⟩
  have made : wpAny (model prog w) A (call (.builtin "tuple.__getitem__") [.ref t, .ref sl]) Q E s := wpAny_call_entry PyProof.Rows.slot_tuple_getitem ty PyProof.Rows.entry_tuple_getitem run (PyProof.Rows.args_tuple_getitem _ _)
  unfold getItem
  apply wpAny_holding
  apply wpAny_bind
  apply wpAny_sequenceKey ty (by decide)
  apply wpAny_bind
  exact wpAny_callSpecial?_slot (name := Str.ofString "__getitem__") ty PyProof.Rows.slot_tuple_getitem (wpAny_mono made (fun _ _ q => wpAny_pure q) fun _ _ e => e)
end
section
variable {X : Cx}
theorem slice_back {st : Expr} {ts : TO} {p3 : Pos} {pins : List (Addr × Obj)} {s : Shared} {σ : St} {H : Hp} {R : Hp → Prop} {Q : Value → Shared → Prop} (hst : PO X (some st) ts) (I : Inv X pins σ H s) (h : ts σ H fun o H2 => o = some (-1) ∧ R H2)
    (k : ∀ sl s2 H2, Inv X pins σ H2 s2 → Back s2.heap sl → R H2 → Q (.ref sl) s2) : wpAny (model X.prog X.w) X.A (eval (.Slice none none (some st) p3) X.env) Q X.xe s := by
  have no : ∀ s1 H1, Inv X pins σ H1 s1 → wpAny (model X.prog X.w) X.A (evalPart none X.env) (fun u s2 => Inv X pins σ H1 s2 ∧ IsPart u none) X.xe s1 := fun s1 H1 I1 =>
    thn (po_none.run pins s1 σ H1 (fun o H2 => o = none ∧ H2 = H1) I1 ⟨rfl, rfl⟩) fun u s2 ⟨o, H2, I2, pt, e⟩ => ⟨e.2 ▸ I2, e.1 ▸ pt⟩
  refine wpAny_Slice (thn (no s H I) fun vl s1 ⟨I1, pl⟩ => thn (no s1 H I1) fun vu s2 ⟨I2, pu⟩ => thn (hst.run pins s2 σ H _ I2 h) fun vs s3 ⟨o, H3, I3, ps, e, r⟩ => ?_)
  subst e
  exact k _ _ H3 (I3.kept (t' := s3.toks) fun _ _ e => Heap.get?_push_of_some _ e) ⟨vl, vu, vs, Heap.IsSliceOf.new _ vl vu vs, pl, pu, ps⟩ r
def tBack (K : PySem.W.Frag) (te : TE) (ts : TO) : TE := fun σ H Q => te σ H fun x H1 => ts σ H1 fun o H2 => o = some (-1) ∧
  ((∃ a xs, x = .ref a ∧ SqL K H2 a xs ∧ ∀ p, H2 p = none → Q (.ref p) (upd H2 p (.lst xs.reverse))) ∨ (∃ a xs, x = .ref a ∧ SqT K H2 a xs ∧ NewT H2 xs.reverse Q))
theorem pe_back {e st : Expr} {te : TE} {ts : TO} {p3 pos : Pos} (he : PE X e te) (hst : PO X (some st) ts) : PE X (.Subscript e (.Slice none none (some st) p3) pos) (tBack X.K te ts) :=
  PE.mk fun pins s σ H Q I h => PyProof.Rows.Subscript_ (thn (he.run pins s σ H _ I h) fun v s1 ⟨x, H1, I1, r1, q1⟩ => slice_back hst I1 q1 fun sl s2 H2 I2 b q2 => by
    rcases q2 with ⟨a, xs, ex, hx, q⟩ | ⟨a, xs, ex, hx, q⟩
    · subst ex
      cases r1
      have ⟨its, r, pl, hz⟩ := I2.list hx
      have ⟨vl, vu, vs, so, p1, p2, p3⟩ := b.ex
      refine PyProof.Rows.tail_any (ops := [.ref a, .ref sl]) pl.isList.typeIs PySem.slot_list_getitem.lookup (wpAny_getItem_list_slice pl.isList so p1 p2 p3 (by decide) ?_ (by simpa [← r.length] using hz)) (by with_unfolding_all rfl)
      have there := Heap.get?_push_size s2.heap (o := { cls := .type "list", data := .seq its.reverse.toArray }) rfl
      rw [PySem.W.krv_pick]
      exact ⟨.ref s2.heap.objs.size, _, I2.laid (t' := s2.toks) (fun _ _ e => Heap.get?_push_of_some _ e) (Nat.le_refl _) (o := .lst xs.reverse) ⟨by simpa using hz, its.reverse, 0, r.reverse, there⟩, rfl, q _ (I2.hok.fresh (Nat.le_refl _))⟩
    · subst ex
      cases r1
      have ⟨its, r, tp, hz⟩ := I2.tuple hx
      refine PyProof.Rows.tail_any (ops := [.ref a, .ref sl]) tp.typeIs PyProof.Rows.slot_tuple_getitem.lookup (tuple_back tp b (by simpa [← r.length] using hz) ?_) (by with_unfolding_all rfl)
      exact new_tuple I2 r.reverse (by simpa using hz) q)
theorem SqP.obj {pins : List (Addr × Obj)} {σ : St} {H : Hp} {s : Shared} {a : Addr} {xs : List V} (I : Inv X pins σ H s) (h : SqP X.K H a xs) : ∃ o, s.heap.get? a = some o ∧ o.dict = none ∧ o.cls = .type "tuple" := by
  rcases h with ⟨o, e, n⟩ | ⟨o, _, _, l, n, c, _⟩
  · have ⟨e1, _, _, _, o2, e2, c, _⟩ := I.hok a _ e
    exact ⟨o, e1, n, Option.some.inj (e1.symm.trans e2) ▸ c⟩
  · exact ⟨o, I.kIn a o l, n, c⟩
def tTM (K : PySem.W.Frag) (r : V → List V → Hp → VK → Prop) (to : TE) (t : TA) : TE := fun σ H Q => to σ H fun x H1 => (∃ a xs, x = .ref a ∧ SqP K H1 a xs) ∧ t σ H1 fun ys H2 => r x ys H2 Q
/-- few arguments, none of them starred -/
abbrev Few (X : Cx) (pos : Pos) (es : List Expr) : Prop := ((backTo pos (starEach es X.env)).all (fun a => !a.1) && (backToKw pos (keywordEach [] X.env)).all (fun a => a.1.isSome) && decide (es.length + ([] : List Keyword).length + (if ([] : List Keyword).isEmpty then 0 else 1) < 30)) = true
theorem pe_tm {name : Str} {id : String} {r : V → List V → Hp → VK → Prop} {o e : Expr} {to : TE} {t : TA} {apos pos : Pos} (slot : Slot "tuple" name id) (ty : typeOf (.builtin id) = pure (.type "method_descriptor")) (m : MtR X id r) (ho : PE X o to) (ha : PA X [e] t)
    (base : attributeBase o name X.env (eval o X.env) = eval o X.env) (few : Few X pos [e]) (line : (apos.endLine == pos.line) = true) (st : starEach [e] X.env = [(false, eval e X.env)]) : PE X (.Call (.Attribute o name apos) [e] [] pos) (tTM X.K r to t) :=
  PE.mk fun pins s σ H Q I h => wpAny_Call_method_late base few line rfl (thn (ho.run pins s σ H _ I h) fun v s1 ⟨x, H1, I1, r1, ⟨a, xs, ex, sq⟩, q1⟩ => by
    subst ex
    cases r1
    have ⟨ob, at_, nd, c⟩ := sq.obj I1
    refine ⟨"tuple", id, PySem.F.plainAttrs_tuple, slot, ty, ⟨ob, at_, c⟩, fun b eb => ⟨ob, by cases eb; exact at_, nd⟩, ?_⟩
    have args := ha.run pos pins s1 σ H1 _ I1 q1
    rw [st] at args ⊢
    exact Calls.callWith_builtin rfl (Calls.evalArgs_plain (thn args fun us s2 ⟨ys, H2, I2, rs, q⟩ => m pins s2 σ H2 (.ref a) ys _ us Q I2 rfl rs q)))
/-- t.count(x) -/
def rCntT (K : PySem.W.Frag) : V → List V → Hp → VK → Prop := fun x ys H Q => ∃ (a : Addr) (y : V) (d : PyData) (ds : List PyData), x = .ref a ∧ ys = [y] ∧ Dp K H (.ref a) (.tuple ds) ∧ Dp K H y d ∧
  SeqAt.shaped (.tuple ds) = true ∧ SeqAt.shaped d = true ∧ Q (.int (ds.countP fun z => PyData.eqv z d : Nat)) H
theorem mt_cntT (hu : X.A.units + 65 < cLine) : MtR X "tuple.count" (rCntT X.K) := fun pins s σ H x ys v us Q I rx rys ⟨a, y, d, ds, ex, ey, hl, hy, sl, sd, q⟩ => by
  subst ex ey
  match us, rys with
  | [uy], .cons ry .nil =>
    cases rx
    have ⟨bs, rd⟩ := Dp.reads I d y uy hy ry
    have lay := SeqAt.canLay_of_shaped sl
    cases hl with
    | tup hs ha =>
      have ⟨its, rv, ⟨⟨c, dd, dt, sls⟩, at_, hc, n, hd⟩, _⟩ := I.tuple hs
      dsimp only at hc hd
      subst hc hd
      have ⟨as, rs⟩ := Dp.readsAll I ds _ its ha rv
      have back : its.map (SeqAt.readOf s.heap) = ds := SeqAt.readsAll_map ds its as lay rs
      have eqs := SeqAt.items_eqAt (A := X.A) (vs := its.toArray) (by simpa using rs) rd lay (SeqAt.canLay_of_shaped sd) (PyProof.Rows.room_in_shaped sd hu)
      refine call_meets PySem.F.slot_tuple_count ⟨_, at_, rfl⟩ PySem.F.entry_tuple_count (PySem.F.args_tuple_count_2 _ _) (SeqAt.tuple_countAt a its.toArray n dd sls uy _) ⟨at_, eqs, .int _, H, I.tok _, ⟨_, rfl⟩, ?_⟩
      rw [← back, List.countP_map] at q
      exact q
end
end HB
namespace HB
open PySem L2
abbrev Mo (α : Type) := En → Option (Except Exn (En × α))
def mRet {α : Type} (a : α) : Mo α := fun ρ => some (.ok (ρ, a))
def mBind {α β : Type} (m : Mo α) (f : α → Mo β) : Mo β := fun ρ => match m ρ with
  | none => none
  | some (.error x) => some (.error x)
  | some (.ok (ρ', a)) => f a ρ'
def mLift {α : Type} (o : Option α) : Mo α := fun ρ => match o with
  | none => none
  | some a => some (.ok (ρ, a))
/-- an exception as it lies -/
def XP (K : PySem.W.Frag) (G : Hp) (ρ : En) (σ : St) (H : Hp) (x : Exn) (C : Value) (dx : Option Addr) (H' : Hp) : Prop :=
  C = .ref (He.ga K x.1) ∧ ∃ G' : Hp, Same G G' ∧ Sub K G' H' ∧ (∀ b, G' b ≠ none → G b ≠ none ∨ H b = none ∨ Ownd ρ σ b) ∧ (∀ b o, H b = some o → ¬ Ownd ρ σ b → [NoT o] → H' b = some o) ∧ Dm H H' ∧
    ((dx = none ∧ x.2 = []) ∨ ∃ d fs, dx = some d ∧ H' d = some (.xd fs) ∧ RpF K G' fs (x.2.map fun p => (.str p.1, p.2)))
section
variable {K : PySem.W.Frag} {E : XK} {α β : Type}
def Post (K : PySem.W.Frag) (E : XK) (R : Hp → β → α → Prop) (G : Hp) (ρ : En) (σ : St) (H : Hp) (Q : β → Hp → Prop) : Option (Except Exn (En × α)) → Prop
  | none => False
  | some (.error x) => ∀ C dx H', XP K G ρ σ H x C dx H' → E C dx H'
  | some (.ok (ρ', a)) => ∀ G' v H', Ex K G ρ σ H G' ρ' σ H' → R G' v a → Q v H'
variable {G G1 H H1 : Hp} {ρ ρ1 : En} {σ σ1 : St} {R : Hp → β → α → Prop} {Q : β → Hp → Prop}
theorem XP.trans (e : Ex K G ρ σ H G1 ρ1 σ1 H1) {x : Exn} {C : Value} {dx : Option Addr} {H' : Hp} (h : XP K G1 ρ1 σ1 H1 x C dx H') : XP K G ρ σ H x C dx H' := by
  obtain ⟨h1, G', h2, h3, h4, h5, h6, h7⟩ := h
  refine ⟨h1, G', e.g.trans h2, h3, fun b hb => ?_, fun b o q n => h5 b o (e.kept b o q n) fun z => ?_, ⟨fun b hb => e.dom b (h6 b hb), e.tt.trans h6.t⟩, h7⟩
  · rcases h4 b hb with z | z | z
    · exact e.new b z
    · exact .inr (.inl (e.dom b z))
    · rcases e.ow b z with z | z
      · exact .inr (.inr z)
      · exact .inr (.inl z)
  · rcases e.ow b z with z | z
    · exact n z
    · rw [q] at z; cases z
theorem Post.ex {o : Option (Except Exn (En × α))} (e : Ex K G ρ σ H G1 ρ1 σ H1) (h : Post K E R G ρ σ H Q o) : Post K E R G1 ρ1 σ H1 Q o := by
  match o, h with
  | some (.error x), h => exact fun C dx H' z => h C dx H' (XP.trans e z)
  | some (.ok (ρ', a)), h => exact fun G' v H' z r => h G' v H' (e.trans z) r
theorem Post.imp {γ δ : Type} {R' : Hp → δ → γ → Prop} {Q' : δ → Hp → Prop} {m : Mo γ} {f : γ → Mo α} (h : Post K E R G ρ σ H Q (mBind m f ρ))
    (k : ∀ G1 ρ1 v H1 a, Ex K G ρ σ H G1 ρ1 σ H1 → R' G1 v a → Post K E R G1 ρ1 σ H1 Q (f a ρ1) → Q' v H1) : Post K E R' G ρ σ H Q' (m ρ) := by
  unfold mBind at h
  cases q : m ρ with
  | none => rw [q] at h; exact h
  | some r =>
    rw [q] at h
    cases r with
    | error x => exact h
    | ok p =>
      obtain ⟨ρ', a⟩ := p
      exact fun G' v H' z r => k G' ρ' v H' a z r (Post.ex z h)
theorem Post.lift {o : Option α} {ρ' : En} (h : Post K E R G ρ σ H Q (mLift o ρ)) : ∃ a, o = some a ∧ ∀ G' v H', Ex K G ρ σ H G' ρ σ H' → R G' v a → Q v H' := by
  cases o with
  | none => exact False.elim h
  | some a => exact ⟨a, rfl, h⟩
end
/-- an expression -/
def EV (X : Cx) (E : XK) (e : Expr) (f : Mo D) : Prop := ∃ t, PE X e t ∧ ∀ G ρ σ H Q, J X.K G ρ σ H → Post X.K E (Rp X.K) G ρ σ H Q (f ρ) → t σ H Q
/-- a test -/
def ET (X : Cx) (E : XK) (e : Expr) (f : Mo Bool) : Prop := ∃ t, PT X e t ∧ ∀ G ρ σ H Q, J X.K G ρ σ H → Post X.K E (fun _ b c => b = c) G ρ σ H Q (f ρ) → t σ H Q
/-- a BoolOp's tests -/
def EW (X : Cx) (E : XK) (e : Expr) (f : Mo Bool) : Prop := ∃ t, PW X e t ∧ ∀ G ρ σ H Q, J X.K G ρ σ H → Post X.K E (fun _ b c => b = c) G ρ σ H Q (f ρ) → t σ H Q
/-- arguments -/
def EA (X : Cx) (E : XK) (es : List Expr) (f : Mo (List D)) : Prop := ∃ t, PA X es t ∧ ∀ G ρ σ H Q, J X.K G ρ σ H → Post X.K E (RpAll X.K) G ρ σ H Q (f ρ) → t σ H Q
/-- a list that nobody else holds -/
def RpN (K : PySem.W.Frag) (H0 H' : Hp) (G' : Hp) (ρ' : En) (σ : St) (v : V) (ds : List D) : Prop := ∃ a vs, v = .ref a ∧ H0 a = none ∧ G' a = none ∧ H' a = some (.lst vs) ∧ ¬ Ownd ρ' σ a ∧ RpAll K G' vs ds
def PostN (K : PySem.W.Frag) (E : XK) (G : Hp) (ρ : En) (σ : St) (H : Hp) (Q : VK) : Option (Except Exn (En × List D)) → Prop
  | none => False
  | some (.error x) => ∀ C dx H', XP K G ρ σ H x C dx H' → E C dx H'
  | some (.ok (ρ', ds)) => ∀ G' v H', Ex K G ρ σ H G' ρ' σ H' → RpN K H H' G' ρ' σ v ds → Q v H'
/-- an expression that makes a new list -/
def EN (X : Cx) (E : XK) (e : Expr) (f : Mo (List D)) : Prop := ∃ t, PE X e t ∧ ∀ G ρ σ H Q, J X.K G ρ σ H → PostN X.K E G ρ σ H Q (f ρ) → t σ H Q
inductive Fl where
  | nx
  | rt (d : D)
  | bk
  | ct
def PostS (K : PySem.W.Frag) (E : XK) (G : Hp) (ρ : En) (σ : St) (H : Hp) (De : Ends) : Option (Except Exn (En × Fl)) → Prop
  | none => False
  | some (.error x) => ∀ C dx H', XP K G ρ σ H x C dx H' → E C dx H'
  | some (.ok (ρ', .nx)) => ∀ G' σ' H', Ex K G ρ σ H G' ρ' σ' H' → De.nx σ' H'
  | some (.ok (ρ', .bk)) => ∀ G' σ' H', Ex K G ρ σ H G' ρ' σ' H' → De.bk σ' H'
  | some (.ok (ρ', .ct)) => ∀ G' σ' H', Ex K G ρ σ H G' ρ' σ' H' → De.ct σ' H'
  | some (.ok (ρ', .rt d)) => ∀ G' σ' v H', Ex K G ρ σ H G' ρ' σ' H' → Rp K G' v d → De.rt v H'
def SV (X : Cx) (E : XK) (s : Stmt) (g : Mo Fl) : Prop := ∃ t, PS X s t ∧ ∀ G ρ σ H De, J X.K G ρ σ H → PostS X.K E G ρ σ H De (g ρ) → t De σ H
def SVs (X : Cx) (E : XK) (s : List Stmt) (g : Mo Fl) : Prop := ∃ t, PSs X s t ∧ ∀ G ρ σ H De, J X.K G ρ σ H → PostS X.K E G ρ σ H De (g ρ) → t De σ H
section
variable {X : Cx} {E : XK}
theorem PostS.ex {G G1 H H1 : Hp} {ρ ρ1 : En} {σ σ1 : St} {K : PySem.W.Frag} {De : Ends} {o : Option (Except Exn (En × Fl))} (e : Ex K G ρ σ H G1 ρ1 σ1 H1) (h : PostS K E G ρ σ H De o) : PostS K E G1 ρ1 σ1 H1 De o := by
  match o, h with
  | some (.error x), h => exact fun C dx H' z => h C dx H' (XP.trans e z)
  | some (.ok (ρ', .nx)), h => exact fun G' v H' z => h G' v H' (e.trans z)
  | some (.ok (ρ', .bk)), h => exact fun G' v H' z => h G' v H' (e.trans z)
  | some (.ok (ρ', .ct)), h => exact fun G' v H' z => h G' v H' (e.trans z)
  | some (.ok (ρ', .rt d)), h => exact fun G' s' v H' z r => h G' s' v H' (e.trans z) r
/-- an expression first, then a statement -/
theorem PostS.imp {K : PySem.W.Frag} {G H : Hp} {ρ : En} {σ : St} {De : Ends} {γ δ : Type} {R' : Hp → δ → γ → Prop} {Q' : δ → Hp → Prop} {m : Mo γ} {f : γ → Mo Fl} (h : PostS K E G ρ σ H De (mBind m f ρ))
    (k : ∀ G1 ρ1 v H1 a, Ex K G ρ σ H G1 ρ1 σ H1 → R' G1 v a → PostS K E G1 ρ1 σ H1 De (f a ρ1) → Q' v H1) : Post K E R' G ρ σ H Q' (m ρ) := by
  unfold mBind at h
  cases q : m ρ with
  | none => rw [q] at h; exact h
  | some r =>
    rw [q] at h
    cases r with
    | error x => exact h
    | ok p =>
      obtain ⟨ρ', a⟩ := p
      exact fun G' v H' z r => k G' ρ' v H' a z r (PostS.ex z h)
/-- a name of the def; a list of its own is held by others too from then on -/
def mVar (i : Nat) : Mo D := fun ρ => match ρ[i]? with
  | some (.pur d) => some (.ok (ρ, d))
  | some (.own ds) => some (.ok (ρ.set i (.pur (.list ds)), .list ds))
  | _ => none
theorem J.freeze {K : PySem.W.Frag} {G H : Hp} {ρ : En} {σ : St} (j : J K G ρ σ H) {i : Nat} {ds : List D} (h : ρ[i]? = some (.own ds)) :
    ∃ a vs, σ[i]? = some (some (.ref a)) ∧ Ex K G ρ σ H (upd G a (.lst vs)) (ρ.set i (.pur (.list ds))) σ H ∧ Rp K (upd G a (.lst vs)) (.ref a) (.list ds) := by
  obtain ⟨a, vs, h1, h2, h3, h4⟩ := j.own i _ ds h rfl
  have sg : Same G (upd G a (.lst vs)) := same_upd h3
  have hi : i < ρ.length := (List.getElem?_eq_some_iff.mp h).1
  have r : Rp K (upd G a (.lst vs)) (.ref a) (.list ds) := .lst upd_same (h4.mono sg)
  have at_ : ∀ (k : Nat) (s : Sl), (ρ.set i (.pur (.list ds)))[k]? = some s → (k = i ∧ s = .pur (.list ds)) ∨ (k ≠ i ∧ ρ[k]? = some s) := fun k s e => by
    by_cases hk : k = i
    · subst hk
      rw [List.getElem?_set_self hi] at e
      exact .inl ⟨rfl, (Option.some.inj e).symm⟩
    · rw [List.getElem?_set_ne (Ne.symm hk)] at e
      exact .inr ⟨hk, e⟩
  refine ⟨a, vs, h1, ⟨⟨j.sub.take h2, by rw [List.length_set]; exact j.len, fun k d e => ?_, fun k s es e hl => ?_, fun k l s t es fs b e1 l1 e2 l2 e3 e4 => ?_, fun k g o o' z xs e1 e2 => ?_⟩, sg, fun b hb => ?_, fun b o e _ => e, fun b hb => ?_, fun _ z => z, fun k es e => ?_, fun k s e q => ?_, .refl H⟩, r⟩
  · rcases at_ k _ e with ⟨rfl, e'⟩ | ⟨_, e'⟩
    · cases e'
      exact ⟨_, h1, r⟩
    · obtain ⟨v, q1, q2⟩ := j.pur k d e'
      exact ⟨v, q1, q2.mono sg⟩
  · rcases at_ k _ e with ⟨_, e'⟩ | ⟨hk, e'⟩
    · subst e'; cases hl
    · obtain ⟨a', ws, q1, q2, q3, q4⟩ := j.hold k s es e' hl
      have ne : a' ≠ a := fun z => by
        subst z
        exact hk (j.dis k i _ _ es ds a' e' hl h rfl q1 h1)
      exact ⟨a', ws, q1, q2, by rw [upd_ne ne]; exact q3, q4.mono sg⟩
  · rcases at_ k _ e1 with ⟨_, e'⟩ | ⟨hk, e'⟩
    · subst e'; cases l1
    · rcases at_ l _ e2 with ⟨_, f'⟩ | ⟨hl, f'⟩
      · subst f'; cases l2
      · exact j.dis k l _ _ es fs b e' l1 f' l2 e3 e4
  · rcases at_ k _ e1 with ⟨_, e'⟩ | ⟨_, e'⟩
    · cases e'
    · rcases at_ g _ e2 with ⟨_, f'⟩ | ⟨_, f'⟩
      · cases f'
      · exact j.lk k g o o' z xs e' f'
  · by_cases e : b = a
    · subst e
      exact .inr (.inr ⟨i, _, ds, h, rfl, h1⟩)
    · rw [upd_ne e] at hb
      exact .inl hb
  · obtain ⟨k, s, es, e1, l1, e2⟩ := hb
    rcases at_ k _ e1 with ⟨_, e'⟩ | ⟨hk, e'⟩
    · subst e'; cases l1
    · exact .inl ⟨k, s, es, e', l1, e2⟩
  · rcases at_ k _ e with ⟨_, e'⟩ | ⟨_, e'⟩
    · cases e'
    · exact ⟨⟨es, e'⟩, rfl⟩
  · rcases at_ k _ e with ⟨_, e'⟩ | ⟨_, e'⟩
    · subst e'; cases q
    · exact ⟨⟨s, e', q⟩, rfl⟩
theorem ev_var (i : Nat) {x : Str} {pos : Pos} (hN : X.N[i]? = some x := by rfl) (hv : Vis X.env.scope x := by first | exact Or.inl rfl | exact Or.inr (Or.inl rfl) | exact Or.inr (Or.inr rfl)) (hd : (x == ("__debug__" : Str)) = false := by decide)
    (hcd : (x == ("__classdict__" : Str)) = false := by decide) : EV X E (.Name x pos) (mVar i) := by
  refine ⟨tVar i, pe_var hN hv hd hcd, fun G ρ σ H Q j h => ?_⟩
  unfold mVar at h
  cases q : ρ[i]? with
  | none => rw [q] at h; exact h.elim
  | some s =>
    rw [q] at h
    cases s with
    | no => exact h.elim
    | box _ => exact h.elim
    | dl _ _ _ => exact h.elim
    | gst _ _ => exact h.elim
    | ins _ _ _ => exact h.elim
    | pur d =>
      obtain ⟨v, h1, h2⟩ := j.pur i d q
      exact ⟨v, h1, h G v H j.refl h2⟩
    | own ds =>
      obtain ⟨a, vs, h1, h2, h3⟩ := j.freeze q
      exact ⟨_, h1, h _ _ _ h2 h3⟩
theorem ev_int {i : Int} {k : Nat} {pos : Pos} : EV X E (.Constant (.int i) k pos) (mRet (.int i)) := ⟨_, pe_int, fun G ρ σ H Q j h => h G _ H j.refl (.int i)⟩
theorem ev_bl {i : Bool} {k : Nat} {pos : Pos} : EV X E (.Constant (.bool i) k pos) (mRet (.bool i)) := ⟨_, pe_bl, fun G ρ σ H Q j h => h G _ H j.refl (.bl i)⟩
theorem ev_non {k : Nat} {pos : Pos} : EV X E (.Constant .none k pos) (mRet .none) := ⟨_, pe_non, fun G ρ σ H Q j h => h G _ H j.refl .non⟩
theorem ev_str {x : Str} {k : Nat} {pos : Pos} : EV X E (.Constant (.str x) k pos) (mRet (.str x)) := ⟨_, pe_str, fun G ρ σ H Q j h => h G _ H j.refl (.str x)⟩
/-- a module's constant -/
def GlD (K : PySem.W.Frag) (mg : Str → Option Value) (x : Str) (d : D) : Prop := ∃ v u, mg x = some u ∧ RelV v u ∧ ∀ H, Rp K H v d
theorem ev_glob {x : Str} {pos : Pos} {d : D} (g : GlD X.K X.mg x d) (hg : Gl X x := by rfl) (hd : (x == ("__debug__" : Str)) = false := by decide) : EV X E (.Name x pos) (mRet d) := by
  obtain ⟨v, u, h1, h2, h3⟩ := g
  exact ⟨_, pe_glob hg h1 h2 hd, fun G ρ σ H Q j h => h G _ H j.refl (h3 G)⟩
/-- a two-place operation on data -/
def DOp (X : Cx) (sem : Value → Value → Sem Value) (f : D → D → Option D) : Prop := ∃ r, OpR X sem r ∧ ∀ G H x y a b c Q, Sub X.K G H → Rp X.K G x a → Rp X.K G y b → f a b = some c →
  (∀ G' v H', PX G H G' H' → Rp X.K G' v c → Q v H') → r x y H Q
def mOp (f : D → D → Option D) (a b : Mo D) : Mo D := mBind a fun x => mBind b fun y => mLift (f x y)
theorem bin_sem {ta tb : TE} {r : R2} {fa fb : Mo D} {f : D → D → Option D} {sem : Value → Value → Sem Value}
    (ha : ∀ G ρ σ H Q, J X.K G ρ σ H → Post X.K E (Rp X.K) G ρ σ H Q (fa ρ) → ta σ H Q) (hb : ∀ G ρ σ H Q, J X.K G ρ σ H → Post X.K E (Rp X.K) G ρ σ H Q (fb ρ) → tb σ H Q)
    (hr : ∀ G H x y a b c Q, Sub X.K G H → Rp X.K G x a → Rp X.K G y b → f a b = some c → (∀ G' v H', PX G H G' H' → Rp X.K G' v c → Q v H') → r x y H Q) :
    ∀ G ρ σ H Q, J X.K G ρ σ H → Post X.K E (Rp X.K) G ρ σ H Q (mOp f fa fb ρ) → tOp r ta tb σ H Q := by
  intro G ρ σ H Q j h
  refine ha G ρ σ H _ j (Post.imp h fun G1 ρ1 x H1 a e1 r1 h1 => ?_)
  refine hb G1 ρ1 σ H1 _ e1.j (Post.imp h1 fun G2 ρ2 y H2 b e2 r2 h2 => ?_)
  obtain ⟨c, hc, k⟩ := Post.lift (ρ' := ρ2) h2
  exact hr G2 H2 x y a b c Q e2.j.sub (r1.mono e2.g) r2 hc fun G' v H' p q => k G' v H' (e2.j.ex p) q
theorem ev_op {op : Operator} {a b : Expr} {pos : Pos} {fa fb : Mo D} {f : D → D → Option D} (ho : DOp X (binaryOp op) f) (ha : EV X E a fa) (hb : EV X E b fb) : EV X E (.BinOp a op b pos) (mOp f fa fb) := by
  obtain ⟨r, o, hr⟩ := ho
  obtain ⟨ta, pa, qa⟩ := ha
  obtain ⟨tb, pb, qb⟩ := hb
  exact ⟨_, pe_op o pa pb, bin_sem (sem := binaryOp op) qa qb hr⟩
theorem ev_cmp {op : CmpOp} {a b : Expr} {pos : Pos} {fa fb : Mo D} {f : D → D → Option D} (ho : DOp X (compareOp op) f) (ha : EV X E a fa) (hb : EV X E b fb) (hm : behindInMarks op b = false) : EV X E (.Compare a [op] [b] pos) (mOp f fa fb) := by
  obtain ⟨r, o, hr⟩ := ho
  obtain ⟨ta, pa, qa⟩ := ha
  obtain ⟨tb, pb, qb⟩ := hb
  exact ⟨_, pe_cmpR o pa pb hm, bin_sem (sem := compareOp op) qa qb hr⟩
/-- a value as a test: it must be a bool -/
def boolD : D → Option Bool
  | .bool b => some b
  | _ => none
def mTest (f : Mo D) : Mo Bool := mBind f fun d => mLift (boolD d)
theorem test_sem {t : TE} {f : Mo D} (ha : ∀ G ρ σ H Q, J X.K G ρ σ H → Post X.K E (Rp X.K) G ρ σ H Q (f ρ) → t σ H Q) :
    ∀ G ρ σ H Q, J X.K G ρ σ H → Post X.K E (fun _ b c => b = c) G ρ σ H Q (mTest f ρ) → tTest t σ H Q := by
  intro G ρ σ H Q j h
  refine ha G ρ σ H _ j (Post.imp h fun G1 ρ1 x H1 a e1 r1 h1 => ?_)
  obtain ⟨c, hc, k⟩ := Post.lift (ρ' := ρ1) h1
  cases r1 with
  | bl b =>
    cases hc
    exact ⟨_, rfl, k G1 _ H1 e1.j.refl rfl⟩
  | _ => cases hc
theorem et_cmp {op : CmpOp} {a b : Expr} {pos : Pos} {fa fb : Mo D} {f : D → D → Option D} (ho : DOp X (compareOp op) f) (ha : EV X E a fa) (hb : EV X E b fb) (hm : behindInMarks op b = false) : ET X E (.Compare a [op] [b] pos) (mTest (mOp f fa fb)) := by
  obtain ⟨r, o, hr⟩ := ho
  obtain ⟨ta, pa, qa⟩ := ha
  obtain ⟨tb, pb, qb⟩ := hb
  exact ⟨_, pt_cmpR o pa pb hm, test_sem (bin_sem (sem := compareOp op) qa qb hr)⟩
theorem et_val {e : Expr} {f : Mo D} (h : EV X E e f) (he : ∀ whole, isTrue e X.env whole = (do let v ← whole; standAt e.pos; holding [v] (truthy v)) := by intro _; rfl) : ET X E e (mTest f) := by
  obtain ⟨t, p, q⟩ := h
  exact ⟨_, pt_val p he, fun G ρ σ H Q j h => test_sem q G ρ σ H Q j h⟩
def mAnd (a b : Mo Bool) : Mo Bool := mBind a fun c => match c with
  | true => b
  | false => mRet false
def mOr (a b : Mo Bool) : Mo Bool := mBind a fun c => match c with
  | true => mRet true
  | false => b
def mNot (a : Mo Bool) : Mo Bool := mBind a fun c => mRet (!c)
theorem ew_and1 {a : Expr} {pos : Pos} {f : Mo Bool} (h : ET X E a f) : EW X E (.BoolOp .And [a] pos) f := let ⟨t, p, q⟩ := h; ⟨t, pw_and1 p, q⟩
theorem ew_or1 {a : Expr} {pos : Pos} {f : Mo Bool} (h : ET X E a f) : EW X E (.BoolOp .Or [a] pos) f := let ⟨t, p, q⟩ := h; ⟨t, pw_or1 p, q⟩
theorem ew_and {a b : Expr} {rest : List Expr} {pos : Pos} {f g : Mo Bool} (h : ET X E a f) (hb : EW X E (.BoolOp .And (b :: rest) pos) g) : EW X E (.BoolOp .And (a :: b :: rest) pos) (mAnd f g) := by
  obtain ⟨t, p, q⟩ := h
  obtain ⟨t2, p2, q2⟩ := hb
  refine ⟨_, pw_and p p2, fun G ρ σ H Q j h => q G ρ σ H _ j (Post.imp h fun G1 ρ1 x H1 a e1 r1 h1 => ?_)⟩
  subst r1
  cases x with
  | true => exact (q2 G1 ρ1 σ H1 Q e1.j h1 : _)
  | false => exact (h1 G1 false H1 e1.j.refl rfl : _)
theorem ew_or {a b : Expr} {rest : List Expr} {pos : Pos} {f g : Mo Bool} (h : ET X E a f) (hb : EW X E (.BoolOp .Or (b :: rest) pos) g) : EW X E (.BoolOp .Or (a :: b :: rest) pos) (mOr f g) := by
  obtain ⟨t, p, q⟩ := h
  obtain ⟨t2, p2, q2⟩ := hb
  refine ⟨_, pw_or p p2, fun G ρ σ H Q j h => q G ρ σ H _ j (Post.imp h fun G1 ρ1 x H1 a e1 r1 h1 => ?_)⟩
  subst r1
  cases x with
  | false => exact (q2 G1 ρ1 σ H1 Q e1.j h1 : _)
  | true => exact (h1 G1 true H1 e1.j.refl rfl : _)
theorem EW.et {e : Expr} {f : Mo Bool} (h : EW X E e f) : ET X E e f := let ⟨t, p, q⟩ := h; ⟨t, p.pt, q⟩
theorem et_not {a : Expr} {pos : Pos} {f : Mo Bool} (h : ET X E a f) : ET X E (.UnaryOp .Not a pos) (mNot f) := by
  obtain ⟨t, p, q⟩ := h
  refine ⟨_, pt_not p, fun G ρ σ H Q j h => q G ρ σ H _ j (Post.imp h fun G1 ρ1 x H1 a e1 r1 h1 => ?_)⟩
  subst r1
  exact h1 G1 _ H1 e1.j.refl rfl
/-- .. as values, all of them bools -/
def mAndV (a b : Mo D) : Mo D := mBind (mTest a) fun c => match c with
  | true => b
  | false => mRet (.bool false)
def mOrV (a b : Mo D) : Mo D := mBind (mTest a) fun c => match c with
  | true => mRet (.bool true)
  | false => b
def mNotV (a : Mo D) : Mo D := mBind (mTest a) fun c => mRet (.bool (!c))
theorem ev_one {a : Expr} {op : BoolOp} {pos : Pos} {f : Mo D} (h : EV X E a f) : EV X E (.BoolOp op [a] pos) f := let ⟨t, p, q⟩ := h; ⟨t, pe_one p, q⟩
theorem ev_and {a b : Expr} {rest : List Expr} {pos : Pos} {f g : Mo D} (h : EV X E a f) (hb : EV X E (.BoolOp .And (b :: rest) pos) g) : EV X E (.BoolOp .And (a :: b :: rest) pos) (mAndV f g) := by
  obtain ⟨t, p, q⟩ := h
  obtain ⟨t2, p2, q2⟩ := hb
  refine ⟨_, pe_and p p2, fun G ρ σ H Q j h => ?_⟩
  refine test_sem q G ρ σ H (fun c H1 => if c = true then t2 σ H1 Q else Q (.bl false) H1) j (Post.imp h fun G1 ρ1 x H1 a e1 r1 h1 => ?_)
  subst r1
  cases x with
  | true => exact (q2 G1 ρ1 σ H1 Q e1.j h1 : _)
  | false => exact (h1 G1 _ H1 e1.j.refl (.bl false) : _)
theorem ev_or {a b : Expr} {rest : List Expr} {pos : Pos} {f g : Mo D} (h : EV X E a f) (hb : EV X E (.BoolOp .Or (b :: rest) pos) g) : EV X E (.BoolOp .Or (a :: b :: rest) pos) (mOrV f g) := by
  obtain ⟨t, p, q⟩ := h
  obtain ⟨t2, p2, q2⟩ := hb
  refine ⟨_, pe_or p p2, fun G ρ σ H Q j h => ?_⟩
  refine test_sem q G ρ σ H (fun c H1 => if c = true then Q (.bl true) H1 else t2 σ H1 Q) j (Post.imp h fun G1 ρ1 x H1 a e1 r1 h1 => ?_)
  subst r1
  cases x with
  | false => exact (q2 G1 ρ1 σ H1 Q e1.j h1 : _)
  | true => exact (h1 G1 _ H1 e1.j.refl (.bl true) : _)
theorem ev_not {a : Expr} {pos : Pos} {f : Mo D} (h : EV X E a f) : EV X E (.UnaryOp .Not a pos) (mNotV f) := by
  obtain ⟨t, p, q⟩ := h
  refine ⟨_, pe_not p, fun G ρ σ H Q j h => ?_⟩
  refine test_sem q G ρ σ H (fun c H1 => Q (.bl (!c)) H1) j (Post.imp h fun G1 ρ1 x H1 a e1 r1 h1 => ?_)
  subst r1
  exact h1 G1 _ H1 e1.j.refl (.bl _)
def mIf (c : Mo Bool) (a b : Mo D) : Mo D := mBind c fun c => match c with
  | true => a
  | false => b
theorem ev_if {c a b : Expr} {pos : Pos} {fc : Mo Bool} {fa fb : Mo D} (hc : ET X E c fc) (ha : EV X E a fa) (hb : EV X E b fb) : EV X E (.IfExp c a b pos) (mIf fc fa fb) := by
  obtain ⟨t, p, q⟩ := hc
  obtain ⟨ta, pa, qa⟩ := ha
  obtain ⟨tb, pb, qb⟩ := hb
  refine ⟨_, pe_ifExp p pa pb, fun G ρ σ H Q j h => q G ρ σ H _ j (Post.imp h fun G1 ρ1 x H1 a e1 r1 h1 => ?_)⟩
  subst r1
  cases x with
  | true => exact (qa G1 ρ1 σ H1 Q e1.j h1 : _)
  | false => exact (qb G1 ρ1 σ H1 Q e1.j h1 : _)
end
end HB
namespace HB
open PySem L2
section
variable {X : Cx} {E : XK}
def mNil : Mo (List D) := mRet []
def mCons (a : Mo D) (r : Mo (List D)) : Mo (List D) := mBind a fun x => mBind r fun xs => mRet (x :: xs)
def itemsD : D → Option (List D)
  | .list ds => some ds
  | .tuple ds => some ds
  | .dict [(.none, .list ds)] => some ds
  | _ => none
def mStar (a : Mo D) (r : Mo (List D)) : Mo (List D) := mBind a fun x => mBind (mLift (itemsD x)) fun ys => mBind r fun xs => mRet (ys ++ xs)
theorem Rp.items {K : PySem.W.Frag} {G : Hp} {v : V} {d : D} {ds : List D} (r : Rp K G v d) (h : itemsD d = some ds) : ∃ p xs, v = .ref p ∧ (SqT K G p xs ∨ SqL K G p xs) ∧ RpAll K G xs ds := by
  cases r with
  | lst h1 h2 => cases h; exact ⟨_, _, rfl, .inr (.of h1), h2⟩
  | tup h1 h2 => cases h; exact ⟨_, _, rfl, .inl h1.t, h2⟩
  | frz h1 h2 => cases h; exact ⟨_, _, rfl, .inr h1, h2⟩
  | obj h1 h2 => cases h
  | _ => cases h
theorem ea_nil : EA X E [] mNil := ⟨_, pa_nil, fun G ρ σ H Q j h => h G _ H j.refl .nil⟩
theorem ea_cons {e : Expr} {es : List Expr} {f : Mo D} {g : Mo (List D)} (h : EV X E e f) (hr : EA X E es g) (hs : starEach (e :: es) X.env = (false, eval e X.env) :: starEach es X.env := by rfl) : EA X E (e :: es) (mCons f g) := by
  obtain ⟨t, p, q⟩ := h
  obtain ⟨t2, p2, q2⟩ := hr
  refine ⟨_, pa_cons p p2 hs, fun G ρ σ H Q j h => q G ρ σ H _ j (Post.imp h fun G1 ρ1 x H1 a e1 r1 h1 => ?_)⟩
  refine q2 G1 ρ1 σ H1 _ e1.j (Post.imp h1 fun G2 ρ2 y H2 b e2 r2 h2 => ?_)
  exact h2 G2 _ H2 e2.j.refl (.cons (r1.mono e2.g) r2)
theorem sq_mono {K : PySem.W.Frag} {H H' : Hp} {a : Addr} {xs : List V} (s : Same H H') (h : SqT K H a xs ∨ SqL K H a xs) : SqT K H' a xs ∨ SqL K H' a xs := h.elim (fun z => .inl (sqT_mono s z)) fun z => .inr (s.seq z)
theorem ea_star {e : Expr} {es : List Expr} {f : Mo D} {g : Mo (List D)} {sp : Pos} (h : EV X E e f) (hr : EA X E es g) (hs : starEach (.Starred e sp :: es) X.env = (true, eval e X.env) :: starEach es X.env := by rfl) : EA X E (.Starred e sp :: es) (mStar f g) := by
  obtain ⟨t, p, q⟩ := h
  obtain ⟨t2, p2, q2⟩ := hr
  refine ⟨_, StX.pa_star p p2 hs, fun G ρ σ H Q j h => q G ρ σ H _ j (Post.imp h fun G1 ρ1 x H1 a e1 r1 h1 => ?_)⟩
  have h1' : Post X.K E (RpAll X.K) G1 ρ1 σ H1 Q (mBind (mLift (itemsD a)) (fun ys => mBind g fun xs => mRet (ys ++ xs)) ρ1) := h1
  unfold mBind mLift at h1'
  cases hi : itemsD a with
  | none => rw [hi] at h1'; exact h1'.elim
  | some ys =>
    rw [hi] at h1'
    obtain ⟨p0, xs0, rfl, s0, r0⟩ := r1.items hi
    refine ⟨p0, xs0, rfl, sq_mono e1.j.sub s0, ?_⟩
    refine q2 G1 ρ1 σ H1 _ e1.j (Post.imp (f := fun xs => mRet (ys ++ xs)) h1' fun G2 ρ2 y H2 b e2 r2 h2 => ?_)
    exact h2 G2 _ H2 e2.j.refl ((r0.mono e2.g).append r2)
def sizeOk {α : Type} (xs : List α) : Bool := decide (xs.length ≤ 1000000)
theorem line_of {n : Nat} (h : n ≤ 1000000) : n ≤ sizeLine := Nat.le_trans h (by decide)
def mSized (f : Mo (List D)) : Mo (List D) := mBind f fun ds => mLift (if sizeOk ds = true then some ds else none)
def mTup (f : Mo (List D)) : Mo D := mBind f fun ds => mLift (if sizeOk ds = true then some (.tuple ds) else none)
theorem sized {α : Type} {ds : List α} {β : Type} {b c : β} (h : (if sizeOk ds = true then some b else none) = some c) : ds.length ≤ 1000000 ∧ b = c := by
  split at h
  · rename_i q
    exact ⟨of_decide_eq_true q, Option.some.inj h⟩
  · cases h
theorem ev_tup {es : List Expr} {f : Mo (List D)} {k : Nat} {pos : Pos} (h : EA X E es f) : EV X E (.Tuple es k pos) (mTup f) := by
  obtain ⟨t, p, q⟩ := h
  refine ⟨_, pe_tupP p, fun G ρ σ H Q j h => q G ρ σ H _ j (Post.imp h fun G1 ρ1 xs H1 ds e1 r1 h1 => ?_)⟩
  obtain ⟨c, hc, k⟩ := Post.lift (ρ' := ρ1) h1
  obtain ⟨h3, rfl⟩ := sized hc
  refine ⟨by rw [r1.length]; exact line_of h3, fun p o hp nd => ?_⟩
  have px : PX G1 H1 _ _ := .alloc e1.j.sub hp (.frz o (.tup xs))
  exact k _ _ _ (e1.j.ex px) (.tup (.new nd) (r1.mono px.g))
/-- a new list comes -/
theorem new_list {K : PySem.W.Frag} {G H : Hp} {ρ : En} {σ : St} (j : J K G ρ σ H) {p : Addr} (hp : H p = none) {xs : List V} {ds : List D} (r : RpAll K G xs ds) : Ex K G ρ σ H G ρ σ (upd H p (.lst xs)) := by
  have sh : Same H (upd H p (.lst xs)) := same_upd hp
  refine ⟨⟨j.sub.new hp, j.len, j.pur, fun i s ds e hl => ?_, j.alone, fun i g o o' z xs e1 e2 => let ⟨a, v, u, h1, h2, h3⟩ := j.lk i g o o' z xs e1 e2; ⟨a, v, u, h1, sh _ _ h2, h3⟩⟩, .refl _, fun b hb => .inl hb, fun b o e _ => sh _ _ e, fun b hb => .inl hb, fun b hb => sh.free hb, fun i ds h => ⟨⟨ds, h⟩, rfl⟩, fun i s h q => ⟨⟨s, h, q⟩, rfl⟩, (sameT_upd hp).tx⟩
  obtain ⟨a, vs, h1, h2, h3, h4⟩ := j.hold i s ds e hl
  haveI := h4.noT
  exact ⟨a, vs, h1, sh _ _ h2, h3, h4⟩
theorem Post.impN {K : PySem.W.Frag} {G H : Hp} {ρ : En} {σ : St} {Q : VK} {γ δ : Type} {R' : Hp → δ → γ → Prop} {Q' : δ → Hp → Prop} {m : Mo γ} {f : γ → Mo (List D)} (h : PostN K E G ρ σ H Q (mBind m f ρ))
    (k : ∀ G1 ρ1 v H1 a, Ex K G ρ σ H G1 ρ1 σ H1 → R' G1 v a → PostN K E G1 ρ1 σ H1 Q (f a ρ1) → Q' v H1) : Post K E R' G ρ σ H Q' (m ρ) := by
  unfold mBind at h
  cases q : m ρ with
  | none => rw [q] at h; exact h
  | some r =>
    rw [q] at h
    cases r with
    | error x => exact h
    | ok p =>
      obtain ⟨ρ', a⟩ := p
      refine fun G' v H' z r => k G' ρ' v H' a z r ?_
      have h2 : PostN K E G ρ σ H Q (f a ρ') := h
      match hh : f a ρ', h2 with
      | some (.error x), h2 => exact fun C dx H' y => h2 C dx H' (XP.trans z y)
      | some (.ok (ρ2, ds)), h2 =>
        refine fun G2 v2 H2 y r2 => h2 G2 v2 H2 (z.trans y) ?_
        obtain ⟨a2, vs2, e1, e2, e3, e4, e5, e6⟩ := r2
        exact ⟨a2, vs2, e1, z.dom _ e2, e3, e4, e5, e6⟩
theorem Post.liftN {K : PySem.W.Frag} {G H : Hp} {ρ : En} {σ : St} {Q : VK} {o : Option (List D)} (h : PostN K E G ρ σ H Q (mLift o ρ)) : ∃ a, o = some a ∧ ∀ G' v H', Ex K G ρ σ H G' ρ σ H' → RpN K H H' G' ρ σ v a → Q v H' := by
  cases o with
  | none => exact False.elim h
  | some a => exact ⟨a, rfl, h⟩
theorem J.free {K : PySem.W.Frag} {G H : Hp} {ρ : En} {σ : St} (j : J K G ρ σ H) {p : Addr} (hp : H p = none) : G p = none := j.sub.free hp
theorem J.nown {K : PySem.W.Frag} {G H : Hp} {ρ : En} {σ : St} (j : J K G ρ σ H) {p : Addr} (hp : H p = none) : ¬ Ownd ρ σ p := fun z => by
  obtain ⟨ws, z1, _⟩ := j.ownd z
  rw [hp] at z1; cases z1
theorem en_lst {es : List Expr} {f : Mo (List D)} {pos : Pos} (h : EA X E es f) : EN X E (.List es pos) (mSized f) := by
  obtain ⟨t, p, q⟩ := h
  refine ⟨_, pe_lst p, fun G ρ σ H Q j h => q G ρ σ H _ j (Post.impN h fun G1 ρ1 xs H1 ds e1 r1 h1 => ?_)⟩
  obtain ⟨c, hc, k⟩ := Post.liftN h1
  obtain ⟨h3, rfl⟩ := sized hc
  refine ⟨by rw [r1.length]; exact line_of h3, fun p hp => ?_⟩
  exact k _ _ _ (new_list e1.j hp r1) ⟨p, xs, rfl, hp, e1.j.free hp, upd_same, e1.j.nown hp, r1⟩
/-- a new list, as data -/
def mList (f : Mo (List D)) : Mo D := mBind f fun ds => mRet (.list ds)
/-- from now on it is data: nobody changes it -/
theorem Ex.still {K : PySem.W.Frag} {G H G' H' : Hp} {ρ ρ' : En} {σ : St} (e : Ex K G ρ σ H G' ρ' σ H') {a : Addr} {vs : List V} (h1 : H a = none) (h2 : G' a = none) (h3 : H' a = some (.lst vs)) (no : ¬ Ownd ρ' σ a) : Ex K G ρ σ H (upd G' a (.lst vs)) ρ' σ H' := by
  have sg : Same G' (upd G' a (.lst vs)) := same_upd h2
  refine ⟨⟨e.j.sub.take h3, e.j.len, fun i d q => ?_, fun i s es q hl => ?_, e.j.alone, e.j.lk⟩, e.g.trans sg, fun b hb => ?_, e.kept, e.ow, e.dom, e.bx, e.bd, e.tt⟩
  · obtain ⟨v, q1, q2⟩ := e.j.pur i d q
    exact ⟨v, q1, q2.mono sg⟩
  · obtain ⟨a', ws, q1, q2, q3, q4⟩ := e.j.hold i s es q hl
    have ne : a' ≠ a := fun z => by
      subst z
      exact no ⟨i, s, es, q, hl, q1⟩
    exact ⟨a', ws, q1, q2, by rw [upd_ne ne]; exact q3, q4.mono sg⟩
  · by_cases z : b = a
    · subst z; exact .inr (.inl h1)
    · rw [upd_ne z] at hb; exact e.new b hb
theorem EN.ev {e : Expr} {f : Mo (List D)} (h : EN X E e f) : EV X E e (mList f) := by
  obtain ⟨t, p, q⟩ := h
  refine ⟨t, p, fun G ρ σ H Q j h => q G ρ σ H Q j ?_⟩
  unfold mList mBind at h
  cases hh : f ρ with
  | none => rw [hh] at h; exact h
  | some r =>
    rw [hh] at h
    cases r with
    | error x => exact h
    | ok pr =>
      obtain ⟨ρ', ds⟩ := pr
      intro G' v H' e r
      obtain ⟨a, vs, rfl, h1, h2, h3, no, h4⟩ := r
      exact h (upd G' a (.lst vs)) _ H' (e.still h1 h2 h3 no) (.lst upd_same (h4.mono (same_upd h2)))
def ixD : D → D → Option D
  | .list ds, .int i => atI ds i
  | .tuple ds, .int i => atI ds i
  | .dict [(.none, .list ds)], .int i => atI ds i
  | .str z, .int i => if z.length ≤ 1000000 then (atI z.cps.toList i).map fun c => .str ⟨#[c]⟩ else none
  | _, _ => none
theorem RpAll.atI {K : PySem.W.Frag} {G : Hp} {vs : List V} {ds : List D} {i : Int} {d : D} (r : RpAll K G vs ds) (h : atI ds i = some d) : ∃ v, L2.atI vs i = some v ∧ Rp K G v d := by
  unfold L2.atI at h ⊢
  rw [r.length]
  cases q : ixN ds.length i with
  | none => rw [q] at h; cases h
  | some j =>
    rw [q] at h
    exact r.get h
theorem ix_sem {G H : Hp} {x y : V} {a b c : D} {Q : VK} (s : Same G H) (hx : Rp X.K G x a) (hy : Rp X.K G y b) (h : ixD a b = some c) (k : ∀ v, Rp X.K G v c → Q v H) : rIx X.K x y H Q := by
  cases hy with
  | int i =>
    cases hx with
    | lst h1 h2 =>
      obtain ⟨v, q1, q2⟩ := h2.atI h
      exact .inl ⟨_, _, _, _, rfl, rfl, .of (s _ _ h1), q1, k _ q2⟩
    | tup h1 h2 =>
      obtain ⟨v, q1, q2⟩ := h2.atI h
      exact .inr (.inl ⟨_, _, _, _, rfl, rfl, sqT_mono s h1.t, q1, k _ q2⟩)
    | frz h1 h2 =>
      obtain ⟨v, q1, q2⟩ := h2.atI h
      exact .inl ⟨_, _, _, _, rfl, rfl, s.seq h1, q1, k _ q2⟩
    | str z =>
      have h' : (if z.length ≤ 1000000 then (L2.atI z.cps.toList i).map fun c => PyData.str ⟨#[c]⟩ else none) = some c := h
      split at h'
      · rename_i hz
        cases q : L2.atI z.cps.toList i with
        | none => rw [q] at h'; cases h'
        | some cc =>
          rw [q] at h'
          cases h'
          exact .inr (.inr ⟨_, _, _, rfl, rfl, line_of hz, q, k _ (.str _)⟩)
      · cases h'
    | obj h1 h2 => cases h
    | _ => cases h
  | _ => cases hx <;> cases h
theorem ev_ix {a b : Expr} {pos : Pos} {fa fb : Mo D} (ha : EV X E a fa) (hb : EV X E b fb) (hs : PlainIx b := by exact fun _ _ => rfl) : EV X E (.Subscript a b pos) (mOp ixD fa fb) := by
  obtain ⟨ta, pa, qa⟩ := ha
  obtain ⟨tb, pb, qb⟩ := hb
  refine ⟨_, pe_ix ix_seq pa pb hs, bin_sem (sem := fun _ _ => pure .none) qa qb fun G H x y a b c Q s hx hy h k => ix_sem s hx hy h fun v r => k G v H (.refl s) r⟩
end
end HB
namespace HB
open PySem L2
abbrev Fn := List D → Option (Except Exn D)
def PostF (K : PySem.W.Frag) (E : XK) (G H : Hp) (Q : VK) : Option (Except Exn D) → Prop
  | none => False
  | some (.error x) => ∀ C dx H', XP K G [] [] H x C dx H' → E C dx H'
  | some (.ok d) => ∀ G' v H', PX G H G' H' → Rp K G' v d → Q v H'
def spP (K : PySem.W.Frag) (n : Nat) (F : Fn) : Sp := fun vs H Q E => ∃ G ds, Sub K G H ∧ RpAll K G vs ds ∧ ds.length = n ∧ PostF K E G H Q (F ds)
theorem IsFd.one {K : PySem.W.Frag} {f : Addr} {fd fd' : FuncData} (a : IsFd K f fd) (b : IsFd K f fd') : fd' = fd := by
  obtain ⟨_, _, _, a⟩ := a
  obtain ⟨_, _, _, b⟩ := b
  have e := Option.some.inj (a.symm.trans b)
  injection e with _ _ e _
  injection e with e
  exact e.symm
/-- a def of the module and what it is worth -/
structure FnE (P : Program) (w : World) (K : PySem.W.Frag) (mg : Str → Option Value) (base : Heap) (k : Nat) (x : Str) (ps : List Str) (F : Fn) : Prop where
  ex : ∃ fd, FnOk P w K mg base (L2.CX P w) k (He.ga K x) fd ps (spP K ps.length F) ∧ Binds K fd ps []
  kp : PySem.W.keepIn K (.ref (He.ga K x)) = true
  gl : mg x = some (.ref (He.ga K x))
  ln : ∀ ds, F ds ≠ none → ds.length = ps.length
  at_ : ∀ fd, IsFd K (He.ga K x) fd → FnOk P w K mg base (L2.CX P w) k (He.ga K x) fd ps (spP K ps.length F)
def mCall (F : Fn) (a : Mo (List D)) : Mo D := mBind a fun ds ρ => match F ds with
  | none => none
  | some (.error x) => some (.error x)
  | some (.ok d) => some (.ok (ρ, d))
theorem XP.of0 {K : PySem.W.Frag} {G H : Hp} {ρ : En} {σ : St} {x : Exn} {C : Value} {dx : Option Addr} {H' : Hp} (h : XP K G [] [] H x C dx H') : XP K G ρ σ H x C dx H' := by
  obtain ⟨h1, G', h2, h3, h4, h5, h6, h7⟩ := h
  have no : ∀ b, ¬ Ownd [] [] b := fun b ⟨i, s, ds, z, _⟩ => by simp at z
  refine ⟨h1, G', h2, h3, fun b hb => ?_, fun b o q _ => h5 b o q (no b), h6, h7⟩
  rcases h4 b hb with z | z | z
  · exact .inl z
  · exact .inr (.inl z)
  · exact absurd z (no b)
section
variable {X : Cx} {E : XK}
theorem call_sem {F : Fn} {n : Nat} {t : TA} {f : Mo (List D)} (q : ∀ G ρ σ H Q, J X.K G ρ σ H → Post X.K E (RpAll X.K) G ρ σ H Q (f ρ) → t σ H Q) (hl : ∀ ds, F ds ≠ none → ds.length = n) :
    ∀ G ρ σ H Q, J X.K G ρ σ H → Post X.K E (Rp X.K) G ρ σ H Q (mCall F f ρ) → tCall (spP X.K n F) [] E t σ H Q := by
  intro G ρ σ H Q j h
  refine q G ρ σ H _ j (Post.imp h fun G1 ρ1 vs H1 ds e1 r1 h1 => ?_)
  show spP X.K n F (vs ++ []) H1 Q E
  rw [List.append_nil]
  have h1' : Post X.K E (Rp X.K) G1 ρ1 σ H1 Q (match F ds with
    | none => none
    | some (.error x) => some (.error x)
    | some (.ok d) => some (.ok (ρ1, d))) := h1
  cases hF : F ds with
  | none => rw [hF] at h1'; exact h1'.elim
  | some r =>
    refine ⟨G1, ds, e1.j.sub, r1, hl ds (by rw [hF]; simp), ?_⟩
    rw [hF] at h1' ⊢
    cases r with
    | error x => exact fun C dx H' z => h1' C dx H' z.of0
    | ok d => exact fun G' v H' p r => h1' G' v H' (e1.j.ex p) r
theorem ev_call {k : Nat} {x : Str} {ps : List Str} {F : Fn} {p pos : Pos} {e : Expr} {es : List Expr} {f : Mo (List D)} (hF : FnE X.prog X.w X.K X.mg X.base k x ps F) (hr : Room k X.A) (hx : Passes (L2.CX X.prog X.w) X E)
    (ha : EA X E (e :: es) f) (hg : Gl X x := by rfl) (hdb : (x == ("__debug__" : Str)) = false := by decide) (he : starEach (e :: es) X.env = (false, eval e X.env) :: starEach es X.env := by rfl)
    (hpl : (backTo pos (starEach es X.env)).any (·.1) = false := by rfl) : EV X E (.Call (.Name x p) (e :: es) [] pos) (mCall F f) := by
  obtain ⟨⟨fd, h1, h2⟩, kp, gl, hl⟩ := hF
  obtain ⟨t, pt, q⟩ := ha
  exact ⟨_, pe_call h1 hr hg gl kp h2 .nil hx pt hdb he hpl, call_sem q hl⟩
def DCall (X : Cx) (fv : Value) (f : List D → Option D) : Prop := ∃ r, CallR X fv r ∧ ∀ G H xs ds c Q, Same G H → RpAll X.K G xs ds → f ds = some c → (∀ G' v H', PX G H G' H' → Rp X.K G' v c → Q v H') → r xs H Q
def mBuilt (f : List D → Option D) (a : Mo (List D)) : Mo D := mBind a fun ds => mLift (f ds)
theorem built_sem {t : TA} {g : Mo (List D)} {r : List V → Hp → VK → Prop} {f : List D → Option D} (q : ∀ G ρ σ H Q, J X.K G ρ σ H → Post X.K E (RpAll X.K) G ρ σ H Q (g ρ) → t σ H Q)
    (hr : ∀ G H xs ds c Q, Same G H → RpAll X.K G xs ds → f ds = some c → (∀ G' v H', PX G H G' H' → Rp X.K G' v c → Q v H') → r xs H Q) :
    ∀ G ρ σ H Q, J X.K G ρ σ H → Post X.K E (Rp X.K) G ρ σ H Q (mBuilt f g ρ) → tCB r t σ H Q := by
  intro G ρ σ H Q j h
  refine q G ρ σ H _ j (Post.imp h fun G1 ρ1 vs H1 ds e1 r1 h1 => ?_)
  obtain ⟨c, hc, k⟩ := Post.lift (ρ' := ρ1) h1
  exact hr G1 H1 vs ds c Q e1.j.sub r1 hc fun G' v H' p q => k G' v H' (e1.j.ex p) q
theorem ev_callB {id : String} {f : List D → Option D} {x : Str} {p pos : Pos} {e : Expr} {es : List Expr} {g : Mo (List D)} (hc : DCall X (.builtin id) f) (hm : X.mg x = none) (hv : bootBuiltins x = some (.builtin id)) (ha : EA X E (e :: es) g) (hg : Gl X x := by rfl)
    (hn : x ≠ "__name__" := by decide) (hdb : (x == ("__debug__" : Str)) = false := by decide) (he : starEach (e :: es) X.env = (false, eval e X.env) :: starEach es X.env := by rfl) (hpl : (backTo pos (starEach es X.env)).any (·.1) = false := by rfl) : EV X E (.Call (.Name x p) (e :: es) [] pos) (mBuilt f g) := by
  obtain ⟨r, h1, h2⟩ := hc
  obtain ⟨t, pt, q⟩ := ha
  exact ⟨_, pe_callB h1 hg hm hv pt hn hdb he hpl, built_sem q h2⟩
theorem ev_callTy {T : String} {f : List D → Option D} {x : Str} {p pos : Pos} {e : Expr} {es : List Expr} {g : Mo (List D)} (hc : DCall X (.type T) f) (hm : X.mg x = none) (hv : bootBuiltins x = some (.type T)) (ha : EA X E (e :: es) g) (hg : Gl X x := by rfl)
    (hn : x ≠ "__name__" := by decide) (hdb : (x == ("__debug__" : Str)) = false := by decide) (he : starEach (e :: es) X.env = (false, eval e X.env) :: starEach es X.env := by rfl) (hpl : (backTo pos (starEach es X.env)).any (·.1) = false := by rfl) : EV X E (.Call (.Name x p) (e :: es) [] pos) (mBuilt f g) := by
  obtain ⟨r, h1, h2⟩ := hc
  obtain ⟨t, pt, q⟩ := ha
  exact ⟨_, pe_callTy h1 hg hm hv pt hn hdb he hpl, built_sem q h2⟩
def sNext : Mo Fl := mRet .nx
def sSeq (a b : Mo Fl) : Mo Fl := mBind a fun f => match f with
  | .nx => b
  | .rt d => mRet (.rt d)
  | .bk => mRet .bk
  | .ct => mRet .ct
theorem ss_nil : SVs X E [] sNext := ⟨_, pss_nil, fun G ρ σ H De j h => h G σ H j.refl⟩
theorem PostS.seq {K : PySem.W.Frag} {G H : Hp} {ρ : En} {σ : St} {De : Ends} {a b : Mo Fl} {u : TS} (h : PostS K E G ρ σ H De (sSeq a b ρ)) (k : ∀ G1 ρ1 σ1 H1, J K G1 ρ1 σ1 H1 → PostS K E G1 ρ1 σ1 H1 De (b ρ1) → u De σ1 H1) : PostS K E G ρ σ H { De with nx := u De } (a ρ) := by
  unfold sSeq mBind at h
  cases q : a ρ with
  | none => rw [q] at h; exact h
  | some r =>
    rw [q] at h
    cases r with
    | error x => exact h
    | ok p =>
      obtain ⟨ρ', f⟩ := p
      cases f with
      | nx => exact fun G' σ' H' z => k G' ρ' σ' H' z.j (PostS.ex z h)
      | rt d => exact h
      | bk => exact h
      | ct => exact h
theorem ss_cons {s : Stmt} {rest : List Stmt} {a b : Mo Fl} (h1 : SV X E s a) (h2 : SVs X E rest b) : SVs X E (s :: rest) (sSeq a b) := by
  obtain ⟨t, p, q⟩ := h1
  obtain ⟨u, p2, q2⟩ := h2
  exact ⟨_, pss_cons p p2, fun G ρ σ H De j h => q G ρ σ H _ j (PostS.seq h fun G1 ρ1 σ1 H1 j1 k => q2 G1 ρ1 σ1 H1 De j1 k)⟩
theorem ss_one {s : Stmt} {a : Mo Fl} (h1 : SV X E s a) : SVs X E [s] a := let ⟨t, p, q⟩ := h1; ⟨t, pss_one p, q⟩
theorem s_continue {pos : Pos} : SV X E (.Continue pos) (mRet .ct) := ⟨_, ps_continue, fun G ρ σ H De j h => h G σ H j.refl⟩
def sRet (f : Mo D) : Mo Fl := mBind f fun d => mRet (.rt d)
theorem s_ret {e : Expr} {f : Mo D} {pos : Pos} (h : EV X E e f) : SV X E (.Return (some e) pos) (sRet f) := by
  obtain ⟨t, p, q⟩ := h
  exact ⟨_, ps_ret p, fun G ρ σ H De j h => q G ρ σ H _ j (PostS.imp h fun G1 ρ1 v H1 a e1 r1 h1 => h1 G1 σ v H1 e1.j.refl r1)⟩
def sDrop (f : Mo D) : Mo Fl := mBind f fun _ => mRet .nx
theorem s_expr {e : Expr} {f : Mo D} {pos : Pos} (h : EV X E e f) (hs : swapsWith e none pos.line X.env = pure false := by rfl) : SV X E (.Expr e pos) (sDrop f) := by
  obtain ⟨t, p, q⟩ := h
  exact ⟨_, ps_expr p hs, fun G ρ σ H De j h => q G ρ σ H _ j (PostS.imp h fun G1 ρ1 v H1 a e1 r1 h1 => h1 G1 σ H1 e1.j.refl)⟩
def sIf (c : Mo Bool) (a b : Mo Fl) : Mo Fl := mBind c fun c => match c with
  | true => a
  | false => b
theorem s_if {c : Expr} {a b : List Stmt} {pos : Pos} {fc : Mo Bool} {fa fb : Mo Fl} (hc : ET X E c fc) (ha : SVs X E a fa) (hb : SVs X E b fb) : SV X E (.If c a b pos) (sIf fc fa fb) := by
  obtain ⟨t, p, q⟩ := hc
  obtain ⟨ta, pa, qa⟩ := ha
  obtain ⟨tb, pb, qb⟩ := hb
  refine ⟨_, ps_if p pa pb, fun G ρ σ H De j h => q G ρ σ H _ j (PostS.imp h fun G1 ρ1 x H1 a e1 r1 h1 => ?_)⟩
  subst r1
  cases x with
  | true => exact (qa G1 ρ1 σ H1 De e1.j h1 : _)
  | false => exact (qb G1 ρ1 σ H1 De e1.j h1 : _)
theorem getElem?_set_cases {α : Type} {l : List α} {i k : Nat} {a b : α} (h : (l.set i a)[k]? = some b) : (k = i ∧ b = a) ∨ (k ≠ i ∧ l[k]? = some b) := by
  by_cases hk : k = i
  · subst hk
    by_cases hl : k < l.length
    · rw [List.getElem?_set_self hl] at h
      exact .inl ⟨rfl, (Option.some.inj h).symm⟩
    · rw [List.getElem?_eq_none (by rw [List.length_set]; omega)] at h
      cases h
  · rw [List.getElem?_set_ne (Ne.symm hk)] at h
    exact .inr ⟨hk, h⟩
theorem Ex.set {K : PySem.W.Frag} {G H : Hp} {ρ : En} {σ : St} (j : J K G ρ σ H) (i : Nat) {v : V} {d : D} (r : Rp K G v d) : Ex K G ρ σ H G (ρ.set i (.pur d)) (σ.set i (some v)) H := by
  have hn : ∀ (k : Nat) (s : Sl) (es : List D), (ρ.set i (.pur d))[k]? = some s → s.hs = some es → k ≠ i ∧ ρ[k]? = some s ∧ (σ.set i (some v))[k]? = σ[k]? := fun k s es q hl => by
    rcases getElem?_set_cases q with ⟨_, z⟩ | ⟨z, q'⟩
    · subst z; cases hl
    · exact ⟨z, q', List.getElem?_set_ne (Ne.symm z)⟩
  refine ⟨⟨j.sub, by rw [List.length_set, List.length_set]; exact j.len, fun k e q => ?_, fun k s es q hl => ?_, fun k l s t es fs b q1 l1 q2 l2 q3 q4 => ?_, fun k g o o' z xs q1 q2 => ?_⟩, .refl _, fun b hb => .inl hb, fun b o q _ => q, fun b hb => ?_, fun _ z => z, fun k es q => ?_, fun k s q ql => ?_, .refl H⟩
  · rcases getElem?_set_cases q with ⟨rfl, z⟩ | ⟨z, q'⟩
    · cases z
      have hl : k < ρ.length := by
        have := (List.getElem?_eq_some_iff.mp q).1
        rw [List.length_set] at this
        exact this
      exact ⟨v, List.getElem?_set_self (by rw [← j.len]; exact hl), r⟩
    · obtain ⟨u, h1, h2⟩ := j.pur k e q'
      exact ⟨u, by rw [List.getElem?_set_ne (Ne.symm z)]; exact h1, h2⟩
  · obtain ⟨z, q', e⟩ := hn k s es q hl
    rw [e]
    exact j.hold k s es q' hl
  · obtain ⟨z1, q1', e1⟩ := hn k s es q1 l1
    obtain ⟨z2, q2', e2⟩ := hn l t fs q2 l2
    rw [e1] at q3
    rw [e2] at q4
    exact j.alone k l s t es fs b q1' l1 q2' l2 q3 q4
  · obtain ⟨_, q1', e1⟩ := hn k _ _ q1 rfl
    obtain ⟨_, q2', e2⟩ := hn g _ _ q2 rfl
    rw [e1, e2]
    exact j.lk k g o o' z xs q1' q2'
  · obtain ⟨k, s, es, q1, hl, q2⟩ := hb
    obtain ⟨z, q', e⟩ := hn k s es q1 hl
    rw [e] at q2
    exact .inl ⟨k, s, es, q', hl, q2⟩
  · obtain ⟨z, q', e⟩ := hn k _ es q rfl
    exact ⟨⟨es, q'⟩, e⟩
  · obtain ⟨es, hl⟩ := Sl.isD_hs ql
    obtain ⟨z, q', e⟩ := hn k s es q hl
    exact ⟨⟨s, q', ql⟩, e⟩
theorem Ex.setOwn {K : PySem.W.Frag} {G H G' H' : Hp} {ρ ρ' : En} {σ σ' : St} (e : Ex K G ρ σ H G' ρ' σ' H') (i : Nat) {v : V} {ds : List D} (r : RpN K H H' G' ρ' σ' v ds) : Ex K G ρ σ H G' (ρ'.set i (.own ds)) (σ'.set i (some v)) H' := by
  obtain ⟨a, vs, rfl, h1, h2, h3, no, h4⟩ := r
  have j := e.j
  have hn : ∀ (k : Nat) (s : Sl) (es : List D), (ρ'.set i (.own ds))[k]? = some s → s.hs = some es → (k = i ∧ es = ds ∧ s = .own ds ∧ (σ'.set i (some (.ref a)))[k]? = some (some (.ref a))) ∨ (k ≠ i ∧ ρ'[k]? = some s ∧ (σ'.set i (some (.ref a)))[k]? = σ'[k]?) := fun k s es q hl => by
    rcases getElem?_set_cases q with ⟨z1, z⟩ | ⟨z, q'⟩
    · subst z1
      subst z
      cases hl
      have hl : k < ρ'.length := by
        have := (List.getElem?_eq_some_iff.mp q).1
        rw [List.length_set] at this
        exact this
      exact .inl ⟨rfl, rfl, rfl, List.getElem?_set_self (by rw [← j.len]; exact hl)⟩
    · exact .inr ⟨z, q', List.getElem?_set_ne (Ne.symm z)⟩
  refine ⟨⟨j.sub, by rw [List.length_set, List.length_set]; exact j.len, fun k f q => ?_, fun k s es q hl => ?_, fun k l s t es fs b q1 l1 q2 l2 q3 q4 => ?_, fun k g o o' z xs q1 q2 => ?_⟩, e.g, e.new, e.kept, fun b hb => ?_, e.dom, fun k es q => ?_, fun k s q ql => ?_, e.tt⟩
  · rcases getElem?_set_cases q with ⟨rfl, z⟩ | ⟨z, q'⟩
    · cases z
    · obtain ⟨u, g1, g2⟩ := j.pur k f q'
      exact ⟨u, by rw [List.getElem?_set_ne (Ne.symm z)]; exact g1, g2⟩
  · rcases hn k s es q hl with ⟨rfl, rfl, w, z⟩ | ⟨z, q', e2⟩
    · exact ⟨a, _, z, h3, h2, .of (by rw [w]; rfl) h4⟩
    · rw [e2]
      exact j.hold k s es q' hl
  · rcases hn k s es q1 l1 with ⟨rfl, rfl, _, z⟩ | ⟨z, q1', e1⟩
    · rw [z] at q3
      cases q3
      rcases hn l t fs q2 l2 with ⟨rfl, rfl, _, z⟩ | ⟨z, q2', e2⟩
      · rfl
      · rw [e2] at q4
        exact absurd ⟨l, t, fs, q2', l2, q4⟩ no
    · rcases hn l t fs q2 l2 with ⟨rfl, rfl, _, z⟩ | ⟨z, q2', e2⟩
      · rw [z] at q4
        cases q4
        rw [e1] at q3
        exact absurd ⟨k, s, es, q1', l1, q3⟩ no
      · rw [e1] at q3
        rw [e2] at q4
        exact j.alone k l s t es fs b q1' l1 q2' l2 q3 q4
  · rcases hn k _ _ q1 rfl with ⟨_, _, w, _⟩ | ⟨_, q1', e1⟩
    · cases w
    · rcases hn g _ _ q2 rfl with ⟨_, _, w, _⟩ | ⟨_, q2', e2⟩
      · cases w
      · rw [e1, e2]
        exact j.lk k g o o' z xs q1' q2'
  · obtain ⟨k, s, es, q1, hl, q2⟩ := hb
    rcases hn k s es q1 hl with ⟨rfl, rfl, _, z⟩ | ⟨z, q', e2⟩
    · rw [z] at q2
      cases q2
      exact .inr h1
    · rw [e2] at q2
      exact e.ow b ⟨k, s, es, q', hl, q2⟩
  · rcases hn k _ es q rfl with ⟨_, _, z, _⟩ | ⟨z, q', e2⟩
    · cases z
    · obtain ⟨w1, w2⟩ := e.bx k es q'
      exact ⟨w1, e2.trans w2⟩
  · obtain ⟨es, hl⟩ := Sl.isD_hs ql
    rcases hn k s es q hl with ⟨_, _, z, _⟩ | ⟨z, q', e2⟩
    · subst z; cases ql
    · obtain ⟨w1, w2⟩ := e.bd k s q' ql
      exact ⟨w1, e2.trans w2⟩
def setSl (i : Nat) (s : Sl) : Mo Fl := fun ρ => some (.ok (ρ.set i s, .nx))
def sSet (i : Nat) (f : Mo D) : Mo Fl := mBind f fun d => setSl i (.pur d)
def sOwn (i : Nat) (f : Mo (List D)) : Mo Fl := mBind f fun ds => setSl i (.own ds)
theorem s_set {i : Nat} {x : Str} {e : Expr} {f : Mo D} {pos pos' : Pos} (h : EV X E e f) (hN : X.N.Nodup) (hi : X.N[i]? = some x := by rfl) (hx : Loc X.env.scope x := by first | exact Or.inl rfl | exact Or.inr rfl)
    (hs : swapsWith e (some (.Name x pos')) pos.line X.env = pure false := by rfl) (hf : X.fn x = true ∨ X.env.scope.names.lookup x = some .local := by first | exact .inl rfl | exact .inr rfl | assumption) : SV X E (.Assign [.Name x pos'] e pos) (sSet i f) := by
  obtain ⟨t, p, q⟩ := h
  refine ⟨_, ps_set hN hi hx p hs hf, fun G ρ σ H De j h => q G ρ σ H _ j (PostS.imp h fun G1 ρ1 v H1 a e1 r1 h1 => ?_)⟩
  exact h1 G1 _ H1 (Ex.set e1.j i r1)
theorem s_own {i : Nat} {x : Str} {e : Expr} {f : Mo (List D)} {pos pos' : Pos} (h : EN X E e f) (hN : X.N.Nodup) (hi : X.N[i]? = some x := by rfl) (hx : Loc X.env.scope x := by first | exact Or.inl rfl | exact Or.inr rfl)
    (hs : swapsWith e (some (.Name x pos')) pos.line X.env = pure false := by rfl) (hf : X.fn x = true ∨ X.env.scope.names.lookup x = some .local := by first | exact .inl rfl | exact .inr rfl | assumption) : SV X E (.Assign [.Name x pos'] e pos) (sOwn i f) := by
  obtain ⟨t, p, q⟩ := h
  refine ⟨_, ps_set hN hi hx p hs hf, fun G ρ σ H De j h => q G ρ σ H _ j ?_⟩
  unfold sOwn mBind at h
  cases hh : f ρ with
  | none => rw [hh] at h; exact h
  | some r =>
    rw [hh] at h
    cases r with
    | error x => exact h
    | ok pr =>
      obtain ⟨ρ', ds⟩ := pr
      exact fun G' v H' e r => h G' _ H' (e.setOwn i r)
/-- the end of a def's body -/
def runF (n : Nat) (g : Mo Fl) : Fn := fun ds => match g (ds.map Sl.pur ++ List.replicate (n - ds.length) Sl.no) with
  | none => none
  | some (.error x) => some (.error x)
  | some (.ok (_, .nx)) => some (.ok .none)
  | some (.ok (_, .rt d)) => some (.ok d)
  | some (.ok (_, _)) => none
def guard (n : Nat) (F : Fn) : Fn := fun ds => match Nat.beq ds.length n with
  | true => F ds
  | false => none
end
end HB
namespace HB
open PySem L2
theorem start_no {N : List Str} {ds : List D} {σ : St} {b : Addr} : ¬ Ownd (ds.map Sl.pur ++ List.replicate (N.length - ds.length) Sl.no) σ b := by
  rintro ⟨i, s, es, h, hl, _⟩
  rw [List.getElem?_append] at h
  split at h
  · rw [List.getElem?_map] at h
    cases q : ds[i]? with
    | none => rw [q] at h; cases h
    | some d => rw [q] at h; cases h; cases hl
  · rw [List.getElem?_replicate] at h
    split at h
    · cases h; cases hl
    · cases h
theorem start_j {K : PySem.W.Frag} {G H : Hp} {N : List Str} {vs : List V} {ds : List D} (s : Sub K G H) (r : RpAll K G vs ds) : J K G (ds.map Sl.pur ++ List.replicate (N.length - ds.length) Sl.no) (start N vs) H := by
  have hl := r.length
  refine ⟨s, ?_, fun i d h => ?_, fun i s es h hl => absurd hl ?_, fun i k s t ds' es b h hl _ _ _ _ => absurd hl ?_, fun i g o o' z xs h _ => absurd (show (Sl.dl o g z).hs = some _ from rfl) ?_⟩
  · unfold L2.start
    simp only [List.length_append, List.length_map, List.length_replicate]
    omega
  · rw [List.getElem?_append] at h
    split at h
    · rename_i hi
      rw [List.length_map] at hi
      rw [List.getElem?_map] at h
      cases q : ds[i]? with
      | none => rw [q] at h; cases h
      | some e =>
        rw [q] at h
        cases h
        obtain ⟨v, h1, h2⟩ := r.get q
        refine ⟨v, ?_, h2⟩
        unfold L2.start
        rw [List.getElem?_append_left (by rw [List.length_map, hl]; exact hi), List.getElem?_map, h1]
        rfl
    · rw [List.getElem?_replicate] at h
      split at h <;> cases h
  · intro hl
    rw [List.getElem?_append] at h
    split at h
    · rw [List.getElem?_map] at h
      cases q : ds[i]? with
      | none => rw [q] at h; cases h
      | some d => rw [q] at h; cases h; cases hl
    · rw [List.getElem?_replicate] at h
      split at h
      · cases h; cases hl
      · cases h
  · intro hl
    rw [List.getElem?_append] at h
    split at h
    · rw [List.getElem?_map] at h
      cases q : ds[i]? with
      | none => rw [q] at h; cases h
      | some d => rw [q] at h; cases h; cases hl
    · rw [List.getElem?_replicate] at h
      split at h
      · cases h; cases hl
      · cases h
  · intro _
    rw [List.getElem?_append] at h
    split at h
    · rw [List.getElem?_map] at h
      cases q : ds[i]? with
      | none => rw [q] at h; cases h
      | some d => rw [q] at h; cases h
    · rw [List.getElem?_replicate] at h
      split at h <;> cases h
theorem Ex.px {K : PySem.W.Frag} {G H G' H' : Hp} {ρ ρ' : En} {σ σ' : St} (e : Ex K G ρ σ H G' ρ' σ' H') (no : ∀ b, ¬ Ownd ρ σ b) : PX G H G' H' :=
  ⟨⟨fun b o q => e.kept b o q (no b), e.tt.t⟩, e.g, e.j.sub, fun b hb => (e.new b hb).elim .inl fun z => z.elim .inr fun z => absurd z (no b), e.tt.n⟩
theorem XP.to0 {K : PySem.W.Frag} {G H : Hp} {ρ : En} {σ : St} {x : Exn} {C : Value} {dx : Option Addr} {H' : Hp} (no : ∀ b, ¬ Ownd ρ σ b) (h : XP K G ρ σ H x C dx H') : XP K G [] [] H x C dx H' := by
  obtain ⟨h1, G', h2, h3, h4, h5, h6, h7⟩ := h
  refine ⟨h1, G', h2, h3, fun b hb => ?_, fun b o q _ => h5 b o q (no b), h6, h7⟩
  rcases h4 b hb with z | z | z
  · exact .inl z
  · exact .inr (.inl z)
  · exact absurd z (no b)
theorem guard_len {n : Nat} {F : Fn} {ds : List D} (h : guard n F ds ≠ none) : ds.length = n := by
  unfold guard at h
  cases q : Nat.beq ds.length n with
  | true => exact Nat.eq_of_beq_eq_true q
  | false => rw [q] at h; exact absurd rfl h
theorem guard_eq {n : Nat} {F : Fn} {ds : List D} (h : ds.length = n) : guard n F ds = F ds := by
  unfold guard
  subst h
  have e : Nat.beq ds.length ds.length = true := Nat.beq_refl _
  rw [e]
theorem body_sem {K : PySem.W.Frag} {E : XK} {N : List Str} {g : Mo Fl} {t : TS} {n : Nat} (q : ∀ G ρ σ H De, J K G ρ σ H → PostS K E G ρ σ H De (g ρ) → t De σ H) {vs : List V} {H : Hp} {Q : VK} (h : spP K n (guard n (runF N.length g)) vs H Q E) :
    t { nx := fun _ H' => Q .non H', rt := Q } (start N vs) H := by
  obtain ⟨G, ds, s, r, hl, k⟩ := h
  rw [guard_eq hl] at k
  refine q G _ _ H _ (start_j s r) ?_
  have no : ∀ b, ¬ Ownd (ds.map Sl.pur ++ List.replicate (N.length - ds.length) Sl.no) (start N vs) b := fun b => start_no
  unfold runF at k
  cases e : g (ds.map Sl.pur ++ List.replicate (N.length - ds.length) Sl.no) with
  | none => rw [e] at k; exact k.elim
  | some o =>
    rw [e] at k
    cases o with
    | error x => exact fun C dx H' z => k C dx H' (z.to0 no)
    | ok p =>
      obtain ⟨ρ', f⟩ := p
      cases f with
      | nx => exact fun G' σ' H' z => k G' .non H' (z.px no) .non
      | rt d => exact fun G' σ' v H' z r => k G' v H' (z.px no) r
      | bk => exact k.elim
      | ct => exact k.elim
theorem pass_cx {P : Program} {w : World} {K : PySem.W.Frag} {mg : Str → Option Value} {base : Heap} {N : List Str} {qual : Str} {scope : Scope} {f : Addr} {cd : Value} {A : Around} {outer : List PySem.Env} {s : Shared} {H : Hp} {E : XK} :
    Passes (L2.CX P w) (cxOf (L2.CX P w) P w K mg base N qual scope f cd A outer s H E) E := passes_call (takes_of rfl rfl rfl rfl) fun _ _ _ _ h => h
theorem fn_ok {P : Program} {w : World} {K : PySem.W.Frag} {mg : Str → Option Value} {base : Heap} {x : Str} {st : Stmt} {fd : FuncData} {N ps : List Str} {k : Nat} {g : Mo Fl} (F : FunD K x x (defArgs st) (defBody st) (defScope st) [] [] (He.ga K x) fd) (S : FnScope N ps (defScope st)) (gl : mg x = some (.ref (He.ga K x)))
    (b : ∀ (kV doc pm : Value) (an : Option Addr) (cdv ct : Value) (us : List Value), us.length = ps.length → bindArgs (PySem.W.fnOf x x (defArgs st) (defBody st) (defScope st) .none kV doc pm an cdv ct) ⟨us, []⟩ = pure (ps.zip us))
    (hb : ∀ (cdv : Value) (A : Around) (outer : List PySem.Env) (s : Shared) (H : Hp) (E : XK), Room k (A.deeper (PyProof.Rows.envOfC x (defScope st) s.heap.objs.size (He.ga K x) cdv)) → SVs (cxOf (L2.CX P w) P w K mg base N x (defScope st) (He.ga K x) cdv A outer s H E) E (defBody st) g) :
    FnE P w K mg base (k + 1) x ps (guard ps.length (runF N.length g)) := by
  have ok : FnOk P w K mg base (L2.CX P w) (k + 1) (He.ga K x) fd ps (spP K ps.length (guard ps.length (runF N.length g))) := by
    refine F.ok S (fun vs H Q E h => ?_) fun cdv A outer s H vs Q E hr h => ?_
    · obtain ⟨G, ds, _, r, hl, _⟩ := h
      rw [r.length, hl]
    · obtain ⟨t, p, q⟩ := hb cdv A outer s H E hr
      exact ⟨t, p, body_sem q h⟩
  have here : IsFd K (He.ga K x) fd := let ⟨oc, od, _, _, _, _, _, _, _, osl, _, lk, _⟩ := F.ex; ⟨oc, od, osl, lk⟩
  exact ⟨⟨fd, ok, F.bindsN b⟩, F.kp, gl, fun ds h => guard_len h, fun fd' h => here.one h ▸ ok⟩
/-- the same def by another reckoning -/
theorem FnE.by {P : Program} {w : World} {K : PySem.W.Frag} {mg : Str → Option Value} {base : Heap} {k : Nat} {x : Str} {ps : List Str} {F F' : Fn} (h : FnE P w K mg base k x ps F) (e : ∀ ds r, F' ds = some r → F ds = some r) : FnE P w K mg base k x ps F' := by
  obtain ⟨⟨fd, h1, h2⟩, kp, gl, hl, h3⟩ := h
  have weaker : ∀ vs H Q E, spP K ps.length F' vs H Q E → spP K ps.length F vs H Q E := fun vs H Q E q => by
    obtain ⟨G, ds, s, r, l, z⟩ := q
    refine ⟨G, ds, s, r, l, ?_⟩
    cases e1 : F' ds with
    | none => rw [e1] at z; exact z.elim
    | some o => rw [e ds o e1]; rw [e1] at z; exact z
  refine ⟨⟨fd, h1.imp weaker, h2⟩, kp, gl, fun ds q => ?_, fun fd' h => (h3 fd' h).imp weaker⟩
  · cases e1 : F' ds with
    | none => exact absurd e1 q
    | some o => exact hl ds (by rw [e ds o e1]; simp)
section
variable {X : Cx}
def addD : D → D → Option D
  | .int i, .int j => some (.int (i + j))
  | .str x, .str y => if x.length + y.length ≤ 1000000 then some (.str (x ++ y)) else none
  | .tuple xs, .tuple ys => if xs.length + ys.length ≤ 1000000 then some (.tuple (xs ++ ys)) else none
  | .list xs, .list ys => if xs.length + ys.length ≤ 1000000 then some (.list (xs ++ ys)) else none
  | _, _ => none
theorem ite_some {c : Prop} [Decidable c] {α : Type} {a b : α} (h : (if c then some a else none) = some b) : c ∧ a = b := by
  split at h
  · rename_i q
    exact ⟨q, Option.some.inj h⟩
  · cases h
theorem dop_add : DOp X (binaryOp .Add) addD := by
  refine ⟨_, op_add.or (op_add_str.or ((op_catP.or op_cat0).or op_cat)), fun G H x y a b c Q s hx hy h k => ?_⟩
  cases hx with
  | int i => cases hy with
    | int j => cases h; exact .inl ⟨i, j, rfl, rfl, k G _ H (.refl s) (.int _)⟩
    | _ => cases h
  | str z => cases hy with
    | str z' =>
      obtain ⟨h1, rfl⟩ := ite_some (show (if z.length + z'.length ≤ 1000000 then some (PyData.str (z ++ z')) else none) = some c from h)
      exact .inr (.inl ⟨z, z', rfl, rfl, line_of h1, k G _ H (.refl s) (.str _)⟩)
    | _ => cases h
  | @tup a xs ds h1 h2 => cases hy with
    | @tup a' ys es h3 h4 =>
      obtain ⟨hz, rfl⟩ := ite_some (show (if ds.length + es.length ≤ 1000000 then some (PyData.tuple (ds ++ es)) else none) = some c from h)
      have l1 := h2.length
      have l2 := h4.length
      have lz : xs.length + ys.length ≤ sizeLine := by rw [l1, l2]; exact line_of hz
      by_cases ex : xs = []
      · refine .inr (.inr (.inl (.inr ⟨a, a', xs, ys, rfl, rfl, sqT_mono s h1.t, sqT_mono s h3.t, lz, .inl ⟨ex, ?_⟩⟩)))
        subst ex
        cases h2
        exact k G _ H (.refl s) (.tup h3 h4)
      · by_cases ey : ys = []
        · refine .inr (.inr (.inl (.inr ⟨a, a', xs, ys, rfl, rfl, sqT_mono s h1.t, sqT_mono s h3.t, lz, .inr ⟨ex, ey, ?_⟩⟩)))
          subst ey
          cases h4
          exact k G _ H (.refl s) (by rw [List.append_nil]; exact .tup h1 h2)
        · refine .inr (.inr (.inl (.inl ⟨a, a', xs, ys, rfl, rfl, sqT_mono s h1.t, sqT_mono s h3.t, ex, ey, lz, fun p o hp nd => ?_⟩)))
          have px : PX G H _ _ := .alloc s hp (.frz o (.tup (xs ++ ys)))
          exact k _ _ _ px (.tup (.new nd) ((h2.append h4).mono px.g))
    | _ => cases h
  | @lst a xs ds h1 h2 => cases hy with
    | @lst a' ys es h3 h4 =>
      obtain ⟨hz, rfl⟩ := ite_some (show (if ds.length + es.length ≤ 1000000 then some (PyData.list (ds ++ es)) else none) = some c from h)
      refine .inr (.inr (.inr ⟨a, a', xs, ys, rfl, rfl, s _ _ h1, s _ _ h3, by rw [h2.length, h4.length]; exact line_of hz, fun p hp => ?_⟩))
      have px : PX G H _ _ := .alloc s hp (.lst (xs ++ ys))
      exact k _ _ _ px (.lst upd_same ((h2.append h4).mono px.g))
    | _ => cases h
  | obj h1 h2 => cases h
  | _ => cases h
def subD : D → D → Option D
  | .int i, .int j => some (.int (i - j))
  | _, _ => none
theorem dop_sub : DOp X (binaryOp .Sub) subD := by
  refine ⟨_, op_sub, fun G H x y a b c Q s hx hy h k => ?_⟩
  cases hx with
  | int i => cases hy with
    | int j => cases h; exact ⟨i, j, rfl, rfl, k G _ H (.refl s) (.int _)⟩
    | _ => cases h
  | _ => cases h
/-- the factors have together less than a million bits -/
def mulFit (i j : Int) : Bool := Nat.blt (i.natAbs.log2 + j.natAbs.log2) 1000000
def mulD : D → D → Option D
  | .int i, .int j => match mulFit i j with
    | true => some (.int (i * j))
    | false => none
  | .list xs, .int k => if xs.length * k.toNat ≤ 1000000 ∧ k < 1000000 ∧ -1000000 < k then some (.list (List.replicate k.toNat xs).flatten) else none
  | _, _ => none
theorem RpAll.flat {K : PySem.W.Frag} {G : Hp} {xs : List V} {ds : List D} (r : RpAll K G xs ds) : ∀ n : Nat, RpAll K G (List.replicate n xs).flatten (List.replicate n ds).flatten
  | 0 => .nil
  | n + 1 => by
    simp only [List.replicate_succ, List.flatten_cons]
    exact r.append (RpAll.flat r n)
theorem dop_mul : DOp X (binaryOp .Mult) mulD := by
  refine ⟨_, op_mulW.or op_rep, fun G H x y a b c Q s hx hy h k => ?_⟩
  cases hx with
  | int i => cases hy with
    | int j =>
      have h' : (match mulFit i j with
        | true => some (PyData.int (i * j))
        | false => none) = some c := h
      cases q : mulFit i j with
      | true =>
        rw [q] at h'
        cases h'
        refine .inl ⟨i, j, rfl, rfl, ?_, k G _ H (.refl s) (.int _)⟩
        unfold mulFit Nat.blt at q
        exact Nat.le_of_ble_eq_true q
      | false => rw [q] at h'; cases h'
    | _ => cases h
  | @lst a xs ds h1 h2 => cases hy with
    | int j =>
      obtain ⟨⟨hz, h3, h4⟩, rfl⟩ := ite_some (show (if ds.length * j.toNat ≤ 1000000 ∧ j < 1000000 ∧ -1000000 < j then some (PyData.list (List.replicate j.toNat ds).flatten) else none) = some c from h)
      refine .inr ⟨a, j, xs, rfl, rfl, s _ _ h1, by omega, by omega, by rw [h2.length]; exact line_of hz, fun p hp => ?_⟩
      have px : PX G H _ _ := .alloc s hp (.lst (List.replicate j.toNat xs).flatten)
      exact k _ _ _ px (.lst upd_same ((h2.flat _).mono px.g))
    | _ => cases h
  | obj h1 h2 => cases h
  | _ => cases h
def fdivD : D → D → Option D
  | .int i, .int j => if 0 < j ∧ j.natAbs.log2 < 9000 then some (.int (i / j)) else none
  | _, _ => none
theorem dop_fdiv : DOp X (binaryOp .FloorDiv) fdivD := by
  refine ⟨_, op_fdivW, fun G H x y a b c Q s hx hy h k => ?_⟩
  cases hx with
  | int i => cases hy with
    | int j =>
      obtain ⟨h1, rfl⟩ := ite_some (show (if 0 < j ∧ j.natAbs.log2 < 9000 then some (PyData.int (i / j)) else none) = some c from h)
      exact ⟨i, j, rfl, rfl, h1, k G _ H (.refl s) (.int _)⟩
    | _ => cases h
  | _ => cases h
def modD : D → D → Option D
  | .int i, .int j => if 0 < j then some (.int (i % j)) else none
  | _, _ => none
theorem dop_mod : DOp X (binaryOp .Mod) modD := by
  refine ⟨_, op_mod, fun G H x y a b c Q s hx hy h k => ?_⟩
  cases hx with
  | int i => cases hy with
    | int j =>
      obtain ⟨h1, rfl⟩ := ite_some (show (if 0 < j then some (PyData.int (i % j)) else none) = some c from h)
      exact ⟨i, j, rfl, rfl, h1, k G _ H (.refl s) (.int _)⟩
    | _ => cases h
  | _ => cases h
def powD : D → D → Option D
  | .int i, .int j => if 0 ≤ j ∧ j ≤ 1000000 ∧ i.natAbs < 2 ^ 64 then some (.int (i ^ j.toNat)) else none
  | _, _ => none
theorem dop_pow : DOp X (binaryOp .Pow) powD := by
  refine ⟨_, op_pow, fun G H x y a b c Q s hx hy h k => ?_⟩
  cases hx with
  | int i => cases hy with
    | int j =>
      obtain ⟨h1, rfl⟩ := ite_some (show (if 0 ≤ j ∧ j ≤ 1000000 ∧ i.natAbs < 2 ^ 64 then some (PyData.int (i ^ j.toNat)) else none) = some c from h)
      exact ⟨i, j, rfl, rfl, h1, k G _ H (.refl s) (.int _)⟩
    | _ => cases h
  | _ => cases h
/-- comparisons of ints -/
def cmpD (p : Int → Int → Bool) : D → D → Option D
  | .int i, .int j => some (.bool (p i j))
  | _, _ => none
theorem dop_cmp {sem : Value → Value → Sem Value} {p : Int → Int → Bool} (h : OpR X sem (rI0 fun i j => .bl (p i j))) : DOp X sem (cmpD p) := by
  refine ⟨_, h, fun G H x y a b c Q s hx hy h k => ?_⟩
  cases hx with
  | int i => cases hy with
    | int j => cases h; exact ⟨i, j, rfl, rfl, k G _ H (.refl s) (.bl _)⟩
    | _ => cases h
  | _ => cases h
def ltI (i j : Int) : Bool := decide (i < j)
def leI (i j : Int) : Bool := decide (i ≤ j)
def gtI (i j : Int) : Bool := decide (j < i)
def geI (i j : Int) : Bool := decide (j ≤ i)
theorem dop_lt : DOp X (compareOp .Lt) (cmpD ltI) := dop_cmp op_lt
theorem dop_le : DOp X (compareOp .LtE) (cmpD leI) := dop_cmp op_le
theorem dop_gt : DOp X (compareOp .Gt) (cmpD gtI) := dop_cmp op_gt
theorem dop_ge : DOp X (compareOp .GtE) (cmpD geI) := dop_cmp op_ge
mutual
theorem Rp.dp {K : PySem.W.Frag} {H : Hp} : ∀ {v : V} (d : D), d.canLay0 = true → Rp K H v d → Dp K H v d
  | _, .none, _, r => by cases r; exact .non
  | _, .bool b, _, r => by cases r; exact .bl _
  | _, .int b, _, r => by cases r; exact .int _
  | _, .str b, _, r => by cases r; exact .str _
  | _, .list ds, c, r => by
    cases r with
    | lst h1 h2 => exact .lst (.of h1) (RpAll.dp ds (by simpa [PyData.canLay0] using c) h2)
  | _, .tuple ds, c, r => by
    cases r with
    | tup h1 h2 => exact .tup h1.t (RpAll.dp ds (by simpa [PyData.canLay0] using c) h2)
  | _, .dict _, c, r => by simp [PyData.canLay0] at c
theorem RpAll.dp {K : PySem.W.Frag} {H : Hp} : ∀ {vs : List V} (ds : List D), PyData.canLayAll0 ds = true → RpAll K H vs ds → DpAll K H vs ds
  | _, [], _, r => by cases r; exact .nil
  | _, d :: ds, c, r => by
    cases r with
    | cons h t =>
      have c2 : (d.canLay0 && PyData.canLayAll0 ds) = true := by simpa [PyData.canLayAll0] using c
      obtain ⟨c3, c4⟩ := Bool.and_eq_true_iff.mp c2
      exact .cons (Rp.dp d c3 h) (RpAll.dp ds c4 t)
end
def eqD : D → D → Option D
  | .int i, .int j => some (.bool (i == j))
  | a, b => if SeqAt.shaped a = true ∧ SeqAt.shaped b = true then some (.bool (PyData.eqv a b)) else none
def neD : D → D → Option D
  | .int i, .int j => some (.bool (!(i == j)))
  | a, b => if SeqAt.shaped a = true ∧ SeqAt.shaped b = true then some (.bool (!PyData.eqv a b)) else none
theorem eqD_is {a b c : D} (h : eqD a b = some c) : SeqAt.shaped a = true ∧ SeqAt.shaped b = true ∧ c = .bool (PyData.eqv a b) := by
  unfold eqD at h
  split at h
  · cases h
    exact ⟨rfl, rfl, by simp only [PyData.eqv]⟩
  · obtain ⟨⟨h1, h2⟩, rfl⟩ := ite_some h
    exact ⟨h1, h2, rfl⟩
theorem neD_is {a b c : D} (h : neD a b = some c) : SeqAt.shaped a = true ∧ SeqAt.shaped b = true ∧ c = .bool (!PyData.eqv a b) := by
  unfold neD at h
  split at h
  · cases h
    exact ⟨rfl, rfl, by simp only [PyData.eqv]⟩
  · obtain ⟨⟨h1, h2⟩, rfl⟩ := ite_some h
    exact ⟨h1, h2, rfl⟩
theorem Rp.shaped {K : PySem.W.Frag} {G H : Hp} {v : V} {d : D} (s : Same G H) (c : SeqAt.shaped d = true) (r : Rp K G v d) : Dp K H v d := (r.mono s).dp d (SeqAt.canLay_of_shaped c)
theorem dop_eq (hu : X.A.units + 64 < cLine) : DOp X (compareOp .Eq) eqD := by
  refine ⟨_, op_eqD hu, fun G H x y a b c Q s hx hy h k => ?_⟩
  obtain ⟨h1, h2, rfl⟩ := eqD_is h
  exact ⟨a, b, hx.shaped s h1, hy.shaped s h2, h1, h2, k G _ H (.refl s) (.bl _)⟩
theorem dop_ne (hu : X.A.units + 64 < cLine) : DOp X (compareOp .NotEq) neD := by
  refine ⟨_, op_neD hu, fun G H x y a b c Q s hx hy h k => ?_⟩
  obtain ⟨h1, h2, rfl⟩ := neD_is h
  exact ⟨a, b, hx.shaped s h1, hy.shaped s h2, h1, h2, k G _ H (.refl s) (.bl _)⟩
def isN : D → Bool
  | .none => true
  | _ => false
theorem isN_V {K : PySem.W.Frag} {G : Hp} {v : V} {d : D} (r : Rp K G v d) : decide (v = .non) = isN d := by
  cases r <;> simp [isN]
/-- is None -/
def isD : D → D → Option D
  | a, .none => some (.bool (isN a))
  | _, _ => none
def isNotD : D → D → Option D
  | a, .none => some (.bool (!isN a))
  | _, _ => none
theorem dop_is : DOp X (compareOp .Is) isD := by
  refine ⟨_, op_isN, fun G H x y a b c Q s hx hy h k => ?_⟩
  cases hy with
  | non => cases h; exact ⟨rfl, by rw [isN_V hx]; exact k G _ H (.refl s) (.bl _)⟩
  | _ => cases h
theorem dop_isNot : DOp X (compareOp .IsNot) isNotD := by
  refine ⟨_, op_notN, fun G H x y a b c Q s hx hy h k => ?_⟩
  cases hy with
  | non => cases h; exact ⟨rfl, by rw [isN_V hx]; exact k G _ H (.refl s) (.bl _)⟩
  | _ => cases h
end
end HB
namespace HB
open PySem L2
section
variable {X : Cx} {E : XK}
def inD : D → D → Option D
  | d, .list ds => if SeqAt.shaped d = true ∧ SeqAt.shaped (.list ds) = true then some (.bool (ds.any fun z => PyData.eqv z d)) else none
  | .str i, .str j => some (.bool (!(Builtin.Str.occurrences j i 0 j.length 1).isEmpty))
  | _, _ => none
def notInD : D → D → Option D
  | d, .list ds => if SeqAt.shaped d = true ∧ SeqAt.shaped (.list ds) = true then some (.bool (!ds.any fun z => PyData.eqv z d)) else none
  | .str i, .str j => some (.bool (!!(Builtin.Str.occurrences j i 0 j.length 1).isEmpty))
  | _, _ => none
theorem dop_in (hu : X.A.units + 65 < cLine) : DOp X (compareOp .In) inD := by
  refine ⟨_, (op_inD hu).or op_in_str, fun G H x y a b c Q s hx hy h k => ?_⟩
  cases hy with
  | @lst p xs ds h1 h2 =>
    obtain ⟨⟨h3, h4⟩, rfl⟩ := ite_some (show (if SeqAt.shaped a = true ∧ SeqAt.shaped (.list ds) = true then some (PyData.bool (ds.any fun z => PyData.eqv z a)) else none) = some c by
      cases a <;> exact h)
    exact .inl ⟨a, ds, hx.shaped s h3, (Rp.lst h1 h2).shaped s h4, h3, h4, k G _ H (.refl s) (.bl _)⟩
  | str z => cases hx with
    | str z' => cases h; exact .inr ⟨z', z, rfl, rfl, k G _ H (.refl s) (.bl _)⟩
    | _ => cases h
  | _ => cases hx <;> cases h
theorem dop_notIn (hu : X.A.units + 65 < cLine) : DOp X (compareOp .NotIn) notInD := by
  refine ⟨_, (op_notInD hu).or op_notin_str, fun G H x y a b c Q s hx hy h k => ?_⟩
  cases hy with
  | @lst p xs ds h1 h2 =>
    obtain ⟨⟨h3, h4⟩, rfl⟩ := ite_some (show (if SeqAt.shaped a = true ∧ SeqAt.shaped (.list ds) = true then some (PyData.bool (!ds.any fun z => PyData.eqv z a)) else none) = some c by
      cases a <;> exact h)
    exact .inl ⟨a, ds, hx.shaped s h3, (Rp.lst h1 h2).shaped s h4, h3, h4, k G _ H (.refl s) (.bl _)⟩
  | str z => cases hx with
    | str z' => cases h; exact .inr ⟨z', z, rfl, rfl, k G _ H (.refl s) (.bl _)⟩
    | _ => cases h
  | _ => cases hx <;> cases h
/-- -a -/
def negD : D → Option D
  | .int i => some (.int (-i))
  | _ => none
def mUn (f : D → Option D) (a : Mo D) : Mo D := mBind a fun x => mLift (f x)
theorem ev_neg {a : Expr} {pos : Pos} {f : Mo D} (h : EV X E a f) : EV X E (.UnaryOp .USub a pos) (mUn negD f) := by
  obtain ⟨t, p, q⟩ := h
  refine ⟨_, pe_un un_neg p, fun G ρ σ H Q j h => q G ρ σ H _ j (Post.imp h fun G1 ρ1 x H1 a e1 r1 h1 => ?_)⟩
  obtain ⟨c, hc, k⟩ := Post.lift (ρ' := ρ1) h1
  cases r1 with
  | int i => cases hc; exact ⟨i, rfl, k G1 _ H1 e1.j.refl (.int _)⟩
  | _ => cases hc
/-- a op b op' c -/
def mChain (f g : D → D → Option D) (a b c : Mo D) : Mo D := mBind a fun x => mBind b fun y => mBind (mTest (mLift (f x y))) fun t => match t with
  | true => mBind c fun z => mLift (g y z)
  | false => mRet (.bool false)
theorem chain_sem {ta tb tc : TE} {r r' : R2} {fa fb fc : Mo D} {f g : D → D → Option D} (ha : ∀ G ρ σ H Q, J X.K G ρ σ H → Post X.K E (Rp X.K) G ρ σ H Q (fa ρ) → ta σ H Q) (hb : ∀ G ρ σ H Q, J X.K G ρ σ H → Post X.K E (Rp X.K) G ρ σ H Q (fb ρ) → tb σ H Q) (hc : ∀ G ρ σ H Q, J X.K G ρ σ H → Post X.K E (Rp X.K) G ρ σ H Q (fc ρ) → tc σ H Q)
    (hr : ∀ G H x y a b c Q, Sub X.K G H → Rp X.K G x a → Rp X.K G y b → f a b = some c → (∀ G' v H', PX G H G' H' → Rp X.K G' v c → Q v H') → r x y H Q)
    (hr' : ∀ G H x y a b c Q, Sub X.K G H → Rp X.K G x a → Rp X.K G y b → g a b = some c → (∀ G' v H', PX G H G' H' → Rp X.K G' v c → Q v H') → r' x y H Q) :
    ∀ G ρ σ H Q, J X.K G ρ σ H → Post X.K E (Rp X.K) G ρ σ H Q (mChain f g fa fb fc ρ) → tChain r r' ta tb tc σ H Q := by
  intro G ρ σ H Q j h
  refine ha G ρ σ H _ j (Post.imp h fun G1 ρ1 x H1 a e1 r1 h1 => ?_)
  refine hb G1 ρ1 σ H1 _ e1.j (Post.imp h1 fun G2 ρ2 y H2 b e2 r2 h2 => ?_)
  cases hf : f a b with
  | none =>
    have h2' : Post X.K E (Rp X.K) G2 ρ2 σ H2 Q (mBind (mTest (mLift (f a b))) _ ρ2) := h2
    unfold mBind mTest mBind mLift at h2'
    rw [hf] at h2'
    exact h2'.elim
  | some c =>
    have h2' : Post X.K E (Rp X.K) G2 ρ2 σ H2 Q (mBind (mTest (mLift (f a b))) _ ρ2) := h2
    unfold mBind mTest mBind mLift at h2'
    rw [hf] at h2'
    cases c with
    | bool t =>
      refine hr G2 H2 x y a b _ _ e2.j.sub (r1.mono e2.g) r2 hf fun G3 v H3 p3 r3 => ?_
      cases r3
      have e3 := e2.j.ex p3
      refine ⟨t, rfl, ?_⟩
      cases t with
      | true =>
        refine (hc G3 ρ2 σ H3 _ e3.j (Post.imp (f := fun z => mLift (g b z)) (Post.ex e3 h2') fun G4 ρ4 z H4 dc e4 r4 h4 => ?_) : _)
        obtain ⟨c, hc, k⟩ := Post.lift (ρ' := ρ4) h4
        exact hr' G4 H4 y z b dc c Q e4.j.sub ((r2.mono p3.g).mono e4.g) r4 hc fun G' v H' p q => k G' v H' (e4.j.ex p) q
      | false => exact ((Post.ex e3 h2' : Post X.K E (Rp X.K) G3 ρ2 σ H3 Q (some (.ok (ρ2, .bool false)))) G3 _ H3 e3.j.refl (.bl false) : _)
    | _ => exact h2'.elim
theorem ev_chain {op op' : CmpOp} {a b c : Expr} {pos : Pos} {fa fb fc : Mo D} {f g : D → D → Option D} (ho : DOp X (compareOp op) f) (ho' : DOp X (compareOp op') g) (ha : EV X E a fa) (hb : EV X E b fb) (hc : EV X E c fc) (h1 : lastMarks [op, op'] [b, c] = false := by with_unfolding_all rfl) :
    EV X E (.Compare a [op, op'] [b, c] pos) (mChain f g fa fb fc) := by
  obtain ⟨r, o, hr⟩ := ho
  obtain ⟨r', o', hr'⟩ := ho'
  obtain ⟨ta, pa, qa⟩ := ha
  obtain ⟨tb, pb, qb⟩ := hb
  obtain ⟨tc, pc, qc⟩ := hc
  exact ⟨_, pe_chain o o' pa pb pc h1, chain_sem qa qb qc hr hr'⟩
theorem et_chain {op op' : CmpOp} {a b c : Expr} {pos : Pos} {fa fb fc : Mo D} {f g : D → D → Option D} (ho : DOp X (compareOp op) f) (ho' : DOp X (compareOp op') g) (ha : EV X E a fa) (hb : EV X E b fb) (hc : EV X E c fc) (h1 : lastMarks [op, op'] [b, c] = false := by with_unfolding_all rfl) :
    ET X E (.Compare a [op, op'] [b, c] pos) (mTest (mChain f g fa fb fc)) := by
  obtain ⟨r, o, hr⟩ := ho
  obtain ⟨r', o', hr'⟩ := ho'
  obtain ⟨ta, pa, qa⟩ := ha
  obtain ⟨tb, pb, qb⟩ := hb
  obtain ⟨tc, pc, qc⟩ := hc
  exact ⟨_, pt_chain o o' pa pb pc h1, test_sem (chain_sem qa qb qc hr hr')⟩
def lenD : List D → Option D
  | [.list ds] => some (.int ds.length)
  | [.tuple ds] => some (.int ds.length)
  | [.dict [(.none, .list ds)]] => some (.int ds.length)
  | [.str x] => if x.length ≤ 1000000 then some (.int x.length) else none
  | _ => none
theorem RpAll.one {K : PySem.W.Frag} {G : Hp} {xs : List V} {d : D} (r : RpAll K G xs [d]) : ∃ x, xs = [x] ∧ Rp K G x d := by
  cases r with
  | cons h t => cases t; exact ⟨_, rfl, h⟩
theorem RpAll.two {K : PySem.W.Frag} {G : Hp} {xs : List V} {d e : D} (r : RpAll K G xs [d, e]) : ∃ x y, xs = [x, y] ∧ Rp K G x d ∧ Rp K G y e := by
  cases r with
  | cons h t =>
    obtain ⟨y, rfl, q⟩ := t.one
    exact ⟨_, y, rfl, h, q⟩
theorem dc_len : DCall X (.builtin "len") lenD := by
  refine ⟨_, call_len, fun G H xs ds c Q s hx h k => ?_⟩
  match ds, h with
  | [.list ds], h =>
    obtain ⟨x, rfl, r⟩ := hx.one
    cases h
    cases r with
    | lst h1 h2 => exact ⟨_, _, rfl, .inl ⟨_, .of (s _ _ h1), h2.length.symm⟩, k G _ H (.refl s) (.int _)⟩
  | [.tuple ds], h =>
    obtain ⟨x, rfl, r⟩ := hx.one
    cases h
    cases r with
    | tup h1 h2 => exact ⟨_, _, rfl, .inr ⟨_, sqT_mono s h1.t, h2.length.symm⟩, k G _ H (.refl s) (.int _)⟩
  | [.dict [(.none, .list ds)]], h =>
    obtain ⟨x, rfl, r⟩ := hx.one
    cases h
    cases r with
    | frz h1 h2 => exact ⟨_, _, rfl, .inl ⟨_, s.seq h1, h2.length.symm⟩, k G _ H (.refl s) (.int _)⟩
  | [.str z], h =>
    obtain ⟨x, rfl, r⟩ := hx.one
    obtain ⟨h1, rfl⟩ := ite_some (show (if z.length ≤ 1000000 then some (PyData.int z.length) else none) = some c from h)
    cases r
    exact ⟨_, _, rfl, ⟨line_of h1, rfl⟩, k G _ H (.refl s) (.int _)⟩
def absD : List D → Option D
  | [.int i] => some (.int (if i < 0 then -i else i))
  | _ => none
theorem dc_abs : DCall X (.builtin "abs") absD := by
  refine ⟨_, call_abs, fun G H xs ds c Q s hx h k => ?_⟩
  match ds, h with
  | [.int i], h =>
    obtain ⟨x, rfl, r⟩ := hx.one
    cases h
    cases r
    exact ⟨_, rfl, k G _ H (.refl s) (.int _)⟩
def maxD : List D → Option D
  | [.int i, .int j] => some (.int (if j > i then j else i))
  | _ => none
def minD : List D → Option D
  | [.int i, .int j] => some (.int (if j < i then j else i))
  | _ => none
theorem dc_max (hc : X.calm = true) : DCall X (.builtin "max") maxD := by
  refine ⟨_, call_max2 hc, fun G H xs ds c Q s hx h k => ?_⟩
  match ds, h with
  | [.int i, .int j], h =>
    obtain ⟨x, y, rfl, r, r2⟩ := hx.two
    cases h
    cases r
    cases r2
    exact ⟨_, _, rfl, k G _ H (.refl s) (.int _)⟩
theorem dc_min (hc : X.calm = true) : DCall X (.builtin "min") minD := by
  refine ⟨_, call_min2 hc, fun G H xs ds c Q s hx h k => ?_⟩
  match ds, h with
  | [.int i, .int j], h =>
    obtain ⟨x, y, rfl, r, r2⟩ := hx.two
    cases h
    cases r
    cases r2
    exact ⟨_, _, rfl, k G _ H (.refl s) (.int _)⟩
def intD : List D → Option D
  | [.int i] => some (.int i)
  | [.bool b] => some (.int (if b then 1 else 0))
  | _ => none
theorem dc_int : DCall X (.type "int") intD := by
  refine ⟨_, call_int1, fun G H xs ds c Q s hx h k => ?_⟩
  match ds, h with
  | [.int i], h =>
    obtain ⟨x, rfl, r⟩ := hx.one
    cases h
    cases r
    exact .inl ⟨_, rfl, k G _ H (.refl s) (.int _)⟩
  | [.bool i], h =>
    obtain ⟨x, rfl, r⟩ := hx.one
    cases h
    cases r
    exact .inr ⟨_, rfl, k G _ H (.refl s) (.int _)⟩
def boolsD : List D → Option (List Bool)
  | [] => some []
  | .bool b :: r => (boolsD r).map (b :: ·)
  | _ :: _ => none
theorem RpAll.bools {K : PySem.W.Frag} {G : Hp} : ∀ {xs : List V} {ds : List D} {bs : List Bool}, RpAll K G xs ds → boolsD ds = some bs → xs = bs.map V.bl
  | _, [], _, .nil, h => by cases h; rfl
  | _, .bool b :: r, bs, .cons h t, e => by
    cases h
    have e' : (boolsD r).map (b :: ·) = some bs := e
    cases q : boolsD r with
    | none => rw [q] at e'; cases e'
    | some cs =>
      rw [q] at e'
      cases e'
      rw [t.bools q]
      rfl
def allD : List D → Option D
  | [.list ds] => (boolsD ds).map fun bs => .bool (bs.all id)
  | _ => none
def anyD : List D → Option D
  | [.list ds] => (boolsD ds).map fun bs => .bool (bs.any id)
  | _ => none
theorem dc_all (hc : X.calm = true) : DCall X (.builtin "all") allD := by
  refine ⟨_, cr_all hc, fun G H xs ds c Q s hx h k => ?_⟩
  match ds, h with
  | [.list ds], h =>
    obtain ⟨x, rfl, r⟩ := hx.one
    have h' : (boolsD ds).map (fun bs => PyData.bool (bs.all id)) = some c := h
    cases q : boolsD ds with
    | none => rw [q] at h'; cases h'
    | some bs =>
      rw [q] at h'
      cases h'
      cases r with
      | lst h1 h2 => exact ⟨_, bs, rfl, .of (by rw [← h2.bools q]; exact s _ _ h1), k G _ H (.refl s) (.bl _)⟩
theorem dc_any (hc : X.calm = true) : DCall X (.builtin "any") anyD := by
  refine ⟨_, cr_any hc, fun G H xs ds c Q s hx h k => ?_⟩
  match ds, h with
  | [.list ds], h =>
    obtain ⟨x, rfl, r⟩ := hx.one
    have h' : (boolsD ds).map (fun bs => PyData.bool (bs.any id)) = some c := h
    cases q : boolsD ds with
    | none => rw [q] at h'; cases h'
    | some bs =>
      rw [q] at h'
      cases h'
      cases r with
      | lst h1 h2 => exact ⟨_, bs, rfl, .of (by rw [← h2.bools q]; exact s _ _ h1), k G _ H (.refl s) (.bl _)⟩
def tupleD : List D → Option D
  | [.list ds] => some (.tuple ds)
  | [.tuple ds] => some (.tuple ds)
  | _ => none
theorem dc_tuple : DCall X (.type "tuple") tupleD := by
  refine ⟨_, call_tupP.or call_tupleT, fun G H xs ds c Q s hx h k => ?_⟩
  match ds, h with
  | [.list ds], h =>
    obtain ⟨x, rfl, r⟩ := hx.one
    cases h
    cases r with
    | @lst a vs ds h1 h2 =>
      refine .inl ⟨_, vs, rfl, .of (s _ _ h1), fun p o hp nd => ?_⟩
      have px : PX G H _ _ := .alloc s hp (.frz o (.tup vs))
      exact k _ _ _ px (.tup (.new nd) (h2.mono px.g))
  | [.tuple ds], h =>
    obtain ⟨x, rfl, r⟩ := hx.one
    cases h
    cases r with
    | tup h1 h2 => exact .inr ⟨_, _, rfl, sqT_mono s h1.t, k G _ H (.refl s) (.tup h1 h2)⟩
def strD : List D → Option D
  | [.int i] => if i.natAbs.log2 < 1920 then some (.str (toString i)) else none
  | _ => none
theorem dc_str : DCall X (.type "str") strD := by
  refine ⟨_, call_str_int, fun G H xs ds c Q s hx h k => ?_⟩
  match ds, h with
  | [.int i], h =>
    obtain ⟨x, rfl, r⟩ := hx.one
    obtain ⟨h1, rfl⟩ := ite_some (show (if i.natAbs.log2 < 1920 then some (PyData.str (toString i)) else none) = some c from h)
    cases r
    exact ⟨_, rfl, h1, k G _ H (.refl s) (.str _)⟩
/-- list(x): a new list -/
def mListOf (f : Mo D) : Mo (List D) := mBind f fun d => mLift (itemsD d)
theorem en_list {e : Expr} {p pos : Pos} {f : Mo D} (hm : X.mg "list" = none) (h : EV X E e f) (hg : Gl X "list" := by rfl) (he : starEach [e] X.env = (false, eval e X.env) :: starEach [] X.env := by rfl) (hpl : (backTo pos (starEach [] X.env)).any (·.1) = false := by rfl) : EN X E (.Call (.Name "list" p) [e] [] pos) (mListOf f) := by
  obtain ⟨t, pt, q⟩ := h
  refine ⟨_, pe_callTy call_list_of hg hm (by decide +kernel) (pa_cons pt pa_nil he) (by decide) (by decide) he hpl, fun G ρ σ H Q j h => ?_⟩
  refine q G ρ σ H _ j (Post.impN h fun G1 ρ1 x H1 d e1 r1 h1 => ?_)
  obtain ⟨ds, hd, k⟩ := Post.liftN h1
  obtain ⟨p0, xs, rfl, s0, r0⟩ := r1.items hd
  refine ⟨p0, xs, rfl, (sq_mono e1.j.sub s0).symm, fun l hl => ?_⟩
  exact k _ _ _ (new_list e1.j hl r0) ⟨l, xs, rfl, hl, e1.j.free hl, upd_same, e1.j.nown hl, r0⟩
def tyD : D → Option String
  | .none => some "NoneType"
  | .bool _ => some "bool"
  | .int _ => some "int"
  | .str _ => some "str"
  | .list _ => some "list"
  | .tuple _ => some "tuple"
  | _ => none
theorem Rp.ty {K : PySem.W.Frag} {G H : Hp} {v : V} {d : D} {n : String} (s : Same G H) (r : Rp K G v d) (h : tyD d = some n) : TyX K H v (.type n) := by
  cases r with
  | non => cases h; exact .base .non
  | bl b => cases h; exact .base (.bl b)
  | int i => cases h; exact .base (.int i)
  | str x => cases h; exact .base (.str x)
  | lst h1 _ => cases h; exact .base (.lst (s _ _ h1))
  | @tup a xs ds h1 h2 =>
    cases h
    rcases sqT_mono s h1.t with (z | ⟨o, z⟩) | z
    · exact .base (.tup z)
    · exact .fTuple z
    · obtain ⟨o, its, n, z1, z2, z3⟩ := z
      exact .kTuple z1 z2
  | frz h1 h2 => cases h
  | obj h1 h2 => cases h
  | adr a => cases h
  | fn x => cases h
  | gst a g => cases h
  | clo _ _ _ _ => cases h
end
end HB
namespace HB
open PySem L2
abbrev Src := En → Option (List D)
/-- the iterator yields what the source tells, as things stand -/
def ItOk (K : PySem.W.Frag) (G : Hp) (σ : St) (Jt : It) (src : Src) (js : List Nat) : Prop := ∀ (i : Nat) (G2 : Hp) (ρ2 : En) (σ2 : St) (H2 : Hp) (items : List D), Same G G2 → J K G2 ρ2 σ2 H2 → (∀ j ∈ js, σ2[j]? = σ[j]?) → src ρ2 = some items →
  (∀ d, items[i]? = some d → Jt.go i H2 ∧ ∀ x H3, Jt.yld i H2 x H3 → ∃ G3, PX G2 H2 G3 H3 ∧ Rp K G3 x d) ∧ (items.length ≤ i → Jt.stop i H2)
def PostI (K : PySem.W.Frag) (E : XK) (js : List Nat) (G : Hp) (ρ : En) (σ : St) (H : Hp) (R : It → Hp → Prop) : Option (Except Exn (En × Src)) → Prop
  | none => False
  | some (.error x) => ∀ C dx H', XP K G ρ σ H x C dx H' → E C dx H'
  | some (.ok (ρ', src)) => ∀ G' H' Jt, Ex K G ρ σ H G' ρ' σ H' → ItOk K G' σ Jt src js → R Jt H'
def IV (X : Cx) (E : XK) (tg iter : Expr) (f : Mo Src) (js : List Nat) : Prop := ∃ wi, PI X tg iter wi ∧ ∀ G ρ σ H R, J X.K G ρ σ H → PostI X.K E js G ρ σ H R (f ρ) → wi σ H R
section
variable {X : Cx} {E : XK}
theorem PostI.imp {K : PySem.W.Frag} {js : List Nat} {G H : Hp} {ρ : En} {σ : St} {Rr : It → Hp → Prop} {γ δ : Type} {R' : Hp → δ → γ → Prop} {Q' : δ → Hp → Prop} {m : Mo γ} {f : γ → Mo Src} (h : PostI K E js G ρ σ H Rr (mBind m f ρ))
    (k : ∀ G1 ρ1 v H1 a, Ex K G ρ σ H G1 ρ1 σ H1 → R' G1 v a → PostI K E js G1 ρ1 σ H1 Rr (f a ρ1) → Q' v H1) : Post K E R' G ρ σ H Q' (m ρ) := by
  unfold mBind at h
  cases q : m ρ with
  | none => rw [q] at h; exact h
  | some r =>
    rw [q] at h
    cases r with
    | error x => exact h
    | ok p =>
      obtain ⟨ρ', a⟩ := p
      refine fun G' v H' z r => k G' ρ' v H' a z r ?_
      have h2 : PostI K E js G ρ σ H Rr (f a ρ') := h
      match hh : f a ρ', h2 with
      | some (.error x), h2 => exact fun C dx H' y => h2 C dx H' (XP.trans z y)
      | some (.ok (ρ2, ds)), h2 => exact fun G2 H2 Jt y r2 => h2 G2 H2 Jt (z.trans y) r2
theorem PostI.lift {K : PySem.W.Frag} {js : List Nat} {G H : Hp} {ρ : En} {σ : St} {Rr : It → Hp → Prop} {o : Option Src} (h : PostI K E js G ρ σ H Rr (mLift o ρ)) : ∃ a, o = some a ∧ ∀ G' H' Jt, Ex K G ρ σ H G' ρ σ H' → ItOk K G' σ Jt a js → Rr Jt H' := by
  cases o with
  | none => exact False.elim h
  | some a => exact ⟨a, rfl, h⟩
def constS (ds : List D) : Src := fun _ => some ds
/-- lists and tuples -/
def iSeq (K : PySem.W.Frag) (tl : TE) : TI := fun σ H R => tl σ H fun x H1 => ∃ a, x = .ref a ∧ (((∃ xs, SqL K H1 a xs) ∧ R (Itl K a) H1) ∨ ((∃ xs, SqT K H1 a xs) ∧ R (Itt K a) H1))
theorem pi_seq {tg l : Expr} {tl : TE} (hl : PE X l tl) : PI X tg l (iSeq X.K tl) :=
  PI.mk fun pins s σ H R I h => thn (hl.run pins s σ H _ I h) fun v s1 ⟨x, H1, I1, r1, a, e, q1⟩ => by
    subst e
    cases r1
    exact q1.elim
      (fun ⟨⟨_, hq⟩, q⟩ => have ⟨_, _, p, _⟩ := I1.list hq; wpAny_pyIter_list p.isList (pi_one I1 _ (turn_list a _) ⟨_, Heap.get?_push_size _ rfl, rfl, rfl⟩ q))
      (fun ⟨⟨_, hq⟩, q⟩ => have ⟨its, _, p, _⟩ := I1.tuple hq; wpAny_pyIter_tuple (items := its.toArray) p (pi_one I1 _ (turn_tuple a _) ⟨_, Heap.get?_push_size _ rfl, rfl, rfl⟩ q))
def mSeqS (f : Mo D) : Mo Src := mBind f fun d => mLift ((itemsD d).map constS)
theorem itl_ok {K : PySem.W.Frag} {G : Hp} {σ : St} {a : Addr} {xs : List V} {ds : List D} {js : List Nat} (h : SqL K G a xs) (r : RpAll K G xs ds) : ItOk K G σ (Itl K a) (constS ds) js := by
  intro i G2 ρ2 σ2 H2 items sg j _ e
  cases e
  have hs : SqL K H2 a xs := j.sub.seq (sg.seq h)
  refine ⟨fun d hd => ?_, fun hi => ⟨xs, hs, by rw [r.length]; exact hi⟩⟩
  obtain ⟨v, h1, h2⟩ := r.get hd
  refine ⟨⟨xs, v, hs, h1⟩, fun x H3 y => ?_⟩
  obtain ⟨rfl, y⟩ := y
  have e := Option.some.inj ((y xs hs).symm.trans h1)
  subst e
  exact ⟨G2, .refl j.sub, h2.mono sg⟩
theorem itt_ok {K : PySem.W.Frag} {G : Hp} {σ : St} {a : Addr} {xs : List V} {ds : List D} {js : List Nat} (h : SqT K G a xs) (r : RpAll K G xs ds) : ItOk K G σ (Itt K a) (constS ds) js := by
  intro i G2 ρ2 σ2 H2 items sg j _ e
  cases e
  have hs : SqT K H2 a xs := sqT_mono j.sub (sqT_mono sg h)
  refine ⟨fun d hd => ?_, fun hi => ⟨xs, hs, by rw [r.length]; exact hi⟩⟩
  obtain ⟨v, h1, h2⟩ := r.get hd
  refine ⟨⟨xs, v, hs, h1⟩, fun x H3 y => ?_⟩
  obtain ⟨rfl, y⟩ := y
  have e := Option.some.inj ((y xs hs).symm.trans h1)
  subst e
  exact ⟨G2, .refl j.sub, h2.mono sg⟩
theorem iv_seq {tg iter : Expr} {f : Mo D} (h : EV X E iter f) : IV X E tg iter (mSeqS f) [] := by
  obtain ⟨t, p, q⟩ := h
  refine ⟨_, pi_seq p, fun G ρ σ H R j h => q G ρ σ H _ j (PostI.imp h fun G1 ρ1 x H1 d e1 r1 h1 => ?_)⟩
  obtain ⟨src, hs, k⟩ := PostI.lift h1
  cases hi : itemsD d with
  | none => rw [hi] at hs; cases hs
  | some ds =>
    rw [hi] at hs
    cases hs
    obtain ⟨p0, xs, rfl, s0, r0⟩ := r1.items hi
    rcases s0 with s0 | s0
    · exact ⟨p0, rfl, .inr ⟨⟨xs, sqT_mono e1.j.sub s0⟩, k G1 H1 _ e1.j.refl (itt_ok s0 r0)⟩⟩
    · exact ⟨p0, rfl, .inl ⟨⟨xs, e1.j.sub.seq s0⟩, k G1 H1 _ e1.j.refl (itl_ok s0 r0)⟩⟩
/-- a list of the def's own -/
def ownS (j : Nat) : Src := fun ρ => match ρ[j]? with
  | some (.own ds) => some ds
  | _ => none
/-- range -/
def rangeD (lo : Int) : Nat → List D
  | 0 => []
  | n + 1 => .int lo :: rangeD (lo + 1) n
theorem rangeD_get : ∀ (n : Nat) (lo : Int) (i : Nat), (rangeD lo n)[i]? = if i < n then some (.int (lo + i)) else none
  | 0, _, _ => by simp [rangeD]
  | n + 1, lo, 0 => by simp [rangeD]
  | n + 1, lo, i + 1 => by
    simp only [rangeD, List.getElem?_cons_succ, rangeD_get n (lo + 1) i]
    have e : lo + 1 + (i : Int) = lo + ((i + 1 : Nat) : Int) := by omega
    simp only [e, Nat.add_lt_add_iff_right]
theorem rangeD_len (lo : Int) (n : Nat) : (rangeD lo n).length = n := by
  induction n generalizing lo with
  | zero => rfl
  | succ n ih => simp [rangeD, ih]
theorem itr_ok {K : PySem.W.Frag} {G : Hp} {σ : St} {lo : Int} {n : Nat} {js : List Nat} : ItOk K G σ (Itr lo n) (constS (rangeD lo n)) js := by
  intro i G2 ρ2 σ2 H2 items sg j _ e
  cases e
  refine ⟨fun d hd => ?_, fun hi => by rw [rangeD_len] at hi; exact hi⟩
  rw [rangeD_get] at hd
  split at hd
  · rename_i hlt
    cases hd
    refine ⟨hlt, fun x H3 y => ?_⟩
    obtain ⟨rfl, rfl⟩ := y
    exact ⟨G2, .refl j.sub, .int _⟩
  · cases hd
def range1D : List D → Option Src
  | [.int j] => if -1000000000 ≤ j ∧ j ≤ 1000000000 then some (constS (rangeD 0 j.toNat)) else none
  | _ => none
def range2D : List D → Option Src
  | [.int i, .int j] => if -1000000000 ≤ i ∧ i ≤ 1000000000 ∧ -1000000000 ≤ j ∧ j ≤ 1000000000 then some (constS (rangeD i (j - i).toNat)) else none
  | _ => none
def mRange (f : List D → Option Src) (a : Mo (List D)) : Mo Src := mBind a fun ds => mLift (f ds)
theorem iv_range1 {tg a : Expr} {p pos : Pos} {f : Mo (List D)} (hm : X.mg "range" = none) (ha : EA X E [a] f) (hg : Gl X "range" := by rfl) (hs : starEach [a] X.env = [(false, eval a X.env)] := by rfl) : IV X E tg (.Call (.Name "range" p) [a] [] pos) (mRange range1D f) [] := by
  obtain ⟨t, pt, q⟩ := ha
  refine ⟨_, pi_range1 hg hm pt hs, fun G ρ σ H R j h => q G ρ σ H _ j (PostI.imp h fun G1 ρ1 vs H1 ds e1 r1 h1 => ?_)⟩
  obtain ⟨src, hs, k⟩ := PostI.lift h1
  match ds, hs with
  | [.int n], hs =>
    obtain ⟨hz, rfl⟩ := ite_some (show (if -1000000000 ≤ n ∧ n ≤ 1000000000 then some (constS (rangeD 0 n.toNat)) else none) = some src from hs)
    obtain ⟨x, rfl, r⟩ := r1.one
    cases r
    exact ⟨n, rfl, by omega, by omega, k G1 H1 _ e1.j.refl itr_ok⟩
theorem iv_range2 {tg a b : Expr} {p pos : Pos} {f : Mo (List D)} (hm : X.mg "range" = none) (ha : EA X E [a, b] f) (hg : Gl X "range" := by rfl) (hs : starEach [a, b] X.env = [(false, eval a X.env), (false, eval b X.env)] := by rfl) (hs2 : starEach [b] X.env = [(false, eval b X.env)] := by rfl) :
    IV X E tg (.Call (.Name "range" p) [a, b] [] pos) (mRange range2D f) [] := by
  obtain ⟨t, pt, q⟩ := ha
  refine ⟨_, pi_range2 hg hm pt hs hs2, fun G ρ σ H R j h => q G ρ σ H _ j (PostI.imp h fun G1 ρ1 vs H1 ds e1 r1 h1 => ?_)⟩
  obtain ⟨src, hs, k⟩ := PostI.lift h1
  match ds, hs with
  | [.int n, .int m], hs =>
    obtain ⟨hz, rfl⟩ := ite_some (show (if -1000000000 ≤ n ∧ n ≤ 1000000000 ∧ -1000000000 ≤ m ∧ m ≤ 1000000000 then some (constS (rangeD n (m - n).toNat)) else none) = some src from hs)
    obtain ⟨x, y, rfl, r, r2⟩ := r1.two
    cases r
    cases r2
    exact ⟨n, m, rfl, by omega, k G1 H1 _ e1.j.refl itr_ok⟩
/-- slots but for ws are as they were -/
def Sets (ws : List Nat) (σ σ' : St) : Prop := σ'.length = σ.length ∧ ∀ k, k ∉ ws → σ'[k]? = σ[k]?
theorem Sets.refl {ws : List Nat} {σ : St} : Sets ws σ σ := ⟨rfl, fun _ _ => rfl⟩
theorem Sets.trans {ws us : List Nat} {σ σ1 σ2 : St} (a : Sets ws σ σ1) (b : Sets us σ1 σ2) : Sets (ws ++ us) σ σ2 := ⟨b.1.trans a.1, fun k hk => (b.2 k fun z => hk (List.mem_append_right _ z)).trans (a.2 k fun z => hk (List.mem_append_left _ z))⟩
def GV (X : Cx) (tg : Expr) (g : D → En → Option En) (ws : List Nat) : Prop := ∃ t, PG X tg t ∧ ∀ G ρ σ H Q d v ρ', J X.K G ρ σ H → Rp X.K G v d → g d ρ = some ρ' → (∀ σ', Ex X.K G ρ σ H G ρ' σ' H → Sets ws σ σ' → Q σ' H) → t v σ H Q
def gSet (i : Nat) : D → En → Option En := fun d ρ => some (ρ.set i (.pur d))
theorem gv_name {i : Nat} {x : Str} {pos : Pos} (hN : X.N.Nodup) (hi : X.N[i]? = some x := by rfl) (hx : Loc X.env.scope x := by first | exact Or.inl rfl | exact Or.inr rfl) (hf : X.fn x = true ∨ X.env.scope.names.lookup x = some .local := by first | exact .inl rfl | exact .inr rfl | assumption) : GV X (.Name x pos) (gSet i) [i] :=
  ⟨_, pg_name hN hi hx hf, fun G ρ σ H Q d v ρ' j r h k => by cases h; exact k _ (Ex.set j i r) ⟨List.length_set, fun k hk => List.getElem?_set_ne fun e => hk (by rw [e]; exact List.mem_cons_self)⟩⟩
def GVs (X : Cx) (tgs : List Expr) (g : List D → En → Option En) (ws : List Nat) : Prop := ∃ t, PGs X tgs t ∧ ∀ G ρ σ H Q ds vs ρ', J X.K G ρ σ H → RpAll X.K G vs ds → g ds ρ = some ρ' → (∀ σ', Ex X.K G ρ σ H G ρ' σ' H → Sets ws σ σ' → Q σ' H) → t vs σ H Q
def gNilD : List D → En → Option En
  | [], ρ => some ρ
  | _, _ => none
def gConsD (g : D → En → Option En) (h : List D → En → Option En) : List D → En → Option En
  | d :: ds, ρ => (g d ρ).bind (h ds)
  | _, _ => none
theorem gvs_nil : GVs X [] gNilD [] := ⟨_, pgs_nil, fun G ρ σ H Q ds vs ρ' j r h k => by
  cases r with
  | nil => cases h; exact ⟨rfl, k σ j.refl .refl⟩
  | cons _ _ => cases h⟩
theorem gvs_cons {e : Expr} {es : List Expr} {g : D → En → Option En} {gs : List D → En → Option En} {ws us : List Nat} (h1 : GV X e g ws) (h2 : GVs X es gs us) (hs : (assignEach (e :: es) X.env).map (·.2) = assign e X.env :: (assignEach es X.env).map (·.2) := by rfl) : GVs X (e :: es) (gConsD g gs) (ws ++ us) := by
  obtain ⟨t, p, q⟩ := h1
  obtain ⟨u, p2, q2⟩ := h2
  refine ⟨_, pgs_cons p p2 hs, fun G ρ σ H Q ds vs ρ' j r h k => ?_⟩
  cases r with
  | nil => cases h
  | @cons v vr d dr hd ht =>
    have h' : (g d ρ).bind (gs dr) = some ρ' := h
    cases e1 : g d ρ with
    | none => rw [e1] at h'; cases h'
    | some ρ1 =>
      rw [e1] at h'
      exact ⟨_, _, rfl, q G ρ σ H _ d _ ρ1 j hd e1 fun σ1 x1 s1 => q2 G ρ1 σ1 H Q dr _ ρ' x1.j ht h' fun σ2 x2 s2 => k σ2 (x1.trans x2) (s1.trans s2)⟩
def gTupD (n : Nat) (g : List D → En → Option En) : D → En → Option En
  | .tuple ds, ρ => match Nat.beq ds.length n with
    | true => g ds ρ
    | false => none
  | _, _ => none
theorem gv_tup {es : List Expr} {k : Nat} {g : List D → En → Option En} {n : Nat} {ws : List Nat} {pos : Pos} (hc : X.calm = true) (h : GVs X es g ws) (hn : (assignEach es X.env).length = n := by rfl) (hst : (assignEach es X.env).findIdx? (·.1) = none := by rfl) : GV X (.Tuple es k pos) (gTupD n g) ws := by
  obtain ⟨t, p, q⟩ := h
  refine ⟨_, pg_tup hc p hn hst, fun G ρ σ H Q d v ρ' j r h k => ?_⟩
  cases r with
  | @tup a xs ds h1 h2 =>
    have h' : (match Nat.beq ds.length n with
      | true => g ds ρ
      | false => none) = some ρ' := h
    cases e : Nat.beq ds.length n with
    | false => rw [e] at h'; cases h'
    | true =>
      rw [e] at h'
      exact ⟨a, xs, rfl, sqT_mono j.sub h1.t, h2.length.trans (Nat.eq_of_beq_eq_true e), q G ρ σ H Q ds xs ρ' j h2 h' k⟩
  | _ => cases h
/-- target = value -/
def sAsg (g : D → En → Option En) (f : Mo D) : Mo Fl := mBind f fun d ρ => match g d ρ with
  | some ρ' => some (.ok (ρ', .nx))
  | none => none
theorem s_asg {tg e : Expr} {f : Mo D} {g : D → En → Option En} {ws : List Nat} {pos : Pos} (h : EV X E e f) (hg : GV X tg g ws) (hs : swapsWithSole [tg] e pos.line X.env = pure false := by rfl) (hw : swappedStores [tg] e X.env = pure none := by rfl)
    (ha : (assignEach [tg] X.env).map (·.2) = [assign tg X.env] := by rfl) : SV X E (.Assign [tg] e pos) (sAsg g f) := by
  obtain ⟨t, p, q⟩ := h
  obtain ⟨u, pg, qg⟩ := hg
  refine ⟨_, ps_asg p pg hs hw ha, fun G ρ σ H De j h => q G ρ σ H _ j (PostS.imp h fun G1 ρ1 v H1 d e1 r1 h1 => ?_)⟩
  have h1' : PostS X.K E G1 ρ1 σ H1 De (match g d ρ1 with
    | some ρ' => some (.ok (ρ', .nx))
    | none => none) := h1
  cases e : g d ρ1 with
  | none => rw [e] at h1'; exact h1'.elim
  | some ρ' =>
    rw [e] at h1'
    exact qg G1 ρ1 σ H1 _ d v ρ' e1.j r1 e fun σ' x _ => h1' G1 σ' H1 x
/-- name op= e, ints -/
def sAug (op : Int → Int → Int) (i : Nat) (f : Mo D) : Mo Fl := fun ρ => match ρ[i]? with
  | some (.pur (.int a)) => mBind f (fun d => match d with
    | .int b => setSl i (.pur (.int (op a b)))
    | _ => fun _ => none) ρ
  | _ => none
theorem s_aug {i : Nat} {x : Str} {e : Expr} {f : Mo D} {op : Operator} {o : Int → Int → Int} {pos pos' : Pos} (ho : PIp X op (ipI o)) (hN : X.N.Nodup) (h : EV X E e f) (hi : X.N[i]? = some x := by rfl) (hx : Loc X.env.scope x := by first | exact Or.inl rfl | exact Or.inr rfl)
    (hf : X.fn x = true ∨ X.env.scope.names.lookup x = some .local := by first | exact .inl rfl | exact .inr rfl | assumption) : SV X E (.AugAssign (.Name x pos') op e pos) (sAug o i f) := by
  obtain ⟨t, p, q⟩ := h
  refine ⟨_, ps_aug hN hi hx p ho hf, fun G ρ σ H De j h => ?_⟩
  unfold sAug at h
  match hs : ρ[i]?, h with
  | some (.pur (.int a)), h =>
    obtain ⟨v, h1, h2⟩ := j.pur i _ hs
    cases h2
    refine ⟨_, h1, q G ρ σ H _ j (PostS.imp h fun G1 ρ1 y H1 d e1 r1 h1 => ?_)⟩
    cases r1 with
    | int b => exact ⟨a, b, rfl, rfl, h1 G1 _ H1 (Ex.set e1.j i (.int _))⟩
    | _ => exact h1.elim
/-- for x in items: body -/
def forL (g : D → En → Option En) (body : Mo Fl) : List D → Mo Fl
  | [] => fun ρ => some (.ok (ρ, .nx))
  | d :: ds => fun ρ => match g d ρ with
    | none => none
    | some ρ1 => match body ρ1 with
      | none => none
      | some (.error x) => some (.error x)
      | some (.ok (ρ2, .nx)) => forL g body ds ρ2
      | some (.ok (ρ2, .ct)) => forL g body ds ρ2
      | some (.ok (ρ2, .bk)) => some (.ok (ρ2, .nx))
      | some (.ok (ρ2, .rt d)) => some (.ok (ρ2, .rt d))
def sFor (src : Mo Src) (g : D → En → Option En) (body : Mo Fl) : Mo Fl := mBind src fun s ρ => match s [] with
  | none => none
  | some items => forL g body items ρ
/-- a source that tells the same whatever happens -/
def Const (s : Src) : Prop := ∀ ρ, s ρ = s []
theorem s_for {tg iter : Expr} {body : List Stmt} {src : Mo Src} {g : D → En → Option En} {b : Mo Fl} {ws : List Nat} {pos : Pos} (hp : PassesOwn (model X.prog X.w) X.A X.env X.xe) (hc : X.calm = true) (hi : IV X E tg iter src []) (hcs : ∀ ρ ρ' s, src ρ = some (.ok (ρ', s)) → Const s) (hg : GV X tg g ws) (hb : SVs X E body b)
    (hfs : ∀ x, foldedSetIterable iter X.env x = pure x := by intro _; rfl) : SV X E (.For tg iter body [] pos) (sFor src g b) := by
  obtain ⟨wi, pi, qi⟩ := hi
  obtain ⟨tg, pg, qg⟩ := hg
  obtain ⟨tb, pb, qb⟩ := hb
  refine ⟨_, ps_for hp hc pi pg pb hfs, fun G ρ σ H De j h => ?_⟩
  refine qi G ρ σ H _ j ?_
  unfold sFor mBind at h
  cases hs : src ρ with
  | none => rw [hs] at h; exact h
  | some r =>
    rw [hs] at h
    cases r with
    | error x => exact h
    | ok pr =>
      obtain ⟨ρ1, s⟩ := pr
      have hcon := hcs ρ ρ1 s hs
      intro G1 H1 Jt e1 hit
      have h' : PostS X.K E G ρ σ H De (match s [] with
        | none => none
        | some items => forL g b items ρ1) := h
      cases hi : s [] with
      | none => rw [hi] at h'; exact h'.elim
      | some items =>
        rw [hi] at h'
        refine ⟨fun i m σ2 H2 => m = items.length - i ∧ i ≤ items.length ∧ ∃ G2 ρ2, Ex X.K G1 ρ1 σ H1 G2 ρ2 σ2 H2 ∧ PostS X.K E G ρ σ H De (forL g b (items.drop i) ρ2), ⟨items.length, by omega, Nat.zero_le _, G1, ρ1, e1.j.refl, h'⟩, ?_⟩
        rintro i m σ2 H2 ⟨rfl, hile, G2, ρ2, e2, hpost⟩
        obtain ⟨hgo, hstop⟩ := hit i G2 ρ2 σ2 H2 items e2.g e2.j (fun _ z => nomatch z) ((hcon ρ2).trans hi)
        by_cases hlt : i < items.length
        · have hd : items[i]? = some items[i] := List.getElem?_eq_getElem hlt
          obtain ⟨go, yld⟩ := hgo _ hd
          rw [List.drop_eq_getElem_cons hlt] at hpost
          refine .inr ⟨go, fun σ' H' => ∃ G3 ρ3, Ex X.K G1 ρ1 σ H1 G3 ρ3 σ' H' ∧ PostS X.K E G ρ σ H De (forL g b (items.drop (i + 1)) ρ3), fun σ' H' ⟨G3, ρ3, e3, p3⟩ => ⟨items.length - (i + 1), by omega, rfl, hlt, G3, ρ3, e3, p3⟩, fun x H3 y => ?_⟩
          obtain ⟨G3, px, rx⟩ := yld x H3 y
          have e3 := e2.trans (e2.j.ex px)
          have hpost' : PostS X.K E G ρ σ H De (match g items[i] ρ2 with
            | none => none
            | some ρ1 => match b ρ1 with
              | none => none
              | some (.error x) => some (.error x)
              | some (.ok (ρ2, .nx)) => forL g b (items.drop (i + 1)) ρ2
              | some (.ok (ρ2, .ct)) => forL g b (items.drop (i + 1)) ρ2
              | some (.ok (ρ2, .bk)) => some (.ok (ρ2, .nx))
              | some (.ok (ρ2, .rt d)) => some (.ok (ρ2, .rt d))) := hpost
          cases eg : g items[i] ρ2 with
          | none => rw [eg] at hpost'; exact hpost'.elim
          | some ρ4 =>
            rw [eg] at hpost'
            refine qg G3 ρ2 σ2 H3 _ items[i] x ρ4 e3.j rx eg fun σ4 x4 _ => ?_
            have e4 := e3.trans x4
            have e04 := e1.trans e4
            refine qb G3 ρ4 σ4 H3 _ e4.j ?_
            cases eb : b ρ4 with
            | none => simp only [eb] at hpost'; exact hpost'.elim
            | some r =>
              cases r with
              | error x => simp only [eb] at hpost'; exact fun C dx H' z => hpost' C dx H' (XP.trans e04 z)
              | ok pr =>
                obtain ⟨ρ5, fl⟩ := pr
                cases fl with
                | nx => simp only [eb] at hpost'; exact fun G5 σ5 H5 x5 => ⟨G5, ρ5, e4.trans x5, hpost'⟩
                | ct => simp only [eb] at hpost'; exact fun G5 σ5 H5 x5 => ⟨G5, ρ5, e4.trans x5, hpost'⟩
                | bk => simp only [eb] at hpost'; exact fun G5 σ5 H5 x5 => hpost' G5 σ5 H5 (e04.trans x5)
                | rt d => simp only [eb] at hpost'; exact fun G5 σ5 v H5 x5 r => hpost' G5 σ5 v H5 (e04.trans x5) r
        · have e : i = items.length := by omega
          subst e
          rw [List.drop_length] at hpost
          exact .inl ⟨hstop (Nat.le_refl _), hpost G2 σ2 H2 (e1.trans e2)⟩
/-- while c: body, at most so many turns -/
def whileL (c : Mo Bool) (body : Mo Fl) : Nat → Mo Fl
  | 0 => fun _ => none
  | n + 1 => fun ρ => match c ρ with
    | none => none
    | some (.error x) => some (.error x)
    | some (.ok (ρ1, false)) => some (.ok (ρ1, .nx))
    | some (.ok (ρ1, true)) => match body ρ1 with
      | none => none
      | some (.error x) => some (.error x)
      | some (.ok (ρ2, .nx)) => whileL c body n ρ2
      | some (.ok (ρ2, .ct)) => whileL c body n ρ2
      | some (.ok (ρ2, .bk)) => some (.ok (ρ2, .nx))
      | some (.ok (ρ2, .rt d)) => some (.ok (ρ2, .rt d))
def sWhile (fuel : En → Nat) (c : Mo Bool) (body : Mo Fl) : Mo Fl := fun ρ => whileL c body (fuel ρ) ρ
theorem s_while {c : Expr} {body : List Stmt} {fc : Mo Bool} {b : Mo Fl} {pos : Pos} (fuel : En → Nat) (hp : PassesOwn (model X.prog X.w) X.A X.env X.xe) (hc : ET X E c fc) (hb : SVs X E body b) : SV X E (.While c body [] pos) (sWhile fuel fc b) := by
  obtain ⟨tc, pc, qc⟩ := hc
  obtain ⟨tb, pb, qb⟩ := hb
  refine ⟨_, ps_while hp pc pb, fun G ρ σ H De j h => ?_⟩
  refine ⟨fun m σ2 H2 => ∃ G2 ρ2, Ex X.K G ρ σ H G2 ρ2 σ2 H2 ∧ PostS X.K E G ρ σ H De (whileL fc b m ρ2), ⟨fuel ρ, G, ρ, j.refl, h⟩, ?_⟩
  rintro m σ2 H2 ⟨G2, ρ2, e2, hpost⟩
  cases m with
  | zero => exact hpost.elim
  | succ n =>
    have hpost' : PostS X.K E G ρ σ H De (match fc ρ2 with
      | none => none
      | some (.error x) => some (.error x)
      | some (.ok (ρ1, false)) => some (.ok (ρ1, .nx))
      | some (.ok (ρ1, true)) => match b ρ1 with
        | none => none
        | some (.error x) => some (.error x)
        | some (.ok (ρ2, .nx)) => whileL fc b n ρ2
        | some (.ok (ρ2, .ct)) => whileL fc b n ρ2
        | some (.ok (ρ2, .bk)) => some (.ok (ρ2, .nx))
        | some (.ok (ρ2, .rt d)) => some (.ok (ρ2, .rt d))) := hpost
    refine qc G2 ρ2 σ2 H2 _ e2.j ?_
    cases ec : fc ρ2 with
    | none => simp only [ec] at hpost'; exact hpost'.elim
    | some r =>
      cases r with
      | error x => simp only [ec] at hpost'; exact fun C dx H' z => hpost' C dx H' (XP.trans e2 z)
      | ok pr =>
        obtain ⟨ρ3, t⟩ := pr
        intro G3 t' H3 x3 ht
        subst ht
        have e3 := e2.trans x3
        cases t' with
        | false => simp only [ec] at hpost'; exact iteF (hpost' G3 σ2 H3 e3)
        | true =>
          simp only [ec] at hpost'
          refine iteT ⟨fun σ' H' => ∃ G4 ρ4, Ex X.K G ρ σ H G4 ρ4 σ' H' ∧ PostS X.K E G ρ σ H De (whileL fc b n ρ4), fun σ' H' ⟨G4, ρ4, x4, p4⟩ => ⟨n, Nat.lt_succ_self _, G4, ρ4, x4, p4⟩, ?_⟩
          refine qb G3 ρ3 σ2 H3 _ e3.j ?_
          cases eb : b ρ3 with
          | none => simp only [eb] at hpost'; exact hpost'.elim
          | some r =>
            cases r with
            | error x => simp only [eb] at hpost'; exact fun C dx H' z => hpost' C dx H' (XP.trans e3 z)
            | ok pr =>
              obtain ⟨ρ5, fl⟩ := pr
              cases fl with
              | nx => simp only [eb] at hpost'; exact fun G5 σ5 H5 x5 => ⟨G5, ρ5, e3.trans x5, hpost'⟩
              | ct => simp only [eb] at hpost'; exact fun G5 σ5 H5 x5 => ⟨G5, ρ5, e3.trans x5, hpost'⟩
              | bk => simp only [eb] at hpost'; exact fun G5 σ5 H5 x5 => hpost' G5 σ5 H5 (e3.trans x5)
              | rt d => simp only [eb] at hpost'; exact fun G5 σ5 v H5 x5 r => hpost' G5 σ5 v H5 (e3.trans x5) r
end
end HB
namespace HB
open PySem L2
def wipeE (ρ : En) : List Nat → En
  | [] => ρ
  | v :: vs => (wipeE ρ vs).set v .no
def restE (ρ0 ρ : En) : List Nat → En
  | [] => ρ
  | v :: vs => (restE ρ0 ρ vs).set v (ρ0.getD v .no)
def noOwn (ρ : En) : List Nat → Bool
  | [] => true
  | v :: vs => match ρ[v]? with
    | some (.own _) => false
    | some (.box _) => false
    | some (.dl _ _ _) => false
    | some (.gst _ _) => false
    | some (.ins _ _ _) => false
    | _ => noOwn ρ vs
theorem wipeE_len (ρ : En) : ∀ vs, (wipeE ρ vs).length = ρ.length
  | [] => rfl
  | v :: vs => by unfold wipeE; rw [List.length_set, wipeE_len ρ vs]
theorem restE_len (ρ0 ρ : En) : ∀ vs, (restE ρ0 ρ vs).length = ρ.length
  | [] => rfl
  | v :: vs => by unfold restE; rw [List.length_set, restE_len ρ0 ρ vs]
theorem wipeE_get {ρ : En} {k : Nat} {s : Sl} : ∀ {vs : List Nat}, (wipeE ρ vs)[k]? = some s → s = .no ∨ (k ∉ vs ∧ ρ[k]? = some s)
  | [], h => .inr ⟨by simp, h⟩
  | v :: vs, h => by
    unfold wipeE at h
    rcases getElem?_set_cases h with ⟨_, z⟩ | ⟨z, h'⟩
    · exact .inl z
    · rcases wipeE_get h' with z2 | ⟨z2, z3⟩
      · exact .inl z2
      · exact .inr ⟨by simp only [List.mem_cons, not_or]; exact ⟨z, z2⟩, z3⟩
theorem restE_get {ρ0 ρ : En} {k : Nat} {s : Sl} : ∀ {vs : List Nat}, (restE ρ0 ρ vs)[k]? = some s → (k ∈ vs ∧ s = ρ0.getD k .no) ∨ (k ∉ vs ∧ ρ[k]? = some s)
  | [], h => .inr ⟨by simp, h⟩
  | v :: vs, h => by
    unfold restE at h
    rcases getElem?_set_cases h with ⟨z1, z⟩ | ⟨z, h'⟩
    · exact .inl ⟨by rw [z1]; exact List.mem_cons_self, by rw [z, z1]⟩
    · rcases restE_get h' with ⟨z2, z3⟩ | ⟨z2, z3⟩
      · exact .inl ⟨List.mem_cons_of_mem _ z2, z3⟩
      · exact .inr ⟨by simp only [List.mem_cons, not_or]; exact ⟨z, z2⟩, z3⟩
theorem noOwn_at {ρ : En} {k : Nat} {s : Sl} {ds : List D} (hl : s.hs = some ds) : ∀ {vs : List Nat}, noOwn ρ vs = true → k ∈ vs → ρ[k]? ≠ some s
  | [], _, h => by cases h
  | v :: vs, h, hk => by
    unfold noOwn at h
    rcases List.mem_cons.mp hk with e | hk
    · subst e
      intro z
      rw [z] at h
      cases s with
      | no => cases hl
      | pur d => cases hl
      | own es => cases h
      | box es => cases h
      | dl _ _ _ => cases h
      | gst _ _ => cases h
      | ins _ _ _ => cases h
    · refine noOwn_at hl (vs := vs) ?_ hk
      split at h
      · cases h
      · cases h
      · cases h
      · cases h
      · cases h
      · exact h
section
variable {K : PySem.W.Frag} {G H G' H' : Hp} {ρ ρ' : En} {σ σ' : St}
theorem J.wipe (j : J K G ρ σ H) (vs : List Nat) : J K G (wipeE ρ vs) (wipe σ vs) H where
  sub := j.sub
  len := by rw [wipeE_len, wipe_length]; exact j.len
  pur := fun i d h => by
    rcases wipeE_get h with z | ⟨z, h'⟩
    · cases z
    · rw [wipe_out z]; exact j.pur i d h'
  hold := fun i s ds h hl => by
    rcases wipeE_get h with z | ⟨z, h'⟩
    · subst z; cases hl
    · rw [wipe_out z]; exact j.hold i s ds h' hl
  lk := fun i g o o' z xs h1 h2 => by
    rcases wipeE_get h1 with w | ⟨w, h1'⟩
    · cases w
    · rcases wipeE_get h2 with w2 | ⟨w2, h2'⟩
      · cases w2
      · rw [wipe_out w, wipe_out w2]
        exact j.lk i g o o' z xs h1' h2'
  alone := fun i k s t ds es b h1 l1 h2 l2 h3 h4 => by
    rcases wipeE_get h1 with z | ⟨z, h1'⟩
    · subst z; cases l1
    · rcases wipeE_get h2 with z2 | ⟨z2, h2'⟩
      · subst z2; cases l2
      · rw [wipe_out z] at h3
        rw [wipe_out z2] at h4
        exact j.dis i k s t ds es b h1' l1 h2' l2 h3 h4
theorem wipe_ownd {vs : List Nat} {b : Addr} (h : Ownd (wipeE ρ vs) (wipe σ vs) b) : Ownd ρ σ b := by
  obtain ⟨i, s, ds, h1, hl, h2⟩ := h
  rcases wipeE_get h1 with z | ⟨z, h1'⟩
  · subst z; cases hl
  · rw [wipe_out z] at h2
    exact ⟨i, s, ds, h1', hl, h2⟩
theorem Ex.wiped (e : Ex K G ρ σ H G' ρ' σ' H') (vs : List Nat) : Ex K G ρ σ H G' (wipeE ρ' vs) (L2.wipe σ' vs) H' :=
  ⟨e.j.wipe vs, e.g, e.new, e.kept, fun b hb => e.ow b (wipe_ownd hb), e.dom, fun i ds h => by
    rcases wipeE_get h with z | ⟨z, h'⟩
    · cases z
    · obtain ⟨w1, w2⟩ := e.bx i ds h'
      exact ⟨w1, by rw [wipe_out z]; exact w2⟩,
  fun i s h ql => by
    rcases wipeE_get h with z | ⟨z, h'⟩
    · subst z; cases ql
    · obtain ⟨w1, w2⟩ := e.bd i s h' ql
      exact ⟨w1, by rw [wipe_out z]; exact w2⟩, e.tt⟩
theorem wipe_ext {vs : List Nat} (h : Sets vs σ σ') : wipe σ' vs = wipe σ vs := by
  have key : ∀ (us : List Nat) (k : Nat) (τ : St), k < τ.length → (k ∈ us → (wipe τ us)[k]? = some none) := by
    intro us
    induction us with
    | nil => intro k τ _ hk; cases hk
    | cons u us ih =>
      intro k τ hl hk
      unfold L2.wipe
      by_cases hu : k = u
      · subst hu
        exact List.getElem?_set_self (by rw [wipe_length]; exact hl)
      · rw [List.getElem?_set_ne (Ne.symm hu)]
        exact ih k τ hl ((List.mem_cons.mp hk).resolve_left hu)
  apply List.ext_getElem?
  intro k
  by_cases hk : k ∈ vs
  · by_cases hl : k < σ.length
    · rw [key vs k σ hl hk, key vs k σ' (by rw [h.1]; exact hl) hk]
    · rw [List.getElem?_eq_none (by rw [wipe_length, h.1]; omega), List.getElem?_eq_none (by rw [wipe_length]; omega)]
  · rw [wipe_out hk, wipe_out hk]
    exact h.2 k hk
theorem rest_ownd {vs : List Nat} (no : noOwn ρ vs = true) {b : Addr} (h : Ownd (restE ρ ρ' vs) σ b) : Ownd ρ' (wipe σ vs) b := by
  obtain ⟨i, s0, ds, h1, hl, h2⟩ := h
  rcases restE_get h1 with ⟨z, h1'⟩ | ⟨z, h1'⟩
  · exfalso
    rw [List.getD_eq_getElem?_getD] at h1'
    cases q : ρ[i]? with
    | none => rw [q] at h1'; subst h1'; cases hl
    | some s =>
      rw [q] at h1'
      have e1 : s = s0 := h1'.symm
      subst e1
      exact noOwn_at hl no z q
  · exact ⟨i, s0, ds, h1', hl, by rw [wipe_out z]; exact h2⟩
theorem rest_out {vs : List Nat} (no : noOwn ρ vs = true) {m : Nat} {s0 : Sl} {fs : List D} (hm : (restE ρ ρ' vs)[m]? = some s0) (hl : s0.hs = some fs) : m ∉ vs ∧ ρ'[m]? = some s0 := by
  rcases restE_get hm with ⟨z, h'⟩ | z
  · exfalso
    rw [List.getD_eq_getElem?_getD] at h'
    cases q : ρ[m]? with
    | none => rw [q] at h'; subst h'; cases hl
    | some s =>
      rw [q] at h'
      have e1 : s = s0 := h'.symm
      subst e1
      exact noOwn_at hl no z q
  · exact z
/-- a thing of the block's own is changed -/
theorem Ex.poke {G1 H1 : Hp} {ρ1 : En} {σ1 : St} (e : Ex K G1 ρ1 σ1 H1 G ρ σ H) {p : Addr} {o : HO} (h1 : H1 p = none) (h2 : G p = none) (no : ¬ Ownd ρ σ p) (pl : PlainAt H p) [NoC o] : Ex K G1 ρ1 σ1 H1 G ρ σ (upd H p o) := by
  refine ⟨⟨e.j.sub.put h2 pl, e.j.len, e.j.pur, fun i s ds q hl => ?_, e.j.alone, fun i g o' o2 z xs e1 e2 => ?_⟩, e.g, e.new, fun b x q n => ?_, e.ow, fun b hb => ?_, e.bx, e.bd, e.tt.trans (.put pl)⟩
  · obtain ⟨a, vs, q1, q2, q3, q4⟩ := e.j.hold i s ds q hl
    have ne : a ≠ p := fun z => by
      subst z
      exact no ⟨i, s, ds, q, hl, q1⟩
    exact ⟨a, vs, q1, by rw [upd_ne ne]; exact q2, q3, q4⟩
  · obtain ⟨a, v, u, q1, q2, q3⟩ := e.j.lk i g o' o2 z xs e1 e2
    have ne : a ≠ p := fun z => by
      subst z
      exact no ⟨i, _, _, e1, rfl, q1⟩
    exact ⟨a, v, u, q1, by rw [upd_ne ne]; exact q2, q3⟩
  · rw [upd_ne (ne_of_none q h1)]
    exact e.kept b x q n
  · by_cases z : b = p
    · subst z; exact h1
    · rw [upd_ne z] at hb
      exact e.dom b hb
/-- out of the block -/
theorem Ex.rest {vs : List Nat} (j : J K G ρ σ H) (no : noOwn ρ vs = true) (e : Ex K G (wipeE ρ vs) (wipe σ vs) H G' ρ' (wipe σ vs) H') : Ex K G ρ σ H G' (restE ρ ρ' vs) σ H' := by
  refine ⟨⟨e.j.sub, ?_, fun i d h => ?_, fun i s0 ds h hl => ?_, fun i k s0 t0 ds es b h1 l1 h2 l2 h3 h4 => ?_, fun i g o o' z xs h1 h2 => ?_⟩, e.g, fun b hb => ?_, fun b o q n => e.kept b o q fun z => n (wipe_ownd z), fun b hb => ?_, e.dom, fun i ds h => ?_, fun i s h ql => ?_, e.tt⟩
  · rw [restE_len, e.j.len, wipe_length]
  · rcases restE_get h with ⟨z, h'⟩ | ⟨z, h'⟩
    · rw [List.getD_eq_getElem?_getD] at h'
      cases q : ρ[i]? with
      | none => rw [q] at h'; cases h'
      | some s =>
        rw [q] at h'
        have e1 : s = .pur d := h'.symm
        subst e1
        obtain ⟨v, h1, h2⟩ := j.pur i d q
        exact ⟨v, h1, h2.mono e.g⟩
    · obtain ⟨v, h1, h2⟩ := e.j.pur i d h'
      rw [wipe_out z] at h1
      exact ⟨v, h1, h2⟩
  · obtain ⟨z, h'⟩ := rest_out no h hl
    obtain ⟨a, vs', h1, h2⟩ := e.j.hold i s0 ds h' hl
    rw [wipe_out z] at h1
    exact ⟨a, vs', h1, h2⟩
  · obtain ⟨z1, h1'⟩ := rest_out no h1 l1
    obtain ⟨z2, h2'⟩ := rest_out no h2 l2
    exact e.j.dis i k s0 t0 ds es b h1' l1 h2' l2 (by rw [wipe_out z1]; exact h3) (by rw [wipe_out z2]; exact h4)
  · obtain ⟨z1, h1'⟩ := rest_out no h1 rfl
    obtain ⟨z2, h2'⟩ := rest_out no h2 rfl
    obtain ⟨a, v, u, q1, q2, q3⟩ := e.j.lk i g o o' z xs h1' h2'
    rw [wipe_out z1] at q1
    rw [wipe_out z2] at q3
    exact ⟨a, v, u, q1, q2, q3⟩
  · rcases e.new b hb with z | z | z
    · exact .inl z
    · exact .inr (.inl z)
    · exact .inr (.inr (wipe_ownd z))
  · rcases e.ow b (rest_ownd no hb) with z | z
    · exact .inl (wipe_ownd z)
    · exact .inr z
  · obtain ⟨z, h'⟩ := rest_out no h rfl
    obtain ⟨⟨es, w1⟩, w2⟩ := e.bx i ds h'
    rcases wipeE_get w1 with w3 | ⟨w3, w4⟩
    · cases w3
    · exact ⟨⟨es, w4⟩, rfl⟩
  · obtain ⟨es, hl⟩ := Sl.isD_hs ql
    obtain ⟨z, h'⟩ := rest_out no h hl
    obtain ⟨⟨s1, w1, wq⟩, w2⟩ := e.bd i s h' ql
    rcases wipeE_get w1 with w3 | ⟨w3, w4⟩
    · subst w3; cases wq
    · exact ⟨⟨s1, w4, wq⟩, rfl⟩
end
/-- turn by turn, as things stand -/
def lcI (vs : List Nat) (src : Src) (g : D → En → Option En) (test : Mo Bool) (elt : Mo D) : Nat → Nat → En → Option (En × List D)
  | 0, _, _ => none
  | n + 1, i, ρ => match src ρ with
    | none => none
    | some items => match items[i]? with
      | none => some (ρ, [])
      | some d => match g d ρ with
        | none => none
        | some ρ1 => match test ρ1 with
          | some (.ok (ρ2, true)) => match elt ρ2 with
            | some (.ok (ρ3, y)) => match lcI vs src g test elt n (i + 1) (wipeE ρ3 vs) with
              | some (ρ4, ys) => some (ρ4, y :: ys)
              | none => none
            | _ => none
          | some (.ok (ρ2, false)) => lcI vs src g test elt n (i + 1) (wipeE ρ2 vs)
          | _ => none
def mBlk (vs : List Nat) (src : Mo Src) (body : Src → En → Option (En × List D)) : Mo (List D) := mBind src fun s ρ => match noOwn ρ vs with
  | false => none
  | true => match body s (wipeE ρ vs) with
    | none => none
    | some (ρ', ys) => some (.ok (restE ρ ρ' vs, ys))
def tE (K : PySem.W.Frag) (E : XK) (f : Mo D) : TE := fun σ H Q => ∃ G ρ, J K G ρ σ H ∧ Post K E (Rp K) G ρ σ H Q (f ρ)
def tT (K : PySem.W.Frag) (E : XK) (f : Mo Bool) : TT := fun σ H Q => ∃ G ρ, J K G ρ σ H ∧ Post K E (fun _ b c => b = c) G ρ σ H Q (f ρ)
def tG (K : PySem.W.Frag) (g : D → En → Option En) (ws : List Nat) : TG := fun v σ H Q => ∃ G ρ d ρ', J K G ρ σ H ∧ Rp K G v d ∧ g d ρ = some ρ' ∧ ∀ σ', Ex K G ρ σ H G ρ' σ' H → Sets ws σ σ' → Q σ' H
section
variable {X : Cx} {E : XK}
theorem EV.pe {e : Expr} {f : Mo D} (h : EV X E e f) : PE X e (tE X.K E f) := by
  obtain ⟨t, p, q⟩ := h
  exact ⟨fun pins s σ H Q I ⟨G, ρ, j, z⟩ => p.run pins s σ H Q I (q G ρ σ H Q j z)⟩
theorem ET.pt {e : Expr} {f : Mo Bool} (h : ET X E e f) : PT X e (tT X.K E f) := by
  obtain ⟨t, p, q⟩ := h
  exact ⟨fun pins s σ H Q I ⟨G, ρ, j, z⟩ => p.run pins s σ H Q I (q G ρ σ H Q j z)⟩
theorem GV.pg {e : Expr} {g : D → En → Option En} {ws : List Nat} (h : GV X e g ws) : PG X e (tG X.K g ws) := by
  obtain ⟨t, p, q⟩ := h
  exact ⟨fun pins s σ H v u Q I r ⟨G, ρ, d, ρ', j, z, eg, k⟩ => p.run pins s σ H v u Q I r (q G ρ σ H Q d v ρ' j z eg k)⟩
/-- the tests of a clause -/
def EIf (X : Cx) (E : XK) (ifs : List Expr) (f : Mo Bool) : Prop := PTs X ifs (tT X.K E f)
theorem eif_nil : EIf X E [] (mRet true) := ⟨fun pins s σ H Q I ⟨G, ρ, j, z⟩ => pts_nil.run pins s σ H Q I (z G true H j.refl rfl)⟩
theorem eif_one {c : Expr} {f : Mo Bool} (h : ET X E c f) : EIf X E [c] f := pts_one h.pt
theorem lc_sem {wi : TI} {src : Mo Src} {js vs : List Nat} {g : D → En → Option En} {ws : List Nat} {test : Mo Bool} {elt : Mo D} (fuel : Nat) (hf : fuel ≤ 1000000)
    (qi : ∀ G ρ σ H R, J X.K G ρ σ H → PostI X.K E js G ρ σ H R (src ρ) → wi σ H R) (hjs : ∀ j ∈ js, j ∉ vs) (hws : ∀ k ∈ ws, k ∈ vs) :
    ∀ G ρ σ H Q, J X.K G ρ σ H → PostN X.K E G ρ σ H Q (mBlk vs src (fun s ρ => lcI vs s g test elt fuel 0 ρ) ρ) → tLc wi (tG X.K g ws) (tT X.K E0 test) (tE X.K E0 elt) vs σ H Q := by
  intro G ρ σ H Q j h
  refine qi G ρ σ H _ j ?_
  unfold mBlk mBind at h
  cases hs : src ρ with
  | none => rw [hs] at h; exact h
  | some r =>
    rw [hs] at h
    cases r with
    | error x => exact h
    | ok pr =>
      obtain ⟨ρ1, s⟩ := pr
      intro G1 H1 Jt e1 hit Dd hD
      have h' : PostN X.K E G ρ σ H Q (match noOwn ρ1 vs with
        | false => none
        | true => match lcI vs s g test elt fuel 0 (wipeE ρ1 vs) with
          | none => none
          | some (ρ', ys) => some (.ok (restE ρ1 ρ' vs, ys))) := h
      cases hno : noOwn ρ1 vs with
      | false => rw [hno] at h'; exact h'.elim
      | true =>
        simp only [hno] at h'
        cases hl : lcI vs s g test elt fuel 0 (wipeE ρ1 vs) with
        | none => simp only [hl] at h'; exact h'.elim
        | some out =>
          obtain ⟨ρE, ys⟩ := out
          simp only [hl] at h'
          have shD : Same H1 (upd H1 Dd (.lst [])) := same_upd hD
          have hGD : G1 Dd = none := e1.j.sub.free hD
          have x0 : Ex X.K G1 (wipeE ρ1 vs) (wipe σ vs) H1 G1 (wipeE ρ1 vs) (wipe σ vs) (upd H1 Dd (.lst [])) := new_list (e1.j.wipe vs) hD .nil
          refine ⟨fun i m H2 => ∃ (G2 : Hp) (ρ2 : En) (vacc : List V) (dacc rest : List D) (n : Nat), m = n ∧ n + i = fuel ∧ Ex X.K G1 (wipeE ρ1 vs) (wipe σ vs) H1 G2 ρ2 (wipe σ vs) H2 ∧ G2 Dd = none ∧ ¬ Ownd ρ2 (wipe σ vs) Dd ∧ H2 Dd = some (.lst vacc) ∧ RpAll X.K G2 vacc dacc ∧ dacc.length ≤ i ∧ lcI vs s g test elt n i ρ2 = some (ρE, rest) ∧ dacc ++ rest = ys,
            ⟨fuel, G1, wipeE ρ1 vs, [], [], ys, fuel, rfl, by omega, x0, hGD, (e1.j.wipe vs).nown hD, upd_same, .nil, Nat.le_refl _, hl, rfl⟩, ?_⟩
          rintro i m H2 ⟨G2, ρ2, vacc, dacc, rest, n, rfl, hfu, e2, hG2, hno2, hH2, racc, hla, hlc, hys⟩
          cases m with
          | zero => cases hlc
          | succ n =>
            unfold lcI at hlc
            cases hsrc : s ρ2 with
            | none => rw [hsrc] at hlc; cases hlc
            | some items =>
              rw [hsrc] at hlc
              obtain ⟨hgo, hstop⟩ := hit i G2 ρ2 (wipe σ vs) H2 items e2.g e2.j (fun jx hjx => wipe_out (hjs jx hjx)) hsrc
              cases hitem : items[i]? with
              | none =>
                simp only [hitem] at hlc
                cases hlc
                rw [List.append_nil] at hys
                subst hys
                have hle : items.length ≤ i := List.getElem?_eq_none_iff.mp hitem
                refine .inl ⟨hstop hle, ?_⟩
                have xr := Ex.rest e1.j hno e2
                refine h' G2 (.ref Dd) H2 (e1.trans xr) ⟨Dd, vacc, rfl, e1.dom _ hD, hG2, hH2, ?_, racc⟩
                exact fun z => hno2 (rest_ownd hno z)
              | some d =>
                obtain ⟨go, yld⟩ := hgo d hitem
                simp only [hitem] at hlc
                refine .inr ⟨go, fun H6 => ∃ (G6 : Hp) (ρ6 : En) (vacc' : List V) (dacc' rest' : List D), Ex X.K G1 (wipeE ρ1 vs) (wipe σ vs) H1 G6 ρ6 (wipe σ vs) H6 ∧ G6 Dd = none ∧ ¬ Ownd ρ6 (wipe σ vs) Dd ∧ H6 Dd = some (.lst vacc') ∧ RpAll X.K G6 vacc' dacc' ∧ dacc'.length ≤ i + 1 ∧ lcI vs s g test elt n (i + 1) ρ6 = some (ρE, rest') ∧ dacc' ++ rest' = ys,
                  fun H6 ⟨G6, ρ6, va, da, re, k1, k2, k3, k4, k5, k6, k7, k8⟩ => ⟨n, Nat.lt_succ_self _, G6, ρ6, va, da, re, n, rfl, by omega, k1, k2, k3, k4, k5, k6, k7, k8⟩, fun x H3 y => ?_⟩
                obtain ⟨G3, px, rx⟩ := yld x H3 y
                have e3 : Ex X.K G2 ρ2 (wipe σ vs) H2 G3 ρ2 (wipe σ vs) H3 := e2.j.ex px
                cases eg : g d ρ2 with
                | none => simp only [eg] at hlc; cases hlc
                | some ρ3 =>
                  simp only [eg] at hlc
                  refine ⟨G3, ρ2, d, ρ3, e3.j, rx, eg, fun σ4 x4 s4 => ⟨?_, G3, ρ3, x4.j, ?_⟩⟩
                  · have s5 : Sets vs (wipe σ vs) σ4 := ⟨s4.1, fun k hk => s4.2 k fun z => hk (hws k z)⟩
                    rw [wipe_ext s5]
                    exact wipe_ext ⟨wipe_length σ vs, fun k hk => wipe_out hk⟩
                  · have ew : wipe σ4 vs = wipe σ vs := by
                      have s5 : Sets vs (wipe σ vs) σ4 := ⟨s4.1, fun k hk => s4.2 k fun z => hk (hws k z)⟩
                      rw [wipe_ext s5]
                      exact wipe_ext ⟨wipe_length σ vs, fun k hk => wipe_out hk⟩
                    have e4 := e3.trans x4
                    cases et : test ρ3 with
                    | none => simp only [et] at hlc; cases hlc
                    | some rt =>
                      cases rt with
                      | error x => simp only [et] at hlc; cases hlc
                      | ok pt =>
                        obtain ⟨ρ5, b⟩ := pt
                        intro G5 b' H5 x5 hb
                        subst hb
                        have e5 := e4.trans x5
                        have out : ∀ {G7 : Hp} {ρ7 : En} {H7 : Hp}, Ex X.K G2 ρ2 (wipe σ vs) H2 G7 ρ7 σ4 H7 → Ex X.K G1 (wipeE ρ1 vs) (wipe σ vs) H1 G7 (wipeE ρ7 vs) (wipe σ vs) H7 ∧ G7 Dd = none ∧ ¬ Ownd (wipeE ρ7 vs) (wipe σ vs) Dd ∧ H7 Dd = some (.lst vacc) := by
                          intro G7 ρ7 H7 e7
                          have w7 := (e2.trans e7).wiped vs
                          rw [ew] at w7
                          refine ⟨w7, ?_, fun z => ?_, e7.kept Dd _ hH2 hno2⟩
                          · cases q : G7 Dd with
                            | none => rfl
                            | some o =>
                              rcases e7.new Dd (by rw [q]; simp) with z | z | z
                              · exact absurd hG2 z
                              · rw [hH2] at z; cases z
                              · exact absurd z hno2
                          · have w8 := e7.wiped vs
                            rw [ew] at w8
                            rcases w8.ow Dd z with z | z
                            · exact hno2 z
                            · rw [hH2] at z; cases z
                        cases b' with
                        | false =>
                          simp only [et] at hlc
                          obtain ⟨o1, o2, o3, o4⟩ := out e5
                          exact iteF ⟨G5, _, vacc, dacc, rest, o1, o2, o3, o4, racc.mono e5.g, by omega, hlc, hys⟩
                        | true =>
                          simp only [et] at hlc
                          refine iteT ⟨G5, ρ5, e5.j, ?_⟩
                          cases ee : elt ρ5 with
                          | none => simp only [ee] at hlc; cases hlc
                          | some re =>
                            cases re with
                            | error x => simp only [ee] at hlc; cases hlc
                            | ok pe =>
                              obtain ⟨ρ7, yd⟩ := pe
                              intro G7 yv H7 x7 ry
                              have e7 := e5.trans x7
                              simp only [ee] at hlc
                              cases er : lcI vs s g test elt n (i + 1) (wipeE ρ7 vs) with
                              | none => simp only [er] at hlc; cases hlc
                              | some ro =>
                                obtain ⟨ρ8, rest'⟩ := ro
                                simp only [er] at hlc
                                cases hlc
                                obtain ⟨o1, o2, o3, o4⟩ := out e7
                                refine ⟨vacc, o4, ?_, G7, _, vacc ++ [yv], dacc ++ [yd], rest', o1.poke hD o2 o3 (pl_of o4), o2, o3, upd_same, (racc.mono e7.g).append (.cons ry .nil), ?_, er, ?_⟩
                                · rw [racc.length]
                                  exact Nat.lt_of_lt_of_le (show dacc.length < 1000000 by omega) (by decide)
                                · simp only [List.length_append, List.length_singleton]
                                  omega
                                · rw [List.append_assoc]
                                  exact hys
/-- for sources that tell the same: by the list -/
def lcL (vs : List Nat) (g : D → En → Option En) (test : Mo Bool) (elt : Mo D) : List D → En → Option (En × List D)
  | [], ρ => some (ρ, [])
  | d :: ds, ρ => match g d ρ with
    | none => none
    | some ρ1 => match test ρ1 with
      | some (.ok (ρ2, true)) => match elt ρ2 with
        | some (.ok (ρ3, y)) => match lcL vs g test elt ds (wipeE ρ3 vs) with
          | some (ρ4, ys) => some (ρ4, y :: ys)
          | none => none
        | _ => none
      | some (.ok (ρ2, false)) => lcL vs g test elt ds (wipeE ρ2 vs)
      | _ => none
theorem lcI_of {vs : List Nat} {src : Src} {g : D → En → Option En} {test : Mo Bool} {elt : Mo D} {items : List D} (hc : ∀ ρ, src ρ = some items) : ∀ (n i : Nat) (ds : List D) (ρ : En) (r : En × List D), items.drop i = ds → ds.length < n → lcL vs g test elt ds ρ = some r → lcI vs src g test elt n i ρ = some r
  | 0, _, _, _, _, _, h, _ => absurd h (Nat.not_lt_zero _)
  | n + 1, i, [], ρ, r, hd, _, h => by
    unfold lcI
    rw [hc ρ]
    have e : items[i]? = none := by
      rw [List.getElem?_eq_none_iff]
      exact List.drop_eq_nil_iff.mp hd
    simp only [e]
    exact h
  | n + 1, i, d :: ds, ρ, r, hd, hl, h => by
    unfold lcI
    rw [hc ρ]
    have e : items[i]? = some d := by
      have e2 := congrArg (·[0]?) hd
      simpa using e2
    have e3 : items.drop (i + 1) = ds := by
      have e4 : (items.drop i).drop 1 = ds := by rw [hd]; rfl
      rw [List.drop_drop] at e4
      exact e4
    have hl2 : ds.length < n := by
      rw [List.length_cons] at hl
      omega
    simp only [e]
    unfold lcL at h
    cases eg : g d ρ with
    | none => simp only [eg] at h; cases h
    | some ρ1 =>
      simp only [eg] at h ⊢
      cases et : test ρ1 with
      | none => simp only [et] at h; cases h
      | some rt =>
        cases rt with
        | error x => simp only [et] at h; cases h
        | ok pt =>
          obtain ⟨ρ2, b⟩ := pt
          cases b with
          | false =>
            simp only [et] at h ⊢
            exact lcI_of hc n (i + 1) ds _ r e3 hl2 h
          | true =>
            simp only [et] at h ⊢
            cases ee : elt ρ2 with
            | none => simp only [ee] at h; cases h
            | some re =>
              cases re with
              | error x => simp only [ee] at h; cases h
              | ok pe =>
                obtain ⟨ρ3, y⟩ := pe
                simp only [ee] at h ⊢
                cases er : lcL vs g test elt ds (wipeE ρ3 vs) with
                | none => simp only [er] at h; cases h
                | some ro =>
                  simp only [er] at h
                  rw [lcI_of hc n (i + 1) ds _ ro e3 hl2 er]
                  exact h
def lcBody (vs : List Nat) (g : D → En → Option En) (test : Mo Bool) (elt : Mo D) : Src → En → Option (En × List D) := fun s ρ => match s [] with
  | none => none
  | some items => match Nat.blt items.length 1000000 with
    | false => none
    | true => lcL vs g test elt items ρ
/-- a comprehension -/
def LC (X : Cx) (E : XK) (elt tg iter : Expr) (ifs : List Expr) (scope : Scope) (f : Mo (List D)) : Prop := ∃ wi g tt te own, PI X tg iter wi ∧ BlkOk X.N X.env.scope scope own ∧
  (∀ (s : Shared) (H : Hp) (C : Addr) (cl : List (Str × Addr)) (fp : List Addr), PG (X.blk s H scope (compEnvC scope cl C X.env) fp) tg g) ∧ (∀ (s : Shared) (H : Hp) (C : Addr) (cl : List (Str × Addr)) (fp : List Addr), PTs (X.blk s H scope (compEnvC scope cl C X.env) fp) ifs tt) ∧
  (∀ (s : Shared) (H : Hp) (C : Addr) (cl : List (Str × Addr)) (fp : List Addr), PE (X.blk s H scope (compEnvC scope cl C X.env) fp) elt te) ∧ (∀ x, foldedSetIterable iter X.env x = pure x) ∧
  ∀ G ρ σ H Q, J X.K G ρ σ H → PostN X.K E G ρ σ H Q (f ρ) → tLc wi g tt te (own.map (·.2)) σ H Q
theorem lc_I {elt tg iter : Expr} {ifs : List Expr} {scope : Scope} {own : List (Str × Nat)} {src : Mo Src} {js ws : List Nat} {g : D → En → Option En} {test : Mo Bool} {fe : Mo D} (hi : IV X E tg iter src js) (ok : BlkOk X.N X.env.scope scope own)
    (hg : ∀ (s : Shared) (H : Hp) (C : Addr) (cl : List (Str × Addr)) (fp : List Addr), GV (X.blk s H scope (compEnvC scope cl C X.env) fp) tg g ws) (ht : ∀ (s : Shared) (H : Hp) (C : Addr) (cl : List (Str × Addr)) (fp : List Addr), EIf (X.blk s H scope (compEnvC scope cl C X.env) fp) E0 ifs test)
    (he : ∀ (s : Shared) (H : Hp) (C : Addr) (cl : List (Str × Addr)) (fp : List Addr), EV (X.blk s H scope (compEnvC scope cl C X.env) fp) E0 elt fe) (hjs : ∀ j ∈ js, j ∉ own.map (·.2) := by decide) (hws : ∀ k ∈ ws, k ∈ own.map (·.2) := by decide) (hs : ∀ x, foldedSetIterable iter X.env x = pure x := by intro _; rfl) :
    LC X E elt tg iter ifs scope (mBlk (own.map (·.2)) src fun s ρ => lcI (own.map (·.2)) s g test fe 1000000 0 ρ) := by
  obtain ⟨wi, pi, qi⟩ := hi
  exact ⟨wi, tG X.K g ws, tT X.K E0 test, tE X.K E0 fe, own, pi, ok, fun s H C cl fp => (hg s H C cl fp).pg, ht, fun s H C cl fp => (he s H C cl fp).pe, hs, lc_sem 1000000 (Nat.le_refl _) qi hjs hws⟩
theorem LC.by {elt tg iter : Expr} {ifs : List Expr} {scope : Scope} {f f' : Mo (List D)} (h : LC X E elt tg iter ifs scope f) (k : ∀ ρ r, f' ρ = some r → f ρ = some r) : LC X E elt tg iter ifs scope f' := by
  obtain ⟨wi, g, tt, te, own, h1, h2, h3, h4, h5, h6, q⟩ := h
  refine ⟨wi, g, tt, te, own, h1, h2, h3, h4, h5, h6, fun G ρ σ H Q j h => q G ρ σ H Q j ?_⟩
  cases e : f' ρ with
  | none => rw [e] at h; exact h.elim
  | some r => rw [k ρ r e]; rw [e] at h; exact h
theorem LC.en {elt tg iter : Expr} {ifs : List Expr} {scope : Scope} {f : Mo (List D)} {pos : Pos} (h : LC X E elt tg iter ifs scope f) (hc : X.calm = true) (hN : X.N.Nodup) : EN X E (.ListComp elt [⟨tg, iter, ifs, 0⟩] scope pos) f := by
  obtain ⟨wi, g, tt, te, own, h1, h2, h3, h4, h5, h6, q⟩ := h
  exact ⟨_, pe_lc hc hN h1 h2 h3 h4 h5 h6, q⟩
theorem LC.set {elt tg iter : Expr} {ifs : List Expr} {scope : Scope} {f : Mo (List D)} {pos spos : Pos} {i : Nat} {y : Str} {py : Pos} (h : LC X E elt tg iter ifs scope f) (hc : X.calm = true) (hN : X.N.Nodup) (hsw : swapsWith (.ListComp elt [⟨tg, iter, ifs, 0⟩] scope pos) (some (.Name y py)) spos.line X.env = pure true)
    (hy : X.N[i]? = some y := by rfl) (hyl : X.env.scope.names.lookup y = some .local := by rfl) : SV X E (.Assign [.Name y py] (.ListComp elt [⟨tg, iter, ifs, 0⟩] scope pos) spos) (sSet i (mList f)) := by
  obtain ⟨wi, g, tt, te, own, h1, h2, h3, h4, h5, h6, q⟩ := h
  refine ⟨_, ps_setLc hc hN hy hyl hsw h1 h2 h3 h4 h5 h6, fun G ρ σ H De j h => q G ρ σ H _ j ?_⟩
  unfold sSet mList mBind at h
  cases hh : f ρ with
  | none => simp only [hh] at h; exact h
  | some r =>
    cases r with
    | error x => simp only [hh] at h; exact h
    | ok pr =>
      obtain ⟨ρ', ds⟩ := pr
      simp only [hh] at h
      intro G' v H' e r
      obtain ⟨a, vs, rfl, z1, z2, z3, no, z4⟩ := r
      have e2 := e.still z1 z2 z3 no
      exact h _ _ H' (e2.trans (Ex.set e2.j i (.lst upd_same (z4.mono (same_upd z2)))))
theorem LC.own {elt tg iter : Expr} {ifs : List Expr} {scope : Scope} {f : Mo (List D)} {pos spos : Pos} {i : Nat} {y : Str} {py : Pos} (h : LC X E elt tg iter ifs scope f) (hc : X.calm = true) (hN : X.N.Nodup) (hsw : swapsWith (.ListComp elt [⟨tg, iter, ifs, 0⟩] scope pos) (some (.Name y py)) spos.line X.env = pure true)
    (hy : X.N[i]? = some y := by rfl) (hyl : X.env.scope.names.lookup y = some .local := by rfl) : SV X E (.Assign [.Name y py] (.ListComp elt [⟨tg, iter, ifs, 0⟩] scope pos) spos) (sOwn i f) := by
  obtain ⟨wi, g, tt, te, own, h1, h2, h3, h4, h5, h6, q⟩ := h
  refine ⟨_, ps_setLc hc hN hy hyl hsw h1 h2 h3 h4 h5 h6, fun G ρ σ H De j h => q G ρ σ H _ j ?_⟩
  unfold sOwn mBind at h
  cases hh : f ρ with
  | none => simp only [hh] at h; exact h
  | some r =>
    cases r with
    | error x => simp only [hh] at h; exact h
    | ok pr =>
      obtain ⟨ρ', ds⟩ := pr
      simp only [hh] at h
      exact fun G' v H' e r => h G' _ H' (e.setOwn i r)
theorem blk_by {vs : List Nat} {src : Mo Src} {g : D → En → Option En} {test : Mo Bool} {fe : Mo D} (hcs : ∀ ρ ρ' s, src ρ = some (.ok (ρ', s)) → Const s) : ∀ ρ r, mBlk vs src (lcBody vs g test fe) ρ = some r → mBlk vs src (fun s ρ => lcI vs s g test fe 1000000 0 ρ) ρ = some r := by
  intro ρ r h
  unfold mBlk mBind at h ⊢
  cases hs : src ρ with
  | none => simp only [hs] at h; cases h
  | some o =>
    cases o with
    | error x => simp only [hs] at h ⊢; exact h
    | ok p =>
      obtain ⟨ρ1, s⟩ := p
      have hcon := hcs ρ ρ1 s hs
      simp only [hs] at h ⊢
      cases hno : noOwn ρ1 vs with
      | false => simp only [hno] at h; cases h
      | true =>
        simp only [hno] at h ⊢
        unfold lcBody at h
        cases hi : s [] with
        | none => simp only [hi] at h; cases h
        | some items =>
          simp only [hi] at h
          cases hb : Nat.blt items.length 1000000 with
          | false => simp only [hb] at h; cases h
          | true =>
            simp only [hb] at h
            cases hl : lcL vs g test fe items (wipeE ρ1 vs) with
            | none => simp only [hl] at h; cases h
            | some ro =>
              simp only [hl] at h
              have hlt : items.length < 1000000 := by
                unfold Nat.blt at hb
                exact Nat.le_of_ble_eq_true hb
              rw [lcI_of (fun ρ => (hcon ρ).trans hi) 1000000 0 items _ ro (by simp) hlt hl]
              exact h
theorem lc_c {elt tg iter : Expr} {ifs : List Expr} {scope : Scope} {own : List (Str × Nat)} {src : Mo Src} {ws : List Nat} {g : D → En → Option En} {test : Mo Bool} {fe : Mo D} (hi : IV X E tg iter src []) (hcs : ∀ ρ ρ' s, src ρ = some (.ok (ρ', s)) → Const s) (ok : BlkOk X.N X.env.scope scope own)
    (hg : ∀ (s : Shared) (H : Hp) (C : Addr) (cl : List (Str × Addr)) (fp : List Addr), GV (X.blk s H scope (compEnvC scope cl C X.env) fp) tg g ws) (ht : ∀ (s : Shared) (H : Hp) (C : Addr) (cl : List (Str × Addr)) (fp : List Addr), EIf (X.blk s H scope (compEnvC scope cl C X.env) fp) E0 ifs test)
    (he : ∀ (s : Shared) (H : Hp) (C : Addr) (cl : List (Str × Addr)) (fp : List Addr), EV (X.blk s H scope (compEnvC scope cl C X.env) fp) E0 elt fe) (hws : ∀ k ∈ ws, k ∈ own.map (·.2) := by decide) (hs : ∀ x, foldedSetIterable iter X.env x = pure x := by intro _; rfl) :
    LC X E elt tg iter ifs scope (mBlk (own.map (·.2)) src (lcBody (own.map (·.2)) g test fe)) :=
  (lc_I hi ok hg ht he (fun _ z => nomatch z) hws hs).by (blk_by hcs)
/-- sources that tell the same -/
theorem const_seq {f : Mo D} : ∀ ρ ρ' s, mSeqS f ρ = some (.ok (ρ', s)) → Const s := by
  intro ρ ρ' s h
  unfold mSeqS mBind mLift at h
  cases e : f ρ with
  | none => simp only [e] at h; cases h
  | some o =>
    cases o with
    | error x => simp only [e] at h; cases h
    | ok p =>
      obtain ⟨ρ1, d⟩ := p
      simp only [e] at h
      cases hi : itemsD d with
      | none => simp only [hi, Option.map] at h; cases h
      | some ds =>
        simp only [hi, Option.map] at h
        cases h
        exact fun _ => rfl
theorem const_range1 {f : Mo (List D)} : ∀ ρ ρ' s, mRange range1D f ρ = some (.ok (ρ', s)) → Const s := by
  intro ρ ρ' s h
  unfold mRange mBind mLift at h
  cases e : f ρ with
  | none => simp only [e] at h; cases h
  | some o =>
    cases o with
    | error x => simp only [e] at h; cases h
    | ok p =>
      obtain ⟨ρ1, ds⟩ := p
      simp only [e] at h
      cases hi : range1D ds with
      | none => simp only [hi] at h; cases h
      | some src =>
        simp only [hi] at h
        cases h
        match ds, hi with
        | [.int j], hi =>
          obtain ⟨_, rfl⟩ := ite_some (show (if -1000000000 ≤ j ∧ j ≤ 1000000000 then some (constS (rangeD 0 j.toNat)) else none) = some s from hi)
          exact fun _ => rfl
theorem const_range2 {f : Mo (List D)} : ∀ ρ ρ' s, mRange range2D f ρ = some (.ok (ρ', s)) → Const s := by
  intro ρ ρ' s h
  unfold mRange mBind mLift at h
  cases e : f ρ with
  | none => simp only [e] at h; cases h
  | some o =>
    cases o with
    | error x => simp only [e] at h; cases h
    | ok p =>
      obtain ⟨ρ1, ds⟩ := p
      simp only [e] at h
      cases hi : range2D ds with
      | none => simp only [hi] at h; cases h
      | some src =>
        simp only [hi] at h
        cases h
        match ds, hi with
        | [.int i, .int j], hi =>
          obtain ⟨_, rfl⟩ := ite_some (show (if -1000000000 ≤ i ∧ i ≤ 1000000000 ∧ -1000000000 ≤ j ∧ j ≤ 1000000000 then some (constS (rangeD i (j - i).toNat)) else none) = some s from hi)
          exact fun _ => rfl
end
end HB
namespace HB
open PySem L2
section
variable {X : Cx} {E : XK}
def isIntT : D → Option Bool
  | .bool _ => some true
  | .int _ => some true
  | .dict _ => none
  | _ => some false
def isBoolT : D → Option Bool
  | .bool _ => some true
  | .dict _ => none
  | _ => some false
def isStrT : D → Option Bool
  | .str _ => some true
  | .dict _ => none
  | _ => some false
def isTupT : D → Option Bool
  | .tuple _ => some true
  | .dict _ => none
  | _ => some false
def isSeqT : D → Option Bool
  | .list _ => some true
  | .tuple _ => some true
  | .dict _ => none
  | _ => some false
def IsTab (T : String) (tb : D → Option Bool) : Prop := ∀ d b, tb d = some b → ∃ n, tyD d = some n ∧ kitB n T = some b
theorem tab_int : IsTab "int" isIntT := by
  intro d b h
  cases d <;> first
    | (cases h; exact ⟨_, rfl, by decide +kernel⟩)
    | (cases h; done)
theorem tab_bool : IsTab "bool" isBoolT := by
  intro d b h
  cases d <;> first
    | (cases h; exact ⟨_, rfl, by decide +kernel⟩)
    | (cases h; done)
theorem tab_str : IsTab "str" isStrT := by
  intro d b h
  cases d <;> first
    | (cases h; exact ⟨_, rfl, by decide +kernel⟩)
    | (cases h; done)
theorem tab_tup : IsTab "tuple" isTupT := by
  intro d b h
  cases d <;> first
    | (cases h; exact ⟨_, rfl, by decide +kernel⟩)
    | (cases h; done)
def mIsi (tb : D → Option Bool) (f : Mo D) : Mo D := mBind f fun d => mLift ((tb d).map .bool)
theorem ev_isi {T : String} {x : Str} {tb : D → Option Bool} {e : Expr} {f : Mo D} {p p2 pos : Pos} (ht : IsTab T tb) (h : EV X E e f) (hm : X.mg "isinstance" = none) (hmT : X.mg x = none) (hvT : bootBuiltins x = some (.type T)) (hn : x ≠ "__name__" := by decide) (hdb : (x == ("__debug__" : Str)) = false := by decide)
    (hg : Gl X "isinstance" := by rfl) (hgT : Gl X x := by rfl) (he : starEach [e, .Name x p2] X.env = (false, eval e X.env) :: starEach [.Name x p2] X.env := by rfl) (hpl : (backTo pos (starEach [.Name x p2] X.env)).any (·.1) = false := by rfl) : EV X E (.Call (.Name "isinstance" p) [e, .Name x p2] [] pos) (mIsi tb f) := by
  obtain ⟨t, pt, q⟩ := h
  refine ⟨_, pe_callB call_isi hg hm (by decide +kernel) (pa_cons pt (pa_cons (pe_bltn (v := .ty T) hgT hmT hvT rfl hn hdb) pa_nil) he) (by decide) (by decide) he hpl, fun G ρ σ H Q j h => q G ρ σ H _ j (Post.imp h fun G1 ρ1 v H1 d e1 r1 h1 => ?_)⟩
  obtain ⟨c, hc, k⟩ := Post.lift (ρ' := ρ1) h1
  cases hb : tb d with
  | none => rw [hb] at hc; cases hc
  | some b =>
    rw [hb] at hc
    cases hc
    obtain ⟨n, h2, h3⟩ := ht d b hb
    exact ⟨v, .ty T, .type n, .type T, b, rfl, .ty T, r1.ty e1.j.sub h2, kit_ty h3, k G1 _ H1 e1.j.refl (.bl b)⟩
/-- isinstance(x, (list, tuple)) -/
theorem ev_isiLT {e : Expr} {f : Mo D} {p p2 p3 p4 pos : Pos} {kk : Nat} (h : EV X E e f) (hm : X.mg "isinstance" = none) (hmL : X.mg "list" = none) (hmT : X.mg "tuple" = none)
    (hg : Gl X "isinstance" := by rfl) (hgL : Gl X "list" := by rfl) (hgT : Gl X "tuple" := by rfl) (he : starEach [e, .Tuple [.Name "list" p2, .Name "tuple" p3] kk p4] X.env = (false, eval e X.env) :: starEach [.Tuple [.Name "list" p2, .Name "tuple" p3] kk p4] X.env := by rfl) (hpl : (backTo pos (starEach [.Tuple [.Name "list" p2, .Name "tuple" p3] kk p4] X.env)).any (·.1) = false := by rfl) :
    EV X E (.Call (.Name "isinstance" p) [e, .Tuple [.Name "list" p2, .Name "tuple" p3] kk p4] [] pos) (mIsi isSeqT f) := by
  obtain ⟨t, pt, q⟩ := h
  refine ⟨_, pe_callB call_isiT hg hm (by decide +kernel) (pa_cons pt (pa_cons (pe_tup (pa_cons (pe_bltn (v := .ty "list") hgL hmL (by decide +kernel) rfl) (pa_cons (pe_bltn (v := .ty "tuple") hgT hmT (by decide +kernel) rfl) pa_nil))) pa_nil) he) (by decide) (by decide) he hpl, fun G ρ σ H Q j h => q G ρ σ H _ j (Post.imp h fun G1 ρ1 v H1 d e1 r1 h1 => ?_)⟩
  obtain ⟨c, hc, k⟩ := Post.lift (ρ' := ρ1) h1
  refine ⟨by show 2 ≤ sizeLine; decide, fun tp htp => ?_⟩
  have sh : Same H1 (upd H1 tp (.tup [.ty "list", .ty "tuple"])) := same_upd htp
  have x2 : Ex X.K G1 ρ1 σ H1 G1 ρ1 σ (upd H1 tp (.tup [.ty "list", .ty "tuple"])) := by
    refine ⟨⟨e1.j.sub.new htp, e1.j.len, e1.j.pur, fun i s ds e hl => ?_, e1.j.alone, fun i g o o' z xs y1 y2 => let ⟨a, v, u, h1, h2, h3⟩ := e1.j.lk i g o o' z xs y1 y2; ⟨a, v, u, h1, sh _ _ h2, h3⟩⟩, .refl _, fun b hb => .inl hb, fun b o e _ => sh _ _ e, fun b hb => .inl hb, fun b hb => sh.free hb, fun i ds h => ⟨⟨ds, h⟩, rfl⟩, fun i s h q => ⟨⟨s, h, q⟩, rfl⟩, (sameT_upd htp).tx⟩
    obtain ⟨a, vs, z1, z2, z3, z4⟩ := e1.j.hold i s ds e hl
    haveI := z4.noT
    exact ⟨a, vs, z1, sh _ _ z2, z3, z4⟩
  have key : ∀ b, isSeqT d = some b → ∃ n, tyD d = some n ∧ PySem.W.kitAny X.K (.type n) [.type "list", .type "tuple"] = some b := by
    intro b hb
    cases d <;> first
      | (cases hb; exact ⟨_, rfl, by kernel_rfl⟩)
      | (cases hb; done)
  cases hb : isSeqT d with
  | none => rw [hb] at hc; cases hc
  | some b =>
    rw [hb] at hc
    cases hc
    obtain ⟨n, h2, h3⟩ := key b hb
    exact ⟨v, tp, [.ty "list", .ty "tuple"], .type n, [.type "list", .type "tuple"], b, rfl, upd_same, .cons (.ty _) (.cons (.ty _) .nil), r1.ty x2.j.sub h2, h3, k G1 _ _ x2 (.bl b)⟩
def mNoPart : Mo (Option Int) := mRet none
def intOf : D → Option Int
  | .int i => some i
  | _ => none
def mPart (f : Mo D) : Mo (Option Int) := mBind f fun d => mLift ((intOf d).map some)
def EO (X : Cx) (E : XK) (e : Option Expr) (f : Mo (Option Int)) : Prop := ∃ t, PO X e t ∧ ∀ G ρ σ H Q, J X.K G ρ σ H → Post X.K E (fun _ b c => b = c) G ρ σ H Q (f ρ) → t σ H Q
theorem eo_none : EO X E none mNoPart := ⟨_, po_none, fun G ρ σ H Q j h => h G none H j.refl rfl⟩
theorem eo_some {e : Expr} {f : Mo D} (h : EV X E e f) : EO X E (some e) (mPart f) := by
  obtain ⟨t, p, q⟩ := h
  refine ⟨_, po_some p, fun G ρ σ H Q j h => q G ρ σ H _ j (Post.imp h fun G1 ρ1 v H1 d e1 r1 h1 => ?_)⟩
  obtain ⟨c, hc, k⟩ := Post.lift (ρ' := ρ1) h1
  cases r1 with
  | int i => cases hc; exact ⟨i, rfl, k G1 _ H1 e1.j.refl rfl⟩
  | _ => cases hc
def cutD {α : Type} (xs : List α) (lo hi : Option Int) : List α := (xs.drop (HT.sIx xs.length 0 lo)).take (HT.sIx xs.length xs.length hi - HT.sIx xs.length 0 lo)
theorem RpAll.cut {K : PySem.W.Frag} {G : Hp} {vs : List V} {ds : List D} (r : RpAll K G vs ds) (lo hi : Option Int) : RpAll K G (cutV vs lo hi) (cutD ds lo hi) := by
  unfold cutV cutD
  rw [r.length]
  exact (r.drop _).take _
def slD (lo hi : Option Int) : D → Option D
  | .list ds => some (.list (cutD ds lo hi))
  | .tuple ds => some (.tuple (cutD ds lo hi))
  | .dict [(.none, .list ds)] => some (.list (cutD ds lo hi))
  | .str z => if z.length ≤ 1000000 then some (.str (cutS z lo hi)) else none
  | _ => none
def mSlice (f : Mo D) (lo hi : Mo (Option Int)) : Mo D := mBind f fun d => mBind lo fun l => mBind hi fun h => mLift (slD l h d)
theorem cutV_all {xs : List V} {lo hi : Option Int} (h1 : HT.sIx xs.length 0 lo = 0) (h2 : HT.sIx xs.length xs.length hi = xs.length) : cutV xs lo hi = xs := by
  unfold cutV
  rw [h1, h2]
  simp
theorem ev_slice {e : Expr} {lo hi : Option Expr} {f : Mo D} {fl fh : Mo (Option Int)} {p2 pos : Pos} (h : EV X E e f) (hl : EO X E lo fl) (hh : EO X E hi fh) : EV X E (.Subscript e (.Slice lo hi none p2) pos) (mSlice f fl fh) := by
  obtain ⟨t, p, q⟩ := h
  obtain ⟨tl, pl, ql⟩ := hl
  obtain ⟨th, ph, qh⟩ := hh
  refine ⟨_, pe_slice (sl_list.or ((sl_tupP.or sl_tupA).or sl_str)) p pl ph, fun G ρ σ H Q j h => q G ρ σ H _ j (Post.imp h fun G1 ρ1 v H1 d e1 r1 h1 => ?_)⟩
  refine ql G1 ρ1 σ H1 _ e1.j (Post.imp h1 fun G2 ρ2 l H2 l' e2 rl h2 => ?_)
  subst rl
  refine qh G2 ρ2 σ H2 _ e2.j (Post.imp h2 fun G3 ρ3 u H3 u' e3 ru h3 => ?_)
  subst ru
  obtain ⟨c, hc, k⟩ := Post.lift (ρ' := ρ3) h3
  have r3 : Rp X.K G3 v d := (r1.mono e2.g).mono e3.g
  have s3 := e3.j.sub
  cases r3 with
  | @lst a xs ds z1 z2 =>
    cases hc
    refine .inl ⟨a, xs, rfl, .of (s3 _ _ z1), fun p hp => ?_⟩
    have px : PX G3 H3 _ _ := .alloc s3 hp (.lst (cutV xs l u))
    exact k _ _ _ (e3.j.ex px) (.lst upd_same ((z2.cut l u).mono px.g))
  | @tup a xs ds z1 z2 =>
    cases hc
    by_cases hw : HT.sIx xs.length 0 l = 0 ∧ HT.sIx xs.length xs.length u = xs.length
    · refine .inr (.inl (.inr ⟨a, xs, rfl, sqT_mono s3 z1.t, fun _ => ?_, fun no => absurd hw no⟩))
      have e := z2.cut l u
      rw [cutV_all hw.1 hw.2] at e
      exact k G3 _ H3 e3.j.refl (.tup z1 e)
    · refine .inr (.inl (.inl ⟨a, xs, rfl, sqT_mono s3 z1.t, hw, fun p o hp nd => ?_⟩))
      have px : PX G3 H3 _ _ := .alloc s3 hp (.frz o (.tup (cutV xs l u)))
      exact k _ _ _ (e3.j.ex px) (.tup (.new nd) ((z2.cut l u).mono px.g))
  | @frz a xs ds z1 z2 =>
    cases hc
    refine .inl ⟨a, xs, rfl, s3.seq z1, fun p hp => ?_⟩
    have px : PX G3 H3 _ _ := .alloc s3 hp (.lst (cutV xs l u))
    exact k _ _ _ (e3.j.ex px) (.lst upd_same ((z2.cut l u).mono px.g))
  | str z =>
    obtain ⟨h4, rfl⟩ := ite_some (show (if z.length ≤ 1000000 then some (PyData.str (cutS z l u)) else none) = some c from hc)
    exact .inr (.inr ⟨z, rfl, line_of h4, k G3 _ H3 e3.j.refl (.str _)⟩)
  | obj z1 z2 => cases hc
  | _ => cases hc
def fldIn (f : Str) : List (D × D) → Option D
  | [] => none
  | (.str g, d) :: r => if g = f then some d else fldIn f r
  | _ :: _ => none
def fldD (c f : Str) : D → Option D
  | .dict ((.str c', .none) :: kvs) => if c' = c then fldIn f kvs else none
  | _ => none
theorem RpF.look {K : PySem.W.Frag} {G : Hp} {f : Str} : ∀ {fs : List (Str × V)} {kvs : List (D × D)} {d : D}, RpF K G fs kvs → fldIn f kvs = some d → ∃ v, fs.lookup f = some v ∧ Rp K G v d
  | _, _, _, .nil, h => by cases h
  | _, _, d, @RpF.cons _ _ g v fs e kvs h t, q => by
    have q' : (if g = f then some e else fldIn f kvs) = some d := q
    by_cases z : g = f
    · rw [if_pos z] at q'
      cases q'
      subst z
      exact ⟨v, by simp [List.lookup], h⟩
    · rw [if_neg z] at q'
      obtain ⟨v', h1, h2⟩ := RpF.look t q'
      refine ⟨v', ?_, h2⟩
      have e1 : (f == g) = false := beq_eq_false_iff_ne.mpr (Ne.symm z)
      simp only [List.lookup, e1]
      exact h1
theorem ev_fld {e : Expr} {f : Mo D} {c a : Str} {pos : Pos} (h : EV X E e f) (hc : Cls X.K (He.ga X.K c)) (hn : NoAttr X.K (He.ga X.K c) a) (hb : attributeBase e a X.env (eval e X.env) = eval e X.env := by rfl) : EV X E (.Attribute e a pos) (mUn (fldD c a) f) := by
  obtain ⟨t, p, q⟩ := h
  refine ⟨_, pe_fld p hb, fun G ρ σ H Q j h => q G ρ σ H _ j (Post.imp h fun G1 ρ1 v H1 d e1 r1 h1 => ?_)⟩
  obtain ⟨y, hy, k⟩ := Post.lift (ρ' := ρ1) h1
  cases r1 with
  | @obj ad dx c' fs kvs z1 z2 =>
    obtain ⟨rfl, h3⟩ : c' = c ∧ fldIn a kvs = some y := by
      have hy' : (if c' = c then fldIn a kvs else none) = some y := hy
      split at hy'
      · rename_i q
        exact ⟨q, hy'⟩
      · cases hy'
    obtain ⟨v', h4, h5⟩ := z2.look h3
    exact ⟨ad, _, dx, fs, v', rfl, e1.j.sub _ _ z1, hc, hn, h4, k G1 _ H1 e1.j.refl h5⟩
  | frz z1 z2 => cases hy
  | _ => cases hy
/-- xs.append(e), a statement -/
def sChg (i : Nat) (f : Mo (List D)) (c : List D → List D → Option (List D)) : Mo Fl := fun ρ => match ρ[i]? with
  | some (.own _) => mBind f (fun as ρ1 => match ρ1[i]? with
    | some (.own ds) => match c ds as with
      | some es => some (.ok (ρ1.set i (.own es), .nx))
      | none => none
    | _ => none) ρ
  | _ => none
def appC : List D → List D → Option (List D)
  | ds, [d] => match Nat.blt ds.length 1000000 with
    | true => some (ds ++ [d])
    | false => none
  | _, _ => none
def extC : List D → List D → Option (List D)
  | ds, [.list es] => match Nat.blt (ds.length + es.length) 1000000 with
    | true => some (ds ++ es)
    | false => none
  | _, _ => none
/-- another list in its place -/
def Sl.put : Sl → List D → Sl
  | .own _, es => .own es
  | .box _, es => .box es
  | s, _ => s
theorem Sl.put_ls {s : Sl} {ds es : List D} (h : s.ls = some ds) : (s.put es).ls = some es := by
  cases s with
  | no => cases h
  | pur d => cases h
  | own _ => rfl
  | box _ => rfl
  | dl _ _ _ => cases h
  | gst _ _ => cases h
  | ins _ _ _ => cases h
theorem Sl.put_I {s : Sl} {ds es : List D} (h : s.ls = some ds) : (s.put es).isI = false := by
  cases s with
  | own _ => rfl
  | box _ => rfl
  | _ => cases h
theorem Sl.put_is {s : Sl} {ds : List D} (es : List D) (h : s.ls = some ds) : s.put es = .own es ∨ (s.put es = .box es ∧ ∃ ds0, s = .box ds0) := by
  cases s with
  | no => cases h
  | pur d => cases h
  | own _ => exact .inl rfl
  | box ds0 => exact .inr ⟨rfl, ds0, rfl⟩
  | dl _ _ _ => cases h
  | gst _ _ => cases h
  | ins _ _ _ => cases h
theorem Sl.put_hs {s : Sl} {ds es : List D} (h : s.ls = some ds) : (s.put es).hs = some es := Sl.ls_hs (Sl.put_ls h)
/-- the slot's list is changed -/
theorem J.putS {K : PySem.W.Frag} {G H : Hp} {ρ : En} {σ : St} (j : J K G ρ σ H) {i : Nat} {s : Sl} {ds es : List D} {a : Addr} {ws : List V} (h : ρ[i]? = some s) (hl : s.ls = some ds) (ha : σ[i]? = some (some (.ref a))) (r : RpAll K G ws es) : Ex K G ρ σ H G (ρ.set i (s.put es)) σ (upd H a (.lst ws)) := by
  obtain ⟨a', vs, h1, h2, h3, h4⟩ := j.own i s ds h hl
  rw [ha] at h1
  cases h1
  have hi : i < ρ.length := (List.getElem?_eq_some_iff.mp h).1
  have od : Ownd ρ σ a := ⟨i, s, ds, h, Sl.ls_hs hl, ha⟩
  have np : ∀ d, s.put es ≠ .pur d := fun d z => by
    rcases Sl.put_is es hl with y | ⟨y, _⟩ <;> rw [y] at z <;> cases z
  have nd : ∀ o g z, s.put es ≠ .dl o g z := fun o g z w => by
    rcases Sl.put_is es hl with y | ⟨y, _⟩ <;> rw [y] at w <;> cases w
  have ng : ∀ o xs, s.put es ≠ .gst o xs := fun o xs w => by
    rcases Sl.put_is es hl with y | ⟨y, _⟩ <;> rw [y] at w <;> cases w
  have c : ∀ (m : Nat) (t : Sl) (us : List D), (ρ.set i (s.put es))[m]? = some t → t.hs = some us → ∃ t' us', ρ[m]? = some t' ∧ t'.hs = some us' := fun m t us hm ht => by
    rcases getElem?_set_cases hm with ⟨z1, _⟩ | ⟨_, z⟩
    · subst z1; exact ⟨s, ds, h, Sl.ls_hs hl⟩
    · exact ⟨t, us, z, ht⟩
  refine ⟨⟨j.sub.put h3 (pl_of h2), by rw [List.length_set]; exact j.len, fun k d q => ?_, fun k t fs q ht => ?_, fun k l t u fs gs b q1 l1 q2 l2 q3 q4 => ?_, fun k g o o' z xs q1 q2 => ?_⟩, .refl _, fun b hb => .inl hb, fun b o q n => ?_, fun b hb => ?_, fun b hb => ?_, fun k fs q => ?_, fun k t q ql => ?_, .put (pl_of h2)⟩
  · rcases getElem?_set_cases q with ⟨_, z⟩ | ⟨_, q'⟩
    · exact absurd z.symm (np d)
    · exact j.pur k d q'
  · rcases getElem?_set_cases q with ⟨z1, z⟩ | ⟨z1, q'⟩
    · subst z
      subst z1
      rw [Sl.put_hs hl] at ht
      cases ht
      exact ⟨a, _, ha, upd_same, h3, .of (Sl.put_I hl) r⟩
    · obtain ⟨b, us, g1, g2, g3, g4⟩ := j.hold k t fs q' ht
      have ne : b ≠ a := fun z => by
        subst z
        exact z1 (j.alone k i t s fs ds b q' ht h (Sl.ls_hs hl) g1 ha)
      exact ⟨b, us, g1, by rw [upd_ne ne]; exact g2, g3, g4⟩
  · obtain ⟨t1, u1, c1, c2⟩ := c k t fs q1 l1
    obtain ⟨t2, u2, c3, c4⟩ := c l u gs q2 l2
    exact j.alone k l t1 t2 u1 u2 b c1 c2 c3 c4 q3 q4
  · rcases getElem?_set_cases q1 with ⟨_, y⟩ | ⟨y1, q1'⟩
    · exact absurd y.symm (nd o g z)
    · rcases getElem?_set_cases q2 with ⟨_, y⟩ | ⟨_, q2'⟩
      · exact absurd y.symm (ng o' xs)
      · obtain ⟨b, v, u, g1, g2, g3⟩ := j.lk k g o o' z xs q1' q2'
        have ne : b ≠ a := fun w => by
          subst w
          exact y1 (j.alone k i _ s _ ds b q1' rfl h (Sl.ls_hs hl) g1 ha)
        exact ⟨b, v, u, g1, by rw [upd_ne ne]; exact g2, g3⟩
  · have ne : b ≠ a := fun z => by
      subst z
      exact n od
    rw [upd_ne ne]
    exact fun {_} => q
  · obtain ⟨k, t, us, q1, l1, q2⟩ := hb
    obtain ⟨t1, u1, c1, c2⟩ := c k t us q1 l1
    exact .inl ⟨k, t1, u1, c1, c2, q2⟩
  · by_cases z : b = a
    · subst z; rw [upd_same] at hb; cases hb
    · rw [upd_ne z] at hb; exact hb
  · rcases getElem?_set_cases q with ⟨z1, z⟩ | ⟨z1, q'⟩
    · subst z1
      rcases Sl.put_is es hl with y | ⟨_, es0, y⟩
      · rw [y] at z; cases z
      · subst y; exact ⟨⟨es0, h⟩, rfl⟩
    · exact ⟨⟨fs, q'⟩, rfl⟩
  · rcases getElem?_set_cases q with ⟨_, y⟩ | ⟨_, q'⟩
    · subst y
      rcases Sl.put_is es hl with y | ⟨y, _⟩ <;> rw [y] at ql <;> cases ql
    · exact ⟨⟨t, q', ql⟩, rfl⟩
theorem J.put {K : PySem.W.Frag} {G H : Hp} {ρ : En} {σ : St} (j : J K G ρ σ H) {i : Nat} {ds es : List D} {a : Addr} {ws : List V} (h : ρ[i]? = some (.own ds)) (ha : σ[i]? = some (some (.ref a))) (r : RpAll K G ws es) : Ex K G ρ σ H G (ρ.set i (.own es)) σ (upd H a (.lst ws)) :=
  j.putS h rfl ha r
theorem chg_sem {i : Nat} {t : TA} {f : Mo (List D)} {c : List D → List D → Option (List D)} {r : V → List V → Hp → VK → Prop} (q : ∀ G ρ σ H Q, J X.K G ρ σ H → Post X.K E (RpAll X.K) G ρ σ H Q (f ρ) → t σ H Q)
    (hr : ∀ G H a vs ds as us es Q, Same G H → H a = some (.lst vs) → G a = none → RpAll X.K G vs ds → RpAll X.K G us as → c ds as = some es → (∀ v ws, RpAll X.K G ws es → Q v (upd H a (.lst ws))) → r (.ref a) us H Q) :
    ∀ G ρ σ H De, J X.K G ρ σ H → PostS X.K E G ρ σ H De (sChg i f c ρ) → tDrop (tBM X.K "list" r (tVar i) t) De σ H := by
  intro G ρ σ H De j h
  unfold sChg at h
  cases hs : ρ[i]? with
  | none => rw [hs] at h; exact h.elim
  | some sl =>
    rw [hs] at h
    cases sl with
    | no => exact h.elim
    | box _ => exact h.elim
    | dl _ _ _ => exact h.elim
    | gst _ _ => exact h.elim
    | ins _ _ _ => exact h.elim
    | pur d => exact h.elim
    | own ds0 =>
      obtain ⟨a, vs, h1, h2, h3, h4⟩ := j.own i _ ds0 hs rfl
      refine ⟨.ref a, h1, .inl ⟨rfl, vs, .of h2⟩, q G ρ σ H _ j (PostS.imp h fun G1 ρ1 us H1 as e1 r1 k => ?_)⟩
      have k' : PostS X.K E G1 ρ1 σ H1 De (match ρ1[i]? with
        | some (.own ds) => match c ds as with
          | some es => some (.ok (ρ1.set i (.own es), .nx))
          | none => none
        | _ => none) := k
      cases hs1 : ρ1[i]? with
      | none => rw [hs1] at k'; exact k'.elim
      | some sl1 =>
        rw [hs1] at k'
        cases sl1 with
        | no => exact k'.elim
        | box _ => exact k'.elim
        | dl _ _ _ => exact k'.elim
        | gst _ _ => exact k'.elim
        | ins _ _ _ => exact k'.elim
        | pur d => exact k'.elim
        | own ds =>
          cases hc : c ds as with
          | none => simp only [hc] at k'; exact k'.elim
          | some es =>
            simp only [hc] at k'
            obtain ⟨a1, vs1, g1, g2, g3, g4⟩ := e1.j.own i _ ds hs1 rfl
            rw [h1] at g1
            cases g1
            exact hr G1 H1 a vs1 ds as us es _ e1.j.sub g2 g3 g4 r1 hc fun v ws rw' => k' G1 σ _ (e1.j.put hs1 h1 rw')
theorem s_app {i : Nat} {x : Str} {e : Expr} {f : Mo (List D)} {p1 apos cpos pos : Pos} (h : EA X E [e] f) (hN : X.N[i]? = some x := by rfl) (hv : Vis X.env.scope x := by first | exact Or.inl rfl | exact Or.inr (Or.inl rfl) | exact Or.inr (Or.inr rfl)) (hd : (x == ("__debug__" : Str)) = false := by decide) (hcd : (x == ("__classdict__" : Str)) = false := by decide)
    (hs : swapsWith (.Call (.Attribute (.Name x p1) "append" apos) [e] [] cpos) none pos.line X.env = pure false := by rfl)
    (hbase : attributeBase (.Name x p1) "append" X.env (eval (.Name x p1) X.env) = eval (.Name x p1) X.env := by rfl)
    (hfew : ((backTo cpos (starEach [e] X.env)).all (fun x => !x.1) && (backToKw cpos (keywordEach [] X.env)).all (fun x => x.1.isSome) && decide ([e].length + ([] : List Keyword).length + (if ([] : List Keyword).isEmpty then 0 else 1) < 30)) = true := by rfl)
    (hline : (apos.endLine == cpos.line) = true := by rfl) (hst : starEach [e] X.env = (false, eval e X.env) :: starEach [] X.env := by rfl) (hplain : (backTo cpos (starEach [] X.env)).any (·.1) = false := by rfl) :
    SV X E (.Expr (.Call (.Attribute (.Name x p1) "append" apos) [e] [] cpos) pos) (sChg i f appC) := by
  obtain ⟨t, p, q⟩ := h
  refine ⟨_, ps_expr (pe_bm PySem.F.plainAttrs_list PySem.F.slot_list_append PySem.F.type_list_append mt_append (pe_var hN hv hd hcd) p hbase hfew hline hst hplain) hs, chg_sem q fun G H a vs ds as us es Q s z1 z2 z3 z4 hc k => ?_⟩
  match as, hc with
  | [d], hc =>
    obtain ⟨y, rfl, ry⟩ := z4.one
    have hc' : (match Nat.blt ds.length 1000000 with
      | true => some (ds ++ [d])
      | false => none) = some es := hc
    cases hb : Nat.blt ds.length 1000000 with
    | false => rw [hb] at hc'; cases hc'
    | true =>
      rw [hb] at hc'
      cases hc'
      have hlt : ds.length < 1000000 := by
        unfold Nat.blt at hb
        exact Nat.le_of_ble_eq_true hb
      exact ⟨a, vs, y, rfl, rfl, z1, by rw [z3.length]; exact Nat.lt_of_lt_of_le hlt (by decide), k _ _ (z3.append (.cons ry .nil))⟩
theorem s_ext {i : Nat} {x : Str} {e : Expr} {f : Mo (List D)} {p1 apos cpos pos : Pos} (h : EA X E [e] f) (hN : X.N[i]? = some x := by rfl) (hv : Vis X.env.scope x := by first | exact Or.inl rfl | exact Or.inr (Or.inl rfl) | exact Or.inr (Or.inr rfl)) (hd : (x == ("__debug__" : Str)) = false := by decide) (hcd : (x == ("__classdict__" : Str)) = false := by decide)
    (hs : swapsWith (.Call (.Attribute (.Name x p1) "extend" apos) [e] [] cpos) none pos.line X.env = pure false := by rfl)
    (hbase : attributeBase (.Name x p1) "extend" X.env (eval (.Name x p1) X.env) = eval (.Name x p1) X.env := by rfl)
    (hfew : ((backTo cpos (starEach [e] X.env)).all (fun x => !x.1) && (backToKw cpos (keywordEach [] X.env)).all (fun x => x.1.isSome) && decide ([e].length + ([] : List Keyword).length + (if ([] : List Keyword).isEmpty then 0 else 1) < 30)) = true := by rfl)
    (hline : (apos.endLine == cpos.line) = true := by rfl) (hst : starEach [e] X.env = (false, eval e X.env) :: starEach [] X.env := by rfl) (hplain : (backTo cpos (starEach [] X.env)).any (·.1) = false := by rfl) :
    SV X E (.Expr (.Call (.Attribute (.Name x p1) "extend" apos) [e] [] cpos) pos) (sChg i f extC) := by
  obtain ⟨t, p, q⟩ := h
  refine ⟨_, ps_expr (pe_bm PySem.F.plainAttrs_list PySem.F.slot_list_extend PySem.F.type_list_extend mt_extend (pe_var hN hv hd hcd) p hbase hfew hline hst hplain) hs, chg_sem q fun G H a vs ds as us es Q s z1 z2 z3 z4 hc k => ?_⟩
  match as, hc with
  | [.list zs], hc =>
    obtain ⟨y, rfl, ry⟩ := z4.one
    have hc' : (match Nat.blt (ds.length + zs.length) 1000000 with
      | true => some (ds ++ zs)
      | false => none) = some es := hc
    cases hb : Nat.blt (ds.length + zs.length) 1000000 with
    | false => rw [hb] at hc'; cases hc'
    | true =>
      rw [hb] at hc'
      cases hc'
      have hlt : ds.length + zs.length < 1000000 := by
        unfold Nat.blt at hb
        exact Nat.le_of_ble_eq_true hb
      cases ry with
      | @lst b ys _ y1 y2 => exact ⟨a, b, vs, ys, rfl, rfl, z1, s _ _ y1, by rw [z3.length, y2.length]; exact line_of (by omega), k _ _ (z3.append y2)⟩
/-- xs[i] = e -/
def sPut (i : Nat) (fi fe : Mo D) : Mo Fl := mBind fe fun d ρ => match ρ[i]? with
  | some (.own _) => mBind fi (fun k ρ1 => match ρ1[i]? with
    | some (.own ds) => match intOf k with
      | some n => match ixN ds.length n with
        | some m => some (.ok (ρ1.set i (.own (ds.set m d)), .nx))
        | none => none
      | none => none
    | _ => none) ρ
  | _ => none
theorem s_put {i : Nat} {x : Str} {e ie : Expr} {fi fe : Mo D} {p1 tpos pos : Pos} (h : EV X E e fe) (hi : EV X E ie fi) (hN : X.N[i]? = some x := by rfl) (hv : Vis X.env.scope x := by first | exact Or.inl rfl | exact Or.inr (Or.inl rfl) | exact Or.inr (Or.inr rfl)) (hd : (x == ("__debug__" : Str)) = false := by decide) (hcd : (x == ("__classdict__" : Str)) = false := by decide)
    (hpg : ∀ {to ti : TE} {t : TSet}, PE X (.Name x p1) to → PE X ie ti → PSet X t → PG X (.Subscript (.Name x p1) ie tpos) (gSub to ti t) := by exact fun a b c => pg_sub a b c)
    (hs : swapsWithSole [.Subscript (.Name x p1) ie tpos] e pos.line X.env = pure false := by rfl) (hw : swappedStores [.Subscript (.Name x p1) ie tpos] e X.env = pure none := by rfl)
    (ha : (assignEach [.Subscript (.Name x p1) ie tpos] X.env).map (·.2) = [assign (.Subscript (.Name x p1) ie tpos) X.env] := by rfl) : SV X E (.Assign [.Subscript (.Name x p1) ie tpos] e pos) (sPut i fi fe) := by
  obtain ⟨t, p, q⟩ := h
  obtain ⟨ti, pi, qi⟩ := hi
  refine ⟨_, ps_asg p (hpg (pe_var hN hv hd hcd) pi set_list) hs hw ha, fun G ρ σ H De j h => q G ρ σ H _ j (PostS.imp h fun G1 ρ1 v H1 d e1 r1 k => ?_)⟩
  have k' : PostS X.K E G1 ρ1 σ H1 De (match ρ1[i]? with
    | some (.own _) => mBind fi (fun k ρ1 => match ρ1[i]? with
      | some (.own ds) => match intOf k with
        | some n => match ixN ds.length n with
          | some m => some (.ok (ρ1.set i (.own (ds.set m d)), .nx))
          | none => none
        | none => none
      | _ => none) ρ1
    | _ => none) := k
  cases hs1 : ρ1[i]? with
  | none => rw [hs1] at k'; exact k'.elim
  | some sl1 =>
    rw [hs1] at k'
    cases sl1 with
    | no => exact k'.elim
    | box _ => exact k'.elim
    | dl _ _ _ => exact k'.elim
    | gst _ _ => exact k'.elim
    | ins _ _ _ => exact k'.elim
    | pur d => exact k'.elim
    | own ds0 =>
      obtain ⟨a, vs, h1, h2, h3, h4⟩ := e1.j.own i _ ds0 hs1 rfl
      refine ⟨.ref a, h1, qi G1 ρ1 σ H1 _ e1.j (PostS.imp k' fun G2 ρ2 iv H2 kd e2 r2 k2 => ?_)⟩
      have k2' : PostS X.K E G2 ρ2 σ H2 De (match ρ2[i]? with
        | some (.own ds) => match intOf kd with
          | some n => match ixN ds.length n with
            | some m => some (.ok (ρ2.set i (.own (ds.set m d)), .nx))
            | none => none
          | none => none
        | _ => none) := k2
      cases hs2 : ρ2[i]? with
      | none => rw [hs2] at k2'; exact k2'.elim
      | some sl2 =>
        rw [hs2] at k2'
        cases sl2 with
        | no => exact k2'.elim
        | box _ => exact k2'.elim
        | dl _ _ _ => exact k2'.elim
        | gst _ _ => exact k2'.elim
        | ins _ _ _ => exact k2'.elim
        | pur d => exact k2'.elim
        | own ds =>
          obtain ⟨a2, vs2, g1, g2, g3, g4⟩ := e2.j.own i _ ds hs2 rfl
          rw [h1] at g1
          cases g1
          cases r2 with
          | int n =>
            simp only [intOf] at k2'
            cases hx : ixN ds.length n with
            | none => simp only [hx] at k2'; exact k2'.elim
            | some m =>
              simp only [hx] at k2'
              exact ⟨a, vs2, n, m, rfl, rfl, g2, by rw [g4.length]; exact hx, k2' G2 σ _ (e2.j.put hs2 h1 (RpAll.set (r1.mono e2.g) m g4))⟩
          | _ => exact k2'.elim
/-- xs[e], len(xs) of a list of the def's own -/
def mIxO (i : Nat) (f : Mo D) : Mo D := fun ρ => match ρ[i]? with
  | some (.own _) => mBind f (fun k ρ1 => match ρ1[i]? with
    | some (.own ds) => mLift (ixD (.list ds) k) ρ1
    | _ => none) ρ
  | some (.pur d) => mBind f (fun k => mLift (ixD d k)) ρ
  | _ => none
theorem ev_ixO {i : Nat} {x : Str} {e : Expr} {f : Mo D} {p1 pos : Pos} (h : EV X E e f) (hN : X.N[i]? = some x := by rfl) (hv : Vis X.env.scope x := by first | exact Or.inl rfl | exact Or.inr (Or.inl rfl) | exact Or.inr (Or.inr rfl)) (hd : (x == ("__debug__" : Str)) = false := by decide) (hcd : (x == ("__classdict__" : Str)) = false := by decide)
    (hs : PlainIx e := by exact fun _ _ => rfl) : EV X E (.Subscript (.Name x p1) e pos) (mIxO i f) := by
  obtain ⟨t, p, q⟩ := h
  refine ⟨_, pe_ix ix_seq (pe_var hN hv hd hcd) p hs, fun G ρ σ H Q j h => ?_⟩
  unfold mIxO at h
  cases hs : ρ[i]? with
  | none => rw [hs] at h; exact h.elim
  | some sl =>
    rw [hs] at h
    cases sl with
    | no => exact h.elim
    | box _ => exact h.elim
    | dl _ _ _ => exact h.elim
    | gst _ _ => exact h.elim
    | ins _ _ _ => exact h.elim
    | pur d =>
      obtain ⟨v, h1, h2⟩ := j.pur i d hs
      refine ⟨v, h1, q G ρ σ H _ j (Post.imp h fun G1 ρ1 y H1 k e1 r1 h5 => ?_)⟩
      obtain ⟨c, hc, kk⟩ := Post.lift (ρ' := ρ1) h5
      exact ix_sem e1.j.sub (h2.mono e1.g) r1 hc fun v r => kk G1 v H1 e1.j.refl r
    | own ds0 =>
      obtain ⟨a, vs, h1, h2, h3, h4⟩ := j.own i _ ds0 hs rfl
      refine ⟨.ref a, h1, q G ρ σ H _ j (Post.imp h fun G1 ρ1 y H1 k e1 r1 h5 => ?_)⟩
      have k' : Post X.K E (Rp X.K) G1 ρ1 σ H1 Q (match ρ1[i]? with
        | some (.own ds) => mLift (ixD (.list ds) k) ρ1
        | _ => none) := h5
      cases hs1 : ρ1[i]? with
      | none => rw [hs1] at k'; exact k'.elim
      | some sl1 =>
        rw [hs1] at k'
        cases sl1 with
        | no => exact k'.elim
        | box _ => exact k'.elim
        | dl _ _ _ => exact k'.elim
        | gst _ _ => exact k'.elim
        | ins _ _ _ => exact k'.elim
        | pur d => exact k'.elim
        | own ds =>
          obtain ⟨c, hc, kk⟩ := Post.lift (ρ' := ρ1) k'
          obtain ⟨a1, vs1, g1, g2, g3, g4⟩ := e1.j.own i _ ds hs1 rfl
          rw [h1] at g1
          cases g1
          cases r1 with
          | int n =>
            obtain ⟨v, q1, q2⟩ := g4.atI hc
            exact .inl ⟨_, _, _, _, rfl, rfl, .of g2, q1, kk G1 v H1 e1.j.refl q2⟩
          | _ => cases hc
def mLenO (i : Nat) : Mo D := fun ρ => match ρ[i]? with
  | some (.own ds) => some (.ok (ρ, .int ds.length))
  | some (.pur d) => mLift (lenD [d]) ρ
  | _ => none
theorem ev_lenO {i : Nat} {x : Str} {p1 p pos : Pos} (hm : X.mg "len" = none) (hN : X.N[i]? = some x := by rfl) (hv : Vis X.env.scope x := by first | exact Or.inl rfl | exact Or.inr (Or.inl rfl) | exact Or.inr (Or.inr rfl)) (hd : (x == ("__debug__" : Str)) = false := by decide) (hcd : (x == ("__classdict__" : Str)) = false := by decide)
    (hg : Gl X "len" := by rfl) (he : starEach [.Name x p1] X.env = (false, eval (.Name x p1) X.env) :: starEach [] X.env := by rfl) (hpl : (backTo pos (starEach [] X.env)).any (·.1) = false := by rfl) : EV X E (.Call (.Name "len" p) [.Name x p1] [] pos) (mLenO i) := by
  refine ⟨_, pe_callB call_len hg hm boot_len (pa_cons (pe_var hN hv hd hcd) pa_nil he) (by decide) (by decide) he hpl, fun G ρ σ H Q j h => ?_⟩
  unfold mLenO at h
  cases hs : ρ[i]? with
  | none => rw [hs] at h; exact h.elim
  | some sl =>
    rw [hs] at h
    cases sl with
    | no => exact h.elim
    | box _ => exact h.elim
    | dl _ _ _ => exact h.elim
    | gst _ _ => exact h.elim
    | ins _ _ _ => exact h.elim
    | own ds =>
      obtain ⟨a, vs, h1, h2, h3, h4⟩ := j.own i _ ds hs rfl
      exact ⟨.ref a, h1, _, ds.length, rfl, .inl ⟨_, .of h2, h4.length.symm⟩, h G _ H j.refl (.int _)⟩
    | pur d =>
      obtain ⟨v, h1, h2⟩ := j.pur i d hs
      refine ⟨v, h1, ?_⟩
      obtain ⟨c, hc, kk⟩ := Post.lift (ρ' := ρ) h
      cases h2 with
      | lst z1 z2 => cases hc; exact ⟨_, _, rfl, .inl ⟨_, .of (j.sub _ _ z1), z2.length.symm⟩, kk G _ H j.refl (.int _)⟩
      | tup z1 z2 => cases hc; exact ⟨_, _, rfl, .inr ⟨_, sqT_mono j.sub z1.t, z2.length.symm⟩, kk G _ H j.refl (.int _)⟩
      | frz z1 z2 => cases hc; exact ⟨_, _, rfl, .inl ⟨_, j.sub.seq z1, z2.length.symm⟩, kk G _ H j.refl (.int _)⟩
      | str z =>
        obtain ⟨h5, rfl⟩ := ite_some (show (if z.length ≤ 1000000 then some (PyData.int z.length) else none) = some c from hc)
        exact ⟨_, _, rfl, ⟨line_of h5, rfl⟩, kk G _ H j.refl (.int _)⟩
      | obj z1 z2 => cases hc
      | _ => cases hc
end
end HB
namespace HB
open PySem L2
/-- t: a list, else a tuple -/
def SIs (t : Bool) (h : Heap) (l : Addr) (its : Array Value) : Prop := match t with
  | true => h.IsList l its
  | false => h.IsTuple l its
def SIt (t : Bool) (h : Heap) (it l : Addr) (i : Nat) : Prop := match t with
  | true => h.IsListIter it l i
  | false => h.IsTupleIter it l i
def itObj (t : Bool) (l : Addr) : Obj := match t with
  | true => { cls := .type "list_iterator", data := .fields #[.ref l, .int 0 0] }
  | false => { cls := .type "tuple_iterator", data := .fields #[.ref l, .int 0 0] }
def SqB (K : PySem.W.Frag) (t : Bool) (H : Hp) (a : Addr) (xs : List V) : Prop := match t with
  | true => SqL K H a xs
  | false => SqT K H a xs
section
variable {prog : Program} {w : World} {A : Around} {E : Value → Shared → Prop} {s : Shared} {t t1 t2 : Bool}
theorem SIt.ext {h h' : Heap} {it l b : Addr} {i : Nat} (x : SIt t h it l i) (e : Heap.ExtBut b h h') (n : it ≠ b) : SIt t h' it l i := by
  cases t
  · exact Heap.IsTupleIter.extBut x e n
  · exact Heap.IsListIter.extBut x e n
theorem SIt.at {h h' : Heap} {it l : Addr} {i : Nat} (x : SIt t h it l i) (e : ∀ o, h.get? it = some o → h'.get? it = some o) : SIt t h' it l i := by
  cases t
  · exact Heap.IsTupleIter.at x e
  · exact Heap.IsListIter.at x e
theorem SIs.ext {h h' : Heap} {l b : Addr} {its : Array Value} (x : SIs t h l its) (e : Heap.ExtBut b h h') (n : l ≠ b) : SIs t h' l its := by
  cases t
  · exact Heap.IsTuple.extBut x e n
  · exact Heap.IsList.extBut x e n
theorem SIs.lt {h : Heap} {l : Addr} {its : Array Value} (x : SIs t h l its) : l < h.objs.size := by
  cases t
  · obtain ⟨o, e, _⟩ := (show h.IsTuple l its from x)
    exact Heap.lt_size e
  · obtain ⟨o, e, _⟩ := (show h.IsList l its from x)
    exact Heap.lt_size e
theorem SIt.obj {h : Heap} {it l : Addr} {i : Nat} (x : SIt t h it l i) : ∃ o, h.get? it = some o ∧ ∀ v, o.data ≠ .cell v := by
  cases t
  · obtain ⟨o, e, _, d⟩ := (show h.IsTupleIter it l i from x)
    exact ⟨o, e, fun v q => by rw [d] at q; cases q⟩
  · obtain ⟨o, e, _, d⟩ := (show h.IsListIter it l i from x)
    exact ⟨o, e, fun v q => by rw [d] at q; cases q⟩
theorem nx_item {it l : Addr} {i : Nat} {its : Array Value} {x : Value} {Q : Value → Shared → Prop} (hit : SIt t s.heap it l i) (hl : SIs t s.heap l its) (hx : its[i]? = some x)
    (k : ∀ h', SIt t h' it l (i + 1) → Heap.SameBut it s.heap h' → Q x { s with heap := h' }) : wpAny (model prog w) A (Builtin.SmallTypes.nextOf (.ref it)) Q E s := by
  cases t
  · exact RZ.nextOf_tuple_item hit hl hx k
  · exact wpAny_nextOf_list_item hit hl hx k
theorem nx_end {it l : Addr} {i : Nat} {its : Array Value} {Q : Value → Shared → Prop} (hh : A.handled = none) (hit : SIt t s.heap it l i) (hl : SIs t s.heap l its) (hx : its[i]? = none)
    (k : ∀ h' e, Heap.ExtBut it s.heap h' → (∃ o, h'.get? e = some o ∧ o.cls = .type "StopIteration") → E (.ref e) { s with heap := h' }) : wpAny (model prog w) A (Builtin.SmallTypes.nextOf (.ref it)) Q E s := by
  cases t
  · exact RZ.nextOf_tuple_end hh hit hl hx k
  · exact wpAny_nextOf_list_end hh hit hl hx k
theorem stopped {e : Addr} {Q : Bool → Shared → Prop} (b : ∃ o, s.heap.get? e = some o ∧ o.cls = .type "StopIteration") (k : Q true s) : wpAny (model prog w) A (isInstance (.ref e) (.type "StopIteration")) Q E s :=
  let ⟨o, ho, hc⟩ := b
  wpAny_isInstance ⟨o, ho, hc⟩ isSubtype_stop k
/-- with the end told -/
theorem nxo_item {it l : Addr} {i : Nat} {its : Array Value} {x : Value} {Q : Option Value → Shared → Prop} (hit : SIt t s.heap it l i) (hl : SIs t s.heap l its) (hx : its[i]? = some x)
    (k : ∀ h', SIt t h' it l (i + 1) → Heap.SameBut it s.heap h' → Q (some x) { s with heap := h' }) : wpAny (model prog w) A (Builtin.SmallTypes.nextOrEnd (.ref it)) Q E s := by
  unfold Builtin.SmallTypes.nextOrEnd
  exact wpAny_bind (wpAny_attempt (nx_item hit hl hx fun h' a b => wpAny_pure (k h' a b)))
theorem nxo_end {it l : Addr} {i : Nat} {its : Array Value} {Q : Option Value → Shared → Prop} (hh : A.handled = none) (hit : SIt t s.heap it l i) (hl : SIs t s.heap l its) (hx : its[i]? = none)
    (k : ∀ h', Heap.ExtBut it s.heap h' → Q none { s with heap := h' }) : wpAny (model prog w) A (Builtin.SmallTypes.nextOrEnd (.ref it)) Q E s := by
  unfold Builtin.SmallTypes.nextOrEnd
  exact wpAny_bind (wpAny_attempt (nx_end hh hit hl hx fun h' e a b => wpAny_bind (stopped b (wpAny_pure (k h' a)))))
/-- the zip object; b: strict -/
def IsZipB (b : Bool) (h : Heap) (z TI TO : Addr) (f0 : Value) : Prop := h.get? z = some { cls := .type "zip", data := .fields #[f0, .bool false, .bool b, .ref TI, .ref TO] }
section
variable {b : Bool} {z TI TO : Addr} {f0 : Value} {Q : Value → Shared → Prop}
theorem z0 (hz : IsZipB b s.heap z TI TO f0) (k : Q f0 s) : wpAny (model prog w) A (field (.ref z) 0) Q E s := wpAny_field hz rfl rfl k
theorem z2 (hz : IsZipB b s.heap z TI TO f0) (k : Q (.bool b) s) : wpAny (model prog w) A (field (.ref z) 2) Q E s := wpAny_field hz rfl rfl k
theorem z3 (hz : IsZipB b s.heap z TI TO f0) (k : Q (.ref TI) s) : wpAny (model prog w) A (field (.ref z) 3) Q E s := wpAny_field hz rfl rfl k
theorem z4 (hz : IsZipB b s.heap z TI TO f0) (k : Q (.ref TO) s) : wpAny (model prog w) A (field (.ref z) 4) Q E s := wpAny_field hz rfl rfl k
theorem zset {v : Value} {R : Unit → Shared → Prop} (hz : IsZipB b s.heap z TI TO f0) (k : ∀ h', IsZipB b h' z TI TO v → Heap.SameBut z s.heap h' → R () { s with heap := h' }) : wpAny (model prog w) A (setField (.ref z) 0 v) R E s :=
  wpAny_setField_rec hz (by simp) k
end
/-- what a turn of the zip leaves as it was -/
def ZKeep (z TO i1 i2 : Addr) (h h' : Heap) : Prop := ∀ c o, c ≠ z → c ≠ TO → c ≠ i1 → c ≠ i2 → h.get? c = some o → h'.get? c = some o
/-- zip's next -/
abbrev zNext (z : Addr) : Sem Fin := Builtin.«zip.__next__» ⟨[.ref z], []⟩
theorem zipS_item {z TI TO i1 i2 l1 l2 : Addr} {k1 k2 : Nat} {xs ys : Array Value} {x y a b : Value} {Q : Value → Shared → Prop} (Da : ZipApart z TI TO i1 i2 l1 l2) (hz : IsZipB true s.heap z TI TO .none) (hTI : IsPair s.heap TI (.ref i1) (.ref i2)) (hTO : IsPair s.heap TO a b)
    (h1 : SIt t1 s.heap i1 l1 k1) (h2 : SIt t2 s.heap i2 l2 k2) (hl1 : SIs t1 s.heap l1 xs) (hl2 : SIs t2 s.heap l2 ys) (hx : xs[k1]? = some x) (hy : ys[k2]? = some y)
    (k : ∀ h', IsZipB true h' z TI TO (rawInt s.heap.objs.size) → IsPair h' TO x y → SIt t1 h' i1 l1 (k1 + 1) → SIt t2 h' i2 l2 (k2 + 1) → IsPair h' s.heap.objs.size x y → h'.objs.size = s.heap.objs.size + 1 →
      ZKeep z TO i1 i2 s.heap h' → Q (.ref s.heap.objs.size) { s with heap := h' }) :
    wpAny (model prog w) A (zNext z) (fun r s' => ∃ v, r = .done (.ret v) ∧ Q v s') E s := by
  wp_walk using z2 hz, z3 hz, z0 hz, z4 hz, wpAny_seqItems hTI rfl, zset hz
  intro q1 hz1 e1
  wp_walk using wpAny_onRaise, nxo_item (h1.ext e1.extBut Da.i1z) (hl1.ext e1.extBut Da.l1z) hx
  intro q2 j1 e2
  have T2 : IsPair q2 TO a b := e2.extBut _ _ Da.TOi1 (e1.extBut _ _ Da.TOz hTO)
  wp_walk using wpAny_onRaise, wpAny_seqItems T2 rfl, wpAny_updateSeq_pair T2
  intro q3 T3 e3
  replace T3 : IsPair q3 TO x b := T3
  wp_walk using wpAny_onRaise, nxo_item (((h2.ext e1.extBut Da.i2z).ext e2.extBut Da.i12.symm).ext e3.extBut Da.TOi2.symm) (((hl2.ext e1.extBut Da.l2z).ext e2.extBut Da.l2i1).ext e3.extBut Da.l2TO) hy
  intro q4 j2 e4
  have T4 : IsPair q4 TO x b := e4.extBut _ _ Da.TOi2 T3
  wp_walk using wpAny_onRaise, wpAny_seqItems T4 rfl, wpAny_updateSeq_pair T4
  intro q5 T5 e5
  replace T5 : IsPair q5 TO x y := T5
  have Z5 : IsZipB true q5 z TI TO .ellipsis := e5.extBut _ _ Da.TOz.symm (e4.extBut _ _ Da.i2z.symm (e3.extBut _ _ Da.TOz.symm (e2.extBut _ _ Da.i1z.symm hz1)))
  have hsz : q5.objs.size = s.heap.objs.size := by rw [e5.1, e4.1, e3.1, e2.1, e1.1]
  have keep5 : ZKeep z TO i1 i2 s.heap q5 := fun c o c1 c2 c3 c4 e => e5.extBut _ _ c2 (e4.extBut _ _ c4 (e3.extBut _ _ c2 (e2.extBut _ _ c3 (e1.extBut _ _ c1 e))))
  have J1 : SIt t1 q5 i1 l1 (k1 + 1) := ((j1.ext e3.extBut Da.TOi1.symm).ext e4.extBut Da.i12).ext e5.extBut Da.TOi1.symm
  have J2 : SIt t2 q5 i2 l2 (k2 + 1) := j2.ext e5.extBut Da.TOi2.symm
  have zlt : z < q5.objs.size := Heap.lt_size Z5
  have Z6 : (q5.push { cls := .type "tuple", data := .seq #[x, y] }).get? z = some { cls := .type "zip", data := .fields #[.ellipsis, .bool false, .bool true, .ref TI, .ref TO] } := Heap.get?_push_of_some _ Z5
  wp_walk using wpAny_seqItems T5 rfl, wpAny_newTuple, wpAny_setField_rec Z6 (by simp)
  intro q7 hz7 e7
  wp_walk using wpAny_setField_rec hz7 (by simp)
  · intro q8 hz8 e8
    replace hz8 : IsZipB true q8 z TI TO (rawInt q5.objs.size) := hz8
    have up : ∀ c o, c ≠ z → q5.get? c = some o → q8.get? c = some o := fun c o c1 e => e8.extBut _ _ c1 (e7.extBut _ _ c1 (Heap.get?_push_of_some _ e))
    have T8 : IsPair q8 q5.objs.size x y := e8.extBut _ _ (Nat.ne_of_gt zlt) (e7.extBut _ _ (Nat.ne_of_gt zlt) (Heap.get?_push_size _ rfl))
    have z8 : q8.objs.size = q5.objs.size + 1 := by rw [e8.1, e7.1, Heap.size_push]
    rw [hsz] at hz8 T8 z8
    have fin := k q8 hz8 (up _ _ Da.TOz T5) (J1.at fun o e => up _ o Da.i1z e) (J2.at fun o e => up _ o Da.i2z e) T8 z8 fun c o c1 c2 c3 c4 e => up c o c1 (keep5 c o c1 c2 c3 c4 e)
    rw [← hsz] at fin
    exact wpAny_pure ⟨_, rfl, fin⟩
  · exact (by decide : 2 ≤ sizeLine)
theorem zipS_end {z TI TO i1 i2 l1 l2 : Addr} {k1 k2 : Nat} {xs ys : Array Value} {a b : Value} {Q : Fin → Shared → Prop} (hh : A.handled = none) (Da : ZipApart z TI TO i1 i2 l1 l2) (hz : IsZipB true s.heap z TI TO .none) (hTI : IsPair s.heap TI (.ref i1) (.ref i2)) (hTO : IsPair s.heap TO a b)
    (h1 : SIt t1 s.heap i1 l1 k1) (h2 : SIt t2 s.heap i2 l2 k2) (hl1 : SIs t1 s.heap l1 xs) (hl2 : SIs t2 s.heap l2 ys) (hx : xs[k1]? = none) (hy : ys[k2]? = none)
    (k : ∀ h' e, ZKeep z TO i1 i2 s.heap h' → (∃ o, h'.get? e = some o ∧ o.cls = .type "StopIteration") → E (.ref e) { s with heap := h' }) :
    wpAny (model prog w) A (zNext z) Q E s := by
  wp_walk using z2 hz, z3 hz, z0 hz, z4 hz, wpAny_seqItems hTI rfl, zset hz
  intro q1 hz1 e1
  wp_walk using wpAny_onRaise, nxo_end hh (h1.ext e1.extBut Da.i1z) (hl1.ext e1.extBut Da.l1z) hx
  intro q2 e2
  have Z2 : IsZipB true q2 z TI TO .ellipsis := e2 _ _ Da.i1z.symm hz1
  wp_walk using wpAny_onRaise, zset Z2
  intro q3 hz3 e3
  wp_walk using wpAny_onRaise, nxo_end hh (((h2.ext e1.extBut Da.i2z).ext e2 Da.i12.symm).ext e3.extBut Da.i2z) (((hl2.ext e1.extBut Da.l2z).ext e2 Da.l2i1).ext e3.extBut Da.l2z) hy
  intro q4 e4
  wp_walk
  simp only [raiseNew]
  wp_walk
  refine k _ _ (fun c o c1 c2 c3 c4 e => ?_) ⟨_, Heap.get?_push_size _ rfl, rfl⟩
  have f4 : q4.get? c = some o := e4 _ _ c4 (e3.extBut _ _ c1 (e2 _ _ c3 (e1.extBut _ _ c1 e)))
  exact Heap.get?_push_of_some _ (Heap.get?_push_of_some _ f4)
theorem pyNext_zipS_item {z TI TO i1 i2 l1 l2 : Addr} {k1 k2 : Nat} {xs ys : Array Value} {x y a b : Value} {Q : Option Value → Shared → Prop} (Da : ZipApart z TI TO i1 i2 l1 l2) (hz : IsZipB true s.heap z TI TO .none) (hTI : IsPair s.heap TI (.ref i1) (.ref i2)) (hTO : IsPair s.heap TO a b)
    (h1 : SIt t1 s.heap i1 l1 k1) (h2 : SIt t2 s.heap i2 l2 k2) (hl1 : SIs t1 s.heap l1 xs) (hl2 : SIs t2 s.heap l2 ys) (hx : xs[k1]? = some x) (hy : ys[k2]? = some y)
    (k : ∀ h', IsZipB true h' z TI TO (rawInt s.heap.objs.size) → IsPair h' TO x y → SIt t1 h' i1 l1 (k1 + 1) → SIt t2 h' i2 l2 (k2 + 1) → IsPair h' s.heap.objs.size x y → h'.objs.size = s.heap.objs.size + 1 →
      ZKeep z TO i1 i2 s.heap h' → Q (some (.ref s.heap.objs.size)) { s with heap := h' }) : wpAny (model prog w) A (pyNext (.ref z)) Q E s := by
  have ty : s.TypeIs (.ref z) "zip" := ⟨_, hz, rfl⟩
  unfold pyNext
  exact wpAny_bind (wpAny_attempt (wpAny_callSpecial?_slot (name := Str.ofString "__next__") ty F.slot_zip_next (wpAny_call_entry F.slot_zip_next ty F.entry_zip_next
    (zipS_item Da hz hTI hTO h1 h2 hl1 hl2 hx hy fun h' b1 b2 b3 b4 b5 b6 b7 => wpAny_pure (k h' b1 b2 b3 b4 b5 b6 b7)) (F.args_zip_next_1 _))))
theorem pyNext_zipS_end {z TI TO i1 i2 l1 l2 : Addr} {k1 k2 : Nat} {xs ys : Array Value} {a b : Value} {Q : Option Value → Shared → Prop} (hh : A.handled = none) (Da : ZipApart z TI TO i1 i2 l1 l2) (hz : IsZipB true s.heap z TI TO .none) (hTI : IsPair s.heap TI (.ref i1) (.ref i2)) (hTO : IsPair s.heap TO a b)
    (h1 : SIt t1 s.heap i1 l1 k1) (h2 : SIt t2 s.heap i2 l2 k2) (hl1 : SIs t1 s.heap l1 xs) (hl2 : SIs t2 s.heap l2 ys) (hx : xs[k1]? = none) (hy : ys[k2]? = none)
    (k : ∀ h', ZKeep z TO i1 i2 s.heap h' → Q none { s with heap := h' }) : wpAny (model prog w) A (pyNext (.ref z)) Q E s := by
  have ty : s.TypeIs (.ref z) "zip" := ⟨_, hz, rfl⟩
  unfold pyNext
  refine wpAny_bind (wpAny_attempt (wpAny_callSpecial?_slot (name := Str.ofString "__next__") ty F.slot_zip_next (wpAny_call_entry F.slot_zip_next ty F.entry_zip_next
    (zipS_end (A := A.in1) hh Da hz hTI hTO h1 h2 hl1 hl2 hx hy fun h' e kk he => ?_) (F.args_zip_next_1 _))))
  exact wpAny_bind (stopped he (wpAny_pure (k _ kk)))
/-- the loop gives a handed-out pair back -/
abbrev zBack (elts : List Expr) (x1 : Nat) (pos : Pos) (z T : Addr) : Sem Unit := letOwnedTupleGo (.Tuple elts x1 pos) (.ref z) (.ref T)
theorem letGo_zipS {elts : List Expr} {x1 : Nat} {pos : Pos} {z TI TO T : Addr} {Q : Unit → Shared → Prop} (hz : IsZipB true s.heap z TI TO (rawInt T)) (k : ∀ h', IsZipB true h' z TI TO .none → Heap.SameBut z s.heap h' → Q () { s with heap := h' }) :
    wpAny (model prog w) A (zBack elts x1 pos z T) Q E s := by
  unfold zBack letOwnedTupleGo
  exact wpAny_bind (wpAny_load hz (wpAny_ite_true (by simp) (wpAny_bind (wpAny_rule (zset hz k)))))
theorem pyIter_zipS {z TI TO : Addr} {f0 : Value} {Q : Value → Shared → Prop} (hz : IsZipB true s.heap z TI TO f0) (h : Q (.ref z) s) : wpAny (model prog w) A (pyIter (.ref z)) Q E s := by
  have ty : s.TypeIs (.ref z) "zip" := ⟨_, hz, rfl⟩
  refine wpAny_pyIter_slot ty F.slot_zip_iter (wpAny_call_entry F.slot_zip_iter ty F.entry_zip_iter (wpAny_pure ⟨_, rfl, "zip", _, ty, F.slot_zip_next.lookup, h⟩) (F.args_zip_iter_1 _))
theorem pyIter_S {l : Addr} {its : Array Value} {Q : Value → Shared → Prop} (hl : SIs t s.heap l its) (h : Q (.ref s.heap.objs.size) { s with heap := s.heap.push (itObj t l) }) : wpAny (model prog w) A (pyIter (.ref l)) Q E s := by
  cases t
  · exact wpAny_pyIter_tuple hl h
  · exact wpAny_pyIter_list hl h
abbrev zS1 (t1 : Bool) (h : Heap) (l1 : Addr) : Heap := h.push (itObj t1 l1)
abbrev zS2 (t1 t2 : Bool) (h : Heap) (l1 l2 : Addr) : Heap := (zS1 t1 h l1).push (itObj t2 l2)
abbrev zS3 (t1 t2 : Bool) (h : Heap) (l1 l2 : Addr) : Heap := (zS2 t1 t2 h l1 l2).push { cls := .type "tuple", data := .seq #[.ref h.objs.size, .ref (zS1 t1 h l1).objs.size] }
abbrev zS4 (t1 t2 : Bool) (h : Heap) (l1 l2 : Addr) : Heap := (zS3 t1 t2 h l1 l2).push { cls := .type "tuple", data := .seq #[.none, .none] }
abbrev zS5 (t1 t2 : Bool) (h : Heap) (l1 l2 : Addr) : Heap := (zS4 t1 t2 h l1 l2).push { cls := .type "zip", data := .fields #[.none, .bool false, .bool true, .ref (zS2 t1 t2 h l1 l2).objs.size, .ref (zS3 t1 t2 h l1 l2).objs.size] }
theorem SIs.push {h : Heap} {l : Addr} {its : Array Value} (x : SIs t h l its) (o : Obj) : SIs t (h.push o) l its := x.ext (b := h.objs.size) (fun b ob _ e => Heap.get?_push_of_some _ e) (Nat.ne_of_lt x.lt)
end
theorem meets_zipS (t1 t2 : Bool) (l1 l2 : Addr) (xs ys : Array Value) :
    Meets (Builtin.«zip.__new__» ⟨[.type "zip", .ref l1, .ref l2], [("strict", .bool true)]⟩) (fun _ R s => SIs t1 s.heap l1 xs ∧ SIs t2 s.heap l2 ys ∧
      R (.ok (.ret (.ref (zS4 t1 t2 s.heap l1 l2).objs.size))) { s with heap := zS5 t1 t2 s.heap l1 l2 }) :=
  .of_wp fun prog w A R ⟨hp, g, d, tk, os⟩ ⟨a1, a2, h⟩ => by
    have hsub : isSubtype (.type "zip") (.type "zip") = pure true := F.called_zip.sub
    have b1 : SIs t1 (Shared.heap ⟨hp, g, d, tk, os⟩) l1 xs := a1
    have b2 : SIs t2 (Shared.heap ⟨hp.push (itObj t1 l1), g, d, tk, os⟩) l2 ys := SIs.push a2 _
    wp_walk using pyIter_S b1, pyIter_S b2
    exact ⟨_, rfl, h⟩
section
variable {prog : Program} {w : World} {A : Around} {E : Value → Shared → Prop} {s : Shared} {t t1 t2 : Bool}
theorem call_zipS {l1 l2 : Addr} {xs ys : Array Value} {Q : Value → Shared → Prop} (a1 : SIs t1 s.heap l1 xs) (a2 : SIs t2 s.heap l2 ys)
    (k : ∀ h', IsZipB true h' (s.heap.objs.size + 4) (s.heap.objs.size + 2) (s.heap.objs.size + 3) .none → IsPair h' (s.heap.objs.size + 2) (.ref s.heap.objs.size) (.ref (s.heap.objs.size + 1)) → IsPair h' (s.heap.objs.size + 3) .none .none → SIt t1 h' s.heap.objs.size l1 0 → SIt t2 h' (s.heap.objs.size + 1) l2 0 → h'.objs.size = s.heap.objs.size + 5 →
      (∀ c o, s.heap.get? c = some o → h'.get? c = some o) → Q (.ref (s.heap.objs.size + 4)) { s with heap := h' }) : wpAny (model prog w) A (call (.type "zip") [.ref l1, .ref l2] [("strict", .bool true)]) Q E s := by
  refine callType_meetsKw (Q₁ := fun obj s1 => s1.TypeIs obj "zip" ∧ Q obj s1) F.called_zip (by kernel_rfl) (by kernel_rfl) F.entry_zip_new F.entry_object_init (meets_zipS t1 t2 l1 l2 xs ys) ⟨a1, a2, ?_⟩ fun obj s1 hq => ⟨hq.1, ?_, _, object_init_meetsKw F.called_zip.init.lookup F.called_zip.made (by decide), hq.1, rfl, hq.2⟩
  · have z1 : (zS1 t1 s.heap l1).objs.size = s.heap.objs.size + 1 := Heap.size_push ..
    have z2 : (zS2 t1 t2 s.heap l1 l2).objs.size = s.heap.objs.size + 2 := by rw [Heap.size_push, z1]
    have z3 : (zS3 t1 t2 s.heap l1 l2).objs.size = s.heap.objs.size + 3 := by rw [Heap.size_push, z2]
    have z4 : (zS4 t1 t2 s.heap l1 l2).objs.size = s.heap.objs.size + 4 := by rw [Heap.size_push, z3]
    have z5 : (zS5 t1 t2 s.heap l1 l2).objs.size = s.heap.objs.size + 5 := by rw [Heap.size_push, z4]
    have fr : ∀ (tt : Bool) (l : Addr), (itObj tt l).isFreed = false := fun tt l => by cases tt <;> rfl
    have g5 : (zS5 t1 t2 s.heap l1 l2).get? (zS4 t1 t2 s.heap l1 l2).objs.size = some _ := Heap.get?_push_size _ rfl
    have g4 : (zS5 t1 t2 s.heap l1 l2).get? (zS3 t1 t2 s.heap l1 l2).objs.size = some _ := Heap.get?_push_of_some _ (Heap.get?_push_size _ rfl)
    have g3 : (zS5 t1 t2 s.heap l1 l2).get? (zS2 t1 t2 s.heap l1 l2).objs.size = some _ := Heap.get?_push_of_some _ (Heap.get?_push_of_some _ (Heap.get?_push_size _ rfl))
    have g2 : (zS5 t1 t2 s.heap l1 l2).get? (zS1 t1 s.heap l1).objs.size = some _ := Heap.get?_push_of_some _ (Heap.get?_push_of_some _ (Heap.get?_push_of_some _ (Heap.get?_push_size _ (fr t2 l2))))
    have g1 : (zS5 t1 t2 s.heap l1 l2).get? s.heap.objs.size = some _ := Heap.get?_push_of_some _ (Heap.get?_push_of_some _ (Heap.get?_push_of_some _ (Heap.get?_push_of_some _ (Heap.get?_push_size _ (fr t1 l1)))))
    show _ ∧ _
    rw [z2, z3, z4] at g5
    rw [z1, z2] at g3
    rw [z3] at g4
    rw [z1] at g2
    rw [z4]
    have mk : ∀ (tt : Bool) (h : Heap) (it l : Addr), h.get? it = some (itObj tt l) → SIt tt h it l 0 := fun tt h it l e => by
      cases tt
      · exact ⟨_, e, rfl, rfl⟩
      · exact ⟨_, e, rfl, rfl⟩
    exact ⟨⟨_, g5, rfl⟩, k _ g5 g3 g4 (mk _ _ _ _ g1) (mk _ _ _ _ g2) z5 fun c o x => Heap.get?_push_of_some _ (Heap.get?_push_of_some _ (Heap.get?_push_of_some _ (Heap.get?_push_of_some _ (Heap.get?_push_of_some _ x))))⟩
  · unfold argsOk
    rw [signature?_of (id := "object.__init__") (n := "__init__".toList.reverse) (o := "object".toList.reverse) (by kernel_rfl) F.owner_object]
    kernel_rfl
def ItzS (K : PySem.W.Frag) (t1 t2 : Bool) (a b : Addr) : It :=
  ⟨fun i H => ∃ (xs ys : List V) (x y : V), SqB K t1 H a xs ∧ SqB K t2 H b ys ∧ xs[i]? = some x ∧ ys[i]? = some y,
    fun i H v H' => ∃ T x y o, v = .ref T ∧ H T = none ∧ o.dict = none ∧ H' = upd H T (.frz o (.tup [x, y])) ∧ (∀ xs, SqB K t1 H a xs → xs[i]? = some x) ∧ ∀ ys, SqB K t2 H b ys → ys[i]? = some y,
    fun i H => ∃ xs ys : List V, SqB K t1 H a xs ∧ SqB K t2 H b ys ∧ xs.length ≤ i ∧ ys.length ≤ i⟩
end
section
variable {X : Cx} {pins : List (Addr × Obj)} {σ : St} {H : Hp} {s : Shared} {t t1 t2 : Bool}
theorem inv_sqB {a : Addr} {xs : List V} (I : Inv X pins σ H s) (h : SqB X.K t H a xs) : ∃ its : List Value, Vals xs its ∧ SIs t s.heap a its.toArray ∧ xs.length ≤ sizeLine := by
  cases t
  · obtain ⟨its, r, p, z⟩ := I.tuple h
    exact ⟨its, r, p, z⟩
  · obtain ⟨its, r, p, z⟩ := I.list h
    exact ⟨its, r, p.isList, z⟩
theorem inv_sqB_inj {a : Addr} {xs ys : List V} (I : Inv X pins σ H s) (h : SqB X.K t H a xs) (h' : SqB X.K t H a ys) : xs = ys := by
  cases t
  · exact I.tuple_inj h h'
  · exact I.list_inj h h'
theorem SqB.mono {K : PySem.W.Frag} {H H' : Hp} {a : Addr} {xs : List V} (s : Same H H') (h : SqB K t H a xs) : SqB K t H' a xs := by
  cases t
  · exact sqT_mono s h
  · exact s.seq h
end
/-- how a zip stands ahead of its turn i -/
structure ZSt (t1 t2 : Bool) (a b z TI TO i1 i2 : Addr) (i : Nat) (h : Heap) : Prop where
  zp : IsZipB true h z TI TO .none
  ti : IsPair h TI (.ref i1) (.ref i2)
  to : ∃ x y, IsPair h TO x y
  l : SIt t1 h i1 a i
  r : SIt t2 h i2 b i
theorem ZSt.all {t1 t2 : Bool} {a b z TI TO i1 i2 : Addr} {i : Nat} {h : Heap} (q : ZSt t1 t2 a b z TI TO i1 i2 i h) : ∀ c ∈ [z, TI, TO, i1, i2], ∃ o, h.get? c = some o ∧ ∀ v, o.data ≠ .cell v := by
  obtain ⟨x, y, q3⟩ := q.to
  simp only [List.mem_cons, List.not_mem_nil, or_false, forall_eq_or_imp, forall_eq]
  exact ⟨⟨_, q.zp, fun v e => nomatch e⟩, ⟨_, q.ti, fun v e => nomatch e⟩, ⟨_, q3, fun v e => nomatch e⟩, q.l.obj, q.r.obj⟩
theorem ZSt.lt {t1 t2 : Bool} {a b z TI TO i1 i2 c : Addr} {i : Nat} {h : Heap} (q : ZSt t1 t2 a b z TI TO i1 i2 i h) (hc : c ∈ [z, TI, TO, i1, i2]) : c < h.objs.size := let ⟨_, e, _⟩ := q.all c hc; Heap.lt_size e
theorem turn_zipS {P : Program} {w : World} {K : PySem.W.Frag} {t1 t2 : Bool} {elts : List Expr} {kk : Nat} {tpos : Pos} {a b z TI TO i1 i2 : Addr} (Da : ZipApart z TI TO i1 i2 a b) :
    Turn P w K (.Tuple elts kk tpos) (ItzS K t1 t2 a b) [z, TI, TO, i1, i2] z (ZSt t1 t2 a b z TI TO i1 i2) where
  mem := by simp
  obj := fun i h q => q.all
  keep := fun i h h' q k => ⟨k z (by simp) _ q.zp, k TI (by simp) _ q.ti, let ⟨x, y, q3⟩ := q.to; ⟨x, y, k TO (by simp) _ q3⟩, q.l.at fun o e => k i1 (by simp) o e, q.r.at fun o e => k i2 (by simp) o e⟩
  item := by
    intro X hP hw hK hc i pins s σ H E I hf q ⟨xs, ys, x, y, g1, g2, hx, hy⟩
    subst hP hw hK
    obtain ⟨x0, y0, q3⟩ := q.to
    obtain ⟨its, rv, p, _⟩ := inv_sqB I g1
    obtain ⟨its2, rv2, p2, _⟩ := inv_sqB I g2
    have ⟨u, hu, ru⟩ := rv.get hx
    have ⟨u2, hu2, ru2⟩ := rv2.get hy
    refine pyNext_zipS_item Da q.zp q.ti q3 q.l q.r p p2 (x := u) (y := u2) (by simpa using hu) (by simpa using hu2) fun h' b1 b2 b3 b4 hT hsz hk => ⟨_, rfl, ?_⟩
    refine letGo_zipS (s := { s with heap := h' }) b1 fun g b5 sb => ?_
    have same : ∀ c o, c ∉ [z, TI, TO, i1, i2] → s.heap.get? c = some o → g.get? c = some o := fun c o hb e => by
      simp only [List.mem_cons, List.not_mem_nil, or_false, not_or] at hb
      exact (sb.2 c hb.1).trans (hk c o hb.1 hb.2.2.1 hb.2.2.2.1 hb.2.2.2.2 e)
    have pr : IsPair g s.heap.objs.size u u2 := (sb.2 _ (Nat.ne_of_gt (q.lt (by simp)))).trans hT
    have nw : ObjOk X.prog X.w (upd H s.heap.objs.size (.frz (tupO [u, u2]) (.tup [x, y]))) g s.heap.objs.size (.frz (tupO [u, u2]) (.tup [x, y])) := ⟨pr, by show 2 ≤ sizeLine; decide, [u, u2], .cons ru (.cons ru2 .nil), ⟨_, pr, rfl, _, rfl⟩⟩
    refine ⟨.ref s.heap.objs.size, _, I.turnedNew (t' := s.toks) (ch := [z, TI, TO, i1, i2]) same hf (Nat.le_refl _) nw, rfl, ⟨_, x, y, _, rfl, I.hok.fresh (Nat.le_refl _), rfl, rfl, fun l hl => by rw [inv_sqB_inj I hl g1]; exact hx, fun l hl => by rw [inv_sqB_inj I hl g2]; exact hy⟩,
      ⟨b5, (sb.2 _ Da.TIz).trans (hk _ _ Da.TIz Da.TITO Da.TIi1 Da.TIi2 q.ti), ⟨u, u2, (sb.2 _ Da.TOz).trans b2⟩, b3.at fun o e => (sb.2 _ Da.i1z).trans e, b4.at fun o e => (sb.2 _ Da.i2z).trans e⟩, fun c hcm => ?_⟩
    exact (upd_ne (Nat.ne_of_lt (q.lt hcm))).trans (hf c hcm).1
  done := by
    intro X hP hw hK hc i pins s σ H E I hf q ⟨xs, ys, g1, g2, e1, e2⟩
    subst hP hw hK
    obtain ⟨x0, y0, q3⟩ := q.to
    obtain ⟨its, rv, p, _⟩ := inv_sqB I g1
    obtain ⟨its2, rv2, p2, _⟩ := inv_sqB I g2
    have l1 := rv.length
    have l2 := rv2.length
    refine pyNext_zipS_end (I.ok.hd hc) Da q.zp q.ti q3 q.l q.r p p2 (by simp; omega) (by simp; omega) fun h' hk => ⟨rfl, I.turnedL (t' := s.toks) (ch := [z, TI, TO, i1, i2]) (fun c o hb e => ?_) hf⟩
    simp only [List.mem_cons, List.not_mem_nil, or_false, not_or] at hb
    exact hk c o hb.1 hb.2.2.1 hb.2.2.2.1 hb.2.2.2.2 e
  self := fun A i s Q E st h => pyIter_zipS st.zp h
section
variable {X : Cx} {E : XK}
theorem callWith_tyK {M : Model} {A : Around} {E : Value → Shared → Prop} {s : Shared} {env : PySem.Env} {pos : Pos} {T : String} {e : Expr} {rest : List Expr} {kws : List Keyword} {Q : Value → Shared → Prop}
    (hall : (backToKw pos (keywordEach kws env)).all (·.1.isSome) = true) (hn : (backToKw pos (keywordEach kws env)).any (·.1.isNone) = false)
    (h : wpAny M A (spliced (backTo pos (starEach (e :: rest) env))) (fun vs s1 => wpAny M A (evalAll ((backToKw pos (keywordEach kws env)).map (·.2))) (fun ks s2 => wpAny M A (call (.type T) vs (((backToKw pos (keywordEach kws env)).filterMap (·.1)).zip ks)) Q E s2) E s1) E s)
    (he : starEach (e :: rest) env = (false, eval e env) :: starEach rest env := by rfl) (hpl : (backTo pos (starEach rest env)).any (·.1) = false := by rfl) :
    wpAny M A (callWith pos (.type T) [] (backTo pos (starEach (e :: rest) env)) (backToKw pos (keywordEach kws env))) Q E s := by
  unfold callWith
  refine wpAny_bind (wpAny_holding (PyProof.Rows.evalArgs_kw2 hall (wpAny_mono h (fun vs s1 h1 => wpAny_mono h1 (fun ks s2 h2 => wpAny_bind (wpAny_standAt ?_)) fun _ _ x => x) fun _ _ x => x) he))
  have hp : (backTo pos (starEach (e :: rest) env)).any (·.1) = false := by
    rw [he]
    show (false || (backTo pos (starEach rest env)).any (·.1)) = false
    rw [hpl]
    rfl
  simp only [hp, hn, Bool.or_false]
  exact wpAny_bind (wpAny_pure (wpAny_bind (wpAny_mono h2 (fun r s3 hr => wpAny_bind (wpAny_holding (wpAny_point (wpAny_pure hr)))) fun _ _ x => x)))
def iZipS (K : PySem.W.Frag) (ta : TA) : TI := fun σ H R => ta σ H fun vs H1 => ∃ a b xs ys t1 t2, vs = [.ref a, .ref b] ∧ SqB K t1 H1 a xs ∧ SqB K t2 H1 b ys ∧ R (ItzS K t1 t2 a b) H1
theorem pi_zipS {e e2 : Expr} {ta : TA} {p pos tpos kp cp : Pos} {elts : List Expr} {kk ck : Nat} (hg : Gl X "zip") (hm : X.mg "zip" = none) (ha : PA X [e, e2] ta) (hs : starEach [e, e2] X.env = (false, eval e X.env) :: starEach [e2] X.env := by rfl) (hpl : (backTo pos (starEach [e2] X.env)).any (·.1) = false := by rfl) :
    PI X (.Tuple elts kk tpos) (.Call (.Name "zip" p) [e, e2] [⟨some "strict", .Constant (.bool true) ck cp, kp⟩] pos) (iZipS X.K ta) := by
  refine PI.mk fun pins s σ H R I h => ?_
  refine wpAny_Call_Name_kw (ld_blt I hg hm PyProof.Rows.boot_zip (callWith_tyK rfl rfl (thn (ha.run pos pins s σ H _ I h) fun us s1 ⟨vs, H1, I1, r1, q1⟩ => ?_) hs hpl))
  refine PyProof.Rows.kwAll_cons (PyProof.Rows.Constant_bool (PyProof.Rows.kwAll_nil ?_))
  obtain ⟨a, b, xs, ys, t1, t2, rfl, g1, g2, q⟩ := q1
  cases r1 with
  | cons r rr =>
    cases rr with
    | cons r' rr =>
      cases rr
      cases r
      cases r'
      obtain ⟨its, rv, p1, _⟩ := inv_sqB I1 g1
      obtain ⟨its2, rv2, p2, _⟩ := inv_sqB I1 g2
      refine call_zipS p1 p2 fun h' hz hTI hTO h1 h2 hsz hk => pyIter_zipS hz ?_
      refine ⟨s1.heap.objs.size + 4, [s1.heap.objs.size + 4, s1.heap.objs.size + 2, s1.heap.objs.size + 3, s1.heap.objs.size, s1.heap.objs.size + 1], _, _, H1, rfl, I1.kept (t' := s1.toks) hk, turn_zipS (PySem.W.ktu_apart s1.heap.objs.size a b p1.lt p2.lt), ⟨hz, hTI, ⟨_, _, hTO⟩, h1, h2⟩, fun c hcm => ?_, q⟩
      have up : s1.heap.objs.size ≤ c := by
        simp only [List.mem_cons, List.not_mem_nil, or_false] at hcm
        rcases hcm with e | e | e | e | e <;> rw [e] <;> first | exact Nat.le_refl _ | exact Nat.le_add_right _ _
      exact I1.fpOk up (I1.hok.fresh up)
/-- zip(a, b, strict=True) on data: of one length -/
def zipD : List D → List D → List D
  | x :: xs, y :: ys => .tuple [x, y] :: zipD xs ys
  | _, _ => []
theorem zipD_get : ∀ (xs ys : List D) (i : Nat) (d : D), (zipD xs ys)[i]? = some d → ∃ x y, xs[i]? = some x ∧ ys[i]? = some y ∧ d = .tuple [x, y]
  | [], _, _, _, h => by simp [zipD] at h
  | _ :: _, [], _, _, h => by simp [zipD] at h
  | x :: xs, y :: ys, 0, d, h => ⟨x, y, rfl, rfl, (Option.some.inj (show some _ = some d from h)).symm⟩
  | x :: xs, y :: ys, i + 1, d, h => zipD_get xs ys i d h
theorem zipD_len : ∀ (xs ys : List D), (zipD xs ys).length = min xs.length ys.length
  | [], _ => by simp [zipD]
  | _ :: _, [] => by simp [zipD]
  | x :: xs, y :: ys => by simp [zipD, zipD_len xs ys]
def zipStrictD : List D → Option Src
  | [a, b] => match itemsD a, itemsD b with
    | some xs, some ys => match Nat.beq xs.length ys.length with
      | true => some (constS (zipD xs ys))
      | false => none
    | _, _ => none
  | _ => none
def mZipStrict (f : Mo (List D)) : Mo Src := mRange zipStrictD f
theorem Rp.itemsB {K : PySem.W.Frag} {G : Hp} {v : V} {d : D} {ds : List D} (r : Rp K G v d) (h : itemsD d = some ds) : ∃ p xs t, v = .ref p ∧ SqB K t G p xs ∧ RpAll K G xs ds := by
  obtain ⟨p, xs, e, s, a⟩ := r.items h
  rcases s with s | s
  · exact ⟨p, xs, false, e, s, a⟩
  · exact ⟨p, xs, true, e, s, a⟩
theorem zip_ok {K : PySem.W.Frag} {G : Hp} {σ : St} {t1 t2 : Bool} {a b : Addr} {xs ys : List V} {ds es : List D} {js : List Nat} (g1 : SqB K t1 G a xs) (g2 : SqB K t2 G b ys) (r1 : RpAll K G xs ds) (r2 : RpAll K G ys es) (hl : ds.length = es.length) : ItOk K G σ (ItzS K t1 t2 a b) (constS (zipD ds es)) js := by
  intro i G2 ρ2 σ2 H2 items sg j _ e
  cases e
  have s1 : SqB K t1 H2 a xs := (g1.mono sg).mono j.sub
  have s2 : SqB K t2 H2 b ys := (g2.mono sg).mono j.sub
  have n1 := r1.length
  have n2 := r2.length
  refine ⟨fun d hd => ?_, fun hi => ⟨xs, ys, s1, s2, ?_, ?_⟩⟩
  · obtain ⟨x, y, hx, hy, rfl⟩ := zipD_get ds es i d hd
    obtain ⟨v, p1, p2⟩ := r1.get hx
    obtain ⟨u, p3, p4⟩ := r2.get hy
    refine ⟨⟨xs, ys, v, u, s1, s2, p1, p3⟩, fun z H3 yl => ?_⟩
    obtain ⟨T, x', y', o, rfl, hT, nd, rfl, f1, f2⟩ := yl
    have e1 := Option.some.inj ((f1 xs s1).symm.trans p1)
    have e2 := Option.some.inj ((f2 ys s2).symm.trans p3)
    subst e1 e2
    have px : PX G2 H2 _ _ := .alloc j.sub hT (.frz o (.tup [x', y']))
    exact ⟨_, px, .tup (.new nd) (.cons ((p2.mono sg).mono px.g) (.cons ((p4.mono sg).mono px.g) .nil))⟩
  · rw [zipD_len] at hi
    omega
  · rw [zipD_len] at hi
    omega
theorem iv_zipStrict {e e2 : Expr} {f : Mo (List D)} {p pos tpos kp cp : Pos} {elts : List Expr} {kk ck : Nat} (hm : X.mg "zip" = none) (ha : EA X E [e, e2] f) (hg : Gl X "zip" := by rfl) (hs : starEach [e, e2] X.env = (false, eval e X.env) :: starEach [e2] X.env := by rfl) (hpl : (backTo pos (starEach [e2] X.env)).any (·.1) = false := by rfl) :
    IV X E (.Tuple elts kk tpos) (.Call (.Name "zip" p) [e, e2] [⟨some "strict", .Constant (.bool true) ck cp, kp⟩] pos) (mZipStrict f) [] := by
  obtain ⟨t, pt, q⟩ := ha
  refine ⟨_, pi_zipS hg hm pt hs hpl, fun G ρ σ H R j h => q G ρ σ H _ j (PostI.imp h fun G1 ρ1 vs H1 ds e1 r1 h1 => ?_)⟩
  obtain ⟨src, hsr, k⟩ := PostI.lift h1
  match ds, hsr with
  | [d1, d2], hsr =>
    have hsr' : (match itemsD d1, itemsD d2 with
      | some xs, some ys => match Nat.beq xs.length ys.length with
        | true => some (constS (zipD xs ys))
        | false => none
      | _, _ => none) = some src := hsr
    cases hi1 : itemsD d1 with
    | none => simp only [hi1] at hsr'; cases hsr'
    | some xs =>
      cases hi2 : itemsD d2 with
      | none => simp only [hi1, hi2] at hsr'; cases hsr'
      | some ys =>
        simp only [hi1, hi2] at hsr'
        cases hb : Nat.beq xs.length ys.length with
        | false => rw [hb] at hsr'; cases hsr'
        | true =>
          rw [hb] at hsr'
          cases hsr'
          obtain ⟨x, y, rfl, ra, rb⟩ := r1.two
          obtain ⟨pa, vx, t1, rfl, sa, aa⟩ := ra.itemsB hi1
          obtain ⟨pb, vy, t2, rfl, sb, ab⟩ := rb.itemsB hi2
          exact ⟨pa, pb, vx, vy, t1, t2, rfl, sa.mono e1.j.sub, sb.mono e1.j.sub, k G1 H1 _ e1.j.refl (zip_ok sa sb aa ab (Nat.eq_of_beq_eq_true hb))⟩
theorem const_zipStrict {f : Mo (List D)} : ∀ ρ ρ' s, mZipStrict f ρ = some (.ok (ρ', s)) → Const s := by
  intro ρ ρ' s h
  unfold mZipStrict mRange mBind mLift at h
  cases e : f ρ with
  | none => simp only [e] at h; cases h
  | some o =>
    cases o with
    | error x => simp only [e] at h; cases h
    | ok p =>
      obtain ⟨ρ1, ds⟩ := p
      simp only [e] at h
      cases hi : zipStrictD ds with
      | none => simp only [hi] at h; cases h
      | some src =>
        simp only [hi] at h
        cases h
        unfold zipStrictD at hi
        split at hi
        · split at hi
          · split at hi
            · cases hi; exact fun _ => rfl
            · cases hi
          · cases hi
        · cases hi
end
end HB
namespace HB
open PySem L2
section
variable {prog : Program} {w : World} {A : Around} {E : Value → Shared → Prop} {s : Shared} {t : Bool}
theorem enum_item {e it l : Addr} {i : Nat} {its : Array Value} {x old : Value} {Q : Option Value → Shared → Prop} (hh : A.handled = none) (he : IsEnum s.heap e it i old) (hit : SIt t s.heap it l i) (hl : SIs t s.heap l its) (hx : its[i]? = some x) (hne : e ≠ it) (hel : e ≠ l) (hil : l ≠ it)
    (k : ∀ h' tk, IsEnumOut h' e it ((i : Int) + 1) x s.heap.objs.size → SIt t h' it l (i + 1) → h'.get? s.heap.objs.size = some { cls := .type "tuple", data := .seq #[.int i tk, x] } → h'.objs.size = s.heap.objs.size + 1 →
      (∀ b o, b ≠ e → b ≠ it → s.heap.get? b = some o → h'.get? b = some o) → Q (some (.ref s.heap.objs.size)) { s with heap := h', toks := tk + 1 }) : wpAny (model prog w) A (pyNext (.ref e)) Q E s := by
  have hlt : i < its.size := (Array.getElem?_eq_some_iff.mp hx).1
  have hef : e ∉ [it, l] := by simp [hne, hel]
  cases t
  · refine wpAny_pyNext_enum_itemD (Draws.tuple (A := A.in1) hh it l hil its) he ⟨hit, hl⟩ hlt hne hef fun y h' tk a b c d f g => ?_
    have e1 := Option.some.inj (hx.symm.trans a)
    subst e1
    exact k h' tk b c.1 d f g
  · refine wpAny_pyNext_enum_itemD (Draws.list (A := A.in1) hh it l hil its) he ⟨hit, hl⟩ hlt hne hef fun y h' tk a b c d f g => ?_
    have e1 := Option.some.inj (hx.symm.trans a)
    subst e1
    exact k h' tk b c.1 d f g
theorem SIs.at {h h' : Heap} {l : Addr} {its : Array Value} (x : SIs t h l its) (e : ∀ o, h.get? l = some o → h'.get? l = some o) : SIs t h' l its := by
  cases t
  · exact Heap.IsTuple.at x e
  · exact Heap.IsList.at x e
/-- an iterator at its end draws nothing -/
theorem drawsEnd {it l : Addr} {i : Nat} {its : Array Value} (hh : A.handled = none) (hx : its[i]? = none) : Draws prog w A it [it, l] 0 (fun _ _ => False) (fun _ h => SIt t h it l i ∧ SIs t h l its) where
  live := fun _ _ st => let ⟨o, e, _⟩ := st.1.obj; ⟨o, e⟩
  frame := fun _ _ _ st k => ⟨st.1.at (k it (by simp)), st.2.at (k l (by simp))⟩
  item := fun _ _ _ _ no => absurd no (Nat.not_lt_zero _)
  done := fun _ _ _ st k => nx_end hh st.1 st.2 hx k
theorem enum_end {e it l : Addr} {i : Nat} {c : Int} {its : Array Value} {old : Value} {Q : Option Value → Shared → Prop} (hh : A.handled = none) (he : IsEnum s.heap e it c old) (hit : SIt t s.heap it l i) (hl : SIs t s.heap l its) (hx : its[i]? = none)
    (k : ∀ h', Heap.ExtBut it s.heap h' → Q none { s with heap := h' }) : wpAny (model prog w) A (pyNext (.ref e)) Q E s := by
  exact wpAny_pyNext_enum_endD (drawsEnd (A := A.in1) hh hx) he ⟨hit, hl⟩ k
end
theorem meets_enumT (l : Addr) (its : Array Value) :
    Meets (Builtin.«enumerate.__new__» ⟨[.type "enumerate", .ref l], []⟩) (fun _ R s => s.heap.IsTuple l its ∧
      R (.ok (.ret (.ref (s.heap.push (itObj false l)).objs.size))) { s with heap := (s.heap.push (itObj false l)).push { cls := .type "enumerate", data := .fields #[.none, .bool false, .ref s.heap.objs.size, rawInt 0, .none, .none] } }) :=
  .of_wp fun prog w A R ⟨hp, g, d, tk, os⟩ ⟨a, h⟩ => by
    have hsub := F.called_enumerate.sub
    have b : Heap.IsTuple (Shared.heap ⟨hp, g, d, tk, os⟩) l its := a
    obtain ⟨ol, ho, hc, n, hd⟩ := id a
    wp_walk using AutoSeq1.wpAny_loadPart' ho
    apply wpAny_stack_any
    intro st
    apply wpAny_pure
    split
    · rename_i c _ _ _ _ _
      rcases Bool.eq_false_or_eq_true (c == Value.type "enumerate") with yes | yes <;> rw [yes]
      · wp_walk using AutoSeq1.wpAny_loadPart' ho, wpAny_pyIter_tuple b
        exact ⟨_, rfl, h⟩
      · wp_walk using AutoSeq1.wpAny_loadPart' ho, wpAny_pyIter_tuple b
        exact ⟨_, rfl, h⟩
    · wp_walk using AutoSeq1.wpAny_loadPart' ho, wpAny_pyIter_tuple b
      exact ⟨_, rfl, h⟩
section
variable {prog : Program} {w : World} {A : Around} {E : Value → Shared → Prop} {s : Shared} {t : Bool}
theorem call_enumB {l : Addr} {its : Array Value} {Q : Value → Shared → Prop} (hl : SIs t s.heap l its)
    (k : ∀ h', IsEnum h' (s.heap.objs.size + 1) s.heap.objs.size 0 .none → SIt t h' s.heap.objs.size l 0 → (∀ b o, s.heap.get? b = some o → h'.get? b = some o) → Q (.ref (s.heap.objs.size + 1)) { s with heap := h' }) : wpAny (model prog w) A (call (.type "enumerate") [.ref l]) Q E s := by
  cases t
  · refine callType_new F.called_enumerate (by decide) (F.typeCall_enumerate_1 _) (F.newCall_enumerate_1 _) (fun obj => F.args_object_init_2 obj _) F.entry_enumerate_new (meets_enumT l its) ⟨hl, ?_⟩
    have hz : (s.heap.push (itObj false l)).objs.size = s.heap.objs.size + 1 := Heap.size_push ..
    have he := Heap.get?_push_size (s.heap.push (itObj false l)) (o := { cls := .type "enumerate", data := .fields #[.none, .bool false, .ref s.heap.objs.size, rawInt 0, .none, .none] }) rfl
    show _ ∧ _
    rw [hz] at he ⊢
    exact ⟨⟨_, he, rfl⟩, k _ he ⟨_, Heap.get?_push_of_some _ (Heap.get?_push_size _ rfl), rfl, rfl⟩ fun b o x => Heap.get?_push_of_some _ (Heap.get?_push_of_some _ x)⟩
  · exact call_enumerate_list hl fun h' a b _ d => k h' a b d
end
def ItEn (K : PySem.W.Frag) (t : Bool) (a : Addr) : It :=
  ⟨fun i H => ∃ (xs : List V) (x : V), SqB K t H a xs ∧ xs[i]? = some x, fun i H v H' => ∃ T x o, v = .ref T ∧ H T = none ∧ o.dict = none ∧ H' = upd H T (.frz o (.tup [.int (i : Nat), x])) ∧ ∀ xs, SqB K t H a xs → xs[i]? = some x, fun i H => ∃ xs : List V, SqB K t H a xs ∧ xs.length ≤ i⟩
/-- how an enumerate stands ahead of its turn i -/
structure EnSt (t : Bool) (a e it : Addr) (i : Nat) (h : Heap) : Prop where
  en : ∃ old, IsEnum h e it ((i : Nat) : Int) old
  l : SIt t h it a i
theorem EnSt.all {t : Bool} {a e it : Addr} {i : Nat} {h : Heap} (q : EnSt t a e it i h) : ∀ c ∈ [e, it], ∃ o, h.get? c = some o ∧ ∀ v, o.data ≠ .cell v := by
  obtain ⟨old, he⟩ := q.en
  simp only [List.mem_cons, List.not_mem_nil, or_false, forall_eq_or_imp, forall_eq]
  exact ⟨⟨_, he, fun v z => nomatch z⟩, q.l.obj⟩
theorem EnSt.lt {t : Bool} {a e it c : Addr} {i : Nat} {h : Heap} (q : EnSt t a e it i h) (hc : c ∈ [e, it]) : c < h.objs.size := let ⟨_, z, _⟩ := q.all c hc; Heap.lt_size z
theorem turn_enumB {P : Program} {w : World} {K : PySem.W.Frag} {t : Bool} {elts : List Expr} {kk : Nat} {tpos : Pos} {a e it : Addr} (hne : e ≠ it) (hel : e ≠ a) (hil : a ≠ it) :
    Turn P w K (.Tuple elts kk tpos) (ItEn K t a) [e, it] e (EnSt t a e it) where
  mem := by simp
  obj := fun i h q => q.all
  keep := fun i h h' q k => ⟨let ⟨old, he⟩ := q.en; ⟨old, k e (by simp) _ he⟩, q.l.at fun o z => k it (by simp) o z⟩
  item := by
    intro X hP hw hK hc i pins s σ H E I hf q ⟨xs, x, hq, hx⟩
    subst hP hw hK
    obtain ⟨old, he⟩ := q.en
    have ⟨its, rv, p, hz⟩ := inv_sqB I hq
    have ⟨u, hu, ru⟩ := rv.get hx
    refine enum_item (I.ok.hd hc) he q.l p (x := u) (by simpa using hu) hne hel hil fun h' tk ho hit' hT hsz hk => ⟨_, rfl, ?_⟩
    refine wpAny_letOwnedTupleGo_enum (s := { s with heap := h', toks := tk + 1 }) ho fun g he' sb => ?_
    have same : ∀ c o, c ∉ [e, it] → s.heap.get? c = some o → g.get? c = some o := fun c o hb z => by
      simp only [List.mem_cons, List.not_mem_nil, or_false, not_or] at hb
      exact (sb.2 c hb.1).trans (hk c o hb.1 hb.2 z)
    have pr := (sb.2 _ (Nat.ne_of_gt (q.lt (by simp)))).trans hT
    have nw : ObjOk X.prog X.w (upd H s.heap.objs.size (.frz (tupO [.int i tk, u]) (.tup [.int (i : Nat), x]))) g s.heap.objs.size (.frz (tupO [.int i tk, u]) (.tup [.int (i : Nat), x])) := ⟨pr, by show 2 ≤ sizeLine; decide, [.int i tk, u], .cons ⟨_, rfl⟩ (.cons ru .nil), ⟨_, pr, rfl, _, rfl⟩⟩
    refine ⟨.ref s.heap.objs.size, _, I.turnedNew (t' := tk + 1) (ch := [e, it]) same hf (Nat.le_refl _) nw, rfl, ⟨_, x, _, rfl, I.hok.fresh (Nat.le_refl _), rfl, rfl, fun ys hy => by rw [inv_sqB_inj I hy hq]; exact hx⟩, ⟨⟨u, by rw [Int.natCast_succ]; exact he'⟩, hit'.at fun o z => (sb.2 it (Ne.symm hne)).trans z⟩, fun c hcm => ?_⟩
    exact (upd_ne (Nat.ne_of_lt (q.lt hcm))).trans (hf c hcm).1
  done := by
    intro X hP hw hK hc i pins s σ H E I hf q ⟨xs, hq, hx⟩
    subst hP hw hK
    obtain ⟨old, he⟩ := q.en
    have ⟨its, rv, p, hz⟩ := inv_sqB I hq
    have fi := hf it (by simp)
    have hl := rv.length
    exact enum_end (I.ok.hd hc) he q.l p (by simp; omega) fun h' eb => ⟨rfl, I.turned (t' := s.toks) (fun b o hb z => eb b o hb z) fi.1 fi.2.1 fi.2.2.2.1 fi.2.2.2.2.1 fi.2.2.2.2.2⟩
  self := fun A i s Q E st h => let ⟨_, he⟩ := st.en; wpAny_pyIter_enum he h
def enumD (n : Nat) : List D → List D
  | [] => []
  | d :: ds => .tuple [.int n, d] :: enumD (n + 1) ds
theorem enumD_get : ∀ (ds : List D) (n i : Nat) (d : D), (enumD n ds)[i]? = some d → ∃ x, ds[i]? = some x ∧ d = .tuple [.int ((n + i : Nat) : Int), x]
  | [], _, _, _, h => by simp [enumD] at h
  | x :: ds, n, 0, d, h => ⟨x, rfl, by cases h; rfl⟩
  | x :: ds, n, i + 1, d, h => by
    obtain ⟨y, h1, h2⟩ := enumD_get ds (n + 1) i d h
    exact ⟨y, h1, by rw [h2, show n + 1 + i = n + (i + 1) by omega]⟩
theorem enumD_len : ∀ (ds : List D) (n : Nat), (enumD n ds).length = ds.length
  | [], _ => rfl
  | _ :: ds, n => congrArg (· + 1) (enumD_len ds (n + 1))
section
variable {X : Cx} {E : XK}
def iEnumB (K : PySem.W.Frag) (ta : TA) : TI := fun σ H R => ta σ H fun vs H1 => ∃ a xs t, vs = [.ref a] ∧ SqB K t H1 a xs ∧ R (ItEn K t a) H1
theorem pi_enumB {e : Expr} {ta : TA} {p pos tpos : Pos} {elts : List Expr} {kk : Nat} (hg : Gl X "enumerate") (hm : X.mg "enumerate" = none) (ha : PA X [e] ta) (hs : starEach [e] X.env = (false, eval e X.env) :: starEach [] X.env := by rfl) (hpl : (backTo pos (starEach [] X.env)).any (·.1) = false := by rfl) :
    PI X (.Tuple elts kk tpos) (.Call (.Name "enumerate" p) [e] [] pos) (iEnumB X.K ta) := by
  refine PI.mk fun pins s σ H R I h => ?_
  refine PyProof.Rows.Call_ (ld_blt I hg hm PyProof.Rows.boot_enumerate (PyProof.Rows.callWith_type1 (thn (ha.run pos pins s σ H _ I h) fun us s1 ⟨vs, H1, I1, r1, q1⟩ => ?_) hs hpl))
  obtain ⟨a, xs, t, rfl, hq, q⟩ := q1
  cases r1 with
  | cons r rr =>
    cases rr
    cases r
    obtain ⟨its, rv, p', hz⟩ := inv_sqB I1 hq
    refine call_enumB p' fun h' he hit hk => wpAny_pyIter_enum he ?_
    refine ⟨s1.heap.objs.size + 1, [s1.heap.objs.size + 1, s1.heap.objs.size], _, _, H1, rfl, I1.kept (t' := s1.toks) hk, turn_enumB (Nat.succ_ne_self _) (Nat.ne_of_gt (Nat.lt_succ_of_lt p'.lt)) (Nat.ne_of_lt p'.lt), ⟨⟨.none, he⟩, hit⟩, fun c hcm => ?_, q⟩
    have up : s1.heap.objs.size ≤ c := by
      simp only [List.mem_cons, List.not_mem_nil, or_false] at hcm
      rcases hcm with z | z <;> rw [z] <;> first | exact Nat.le_refl _ | exact Nat.le_add_right _ _
    exact I1.fpOk up (I1.hok.fresh up)
theorem enum_ok {K : PySem.W.Frag} {G : Hp} {σ : St} {t : Bool} {a : Addr} {xs : List V} {ds : List D} {js : List Nat} (h : SqB K t G a xs) (r : RpAll K G xs ds) : ItOk K G σ (ItEn K t a) (constS (enumD 0 ds)) js := by
  intro i G2 ρ2 σ2 H2 items sg j _ e
  cases e
  have hs : SqB K t H2 a xs := (h.mono sg).mono j.sub
  refine ⟨fun d hd => ?_, fun hi => ⟨xs, hs, by rw [r.length]; rw [enumD_len] at hi; exact hi⟩⟩
  obtain ⟨x, hx, rfl⟩ := enumD_get ds 0 i d hd
  obtain ⟨v, h1, h2⟩ := r.get hx
  refine ⟨⟨xs, v, hs, h1⟩, fun z H3 y => ?_⟩
  obtain ⟨T, x', o, rfl, hT, nd, rfl, y⟩ := y
  have e := Option.some.inj ((y xs hs).symm.trans h1)
  subst e
  have px : PX G2 H2 _ _ := .alloc j.sub hT (.frz o (.tup [.int (i : Nat), x']))
  exact ⟨_, px, .tup (.new nd) (.cons (by rw [Nat.zero_add]; exact .int _) (.cons ((h2.mono sg).mono px.g) .nil))⟩
def mEnum (f : Mo D) : Mo Src := mBind f fun d => mLift ((itemsD d).map fun ds => constS (enumD 0 ds))
theorem iv_enum {e : Expr} {f : Mo D} {p pos tpos : Pos} {elts : List Expr} {kk : Nat} (hm : X.mg "enumerate" = none) (h : EV X E e f) (hg : Gl X "enumerate" := by rfl) (hs : starEach [e] X.env = (false, eval e X.env) :: starEach [] X.env := by rfl) (hpl : (backTo pos (starEach [] X.env)).any (·.1) = false := by rfl) :
    IV X E (.Tuple elts kk tpos) (.Call (.Name "enumerate" p) [e] [] pos) (mEnum f) [] := by
  obtain ⟨t, pt, q⟩ := h
  refine ⟨_, pi_enumB hg hm (pa_cons pt pa_nil hs) hs hpl, fun G ρ σ H R j h => q G ρ σ H _ j (PostI.imp h fun G1 ρ1 v H1 d e1 r1 h1 => ?_)⟩
  obtain ⟨src, hsr, k⟩ := PostI.lift h1
  cases hi : itemsD d with
  | none => rw [hi] at hsr; cases hsr
  | some ds =>
    rw [hi] at hsr
    cases hsr
    obtain ⟨p0, xs, t, rfl, s0, r0⟩ := r1.itemsB hi
    exact ⟨p0, xs, t, rfl, s0.mono e1.j.sub, k G1 H1 _ e1.j.refl (enum_ok s0 r0)⟩
theorem const_enum {f : Mo D} : ∀ ρ ρ' s, mEnum f ρ = some (.ok (ρ', s)) → Const s := by
  intro ρ ρ' s h
  unfold mEnum mBind mLift at h
  cases e : f ρ with
  | none => simp only [e] at h; cases h
  | some o =>
    cases o with
    | error x => simp only [e] at h; cases h
    | ok p =>
      obtain ⟨ρ1, d⟩ := p
      simp only [e] at h
      cases hi : itemsD d with
      | none => simp only [hi, Option.map] at h; cases h
      | some ds =>
        simp only [hi, Option.map] at h
        cases h
        exact fun _ => rfl
def enumOS (j : Nat) : Src := fun ρ => match ρ[j]? with
  | some (.own ds) => some (enumD 0 ds)
  | _ => none
inductive Tm where
  | p (d : D)
  | o (ds : List D)
/-- new lists among them are nobody else's, and apart -/
def RT (K : PySem.W.Frag) (H0 G H : Hp) (ρ : En) (σ : St) : List V → List Tm → Prop
  | [], [] => True
  | v :: vs, .p d :: ts => Rp K G v d ∧ RT K H0 G H ρ σ vs ts
  | v :: vs, .o ds :: ts => (∃ a us, v = .ref a ∧ H0 a = none ∧ G a = none ∧ H a = some (.lst us) ∧ ¬ Ownd ρ σ a ∧ RpAll K G us ds ∧ ∀ (i : Nat) es, ts[i]? = some (.o es) → vs[i]? ≠ some (.ref a)) ∧ RT K H0 G H ρ σ vs ts
  | _, _ => False
def PostX (K : PySem.W.Frag) (E : XK) (G : Hp) (ρ : En) (σ : St) (H : Hp) (Q : List V → Hp → Prop) : Option (Except Exn (En × List Tm)) → Prop
  | none => False
  | some (.error x) => ∀ C dx H', XP K G ρ σ H x C dx H' → E C dx H'
  | some (.ok (ρ', ts)) => ∀ G' vs H', Ex K G ρ σ H G' ρ' σ H' → RT K H G' H' ρ' σ vs ts → Q vs H'
def EX (X : Cx) (E : XK) (es : List Expr) (f : Mo (List Tm)) : Prop := ∃ t, PA X es t ∧ ∀ G ρ σ H Q, J X.K G ρ σ H → PostX X.K E G ρ σ H Q (f ρ) → t σ H Q
def xNil : Mo (List Tm) := mRet []
def xConsP (a : Mo D) (r : Mo (List Tm)) : Mo (List Tm) := mBind a fun d => mBind r fun ts => mRet (.p d :: ts)
def xConsO (a : Mo (List D)) (r : Mo (List Tm)) : Mo (List Tm) := mBind a fun ds => mBind r fun ts => mRet (.o ds :: ts)
theorem ex_nil : EX X E [] xNil := ⟨_, pa_nil, fun G ρ σ H Q j h => h G [] H j.refl trivial⟩
theorem RT.dom {K : PySem.W.Frag} {H0 H1 G H : Hp} {ρ : En} {σ : St} (d : ∀ a, H1 a = none → H0 a = none) : ∀ {vs : List V} {ts : List Tm}, RT K H1 G H ρ σ vs ts → RT K H0 G H ρ σ vs ts
  | [], [], _ => trivial
  | v :: vs, .p e :: ts, h => ⟨h.1, RT.dom d h.2⟩
  | v :: vs, .o es :: ts, h => by
    obtain ⟨⟨a, us, h1, h2, h3⟩, h4⟩ := h
    exact ⟨⟨a, us, h1, d a h2, h3⟩, RT.dom d h4⟩
theorem RT.fresh {K : PySem.W.Frag} {H0 G H : Hp} {ρ : En} {σ : St} : ∀ {vs : List V} {ts : List Tm} (i : Nat) {es : List D} {b : Addr}, RT K H0 G H ρ σ vs ts → ts[i]? = some (.o es) → vs[i]? = some (.ref b) → H0 b = none
  | [], [], _, _, _, _, h, _ => by simp at h
  | v :: vs, .p e :: ts, 0, _, _, _, h, _ => by cases h
  | v :: vs, .p e :: ts, i + 1, _, _, h, h1, h2 => RT.fresh i h.2 h1 h2
  | v :: vs, .o e :: ts, 0, _, b, h, h1, h2 => by
    obtain ⟨⟨a, us, z1, z2, _⟩, _⟩ := h
    have e2 : v = .ref b := Option.some.inj h2
    rw [e2] at z1
    cases z1
    exact z2
  | v :: vs, .o e :: ts, i + 1, _, _, h, h1, h2 => RT.fresh i h.2 h1 h2
theorem ex_consP {e : Expr} {es : List Expr} {f : Mo D} {g : Mo (List Tm)} (h : EV X E e f) (hr : EX X E es g) (hs : starEach (e :: es) X.env = (false, eval e X.env) :: starEach es X.env := by rfl) : EX X E (e :: es) (xConsP f g) := by
  obtain ⟨t, p, q⟩ := h
  obtain ⟨t2, p2, q2⟩ := hr
  refine ⟨_, pa_cons p p2 hs, fun G ρ σ H Q j h => q G ρ σ H _ j ?_⟩
  unfold xConsP mBind at h
  cases h1 : f ρ with
  | none => simp only [h1] at h; exact h
  | some r1 =>
    cases r1 with
    | error x => simp only [h1] at h; exact h
    | ok pr =>
      obtain ⟨ρ1, d⟩ := pr
      simp only [h1] at h
      intro G1 v H1 e1 rv
      refine q2 G1 ρ1 σ H1 _ e1.j ?_
      cases h2 : g ρ1 with
      | none => simp only [h2] at h; exact h
      | some r2 =>
        cases r2 with
        | error x => simp only [h2] at h; exact fun C dx H' z => h C dx H' (XP.trans e1 z)
        | ok pr2 =>
          obtain ⟨ρ2, ts⟩ := pr2
          simp only [h2] at h
          exact fun G2 vs H2 e2 rt => h G2 (v :: vs) H2 (e1.trans e2) ⟨rv.mono e2.g, rt.dom e1.dom⟩
theorem ex_consO {e : Expr} {es : List Expr} {f : Mo (List D)} {g : Mo (List Tm)} (h : EN X E e f) (hr : EX X E es g) (hs : starEach (e :: es) X.env = (false, eval e X.env) :: starEach es X.env := by rfl) : EX X E (e :: es) (xConsO f g) := by
  obtain ⟨t, p, q⟩ := h
  obtain ⟨t2, p2, q2⟩ := hr
  refine ⟨_, pa_cons p p2 hs, fun G ρ σ H Q j h => q G ρ σ H _ j ?_⟩
  unfold xConsO mBind at h
  cases h1 : f ρ with
  | none => simp only [h1] at h; exact h
  | some r1 =>
    cases r1 with
    | error x => simp only [h1] at h; exact h
    | ok pr =>
      obtain ⟨ρ1, ds⟩ := pr
      simp only [h1] at h
      intro G1 v H1 e1 rv
      obtain ⟨a, us, rfl, z1, z2, z3, no, z4⟩ := rv
      refine q2 G1 ρ1 σ H1 _ e1.j ?_
      cases h2 : g ρ1 with
      | none => simp only [h2] at h; exact h
      | some r2 =>
        cases r2 with
        | error x => simp only [h2] at h; exact fun C dx H' z => h C dx H' (XP.trans e1 z)
        | ok pr2 =>
          obtain ⟨ρ2, ts⟩ := pr2
          simp only [h2] at h
          intro G2 vs H2 e2 rt
          refine h G2 (.ref a :: vs) H2 (e1.trans e2) ⟨⟨a, us, rfl, z1, ?_, e2.kept a _ z3 no, ?_, z4.mono e2.g, fun i es hi hv => ?_⟩, rt.dom e1.dom⟩
          · cases y : G2 a with
            | none => rfl
            | some o =>
              rcases e2.new a (by rw [y]; simp) with w1 | w1 | w1
              · exact absurd z2 w1
              · rw [z3] at w1; cases w1
              · exact absurd w1 no
          · intro w1
            rcases e2.ow a w1 with w2 | w2
            · exact no w2
            · rw [z3] at w2; cases w2
          · have w1 := rt.fresh i hi hv
            rw [z3] at w1
            cases w1
/-- one of them to its name -/
def slOf : Tm → Sl
  | .p d => .pur d
  | .o ds => .own ds
theorem ownd_set {ρ : En} {σ : St} {i : Nat} {s : Sl} {v : V} {b : Addr} (h : Ownd (ρ.set i s) (σ.set i (some v)) b) : Ownd ρ σ b ∨ ((∃ ds, s.hs = some ds) ∧ v = .ref b) := by
  obtain ⟨k, s0, es, q1, hl, q2⟩ := h
  rcases getElem?_set_cases q1 with ⟨e1, e2⟩ | ⟨e1, e2⟩
  · rcases getElem?_set_cases q2 with ⟨_, e4⟩ | ⟨e3, _⟩
    · exact .inr ⟨⟨es, by rw [← e2]; exact hl⟩, (Option.some.inj e4).symm⟩
    · exact absurd e1 e3
  · rw [List.getElem?_set_ne (Ne.symm e1)] at q2
    exact .inl ⟨k, s0, es, e2, hl, q2⟩
theorem RT.no {K : PySem.W.Frag} {H0 G H : Hp} {ρ ρ1 : En} {σ σ1 : St} : ∀ {vs : List V} {ts : List Tm} (_ : ∀ b, Ownd ρ1 σ1 b → Ownd ρ σ b ∨ ∀ (i : Nat) es, ts[i]? = some (.o es) → vs[i]? ≠ some (.ref b)), RT K H0 G H ρ σ vs ts → RT K H0 G H ρ1 σ1 vs ts
  | [], [], _, _ => trivial
  | v :: vs, .p e :: ts, n, h => ⟨h.1, RT.no (fun b hb => (n b hb).imp id fun z i es q => z (i + 1) es q) h.2⟩
  | v :: vs, .o es :: ts, n, h => by
    obtain ⟨⟨a, us, h1, h2, h3, h4, h5, h6⟩, h7⟩ := h
    refine ⟨⟨a, us, h1, h2, h3, h4, fun z => ?_, h6⟩, RT.no (fun b hb => (n b hb).imp id fun z i es q => z (i + 1) es q) h7⟩
    rcases n a z with w | w
    · exact h5 w
    · exact w 0 es rfl (congrArg some h1)
theorem RT.put {K : PySem.W.Frag} {G H G' H' : Hp} {ρ ρ' : En} {σ σ' : St} {v : V} {vs : List V} {tm : Tm} {ts : List Tm} (e : Ex K G ρ σ H G' ρ' σ' H') (i : Nat) (r : RT K H G' H' ρ' σ' (v :: vs) (tm :: ts)) :
    Ex K G ρ σ H G' (ρ'.set i (slOf tm)) (σ'.set i (some v)) H' ∧ RT K H G' H' (ρ'.set i (slOf tm)) (σ'.set i (some v)) vs ts := by
  cases tm with
  | p d =>
    obtain ⟨h1, h2⟩ := r
    refine ⟨e.trans (Ex.set e.j i h1), RT.no (fun b hb => ?_) h2⟩
    rcases ownd_set hb with z | ⟨⟨_, z⟩, _⟩
    · exact .inl z
    · cases z
  | o ds =>
    obtain ⟨⟨a, us, h1, h2, h3, h4, h5, h6, h7⟩, h8⟩ := r
    refine ⟨e.setOwn i ⟨a, us, h1, h2, h3, h4, h5, h6⟩, RT.no (fun b hb => ?_) h8⟩
    rcases ownd_set hb with z | ⟨_, z⟩
    · exact .inl z
    · have e3 : a = b := by rw [h1] at z; exact V.ref.inj z
      subst e3
      exact .inr h7
theorem RT.nil {K : PySem.W.Frag} {H0 G H : Hp} {ρ : En} {σ : St} {vs : List V} (h : RT K H0 G H ρ σ vs []) : vs = [] := by
  cases vs with
  | nil => rfl
  | cons v vs => exact h.elim
theorem RT.cons {K : PySem.W.Frag} {H0 G H : Hp} {ρ : En} {σ : St} {vs : List V} {t : Tm} {ts : List Tm} (h : RT K H0 G H ρ σ vs (t :: ts)) : ∃ v ws, vs = v :: ws := by
  cases vs with
  | nil => cases t <;> exact h.elim
  | cons v vs => exact ⟨_, _, rfl⟩
def sPar2 (i j : Nat) (f : Mo (List Tm)) : Mo Fl := mBind f fun ts ρ => match ts with
  | [x, y] => some (.ok ((ρ.set i (slOf x)).set j (slOf y), .nx))
  | _ => none
def sPar3 (i j k : Nat) (f : Mo (List Tm)) : Mo Fl := mBind f fun ts ρ => match ts with
  | [x, y, z] => some (.ok (((ρ.set i (slOf x)).set j (slOf y)).set k (slOf z), .nx))
  | _ => none
theorem s_par2 {i j : Nat} {x y : Str} {a b : Expr} {f : Mo (List Tm)} {px py pt : Pos} {kt k2 : Nat} {pt2 pos : Pos} (hc : X.calm = true) (hN : X.N.Nodup) (h : EX X E [a, b] f) (hi : X.N[i]? = some x := by rfl) (hj : X.N[j]? = some y := by rfl) (hij : i ≠ j := by decide)
    (hx : X.env.scope.names.lookup x = some .local := by rfl) (hy : X.env.scope.names.lookup y = some .local := by rfl) (hw : swappedStores [.Tuple [.Name x px, .Name y py] kt pt] (.Tuple [a, b] k2 pt2) X.env = pure (some [x, y]) := by rfl) :
    SV X E (.Assign [.Tuple [.Name x px, .Name y py] kt pt] (.Tuple [a, b] k2 pt2) pos) (sPar2 i j f) := by
  obtain ⟨t, p, q⟩ := h
  refine ⟨_, ps_par hc hN hi hj hij hx hy p hw, fun G ρ σ H De jj h => q G ρ σ H _ jj ?_⟩
  unfold sPar2 mBind at h
  match hh : f ρ, h with
  | none, h => exact h.elim
  | some (.error x), h => exact h
  | some (.ok (ρ1, [t1, t2])), h =>
    intro G1 vs H1 e1 r1
    obtain ⟨v1, vs, rfl⟩ := r1.cons
    obtain ⟨e2, r2⟩ := RT.put e1 i r1
    obtain ⟨v2, vs, rfl⟩ := r2.cons
    obtain ⟨e3, r3⟩ := RT.put e2 j r2
    cases r3.nil
    exact ⟨v1, v2, rfl, h G1 _ H1 e3⟩
  | some (.ok (ρ1, [])), h => exact h.elim
  | some (.ok (ρ1, [_])), h => exact h.elim
  | some (.ok (ρ1, _ :: _ :: _ :: _)), h => exact h.elim
theorem s_par3 {i j l : Nat} {x y z : Str} {a b c : Expr} {f : Mo (List Tm)} {px py pz pt : Pos} {kt k2 : Nat} {pt2 pos : Pos} (hc : X.calm = true) (hN : X.N.Nodup) (h : EX X E [a, b, c] f) (hi : X.N[i]? = some x := by rfl) (hj : X.N[j]? = some y := by rfl) (hl : X.N[l]? = some z := by rfl) (hij : i ≠ j := by decide) (hil : i ≠ l := by decide) (hjl : j ≠ l := by decide)
    (hx : X.env.scope.names.lookup x = some .local := by rfl) (hy : X.env.scope.names.lookup y = some .local := by rfl) (hz : X.env.scope.names.lookup z = some .local := by rfl) (hw : swappedStores [.Tuple [.Name x px, .Name y py, .Name z pz] kt pt] (.Tuple [a, b, c] k2 pt2) X.env = pure (some [x, y, z]) := by rfl) :
    SV X E (.Assign [.Tuple [.Name x px, .Name y py, .Name z pz] kt pt] (.Tuple [a, b, c] k2 pt2) pos) (sPar3 i j l f) := by
  obtain ⟨t, p, q⟩ := h
  refine ⟨_, ps_par3 hc hN hi hj hl hij hil hjl hx hy hz p hw, fun G ρ σ H De jj h => q G ρ σ H _ jj ?_⟩
  unfold sPar3 mBind at h
  match hh : f ρ, h with
  | none, h => exact h.elim
  | some (.error x), h => exact h
  | some (.ok (ρ1, [t1, t2, t3])), h =>
    intro G1 vs H1 e1 r1
    obtain ⟨v1, vs, rfl⟩ := r1.cons
    obtain ⟨e2, r2⟩ := RT.put e1 i r1
    obtain ⟨v2, vs, rfl⟩ := r2.cons
    obtain ⟨e3, r3⟩ := RT.put e2 j r2
    obtain ⟨v3, vs, rfl⟩ := r3.cons
    obtain ⟨e4, r4⟩ := RT.put e3 l r3
    cases r4.nil
    exact ⟨v1, v2, v3, rfl, h G1 _ H1 e4⟩
  | some (.ok (ρ1, [])), h => exact h.elim
  | some (.ok (ρ1, [_])), h => exact h.elim
  | some (.ok (ρ1, [_, _])), h => exact h.elim
  | some (.ok (ρ1, _ :: _ :: _ :: _ :: _)), h => exact h.elim
def rSubB : R2 := fun x y H Q => ∃ a b : Bool, x = .bl a ∧ y = .bl b ∧ Q (.int (PyProof.Rows.b2i a - PyProof.Rows.b2i b)) H
theorem op_subB : OpR X (binaryOp .Sub) rSubB := fun pins s σ H x y v u Q I rx ry ⟨a, b, ex, ey, q⟩ => by
  subst ex ey
  rw [show v = Value.bool a from rx, show u = Value.bool b from ry]
  exact PyProof.Rows.sub_bool ⟨.int _, H, I.tok _, ⟨_, rfl⟩, q⟩
def b2n : Bool → Int
  | true => 1
  | false => 0
def subBD : D → D → Option D
  | .bool a, .bool b => some (.int (b2n a - b2n b))
  | _, _ => none
theorem b2i_n (a : Bool) : PyProof.Rows.b2i a = b2n a := by cases a <;> rfl
theorem dop_subB : DOp X (binaryOp .Sub) subBD := by
  refine ⟨_, op_subB, fun G H x y a b c Q s hx hy h k => ?_⟩
  cases hx with
  | bl i => cases hy with
    | bl j => cases h; exact ⟨i, j, rfl, rfl, by rw [b2i_n, b2i_n]; exact k G _ H (.refl s) (.int _)⟩
    | _ => cases h
  | _ => cases h
theorem hu65 {k : Nat} {A : Around} (r : Room k A) : A.units + 65 < cLine := by have := r.un; omega
def fuelInt (i : Nat) : En → Nat := fun ρ => match ρ[i]? with
  | some (Sl.pur (.int j)) => j.toNat + 1
  | _ => 0
theorem pass_own {P : Program} {w : World} {K : PySem.W.Frag} {mg : Str → Option Value} {base : Heap} {N : List Str} {qual : Str} {scope : Scope} {f : Addr} {cd : Value} {A : Around} {outer : List PySem.Env} {s : Shared} {H : Hp} {E : XK} :
    PassesOwn (model P w) (cxOf (L2.CX P w) P w K mg base N qual scope f cd A outer s H E).A (cxOf (L2.CX P w) P w K mg base N qual scope f cd A outer s H E).env (cxOf (L2.CX P w) P w K mg base N qual scope f cd A outer s H E).xe := passes_of rfl
end
end HB
namespace HB
open PySem L2
section
variable {X : Cx} {E : XK}
theorem J.up {K : PySem.W.Frag} {G H H' : Hp} {ρ : En} {σ : St} (j : J K G ρ σ H) (s : SameT H H') : PX G H G H' := ⟨s.toSame, .refl _, j.sub.toSame.trans s.toSame, fun _ z => .inl z, s.g⟩
def EJ (X : Cx) (E : XK) (es : List Expr) (f : Str → Mo Str) : Prop := ∃ ts, PJ X es ts ∧ ∀ acc G ρ σ H (Q : Str → Hp → Prop), J X.K G ρ σ H → Post X.K E (fun _ (b c : Str) => b = c) G ρ σ H Q (f acc ρ) → tJs ts acc σ H Q
def strApp (acc : Str) : D → Option Str
  | .str y => if (acc ++ y).length ≤ 1000000 then some (acc ++ y) else none
  | _ => none
def jNil : Str → Mo Str := fun acc => mRet acc
def jCons (a : Mo D) (r : Str → Mo Str) : Str → Mo Str := fun acc => mBind a fun d => mBind (mLift (strApp acc d)) r
theorem ej_nil : EJ X E [] jNil := ⟨_, .nil, fun acc G ρ σ H Q j h => h G acc H j.refl rfl⟩
theorem ej_cons {e : Expr} {es : List Expr} {f : Mo D} {g : Str → Mo Str} (h : EV X E e f) (hr : EJ X E es g) : EJ X E (e :: es) (jCons f g) := by
  obtain ⟨t, p, q⟩ := h
  obtain ⟨ts, p2, q2⟩ := hr
  refine ⟨_, .cons p p2, fun acc G ρ σ H Q j h => q G ρ σ H _ j (Post.imp h fun G1 ρ1 v H1 d e1 r1 h1 => ?_)⟩
  unfold mBind mLift at h1
  cases hd : strApp acc d with
  | none => simp only [hd] at h1; exact h1.elim
  | some z =>
    simp only [hd] at h1
    cases r1 with
    | str y =>
      obtain ⟨h3, h4⟩ := ite_some (show (if (acc ++ y).length ≤ 1000000 then some (acc ++ y) else none) = some z from hd)
      subst h4
      exact ⟨y, rfl, line_of h3, q2 _ G1 ρ1 σ H1 Q e1.j h1⟩
    | _ => cases hd
def mJoined (f : Str → Mo Str) : Mo D := mBind (f Str.empty) fun x => mRet (.str x)
theorem ev_joined {v1 v2 : Expr} {rest : List Expr} {f : Str → Mo Str} {pos : Pos} (h : EJ X E (v1 :: v2 :: rest) f) : EV X E (.JoinedStr (v1 :: v2 :: rest) pos) (mJoined f) := by
  obtain ⟨ts, p, q⟩ := h
  refine ⟨_, pe_joined p, fun G ρ σ H Q j h => q Str.empty G ρ σ H _ j ?_⟩
  unfold mJoined mBind at h
  cases hf : f Str.empty ρ with
  | none => simp only [hf] at h; exact h
  | some r =>
    simp only [hf] at h
    cases r with
    | error x => exact h
    | ok pr =>
      obtain ⟨ρ1, y⟩ := pr
      exact fun G1 v H1 e1 r1 => by
        subst r1
        exact h G1 _ H1 e1 (.str _)
theorem ev_joined1 {e : Expr} {f : Mo D} {pos : Pos} (h : EV X E e f) : EV X E (.JoinedStr [e] pos) f := let ⟨t, p, q⟩ := h; ⟨t, pe_joined1 p, q⟩
def fmtD : D → Option D
  | .str y => if y.length ≤ 1000000 then some (.str y) else none
  | .int i => if i.natAbs.log2 < 1920 then some (.str (toString i)) else none
  | _ => none
theorem ev_fmt {e : Expr} {f : Mo D} {pos : Pos} (h : EV X E e f) : EV X E (.FormattedValue e (-1) none pos) (mUn fmtD f) := by
  obtain ⟨t, p, q⟩ := h
  refine ⟨_, pe_fmt p, fun G ρ σ H Q j h => q G ρ σ H _ j (Post.imp h fun G1 ρ1 v H1 d e1 r1 h1 => ?_)⟩
  obtain ⟨y, hy, k⟩ := Post.lift (ρ' := ρ1) h1
  cases r1 with
  | str z =>
    obtain ⟨h3, h4⟩ := ite_some (show (if z.length ≤ 1000000 then some (PyData.str z) else none) = some y from hy)
    subst h4
    exact .inl ⟨z, rfl, line_of h3, k G1 _ H1 e1.j.refl (.str _)⟩
  | int i =>
    obtain ⟨h3, h4⟩ := ite_some (show (if i.natAbs.log2 < 1920 then some (PyData.str (toString i)) else none) = some y from hy)
    subst h4
    exact .inr ⟨i, rfl, h3, k G1 _ H1 e1.j.refl (.str _)⟩
  | _ => cases hy
def strsD : List D → Option (List Str)
  | [] => some []
  | .str x :: r => (strsD r).map (x :: ·)
  | _ :: _ => none
theorem RpAll.strs {K : PySem.W.Frag} {G : Hp} : ∀ {xs : List V} {ds : List D} {bs : List Str}, RpAll K G xs ds → strsD ds = some bs → xs = bs.map V.str
  | _, [], _, .nil, h => by cases h; rfl
  | _, .str b :: r, bs, .cons h t, e => by
    cases h
    have e' : (strsD r).map (b :: ·) = some bs := e
    cases q : strsD r with
    | none => rw [q] at e'; cases e'
    | some cs =>
      rw [q] at e'
      cases e'
      rw [t.strs q]
      rfl
  | _, .none :: r, bs, _, e => by cases e
  | _, .bool _ :: r, bs, _, e => by cases e
  | _, .int _ :: r, bs, _, e => by cases e
  | _, .list _ :: r, bs, _, e => by cases e
  | _, .tuple _ :: r, bs, _, e => by cases e
  | _, .dict _ :: r, bs, _, e => by cases e
def mM1 (f : Str → D → Option D) (a b : Mo D) : Mo D := mBind a fun x => match x with
  | .str s => mBind b fun y => mLift (f s y)
  | _ => fun _ => none
theorem m1_sem {r : V → List V → Hp → VK → Prop} {t t2 : TE} {f : Str → D → Option D} {fo fe : Mo D} (q : ∀ G ρ σ H Q, J X.K G ρ σ H → Post X.K E (Rp X.K) G ρ σ H Q (fo ρ) → t σ H Q) (q2 : ∀ G ρ σ H Q, J X.K G ρ σ H → Post X.K E (Rp X.K) G ρ σ H Q (fe ρ) → t2 σ H Q)
    (k : ∀ G H a y d c (Q : VK), Same G H → Rp X.K G y d → f a d = some c → (∀ G' v H', PX G H G' H' → Rp X.K G' v c → Q v H') → r (.str a) [y] H Q) :
    ∀ G ρ σ H Q, J X.K G ρ σ H → Post X.K E (Rp X.K) G ρ σ H Q (mM1 f fo fe ρ) → tM1 r t t2 σ H Q := by
  intro G ρ σ H Q j h
  refine q G ρ σ H _ j (Post.imp h fun G1 ρ1 v H1 d e1 r1 h1 => ?_)
  cases r1 with
  | str a =>
    refine ⟨⟨a, rfl⟩, q2 G1 ρ1 σ H1 _ e1.j (Post.imp h1 fun G2 ρ2 y H2 d2 e2 r2 h2 => ?_)⟩
    obtain ⟨c, hc, k2⟩ := Post.lift (ρ' := ρ2) h2
    exact k G2 H2 a y d2 c Q e2.j.sub r2 hc fun G' v H' px rv => k2 G' v H' (e2.j.ex px) rv
  | _ => exact h1.elim
def joinD (a : Str) (d : D) : Option D := match itemsD d with
  | none => none
  | some ds => match strsD ds with
    | none => none
    | some ys => if (ys.map (·.length)).sum + ys.length * a.length ≤ 16777216 then some (.str (Txt.join a ys)) else none
theorem ev_join {o e : Expr} {apos pos : Pos} {fo fe : Mo D} (ho : EV X E o fo) (he : EV X E e fe) (hs : starEach [e] X.env = [(false, eval e X.env)] := by rfl) (hbase : attributeBase o "join" X.env (eval o X.env) = eval o X.env := by rfl) (hline : (apos.endLine == pos.line) = true := by rfl) :
    EV X E (.Call (.Attribute o "join" apos) [e] [] pos) (mM1 joinD fo fe) := by
  obtain ⟨t, p, q⟩ := ho
  obtain ⟨t2, p2, q2⟩ := he
  refine ⟨_, pe_join p p2 hs hbase hline, m1_sem q q2 fun G H a y d c Q s ry h k => ?_⟩
  unfold joinD at h
  cases h1 : itemsD d with
  | none => simp only [h1] at h; cases h
  | some ds =>
    simp only [h1] at h
    cases h2 : strsD ds with
    | none => simp only [h2] at h; cases h
    | some ys =>
      simp only [h2] at h
      obtain ⟨h3, h4⟩ := ite_some h
      subst h4
      obtain ⟨p0, xs, rfl, s0, r0⟩ := ry.items h1
      have e0 := r0.strs h2
      subst e0
      exact ⟨a, p0, ys, rfl, rfl, (sq_mono s s0).symm, h3, k G _ H (.refl s) (.str _)⟩
def splitD (a : Str) : D → Option D
  | .str b => match Nat.beq b.length 0 with
    | true => none
    | false => if a.length ≤ 1000000 then some (.list ((Txt.split a b).map PyData.str)) else none
  | _ => none
theorem RpAll.ofStrs {K : PySem.W.Frag} {G : Hp} : ∀ ys : List Str, RpAll K G (ys.map V.str) (ys.map PyData.str)
  | [] => .nil
  | y :: ys => .cons (.str y) (RpAll.ofStrs ys)
theorem ev_split {o e : Expr} {apos pos : Pos} {fo fe : Mo D} (ho : EV X E o fo) (he : EV X E e fe) (hs : starEach [e] X.env = [(false, eval e X.env)] := by rfl) (hbase : attributeBase o "split" X.env (eval o X.env) = eval o X.env := by rfl) (hline : (apos.endLine == pos.line) = true := by rfl) :
    EV X E (.Call (.Attribute o "split" apos) [e] [] pos) (mM1 splitD fo fe) := by
  obtain ⟨t, p, q⟩ := ho
  obtain ⟨t2, p2, q2⟩ := he
  refine ⟨_, pe_split p p2 hs hbase hline, m1_sem q q2 fun G H a y d c Q s ry h k => ?_⟩
  cases ry with
  | str b =>
    unfold splitD at h
    cases hb : Nat.beq b.length 0 with
    | true => simp only [hb] at h; cases h
    | false =>
      simp only [hb] at h
      obtain ⟨h3, h4⟩ := ite_some h
      subst h4
      refine ⟨a, b, rfl, rfl, (by cases hl : b.length with
        | zero => rw [hl] at hb; cases hb
        | succ n => rfl), Nat.le_trans (Nat.add_le_add_right h3 2) (by decide), fun p hp => ?_⟩
      have px : PX G H _ _ := .alloc s hp (.lst ((Txt.split a b).map V.str))
      exact k _ _ _ px (.lst upd_same (RpAll.ofStrs _))
  | _ => cases h
end
end HB
namespace HB
open PySem L2
structure Ob (K : PySem.W.Frag) (c : Str) (x : Addr) (kvs : List (D × D)) (G : Hp) (ρ : En) (σ : St) (H : Hp) : Prop where
  at_ : ∃ dx fs, H x = some (.ins (He.ga K c) dx fs) ∧ RpF K G fs kvs
  g : G x = none
  no : ¬ Ownd ρ σ x
theorem RpF.len {K : PySem.W.Frag} {H : Hp} : ∀ {fs : List (Str × V)} {kvs : List (D × D)}, RpF K H fs kvs → fs.length = kvs.length
  | _, _, .nil => rfl
  | _, _, .cons _ t => congrArg (· + 1) t.len
theorem Ob.ex {K : PySem.W.Frag} {c : Str} {x : Addr} {kvs : List (D × D)} {G H G' H' : Hp} {ρ ρ' : En} {σ σ' : St} (o : Ob K c x kvs G ρ σ H) (e : Ex K G ρ σ H G' ρ' σ' H') : Ob K c x kvs G' ρ' σ' H' := by
  obtain ⟨⟨dx, fs, h1, h2⟩, g, no⟩ := o
  refine ⟨⟨dx, fs, e.kept x _ h1 no, h2.mono e.g⟩, ?_, fun z => ?_⟩
  · cases q : G' x with
    | none => rfl
    | some o =>
      rcases e.new x (by rw [q]; simp) with w | w | w
      · exact absurd g w
      · rw [h1] at w; cases w
      · exact absurd w no
  · rcases e.ow x z with w | w
    · exact no w
    · rw [h1] at w; cases w
def putK (f : Str) (d : D) : List (D × D) → List (D × D)
  | [] => [(.str f, d)]
  | (.str g, e) :: r => if f = g then (.str f, d) :: r else (.str g, e) :: putK f d r
  | p :: r => p :: putK f d r
theorem RpF.put {K : PySem.W.Frag} {H : Hp} {f : Str} {v : V} {d : D} (r : Rp K H v d) : ∀ {fs : List (Str × V)} {kvs : List (D × D)}, RpF K H fs kvs → RpF K H (putF f v fs) (putK f d kvs)
  | _, _, .nil => .cons r .nil
  | (g, u) :: fs, _, .cons (d := e) (kvs := kvs) q t => by
    by_cases h : f = g
    · subst h
      have e1 : putF f v ((f, u) :: fs) = (f, v) :: fs := by simp [putF]
      have e2 : putK f d ((.str f, e) :: kvs) = (.str f, d) :: kvs := by simp [putK]
      rw [e1, e2]
      exact .cons r t
    · have e1 : putF f v ((g, u) :: fs) = (g, u) :: putF f v fs := by simp [putF, h, Ne.symm h]
      have e2 : putK f d ((.str g, e) :: kvs) = (.str g, e) :: putK f d kvs := by simp [putK, h]
      rw [e1, e2]
      exact .cons q (RpF.put r t)
section
variable {X : Cx} {E : XK}
/-- what may read the object -/
def EVO (X : Cx) (E : XK) (c : Str) (e : Expr) (f : List (D × D) → Mo D) : Prop := ∃ t, PE X e t ∧ ∀ x kvs G ρ σ H Q, J X.K G ρ σ H → Ob X.K c x kvs G ρ σ H → σ[0]? = some (some (.ref x)) → Post X.K E (Rp X.K) G ρ σ H Q (f kvs ρ) → t σ H Q
def EAO (X : Cx) (E : XK) (c : Str) (es : List Expr) (f : List (D × D) → Mo (List D)) : Prop := ∃ t, PA X es t ∧ ∀ x kvs G ρ σ H Q, J X.K G ρ σ H → Ob X.K c x kvs G ρ σ H → σ[0]? = some (some (.ref x)) → Post X.K E (RpAll X.K) G ρ σ H Q (f kvs ρ) → t σ H Q
theorem evo_of {c : Str} {e : Expr} {f : Mo D} (h : EV X E e f) : EVO X E c e (fun _ => f) := let ⟨t, p, q⟩ := h; ⟨t, p, fun _ _ G ρ σ H Q j _ _ z => q G ρ σ H Q j z⟩
def pureF (o : Option D) : Mo D := mLift o
theorem evo_fld {c a : Str} {p pos : Pos} {s : Str} (hN : X.N[0]? = some s := by rfl) (hv : Vis X.env.scope s := by first | exact Or.inl rfl | exact Or.inr (Or.inl rfl) | exact Or.inr (Or.inr rfl)) (hd : (s == ("__debug__" : Str)) = false := by decide)
    (hcd : (s == ("__classdict__" : Str)) = false := by decide) (hc : Cls X.K (He.ga X.K c)) (hn : NoAttr X.K (He.ga X.K c) a) (hb : attributeBase (.Name s p) a X.env (eval (.Name s p) X.env) = eval (.Name s p) X.env := by rfl) : EVO X E c (.Attribute (.Name s p) a pos) (fun kvs => pureF (fldIn a kvs)) := by
  refine ⟨_, pe_fld (pe_var hN hv hd hcd) hb, fun x kvs G ρ σ H Q j o h0 h => ?_⟩
  obtain ⟨y, hy, k⟩ := Post.lift (ρ' := ρ) h
  obtain ⟨⟨dx, fs, z1, z2⟩, _, _⟩ := o
  obtain ⟨v', h4, h5⟩ := z2.look hy
  exact ⟨_, h0, x, _, dx, fs, v', rfl, z1, hc, hn, h4, k G _ H j.refl h5⟩
theorem eao_nil {c : Str} : EAO X E c [] (fun _ => mNil) := ⟨_, pa_nil, fun _ _ G ρ σ H Q j _ _ h => h G _ H j.refl .nil⟩
def oCons (f : List (D × D) → Mo D) (g : List (D × D) → Mo (List D)) : List (D × D) → Mo (List D) := fun kvs => mBind (f kvs) fun d => mBind (g kvs) fun ds => mRet (d :: ds)
theorem eao_cons {c : Str} {e : Expr} {es : List Expr} {f : List (D × D) → Mo D} {g : List (D × D) → Mo (List D)} (h : EVO X E c e f) (hr : EAO X E c es g) (hs : starEach (e :: es) X.env = (false, eval e X.env) :: starEach es X.env := by rfl) : EAO X E c (e :: es) (oCons f g) := by
  obtain ⟨t, p, q⟩ := h
  obtain ⟨t2, p2, q2⟩ := hr
  refine ⟨_, pa_cons p p2 hs, fun x kvs G ρ σ H Q j o h0 h => q x kvs G ρ σ H _ j o h0 (Post.imp h fun G1 ρ1 v H1 d e1 r1 h1 => ?_)⟩
  refine q2 x kvs G1 ρ1 σ H1 _ e1.j (o.ex e1) h0 (Post.imp h1 fun G2 ρ2 vs H2 ds e2 r2 h2 => ?_)
  exact h2 G2 _ H2 e2.j.refl (.cons (r1.mono e2.g) r2)
def oCall (F : Fn) (f : List (D × D) → Mo (List D)) : List (D × D) → Mo D := fun kvs => mCall F (f kvs)
theorem evo_call {c : Str} {k : Nat} {x : Str} {ps : List Str} {F : Fn} {p pos : Pos} {e : Expr} {es : List Expr} {f : List (D × D) → Mo (List D)} (hF : FnE X.prog X.w X.K X.mg X.base k x ps F) (hr : Room k X.A) (hx : Passes (L2.CX X.prog X.w) X E)
    (ha : EAO X E c (e :: es) f) (hg : Gl X x := by rfl) (hdb : (x == ("__debug__" : Str)) = false := by decide) (he : starEach (e :: es) X.env = (false, eval e X.env) :: starEach es X.env := by rfl)
    (hpl : (backTo pos (starEach es X.env)).any (·.1) = false := by rfl) : EVO X E c (.Call (.Name x p) (e :: es) [] pos) (oCall F f) := by
  obtain ⟨⟨fd, h1, h2⟩, kp, gl, hl⟩ := hF
  obtain ⟨t, pt, q⟩ := ha
  refine ⟨_, pe_call h1 hr hg gl kp h2 .nil hx pt hdb he hpl, fun x kvs G ρ σ H Q j o h0 h => ?_⟩
  refine q x kvs G ρ σ H _ j o h0 (Post.imp h fun G1 ρ1 vs H1 ds e1 r1 h1 => ?_)
  show spP X.K _ F (vs ++ []) H1 Q E
  rw [List.append_nil]
  have h1' : Post X.K E (Rp X.K) G1 ρ1 σ H1 Q (match F ds with
    | none => none
    | some (.error x) => some (.error x)
    | some (.ok d) => some (.ok (ρ1, d))) := h1
  cases hF : F ds with
  | none => rw [hF] at h1'; exact h1'.elim
  | some r =>
    refine ⟨G1, ds, e1.j.sub, r1, hl ds (by rw [hF]; simp), ?_⟩
    rw [hF] at h1' ⊢
    cases r with
    | error x => exact fun C dx H' z => h1' C dx H' z.of0
    | ok d => exact fun G' v H' p r => h1' G' v H' (e1.j.ex p) r
/-- the statements: the object may change -/
structure OX (K : PySem.W.Frag) (c : Str) (x : Addr) (G : Hp) (ρ : En) (σ : St) (H : Hp) (kvs' : List (D × D)) (G' : Hp) (ρ' : En) (σ' : St) (H' : Hp) : Prop where
  j : J K G' ρ' σ' H'
  g : Same G G'
  new : ∀ b, G' b ≠ none → G b ≠ none ∨ H b = none ∨ Ownd ρ σ b
  kept : ∀ b o, b ≠ x → H b = some o → ¬ Ownd ρ σ b → [NoT o] → H' b = some o
  ow : ∀ b, Ownd ρ' σ' b → Ownd ρ σ b ∨ H b = none
  dom : Dm H H'
  ob : Ob K c x kvs' G' ρ' σ' H'
abbrev MoO := List (D × D) → En → Option (Except Exn (En × List (D × D)))
def PostO (K : PySem.W.Frag) (E : XK) (c : Str) (x : Addr) (G : Hp) (ρ : En) (σ : St) (H : Hp) (R : Hp → Prop) : Option (Except Exn (En × List (D × D))) → Prop
  | none => False
  | some (.error y) => ∀ C dx H', XP K G ρ σ H y C dx H' → E C dx H'
  | some (.ok (ρ', kvs')) => ∀ G' σ' H', OX K c x G ρ σ H kvs' G' ρ' σ' H' → R H'
def SO (X : Cx) (E : XK) (c : Str) (sts : List Stmt) (g : MoO) : Prop := ∃ t, PSs X sts t ∧ ∀ x kvs G ρ σ H (De : Ends), J X.K G ρ σ H → Ob X.K c x kvs G ρ σ H → σ[0]? = some (some (.ref x)) → PostO X.K E c x G ρ σ H (fun H' => ∀ σ', De.nx σ' H') (g kvs ρ) → t De σ H
theorem Ex.ox {K : PySem.W.Frag} {c : Str} {x : Addr} {kvs' : List (D × D)} {G H G1 H1 G2 H2 : Hp} {ρ ρ1 ρ2 : En} {σ σ1 σ2 : St} (e : Ex K G ρ σ H G1 ρ1 σ1 H1) (o : OX K c x G1 ρ1 σ1 H1 kvs' G2 ρ2 σ2 H2) : OX K c x G ρ σ H kvs' G2 ρ2 σ2 H2 where
  j := o.j
  g := e.g.trans o.g
  new := fun b hb => by
    rcases o.new b hb with z | z | z
    · exact e.new b z
    · exact .inr (.inl (e.dom b z))
    · rcases e.ow b z with z | z
      · exact .inr (.inr z)
      · exact .inr (.inl z)
  kept := fun b o' hb q n => o.kept b o' hb (e.kept b o' q n) fun z => by
    rcases e.ow b z with z | z
    · exact n z
    · rw [q] at z; cases z
  ow := fun b hb => by
    rcases o.ow b hb with z | z
    · exact e.ow b z
    · exact .inr (e.dom b z)
  dom := ⟨fun b hb => e.dom b (o.dom b hb), e.tt.trans o.dom.t⟩
  ob := o.ob
theorem OX.trans {K : PySem.W.Frag} {c : Str} {x : Addr} {kvs kvs' : List (D × D)} {G H G1 H1 G2 H2 : Hp} {ρ ρ1 ρ2 : En} {σ σ1 σ2 : St} (e : OX K c x G ρ σ H kvs G1 ρ1 σ1 H1) (o : OX K c x G1 ρ1 σ1 H1 kvs' G2 ρ2 σ2 H2) : OX K c x G ρ σ H kvs' G2 ρ2 σ2 H2 where
  j := o.j
  g := e.g.trans o.g
  new := fun b hb => by
    rcases o.new b hb with z | z | z
    · exact e.new b z
    · exact .inr (.inl (e.dom b z))
    · rcases e.ow b z with z | z
      · exact .inr (.inr z)
      · exact .inr (.inl z)
  kept := fun b o' hb q n => o.kept b o' hb (e.kept b o' hb q n) fun z => by
    rcases e.ow b z with z | z
    · exact n z
    · rw [q] at z; cases z
  ow := fun b hb => by
    rcases o.ow b hb with z | z
    · exact e.ow b z
    · exact .inr (e.dom b z)
  dom := e.dom.trans o.dom
  ob := o.ob
/-- a field is written -/
theorem Ob.store {K : PySem.W.Frag} {c : Str} {x : Addr} {kvs : List (D × D)} {G H : Hp} {ρ : En} {σ : St} {f : Str} {v : V} {d : D} {dx : Addr} {fs : List (Str × V)} (j : J K G ρ σ H) (o : Ob K c x kvs G ρ σ H) (h1 : H x = some (.ins (He.ga K c) dx fs)) (h2 : RpF K G fs kvs) (r : Rp K G v d) :
    OX K c x G ρ σ H (putK f d kvs) G ρ σ (upd H x (.ins (He.ga K c) dx (putF f v fs))) := by
  have ne : ∀ b, G b ≠ none → b ≠ x := fun b hb e => by subst e; exact hb o.g
  refine ⟨⟨j.sub.put o.g (pl_of h1), j.len, j.pur, fun i s ds q hl => ?_, j.alone, fun i g o1 o2 z xs e1 e2 => ?_⟩, .refl _, fun b hb => .inl hb, fun b o' hb q _ => by rw [upd_ne hb]; exact fun {_} => q, fun b hb => .inl hb, ⟨fun b hb => ?_, .put (pl_of h1)⟩, ⟨⟨dx, _, upd_same, h2.put r⟩, o.g, o.no⟩⟩
  · obtain ⟨a, vs, z1, z2, z3, z4⟩ := j.hold i s ds q hl
    refine ⟨a, vs, z1, ?_, z3, z4⟩
    rw [upd_ne (fun e => by subst e; exact o.no ⟨i, s, ds, q, hl, z1⟩)]
    exact z2
  · obtain ⟨a, v, u, z1, z2, z3⟩ := j.lk i g o1 o2 z xs e1 e2
    refine ⟨a, v, u, z1, ?_, z3⟩
    rw [upd_ne (fun e => by subst e; rw [z2] at h1; cases h1)]
    exact z2
  · by_cases e : b = x
    · subst e; rw [upd_same] at hb; cases hb
    · rw [upd_ne e] at hb; exact hb
def oEnd : MoO := fun kvs ρ => some (.ok (ρ, kvs))
theorem so_nil {c : Str} : SO X E c [] oEnd := ⟨_, pss_nil, fun x kvs G ρ σ H De j o h0 h => h G σ H ⟨j, .refl _, fun _ z => .inl z, fun _ _ _ q _ => q, fun _ z => .inl z, ⟨fun _ z => z, .refl H⟩, o⟩ σ⟩
def oPut (f : Str) (v : List (D × D) → Mo D) (g : MoO) : MoO := fun kvs ρ => match v kvs ρ with
  | some (.ok (ρ1, d)) => (match Nat.blt kvs.length 1000 with
    | true => (match g (putK f d kvs) ρ1 with
      | some (.ok r) => some (.ok r)
      | _ => none)
    | false => none)
  | _ => none
theorem so_put {c f s : Str} {e : Expr} {v : List (D × D) → Mo D} {g : MoO} {rest : List Stmt} {p pos pos' : Pos} (hv : EVO X E c e v) (hr : SO X E c rest g) (hc : Cls X.K (He.ga X.K c)) (hn : NoAttr X.K (He.ga X.K c) f) (hN : X.N[0]? = some s := by rfl)
    (hvv : Vis X.env.scope s := by first | exact Or.inl rfl | exact Or.inr (Or.inl rfl) | exact Or.inr (Or.inr rfl)) (hd : (s == ("__debug__" : Str)) = false := by decide) (hcd : (s == ("__classdict__" : Str)) = false := by decide)
    (hs : swapsWith e (some (.Attribute (.Name s p) f pos')) pos.line X.env = pure false := by rfl) : SO X E c (.Assign [.Attribute (.Name s p) f pos'] e pos :: rest) (oPut f v g) := by
  obtain ⟨t, pt, q⟩ := hv
  obtain ⟨t2, p2, q2⟩ := hr
  refine ⟨_, pss_cons (ps_fld (pe_var hN hvv hd hcd) pt hs) p2, fun x kvs G ρ σ H De j o h0 h => ?_⟩
  unfold oPut at h
  cases h1 : v kvs ρ with
  | none => simp only [h1] at h; exact h.elim
  | some r =>
    cases r with
    | error y => simp only [h1] at h; exact h.elim
    | ok pr =>
      obtain ⟨ρ1, d⟩ := pr
      simp only [h1] at h
      cases hsb : Nat.blt kvs.length 1000 with
      | false => simp only [hsb] at h; exact h.elim
      | true =>
        simp only [hsb] at h
        refine q x kvs G ρ σ H _ j o h0 ?_
        rw [h1]
        intro G1 y H1 e1 r1
        have o1 := o.ex e1
        obtain ⟨dx, fs, y1, y2⟩ := o1.at_
        have st := Ob.store (f := f) e1.j o1 y1 y2 r1
        refine ⟨_, h0, x, _, dx, fs, rfl, y1, hc, hn, ?_, ?_⟩
        · rw [y2.len]
          exact of_decide_eq_true (by simpa [Nat.blt_eq] using hsb)
        · refine q2 x (putK f d kvs) G1 ρ1 σ _ De st.j st.ob h0 ?_
          cases h3 : g (putK f d kvs) ρ1 with
          | none => simp only [h3] at h; exact h.elim
          | some r3 =>
            cases r3 with
            | error y => simp only [h3] at h; exact h.elim
            | ok pr3 =>
              obtain ⟨ρ3, kvs3⟩ := pr3
              simp only [h3] at h
              exact fun G3 σ3 H3 o3 => h G3 σ3 H3 (e1.ox (st.trans o3))
/-- if test: raise .. -/
def oIf (c : Mo Bool) (a : Mo Fl) (g : MoO) : MoO := fun kvs ρ => match c ρ with
  | none => none
  | some (.error y) => some (.error y)
  | some (.ok (ρ1, true)) => (match a ρ1 with
    | some (.error y) => some (.error y)
    | _ => none)
  | some (.ok (ρ1, false)) => g kvs ρ1
theorem so_if {c : Str} {e : Expr} {body rest : List Stmt} {pos : Pos} {fc : Mo Bool} {a : Mo Fl} {g : MoO} (hc : ET X E e fc) (ha : SVs X E body a) (h2 : SO X E c rest g) : SO X E c (.If e body [] pos :: rest) (oIf fc a g) := by
  obtain ⟨t0, p0, q0⟩ := hc
  obtain ⟨t, p, q⟩ := ha
  obtain ⟨t2, p2, q2⟩ := h2
  refine ⟨_, pss_cons (ps_if p0 p pss_nil) p2, fun x kvs G ρ σ H De j o h0 h => ?_⟩
  refine q0 G ρ σ H _ j ?_
  unfold oIf at h
  match hc : fc ρ, h with
  | none, h => exact h.elim
  | some (.error y), h => exact h
  | some (.ok (ρ1, true)), h =>
    intro G1 b H1 e1 r1
    subst r1
    refine q G1 ρ1 σ H1 _ e1.j ?_
    match ha : a ρ1, h with
    | none, h => simp only [ha] at h; exact h.elim
    | some (.error y), h => simp only [ha] at h; exact fun C dx H' z => h C dx H' (XP.trans e1 z)
    | some (.ok (ρ2, f)), h => simp only [ha] at h; exact h.elim
  | some (.ok (ρ1, false)), h =>
    intro G1 b H1 e1 r1
    subst r1
    refine q2 x kvs G1 ρ1 σ H1 De e1.j (o.ex e1) h0 ?_
    match hg : g kvs ρ1, h with
    | none, h => simp only [hg] at h; exact h.elim
    | some (.error y), h => simp only [hg] at h; exact fun C dx H' z => h C dx H' (XP.trans e1 z)
    | some (.ok (ρ2, kvs2)), h => simp only [hg] at h; exact fun G2 σ2 H2 o2 => h G2 σ2 H2 (e1.ox o2)
end
abbrev FnI := List D → Option (Except Exn (List (D × D)))
def PostK (K : PySem.W.Frag) (E : XK) (c : Str) (x : Addr) (G H : Hp) (Q : VK) : Option (Except Exn (List (D × D))) → Prop
  | none => False
  | some (.error y) => ∀ C dx H', XP K G [] [] H y C dx H' → E C dx H'
  | some (.ok kvs) => ∀ G' H', Same G G' → (∀ b, G' b ≠ none → G b ≠ none ∨ H b = none) → Sub K G' H' → (∀ b o, b ≠ x → H b = some o → [NoT o] → H' b = some o) → Dm H H' → G' x = none → (∃ dx fs, H' x = some (.ins (He.ga K c) dx fs) ∧ RpF K G' fs kvs) → Q .non H'
def spI (K : PySem.W.Frag) (c : Str) (n : Nat) (F : FnI) : Sp := fun vs H Q E => ∃ x dx us ds G, vs = .ref x :: us ∧ H x = some (.ins (He.ga K c) dx []) ∧ Sub K G H ∧ G x = none ∧ RpAll K G us ds ∧ ds.length = n ∧ PostK K E c x G H Q (F ds)
structure MkE (P : Program) (w : World) (K : PySem.W.Frag) (mg : Str → Option Value) (base : Heap) (k : Nat) (c : Str) (n : Nat) (F : FnI) : Prop where
  maker : Mk K (He.ga K c) (He.ma K (He.ga K c) "__init__")
  ex : ∃ fd ps, FnOk P w K mg base (L2.CX P w) k (He.ma K (He.ga K c) "__init__") fd ps (spI K c n F) ∧ Binds K fd ps []
  gl : mg c = some (.ref (He.ga K c))
  ln : ∀ ds, F ds ≠ none → ds.length = n
def mMake (c : Str) (F : FnI) (a : Mo (List D)) : Mo D := mBind a fun ds ρ => match F ds with
  | none => none
  | some (.error x) => some (.error x)
  | some (.ok kvs) => some (.ok (ρ, .dict ((.str c, .none) :: kvs)))
section
variable {X : Cx} {E : XK}
theorem make_sem {c : Str} {F : FnI} {n : Nat} {t : TA} {f : Mo (List D)} (q : ∀ G ρ σ H Q, J X.K G ρ σ H → Post X.K E (RpAll X.K) G ρ σ H Q (f ρ) → t σ H Q) (hl : ∀ ds, F ds ≠ none → ds.length = n) :
    ∀ G ρ σ H Q, J X.K G ρ σ H → Post X.K E (Rp X.K) G ρ σ H Q (mMake c F f ρ) → tMake (He.ga X.K c) (spI X.K c n F) [] E t σ H Q := by
  intro G ρ σ H Q j h
  refine q G ρ σ H _ j (Post.imp h fun G1 ρ1 vs H1 ds e1 r1 h1 => ?_)
  intro x dx hx hdx hne
  rw [List.append_nil]
  have h1' : Post X.K E (Rp X.K) G1 ρ1 σ H1 Q (match F ds with
    | none => none
    | some (.error x) => some (.error x)
    | some (.ok kvs) => some (.ok (ρ1, .dict ((.str c, .none) :: kvs)))) := h1
  have s12 : SameT H1 (upd (upd H1 dx (.own x)) x (.ins (He.ga X.K c) dx [])) := (sameT_upd hdx).trans (sameT_upd (by rw [upd_ne (Ne.symm hne)]; exact hx))
  have j1 := e1.j
  have ne : ∀ b, H1 b = none ∨ (upd (upd H1 dx (.own x)) x (.ins (He.ga X.K c) dx [])) b ≠ none := fun b => by
    cases q : H1 b with
    | none => exact .inl rfl
    | some o => exact .inr (let ⟨_, e⟩ := s12.toSame.some q; by rw [e]; simp)
  cases hF : F ds with
  | none => rw [hF] at h1'; exact h1'.elim
  | some r =>
    refine ⟨x, dx, vs, ds, G1, rfl, upd_same, j1.sub.up (j1.up s12), j1.sub.free hx, r1, hl ds (by rw [hF]; simp), ?_⟩
    rw [hF] at h1' ⊢
    cases r with
    | error y => exact fun C d H' z => h1' C d H' (XP.trans (j1.ex (j1.up s12)) z.of0)
    | ok kvs =>
      intro G' H' g new sb kept dm gx ob
      refine ⟨rfl, ?_⟩
      obtain ⟨d', fs, z1, z2⟩ := ob
      have sg : Same G' (upd G' x (.ins (He.ga X.K c) d' fs)) := same_upd gx
      have px : PX G1 H1 (upd G' x (.ins (He.ga X.K c) d' fs)) H' := by
        refine ⟨⟨fun b o hb => kept b o (fun e => by subst e; rw [hx] at hb; cases hb) (s12.toSame.s _ _ hb), s12.toSame.t.trans dm.t.t⟩, g.trans sg, (sb.take z1).toSame, fun b hb => ?_, fun P z => dm.t.n P (s12.g P z)⟩
        · by_cases e : b = x
          · subst e; exact .inr hx
          · rw [upd_ne e] at hb
            rcases new b hb with w | w
            · exact .inl w
            · rcases ne b with u | u
              · exact .inr u
              · exact absurd w u
      exact h1' _ _ H' (j1.ex px) (.obj upd_same (z2.mono sg))
theorem ev_make {k n : Nat} {c : Str} {F : FnI} {p pos : Pos} {e : Expr} {es : List Expr} {f : Mo (List D)} (hF : MkE X.prog X.w X.K X.mg X.base k c n F) (hr : Room (k + 1) X.A) (hx : Passes (L2.CX X.prog X.w) X E)
    (ha : EA X E (e :: es) f) (hg : Gl X c := by rfl) (hdb : (c == ("__debug__" : Str)) = false := by decide) (he : starEach (e :: es) X.env = (false, eval e X.env) :: starEach es X.env := by rfl)
    (hpl : (backTo pos (starEach es X.env)).any (·.1) = false := by rfl) : EV X E (.Call (.Name c p) (e :: es) [] pos) (mMake c F f) := by
  obtain ⟨M, ⟨fd, ps, h1, h2⟩, gl, hl⟩ := hF
  obtain ⟨t, pt, q⟩ := ha
  exact ⟨_, pe_make M h1 hr hg gl h2 .nil hx pt hdb he hpl, make_sem q hl⟩
end
theorem J.cons0 {K : PySem.W.Frag} {G H : Hp} {ρ : En} {σ : St} {o : Option V} (j : J K G ρ σ H) (no : ∀ b, ¬ Ownd ρ σ b) : J K G (.no :: ρ) (o :: σ) H := by
  refine ⟨j.sub, congrArg (· + 1) j.len, fun i d h => ?_, fun i s ds h hl => ?_, fun i k s t ds es b h1 l1 h2 l2 h3 h4 => ?_, fun i g o1 o2 z xs h1 h2 => ?_⟩
  · cases i with
    | zero => cases h
    | succ i => exact j.pur i d h
  · cases i with
    | zero => cases h; cases hl
    | succ i => exact j.hold i s ds h hl
  · cases i with
    | zero => cases h1; cases l1
    | succ i => cases k with
      | zero => cases h2; cases l2
      | succ k => exact congrArg (· + 1) (j.alone i k s t ds es b h1 l1 h2 l2 h3 h4)
  · cases i with
    | zero => cases h1
    | succ i =>
      obtain ⟨a, _, q, _⟩ := j.hold i _ _ h1 rfl
      exact absurd ⟨i, _, _, h1, rfl, q⟩ (no a)
theorem ownd_cons0 {ρ : En} {σ : St} {o : Option V} {b : Addr} (h : Ownd (.no :: ρ) (o :: σ) b) : Ownd ρ σ b := by
  obtain ⟨i, s, ds, h1, hl, h2⟩ := h
  cases i with
  | zero => cases h1; cases hl
  | succ i => exact ⟨i, s, ds, h1, hl, h2⟩
def runI (n : Nat) (g : MoO) : FnI := fun ds => match g [] (.no :: (ds.map Sl.pur ++ List.replicate (n - ds.length) Sl.no)) with
  | none => none
  | some (.error y) => some (.error y)
  | some (.ok (_, kvs)) => some (.ok kvs)
def guardI (n : Nat) (F : FnI) : FnI := fun ds => match Nat.beq ds.length n with
  | true => F ds
  | false => none
theorem start_cons {x : Str} {N : List Str} {v : V} {vs : List V} : start (x :: N) (v :: vs) = some v :: start N vs := by
  unfold L2.start
  simp [Nat.succ_sub_succ]
theorem init_ok {P : Program} {w : World} {K : PySem.W.Frag} {mg : Str → Option Value} {base : Heap} {c qual self : Str} {st : Stmt} {fd : FuncData} {N ps : List Str} {k : Nat} {g : MoO} (F : FunD K "__init__" qual (defArgs st) (defBody st) (defScope st) [] [] (He.ma K (He.ga K c) "__init__") fd) (S : FnScope (self :: N) (self :: ps) (defScope st))
    (M : Mk K (He.ga K c) (He.ma K (He.ga K c) "__init__")) (gl : mg c = some (.ref (He.ga K c)))
    (b : ∀ (kV doc pm : Value) (an : Option Addr) (cdv ct : Value) (us : List Value), us.length = (self :: ps).length → bindArgs (PySem.W.fnOf "__init__" qual (defArgs st) (defBody st) (defScope st) .none kV doc pm an cdv ct) ⟨us, []⟩ = pure ((self :: ps).zip us))
    (hb : ∀ (cdv : Value) (A : Around) (outer : List PySem.Env) (s : Shared) (H : Hp) (E : XK), Room k (A.deeper (PyProof.Rows.envOfC qual (defScope st) s.heap.objs.size (He.ma K (He.ga K c) "__init__") cdv)) → SO (cxOf (L2.CX P w) P w K mg base (self :: N) qual (defScope st) (He.ma K (He.ga K c) "__init__") cdv A outer s H E) E c (defBody st) g) :
    MkE P w K mg base (k + 1) c ps.length (guardI ps.length (runI N.length g)) := by
  have gl2 : ∀ ds, guardI ps.length (runI N.length g) ds ≠ none → ds.length = ps.length := fun ds h => by
    unfold guardI at h
    cases q : Nat.beq ds.length ps.length with
    | true => exact Nat.eq_of_beq_eq_true q
    | false => rw [q] at h; exact absurd rfl h
  refine ⟨M, ⟨fd, self :: ps, F.ok S (fun vs H Q E h => ?_) fun cdv A outer s H vs Q E hr h => ?_, F.bindsN b⟩, gl, gl2⟩
  · obtain ⟨x, dx, us, ds, G, rfl, _, _, _, r, hl, _⟩ := h
    show us.length + 1 = ps.length + 1
    rw [r.length, hl]
  · obtain ⟨t, p, q⟩ := hb cdv A outer s H E hr
    refine ⟨t, p, ?_⟩
    obtain ⟨x, dx, us, ds, G, rfl, hx, sb, gx, r, hl, k⟩ := h
    rw [start_cons]
    have j0 : J K G (.no :: (ds.map Sl.pur ++ List.replicate (N.length - ds.length) Sl.no)) (some (.ref x) :: start N us) H := (start_j sb r).cons0 fun b => start_no
    have no : ∀ b, ¬ Ownd (.no :: (ds.map Sl.pur ++ List.replicate (N.length - ds.length) Sl.no)) (some (.ref x) :: start N us) b := fun b z => start_no (ownd_cons0 z)
    refine q x [] G _ _ H _ j0 ⟨⟨dx, [], hx, .nil⟩, gx, no x⟩ rfl ?_
    unfold guardI at k
    have e0 : Nat.beq ds.length ps.length = true := by rw [hl]; exact Nat.beq_refl _
    rw [e0] at k
    unfold runI at k
    match hg : g [] (.no :: (ds.map Sl.pur ++ List.replicate (N.length - ds.length) Sl.no)), k with
    | none, k => simp only [hg] at k; exact k.elim
    | some (.error y), k => simp only [hg] at k; exact fun C d H' z => k C d H' (z.to0 no)
    | some (.ok (ρ', kvs)), k =>
      simp only [hg] at k
      intro G' σ' H' o
      intro σ''
      exact k G' H' o.g (fun b hb => (o.new b hb).elim .inl fun z => z.elim .inr fun z => absurd z (no b)) o.j.sub (fun b o' hb q => o.kept b o' hb q (no b)) o.dom o.ob.g o.ob.at_
end HB
namespace HB
open PySem L2
theorem tupN_ok {K : PySem.W.Frag} {x : Str} {vs : List He.Dv} (h : tupN K x vs = true) (H : Hp) : SqP K H (He.ga K x) (vs.map (He.Dv.v K)) := by
  have ⟨h1, h2⟩ := Bool.and_eq_true_iff.mp h
  rcases He.tupB_ok h1 (fun _ => none) with (z | ⟨_, z⟩) | ⟨o, its, n, l, c, d, z, r⟩
  · cases z
  · cases z
  · rw [l] at h2
    exact .inr ⟨o, its, n, l, Option.isNone_iff_eq_none.mp h2, c, d, z, r⟩
theorem tp_ok {tp : List (Str × List He.Dv)} {K : PySem.W.Frag} (c : (tp.all fun p => tupN K p.1 p.2) = true) (i : Nat) {p : Str × List He.Dv} (h : tp[i]? = some p := by rfl) : tupN K p.1 p.2 = true :=
  List.all_eq_true.mp c p (List.mem_of_getElem? h)
/-- plain values in a tuple -/
def dvD : He.Dv → D
  | .bl b => .bool b
  | .int i => .int i
  | .str x => .str x
  | _ => .none
def dvOk : He.Dv → Bool
  | .non => true
  | .bl _ => true
  | .int _ => true
  | .str _ => true
  | _ => false
theorem dv_rp {K : PySem.W.Frag} {H : Hp} : ∀ vs : List He.Dv, vs.all dvOk = true → RpAll K H (vs.map (He.Dv.v K)) (vs.map dvD)
  | [], _ => .nil
  | v :: vs, h => by
    obtain ⟨h1, h2⟩ := He.ba (show (dvOk v && vs.all dvOk) = true from h)
    refine .cons ?_ (dv_rp vs h2)
    cases v with
    | non => exact .non
    | bl b => exact .bl b
    | int i => exact .int i
    | str x => exact .str x
    | _ => cases h1
section
variable {mg : Str → Option Value} {K : PySem.W.Frag} {h : Heap}
theorem gl_tup {x : Str} {vs : List He.Dv} {ds : List D} (X : K.In h) (G : h.Ns mainGlobals mg) (c1 : (He.Fa.glo x).ok K = true) (c2 : tupN K x vs = true) (ok : vs.all dvOk = true) (e : vs.map dvD = ds) : GlD K mg x (.tuple ds) := by
  subst e
  exact ⟨.ref (He.ga K x), .ref (He.ga K x), He.glo_ok X G c1, rfl, fun H => .tup (tupN_ok c2 H) (dv_rp vs ok)⟩
theorem gl_int {x : Str} {i : Int} (X : K.In h) (G : h.Ns mainGlobals mg) (c : (He.Fa.int x i).ok K = true) : GlD K mg x (.int i) := by
  obtain ⟨t, e⟩ := He.int_ok X G c
  exact ⟨.int i, .int i t, e, ⟨t, rfl⟩, fun H => .int i⟩
theorem gl_str {x z : Str} (X : K.In h) (G : h.Ns mainGlobals mg) (c : (He.Fa.str x z).ok K = true) : GlD K mg x (.str z) := by
  obtain ⟨t, e⟩ := He.str_ok X G c
  exact ⟨.str z, .str z t, e, ⟨t, rfl⟩, fun H => .str z⟩
end
def isT : Option (Except Exn D) → Bool
  | some (.ok (.bool true)) => true
  | _ => false
theorem isT_ok {o : Option (Except Exn D)} (h : isT o = true) : o = some (.ok (.bool true)) := by
  unfold isT at h
  split at h
  · rfl
  · cases h
def spE (sp : Sp) : Sp := fun vs H Q _ => sp vs H Q fun _ _ _ => False
theorem rp_ints {K : PySem.W.Frag} {H : Hp} : ∀ ns : List Int, RpAll K H (ns.map V.int) (ns.map PyData.int)
  | [] => .nil
  | n :: ns => .cons (.int n) (rp_ints ns)
/-- the script as a datum -/
def scr (ns : List Int) : D := .dict [(.none, .list (ns.map PyData.int))]
theorem law_sp {K : PySem.W.Frag} {F : Fn} {n : Nat} (hT : ∀ ns : List Int, ns.length ≤ n → isT (F [scr ns]) = true) (H : Hp) (a : Addr) (ns : List Int) (hl : ns.length ≤ n) (hS : SqL K H a (ns.map V.int)) (tb : TabOk K H) :
    spE (spP K 1 F) [.ref a] H (fun v _ => v = .bl true) fun _ _ _ => False := by
  refine ⟨H, [scr ns], ⟨.refl _, tb⟩, .cons (.frz hS (rp_ints ns)) .nil, rfl, ?_⟩
  rw [isT_ok (hT ns hl)]
  intro G' v H' _ r
  cases r
  rfl
end HB
namespace HB
open PySem L2
def tI (K : PySem.W.Frag) (E : XK) (f : Mo Src) (js : List Nat) : TI := fun σ H R => ∃ G ρ, J K G ρ σ H ∧ PostI K E js G ρ σ H R (f ρ)
end HB
namespace HB
open PySem L2
def gCP : Mo Fl := sSeq (sPar2 0 1 (xConsP (mBuilt absD (mCons (mVar 0) (mNil))) (xConsP (mBuilt absD (mCons (mVar 1) (mNil))) (xNil))))
  (sSeq (sWhile (fuelInt 1) (mTest (mOp (cmpD gtI) (mVar 1) (mRet (.int 0)))) (sPar2 0 1 (xConsP (mVar 1) (xConsP (mOp modD (mVar 0) (mVar 1)) (xNil)))))
  (sRet (mVar 0)))
theorem cp_loop : ∀ (m n k : Nat), m < k → whileL (mTest (mOp (cmpD gtI) (mVar 1) (mRet (.int 0)))) (sPar2 0 1 (xConsP (mVar 1) (xConsP (mOp modD (mVar 0) (mVar 1)) (xNil)))) k [.pur (.int n), .pur (.int m)] = some (.ok ([.pur (.int (Nat.gcd n m : Nat)), .pur (.int 0)], .nx)) := by
  refine fun m => Nat.strongRecOn m fun m ih => ?_
  · intro n k hk
    cases k with
    | zero => omega
    | succ k =>
      cases m with
      | zero => simp [whileL, mTest, mOp, mVar, mRet, mBind, mLift, cmpD, gtI, boolD]
      | succ m =>
        have h1 : gtI ((m + 1 : Nat) : Int) 0 = true := by unfold gtI; exact decide_eq_true (by omega)
        have h2 : (0 : Int) < ((m + 1 : Nat) : Int) := by omega
        have e : whileL (mTest (mOp (cmpD gtI) (mVar 1) (mRet (.int 0)))) (sPar2 0 1 (xConsP (mVar 1) (xConsP (mOp modD (mVar 0) (mVar 1)) (xNil)))) (k + 1) [.pur (.int n), .pur (.int ((m + 1 : Nat) : Int))] =
            whileL (mTest (mOp (cmpD gtI) (mVar 1) (mRet (.int 0)))) (sPar2 0 1 (xConsP (mVar 1) (xConsP (mOp modD (mVar 0) (mVar 1)) (xNil)))) k [.pur (.int ((m + 1 : Nat) : Int)), .pur (.int ((n % (m + 1) : Nat) : Int))] := by
          simp only [whileL, mTest, mOp, mVar, mRet, mBind, mLift, cmpD, boolD, List.getElem?_cons_succ, List.getElem?_cons_zero, h1, sPar2, xConsP, xNil, modD, h2, if_true, slOf, List.set]
          rfl
        rw [e, ih (n % (m + 1)) (Nat.mod_lt _ (Nat.succ_pos m)) (m + 1) k (Nat.lt_of_lt_of_le (Nat.mod_lt n (Nat.succ_pos m)) (by omega))]
        rw [Nat.gcd_comm (m + 1), ← Nat.gcd_rec (m + 1) n, Nat.gcd_comm]
def M_common_part : Fn
  | [.int a, .int b] => some (.ok (.int (Nat.gcd a.natAbs b.natAbs : Nat)))
  | _ => none
theorem absI (i : Int) : (if i < 0 then -i else i) = (i.natAbs : Int) := by
  split <;> omega
theorem cp_run (a b : Int) : runF 2 gCP [.int a, .int b] = some (.ok (.int (Nat.gcd a.natAbs b.natAbs : Nat))) := by
  have e : gCP [.pur (.int a), .pur (.int b)] = sSeq (sWhile (fuelInt 1) (mTest (mOp (cmpD gtI) (mVar 1) (mRet (.int 0)))) (sPar2 0 1 (xConsP (mVar 1) (xConsP (mOp modD (mVar 0) (mVar 1)) (xNil))))) (sRet (mVar 0)) [.pur (.int (a.natAbs : Int)), .pur (.int (b.natAbs : Int))] := by
    rw [← absI a, ← absI b]
    rfl
  have e2 : gCP [.pur (.int a), .pur (.int b)] = some (.ok ([.pur (.int (Nat.gcd a.natAbs b.natAbs : Nat)), .pur (.int 0)], .rt (.int (Nat.gcd a.natAbs b.natAbs : Nat)))) := by
    rw [e]
    unfold sSeq mBind sWhile
    have ef : fuelInt 1 [.pur (.int (a.natAbs : Int)), .pur (.int (b.natAbs : Int))] = b.natAbs + 1 := rfl
    rw [ef, cp_loop b.natAbs a.natAbs (b.natAbs + 1) (Nat.lt_succ_self _)]
    rfl
  show (match gCP [.pur (.int a), .pur (.int b)] with
    | none => none
    | some (.error x) => some (.error x)
    | some (.ok (_, .nx)) => some (.ok .none)
    | some (.ok (_, .rt d)) => some (.ok d)
    | some (.ok (_, _)) => none : Option (Except Exn D)) = _
  rw [e2]
theorem mir_common_part (ds : List D) (r : Except Exn D) (h : M_common_part ds = some r) : guard 2 (runF 2 gCP) ds = some r := by
  unfold M_common_part at h
  split at h
  · rw [← h]
    exact cp_run _ _
  · cases h
def gIL : Mo Fl := sSeq (sSet 2 (mCall M_common_part (mCons (mVar 0) (mCons (mVar 1) (mNil)))))
  (sRet (mIf (mTest (mOp (cmpD gtI) (mVar 1) (mRet (.int 0)))) (mTup (mCons (mOp fdivD (mVar 0) (mVar 2)) (mCons (mOp fdivD (mVar 1) (mVar 2)) (mNil)))) (mTup (mCons (mOp fdivD (mUn negD (mVar 0)) (mVar 2)) (mCons (mOp fdivD (mUn negD (mVar 1)) (mVar 2)) (mNil))))))
/-- in lowest terms -/
def lowD (t b : Int) : Option (Except Exn D) := match Nat.blt 0 (Nat.gcd t.natAbs b.natAbs) && Nat.blt (Nat.gcd t.natAbs b.natAbs).log2 9000 with
  | false => none
  | true => match gtI b 0 with
    | true => some (.ok (.tuple [.int (t / (Nat.gcd t.natAbs b.natAbs : Nat)), .int (b / (Nat.gcd t.natAbs b.natAbs : Nat))]))
    | false => some (.ok (.tuple [.int (-t / (Nat.gcd t.natAbs b.natAbs : Nat)), .int (-b / (Nat.gcd t.natAbs b.natAbs : Nat))]))
def M_in_lowest : Fn
  | [.int t, .int b] => lowD t b
  | _ => none
theorem fdiv_nat {i : Int} {g : Nat} (h1 : 0 < g) (h2 : g.log2 < 9000) : fdivD (.int i) (.int (g : Int)) = some (.int (i / (g : Int))) := by
  unfold fdivD
  simp only
  rw [if_pos ⟨by omega, by rw [Int.natAbs_natCast]; exact h2⟩]
theorem mir_in_lowest (ds : List D) (r : Except Exn D) (h : M_in_lowest ds = some r) : guard 2 (runF 3 gIL) ds = some r := by
  unfold M_in_lowest at h
  split at h
  · rename_i t b
    unfold lowD at h
    cases hc : Nat.blt 0 (Nat.gcd t.natAbs b.natAbs) && Nat.blt (Nat.gcd t.natAbs b.natAbs).log2 9000 with
    | false => rw [hc] at h; cases h
    | true =>
      rw [hc] at h
      obtain ⟨c1, c2⟩ := Bool.and_eq_true_iff.mp hc
      have g1 : 0 < Nat.gcd t.natAbs b.natAbs := Nat.le_of_ble_eq_true c1
      have g2 : (Nat.gcd t.natAbs b.natAbs).log2 < 9000 := Nat.le_of_ble_eq_true c2
      have f1 : ∀ i : Int, fdivD (.int i) (.int (Nat.gcd t.natAbs b.natAbs : Nat)) = some (.int (i / (Nat.gcd t.natAbs b.natAbs : Nat))) := fun i => fdiv_nat g1 g2
      have e0 : guard 2 (runF 3 gIL) [.int t, .int b] = runF 3 gIL [.int t, .int b] := rfl
      rw [e0, ← h]
      cases hb : gtI b 0 with
      | true => simp [runF, gIL, sSeq, sSet, setSl, mBind, mCall, mCons, mNil, mVar, mRet, M_common_part, sRet, mIf, mTest, mOp, mUn, negD, mLift, cmpD, boolD, hb, f1, mTup, sizeOk]
      | false => simp [runF, gIL, sSeq, sSet, setSl, mBind, mCall, mCons, mNil, mVar, mRet, M_common_part, sRet, mIf, mTest, mOp, mUn, negD, mLift, cmpD, boolD, hb, f1, mTup, sizeOk]
  · cases h
def gAdd : Mo Fl := sRet (mCall M_in_lowest (mCons (mOp addD (mOp mulD (mOp ixD (mVar 0) (mRet (.int 0))) (mOp ixD (mVar 1) (mRet (.int 1)))) (mOp mulD (mOp ixD (mVar 1) (mRet (.int 0))) (mOp ixD (mVar 0) (mRet (.int 1))))) (mCons (mOp mulD (mOp ixD (mVar 0) (mRet (.int 1))) (mOp ixD (mVar 1) (mRet (.int 1)))) (mNil))))
def gLess : Mo Fl := sRet (mCall M_in_lowest (mCons (mOp subD (mOp mulD (mOp ixD (mVar 0) (mRet (.int 0))) (mOp ixD (mVar 1) (mRet (.int 1)))) (mOp mulD (mOp ixD (mVar 1) (mRet (.int 0))) (mOp ixD (mVar 0) (mRet (.int 1))))) (mCons (mOp mulD (mOp ixD (mVar 0) (mRet (.int 1))) (mOp ixD (mVar 1) (mRet (.int 1)))) (mNil))))
def gMul : Mo Fl := sRet (mCall M_in_lowest (mCons (mOp mulD (mOp ixD (mVar 0) (mRet (.int 0))) (mOp ixD (mVar 1) (mRet (.int 0)))) (mCons (mOp mulD (mOp ixD (mVar 0) (mRet (.int 1))) (mOp ixD (mVar 1) (mRet (.int 1)))) (mNil))))
def gQuo : Mo Fl := sRet (mCall M_in_lowest (mCons (mOp mulD (mOp ixD (mVar 0) (mRet (.int 0))) (mOp ixD (mVar 1) (mRet (.int 1)))) (mCons (mOp mulD (mOp ixD (mVar 0) (mRet (.int 1))) (mOp ixD (mVar 1) (mRet (.int 0)))) (mNil))))
def gLt : Mo Fl := sRet (mOp (cmpD ltI) (mOp mulD (mOp ixD (mVar 0) (mRet (.int 0))) (mOp ixD (mVar 1) (mRet (.int 1)))) (mOp mulD (mOp ixD (mVar 1) (mRet (.int 0))) (mOp ixD (mVar 0) (mRet (.int 1)))))
def M_added : Fn
  | [.tuple [.int a, .int b], .tuple [.int c, .int d]] => (match mulFit a d && (mulFit c b && mulFit b d) with
    | true => lowD (a * d + c * b) (b * d)
    | false => none)
  | _ => none
def M_less_by : Fn
  | [.tuple [.int a, .int b], .tuple [.int c, .int d]] => (match mulFit a d && (mulFit c b && mulFit b d) with
    | true => lowD (a * d - c * b) (b * d)
    | false => none)
  | _ => none
def M_multiplied : Fn
  | [.tuple [.int a, .int b], .tuple [.int c, .int d]] => (match mulFit a c && mulFit b d with
    | true => lowD (a * c) (b * d)
    | false => none)
  | _ => none
def M_quotient : Fn
  | [.tuple [.int a, .int b], .tuple [.int c, .int d]] => (match mulFit a d && mulFit b c with
    | true => lowD (a * d) (b * c)
    | false => none)
  | _ => none
def M_is_less : Fn
  | [.tuple [.int a, .int b], .tuple [.int c, .int d]] => (match mulFit a d && mulFit c b with
    | true => some (.ok (.bool (ltI (a * d) (c * b))))
    | false => none)
  | _ => none
theorem mul_of {i j : Int} (h : mulFit i j = true) : mulD (.int i) (.int j) = some (.int (i * j)) := by
  unfold mulD
  simp only [h]
theorem ix0 (a b : D) : ixD (.tuple [a, b]) (.int 0) = some a := rfl
theorem ix1 (a b : D) : ixD (.tuple [a, b]) (.int 1) = some b := rfl
theorem mir_added (ds : List D) (r : Except Exn D) (h : M_added ds = some r) : guard 2 (runF 2 gAdd) ds = some r := by
  unfold M_added at h
  split at h
  · rename_i a b c d
    cases hc : mulFit a d && (mulFit c b && mulFit b d) with
    | false => rw [hc] at h; cases h
    | true =>
      rw [hc] at h
      obtain ⟨c1, c2⟩ := Bool.and_eq_true_iff.mp hc
      obtain ⟨c2, c3⟩ := Bool.and_eq_true_iff.mp c2
      have h : lowD (a * d + c * b) (b * d) = some r := h
      cases r <;> simp [guard, runF, gAdd, sRet, mCall, mCons, mNil, mOp, mBind, mLift, mVar, mRet, ix0, ix1, mul_of c1, mul_of c2, mul_of c3, addD, M_in_lowest, h]
  · cases h
theorem mir_less_by (ds : List D) (r : Except Exn D) (h : M_less_by ds = some r) : guard 2 (runF 2 gLess) ds = some r := by
  unfold M_less_by at h
  split at h
  · rename_i a b c d
    cases hc : mulFit a d && (mulFit c b && mulFit b d) with
    | false => rw [hc] at h; cases h
    | true =>
      rw [hc] at h
      obtain ⟨c1, c2⟩ := Bool.and_eq_true_iff.mp hc
      obtain ⟨c2, c3⟩ := Bool.and_eq_true_iff.mp c2
      have h : lowD (a * d - c * b) (b * d) = some r := h
      cases r <;> simp [guard, runF, gLess, sRet, mCall, mCons, mNil, mOp, mBind, mLift, mVar, mRet, ix0, ix1, mul_of c1, mul_of c2, mul_of c3, subD, M_in_lowest, h]
  · cases h
theorem mir_multiplied (ds : List D) (r : Except Exn D) (h : M_multiplied ds = some r) : guard 2 (runF 2 gMul) ds = some r := by
  unfold M_multiplied at h
  split at h
  · rename_i a b c d
    cases hc : mulFit a c && mulFit b d with
    | false => rw [hc] at h; cases h
    | true =>
      rw [hc] at h
      obtain ⟨c1, c2⟩ := Bool.and_eq_true_iff.mp hc
      have h : lowD (a * c) (b * d) = some r := h
      cases r <;> simp [guard, runF, gMul, sRet, mCall, mCons, mNil, mOp, mBind, mLift, mVar, mRet, ix0, ix1, mul_of c1, mul_of c2, M_in_lowest, h]
  · cases h
theorem mir_quotient (ds : List D) (r : Except Exn D) (h : M_quotient ds = some r) : guard 2 (runF 2 gQuo) ds = some r := by
  unfold M_quotient at h
  split at h
  · rename_i a b c d
    cases hc : mulFit a d && mulFit b c with
    | false => rw [hc] at h; cases h
    | true =>
      rw [hc] at h
      obtain ⟨c1, c2⟩ := Bool.and_eq_true_iff.mp hc
      have h : lowD (a * d) (b * c) = some r := h
      cases r <;> simp [guard, runF, gQuo, sRet, mCall, mCons, mNil, mOp, mBind, mLift, mVar, mRet, ix0, ix1, mul_of c1, mul_of c2, M_in_lowest, h]
  · cases h
theorem mir_is_less (ds : List D) (r : Except Exn D) (h : M_is_less ds = some r) : guard 2 (runF 2 gLt) ds = some r := by
  unfold M_is_less at h
  split at h
  · rename_i a b c d
    cases hc : mulFit a d && mulFit c b with
    | false => rw [hc] at h; cases h
    | true =>
      rw [hc] at h
      obtain ⟨c1, c2⟩ := Bool.and_eq_true_iff.mp hc
      have h : some (Except.ok (PyData.bool (ltI (a * d) (c * b)))) = some r := h
      rw [← h]
      simp [guard, runF, gLt, sRet, mOp, mBind, mLift, mVar, mRet, ix0, ix1, mul_of c1, mul_of c2, cmpD]
  · cases h
end HB
namespace HB
open PySem L2
mutual
def eqP : D → D → Bool
  | .none, .none => true
  | .bool a, .bool b => a == b
  | .int a, .int b => decide (a = b)
  | .str a, .str b => decide (a = b)
  | .list a, .list b => eqPs a b
  | .tuple a, .tuple b => eqPs a b
  | .dict a, .dict b => eqPk a b
  | _, _ => false
def eqPs : List D → List D → Bool
  | [], [] => true
  | a :: r, b :: s => eqP a b && eqPs r s
  | _, _ => false
def eqPk : List (D × D) → List (D × D) → Bool
  | [], [] => true
  | (a, c) :: r, (b, d) :: s => eqP a b && (eqP c d && eqPk r s)
  | _, _ => false
end
mutual
theorem eqP_ok : ∀ (a b : D), eqP a b = true → a = b
  | .none, b, h => by cases b <;> first | rfl | (simp [eqP] at h)
  | .bool a, b, h => by cases b <;> first | (simp [eqP] at h; rw [h]) | (simp [eqP] at h)
  | .int a, b, h => by cases b <;> first | (simp [eqP] at h; rw [h]) | (simp [eqP] at h)
  | .str a, b, h => by cases b <;> first | (simp [eqP] at h; rw [h]) | (simp [eqP] at h)
  | .list a, b, h => by
    cases b with
    | list b => unfold eqP at h; rw [eqPs_ok a b h]
    | _ => simp [eqP] at h
  | .tuple a, b, h => by
    cases b with
    | tuple b => unfold eqP at h; rw [eqPs_ok a b h]
    | _ => simp [eqP] at h
  | .dict a, b, h => by
    cases b with
    | dict b => unfold eqP at h; rw [eqPk_ok a b h]
    | _ => simp [eqP] at h
theorem eqPs_ok : ∀ (a b : List D), eqPs a b = true → a = b
  | [], b, h => by cases b with
    | nil => rfl
    | cons _ _ => simp [eqPs] at h
  | a :: r, b, h => by cases b with
    | nil => simp [eqPs] at h
    | cons b s =>
      unfold eqPs at h
      obtain ⟨h1, h2⟩ := Bool.and_eq_true_iff.mp h
      rw [eqP_ok a b h1, eqPs_ok r s h2]
theorem eqPk_ok : ∀ (a b : List (D × D)), eqPk a b = true → a = b
  | [], b, h => by cases b with
    | nil => rfl
    | cons _ _ => simp [eqPk] at h
  | (a, c) :: r, b, h => by cases b with
    | nil => simp [eqPk] at h
    | cons b s =>
      obtain ⟨b, d⟩ := b
      unfold eqPk at h
      obtain ⟨h1, h2⟩ := Bool.and_eq_true_iff.mp h
      obtain ⟨h2, h3⟩ := Bool.and_eq_true_iff.mp h2
      rw [eqP_ok a b h1, eqP_ok c d h2, eqPk_ok r s h3]
end
end HB
namespace HB
open PySem L2
theorem J.putX {K : PySem.W.Frag} {G H G' H' : Hp} {ρ : En} {σ : St} (j : J K G ρ σ H) {i : Nat} {s : Sl} {ds es : List D} {a : Addr} {ws : List V} (h : ρ[i]? = some s) (hl : s.ls = some ds) (ha : σ[i]? = some (some (.ref a))) (g : Same G G') (new : ∀ b, G' b ≠ none → G b ≠ none ∨ H b = none) (sb : Sub K G' H')
    (kept : ∀ b o, b ≠ a → H b = some o → [NoT o] → H' b = some o) (dom : Dm H H') (ga : G' a = none) (hw : H' a = some (.lst ws)) (r : RpAll K G' ws es) : Ex K G ρ σ H G' (ρ.set i (s.put es)) σ H' := by
  obtain ⟨a', vs, h1, h2, h3, h4⟩ := j.own i s ds h hl
  rw [ha] at h1
  cases h1
  have od : Ownd ρ σ a := ⟨i, s, ds, h, Sl.ls_hs hl, ha⟩
  have np : ∀ d, s.put es ≠ .pur d := fun d z => by
    rcases Sl.put_is es hl with y | ⟨y, _⟩ <;> rw [y] at z <;> cases z
  have nd : ∀ o g z, s.put es ≠ .dl o g z := fun o g z w => by
    rcases Sl.put_is es hl with y | ⟨y, _⟩ <;> rw [y] at w <;> cases w
  have ng : ∀ o xs, s.put es ≠ .gst o xs := fun o xs w => by
    rcases Sl.put_is es hl with y | ⟨y, _⟩ <;> rw [y] at w <;> cases w
  have c : ∀ (m : Nat) (t : Sl) (us : List D), (ρ.set i (s.put es))[m]? = some t → t.hs = some us → ∃ t' us', ρ[m]? = some t' ∧ t'.hs = some us' := fun m t us hm ht => by
    rcases getElem?_set_cases hm with ⟨z1, _⟩ | ⟨_, z⟩
    · subst z1; exact ⟨s, ds, h, Sl.ls_hs hl⟩
    · exact ⟨t, us, z, ht⟩
  refine ⟨⟨sb, by rw [List.length_set]; exact j.len, fun k d q => ?_, fun k t fs q ht => ?_, fun k l t u fs gs b q1 l1 q2 l2 q3 q4 => ?_, fun k w o o2 z xs q1 q2 => ?_⟩, g, fun b hb => (new b hb).elim .inl fun z => .inr (.inl z), fun b o q n => kept b o (fun z => by subst z; exact n od) q, fun b hb => ?_, dom.d, fun k fs q => ?_, fun k t q ql => ?_, dom.t⟩
  · rcases getElem?_set_cases q with ⟨_, z⟩ | ⟨_, q'⟩
    · exact absurd z.symm (np d)
    · obtain ⟨v, y1, y2⟩ := j.pur k d q'
      exact ⟨v, y1, y2.mono g⟩
  · rcases getElem?_set_cases q with ⟨z1, z⟩ | ⟨z1, q'⟩
    · subst z
      subst z1
      rw [Sl.put_hs hl] at ht
      cases ht
      exact ⟨a, _, ha, hw, ga, .of (Sl.put_I hl) r⟩
    · obtain ⟨b, us, g1, g2, g3, g4⟩ := j.hold k t fs q' ht
      have ne : b ≠ a := fun z => by
        subst z
        exact z1 (j.alone k i t s fs ds b q' ht h (Sl.ls_hs hl) g1 ha)
      haveI := g4.noT
      refine ⟨b, us, g1, kept b _ ne g2, ?_, g4.mono g⟩
      cases y : G' b with
      | none => rfl
      | some o =>
        rcases new b (by rw [y]; simp) with w | w
        · exact absurd g3 w
        · rw [g2] at w; cases w
  · obtain ⟨t1, u1, c1, c2⟩ := c k t fs q1 l1
    obtain ⟨t2, u2, c3, c4⟩ := c l u gs q2 l2
    exact j.alone k l t1 t2 u1 u2 b c1 c2 c3 c4 q3 q4
  · rcases getElem?_set_cases q1 with ⟨_, y⟩ | ⟨y1, q1'⟩
    · exact absurd y.symm (nd o w z)
    · rcases getElem?_set_cases q2 with ⟨_, y⟩ | ⟨_, q2'⟩
      · exact absurd y.symm (ng o2 xs)
      · obtain ⟨b, v, u, g1, g2, g3⟩ := j.lk k w o o2 z xs q1' q2'
        have ne : b ≠ a := fun w => by
          subst w
          exact y1 (j.alone k i _ s _ ds b q1' rfl h (Sl.ls_hs hl) g1 ha)
        exact ⟨b, v, u, g1, kept b _ ne g2, g3⟩
  · obtain ⟨k, t, us, q1, l1, q2⟩ := hb
    obtain ⟨t1, u1, c1, c2⟩ := c k t us q1 l1
    exact .inl ⟨k, t1, u1, c1, c2, q2⟩
  · rcases getElem?_set_cases q with ⟨z1, z⟩ | ⟨z1, q'⟩
    · subst z1
      rcases Sl.put_is es hl with y | ⟨_, es0, y⟩
      · rw [y] at z; cases z
      · subst y; exact ⟨⟨es0, h⟩, rfl⟩
    · exact ⟨⟨fs, q'⟩, rfl⟩
  · rcases getElem?_set_cases q with ⟨_, y⟩ | ⟨_, q'⟩
    · subst y
      rcases Sl.put_is es hl with y | ⟨y, _⟩ <;> rw [y] at ql <;> cases ql
    · exact ⟨⟨t, q', ql⟩, rfl⟩
abbrev FnX := List D → List D → Option (Except Exn (List D × D))
def PostBX (K : PySem.W.Frag) (G H : Hp) (a : Addr) (Q : VK) : Option (Except Exn (List D × D)) → Prop
  | some (.ok (es, d)) => ∀ G' v H' ws, Same G G' → (∀ b, G' b ≠ none → G b ≠ none ∨ H b = none) → Sub K G' H' → (∀ b o, b ≠ a → H b = some o → [NoT o] → H' b = some o) → Dm H H' → G' a = none → H' a = some (.lst ws) → RpAll K G' ws es → Rp K G' v d → Q v H'
  | _ => False
def spX (K : PySem.W.Frag) (n : Nat) (F : FnX) : Sp := fun vs H Q _ => ∃ a us us' ds ds' G, vs = .ref a :: us' ∧ H a = some (.lst us) ∧ G a = none ∧ Sub K G H ∧ RpAll K G us ds ∧ RpAll K G us' ds' ∧ ds'.length = n ∧ PostBX K G H a Q (F ds ds')
structure FnXE (P : Program) (w : World) (K : PySem.W.Frag) (mg : Str → Option Value) (base : Heap) (k : Nat) (x : Str) (n : Nat) (F : FnX) : Prop where
  ex : ∃ fd ps, FnOk P w K mg base (L2.CX P w) k (He.ga K x) fd ps (spX K n F) ∧ Binds K fd ps []
  kp : PySem.W.keepIn K (.ref (He.ga K x)) = true
  gl : mg x = some (.ref (He.ga K x))
  ln : ∀ ds ds', F ds ds' ≠ none → ds'.length = n
def atL (ρ : En) (i : Nat) : Option (Sl × List D) := match ρ[i]? with
  | none => none
  | some s => match s.ls with
    | none => none
    | some ds => some (s, ds)
theorem atL_ok {ρ : En} {i : Nat} {s : Sl} {ds : List D} (h : atL ρ i = some (s, ds)) : ρ[i]? = some s ∧ s.ls = some ds := by
  unfold atL at h
  split at h
  · cases h
  · rename_i s' e
    split at h
    · cases h
    · rename_i ds' e'
      cases h
      exact ⟨e, e'⟩
def mCallX (F : FnX) (i : Nat) (f : Mo (List D)) : Mo D := fun ρ => match atL ρ i with
  | none => none
  | some _ => mBind f (fun as ρ1 => match atL ρ1 i with
    | none => none
    | some (s, ds) => match F ds as with
      | some (.ok (es, d)) => some (.ok (ρ1.set i (s.put es), d))
      | _ => none) ρ
section
variable {X : Cx} {E : XK}
theorem ev_callX {k n : Nat} {x y : Str} {F : FnX} {i : Nat} {p p1 pos : Pos} {es : List Expr} {f : Mo (List D)} (hF : FnXE X.prog X.w X.K X.mg X.base k x n F) (hr : Room k X.A) (hx : Passes (L2.CX X.prog X.w) X E)
    (ha : EA X E es f) (hN : X.N[i]? = some y := by rfl) (hv : Vis X.env.scope y := by first | exact Or.inl rfl | exact Or.inr (Or.inl rfl) | exact Or.inr (Or.inr rfl)) (hd : (y == ("__debug__" : Str)) = false := by decide) (hcd : (y == ("__classdict__" : Str)) = false := by decide)
    (hg : Gl X x := by rfl) (hdb : (x == ("__debug__" : Str)) = false := by decide) (he : starEach (.Name y p1 :: es) X.env = (false, eval (.Name y p1) X.env) :: starEach es X.env := by rfl)
    (hpl : (backTo pos (starEach es X.env)).any (·.1) = false := by rfl) : EV X E (.Call (.Name x p) (.Name y p1 :: es) [] pos) (mCallX F i f) := by
  obtain ⟨⟨fd, ps, h1, h2⟩, kp, gl, hl⟩ := hF
  obtain ⟨t, pt, q⟩ := ha
  refine ⟨_, pe_call h1 hr hg gl kp h2 .nil hx (pa_cons (pe_var hN hv hd hcd) pt he) hdb he hpl, fun G ρ σ H Q j h => ?_⟩
  unfold mCallX at h
  cases h0 : atL ρ i with
  | none => rw [h0] at h; exact h.elim
  | some sd =>
    obtain ⟨s0, ds0⟩ := sd
    rw [h0] at h
    obtain ⟨z1, z2⟩ := atL_ok h0
    obtain ⟨a, vs, y1, y2, y3, y4⟩ := j.own i s0 ds0 z1 z2
    refine ⟨.ref a, y1, q G ρ σ H _ j (Post.imp h fun G1 ρ1 us H1 as e1 r1 k => ?_)⟩
    have k' : Post X.K E (Rp X.K) G1 ρ1 σ H1 Q (match atL ρ1 i with
      | none => none
      | some (s, ds) => match F ds as with
        | some (.ok (es, d)) => some (.ok (ρ1.set i (s.put es), d))
        | _ => none) := k
    show spX X.K n F ((.ref a :: us) ++ []) H1 Q E
    rw [List.append_nil]
    cases h3 : atL ρ1 i with
    | none => rw [h3] at k'; exact k'.elim
    | some sd =>
      obtain ⟨s, ds⟩ := sd
      simp only [h3] at k'
      obtain ⟨w1, w2⟩ := atL_ok h3
      obtain ⟨a2, ws, u1, u2, u3, u4⟩ := e1.j.own i s ds w1 w2
      rw [y1] at u1
      cases u1
      match hf : F ds as, k' with
      | none, k' => simp only [hf] at k'; exact k'.elim
      | some (.error _), k' => simp only [hf] at k'; exact k'.elim
      | some (.ok (es2, d)), k' =>
        simp only [hf] at k'
        refine ⟨a, ws, us, ds, as, G1, rfl, u2, u3, e1.j.sub, u4, r1, hl ds as (by rw [hf]; simp), ?_⟩
        rw [hf]
        intro G' v H' ws' b1 b2 b3 b4 b5 b6 b7 b8 b9
        exact k' G' v H' (e1.j.putX w1 w2 y1 b1 b2 b3 b4 b5 b6 b7 b8) b9
/-- xs[e], xs[e] = e2 of such a list -/
def mIxB (i : Nat) (f : Mo D) : Mo D := fun ρ => match atL ρ i with
  | none => none
  | some _ => mBind f (fun k ρ1 => match atL ρ1 i with
    | some (_, ds) => mLift (ixD (.list ds) k) ρ1
    | none => none) ρ
theorem ev_ixB {i : Nat} {x : Str} {e : Expr} {f : Mo D} {p1 pos : Pos} (h : EV X E e f) (hN : X.N[i]? = some x := by rfl) (hv : Vis X.env.scope x := by first | exact Or.inl rfl | exact Or.inr (Or.inl rfl) | exact Or.inr (Or.inr rfl)) (hd : (x == ("__debug__" : Str)) = false := by decide) (hcd : (x == ("__classdict__" : Str)) = false := by decide)
    (hs : PlainIx e := by exact fun _ _ => rfl) : EV X E (.Subscript (.Name x p1) e pos) (mIxB i f) := by
  obtain ⟨t, p, q⟩ := h
  refine ⟨_, pe_ix ix_seq (pe_var hN hv hd hcd) p hs, fun G ρ σ H Q j h => ?_⟩
  unfold mIxB at h
  cases h0 : atL ρ i with
  | none => rw [h0] at h; exact h.elim
  | some sd =>
    obtain ⟨s0, ds0⟩ := sd
    rw [h0] at h
    obtain ⟨z1, z2⟩ := atL_ok h0
    obtain ⟨a, vs, y1, y2, y3, y4⟩ := j.own i s0 ds0 z1 z2
    refine ⟨.ref a, y1, q G ρ σ H _ j (Post.imp h fun G1 ρ1 y H1 k e1 r1 h5 => ?_)⟩
    have k' : Post X.K E (Rp X.K) G1 ρ1 σ H1 Q (match atL ρ1 i with
      | some (_, ds) => mLift (ixD (.list ds) k) ρ1
      | none => none) := h5
    cases h3 : atL ρ1 i with
    | none => rw [h3] at k'; exact k'.elim
    | some sd =>
      obtain ⟨s, ds⟩ := sd
      simp only [h3] at k'
      obtain ⟨w1, w2⟩ := atL_ok h3
      obtain ⟨a2, ws, u1, u2, u3, u4⟩ := e1.j.own i s ds w1 w2
      rw [y1] at u1
      cases u1
      obtain ⟨c, hc, kk⟩ := Post.lift (ρ' := ρ1) k'
      cases r1 with
      | int n =>
        obtain ⟨v, q1, q2⟩ := u4.atI hc
        exact .inl ⟨_, _, _, _, rfl, rfl, .of u2, q1, kk G1 v H1 e1.j.refl q2⟩
      | _ => cases hc
def sPutB (i : Nat) (fi fe : Mo D) : Mo Fl := mBind fe fun d ρ => match atL ρ i with
  | none => none
  | some _ => mBind fi (fun k ρ1 => match atL ρ1 i with
    | none => none
    | some (s, ds) => match intOf k with
      | some n => match ixN ds.length n with
        | some m => some (.ok (ρ1.set i (s.put (ds.set m d)), .nx))
        | none => none
      | none => none) ρ
theorem s_putB {i : Nat} {x : Str} {e ie : Expr} {fi fe : Mo D} {p1 tpos pos : Pos} (h : EV X E e fe) (hi : EV X E ie fi) (hN : X.N[i]? = some x := by rfl) (hv : Vis X.env.scope x := by first | exact Or.inl rfl | exact Or.inr (Or.inl rfl) | exact Or.inr (Or.inr rfl)) (hd : (x == ("__debug__" : Str)) = false := by decide) (hcd : (x == ("__classdict__" : Str)) = false := by decide)
    (hpg : ∀ {to ti : TE} {t : TSet}, PE X (.Name x p1) to → PE X ie ti → PSet X t → PG X (.Subscript (.Name x p1) ie tpos) (gSub to ti t) := by exact fun a b c => pg_sub a b c)
    (hs : swapsWithSole [.Subscript (.Name x p1) ie tpos] e pos.line X.env = pure false := by rfl) (hw : swappedStores [.Subscript (.Name x p1) ie tpos] e X.env = pure none := by rfl)
    (ha : (assignEach [.Subscript (.Name x p1) ie tpos] X.env).map (·.2) = [assign (.Subscript (.Name x p1) ie tpos) X.env] := by rfl) : SV X E (.Assign [.Subscript (.Name x p1) ie tpos] e pos) (sPutB i fi fe) := by
  obtain ⟨t, p, q⟩ := h
  obtain ⟨ti, pi, qi⟩ := hi
  refine ⟨_, ps_asg p (hpg (pe_var hN hv hd hcd) pi set_list) hs hw ha, fun G ρ σ H De j h => q G ρ σ H _ j (PostS.imp h fun G1 ρ1 v H1 d e1 r1 k => ?_)⟩
  have k' : PostS X.K E G1 ρ1 σ H1 De (match atL ρ1 i with
    | none => none
    | some _ => mBind fi (fun k ρ1 => match atL ρ1 i with
      | none => none
      | some (s, ds) => match intOf k with
        | some n => match ixN ds.length n with
          | some m => some (.ok (ρ1.set i (s.put (ds.set m d)), .nx))
          | none => none
        | none => none) ρ1) := k
  cases h0 : atL ρ1 i with
  | none => rw [h0] at k'; exact k'.elim
  | some sd =>
    obtain ⟨s0, ds0⟩ := sd
    rw [h0] at k'
    obtain ⟨z1, z2⟩ := atL_ok h0
    obtain ⟨a, vs, y1, y2, y3, y4⟩ := e1.j.own i s0 ds0 z1 z2
    refine ⟨.ref a, y1, qi G1 ρ1 σ H1 _ e1.j (PostS.imp k' fun G2 ρ2 iv H2 kd e2 r2 k2 => ?_)⟩
    have k2' : PostS X.K E G2 ρ2 σ H2 De (match atL ρ2 i with
      | none => none
      | some (s, ds) => match intOf kd with
        | some n => match ixN ds.length n with
          | some m => some (.ok (ρ2.set i (s.put (ds.set m d)), .nx))
          | none => none
        | none => none) := k2
    cases h3 : atL ρ2 i with
    | none => rw [h3] at k2'; exact k2'.elim
    | some sd =>
      obtain ⟨s, ds⟩ := sd
      simp only [h3] at k2'
      obtain ⟨w1, w2⟩ := atL_ok h3
      obtain ⟨a2, ws, u1, u2, u3, u4⟩ := e2.j.own i s ds w1 w2
      rw [y1] at u1
      cases u1
      cases r2 with
      | int n =>
        simp only [intOf] at k2'
        cases hx : ixN ds.length n with
        | none => simp only [hx] at k2'; exact k2'.elim
        | some m =>
          simp only [hx] at k2'
          exact ⟨a, ws, n, m, rfl, rfl, u2, by rw [u4.length]; exact hx, k2' G2 σ _ (e2.j.putS w1 w2 y1 (RpAll.set (r1.mono e2.g) m u4))⟩
      | _ => exact k2'.elim
end
theorem J.consB {K : PySem.W.Frag} {G H : Hp} {ρ : En} {σ : St} {a : Addr} {us : List V} {ds : List D} (j : J K G ρ σ H) (no : ∀ b, ¬ Ownd ρ σ b) (h1 : H a = some (.lst us)) (h2 : G a = none) (r : RpAll K G us ds) : J K G (.box ds :: ρ) (some (.ref a) :: σ) H := by
  refine ⟨j.sub, congrArg (· + 1) j.len, fun i d h => ?_, fun i s es h hl => ?_, fun i k s t es fs b e1 l1 e2 l2 e3 e4 => ?_, fun i g o1 o2 z xs e1 e2 => ?_⟩
  · cases i with
    | zero => cases h
    | succ i => exact j.pur i d h
  · cases i with
    | zero => cases h; cases hl; exact ⟨a, _, rfl, h1, h2, ⟨us, rfl, r⟩⟩
    | succ i => exact j.hold i s es h hl
  · cases i with
    | zero => cases k with
      | zero => rfl
      | succ k => exact absurd ⟨k, t, fs, e2, l2, e4⟩ (no b)
    | succ i => exact absurd ⟨i, s, es, e1, l1, e3⟩ (no b)
  · cases i with
    | zero => cases e1
    | succ i =>
      obtain ⟨a, _, q, _⟩ := j.hold i _ _ e1 rfl
      exact absurd ⟨i, _, _, e1, rfl, q⟩ (no a)
def box0 : En → Option (List D)
  | .box es :: _ => some es
  | _ => none
theorem box0_ok {ρ : En} {es : List D} (h : box0 ρ = some es) : ρ[0]? = some (.box es) := by
  unfold box0 at h
  split at h
  · cases h; rfl
  · cases h
def runX (n : Nat) (g : Mo Fl) : FnX := fun ds as => match g (.box ds :: (as.map Sl.pur ++ List.replicate (n - as.length) Sl.no)) with
  | some (.ok (ρ', .rt d)) => (match box0 ρ' with
    | some es => some (.ok (es, d))
    | none => none)
  | some (.ok (ρ', .nx)) => (match box0 ρ' with
    | some es => some (.ok (es, .none))
    | none => none)
  | _ => none
def guardX (n : Nat) (F : FnX) : FnX := fun ds as => match Nat.beq as.length n with
  | true => F ds as
  | false => none
theorem bodyX {K : PySem.W.Frag} {E : XK} {N : List Str} {x : Str} {g : Mo Fl} {t : TS} {n : Nat} (q : ∀ G ρ σ H De, J K G ρ σ H → PostS K E G ρ σ H De (g ρ) → t De σ H) {vs : List V} {H : Hp} {Q : VK} (h : spX K n (guardX n (runX N.length g)) vs H Q E) :
    t { nx := fun _ H' => Q .non H', rt := Q } (start (x :: N) vs) H := by
  obtain ⟨a, us, us', ds, as, G, rfl, h1, h2, s, r1, r2, hl, k⟩ := h
  rw [start_cons]
  have e0 : guardX n (runX N.length g) ds as = runX N.length g ds as := by
    unfold guardX
    have e : Nat.beq as.length n = true := by rw [hl]; exact Nat.beq_refl _
    rw [e]
  rw [e0] at k
  have no : ∀ b, ¬ Ownd (as.map Sl.pur ++ List.replicate (N.length - as.length) Sl.no) (start N us') b := fun b => start_no
  have j0 := (start_j (N := N) s r2).consB no h1 h2 r1
  have own1 : ∀ b, Ownd (.box ds :: (as.map Sl.pur ++ List.replicate (N.length - as.length) Sl.no)) (some (.ref a) :: start N us') b → b = a := fun b z => by
    obtain ⟨i, s, es, z1, z2, z3⟩ := z
    cases i with
    | zero => cases z3; rfl
    | succ i => exact absurd ⟨i, s, es, z1, z2, z3⟩ (no b)
  have fin : ∀ (ρ' : En) (es : List D) (d : D) (G' : Hp) (σ' : St) (v : V) (H' : Hp), ρ'[0]? = some (.box es) → Ex K G (.box ds :: (as.map Sl.pur ++ List.replicate (N.length - as.length) Sl.no)) (some (.ref a) :: start N us') H G' ρ' σ' H' → Rp K G' v d → PostBX K G H a Q (some (.ok (es, d))) → Q v H' := by
    intro ρ' es d G' σ' v H' hb z rv kk
    obtain ⟨_, w2⟩ := z.bx 0 es hb
    obtain ⟨a2, ws, u1, u2, u3, u4⟩ := z.j.own 0 _ es hb rfl
    rw [w2] at u1
    cases u1
    refine kk G' v H' ws z.g (fun b hb => ?_) z.j.sub (fun b o hb q => z.kept b o q fun y => hb (own1 b y)) ⟨z.dom, z.tt⟩ u3 u2 u4 rv
    rcases z.new b hb with y | y | y
    · exact .inl y
    · exact .inr y
    · have e := own1 b y
      subst e
      exact absurd u3 hb
  refine q G _ _ H _ j0 ?_
  unfold runX at k
  match hg : g (.box ds :: (as.map Sl.pur ++ List.replicate (N.length - as.length) Sl.no)), k with
  | none, k => simp only [hg] at k; exact k.elim
  | some (.error y), k => simp only [hg] at k; exact k.elim
  | some (.ok (ρ', .rt d)), k =>
    simp only [hg] at k
    cases hb : box0 ρ' with
    | none => simp only [hb] at k; exact k.elim
    | some es => simp only [hb] at k; exact fun G' σ' v H' z rv => fin ρ' es d G' σ' v H' (box0_ok hb) z rv k
  | some (.ok (ρ', .nx)), k =>
    simp only [hg] at k
    cases hb : box0 ρ' with
    | none => simp only [hb] at k; exact k.elim
    | some es => simp only [hb] at k; exact fun G' σ' H' z => fin ρ' es .none G' σ' .non H' (box0_ok hb) z .non k
  | some (.ok (ρ', .bk)), k => simp only [hg] at k; exact k.elim
  | some (.ok (ρ', .ct)), k => simp only [hg] at k; exact k.elim
theorem fn_okX {P : Program} {w : World} {K : PySem.W.Frag} {mg : Str → Option Value} {base : Heap} {x y : Str} {st : Stmt} {fd : FuncData} {N ps : List Str} {k : Nat} {g : Mo Fl} (F : FunD K x x (defArgs st) (defBody st) (defScope st) [] [] (He.ga K x) fd) (S : FnScope (y :: N) (y :: ps) (defScope st)) (gl : mg x = some (.ref (He.ga K x)))
    (b : ∀ (kV doc pm : Value) (an : Option Addr) (cdv ct : Value) (us : List Value), us.length = (y :: ps).length → bindArgs (PySem.W.fnOf x x (defArgs st) (defBody st) (defScope st) .none kV doc pm an cdv ct) ⟨us, []⟩ = pure ((y :: ps).zip us))
    (hb : ∀ (cdv : Value) (A : Around) (outer : List PySem.Env) (s : Shared) (H : Hp) (E : XK), Room k (A.deeper (PyProof.Rows.envOfC x (defScope st) s.heap.objs.size (He.ga K x) cdv)) → SVs (cxOf (L2.CX P w) P w K mg base (y :: N) x (defScope st) (He.ga K x) cdv A outer s H E) E (defBody st) g) :
    FnXE P w K mg base (k + 1) x ps.length (guardX ps.length (runX N.length g)) := by
  refine ⟨⟨fd, y :: ps, F.ok S (fun vs H Q E h => ?_) fun cdv A outer s H vs Q E hr h => ?_, F.bindsN b⟩, F.kp, gl, fun ds as h => ?_⟩
  · obtain ⟨a, us, us', ds, as, G, rfl, _, _, _, _, r, hl, _⟩ := h
    show us'.length + 1 = ps.length + 1
    rw [r.length, hl]
  · obtain ⟨t, p, q⟩ := hb cdv A outer s H E hr
    exact ⟨t, p, bodyX q h⟩
  · unfold guardX at h
    cases q : Nat.beq as.length ps.length with
    | true => exact Nat.eq_of_beq_eq_true q
    | false => rw [q] at h; exact absurd rfl h
end HB
namespace HB
open PySem L2
abbrev FnN := List D → Option (Except Exn (List D))
def PostFN (K : PySem.W.Frag) (G H : Hp) (Q : VK) : Option (Except Exn (List D)) → Prop
  | some (.ok ds) => ∀ G' a vs H', PX G H G' H' → H a = none → G' a = none → H' a = some (.lst vs) → RpAll K G' vs ds → Q (.ref a) H'
  | _ => False
def spN (K : PySem.W.Frag) (n : Nat) (F : FnN) : Sp := fun vs H Q _ => ∃ G ds, Sub K G H ∧ RpAll K G vs ds ∧ ds.length = n ∧ PostFN K G H Q (F ds)
structure FnNE (P : Program) (w : World) (K : PySem.W.Frag) (mg : Str → Option Value) (base : Heap) (k : Nat) (x : Str) (n : Nat) (F : FnN) : Prop where
  ex : ∃ fd ps, FnOk P w K mg base (L2.CX P w) k (He.ga K x) fd ps (spN K n F) ∧ Binds K fd ps []
  kp : PySem.W.keepIn K (.ref (He.ga K x)) = true
  gl : mg x = some (.ref (He.ga K x))
  ln : ∀ ds, F ds ≠ none → ds.length = n
def mCallN (F : FnN) (a : Mo (List D)) : Mo (List D) := mBind a fun ds ρ => match F ds with
  | some (.ok es) => some (.ok (ρ, es))
  | _ => none
section
variable {X : Cx} {E : XK}
theorem en_call {k n : Nat} {x : Str} {F : FnN} {p pos : Pos} {e : Expr} {es : List Expr} {f : Mo (List D)} (hF : FnNE X.prog X.w X.K X.mg X.base k x n F) (hr : Room k X.A) (hx : Passes (L2.CX X.prog X.w) X E)
    (ha : EA X E (e :: es) f) (hg : Gl X x := by rfl) (hdb : (x == ("__debug__" : Str)) = false := by decide) (he : starEach (e :: es) X.env = (false, eval e X.env) :: starEach es X.env := by rfl)
    (hpl : (backTo pos (starEach es X.env)).any (·.1) = false := by rfl) : EN X E (.Call (.Name x p) (e :: es) [] pos) (mCallN F f) := by
  obtain ⟨⟨fd, ps, h1, h2⟩, kp, gl, hl⟩ := hF
  obtain ⟨t, pt, q⟩ := ha
  refine ⟨_, pe_call h1 hr hg gl kp h2 .nil hx pt hdb he hpl, fun G ρ σ H Q j h => ?_⟩
  refine q G ρ σ H _ j (Post.impN h fun G1 ρ1 vs H1 ds e1 r1 h1 => ?_)
  show spN X.K n F (vs ++ []) H1 Q E
  rw [List.append_nil]
  have h1' : PostN X.K E G1 ρ1 σ H1 Q (match F ds with
    | some (.ok es) => some (.ok (ρ1, es))
    | _ => none) := h1
  match hf : F ds, h1' with
  | none, h1' => simp only [hf] at h1'; exact h1'.elim
  | some (.error _), h1' => simp only [hf] at h1'; exact h1'.elim
  | some (.ok es2), h1' =>
    simp only [hf] at h1'
    refine ⟨G1, ds, e1.j.sub, r1, hl ds (by rw [hf]; simp), ?_⟩
    rw [hf]
    intro G' a ws H' px z1 z2 z3 z4
    exact h1' G' (.ref a) H' (e1.j.ex px) ⟨a, ws, rfl, z1, z2, z3, e1.j.nown z1, z4⟩
/-- a body that ends with: return a new list -/
def PostR (K : PySem.W.Frag) (E : XK) (G : Hp) (ρ : En) (σ : St) (H : Hp) (De : Ends) : Option (Except Exn (En × List D)) → Prop
  | some (.ok (ρ', ds)) => ∀ G' σ' a vs H', Ex K G ρ σ H G' ρ' σ' H' → H a = none → G' a = none → H' a = some (.lst vs) → RpAll K G' vs ds → De.rt (.ref a) H'
  | _ => False
def SVN (X : Cx) (E : XK) (s : List Stmt) (g : Mo (List D)) : Prop := ∃ t, PSs X s t ∧ ∀ G ρ σ H De, J X.K G ρ σ H → PostR X.K E G ρ σ H De (g ρ) → t De σ H
def rRet (f : Mo (List D)) : Mo (List D) := fun ρ => match f ρ with
  | some (.ok r) => some (.ok r)
  | _ => none
theorem svn_ret {e : Expr} {f : Mo (List D)} {pos : Pos} (h : EN X E e f) : SVN X E [.Return (some e) pos] (rRet f) := by
  obtain ⟨t, p, q⟩ := h
  refine ⟨_, pss_one (ps_ret p), fun G ρ σ H De j h => q G ρ σ H _ j ?_⟩
  unfold rRet at h
  match hf : f ρ, h with
  | none, h => exact h.elim
  | some (.error _), h => exact h.elim
  | some (.ok (ρ', ds)), h =>
    intro G' v H' e r
    obtain ⟨a, vs, rfl, z1, z2, z3, no, z4⟩ := r
    exact h G' σ a vs H' e z1 z2 z3 z4
def rSeq (a : Mo Fl) (g : Mo (List D)) : Mo (List D) := fun ρ => match a ρ with
  | some (.ok (ρ1, .nx)) => g ρ1
  | _ => none
theorem svn_cons {s : Stmt} {rest : List Stmt} {a : Mo Fl} {g : Mo (List D)} (h1 : SV X E s a) (h2 : SVN X E rest g) : SVN X E (s :: rest) (rSeq a g) := by
  obtain ⟨t, p, q⟩ := h1
  obtain ⟨t2, p2, q2⟩ := h2
  refine ⟨_, pss_cons p p2, fun G ρ σ H De j h => q G ρ σ H _ j ?_⟩
  unfold rSeq at h
  match ha : a ρ, h with
  | none, h => exact h.elim
  | some (.error _), h => exact h.elim
  | some (.ok (ρ1, .nx)), h =>
    intro G1 σ1 H1 e1
    refine q2 G1 ρ1 σ1 H1 De e1.j ?_
    match hg : g ρ1, h with
    | none, h => simp only [hg] at h; exact h.elim
    | some (.error _), h => simp only [hg] at h; exact h.elim
    | some (.ok (ρ2, ds)), h =>
      simp only [hg] at h
      exact fun G' σ' a vs H' e2 z1 z2 z3 z4 => h G' σ' a vs H' (e1.trans e2) (e1.dom a z1) z2 z3 z4
  | some (.ok (ρ1, .rt _)), h => exact h.elim
  | some (.ok (ρ1, .bk)), h => exact h.elim
  | some (.ok (ρ1, .ct)), h => exact h.elim
end
def runN (n : Nat) (g : Mo (List D)) : FnN := fun ds => match g (ds.map Sl.pur ++ List.replicate (n - ds.length) Sl.no) with
  | some (.ok (_, es)) => some (.ok es)
  | _ => none
def guardN (n : Nat) (F : FnN) : FnN := fun ds => match Nat.beq ds.length n with
  | true => F ds
  | false => none
theorem fn_okN {P : Program} {w : World} {K : PySem.W.Frag} {mg : Str → Option Value} {base : Heap} {x : Str} {st : Stmt} {fd : FuncData} {N ps : List Str} {k : Nat} {g : Mo (List D)} (F : FunD K x x (defArgs st) (defBody st) (defScope st) [] [] (He.ga K x) fd) (S : FnScope N ps (defScope st)) (gl : mg x = some (.ref (He.ga K x)))
    (b : ∀ (kV doc pm : Value) (an : Option Addr) (cdv ct : Value) (us : List Value), us.length = ps.length → bindArgs (PySem.W.fnOf x x (defArgs st) (defBody st) (defScope st) .none kV doc pm an cdv ct) ⟨us, []⟩ = pure (ps.zip us))
    (hb : ∀ (cdv : Value) (A : Around) (outer : List PySem.Env) (s : Shared) (H : Hp) (E : XK), Room k (A.deeper (PyProof.Rows.envOfC x (defScope st) s.heap.objs.size (He.ga K x) cdv)) → SVN (cxOf (L2.CX P w) P w K mg base N x (defScope st) (He.ga K x) cdv A outer s H E) E (defBody st) g) :
    FnNE P w K mg base (k + 1) x ps.length (guardN ps.length (runN N.length g)) := by
  refine ⟨⟨fd, ps, F.ok S (fun vs H Q E h => ?_) fun cdv A outer s H vs Q E hr h => ?_, F.bindsN b⟩, F.kp, gl, fun ds h => ?_⟩
  · obtain ⟨G, ds, _, r, hl, _⟩ := h
    rw [r.length, hl]
  · obtain ⟨t, p, q⟩ := hb cdv A outer s H E hr
    refine ⟨t, p, ?_⟩
    obtain ⟨G, ds, sb, r, hl, k⟩ := h
    have e0 : guardN ps.length (runN N.length g) ds = runN N.length g ds := by
      unfold guardN
      have e : Nat.beq ds.length ps.length = true := by rw [hl]; exact Nat.beq_refl _
      rw [e]
    rw [e0] at k
    refine q G _ _ H _ (start_j sb r) ?_
    have no : ∀ b, ¬ Ownd (ds.map Sl.pur ++ List.replicate (N.length - ds.length) Sl.no) (start N vs) b := fun b => start_no
    unfold runN at k
    match hg : g (ds.map Sl.pur ++ List.replicate (N.length - ds.length) Sl.no), k with
    | none, k => simp only [hg] at k; exact k.elim
    | some (.error _), k => simp only [hg] at k; exact k.elim
    | some (.ok (ρ', es)), k =>
      simp only [hg] at k
      exact fun G' σ' a ws H' z z1 z2 z3 z4 => k G' a ws H' (z.px no) z1 z2 z3 z4
  · unfold guardN at h
    cases q : Nat.beq ds.length ps.length with
    | true => exact Nat.eq_of_beq_eq_true q
    | false => rw [q] at h; exact absurd rfl h
end HB
namespace HB
open PySem L2
theorem FnXE.by {P : Program} {w : World} {K : PySem.W.Frag} {mg : Str → Option Value} {base : Heap} {k n : Nat} {x : Str} {F F' : FnX} (h : FnXE P w K mg base k x n F) (e : ∀ ds as r, F' ds as = some r → F ds as = some r) : FnXE P w K mg base k x n F' := by
  obtain ⟨⟨fd, ps, h1, h2⟩, kp, gl, hl⟩ := h
  refine ⟨⟨fd, ps, h1.imp fun vs H Q E q => ?_, h2⟩, kp, gl, fun ds as q => ?_⟩
  · obtain ⟨a, us, us', ds, as, G, z1, z2, z3, z4, z5, z6, z7, z8⟩ := q
    refine ⟨a, us, us', ds, as, G, z1, z2, z3, z4, z5, z6, z7, ?_⟩
    cases e1 : F' ds as with
    | none => rw [e1] at z8; exact z8.elim
    | some o => rw [e ds as o e1]; rw [e1] at z8; exact z8
  · cases e1 : F' ds as with
    | none => exact absurd e1 q
    | some o => exact hl ds as (by rw [e ds as o e1]; simp)
def gTake : Mo Fl := sSeq (sIf (mTest (mOp (cmpD gtI) (mIxB 0 (mRet (.int 0))) (mRet (.int 0)))) (sSeq (sSet 4 (mOp modD (mBuilt intD (mCons (mIxB 0 (mRet (.int 0))) (mNil))) (mVar 1)))
  (sSeq (sPutB 0 (mRet (.int 0)) (mOp fdivD (mIxB 0 (mRet (.int 0))) (mVar 1)))
  (sRet (mVar 4)))) (sNext))
  (sSeq (sPutB 0 (mRet (.int 2)) (mOp addD (mIxB 0 (mRet (.int 2))) (mRet (.int 1))))
  (sSeq (sSet 2 (mOp modD (mBuilt intD (mCons (mOp mulD (mOp addD (mIxB 0 (mRet (.int 1))) (mOp mulD (mRet (.int 104729)) (mIxB 0 (mRet (.int 2))))) (mRet (.int 69623))) (mNil))) (mRet (.int 2147483647))))
  (sSeq (sPutB 0 (mRet (.int 1)) (mOp addD (mOp modD (mBuilt intD (mCons (mOp addD (mOp mulD (mVar 2) (mRet (.int 48271))) (mRet (.int 30103))) (mNil))) (mRet (.int 2147483629))) (mRet (.int 1))))
  (sSeq (sIf (mTest (mOp (cmpD ltI) (mVar 1) (mOp powD (mRet (.int 2)) (mRet (.int 40))))) (sRet (mOp modD (mBuilt intD (mCons (mOp fdivD (mOp addD (mOp mulD (mVar 2) (mRet (.int 2147483647))) (mIxB 0 (mRet (.int 1)))) (mRet (.int 8191))) (mNil))) (mVar 1))) (sNext))
  (sSeq (sSet 3 (mOp mulD (mOp addD (mOp mulD (mVar 2) (mRet (.int 2147483647))) (mIxB 0 (mRet (.int 1)))) (mOp powD (mRet (.int 2147483629)) (mRet (.int 3)))))
  (sRet (mOp modD (mBuilt intD (mCons (mOp addD (mOp addD (mVar 3) (mOp mulD (mOp powD (mIxB 0 (mRet (.int 1))) (mRet (.int 3))) (mRet (.int 8191)))) (mVar 2)) (mNil))) (mVar 1))))))))
def rawV (s c : Int) : Int := ((s + 104729 * (c + 1)) * 69623) % 2147483647
def nextV (r : Int) : Int := (r * 48271 + 30103) % 2147483629 + 1
def takeOk (s c : Int) : Bool := mulFit 104729 (c + 1) && (mulFit (s + 104729 * (c + 1)) 69623 && (mulFit (rawV s c) 48271 && mulFit (rawV s c) 2147483647))
def M_law_take : FnX
  | [.int x, .int s, .int c], [.int n] => (match decide (0 < n) && Nat.blt n.natAbs.log2 9000 with
    | false => none
    | true => match gtI x 0 with
      | true => some (.ok ([.int (x / n), .int s, .int c], .int (x % n)))
      | false => match ltI n 1099511627776 && takeOk s c with
        | true => some (.ok ([.int x, .int (nextV (rawV s c)), .int (c + 1)], .int ((rawV s c * 2147483647 + nextV (rawV s c)) / 8191 % n)))
        | false => none)
  | _, _ => none
theorem fdiv_of {i j : Int} (h1 : 0 < j) (h2 : Nat.blt j.natAbs.log2 9000 = true) : fdivD (.int i) (.int j) = some (.int (i / j)) := by
  unfold fdivD
  simp only
  rw [if_pos ⟨h1, Nat.le_of_ble_eq_true h2⟩]
theorem mod_of {i j : Int} (h1 : 0 < j) : modD (.int i) (.int j) = some (.int (i % j)) := by
  unfold modD
  simp only
  rw [if_pos h1]
theorem mir_law_take (ds as : List D) (r : Except Exn (List D × D)) (h : M_law_take ds as = some r) : guardX 1 (runX 4 gTake) ds as = some r := by
  unfold M_law_take at h
  split at h
  · rename_i x s c n
    cases hc : decide (0 < n) && Nat.blt n.natAbs.log2 9000 with
    | false => rw [hc] at h; cases h
    | true =>
      rw [hc] at h
      obtain ⟨c1, c2⟩ := Bool.and_eq_true_iff.mp hc
      have hn : 0 < n := of_decide_eq_true c1
      have fd : ∀ i, fdivD (.int i) (.int n) = some (.int (i / n)) := fun i => fdiv_of hn c2
      have md : ∀ i, modD (.int i) (.int n) = some (.int (i % n)) := fun i => mod_of hn
      have md1 : ∀ i, modD (.int i) (.int 2147483647) = some (.int (i % 2147483647)) := fun i => mod_of (by decide)
      have md2 : ∀ i, modD (.int i) (.int 2147483629) = some (.int (i % 2147483629)) := fun i => mod_of (by decide)
      have fd8 : ∀ i, fdivD (.int i) (.int 8191) = some (.int (i / 8191)) := fun i => fdiv_of (by decide) (by decide)
      have pw : powD (.int 2) (.int 40) = some (.int 1099511627776) := rfl
      have i0 : ∀ a b c : D, ixD (.list [a, b, c]) (.int 0) = some a := fun _ _ _ => rfl
      have i1 : ∀ a b c : D, ixD (.list [a, b, c]) (.int 1) = some b := fun _ _ _ => rfl
      have i2 : ∀ a b c : D, ixD (.list [a, b, c]) (.int 2) = some c := fun _ _ _ => rfl
      have n0 : ixN 3 0 = some 0 := rfl
      have n1 : ixN 3 1 = some 1 := rfl
      have n2 : ixN 3 2 = some 2 := rfl
      cases hx : gtI x 0 with
      | true =>
        simp only [hx] at h
        rw [← h]
        simp [guardX, runX, gTake, sSeq, sIf, sSet, setSl, sRet, sNext, sPutB, mIxB, atL, Sl.ls, Sl.put, intOf, mTest, mOp, mBuilt, intD, mCons, mNil, mBind, mLift, mVar, mRet, cmpD, boolD, hx, i0, n0, fd, md, box0]
      | false =>
        simp only [hx] at h
        cases ht : ltI n 1099511627776 && takeOk s c with
        | false => rw [ht] at h; cases h
        | true =>
          rw [ht] at h
          obtain ⟨t1, t2⟩ := Bool.and_eq_true_iff.mp ht
          unfold takeOk at t2
          obtain ⟨m1, t2⟩ := Bool.and_eq_true_iff.mp t2
          obtain ⟨m2, t2⟩ := Bool.and_eq_true_iff.mp t2
          obtain ⟨m3, m4⟩ := Bool.and_eq_true_iff.mp t2
          have h : some (Except.ok ([PyData.int x, PyData.int (nextV (rawV s c)), PyData.int (c + 1)], PyData.int ((rawV s c * 2147483647 + nextV (rawV s c)) / 8191 % n))) = some r := h
          rw [← h]
          unfold rawV at m3 m4
          simp [guardX, runX, gTake, sSeq, sIf, sSet, setSl, sRet, sNext, sPutB, mIxB, atL, Sl.ls, Sl.put, intOf, mTest, mOp, mBuilt, intD, mCons, mNil, mBind, mLift, mVar, mRet, cmpD, boolD, hx, i0, i1, i2, n0, n1, n2, fd, md, md1, md2, fd8, pw, addD, mul_of m1, mul_of m2, mul_of m3, mul_of m4, t1, box0, rawV, nextV]
  · cases h
end HB
namespace HB
open PySem L2
theorem log_small {n : Nat} (h : n < 2 ^ 200) : n.log2 < 200 := by
  by_cases e : n = 0
  · subst e; decide
  · exact (Nat.log2_lt e).mpr h
theorem fit_of {i j : Int} (hi : i.natAbs < 2 ^ 200) (hj : j.natAbs < 2 ^ 200) : mulFit i j = true := by
  unfold mulFit
  have h1 := log_small hi
  have h2 := log_small hj
  exact Nat.ble_eq_true_of_le (by omega)
def gBox3 : Mo (List D) := rSeq (sSet 4 (mOp addD (mOp modD (mBuilt intD (mCons (mOp addD (mOp mulD (mOp modD (mBuilt intD (mCons (mVar 3) (mNil))) (mRet (.int 2147483629))) (mRet (.int 48271))) (mOp mulD (mRet (.int 40692)) (mOp addD (mVar 1) (mOp mulD (mRet (.int 11)) (mVar 2))))) (mNil))) (mRet (.int 2147483629))) (mRet (.int 1))))
  (rRet (mSized (mCons (mOp ixD (mList (mSized (mCons (mRet (.int 0)) (mCons (mVar 3) (mNil))))) (mBuilt intD (mCons (mOp (cmpD geI) (mVar 3) (mOp powD (mRet (.int 10)) (mRet (.int 18)))) (mNil)))) (mCons (mVar 4) (mCons (mRet (.int 0)) (mNil))))))
def gBox : Mo (List D) := rSeq (sSet 3 (mOp addD (mOp addD (mOp mulD (mRet (.int 7727)) (mVar 1)) (mOp mulD (mRet (.int 104729)) (mVar 2))) (mRet (.int 43))))
  (rSeq (sIf (mTest (mOp (cmpD ltI) (mVar 1) (mBuilt lenD (mCons (mVar 0) (mNil))))) (sSet 3 (mBuilt absD (mCons (mOp ixD (mVar 0) (mVar 1)) (mNil)))) (sIf (mTest (mOp (cmpD gtI) (mBuilt lenD (mCons (mVar 0) (mNil))) (mRet (.int 0)))) (sSet 3 (mOp addD (mVar 3) (mOp mulD (mOp modD (mBuilt intD (mCons (mBuilt absD (mCons (mOp ixD (mVar 0) (mOp modD (mBuilt intD (mCons (mVar 1) (mNil))) (mBuilt lenD (mCons (mVar 0) (mNil))))) (mNil))) (mNil))) (mRet (.int 2147483629))) (mRet (.int 69623))))) (sNext)))
  gBox3)
def seedV (cell k o : Int) : Int := (cell % 2147483629 * 48271 + 40692 * (k + 11 * o)) % 2147483629 + 1
theorem scr_len (ns : List Int) : lenD [scr ns] = some (.int ns.length) := by
  simp [scr, lenD]
theorem scr_ix (ns : List Int) (k : Int) (h0 : 0 ≤ k) (h1 : k < ns.length) : ixD (scr ns) (.int k) = some (.int (ns.getD k.toNat 0)) := by
  have hk : k.toNat < ns.length := by have := h0; have := h1; omega
  have e : L2.atI (ns.map PyData.int) k = some (.int (ns.getD k.toNat 0)) := by
    have e1 : ixN (ns.map PyData.int).length k = some k.toNat := by
      unfold ixN
      rw [if_pos h0, List.length_map, if_pos h1]
    unfold L2.atI
    rw [e1]
    simp [hk, List.getD_eq_getElem?_getD]
  exact e
theorem box3 (d : D) (k o cell : Int) (hk : 0 ≤ k) (hk2 : k < 1000000) (ho : 0 ≤ o) (ho2 : o < 1000000) : ∃ ρ, gBox3 [.pur d, .pur (.int k), .pur (.int o), .pur (.int cell), .no] = some (.ok (ρ, [.int (if 1000000000000000000 ≤ cell then cell else 0), .int (seedV cell k o), .int 0])) := by
  have f3 : mulFit 11 o = true := fit_of (by decide) (by omega)
  have f4 : mulFit 40692 (k + 11 * o) = true := fit_of (by decide) (by omega)
  have f5 : mulFit (cell % 2147483629) 48271 = true := fit_of (by omega) (by decide)
  have md2 : ∀ i, modD (.int i) (.int 2147483629) = some (.int (i % 2147483629)) := fun i => mod_of (by decide)
  have pw : powD (.int 10) (.int 18) = some (.int 1000000000000000000) := rfl
  have j0 : ∀ a b : D, ixD (.list [a, b]) (.int 0) = some a := fun _ _ => rfl
  have j1 : ∀ a b : D, ixD (.list [a, b]) (.int 1) = some b := fun _ _ => rfl
  by_cases h2 : 1000000000000000000 ≤ cell
  · have c2 : geI cell 1000000000000000000 = true := decide_eq_true h2
    rw [if_pos h2]
    exact ⟨_, by simp [gBox3, rSeq, rRet, sSet, setSl, mOp, mBuilt, mSized, sizeOk, mList, intD, mCons, mNil, mBind, mLift, mVar, mRet, cmpD, c2, addD, mul_of f3, mul_of f4, mul_of f5, md2, pw, j0, j1, seedV]; rfl⟩
  · have c2 : geI cell 1000000000000000000 = false := decide_eq_false h2
    rw [if_neg h2]
    exact ⟨_, by simp [gBox3, rSeq, rRet, sSet, setSl, mOp, mBuilt, mSized, sizeOk, mList, intD, mCons, mNil, mBind, mLift, mVar, mRet, cmpD, c2, addD, mul_of f3, mul_of f4, mul_of f5, md2, pw, j0, j1, seedV]; rfl⟩
theorem gBox_cell (ns : List Int) (k o : Int) (hk : 0 ≤ k) (hk2 : k < 1000000) (ho : 0 ≤ o) (ho2 : o < 1000000) : ∃ cell : Int, 0 ≤ cell ∧ gBox [.pur (scr ns), .pur (.int k), .pur (.int o), .no, .no] = gBox3 [.pur (scr ns), .pur (.int k), .pur (.int o), .pur (.int cell), .no] := by
  have f1 : mulFit 7727 k = true := fit_of (by decide) (by omega)
  have f2 : mulFit 104729 o = true := fit_of (by decide) (by omega)
  have md2 : ∀ i, modD (.int i) (.int 2147483629) = some (.int (i % 2147483629)) := fun i => mod_of (by decide)
  by_cases h1 : k < ns.length
  · have c1 : ltI k ns.length = true := decide_eq_true h1
    have hx := scr_ix ns k hk h1
    generalize ns.getD k.toNat 0 = v at hx
    refine ⟨(v.natAbs : Int), by omega, ?_⟩
    simp [gBox, rSeq, sIf, sSet, setSl, mTest, mOp, mBuilt, intD, absD, mCons, mNil, mBind, mLift, mVar, mRet, cmpD, boolD, scr_len, hx, c1, addD, mul_of f1, mul_of f2, absI]
  · have c1 : ltI k ns.length = false := decide_eq_false h1
    by_cases h2 : (0 : Int) < ns.length
    · have c2 : gtI ns.length 0 = true := decide_eq_true h2
      have hm := mod_of (i := k) (j := ns.length) h2
      have hx := scr_ix ns (k % ns.length) (Int.emod_nonneg _ (by omega)) (Int.emod_lt_of_pos _ h2)
      generalize ns.getD (k % ns.length).toNat 0 = v at hx
      have f6 : mulFit ((v.natAbs : Int) % 2147483629) 69623 = true := fit_of (by omega) (by decide)
      refine ⟨7727 * k + 104729 * o + 43 + (v.natAbs : Int) % 2147483629 * 69623, by omega, ?_⟩
      simp [gBox, rSeq, sIf, sSet, setSl, mTest, mOp, mBuilt, intD, absD, mCons, mNil, mBind, mLift, mVar, mRet, cmpD, boolD, scr_len, hx, hm, c1, c2, addD, mul_of f1, mul_of f2, mul_of f6, md2, absI]
    · have c2 : gtI ns.length 0 = false := decide_eq_false h2
      refine ⟨7727 * k + 104729 * o + 43, by omega, ?_⟩
      simp [gBox, rSeq, sIf, sSet, setSl, sNext, mTest, mOp, mBuilt, intD, absD, mCons, mNil, mBind, mLift, mVar, mRet, cmpD, boolD, scr_len, c1, c2, addD, mul_of f1, mul_of f2]
theorem box_run (ns : List Int) (k o : Int) (hk : 0 ≤ k) (hk2 : k < 1000000) (ho : 0 ≤ o) (ho2 : o < 1000000) : ∃ x s : Int, guardN 3 (runN 5 gBox) [scr ns, .int k, .int o] = some (.ok [.int x, .int s, .int 0]) ∧ 0 ≤ x ∧ 0 < s ∧ s ≤ 2147483629 := by
  obtain ⟨cell, h0, h1⟩ := gBox_cell ns k o hk hk2 ho ho2
  obtain ⟨ρ, h2⟩ := box3 (scr ns) k o cell hk hk2 ho ho2
  refine ⟨if 1000000000000000000 ≤ cell then cell else 0, seedV cell k o, ?_, ?_, ?_, ?_⟩
  · show (match gBox [.pur (scr ns), .pur (.int k), .pur (.int o), .no, .no] with
      | some (.ok (_, es)) => some (.ok es)
      | _ => none : Option (Except Exn (List D))) = _
    rw [h1, h2]
  · split <;> omega
  · unfold seedV
    omega
  · unfold seedV
    omega
end HB
namespace HB
open PySem L2
def Bx (b : List D) (m : Int) : Prop := ∃ x s c : Int, b = [.int x, .int s, .int c] ∧ 0 ≤ x ∧ 0 < s ∧ s ≤ 2147483629 ∧ 0 ≤ c ∧ c ≤ m
theorem Bx.mono {b : List D} {m m' : Int} (h : Bx b m) (e : m ≤ m') : Bx b m' := by
  obtain ⟨x, s, c, h1, h2, h3, h4, h5, h6⟩ := h
  exact ⟨x, s, c, h1, h2, h3, h4, h5, by omega⟩
theorem box_bx (ns : List Int) (k o : Int) (hk : 0 ≤ k) (hk2 : k < 1000000) (ho : 0 ≤ o) (ho2 : o < 1000000) : ∃ b, guardN 3 (runN 5 gBox) [scr ns, .int k, .int o] = some (.ok b) ∧ Bx b 0 := by
  obtain ⟨x, s, h1, h2, h3, h4⟩ := box_run ns k o hk hk2 ho ho2
  exact ⟨_, h1, x, s, 0, rfl, h2, h3, h4, by omega, by omega⟩
theorem take_run {b : List D} {m n : Int} (hb : Bx b m) (hm : m < 1000000000000) (h0 : 0 < n) (hn : n < 1099511627776) : ∃ b' r, M_law_take b [.int n] = some (.ok (b', .int r)) ∧ Bx b' (m + 1) ∧ 0 ≤ r ∧ r < n := by
  obtain ⟨x, s, c, rfl, h2, h3, h4, h5, h6⟩ := hb
  have hl : Nat.blt n.natAbs.log2 9000 = true := by
    have : n.natAbs.log2 < 200 := log_small (by omega)
    exact Nat.ble_eq_true_of_le (by omega)
  have hg : (decide (0 < n) && Nat.blt n.natAbs.log2 9000) = true := by rw [hl, decide_eq_true h0]; rfl
  unfold M_law_take
  simp only [hg]
  cases hx : gtI x 0 with
  | true => exact ⟨_, _, rfl, ⟨x / n, s, c, rfl, Int.ediv_nonneg h2 (by omega), h3, h4, h5, by omega⟩, Int.emod_nonneg _ (by omega), Int.emod_lt_of_pos _ h0⟩
  | false =>
    have ht : (ltI n 1099511627776 && takeOk s c) = true := by
      have e1 : ltI n 1099511627776 = true := decide_eq_true hn
      have e2 : takeOk s c = true := by
        unfold takeOk
        rw [fit_of (i := 104729) (j := c + 1) (by decide) (by omega), fit_of (i := s + 104729 * (c + 1)) (j := 69623) (by omega) (by decide), fit_of (i := rawV s c) (j := 48271) (by unfold rawV; omega) (by decide), fit_of (i := rawV s c) (j := 2147483647) (by unfold rawV; omega) (by decide)]
        rfl
      rw [e1, e2]
      rfl
    simp only [ht]
    exact ⟨_, _, rfl, ⟨x, nextV (rawV s c), c + 1, rfl, h2, by unfold nextV; omega, by unfold nextV; omega, by omega, by omega⟩, Int.emod_nonneg _ (by omega), Int.emod_lt_of_pos _ h0⟩
def gPick : Mo Fl := sRet (mOp ixD (mVar 1) (mCallX M_law_take 0 (mCons (mBuilt lenD (mCons (mVar 1) (mNil))) (mNil))))
theorem pick_run {b : List D} {m : Int} {items : List D} (hb : Bx b m) (hm : m < 1000000000000) (h0 : 0 < items.length) (hn : items.length < 1000000) : ∃ b' d, guardX 1 (runX 1 gPick) b [.list items] = some (.ok (b', d)) ∧ Bx b' (m + 1) ∧ d ∈ items := by
  obtain ⟨b', r, h1, h2, h3, h4⟩ := take_run (n := items.length) hb hm (by omega) (by omega)
  have hr : r.toNat < items.length := by omega
  have e : ixD (.list items) (.int r) = some items[r.toNat] := by
    have e1 : ixN items.length r = some r.toNat := by
      unfold ixN
      rw [if_pos h3, if_pos h4]
    have e2 : L2.atI items r = some items[r.toNat] := by
      unfold L2.atI
      rw [e1]
      simp [hr]
    exact e2
  refine ⟨b', items[r.toNat], ?_, h2, List.getElem_mem hr⟩
  simp [guardX, runX, gPick, sRet, mOp, mBind, mLift, mVar, mCallX, atL, Sl.ls, Sl.put, mCons, mNil, mBuilt, lenD, mRet, h1, e, box0]
end HB
namespace HB
open PySem L2
section
variable {X : Cx} {E : XK}
def fnD (x : Str) : D := .dict [(.none, .str x)]
def lookF (x : Str) : List (Str × Nat × Fn) → Option (Nat × Fn)
  | [] => none
  | (y, F) :: r => if y = x then some F else lookF x r
def mCallV (i : Nat) (tab : List (Str × Nat × Fn)) (a : Mo (List D)) : Mo D := fun ρ => match ρ[i]? with
  | some (.pur (.dict [(.none, .str x)])) => (match lookF x tab with
    | some F => mCall F.2 a ρ
    | none => none)
  | _ => none
structure MeE (P : Program) (w : World) (K : PySem.W.Frag) (mg : Str → Option Value) (base : Heap) (k : Nat) (c m : Str) (n : Nat) (F : Fn) : Prop where
  cls : Cls K (He.ga K c)
  me : Meth K (He.ga K c) m (He.ma K (He.ga K c) m)
  ex : ∃ fd ps, FnOk P w K mg base (L2.CX P w) k (He.ma K (He.ga K c) m) fd ps (spP K n F) ∧ Binds K fd ps []
  ln : ∀ ds, F ds ≠ none → ds.length = n
def noKey (f : Str) : List (D × D) → Bool
  | [] => true
  | (.str g, _) :: r => if g = f then false else noKey f r
  | _ :: _ => false
theorem RpF.noLook {K : PySem.W.Frag} {G : Hp} {f : Str} : ∀ {fs : List (Str × V)} {kvs : List (D × D)}, RpF K G fs kvs → noKey f kvs = true → fs.lookup f = none
  | _, _, .nil, _ => rfl
  | _, _, @RpF.cons _ _ g v fs e kvs _ t, q => by
    have q' : (if g = f then false else noKey f kvs) = true := q
    by_cases z : g = f
    · rw [if_pos z] at q'; cases q'
    · rw [if_neg z] at q'
      have e1 : (f == g) = false := beq_eq_false_iff_ne.mpr (Ne.symm z)
      simp only [List.lookup, e1]
      exact t.noLook q'
/-- an object of the class, and the method is not hidden by a field -/
def isObj (c m : Str) : D → Bool
  | .dict ((.str c', .none) :: kvs) => if c' = c then noKey m kvs else false
  | _ => false
theorem Rp.isObj {K : PySem.W.Frag} {G : Hp} {v : V} {d : D} {c m : Str} (r : Rp K G v d) (h : HB.isObj c m d = true) : ∃ a dx fs, v = .ref a ∧ G a = some (.ins (He.ga K c) dx fs) ∧ fs.lookup m = none := by
  cases r with
  | @obj a dx c' fs kvs h1 h2 =>
    have h' : (if c' = c then noKey m kvs else false) = true := h
    split at h'
    · rename_i e
      subst e
      exact ⟨a, dx, fs, rfl, h1, h2.noLook h'⟩
    · cases h'
  | frz h1 h2 => cases h
  | fn _ => cases h
  | adr _ => cases h
  | _ => cases h
def mMeth (c m : Str) (F : Fn) (o : Mo D) (a : Mo (List D)) : Mo D := mBind o fun d => match isObj c m d with
  | true => mBind a fun ds ρ => match F (d :: ds) with
    | none => none
    | some (.error x) => some (.error x)
    | some (.ok r) => some (.ok (ρ, r))
  | false => fun _ => none
theorem meth_sem {c m : Str} {F : Fn} {n : Nat} {ta : TE} {t : TA} {fo : Mo D} {f : Mo (List D)} (qo : ∀ G ρ σ H Q, J X.K G ρ σ H → Post X.K E (Rp X.K) G ρ σ H Q (fo ρ) → ta σ H Q)
    (q : ∀ G ρ σ H Q, J X.K G ρ σ H → Post X.K E (RpAll X.K) G ρ σ H Q (f ρ) → t σ H Q) (hl : ∀ ds, F ds ≠ none → ds.length = n) :
    ∀ G ρ σ H Q, J X.K G ρ σ H → Post X.K E (Rp X.K) G ρ σ H Q (mMeth c m F fo f ρ) → tMeth (He.ga X.K c) m (spP X.K n F) [] E ta t σ H Q := by
  intro G ρ σ H Q j h
  refine qo G ρ σ H _ j (Post.imp h fun G1 ρ1 x H1 d e1 r1 h1 => ?_)
  cases hb : isObj c m d with
  | false => rw [hb] at h1; exact h1.elim
  | true =>
    rw [hb] at h1
    obtain ⟨a, dx, fs, rfl, z1, z2⟩ := r1.isObj hb
    refine ⟨a, dx, fs, rfl, e1.j.sub _ _ z1, z2, ?_⟩
    refine q G1 ρ1 σ H1 _ e1.j (Post.imp h1 fun G2 ρ2 vs H2 ds e2 r2 h2 => ?_)
    rw [List.append_nil]
    cases hF : F (d :: ds) with
    | none => rw [hF] at h2; exact h2.elim
    | some r =>
      refine ⟨G2, d :: ds, e2.j.sub, .cons (r1.mono e2.g) r2, hl _ (by rw [hF]; simp), ?_⟩
      rw [hF] at h2 ⊢
      cases r with
      | error y => exact fun C dx H' z => h2 C dx H' z.of0
      | ok r => exact fun G' v H' p rv => h2 G' v H' (e2.j.ex p) rv
/-- what o.m(..) runs: the receiver, the method, the arguments -/
abbrev byMeth (X : Cx) (o : Expr) (m : Str) (apos pos : Pos) (pl : Sem Bool) (args : List Expr) : Sem Value :=
  eval o X.env >>= fun ov => standAt apos.atName >>= fun _ => holding [ov] (getMethod ov m pl) >>= fun fm => callWith pos fm.1 fm.2 (backTo pos (starEach args X.env)) (backToKw pos (keywordEach [] X.env))
theorem ev_meth0 {k n : Nat} {c m : Str} {F : Fn} {o : Expr} {fo : Mo D} {apos pos : Pos} {pl : Sem Bool} (hM : MeE X.prog X.w X.K X.mg X.base k c m n F) (hr : Room k X.A) (hx : Passes (L2.CX X.prog X.w) X E) (ho : EV X E o fo)
    (ht : eval (.Call (.Attribute o m apos) [] [] pos) X.env = byMeth X o m apos pos pl [] := by rfl) : EV X E (.Call (.Attribute o m apos) [] [] pos) (mMeth c m F fo mNil) := by
  obtain ⟨hc, me, ⟨fd, ps, h1, h2⟩, hl⟩ := hM
  obtain ⟨ta, po, qo⟩ := ho
  exact ⟨_, pe_meth0 po hc me h1 hr h2 .nil hx ht, meth_sem qo (fun G ρ σ H Q j h => h G _ H j.refl .nil) hl⟩
end
theorem meth_ok {P : Program} {w : World} {K : PySem.W.Frag} {mg : Str → Option Value} {base : Heap} {c m qual : Str} {st : Stmt} {fd : FuncData} {N ps : List Str} {k : Nat} {g : Mo Fl} (F : FunD K m qual (defArgs st) (defBody st) (defScope st) [] [] (He.ma K (He.ga K c) m) fd) (S : FnScope N ps (defScope st)) (hc : Cls K (He.ga K c)) (me : Meth K (He.ga K c) m (He.ma K (He.ga K c) m))
    (b : ∀ (kV doc pm : Value) (an : Option Addr) (cdv ct : Value) (us : List Value), us.length = ps.length → bindArgs (PySem.W.fnOf m qual (defArgs st) (defBody st) (defScope st) .none kV doc pm an cdv ct) ⟨us, []⟩ = pure (ps.zip us))
    (hb : ∀ (cdv : Value) (A : Around) (outer : List PySem.Env) (s : Shared) (H : Hp) (E : XK), Room k (A.deeper (PyProof.Rows.envOfC qual (defScope st) s.heap.objs.size (He.ma K (He.ga K c) m) cdv)) → SVs (cxOf (L2.CX P w) P w K mg base N qual (defScope st) (He.ma K (He.ga K c) m) cdv A outer s H E) E (defBody st) g) :
    MeE P w K mg base (k + 1) c m ps.length (guard ps.length (runF N.length g)) := by
  refine ⟨hc, me, ⟨fd, ps, F.ok S (fun vs H Q E h => ?_) fun cdv A outer s H vs Q E hr h => ?_, F.bindsN b⟩, fun ds h => guard_len h⟩
  · obtain ⟨G, ds, _, r, hl, _⟩ := h
    rw [r.length, hl]
  · obtain ⟨t, p, q⟩ := hb cdv A outer s H E hr
    exact ⟨t, p, body_sem q h⟩
end HB
namespace HB
open PySem L2
section
variable {X : Cx} {E : XK}
def revD : D → Option D
  | .list ds => some (.list ds.reverse)
  | .tuple ds => some (.tuple ds.reverse)
  | .dict [(.none, .list ds)] => some (.list ds.reverse)
  | _ => none
def isM1 : Option Int → Bool
  | some (.negSucc 0) => true
  | _ => false
theorem isM1_ok {o : Option Int} (h : isM1 o = true) : o = some (-1) := by
  match o, h with
  | some (.negSucc 0), _ => rfl
def mRev (f : Mo D) (s : Mo (Option Int)) : Mo D := mBind f fun d => mBind s fun o => match isM1 o with
  | true => mLift (revD d)
  | false => fun _ => none
theorem RpAll.rev {K : PySem.W.Frag} {G : Hp} : ∀ {xs : List V} {ds : List D}, RpAll K G xs ds → RpAll K G xs.reverse ds.reverse
  | _, _, .nil => .nil
  | _, _, .cons r t => by
    simp only [List.reverse_cons]
    exact t.rev.append (.cons r .nil)
theorem ev_rev {e st : Expr} {f : Mo D} {fs : Mo (Option Int)} {p3 pos : Pos} (h : EV X E e f) (hs : EO X E (some st) fs) : EV X E (.Subscript e (.Slice none none (some st) p3) pos) (mRev f fs) := by
  obtain ⟨t, p, q⟩ := h
  obtain ⟨tl, pl, ql⟩ := hs
  refine ⟨_, pe_back p pl, fun G ρ σ H Q j h => q G ρ σ H _ j (Post.imp h fun G1 ρ1 v H1 d e1 r1 h1 => ?_)⟩
  refine ql G1 ρ1 σ H1 _ e1.j (Post.imp h1 fun G2 ρ2 l H2 l' e2 rl h2 => ?_)
  subst rl
  cases hm : isM1 l with
  | false => rw [hm] at h2; exact h2.elim
  | true =>
    rw [hm] at h2
    refine ⟨isM1_ok hm, ?_⟩
    obtain ⟨c, hc, k⟩ := Post.lift (ρ' := ρ2) h2
    have s3 := e2.j.sub
    cases r1.mono e2.g with
    | @lst a xs ds z1 z2 =>
      cases hc
      refine .inl ⟨a, xs, rfl, .of (s3 _ _ z1), fun p hp => ?_⟩
      have px : PX G2 H2 _ _ := .alloc s3 hp (.lst xs.reverse)
      exact k _ _ _ (e2.j.ex px) (.lst upd_same (z2.rev.mono px.g))
    | @tup a xs ds z1 z2 =>
      cases hc
      refine .inr ⟨a, xs, rfl, sqT_mono s3 z1.t, fun p o hp nd => ?_⟩
      have px : PX G2 H2 _ _ := .alloc s3 hp (.frz o (.tup xs.reverse))
      exact k _ _ _ (e2.j.ex px) (.tup (.new nd) (z2.rev.mono px.g))
    | @frz a xs ds z1 z2 =>
      cases hc
      refine .inl ⟨a, xs, rfl, s3.seq z1, fun p hp => ?_⟩
      have px : PX G2 H2 _ _ := .alloc s3 hp (.lst xs.reverse)
      exact k _ _ _ (e2.j.ex px) (.lst upd_same (z2.rev.mono px.g))
    | obj _ _ => cases hc
    | _ => cases hc
/-- both are plain data -/
def bothD (a b : D) (r : D) : Option D := if SeqAt.shaped a = true ∧ SeqAt.shaped b = true then some r else none
def inTD : D → D → Option D
  | d, .tuple ds => bothD d (.tuple ds) (.bool (ds.any fun z => PyData.eqv z d))
  | d, e => inD d e
def notInTD : D → D → Option D
  | d, .tuple ds => bothD d (.tuple ds) (.bool (!ds.any fun z => PyData.eqv z d))
  | d, e => notInD d e
/-- a question about plain data and a tuple of such -/
def rAskT (K : PySem.W.Frag) (f : D → List D → Bool) : R2 := fun x y H Q => ∃ d ds, Dp K H x d ∧ Dp K H y (.tuple ds) ∧ SeqAt.shaped d = true ∧ SeqAt.shaped (.tuple ds) = true ∧ Q (.bl (f d ds)) H
theorem op_inT (hu : X.A.units + 65 < cLine) : OpR X (compareOp .In) (rAskT X.K fun d ds => ds.any fun z => PyData.eqv z d) := fun pins s σ H x y v u Q I rx ry ⟨d, ds, hd, he, sd, se, q⟩ =>
  have ⟨_, r1⟩ := Dp.reads I d x v hd rx
  have ⟨_, r2⟩ := Dp.reads I (.tuple ds) y u he ry
  SeqAt.in_tuple_reads r2 r1 (SeqAt.canLay_of_shaped se) (SeqAt.canLay_of_shaped sd) (PyProof.Rows.room_in_shaped sd hu) ⟨.bl _, H, I, rfl, q⟩
theorem op_notInT (hu : X.A.units + 65 < cLine) : OpR X (compareOp .NotIn) (rAskT X.K fun d ds => !ds.any fun z => PyData.eqv z d) := fun pins s σ H x y v u Q I rx ry ⟨d, ds, hd, he, sd, se, q⟩ =>
  have ⟨_, r1⟩ := Dp.reads I d x v hd rx
  have ⟨_, r2⟩ := Dp.reads I (.tuple ds) y u he ry
  SeqAt.notIn_tuple_reads r2 r1 (SeqAt.canLay_of_shaped se) (SeqAt.canLay_of_shaped sd) (PyProof.Rows.room_in_shaped sd hu) ⟨.bl _, H, I, rfl, q⟩
/-- a tuple first, else as before -/
theorem dop_tup {sem : Value → Value → Sem Value} {f : D → List D → Bool} {g g' : D → D → Option D} (o : OpR X sem (rAskT X.K f)) (h0 : DOp X sem g') (e1 : ∀ d ds, g d (.tuple ds) = bothD d (.tuple ds) (.bool (f d ds))) (e2 : ∀ d e, (∀ ds, e ≠ .tuple ds) → g d e = g' d e) : DOp X sem g := by
  obtain ⟨r, o', hr⟩ := h0
  refine ⟨_, o.or o', fun G H x y a b c Q s hx hy h k => ?_⟩
  by_cases hb : ∃ ds, b = .tuple ds
  · obtain ⟨ds, rfl⟩ := hb
    rw [e1] at h
    obtain ⟨⟨h3, h4⟩, rfl⟩ := ite_some h
    exact .inl ⟨a, ds, hx.shaped s h3, hy.shaped s h4, h3, h4, k G _ H (.refl s) (.bl _)⟩
  · rw [e2 a b fun ds z => hb ⟨ds, z⟩] at h
    exact .inr (hr G H x y a b c Q s hx hy h k)
theorem dop_inT (hu : X.A.units + 65 < cLine) : DOp X (compareOp .In) inTD := dop_tup (op_inT hu) (dop_in hu) (fun _ _ => rfl) fun d e ne => by
  cases e with
  | tuple ds => exact absurd rfl (ne ds)
  | _ => rfl
theorem dop_notInT (hu : X.A.units + 65 < cLine) : DOp X (compareOp .NotIn) notInTD := dop_tup (op_notInT hu) (dop_notIn hu) (fun _ _ => rfl) fun d e ne => by
  cases e with
  | tuple ds => exact absurd rfl (ne ds)
  | _ => rfl
def cntTD : D → D → Option D
  | .tuple ds, d => bothD d (.tuple ds) (.int (ds.countP fun z => PyData.eqv z d : Nat))
  | _, _ => none
def isTupB : D → Bool
  | .tuple _ => true
  | _ => false
/-- o.m(e): the receiver is looked at ahead of the argument -/
def mRecv (p : D → Bool) (f : D → D → Option D) (a b : Mo D) : Mo D := mBind a fun x => match p x with
  | true => mBind b fun y => mLift (f x y)
  | false => fun _ => none
theorem ev_cntT {o e : Expr} {fo fe : Mo D} {apos pos : Pos} (ho : EV X E o fo) (he : EV X E e fe) (hu : X.A.units + 65 < cLine) (base : attributeBase o "count" X.env (eval o X.env) = eval o X.env := by rfl) (few : Few X pos [e] := by rfl)
    (line : (apos.endLine == pos.line) = true := by rfl) (st : starEach [e] X.env = [(false, eval e X.env)] := by rfl) : EV X E (.Call (.Attribute o "count" apos) [e] [] pos) (mRecv isTupB cntTD fo fe) := by
  obtain ⟨t, p, q⟩ := ho
  obtain ⟨t2, p2, q2⟩ := he
  refine ⟨_, pe_tm PySem.F.slot_tuple_count PySem.F.type_tuple_count (mt_cntT hu) p (pa_cons p2 pa_nil st) base few line st, fun G ρ σ H Q j h => ?_⟩
  refine q G ρ σ H _ j (Post.imp h fun G1 ρ1 v H1 d e1 r1 h1 => ?_)
  cases hp : isTupB d with
  | false => rw [hp] at h1; exact h1.elim
  | true =>
    rw [hp] at h1
    cases r1 with
    | @tup a xs ds z1 z2 =>
      refine ⟨⟨a, xs, rfl, sqP_mono e1.j.sub z1⟩, q2 G1 ρ1 σ H1 _ e1.j (Post.imp h1 fun G2 ρ2 y H2 d2 e2 r2 h2 => ?_)⟩
      obtain ⟨c, hc, k2⟩ := Post.lift (ρ' := ρ2) h2
      obtain ⟨⟨h3, h4⟩, rfl⟩ := ite_some (show (if SeqAt.shaped d2 = true ∧ SeqAt.shaped (.tuple ds) = true then some (PyData.int (ds.countP fun z => PyData.eqv z d2 : Nat)) else none) = some c from hc)
      have rt : Rp X.K G2 (.ref a) (.tuple ds) := (Rp.tup z1 z2).mono e2.g
      exact ⟨a, y, d2, ds, rfl, rfl, rt.shaped e2.j.sub h4, r2.shaped e2.j.sub h3, h4, h3, k2 G2 _ H2 e2.j.refl (.int _)⟩
    | _ => cases hp
end
end HB
namespace HB
open PySem L2
section
variable {X : Cx} {E : XK}
/-- a def run two built-ins deep -/
theorem fn_in2 {CX : CXT} {k : Nat} {f : Addr} {fd : FuncData} {ps : List Str} {sp : Sp} (F : FnOk X.prog X.w X.K X.mg X.base CX k f fd ps sp) (hr : Room (k + 2) X.A) (hb : Binds X.K fd ps []) (hx : Passes CX X E)
    {pins : List (Addr × Obj)} {σ : St} {H : Hp} {s : Shared} {Q : VK} {us : List Value} {vs : List V} (I : Inv X pins σ H s) (r : Vals vs us) (h : sp vs H Q E) : wpAny (model X.prog X.w) X.A.in1.in1 (call (.ref f) us) (EP X pins σ Q) X.xe s := by
  have bd : BindsTo s fd ⟨us, []⟩ (ps.zip us) := by
    have z := hb s us I.kIn (by rw [List.append_nil, ← r.length]; exact F.len _ _ _ _ h)
    rwa [List.append_nil] at z
  refine wpAny_call (codeAny_mono (F.run _ X.stack s H ⟨us, []⟩ us vs Q E hr.in1.in1 I.env0.in1.in1 bd r h) fun o s2 q => ?_)
  match o, q with
  | .error e, q => exact hx pins σ H s e s2 I q
  | .ok (.ret w), q => exact I.after q
def rStrO (C : Addr) (sp : Sp) (E : XK) : List V → Hp → VK → Prop := fun vs H Q => ∃ a dx fs, vs = [.ref a] ∧ H a = some (.ins C dx fs) ∧ sp [.ref a] H (fun v H2 => (∃ z, v = .str z) ∧ Q v H2) E
theorem call_strO {CX : CXT} {k : Nat} {C f : Addr} {fd : FuncData} {ps : List Str} {sp : Sp} (me : Meth X.K C "__str__" f) (F : FnOk X.prog X.w X.K X.mg X.base CX k f fd ps sp) (hr : Room (k + 2) X.A) (hb : Binds X.K fd ps []) (hx : Passes CX X E) : CallR X (.type "str") (rStrO C sp E) :=
  fun pins s σ H vs us Q I r ⟨a, dx, fs, e, ha, q⟩ => by
    subst e
    match us, r with
    | [_], .cons rfl .nil =>
      have ⟨_, ob, _⟩ := ins_get I.hok ha
      have ⟨od, at_, _⟩ := ob.look
      refine PySem.W.kso_call (Nat.lt_of_le_of_lt ?_ hr.un) I.kIn at_ me.at_ me.fn (wpAny_mono (fn_in2 (vs := [.ref a]) F hr hb hx I (.cons rfl .nil) q) (fun u s2 z => ?_) fun _ _ z => z)
      · show X.A.units + 1 + 1 ≤ _
        omega
      · obtain ⟨v, H2, I2, rv, ⟨w, ew⟩, qv⟩ := z
        subst ew
        obtain ⟨t, et⟩ := rv
        subst et
        exact ⟨.str w, H2, I2, ⟨t, rfl⟩, qv⟩
def mStrO (c : Str) (F : Fn) (f : Mo D) : Mo D := mBind f fun d => match isObj c "__str__" d with
  | true => fun ρ => (match F [d] with
    | some (.ok (.str z)) => some (.ok (ρ, .str z))
    | some (.error x) => some (.error x)
    | _ => none)
  | false => fun _ => none
def mPop0 (i : Nat) : Mo D := fun ρ => match ρ[i]? with
  | some (.own ds) => (match ds[ds.length - 1]? with
    | some d => some (.ok (ρ.set i (.own ds.dropLast), d))
    | none => none)
  | _ => none
theorem RpAll.dropLast {K : PySem.W.Frag} {G : Hp} {vs : List V} {ds : List D} (r : RpAll K G vs ds) : RpAll K G vs.dropLast ds.dropLast := by
  rw [List.dropLast_eq_take, List.dropLast_eq_take, r.length]
  exact r.take _
theorem ev_pop0 {i : Nat} {x : Str} {p1 apos pos : Pos} (hN : X.N[i]? = some x := by rfl) (hv : Vis X.env.scope x := by first | exact Or.inl rfl | exact Or.inr (Or.inl rfl) | exact Or.inr (Or.inr rfl)) (hd : (x == ("__debug__" : Str)) = false := by decide) (hcd : (x == ("__classdict__" : Str)) = false := by decide)
    (base : attributeBase (.Name x p1) "pop" X.env (eval (.Name x p1) X.env) = eval (.Name x p1) X.env := by rfl) (line : (apos.endLine == pos.line) = true := by rfl) : EV X E (.Call (.Attribute (.Name x p1) "pop" apos) [] [] pos) (mPop0 i) := by
  refine ⟨_, pe_bm0 PySem.F.plainAttrs_list PySem.F.slot_list_pop PySem.F.type_list_pop mt_pop (pe_var hN hv hd hcd) base line, fun G ρ σ H Q j h => ?_⟩
  unfold mPop0 at h
  split at h
  · rename_i ds hs
    cases hl : ds[ds.length - 1]? with
    | none => rw [hl] at h; exact h.elim
    | some d =>
      rw [hl] at h
      obtain ⟨a, vs, h1, h2, h3, h4⟩ := j.own i _ ds hs rfl
      obtain ⟨v, y1, y2⟩ := h4.get hl
      exact ⟨.ref a, h1, .inl ⟨rfl, vs, .of h2⟩, a, vs, v, rfl, rfl, h2, by rw [h4.length]; exact y1, h G v _ (j.put hs h1 h4.dropLast) y2⟩
  · exact h.elim
def mInO (neg : Bool) (i : Nat) (f : Mo D) : Mo D := mBind f fun d ρ => match ρ[i]? with
  | some (.own ds) => mLift (bothD d (.list ds) (.bool (neg ^^ (ds.any fun z => PyData.eqv z d)))) ρ
  | _ => none
theorem inO_sem {neg : Bool} {i : Nat} {r : R2} {t : TE} {f : Mo D} (q : ∀ G ρ σ H Q, J X.K G ρ σ H → Post X.K E (Rp X.K) G ρ σ H Q (f ρ) → t σ H Q)
    (hr : ∀ (H : Hp) (y : V) (a : Addr) (d : D) (ds : List D) (Q : VK), Dp X.K H y d → Dp X.K H (.ref a) (.list ds) → SeqAt.shaped d = true → SeqAt.shaped (.list ds) = true → Q (.bl (neg ^^ (ds.any fun z => PyData.eqv z d))) H → r y (.ref a) H Q) :
    ∀ G ρ σ H Q, J X.K G ρ σ H → Post X.K E (Rp X.K) G ρ σ H Q (mInO neg i f ρ) → tOp r t (tVar i) σ H Q := by
  intro G ρ σ H Q j h
  refine q G ρ σ H _ j (Post.imp h fun G1 ρ1 y H1 d e1 r1 h1 => ?_)
  cases hs : ρ1[i]? with
  | none => rw [hs] at h1; exact h1.elim
  | some sl =>
    rw [hs] at h1
    cases sl with
    | own ds =>
      obtain ⟨c, hc, k⟩ := Post.lift (ρ' := ρ1) h1
      obtain ⟨⟨h3, h4⟩, rfl⟩ := ite_some (show (if SeqAt.shaped d = true ∧ SeqAt.shaped (.list ds) = true then some (PyData.bool (neg ^^ (ds.any fun z => PyData.eqv z d))) else none) = some c from hc)
      obtain ⟨a, vs, g1, g2, g3, g4⟩ := e1.j.own i _ ds hs rfl
      refine ⟨.ref a, g1, hr H1 y a d ds Q (r1.shaped e1.j.sub h3) ?_ h3 h4 (k G1 _ H1 e1.j.refl (.bl _))⟩
      exact .lst (.of g2) (RpAll.dp ds (SeqAt.canLay_of_shaped h4) (g4.mono e1.j.sub))
    | no => exact h1.elim
    | box _ => exact h1.elim
    | dl _ _ _ => exact h1.elim
    | gst _ _ => exact h1.elim
    | ins _ _ _ => exact h1.elim
    | pur _ => exact h1.elim
theorem et_notInO {i : Nat} {x : Str} {e : Expr} {f : Mo D} {p1 pos : Pos} (h : EV X E e f) (hu : X.A.units + 65 < cLine) (hN : X.N[i]? = some x := by rfl) (hv : Vis X.env.scope x := by first | exact Or.inl rfl | exact Or.inr (Or.inl rfl) | exact Or.inr (Or.inr rfl)) (hd : (x == ("__debug__" : Str)) = false := by decide) (hcd : (x == ("__classdict__" : Str)) = false := by decide)
    (hm : behindInMarks .NotIn (.Name x p1) = false := by rfl) : ET X E (.Compare e [.NotIn] [.Name x p1] pos) (mTest (mInO true i f)) := by
  obtain ⟨t, p, q⟩ := h
  exact ⟨_, pt_cmpR (op_notInD hu) p (pe_var hN hv hd hcd) hm, test_sem (inO_sem q fun H y a d ds Q h1 h2 h3 h4 k => ⟨d, ds, h1, h2, h3, h4, by simpa using k⟩)⟩
def intsD : List D → Option (List Int)
  | [] => some []
  | .int n :: r => (intsD r).map (n :: ·)
  | _ :: _ => none
theorem RpAll.ints {K : PySem.W.Frag} {G : Hp} : ∀ {vs : List V} {ds : List D} {ns : List Int}, RpAll K G vs ds → intsD ds = some ns → vs = ns.map V.int
  | _, _, _, .nil, e => by cases e; rfl
  | _, _, ns, .cons (d := d) (ds := ds) r t, e => by
    cases d with
    | int n =>
      cases r
      cases q : intsD ds with
      | none => simp [intsD, q] at e
      | some ms =>
        simp [intsD, q] at e
        subst e
        rw [t.ints q]
        rfl
    | _ => cases e
def maxI : Int → List Int → Int
  | m, [] => m
  | m, n :: r => maxI (if m < n then n else m) r
theorem maxI_ok : ∀ (r : List Int) (m : Int), (maxI m r = m ∨ maxI m r ∈ r) ∧ m ≤ maxI m r ∧ ∀ y ∈ r, y ≤ maxI m r
  | [], m => ⟨.inl rfl, Int.le_refl _, fun _ h => nomatch h⟩
  | n :: r, m => by
    obtain ⟨h1, h2, h3⟩ := maxI_ok r (if m < n then n else m)
    have e : maxI m (n :: r) = maxI (if m < n then n else m) r := rfl
    rw [e]
    have up1 : m ≤ (if m < n then n else m) := by split <;> omega
    have up2 : n ≤ (if m < n then n else m) := by split <;> omega
    refine ⟨?_, Int.le_trans up1 h2, fun y hy => ?_⟩
    · rcases h1 with z | z
      · rw [z]
        split
        · exact .inr List.mem_cons_self
        · exact .inl rfl
      · exact .inr (List.mem_cons_of_mem _ z)
    · rcases List.mem_cons.mp hy with z | z
      · rw [z]; exact Int.le_trans up2 h2
      · exact h3 y z
def max1D : List D → Option D
  | [.list ds] => (match intsD ds with
    | some (n :: r) => some (.int (maxI n r))
    | _ => none)
  | _ => none
theorem dc_max1 (hc : X.calm = true) : DCall X (.builtin "max") max1D := by
  refine ⟨_, cr_max hc, fun G H xs ds c Q s hx h k => ?_⟩
  match ds, h with
  | [.list ds], h =>
    obtain ⟨x, rfl, r⟩ := hx.one
    unfold max1D at h
    cases r with
    | @lst a vs _ h1 h2 =>
      match hi : intsD ds, h with
      | some (n :: ms), h =>
        simp only [hi] at h
        cases h
        have e := h2.ints hi
        subst e
        refine ⟨a, n :: ms, rfl, .of (s _ _ h1), Nat.succ_pos _, fun m hm hall => ?_⟩
        obtain ⟨y1, y2, y3⟩ := maxI_ok ms n
        have up : maxI n ms ∈ n :: ms := y1.elim (fun z => by rw [z]; exact List.mem_cons_self) fun z => List.mem_cons_of_mem _ z
        have le : m ≤ maxI n ms := (List.mem_cons.mp hm).elim (fun z => by rw [z]; exact y2) fun z => y3 m z
        have same : m = maxI n ms := Int.le_antisymm le (hall _ up)
        rw [same]
        exact k G _ H (.refl s) (.int _)
      | none, h => simp only [hi] at h; cases h
      | some [], h => simp only [hi] at h; cases h
def gNames : List Nat → TGs
  | [] => gNil
  | i :: is => gCons (gName i) (gNames is)
def NV (X : Cx) (tgs : List Expr) (is : List Nat) : Prop := PGs X tgs (gNames is)
theorem nv_nil : NV X [] [] := pgs_nil
theorem nv_cons {i : Nat} {x : Str} {p : Pos} {tgs : List Expr} {is : List Nat} (h : NV X tgs is) (hN : X.N.Nodup) (hi : X.N[i]? = some x := by rfl) (hx : Loc X.env.scope x := by first | exact Or.inl rfl | exact Or.inr rfl) (hf : X.fn x = true ∨ X.env.scope.names.lookup x = some .local := by first | exact .inl rfl | exact .inr rfl)
    (hs : (assignEach (.Name x p :: tgs) X.env).map (·.2) = assign (.Name x p) X.env :: (assignEach tgs X.env).map (·.2) := by rfl) : NV X (.Name x p :: tgs) (i :: is) := pgs_cons (pg_name hN hi hx hf) h hs
def setAll : En → List Nat → List Tm → En
  | ρ, i :: is, t :: ts => setAll (ρ.set i (slOf t)) is ts
  | ρ, _, _ => ρ
def sParN (is : List Nat) (f : Mo (List Tm)) : Mo Fl := mBind f fun ts ρ => match Nat.beq ts.length is.length && Nat.ble ts.length 1000000 with
  | true => some (.ok (setAll ρ is ts, .nx))
  | false => none
theorem RT.len {K : PySem.W.Frag} {H0 G H : Hp} {ρ : En} {σ : St} : ∀ {vs : List V} {ts : List Tm}, RT K H0 G H ρ σ vs ts → vs.length = ts.length
  | [], [], _ => rfl
  | _ :: _, .p _ :: _, h => congrArg (· + 1) (RT.len h.2)
  | _ :: _, .o _ :: _, h => congrArg (· + 1) (RT.len h.2)
theorem RT.heap {K : PySem.W.Frag} {H0 G H H2 : Hp} {ρ : En} {σ : St} (s : Same H H2) : ∀ {vs : List V} {ts : List Tm}, RT K H0 G H ρ σ vs ts → RT K H0 G H2 ρ σ vs ts
  | [], [], _ => trivial
  | _ :: _, .p _ :: _, h => ⟨h.1, RT.heap s h.2⟩
  | _ :: _, .o _ :: _, h => let ⟨⟨a, us, h1, h2, h3, h4, h5⟩, h6⟩ := h; ⟨⟨a, us, h1, h2, h3, s _ _ h4, h5⟩, RT.heap s h6⟩
theorem names_sem {K : PySem.W.Frag} {G H G' H' : Hp} {ρ : En} {σ : St} {R : St → Hp → Prop} : ∀ (is : List Nat) {vs : List V} {ts : List Tm} {ρ' : En} {σ' : St}, Ex K G ρ σ H G' ρ' σ' H' → RT K H G' H' ρ' σ' vs ts → ts.length = is.length →
    (∀ σ2, Ex K G ρ σ H G' (setAll ρ' is ts) σ2 H' → R σ2 H') → gNames is vs σ' H' R
  | [], vs, [], ρ', σ', e, r, _, k => ⟨r.nil, k σ' e⟩
  | i :: is, vs, t :: ts, ρ', σ', e, r, hl, k => by
    obtain ⟨v, ws, rfl⟩ := r.cons
    obtain ⟨e2, r2⟩ := RT.put e i r
    exact ⟨v, ws, rfl, names_sem is e2 r2 (Nat.succ.inj hl) k⟩
theorem s_parN {is : List Nat} {tgs es : List Expr} {f : Mo (List Tm)} {kt k2 : Nat} {pt pt2 pos : Pos} (hc : X.calm = true) (hn : NV X tgs is) (h : EX X E es f) (ln : (assignEach tgs X.env).length = is.length := by rfl) (st : (assignEach tgs X.env).findIdx? (·.1) = none := by rfl)
    (hs : swapsWithSole [.Tuple tgs kt pt] (.Tuple es k2 pt2) pos.line X.env = pure false := by rfl) (hw : swappedStores [.Tuple tgs kt pt] (.Tuple es k2 pt2) X.env = pure none := by rfl)
    (ha : (assignEach [.Tuple tgs kt pt] X.env).map (·.2) = [assign (.Tuple tgs kt pt) X.env] := by rfl) : SV X E (.Assign [.Tuple tgs kt pt] (.Tuple es k2 pt2) pos) (sParN is f) := by
  obtain ⟨t, p, q⟩ := h
  refine ⟨_, ps_asg (pe_tupP p) (pg_tup hc hn ln st) hs hw ha, fun G ρ σ H De j h => q G ρ σ H _ j ?_⟩
  unfold sParN mBind at h
  match hh : f ρ, h with
  | none, h => exact h.elim
  | some (.error y), h => exact h
  | some (.ok (ρ1, ts)), h =>
    intro G1 vs H1 e1 r1
    simp only at h
    cases hb : Nat.beq ts.length is.length && Nat.ble ts.length 1000000 with
    | false => rw [hb] at h; exact h.elim
    | true =>
      rw [hb] at h
      obtain ⟨b1, b2⟩ := Bool.and_eq_true_iff.mp hb
      have hl : ts.length = is.length := Nat.eq_of_beq_eq_true b1
      have lv := r1.len
      refine ⟨by rw [lv]; exact line_of (Nat.le_of_ble_eq_true b2), fun p o hp nd => ⟨p, vs, rfl, (SqP.new nd).t, lv.trans hl, ?_⟩⟩
      have up : Same H1 (upd H1 p (.frz o (.tup vs))) := same_upd hp
      have px : PX G1 H1 G1 (upd H1 p (.frz o (.tup vs))) := ⟨up, .refl _, e1.j.sub.toSame.trans up, fun _ z => .inl z, fun _ t => tabG_put t (pl_none hp)⟩
      exact names_sem is (e1.trans (e1.j.ex px)) (r1.heap up) hl fun σ2 e2 => h G1 σ2 _ e2
end
end HB
namespace HB
open PySem L2
section
variable {X : Cx} {E : XK}
def rCntO (K : PySem.W.Frag) : V → List V → Hp → VK → Prop := fun x ys H Q => ∃ (a : Addr) (y : V) (d : PyData) (ds : List PyData), x = .ref a ∧ ys = [y] ∧ Dp K H (.ref a) (.list ds) ∧ Dp K H y d ∧
  SeqAt.shaped (.list ds) = true ∧ SeqAt.shaped d = true ∧ Q (.int (ds.countP fun z => PyData.eqv z d : Nat)) H
theorem mt_cntO (hu : X.A.units + 65 < cLine) : MtR X "list.count" (rCntO X.K) := fun pins s σ H x ys v us Q I rx rys ⟨a, y, d, ds, ex, ey, hl, hy, sl, sd, q⟩ => by
  subst ex ey
  match us, rys with
  | [uy], .cons ry .nil =>
    cases rx
    have ⟨bs, rd⟩ := Dp.reads I d y uy hy ry
    have lay := SeqAt.canLay_of_shaped sl
    cases hl with
    | lst hs ha =>
      have ⟨its, rv, pl, _⟩ := I.list hs
      have ⟨⟨c, dd, dt, sls⟩, at_, hc, n, hd⟩ := pl.isList
      dsimp only at hc hd
      subst hc hd
      have ⟨as, rs⟩ := Dp.readsAll I ds _ its ha rv
      have back : its.map (SeqAt.readOf s.heap) = ds := SeqAt.readsAll_map ds its as lay rs
      have eqs := SeqAt.items_eqAt (A := X.A) (vs := its.toArray) (by simpa using rs) rd lay (SeqAt.canLay_of_shaped sd) (PyProof.Rows.room_in_shaped sd hu)
      refine call_meets PySem.F.slot_list_count ⟨_, at_, rfl⟩ PySem.F.entry_list_count (PySem.F.args_list_count_2 _ _) (SeqAt.list_countAt a its.toArray n dd sls uy _) ⟨at_, eqs, .int _, H, I.tok _, ⟨_, rfl⟩, ?_⟩
      rw [← back, List.countP_map] at q
      exact q
def mCntO (i : Nat) (f : Mo D) : Mo D := fun ρ => match ρ[i]? with
  | some (.own _) => mBind f (fun d ρ1 => match ρ1[i]? with
    | some (.own ds) => mLift (bothD d (.list ds) (.int (ds.countP fun z => PyData.eqv z d : Nat))) ρ1
    | _ => none) ρ
  | _ => none
end
end HB
namespace HB
open PySem L2
def RunsAt (P : Program) (w : World) (K : PySem.W.Frag) (mg : Str → Option Value) (base : Heap) (CX : CXT) (A : Around) (f : Addr) (fd : FuncData) (ps : List Str) (sp : Sp) : Prop :=
  ∀ (outer : List PySem.Env) (s : Shared) (H : Hp) (args : Args) (us : List Value) (vs : List V) (Q : VK) (E : XK), Env0 P w K mg base A outer s H → BindsTo s fd args (ps.zip us) → Vals vs us → sp vs H Q E → codeAny (model P w) A (.call (.ref f) args) (CR CX outer P w H s Q E) s
section
variable {P : Program} {w : World} {K : PySem.W.Frag} {mg : Str → Option Value} {base : Heap} {A : Around} {fd : FuncData}
theorem runs_at {CX : CXT} {k : Nat} {x : Str} {st : Stmt} {N ps : List Str} {sp : Sp} (F : FunD K x x (defArgs st) (defBody st) (defScope st) [] [] (He.ga K x) fd) (S : FnScope N ps (defScope st)) (room : Room (k + 1) A) (len : ∀ vs H Q E, sp vs H Q E → vs.length = ps.length)
    (bod : ∀ (cdv : Value) (outer : List PySem.Env) (s : Shared) (H : Hp) (vs : List V) (Q : VK) (E : XK), Room k (A.deeper (PyProof.Rows.envOfC x (defScope st) s.heap.objs.size (He.ga K x) cdv)) → sp vs H Q E →
      ∃ t, PSs (cxOf CX P w K mg base N x (defScope st) (He.ga K x) cdv A outer s H E) (defBody st) t ∧ t { nx := fun _ Hn => Q .non Hn, rt := Q } (start N vs) H) :
    RunsAt P w K mg base CX A (He.ga K x) fd ps sp := by
  obtain ⟨oc, od, dV, kV, doc, pm, an, cdv, ct, osl, e, lk, code, _⟩ := F.ex
  subst e
  intro outer s H args us vs Q E env bnd rel want
  have old : ∀ b o, base.get? b = some o → s.heap.get? b = some o := fun b o z => (env.bs b o z).1
  have kin := env.mod.kin.keeps old
  have par : ∀ y ∈ ps.zip us, (defScope st).names.lookup y.1 = some .local ∨ ((defScope st).names.lookup y.1 = some .cell ∧ ((cellsFrom (s.heap.objs.size + 1) (defScope st).names []).lookup y.1).isSome = true) := by
    intro y hy
    have hy1 := (List.of_mem_zip (show (y.1, y.2) ∈ ps.zip us from hy)).1
    exact (S.par y.1 hy1).imp id fun q => ⟨q, PySem.W.cellsFrom_some _ _ _ (Or.inl q)⟩
  refine codeAny_call_function room.depth (kin _ _ lk) rfl S.co S.gen rfl (PySem.W.codeRec_of kin code) (bnd _ _ _ _ (wpAny_newFunctionEnv_cells S.kind par ?_))
  intro en hen s1 y
  subst hen
  refine ⟨(env.mod.nolimit.keeps old).keeps y.toInCall.keep, codeAny_func ?_⟩
  obtain ⟨t, run, good⟩ := bod cdv outer s H vs Q E (room.deeper _) want
  refine wpAny_mono (run.run [] s1 (start N vs) H _ (inv_start S room.hd env (len _ _ _ _ want) rel y) good) ?_ (fun _ _ z => z)
  intro fl s2 z
  match fl, z with
  | .ret u, ⟨v, _, H2, J2, rv, q⟩ => exact ⟨v, H2, J2.os, J2.bare, J2.base, J2.hok, rv, q⟩
  | .next, ⟨_, H2, J2, q⟩ => exact ⟨V.non, H2, J2.os, J2.bare, J2.base, J2.hok, rfl, q⟩
  | .brk, ⟨_, _, _, q⟩ => exact False.elim q
  | .cont, ⟨_, _, _, q⟩ => exact False.elim q
/-- the law's own def, where no repr is under way -/
theorem law_at {x : Str} {st : Stmt} {N ps : List Str} {k : Nat} {g : Mo Fl} (F : FunD K x x (defArgs st) (defBody st) (defScope st) [] [] (He.ga K x) fd) (S : FnScope N ps (defScope st)) (room : Room (k + 1) callerA)
    (hb : ∀ (cdv : Value) (A : Around) (outer : List PySem.Env) (s : Shared) (H : Hp) (E : XK), A.guards = some [] → Room k (A.deeper (PyProof.Rows.envOfC x (defScope st) s.heap.objs.size (He.ga K x) cdv)) → SVs (cxOf (L2.CX P w) P w K mg base N x (defScope st) (He.ga K x) cdv A outer s H E) E (defBody st) g) :
    RunsAt P w K mg base (L2.CX P w) callerA (He.ga K x) fd ps (spP K ps.length (guard ps.length (runF N.length g))) := by
  refine runs_at F S room (fun vs H Q E h => ?_) fun cdv outer s H vs Q E hr h => ?_
  · obtain ⟨G, ds, _, r, hl, _⟩ := h
    rw [r.length, hl]
  · obtain ⟨t, p, q⟩ := hb cdv callerA outer s H E rfl hr
    exact ⟨t, p, body_sem q h⟩
theorem RunsAt.cx0 {f : Addr} {ps : List Str} {sp : Sp} (F : RunsAt P w K mg base (L2.CX P w) A f fd ps sp) : RunsAt P w K mg base CX0 A f fd ps (spE sp) := by
  intro outer s H args us vs Q E env bnd rel want
  refine codeAny_mono (F outer s H args us vs Q _ env bnd rel want) fun r s2 h => ?_
  match r, h with
  | .error e, h =>
    obtain ⟨_, _, _, _, _, _, _, _, _, _, _, _, z⟩ := (show L2.CX P w outer H s (fun _ _ _ => False) e s2 from h)
    exact z.elim
  | .ok .next, h => exact h
  | .ok .brk, h => exact h
  | .ok .cont, h => exact h
  | .ok (.ret _), h => exact h
/-- the law's call, from its promise at the caller's place -/
theorem call_at {mb : Str → Option Value} {CX : CXT} {fa a : Addr} {x : Str} {sp : Sp} {s₁ : Shared} {vs : List Value} {ns : List Int} (kin : K.In s₁.heap) (gl : s₁.heap.Ns mainGlobals mg) (bu : s₁.heap.Ns builtinsNs mb)
    (boot : ∀ y : Str, y ≠ "__name__" → mb y = bootBuiltins y) (lim : s₁.heap.NoLimit) (nog : s₁.gens = #[]) (at_ : s₁.heap.get? a = some { cls := .type "list", data := .seq vs.toArray }) (inn : PyProof.Rows.IntsAre vs ns) (short : ns.length ≤ sizeLine)
    (F : ∀ base : Heap, K.In base → base.Ns mainGlobals mg → RunsAt P w K mg base CX callerA fa fd [x] sp) (bnd : ∀ (s : Shared) (u : Value), BindsTo s fd ⟨[u], []⟩ [(x, u)])
    (want : ∀ H : Hp, Only H → SqL K H a (ns.map V.int) → sp [.ref a] H (fun v _ => v = .bl true) fun _ _ _ => False) (none_ : ∀ H e s', CX [] H s₁ (fun _ _ _ => False) e s' → False) :
    codeAny (model P w) callerA (.call (.ref fa) ⟨[.ref a], []⟩) (fun r s' => r = .ok (.ret (.bool true)) ∧ OldK s₁.heap s'.heap ∧ s'.os = s₁.os ∧ PyProof.Rows.AllBare s'.gens) s₁ := by
  have main : ∀ H : Hp, Only H → SqL K H a (ns.map V.int) → HOk P w H s₁.heap → (∀ b, H b ≠ none → b = a) → (H a ≠ none → K.lookup a = none) →
      codeAny (model P w) callerA (.call (.ref fa) ⟨[.ref a], []⟩) (fun r s' => r = .ok (.ret (.bool true)) ∧ OldK s₁.heap s'.heap ∧ s'.os = s₁.os ∧ PyProof.Rows.AllBare s'.gens) s₁ := by
    intro H only seq hok alone notK
    have free : ∀ {b : Addr} {o : Obj} {es : Array DictEntry} {ep : Nat}, s₁.heap.get? b = some o → o.data = .dict es ep → H b = none := by
      intro b o es ep z d
      apply Classical.byContradiction
      intro c
      rw [alone b c, at_] at z
      cases z
      exact nomatch (show Data.seq vs.toArray _ = Data.dict es ep from d)
    have space : ∀ {b : Addr} {m : Str → Option Value}, s₁.heap.Ns b m → (hidT s₁.heap H).Ns b m := by
      rintro b m ⟨o, es, ep, z, d, r⟩
      exact ⟨o, es, ep, hidT_get z (free z d), d, r⟩
    have inB : K.In (hidT s₁.heap H) := by
      intro b o z
      refine hidT_get (kin b o z) (Classical.byContradiction fun c => ?_)
      have e := alone b c
      subst e
      rw [notK c] at z
      cases z
    obtain ⟨mc, l1, l2⟩ := lim
    have env : Env0 P w K mg (hidT s₁.heap H) callerA [] s₁ H := { frames := rfl, mod := ⟨inB, space gl, ⟨mb, space bu, boot⟩, ⟨mc, space l1, l2⟩⟩, bs := fun b o e => of_hidT e, bsz := Nat.le_of_eq (hidT_size _ _), funs := trivial, frf := (fun b hb => nomatch (show b ∈ ([] : List Addr) from hb)), hok := hok, bare := .of_eq nog }
    refine codeAny_mono (F _ inB (space gl) [] s₁ H ⟨[.ref a], []⟩ [.ref a] [.ref a] _ _ env (bnd s₁ (.ref a)) (.cons rfl .nil) (want H only seq)) ?_
    intro r s2 h
    match r, h with
    | .error e, h => exact (none_ H e s2 h).elim
    | .ok .next, h => exact h.elim
    | .ok .brk, h => exact h.elim
    | .ok .cont, h => exact h.elim
    | .ok (.ret u), ⟨v, H2, os, bare, un, hok2, rv, q⟩ =>
      have q2 : v = .bl true := q
      subst q2
      have eu : u = Value.bool true := rv
      subst eu
      refine ⟨rfl, OldK.of_keep ?_, os, bare⟩
      intro b o e
      rcases only b with z | ⟨ob, xs, z⟩
      · exact un.keep b o e z (fun y => nomatch (show b ∈ ([] : List Addr) from y)) (fun y => nomatch y)
      · obtain ⟨e1, _⟩ := hok b _ z
        obtain ⟨e2, _⟩ := hok2 b _ (un.frzs b ob _ z)
        exact (e1.symm.trans e) ▸ e2
  have rv := vals_ints inn
  have hlen := inn.length
  cases hk : K.lookup a with
  | some o =>
    have e := at_.symm.trans (kin a o hk)
    cases e
    have size : vs.toArray.size ≤ sizeLine := by rw [List.size_toArray, hlen]; exact short
    exact main (fun _ => none) (fun _ => .inl rfl) (.inr ⟨_, vs.toArray, _, hk, rfl, rfl, rfl, size, by simpa using rv⟩) (fun b u z => nomatch (show (none : Option HO) = some u from z)) (fun b z => absurd rfl z) (fun z => absurd rfl z)
  | none =>
    let o : HO := .frz { cls := .type "list", data := .seq vs.toArray } (.lst (ns.map V.int))
    refine main (fun b => if b = a then some o else none) ?_ (.inl (.inr ⟨{ cls := .type "list", data := .seq vs.toArray }, if_pos rfl⟩)) ?_ ?_ (fun _ => hk)
    · intro b
      by_cases hb : b = a
      · exact Or.inr ⟨_, _, if_pos hb⟩
      · exact .inl (if_neg hb)
    · intro b u z
      by_cases hb : b = a
      · subst hb
        have z2 := (if_pos rfl).symm.trans z
        cases z2
        exact ⟨at_, by rw [List.length_map]; exact short, vs, _, rv, at_⟩
      · exact nomatch (if_neg hb).symm.trans z
    · intro b z
      exact Classical.byContradiction fun hb => z (if_neg hb)
end
/-- the law's end -/
theorem walk_at {l : PySem.W.OpenLaw} {n : Nat} {q : Program} {loose : List Str} {XP : (Str → Option Value) → Heap → Prop} {YP : World → Heap → Prop} {d : DefRec} {CX : CXT} {x : Str} (most : l.most = some n) (small : n ≤ sizeLine) (nodef : d.params.defaults = [])
    (F : ∀ (w : World) (mg : Str → Option Value) (fa : Addr) (h : Heap), YP w h → h.Ns mainGlobals mg → mg d.name = some (.ref fa) → ∃ (K : PySem.W.Frag) (fd : FuncData) (sp : Sp), K.In h ∧ (∀ (s : Shared) (u : Value), BindsTo s fd ⟨[u], []⟩ [(x, u)]) ∧ (∀ (H : Hp) (a : Addr) (ns : List Int), ns.length ≤ n → Only H → SqL K H a (ns.map V.int) → sp [.ref a] H (fun v _ => v = .bl true) fun _ _ _ => False) ∧
        ∀ base : Heap, K.In base → base.Ns mainGlobals mg → RunsAt l.prog w K mg base CX callerA fa fd [x] sp)
    (none_ : ∀ (H : Hp) (s : Shared) (e : Value) (s' : Shared), CX [] H s (fun _ _ _ => False) e s' → False) : PySem.W.WalkO q loose XP YP l.row.toRowW d [] (fun f vs => PySem.call f vs) := by
  refine Att.attach_call most nodef ?_
  intro w s₀ s₁ mg mb fa o pm cd doc a vs ns G Y _ _ _ name obj inn len nog
  obtain ⟨K, fd, sp, kin, bnd, want, run⟩ := F w mg fa _ Y G.T.g name
  exact call_at kin G.T.g G.T.b G.T.builtins G.T.nolimit nog obj inn (Nat.le_trans len small) run bnd (fun H h1 h2 => want H a ns len h1 h2) fun H => none_ H s₁
section
variable {X : Cx}
/-- the text that repr tells -/
def reprD : List D → Option D
  | [d] => if SeqAt.shaped d = true ∧ d.showable = true ∧ d.shown.length ≤ sizeLine then some (.str d.shown) else none
  | _ => none
def rRepr (K : PySem.W.Frag) : List V → Hp → VK → Prop := fun vs H Q => ∃ x d, vs = [x] ∧ Dp K H x d ∧ SeqAt.shaped d = true ∧ d.showable = true ∧ d.shown.length ≤ sizeLine ∧ Q (.str d.shown) H
theorem call_reprD (hg : X.A.guards = some []) (hu : X.A.units + 65 < cLine) : CallR X (.builtin "repr") (rRepr X.K) := by
  intro pins s σ H vs us Q I r want
  obtain ⟨x, d, e, dp, sh, sw, sz, q⟩ := want
  subst e
  match us, r with
  | [u], .cons ru .nil =>
    obtain ⟨as, rd⟩ := Dp.reads I d x u dp ru
    have nd := PyData.hasDict_of_canLay d (SeqAt.canLay_of_shaped sh)
    have dl := SeqAt.depth_of_shaped sh
    have heap : ∀ a : Addr, u = .ref a → wpAny (model X.prog X.w) X.A (call (.builtin "repr") [u]) (EP X pins σ Q) X.xe s := by
      intro a ea
      subst ea
      exact repr_of_reads' rd sw (PyData.noDict_hsm nd) hg (by omega) (fun _ _ z => z) (fun h2 t tk k => ⟨.str d.shown, H, I.kept k, ⟨t, rfl⟩, q⟩) sz
    cases dp with
    | non =>
      cases ru
      rw [PyData.shown_none] at q
      exact PySem.P.repr_of_none ⟨.str _, H, I.tok _, ⟨_, rfl⟩, q⟩
    | bl b =>
      cases ru
      rw [PyData.shown_bool] at q
      exact PySem.P.repr_of_bool ⟨.str _, H, I.tok _, ⟨_, rfl⟩, q⟩
    | int i =>
      obtain ⟨t, rfl⟩ := ru
      rw [PyData.shown_int] at q
      have small : i.natAbs.log2 < 1920 := by simpa [PyData.showable] using sw
      exact PySem.P.repr_of_int small ⟨.str _, H, I.tok _, ⟨_, rfl⟩, q⟩
    | str z =>
      obtain ⟨t, rfl⟩ := ru
      rw [PyData.shown_str] at q sz
      exact PySem.P.repr_of_str ⟨.str _, H, I.tok _, ⟨_, rfl⟩, q⟩ sz
    | lst => exact heap _ ru
    | tup => exact heap _ ru
theorem dc_repr (hg : X.A.guards = some []) (hu : X.A.units + 65 < cLine) : DCall X (.builtin "repr") reprD := by
  refine ⟨_, call_reprD hg hu, fun G H xs ds c Q s hx h k => ?_⟩
  match ds, h with
  | [d], h =>
    obtain ⟨x, rfl, r⟩ := hx.one
    obtain ⟨⟨h1, h2, h3⟩, rfl⟩ := ite_some (show (if SeqAt.shaped d = true ∧ d.showable = true ∧ d.shown.length ≤ sizeLine then some (PyData.str d.shown) else none) = some c from h)
    exact ⟨x, d, rfl, r.shaped s h1, h1, h2, h3, k G _ H (.refl s) (.str _)⟩
end
end HB
namespace HB
open PySem L2
theorem oexB_ok {K : PySem.W.Frag} {C : Addr} (h : oexB K C = true) : OexC K C := by
  have ⟨h1, h⟩ := He.ba h
  have ⟨h2, h⟩ := He.ba h
  have ⟨h3, h⟩ := He.ba h
  have ⟨h4, h5⟩ := He.ba h
  refine ⟨?_, He.eqO_ok h2, of_decide_eq_true h3, of_decide_eq_true h4, h5⟩
  split at h1
  · rename_i dd cd sl look
    split at h1
    · rename_i C2 bm k0 k1 k2 k3 n k5 mro slots
      have ⟨e1, h1⟩ := He.ba h1
      have ⟨e2, h1⟩ := He.ba h1
      have ⟨e3, h1⟩ := He.ba h1
      have ⟨e4, e5⟩ := He.ba h1
      obtain ⟨nm, bs, mr, ns, qn, hd, sn, sub, ab, col, del⟩ := cd
      have e6 : sl = #[k0, k1, k2, k3, some (.builtin n), k5] := by
        obtain ⟨l⟩ := sl
        exact congrArg Array.mk slots
      have e1 := of_decide_eq_true e1
      have e2 := of_decide_eq_true e2
      have e3 : del = false := by simpa using e3
      have e4 : hd = true := e4
      have mro : mr = .ref C2 :: bm := mro
      subst e1 e2 e3 e4 mro e6
      exact ⟨nm, qn, ns, bs, bm, sn, sub, ab, col, dd, k0, k1, k2, k3, k5, look, e5⟩
    · cases h1
  · cases h1
structure ExcF (K : PySem.W.Frag) (c f : Str) : Prop where
  o : OexC K (He.ga K c)
  x : XfC K (He.ga K c)
  n : PySem.W.findIn K (.ref (He.ga K c)) f = some none
  i : PySem.W.findIn K (.ref (He.ga K c)) "__init__" = some (some (.ref (He.ma K (He.ga K c) "__init__")))
  t : PySem.W.typeIn K (.ref (He.ma K (He.ga K c) "__init__")) = some (.type "function")
theorem excB_ok {K : PySem.W.Frag} {c f : Str} (h : excB K c f = true) : ExcF K c f := by
  have ⟨h1, h⟩ := He.ba h
  have ⟨h2, h⟩ := He.ba h
  have ⟨h3, h⟩ := He.ba h
  have ⟨h4, h5⟩ := He.ba h
  exact ⟨oexB_ok h1, xfB_ok h2, He.eqO_ok h3, He.eqO_ok h4, of_decide_eq_true h5⟩
structure BotF (K : PySem.W.Frag) (b : Str) : Prop where
  r : PySem.W.readsIn K (He.ga K b) (.type "type") = true
  f : PySem.W.findCls K (.ref (He.ga K b)) (.type "type") "__init__" = some (.val (.builtin "ValueError.__init__"))
  s : PySem.W.specialIn K (.ref (He.ga K b)) "__getattribute__" = some (some (.builtin "type.__getattribute__"))
theorem botB_ok {K : PySem.W.Frag} {b : Str} (h : botB K b = true) : BotF K b := by
  have ⟨h1, h⟩ := He.ba h
  split at h
  · rename_i e
    exact ⟨h1, e, He.eqO_ok h⟩
  · cases h
section
variable {X : Cx} {e : Expr} {es : List Expr} {ta : TA} {b f : Str} {p p1 p2 pos : Pos}
theorem pe_binit {pl : Sem Bool} (hg : Gl X b) (hm : X.mg b = some (.ref (He.ga X.K b))) (B : BotF X.K b) (ha : PA X (e :: es) ta)
    (hc : eval (.Call (.Attribute (.Name b p1) "__init__" p2) (e :: es) [] pos) X.env = (do
      let ow ← eval (.Name b p1) X.env
      standAt p2.atName
      let (fx, fst) ← holding [ow] (getMethod ow "__init__" pl)
      callWith pos fx fst (backTo pos (starEach (e :: es) X.env)) (backToKw pos (keywordEach [] X.env))) := by rfl)
    (hdb : (b == ("__debug__" : Str)) = false := by decide) (he : starEach (e :: es) X.env = (false, eval e X.env) :: starEach es X.env := by rfl) (hpl : (backTo pos (starEach es X.env)).any (·.1) = false := by rfl) :
    PE X (.Call (.Attribute (.Name b p1) "__init__" p2) (e :: es) [] pos) (tVeI X.K ta) := by
  constructor; intro pins s σ H Q I h
  refine PySem.W.methodCall_KW (ld_glob I hg hm (PySem.W.method_cls I.kIn B.s (PySem.W.cls_value I.kIn B.r B.f (by decide +kernel) ?_)) hdb) hc
  show wpAny _ _ (callWith pos (Value.builtin "ValueError.__init__") [] (backTo pos (starEach (e :: es) X.env)) []) _ _ _; refine PyProof.Rows.callWith_method1 (thn (ha.run pos pins _ σ H _ (I.tok _) h) ?_) he hpl
  rintro us s1 ⟨vs, H1, I1, r1, a, C, ws, rfl, hl, T, ea, q⟩
  match us, r1 with
  | _ :: ur, .cons rfl rest =>
    have long : ur.length ≤ sizeLine := by
      have := Paired.length rest
      have : sizeLine = 16777216 := by decide
      omega
    exact oinit_ok T I1 ea long fun s2 J2 => ⟨.non, H1, J2, rfl, q⟩
end
/-- what such an __init__ leaves: the field in a new dict -/
def spExc (K : PySem.W.Frag) (C : Addr) (f : Str) : Sp := fun vs H Q _ => ∃ (a : Addr) (v : V), vs = [.ref a, v] ∧ H a = some (exo a C none) ∧ ∀ d, H d = none → d ≠ a → Q .non (upd (upd H d (exd d [(f, v)])) a (exo a C (some d)))
theorem exc_suite {X : Cx} {b f x : Str} {txt : Str} {ck : Nat} {p1 p2 p3 p4 p5 p6 p7 p8 p9 p10 : Pos} {C : Addr} (hN0 : X.N[0]? = some ("self" : Str)) (hN1 : X.N[1]? = some x) (hv0 : Vis X.env.scope ("self" : Str)) (hv1 : Vis X.env.scope x)
    (hg : Gl X b) (hm : X.mg b = some (.ref (He.ga X.K b))) (B : BotF X.K b) (O : OexC X.K C) (hn : PySem.W.findIn X.K (.ref C) f = some none) (hd1 : (x == ("__debug__" : Str)) = false) (hd2 : (x == ("__classdict__" : Str)) = false) (hdb : (b == ("__debug__" : Str)) = false)
    {pl : Sem Bool} (hc : eval (.Call (.Attribute (.Name b p1) "__init__" p2) [.Name "self" p3, .Constant (.str txt) ck p4] [] p5) X.env = (do
      let ow ← eval (.Name b p1) X.env
      standAt p2.atName
      let (fx, fst) ← holding [ow] (getMethod ow "__init__" pl)
      callWith p5 fx fst (backTo p5 (starEach [.Name "self" p3, .Constant (.str txt) ck p4] X.env)) (backToKw p5 (keywordEach [] X.env)))) 
    (hs1 : swapsWith (.Call (.Attribute (.Name b p1) "__init__" p2) [.Name "self" p3, .Constant (.str txt) ck p4] [] p5) none p6.line X.env = pure false) (hs2 : swapsWith (.Name x p9) (some (.Attribute (.Name "self" p7) f p8)) p10.line X.env = pure false) :
    ∃ t, PSs X [.Expr (.Call (.Attribute (.Name b p1) "__init__" p2) [.Name "self" p3, .Constant (.str txt) ck p4] [] p5) p6, .Assign [.Attribute (.Name "self" p7) f p8] (.Name x p9) p10] t ∧
      ∀ (D : Ends) (σ : St) (H : Hp) (a : Addr) (v : V), σ[0]? = some (some (.ref a)) → σ[1]? = some (some v) → H a = some (exo a C none) → (∀ d, H d = none → d ≠ a → D.nx σ (upd (upd H d (exd d [(f, v)])) a (exo a C (some d)))) → t D σ H := by
  have e0 : PE X (.Name "self" p3) (tVar 0) := pe_var hN0 hv0 (by decide) (by decide)
  have e0' : PE X (.Name "self" p7) (tVar 0) := pe_var hN0 hv0 (by decide) (by decide)
  have e1 : PE X (.Name x p9) (tVar 1) := pe_var hN1 hv1 hd1 hd2
  refine ⟨_, pss_cons (ps_expr (pe_binit hg hm B (pa_cons e0 (pa_cons pe_str pa_nil)) hc hdb) hs1) (pss_one (ps_ost (f := f) e0' e1 hs2)), ?_⟩
  intro D σ H a v s0 s1 ha k
  refine ⟨.ref a, s0, ?_⟩
  refine ⟨a, C, [.str txt], rfl, by simp, O, ha, ?_⟩
  refine ⟨v, s1, .ref a, s0, a, C, rfl, O, hn, .inl ⟨ha, fun d hd ne => k d hd ne⟩⟩
/-- an error class: its facts, what its __init__ promises -/
structure XcE (P : Program) (w : World) (K : PySem.W.Frag) (mg : Str → Option Value) (base : Heap) (k : Nat) (c f : Str) : Prop where
  fc : ExcF K c f
  ex : ∃ fd ps, FnOk P w K mg base (L2.CX P w) k (He.ma K (He.ga K c) "__init__") fd ps (spExc K (He.ga K c) f) ∧ Binds K fd ps []
  gl : mg c = some (.ref (He.ga K c))
theorem exc_ok {P : Program} {w : World} {K : PySem.W.Frag} {mg : Str → Option Value} {base : Heap} {c f x qual : Str} {st : Stmt} {fd : FuncData} (F : FunD K "__init__" qual (defArgs st) (defBody st) (defScope st) [] [] (He.ma K (He.ga K c) "__init__") fd) (S : FnScope [("self" : Str), x] [("self" : Str), x] (defScope st))
    (fc : ExcF K c f) (gl : mg c = some (.ref (He.ga K c)))
    (b : ∀ (kV doc pm : Value) (an : Option Addr) (cdv ct : Value) (us : List Value), us.length = [("self" : Str), x].length → bindArgs (PySem.W.fnOf "__init__" qual (defArgs st) (defBody st) (defScope st) .none kV doc pm an cdv ct) ⟨us, []⟩ = pure ([("self" : Str), x].zip us))
    (hb : ∀ (cdv : Value) (A : Around) (outer : List PySem.Env) (s : Shared) (H : Hp) (E : XK), ∃ t, PSs (cxOf (L2.CX P w) P w K mg base [("self" : Str), x] qual (defScope st) (He.ma K (He.ga K c) "__init__") cdv A outer s H E) (defBody st) t ∧
      ∀ (D : Ends) (σ : St) (H : Hp) (a : Addr) (v : V), σ[0]? = some (some (.ref a)) → σ[1]? = some (some v) → H a = some (exo a (He.ga K c) none) → (∀ d, H d = none → d ≠ a → D.nx σ (upd (upd H d (exd d [(f, v)])) a (exo a (He.ga K c) (some d)))) → t D σ H) :
    XcE P w K mg base 1 c f := by
  refine ⟨fc, ⟨fd, [("self" : Str), x], F.ok S (fun vs H Q E h => ?_) fun cdv A outer s H vs Q E hr h => ?_, F.bindsN b⟩, gl⟩
  · obtain ⟨a, v, rfl, _⟩ := h
    rfl
  · obtain ⟨a, v, rfl, ha, k⟩ := h
    obtain ⟨t, p, q⟩ := hb cdv A outer s H E
    exact ⟨t, p, q _ _ H a v rfl rfl ha k⟩
def sRaise (c f : Str) (a : Mo D) : Mo Fl := mBind a fun d _ => some (.error (c, [(f, d)]))
section
variable {X : Cx} {E : XK}
theorem s_raise {k : Nat} {c f : Str} {e : Expr} {g : Mo D} {p pos pos2 : Pos} (hX : XcE X.prog X.w X.K X.mg X.base k c f) (hr : Room (k + 1) X.A) (calm : X.calm = true) (tk : Takes X (fun cls d _ H => E cls d H)) (h : EV X E e g)
    (hg : Gl X c := by rfl) (hdb : (c == ("__debug__" : Str)) = false := by decide) (he : starEach [e] X.env = (false, eval e X.env) :: starEach [] X.env := by rfl) (hpl : (backTo pos (starEach [] X.env)).any (·.1) = false := by rfl) :
    SV X E (.Raise (some (.Call (.Name c p) [e] [] pos)) none pos2) (sRaise c f g) := by
  obtain ⟨fc, ⟨fd, ps, F1, bnd⟩, gl⟩ := hX
  obtain ⟨t, pt, q⟩ := h
  have no : Passes (L2.CX X.prog X.w) X (fun _ _ _ => False) := passes_call tk fun _ _ _ _ z => z.elim
  refine ⟨_, ps_raise calm tk (pmk_oex fc.o fc.i fc.t F1 hr bnd .nil no hg gl (pa_cons pt pa_nil he) hdb he hpl), fun G ρ σ H De j h => ?_⟩
  refine q G ρ σ H _ j (PostS.imp h fun G1 ρ1 v H1 d e1 r1 h1 => ?_)
  refine ⟨by simp, fun a na => ⟨a, v, rfl, upd_same, fun dd hd ne => ⟨rfl, dd, [(f, v)], upd_same, ?_, ?_, h1 _ _ _ ?_⟩⟩⟩
  · rw [upd_ne ne, upd_same]
  · rwa [upd_ne ne] at hd
  · have hd1 : H1 dd = none := by rwa [upd_ne ne] at hd
    have other : ∀ b, b ≠ dd → b ≠ a → upd (L2.del (upd (upd (upd H1 a (exo a (He.ga X.K c) none)) dd (exd dd [(f, v)])) a (exo a (He.ga X.K c) (some dd))) a) dd (.xd [(f, v)]) b = H1 b := fun b n1 n2 => by
      rw [upd_ne n1, del_ne n2, upd_ne n2, upd_ne n1, upd_ne n2]
    have eH : upd (L2.del (upd (upd (upd H1 a (exo a (He.ga X.K c) none)) dd (exd dd [(f, v)])) a (exo a (He.ga X.K c) (some dd))) a) dd (.xd [(f, v)]) = upd H1 dd (.xd [(f, v)]) := funext fun b => by
      by_cases n1 : b = dd
      · rw [n1, upd_same, upd_same]
      · rw [upd_ne n1, upd_ne n1]
        by_cases n2 : b = a
        · rw [n2, na]; unfold L2.del; rw [if_pos rfl]
        · have z := other b n1 n2
          rw [upd_ne n1] at z
          exact z
    rw [eH]
    have sh : Same H1 (upd H1 dd (.xd [(f, v)])) := same_upd hd1
    exact ⟨rfl, G1, .refl _, e1.j.sub.new hd1, fun b hb => .inl hb, fun b o z _ => sh.s b o z, ⟨fun b hb => sh.free hb, (sameT_upd hd1).tx⟩, .inr ⟨dd, [(f, v)], rfl, upd_same, .cons r1 .nil⟩⟩
end
end HB
namespace HB
open PySem L2
abbrev botK : XK := fun _ _ _ => False
end HB
namespace HB
open PySem L2
/-- the caught error lies so -/
structure Held (K : PySem.W.Frag) (a : Addr) (cls : Value) (d : Option Addr) (i : Nat) (G : Hp) (σ : St) (H : Hp) (x : Exn) : Prop where
  s : σ[i]? = some (some (.ref a))
  c : cls = .ref (He.ga K x.1)
  f : ∃ dd fs, d = some dd ∧ H dd = some (.xd fs) ∧ RpF K G fs (x.2.map fun p => (.str p.1, p.2))
  sub : Same G H
theorem Held.px {K : PySem.W.Frag} {a : Addr} {cls : Value} {d : Option Addr} {i : Nat} {G G1 H H1 : Hp} {σ : St} {x : Exn} (h : Held K a cls d i G σ H x) (p : PX G H G1 H1) : Held K a cls d i G1 σ H1 x :=
  ⟨h.s, h.c, let ⟨dd, fs, e1, e2, e3⟩ := h.f; ⟨dd, fs, e1, p.h _ _ e2, e3.mono p.g⟩, p.s⟩
/-- an expression in the suite, a test in it -/
def HV (X : Cx) (i : Nat) (e : Expr) (f : Exn → Option D) : Prop := ∀ (a : Addr) (oe : Obj) (cls : Value) (d : Option Addr) (pn : List (Addr × Obj)), Zc cls d oe → (∃ vs, oe.data = .fields vs) →
  ∃ t, PE (X.suite a ((a, oe) :: pn)) e t ∧ ∀ G σ H Q x y, Held X.K a cls d i G σ H x → f x = some y → (∀ G1 v H1, PX G H G1 H1 → Rp X.K G1 v y → Q v H1) → t σ H Q
def HT (X : Cx) (i : Nat) (e : Expr) (f : Exn → Option Bool) : Prop := ∀ (a : Addr) (oe : Obj) (cls : Value) (d : Option Addr) (pn : List (Addr × Obj)), Zc cls d oe → (∃ vs, oe.data = .fields vs) →
  ∃ t, PT (X.suite a ((a, oe) :: pn)) e t ∧ ∀ G σ H Q x b, Held X.K a cls d i G σ H x → f x = some b → Q b H → t σ H Q
def fldX (c f : Str) (x : Exn) : Option D := match x with
  | (c2, [(g, y)]) => if c2 = c ∧ g = f then some y else none
  | _ => none
section
variable {X : Cx} {i : Nat}
theorem hv_str {z : Str} {k : Nat} {pos : Pos} : HV X i (.Constant (.str z) k pos) fun _ => some (.str z) := fun a oe cls d pn _ _ =>
  ⟨_, pe_str, fun G σ H Q x y h e k => by cases e; exact k G _ H (.refl h.sub) (.str z)⟩
theorem hv_fld {c f n : Str} {p pos : Pos} (fc : ExcF X.K c f) (hN : X.N[i]? = some n) (hv : Vis X.env.scope n := by first | exact Or.inl rfl | exact Or.inr (Or.inl rfl) | exact Or.inr (Or.inr rfl)) (hd : (n == ("__debug__" : Str)) = false := by decide) (hcd : (n == ("__classdict__" : Str)) = false := by decide)
    (hb : attributeBase (.Name n p) f X.env (eval (.Name n p) X.env) = eval (.Name n p) X.env := by rfl) : HV X i (.Attribute (.Name n p) f pos) (fldX c f) := by
  intro a oe cls d pn hz ho
  refine ⟨_, pe_xf fc.x fc.n hz ho (pe_var (X := X.suite a ((a, oe) :: pn)) hN hv hd hcd) hb, ?_⟩
  intro G σ H Q x y h e k
  obtain ⟨c2, l⟩ := x
  match l, e with
  | [(g, z)], e =>
    obtain ⟨⟨e1, e2⟩, e3⟩ := ite_some (show (if c2 = c ∧ g = f then some z else none) = some y from e)
    subst e1 e2 e3
    obtain ⟨dd, fs, r1, r2, r3⟩ := h.f
    match fs, r3 with
    | [(_, v)], .cons rv .nil => exact ⟨_, h.s, rfl, h.c, dd, _, v, r1, r2, by simp [List.lookup], k G v H (.refl h.sub) rv⟩
structure IsxF (K : PySem.W.Frag) (c : Str) : Prop where
  cl : (PySem.W.clsIn K (He.ga K c)).isSome = true
  ha : PySem.W.findIn K (.ref (He.ga K c)) "__class__" = some (some (.builtin "object.__class__"))
  (hn : PySem.W.specialIn K (.builtin "object.__class__") "__get__" = some (some (.builtin "getset_descriptor.__get__"))) (ht : PySem.W.takesIn K (.builtin "object.__class__") = some true)
  hm : PySem.W.mroIn K (He.ga K c) (.type "object") = some true
theorem isxB_ok {K : PySem.W.Frag} {c : Str} (h : isxB K c = true) : IsxF K c := by
  have ⟨h1, h⟩ := He.ba h
  have ⟨h2, h⟩ := He.ba h
  have ⟨h3, h⟩ := He.ba h
  have ⟨h4, h5⟩ := He.ba h
  exact ⟨h1, He.eqO_ok h2, of_decide_eq_true h3, of_decide_eq_true h4, of_decide_eq_true h5⟩
end
def calmE : En → Bool
  | [] => true
  | .no :: ρ => calmE ρ
  | .pur _ :: ρ => calmE ρ
  | _ :: _ => false
theorem calmE_get : ∀ {ρ : En} {i : Nat} {s : Sl} {ds : List D}, calmE ρ = true → ρ[i]? = some s → s.hs = some ds → False
  | .no :: ρ, 0, _, _, _, e, h => by cases e; cases h
  | .pur _ :: ρ, 0, _, _, _, e, h => by cases e; cases h
  | .no :: ρ, i + 1, _, _, n, e, h => calmE_get (ρ := ρ) (i := i) n (by simpa using e) h
  | .pur _ :: ρ, i + 1, _, _, n, e, h => calmE_get (ρ := ρ) (i := i) n (by simpa using e) h
  | [], _, _, _, _, e, _ => by simp at e
theorem calmE_d {ρ : En} {σ : St} (n : calmE ρ = true) (b : Addr) : ¬ Ownd ρ σ b := fun ⟨_, _, _, e, h, _⟩ => calmE_get n e h
/-- a slot goes -/
theorem Ex.drop {K : PySem.W.Frag} {G H : Hp} {ρ : En} {σ : St} (j : J K G ρ σ H) (i : Nat) : Ex K G ρ σ H G (ρ.set i .no) (σ.set i none) H := by
  have other : ∀ (k : Nat) (s : Sl), (ρ.set i .no)[k]? = some s → s ≠ .no → k ≠ i ∧ ρ[k]? = some s := fun k s e n => by
    by_cases c : k = i
    · subst c
      rw [List.getElem?_set] at e
      split at e
      · split at e
        · cases e; exact absurd rfl n
        · cases e
      · rename_i c2; exact absurd rfl c2
    · exact ⟨c, by rwa [List.getElem?_set_ne (Ne.symm c)] at e⟩
  have lsne : ∀ (s : Sl) (ds : List D), s.hs = some ds → s ≠ .no := fun s ds h e => by subst e; cases h
  have own2 : ∀ b, Ownd (ρ.set i .no) (σ.set i none) b → Ownd ρ σ b := fun b ⟨k, s, ds, e, h, z⟩ => by
    obtain ⟨n1, n2⟩ := other k s e (lsne s ds h)
    exact ⟨k, s, ds, n2, h, by rwa [List.getElem?_set_ne (Ne.symm n1)] at z⟩
  refine ⟨⟨j.sub, by simp [j.len], fun k d e => ?_, fun k s ds e h => ?_, fun k l s t ds es b e1 h1 e2 h2 z1 z2 => ?_, fun k g o o2 z xs e1 e2 => ?_⟩, .refl _, fun b h => .inl h, fun b o e _ => e, fun b z => .inl (own2 b z), fun b h => h, fun k ds e => ?_, fun k s e ql => ?_, .refl H⟩
  · obtain ⟨n1, n2⟩ := other k _ e (fun z => nomatch z)
    obtain ⟨v, q1, q2⟩ := j.pur k d n2
    exact ⟨v, by rw [List.getElem?_set_ne (Ne.symm n1)]; exact q1, q2⟩
  · obtain ⟨n1, n2⟩ := other k s e (lsne s ds h)
    obtain ⟨a, vs, q1, q2⟩ := j.hold k s ds n2 h
    exact ⟨a, vs, by rw [List.getElem?_set_ne (Ne.symm n1)]; exact q1, q2⟩
  · obtain ⟨n1, n2⟩ := other k s e1 (lsne s ds h1)
    obtain ⟨m1, m2⟩ := other l t e2 (lsne t es h2)
    exact j.alone k l s t ds es b n2 h1 m2 h2 (by rwa [List.getElem?_set_ne (Ne.symm n1)] at z1) (by rwa [List.getElem?_set_ne (Ne.symm m1)] at z2)
  · obtain ⟨n1, n2⟩ := other k _ e1 (fun z => nomatch z)
    obtain ⟨m1, m2⟩ := other g _ e2 (fun z => nomatch z)
    rw [List.getElem?_set_ne (Ne.symm n1), List.getElem?_set_ne (Ne.symm m1)]
    exact j.lk k g o o2 z xs n2 m2
  · obtain ⟨n1, n2⟩ := other k _ e (fun z => nomatch z)
    exact ⟨⟨ds, n2⟩, List.getElem?_set_ne (Ne.symm n1)⟩
  · obtain ⟨n1, n2⟩ := other k _ e (fun z => by subst z; cases ql)
    exact ⟨⟨s, n2, ql⟩, List.getElem?_set_ne (Ne.symm n1)⟩
end HB
namespace HB
open PySem L2
theorem xs_ok {xs : List (PySem.W.Frag → Bool)} {K : PySem.W.Frag} (c : (xs.all fun p => p K) = true) (i : Nat) {p : PySem.W.Frag → Bool} (h : xs[i]? = some p) : p K = true := List.all_eq_true.mp c p (List.mem_of_getElem? h)
end HB
namespace HB
open PySem L2
section
variable {X : Cx} {E : XK}
/-- a def run one built-in deep -/
theorem fn_in1 {CX : CXT} {k : Nat} {f : Addr} {fd : FuncData} {ps : List Str} {sp : Sp} (F : FnOk X.prog X.w X.K X.mg X.base CX k f fd ps sp) (hr : Room (k + 1) X.A) (bnd : Binds X.K fd ps []) (pass : Passes CX X E)
    {pins : List (Addr × Obj)} {σ : St} {H : Hp} {s : Shared} {Q : VK} {us : List Value} {vs : List V} (I : Inv X pins σ H s) (r : Vals vs us) (h : sp vs H Q E) : wpAny (model X.prog X.w) X.A.in1 (call (.ref f) us) (EP X pins σ Q) X.xe s := by
  have bd : BindsTo s fd ⟨us, []⟩ (ps.zip us) := by
    have z := bnd s us I.kIn (by rw [List.append_nil, ← r.length]; exact F.len _ _ _ _ h)
    rwa [List.append_nil] at z
  refine wpAny_call (codeAny_mono (F.run _ X.stack s H ⟨us, []⟩ us vs Q E hr.in1 I.env0.in1 bd r h) fun o s2 q => ?_)
  match o, q with
  | .error e, q => exact pass pins σ H s e s2 I q
  | .ok (.ret w), q => exact I.after q
end
end HB
namespace HB
open PySem L2
section
variable {X : Cx} {E : XK}
def rLenO (C : Addr) (sp : Sp) (E : XK) : List V → Hp → VK → Prop := fun vs H Q => ∃ a dx fs, vs = [.ref a] ∧ H a = some (.ins C dx fs) ∧ sp [.ref a] H (fun v H2 => (∃ n : Nat, v = .int n ∧ n ≤ 1000000) ∧ Q v H2) E
theorem call_lenO {CX : CXT} {k : Nat} {C f : Addr} {fd : FuncData} {ps : List Str} {sp : Sp} (me : Meth X.K C "__len__" f) (F : FnOk X.prog X.w X.K X.mg X.base CX k f fd ps sp) (hr : Room (k + 1) X.A) (hb : Binds X.K fd ps []) (hx : Passes CX X E) : CallR X (.builtin "len") (rLenO C sp E) :=
  fun pins s σ H vs us Q I r ⟨a, dx, fs, e, ha, q⟩ => by
    subst e
    match us, r with
    | [_], .cons rfl .nil =>
      have ⟨_, ob, _⟩ := ins_get I.hok ha
      have ⟨od, at_, _⟩ := ob.look
      obtain ⟨m, fr⟩ := I.fr
      refine PySem.W.len_K fr I.ok.mod.kin at_ me.at_ me.fn (wpAny_mono (fn_in1 (vs := [.ref a]) F hr hb hx I (.cons rfl .nil) q) (fun u s2 z => ?_) fun _ _ z => z)
      obtain ⟨v, H2, I2, rv, ⟨n, ev, hn⟩, qv⟩ := z
      subst ev
      obtain ⟨t, et⟩ := rv
      subst et
      have small : (n : Int) < 2 ^ 63 := by
        have : (2 : Int) ^ 63 = 9223372036854775808 := by decide
        omega
      exact ⟨⟨by omega, small⟩, .int n, H2, I2.tok _, ⟨_, rfl⟩, qv⟩
def mLenObj (c : Str) (F : Fn) (f : Mo D) : Mo D := mBind f fun d => match isObj c "__len__" d with
  | true => fun ρ => (match F [d] with
    | some (.ok (.int i)) => if 0 ≤ i ∧ i ≤ 1000000 then some (.ok (ρ, .int i)) else none
    | some (.error x) => some (.error x)
    | _ => none)
  | false => fun _ => none
theorem ev_lenObj {k n : Nat} {c : Str} {F : Fn} {e : Expr} {f : Mo D} {p pos : Pos} (hM : MeE X.prog X.w X.K X.mg X.base k c "__len__" n F) (hr : Room (k + 1) X.A) (hx : Passes (L2.CX X.prog X.w) X E) (h : EV X E e f) (hm : X.mg "len" = none) (hg : Gl X "len" := by rfl)
    (he : starEach [e] X.env = (false, eval e X.env) :: starEach [] X.env := by rfl) (hpl : (backTo pos (starEach [] X.env)).any (·.1) = false := by rfl) : EV X E (.Call (.Name "len" p) [e] [] pos) (mLenObj c F f) := by
  obtain ⟨hc, me, ⟨fd, ps, h1, h2⟩, hl⟩ := hM
  obtain ⟨t, pt, q⟩ := h
  refine ⟨_, pe_callB (call_lenO me h1 hr h2 hx) hg hm (by decide +kernel) (pa_cons pt pa_nil he) (by decide) (by decide) he hpl, fun G ρ σ H Q j h => q G ρ σ H _ j (Post.imp h fun G1 ρ1 v H1 d e1 r1 h3 => ?_)⟩
  cases hb : isObj c "__len__" d with
  | false => rw [hb] at h3; exact h3.elim
  | true =>
    rw [hb] at h3
    obtain ⟨a, dx, fs, rfl, z1, z2⟩ := r1.isObj hb
    refine ⟨a, dx, fs, rfl, e1.j.sub _ _ z1, G1, [d], e1.j.sub, .cons r1 .nil, ?_, ?_⟩
    · refine hl _ fun no => ?_
      rw [no] at h3
      exact h3
    · match hF : F [d], h3 with
      | none, h3 => simp only [hF] at h3; exact h3.elim
      | some (.error x), h3 => simp only [hF] at h3; exact fun C dx H2 z => h3 C dx H2 z.of0
      | some (.ok (.int i)), h3 =>
        simp only [hF] at h3
        by_cases c : 0 ≤ i ∧ i ≤ 1000000
        · rw [if_pos c] at h3
          intro G2 u H2 px ru
          cases ru
          obtain ⟨m, em⟩ : ∃ m : Nat, i = m := ⟨i.toNat, by omega⟩
          exact ⟨⟨m, by rw [em], by omega⟩, h3 G2 _ H2 (e1.j.ex px) (.int i)⟩
        · rw [if_neg c] at h3; exact h3.elim
      | some (.ok .none), h3 => simp only [hF] at h3; exact h3.elim
      | some (.ok (.bool _)), h3 => simp only [hF] at h3; exact h3.elim
      | some (.ok (.str _)), h3 => simp only [hF] at h3; exact h3.elim
      | some (.ok (.list _)), h3 => simp only [hF] at h3; exact h3.elim
      | some (.ok (.tuple _)), h3 => simp only [hF] at h3; exact h3.elim
      | some (.ok (.dict _)), h3 => simp only [hF] at h3; exact h3.elim
end
mutual
def freeL : D → Bool
  | .list _ => false
  | .tuple ds => freeLs ds
  | .dict kvs => freeLk kvs
  | _ => true
def freeLs : List D → Bool
  | [] => true
  | d :: ds => freeL d && freeLs ds
def freeLk : List (D × D) → Bool
  | [] => true
  | (_, v) :: r => freeL v && freeLk r
end
/-- the cells but some lists -/
noncomputable def less (G : Hp) (P : Addr → Prop) : Hp := fun b => @ite _ (P b) (Classical.propDecidable _) none (G b)
theorem less_in {G : Hp} {P : Addr → Prop} {b : Addr} {o : HO} (h : less G P b = some o) : ¬ P b ∧ G b = some o := by
  unfold less at h
  split at h
  · cases h
  · rename_i n; exact ⟨n, h⟩
theorem less_of {G : Hp} {P : Addr → Prop} {b : Addr} (n : ¬ P b) : less G P b = G b := if_neg n
theorem less_at {G : Hp} {P : Addr → Prop} {b : Addr} (n : P b) : less G P b = none := if_pos n
end HB
namespace HB
open PySem L2
abbrev KyL := List (List L2.Key × Addr × Value)
abbrev knd (X : Cx) := tupleKind (mixKind X.prog X.w)
/-- at D a dict, its keys tuples -/
def KeyD (X : Cx) (D : Addr) (ks : KyL) (h : Heap) : Prop := ∃ o es ep, h.get? D = some o ∧ o.ExactDict ∧ o.data = .dict es ep ∧ es.toList = ks.map (entryOfKey (knd X)) ∧ (ks.map (·.1)).Nodup ∧ ks.length ≤ sizeLine
section
variable {X : Cx} {pins : List (Addr × Obj)} {σ : St} {H : Hp} {s : Shared} {D b : Addr} {ks : KyL} {k : List L2.Key} {E : Value → Shared → Prop}
/-- a heap with o everywhere up to c -/
def heapOf (c : Addr) (o : Obj) : Heap := Heap.mk (Array.replicate (c + 1) o) {}
theorem heapOf_at {c b : Addr} {o : Obj} {u : Obj} (h : (heapOf c o).get? b = some u) : u = o := by
  unfold heapOf Heap.get? at h
  rw [Array.getElem?_replicate] at h
  by_cases q : b < c + 1
  · rw [if_pos q] at h
    split at h
    · cases h
    · rw [← Option.some.inj h]
  · rw [if_neg q] at h
    cases h
theorem heapOf_is {c : Addr} {o : Obj} (h : o.data ≠ .freed) : (heapOf c o).get? c = some o := by
  unfold heapOf Heap.get?
  rw [Array.getElem?_replicate, if_pos (Nat.lt_succ_self c)]
  obtain ⟨a, b, d, e⟩ := o
  cases d <;> first | rfl | exact absurd rfl h
theorem no_code {c : Addr} {q : Str} {φ : Heap → Prop} (h : ∀ h, φ h → ∃ o, h.get? D = some o ∧ ∀ vs, o.data ≠ .fields vs) : HO.ext φ ≠ LamX.CodeO c q := fun z => by
  unfold LamX.CodeO at z
  have e : φ = _ := HO.ext.inj z
  have g : (heapOf c { cls := .none, data := .fields #[.none, .str q 0] }).get? c = _ := heapOf_is (by simp)
  obtain ⟨o1, e1, n1⟩ := h (heapOf c { cls := .none, data := .fields #[.none, .str q 0] }) (by rw [e]; exact ⟨_, _, 0, g, rfl, rfl⟩)
  rw [heapOf_at e1] at n1
  exact n1 _ rfl
theorem no_fn {c : Addr} {F : NdefX.NF} {φ : Heap → Prop} (h : ∀ h, φ h → ∃ o, h.get? D = some o ∧ ∀ f, o.data ≠ .func f) : HO.ext φ ≠ NdefX.FnO c F := fun z => by
  unfold NdefX.FnO at z
  have e : φ = _ := HO.ext.inj z
  have g : (heapOf c { cls := .type "function", data := .func (F.fd .none .none .none) }).get? c = _ := heapOf_is (by simp)
  obtain ⟨o1, e1, n1⟩ := h (heapOf c { cls := .type "function", data := .func (F.fd .none .none .none) }) (by rw [e]; exact ⟨_, _, .none, .none, .none, g⟩)
  rw [heapOf_at e1] at n1
  exact n1 _ rfl
instance keyD_noC : NoC (.ext (KeyD X D ks)) :=
  ⟨fun c q => no_code fun h ⟨o, es, ep, e, _, d, _⟩ => ⟨o, e, fun vs z => by rw [d] at z; cases z⟩, fun c F => no_fn fun h ⟨o, es, ep, e, _, d, _⟩ => ⟨o, e, fun vs z => by rw [d] at z; cases z⟩⟩
end
end HB
namespace HB
open PySem L2
def rIdxT (K : PySem.W.Frag) : V → List V → Hp → VK → Prop := fun x ys H Q => ∃ (a : Addr) (y : V) (d : PyData) (ds : List PyData) (j : Nat), x = .ref a ∧ ys = [y] ∧ Dp K H (.ref a) (.tuple ds) ∧ Dp K H y d ∧
  SeqAt.shaped (.tuple ds) = true ∧ SeqAt.shaped d = true ∧ ds.findIdx? (fun z => PyData.eqv z d) = some j ∧ Q (.int (j : Nat)) H
section
variable {X : Cx} {E : XK}
theorem mt_idxT (hu : X.A.units + 65 < cLine) : MtR X "tuple.index" (rIdxT X.K) := fun pins s σ H x ys v us Q I rx rys ⟨a, y, d, ds, j, ex, ey, hl, hy, sl, sd, fi, q⟩ => by
  subst ex ey
  match us, rys with
  | [uy], .cons ry .nil =>
    cases rx
    have ⟨bs, rd⟩ := Dp.reads I d y uy hy ry
    have lay := SeqAt.canLay_of_shaped sl
    cases hl with
    | tup hs ha =>
      have ⟨its, rv, ⟨⟨c, dd, dt, sls⟩, at_, hc, n, hd⟩, _⟩ := I.tuple hs
      dsimp only at hc hd
      subst hc hd
      have ⟨as, rs⟩ := Dp.readsAll I ds _ its ha rv
      have back : its.map (SeqAt.readOf s.heap) = ds := SeqAt.readsAll_map ds its as lay rs
      have eqs := SeqAt.items_eqAt (A := X.A) (vs := its.toArray) (by simpa using rs) rd lay (SeqAt.canLay_of_shaped sd) (PyProof.Rows.room_in_shaped sd hu)
      obtain ⟨hj, hit, hno⟩ := List.findIdx?_eq_some_iff_getElem.mp fi
      have sz : its.toArray.size = ds.length := by rw [← back]; simp
      let e : Nat → Bool := fun k => if h : k < its.toArray.size then PyData.eqv (SeqAt.readOf s.heap its.toArray[k]) d else false
      have val : ∀ k (h : k < ds.length), e k = PyData.eqv ds[k] d := fun k h => by
        have h2 : k < its.toArray.size := by omega
        show (if h : k < its.toArray.size then PyData.eqv (SeqAt.readOf s.heap its.toArray[k]) d else false) = _
        rw [dif_pos h2]
        have : SeqAt.readOf s.heap its.toArray[k] = ds[k] := by
          subst back
          simp
        rw [this]
      refine call_meets PySem.F.slot_tuple_index ⟨_, at_, rfl⟩ PySem.F.entry_tuple_index (PySem.F.args_tuple_index_2 _ _) (SeqAt.tuple_index2_found a its.toArray n dd sls uy e j (by omega) (Nat.zero_le _) (by omega) (by rw [val j hj]; exact hit) fun m hm _ lt => by
        rw [val m (by omega)]
        simpa using hno m lt) ⟨at_, fun k hk => ?_, .int _, H, I.tok _, ⟨_, rfl⟩, q⟩
      have z := eqs its.toArray[k] (Array.getElem_mem hk)
      have ek : e k = PyData.eqv (SeqAt.readOf s.heap its.toArray[k]) d := dif_pos hk
      rw [ek]
      exact z
def idxTD : D → D → Option D
  | .tuple ds, d => if SeqAt.shaped d = true ∧ SeqAt.shaped (.tuple ds) = true then (match ds.findIdx? (fun z => PyData.eqv z d) with
    | some j => some (.int (j : Nat))
    | none => none) else none
  | _, _ => none
theorem ev_idxT {o e : Expr} {fo fe : Mo D} {apos pos : Pos} (ho : EV X E o fo) (he : EV X E e fe) (hu : X.A.units + 65 < cLine) (base : attributeBase o "index" X.env (eval o X.env) = eval o X.env := by rfl) (few : Few X pos [e] := by rfl)
    (line : (apos.endLine == pos.line) = true := by rfl) (st : starEach [e] X.env = [(false, eval e X.env)] := by rfl) : EV X E (.Call (.Attribute o "index" apos) [e] [] pos) (mRecv isTupB idxTD fo fe) := by
  obtain ⟨t, p, q⟩ := ho
  obtain ⟨t2, p2, q2⟩ := he
  refine ⟨_, pe_tm PySem.F.slot_tuple_index PySem.F.type_tuple_index (mt_idxT hu) p (pa_cons p2 pa_nil st) base few line st, fun G ρ σ H Q j h => ?_⟩
  refine q G ρ σ H _ j (Post.imp h fun G1 ρ1 v H1 d e1 r1 h1 => ?_)
  cases hp : isTupB d with
  | false => rw [hp] at h1; exact h1.elim
  | true =>
    rw [hp] at h1
    cases r1 with
    | @tup a xs ds z1 z2 =>
      refine ⟨⟨a, xs, rfl, sqP_mono e1.j.sub z1⟩, q2 G1 ρ1 σ H1 _ e1.j (Post.imp h1 fun G2 ρ2 y H2 d2 e2 r2 h2 => ?_)⟩
      obtain ⟨c, hc, k2⟩ := Post.lift (ρ' := ρ2) h2
      have h5 : (if SeqAt.shaped d2 = true ∧ SeqAt.shaped (.tuple ds) = true then (match ds.findIdx? (fun z => PyData.eqv z d2) with
        | some j => some (PyData.int (j : Nat))
        | none => none) else none) = some c := hc
      by_cases h34 : SeqAt.shaped d2 = true ∧ SeqAt.shaped (.tuple ds) = true
      rotate_left
      · rw [if_neg h34] at h5; cases h5
      rw [if_pos h34] at h5
      obtain ⟨h3, h4⟩ := h34
      have rt : Rp X.K G2 (.ref a) (.tuple ds) := (Rp.tup z1 z2).mono e2.g
      cases fi : ds.findIdx? (fun z => PyData.eqv z d2) with
      | none => rw [fi] at h5; cases h5
      | some j =>
        rw [fi] at h5
        cases h5
        exact ⟨a, y, d2, ds, j, rfl, rfl, rt.shaped e2.j.sub h4, r2.shaped e2.j.sub h3, h4, h3, fi, k2 G2 _ H2 e2.j.refl (.int _)⟩
    | _ => cases hp
end
end HB
namespace HB
open PySem L2
section
variable {X : Cx}
theorem mk_bare {pins : List (Addr × Obj)} {σ : St} {H1 H2 : Hp} {Q : XK} {hp hp2 h2 : Heap} {g1 g2 : Array GenState} {d1 d2 : Drawn} {t1 t2 : Nat} {os1 os2 : OsState} {a C : Addr} (T : Raises X (.ref C)) (I1 : Inv X pins σ H1 ⟨hp, g1, d1, t1, os1⟩)
    (new : hp.objs.size ≤ a) (k : ∀ b o, hp.get? b = some o → hp2.get? b = some o) (un : Un (frs X.stack) [] (upd H1 a (exo a C none)) H2 hp2 h2) (hok : HOk X.prog X.w H2 h2) (ho : os2 = os1) (hb : PyProof.Rows.AllBare g2)
    (ea : H2 a = some (exo a C none)) (q : Q (.ref C) none (del H2 a)) : MkP X pins σ Q (.ref a) ⟨h2, g2, d2, t2, os2⟩ := by
  obtain ⟨t0, stands⟩ := exo_at hok ea
  have gone : H1 a = none := I1.hok.fresh new
  obtain ⟨G, keepG, cutG⟩ := restrict h2 (fun b => decide (b ≠ a))
  have inG : ∀ {b : Addr}, b ≠ a → G.get? b = h2.get? b := fun ne => keepG _ (decide_eq_true ne)
  have noG : G.get? a = none := cutG a (by simp)
  have far : ∀ {b : Addr} {o : Obj}, hp.get? b = some o → b ≠ a := fun z => Nat.ne_of_lt (Nat.lt_of_lt_of_le (Heap.lt_size z) new)
  have lift : ∀ {b : Addr}, b ≠ a → H1 b = none → upd H1 a (exo a C none) b = none := fun ne n => (upd_ne ne).trans n
  have U : Un (frs X.stack) [] H1 (del H2 a) hp G :=
    { keep := fun b o z n e1 e2 => by
        have old := un.keep b o (k b o z) (lift (far z) n) e1 e2
        rw [← inG (far z)] at old
        exact old
      slot := fun b o z n e1 e2 => by
        have old := un.slot b o (k b o z) (lift (far z) n) e1 e2
        rw [← inG (far z)] at old
        exact old
      free := fun b o z n e1 => (del_ne (far z)).trans (un.free b o (k b o z) (lift (far z) n) e1)
      there := fun b o z e1 => by
        have old := un.there b o (k b o z) e1
        rw [← inG (far z)] at old
        exact old
      tups := fun b xs z => (del_ne (ne_of_none z gone)).trans (un.tups b xs ((upd_ne (ne_of_none z gone)).trans z))
      frzs := fun b o v z => (del_ne (ne_of_none z gone)).trans (un.frzs b o v ((upd_ne (ne_of_none z gone)).trans z))
      tbls := fun b ps z => by
        obtain ⟨more, e⟩ := un.tbls b ps ((upd_ne (ne_of_none z gone)).trans z)
        exact ⟨more, (del_ne (ne_of_none z gone)).trans e⟩ }
  have hok2 : HOk X.prog X.w (del H2 a) G := fun b o z => by
    by_cases e : b = a
    · subst e
      rw [del_same] at z
      cases z
    · have z2 := (del_ne e).symm.trans z
      have apart : ∀ {c : Addr}, H2 c = some (.own b) → c ≠ a := fun hc => at_ne ea hc exo_own
      refine (hok b o z2).stay (fun c v hc y => ?_) (fun c hc => (del_ne (apart hc)).trans hc) (fun c xs hc => (del_ne (at_ne ea hc exo_tup)).trans hc)
      have ca : c ≠ a := by
        rcases hc with h | h
        · rw [h]; exact e
        · exact apart h
      exact (inG ca).trans y
  have J : Inv X pins σ (del H2 a) ⟨G, g2, d2, t2, os2⟩ := I1.call' (ch := []) ho U hok2 hb (fun b z => absurd z (by simp))
  refine ⟨a, _, _, ⟨G, g2, d2, t2, os2⟩, _, .ref C, none, rfl, J, fun b o z => ?_, noG, stands, ⟨rfl, rfl⟩, rfl, rfl, del_same, rfl, hb, T, q⟩
  by_cases e : b = a
  · rw [e, noG] at z
    cases z
  · exact (inG e).symm.trans z
def tMkB (C : Addr) (sp : Sp) : St → Hp → XK → Prop := fun _ H Q => ∀ a, H a = none → sp [.ref a] (upd H a (exo a C none)) (fun v H2 => v = .non ∧ H2 a = some (exo a C none) ∧ Q (.ref C) none (del H2 a)) (fun _ _ _ => False)
theorem pmk_bare {CX : CXT} {x : Str} {C fI : Addr} {k : Nat} {fd : FuncData} {ps : List Str} {sp : Sp} {p pos : Pos} (T : OexC X.K C) (iC : PySem.W.findIn X.K (.ref C) "__init__" = some (some (.ref fI))) (tI : PySem.W.typeIn X.K (.ref fI) = some (.type "function"))
    (F1 : FnOk X.prog X.w X.K X.mg X.base CX k fI fd ps sp) (hr : Room (k + 1) X.A) (bnd : Binds X.K fd ps []) (hx : Passes CX X (fun _ _ _ => False)) (hg : Gl X x) (hm : X.mg x = some (.ref C))
    (hdb : (x == ("__debug__" : Str)) = false := by decide) : PMk X (.Call (.Name x p) [] [] pos) (tMkB C sp) := by
  intro pins s σ H Q I h
  obtain ⟨_, _, _, _, bm, _, _, _, _, _, _, _, _, _, _, hC, hbm⟩ := T.cls
  apply wpAny_Call_Name_kw
  refine ld_glob I hg hm ?_ hdb
  refine PySem.W.callWith_K0 I.kIn T.kC ?_
  show wpAny _ _ (call (.ref C) []) _ _ _
  rcases s with ⟨hp, g, dr, tk, os⟩
  have one : hp.objs.size ≤ hp.objs.size + 1 := Nat.le_succ _
  have free : H (hp.objs.size + 1) = none := I.hok.fresh one
  have hq := h (hp.objs.size + 1) free
  have kk : ∀ b o, hp.get? b = some o → ((hp.push (PySem.W.kdv_tup [])).push (PySem.HandSPX.excO C hp.objs.size)).get? b = some o := fun b o e => Heap.get?_push_of_some _ (Heap.get?_push_of_some _ e)
  have made : ((hp.push (PySem.W.kdv_tup [])).push (PySem.HandSPX.excO C hp.objs.size)).get? (hp.objs.size + 1) = some (PySem.HandSPX.excO C hp.objs.size) := by heap_get
  have I2 : Inv X pins σ (upd H (hp.objs.size + 1) (exo (hp.objs.size + 1) C none)) ⟨(hp.push (PySem.W.kdv_tup [])).push (PySem.HandSPX.excO C hp.objs.size), g, dr, tk, os⟩ :=
    I.laid (t' := tk) (o := exo (hp.objs.size + 1) C none) kk one (exo_ok made)
  have len : ([Value.ref (hp.objs.size + 1)] : List Value).length = ps.length := (F1.len _ _ _ _ hq)
  refine wpAny_call (PySem.HandSPX.call_own F.excBase_ValueError (fun Y => PySem.HandSPX.refsVE_contains Y bm hbm) (I.kIn _ _ hC) (PySem.W.looks_findIn I.kIn iC) (fun self => PySem.W.bind_fn I.kIn self tI) (Nat.zero_le _)
    (codeAny_mono (F1.run _ X.stack _ _ ⟨[Value.ref (hp.objs.size + 1)], []⟩ [Value.ref (hp.objs.size + 1)] _ _ (fun _ _ _ => False) (hr.make C [] []) (I2.env0.make C [] []) (bnd _ [Value.ref (hp.objs.size + 1)] I2.kIn len) (show Vals [V.ref (hp.objs.size + 1)] [Value.ref (hp.objs.size + 1)] from .cons rfl .nil) hq) fun r s' out => ?_))
  cases r with
  | error er => exact hx pins σ _ _ er s' I2 out
  | ok fl =>
    cases fl with
    | ret u =>
      obtain ⟨v, H2, os2, bare2, un2, hok2, rv, ev, ea, q2⟩ := out
      subst ev
      rcases s' with ⟨h2, g2, d2, t2, os'⟩
      exact ⟨rv, mk_bare (raises_own T.exC T.tyC) I one kk un2 hok2 os2 bare2 ea q2⟩
    | next => exact out.elim
    | brk => exact out.elim
    | cont => exact out.elim
end
def spExc0 (K : PySem.W.Frag) (C : Addr) : Sp := fun vs H Q _ => ∃ a : Addr, vs = [.ref a] ∧ H a = some (exo a C none) ∧ Q .non H
theorem exc0_suite {X : Cx} {b : Str} {txt : Str} {ck : Nat} {p1 p2 p3 p4 p5 p6 : Pos} {C : Addr} (hN0 : X.N[0]? = some ("self" : Str)) (hv0 : Vis X.env.scope ("self" : Str))
    (hg : Gl X b) (hm : X.mg b = some (.ref (He.ga X.K b))) (B : BotF X.K b) (O : OexC X.K C) (hdb : (b == ("__debug__" : Str)) = false)
    {pl : Sem Bool} (hc : eval (.Call (.Attribute (.Name b p1) "__init__" p2) [.Name "self" p3, .Constant (.str txt) ck p4] [] p5) X.env = (do
      let ow ← eval (.Name b p1) X.env
      standAt p2.atName
      let (fx, fst) ← holding [ow] (getMethod ow "__init__" pl)
      callWith p5 fx fst (backTo p5 (starEach [.Name "self" p3, .Constant (.str txt) ck p4] X.env)) (backToKw p5 (keywordEach [] X.env))))
    (hs1 : swapsWith (.Call (.Attribute (.Name b p1) "__init__" p2) [.Name "self" p3, .Constant (.str txt) ck p4] [] p5) none p6.line X.env = pure false) :
    ∃ t, PSs X [.Expr (.Call (.Attribute (.Name b p1) "__init__" p2) [.Name "self" p3, .Constant (.str txt) ck p4] [] p5) p6] t ∧
      ∀ (D : Ends) (σ : St) (H : Hp) (a : Addr), σ[0]? = some (some (.ref a)) → H a = some (exo a C none) → D.nx σ H → t D σ H := by
  have e0 : PE X (.Name "self" p3) (tVar 0) := pe_var hN0 hv0 (by decide) (by decide)
  refine ⟨_, pss_one (ps_expr (pe_binit hg hm B (pa_cons e0 (pa_cons pe_str pa_nil)) hc hdb) hs1), ?_⟩
  intro D σ H a s0 ha k
  exact ⟨.ref a, s0, a, C, [.str txt], rfl, by simp, O, ha, k⟩
structure ExcF0 (K : PySem.W.Frag) (c : Str) : Prop where
  o : OexC K (He.ga K c)
  i : PySem.W.findIn K (.ref (He.ga K c)) "__init__" = some (some (.ref (He.ma K (He.ga K c) "__init__")))
  t : PySem.W.typeIn K (.ref (He.ma K (He.ga K c) "__init__")) = some (.type "function")
theorem excB0_ok {K : PySem.W.Frag} {c : Str} (h : excB0 K c = true) : ExcF0 K c := by
  have ⟨h1, h⟩ := He.ba h
  have ⟨h4, h5⟩ := He.ba h
  exact ⟨oexB_ok h1, He.eqO_ok h4, of_decide_eq_true h5⟩
structure XcE0 (P : Program) (w : World) (K : PySem.W.Frag) (mg : Str → Option Value) (base : Heap) (k : Nat) (c : Str) : Prop where
  fc : ExcF0 K c
  ex : ∃ fd ps, FnOk P w K mg base (L2.CX P w) k (He.ma K (He.ga K c) "__init__") fd ps (spExc0 K (He.ga K c)) ∧ Binds K fd ps []
  gl : mg c = some (.ref (He.ga K c))
theorem exc0_ok {P : Program} {w : World} {K : PySem.W.Frag} {mg : Str → Option Value} {base : Heap} {c qual : Str} {st : Stmt} {fd : FuncData} (F : FunD K "__init__" qual (defArgs st) (defBody st) (defScope st) [] [] (He.ma K (He.ga K c) "__init__") fd) (S : FnScope [("self" : Str)] [("self" : Str)] (defScope st))
    (fc : ExcF0 K c) (gl : mg c = some (.ref (He.ga K c)))
    (b : ∀ (kV doc pm : Value) (an : Option Addr) (cdv ct : Value) (us : List Value), us.length = [("self" : Str)].length → bindArgs (PySem.W.fnOf "__init__" qual (defArgs st) (defBody st) (defScope st) .none kV doc pm an cdv ct) ⟨us, []⟩ = pure ([("self" : Str)].zip us))
    (hb : ∀ (cdv : Value) (A : Around) (outer : List PySem.Env) (s : Shared) (H : Hp) (E : XK), ∃ t, PSs (cxOf (L2.CX P w) P w K mg base [("self" : Str)] qual (defScope st) (He.ma K (He.ga K c) "__init__") cdv A outer s H E) (defBody st) t ∧
      ∀ (D : Ends) (σ : St) (H : Hp) (a : Addr), σ[0]? = some (some (.ref a)) → H a = some (exo a (He.ga K c) none) → D.nx σ H → t D σ H) :
    XcE0 P w K mg base 1 c := by
  refine ⟨fc, ⟨fd, [("self" : Str)], F.ok S (fun vs H Q E h => ?_) fun cdv A outer s H vs Q E hr h => ?_, F.bindsN b⟩, gl⟩
  · obtain ⟨a, rfl, _⟩ := h
    rfl
  · obtain ⟨a, rfl, ha, k⟩ := h
    obtain ⟨t, p, q⟩ := hb cdv A outer s H E
    exact ⟨t, p, q _ _ H a rfl ha k⟩
def sRaise0 (c : Str) : Mo Fl := fun _ => some (.error (c, []))
section
variable {X : Cx} {E : XK}
theorem s_raise0 {k : Nat} {c : Str} {p pos pos2 : Pos} (hX : XcE0 X.prog X.w X.K X.mg X.base k c) (hr : Room (k + 1) X.A) (calm : X.calm = true) (tk : Takes X (fun cls d _ H => E cls d H))
    (hg : Gl X c := by rfl) (hdb : (c == ("__debug__" : Str)) = false := by decide) :
    SV X E (.Raise (some (.Call (.Name c p) [] [] pos)) none pos2) (sRaise0 c) := by
  obtain ⟨fc, ⟨fd, ps, F1, bnd⟩, gl⟩ := hX
  have no : Passes (L2.CX X.prog X.w) X (fun _ _ _ => False) := passes_call tk fun _ _ _ _ z => z.elim
  refine ⟨_, ps_raise calm tk (pmk_bare fc.o fc.i fc.t F1 hr bnd no hg gl hdb), fun G ρ σ H De j h => ?_⟩
  intro a na
  have same : del (upd H a (exo a (He.ga X.K c) none)) a = H := by
    funext b
    by_cases e : b = a
    · rw [e, del_same, na]
    · rw [del_ne e, upd_ne e]
  refine ⟨a, rfl, upd_same, rfl, upd_same, ?_⟩
  rw [same]
  exact h _ _ _ ⟨rfl, G, .refl G, j.sub, fun b hb => .inl hb, fun b o z _ => z, ⟨fun b hb => hb, .refl H⟩, .inl ⟨rfl, rfl⟩⟩
end
end HB
namespace HB
open PySem L2 PySem.Spec PyProof.Rows
def offE (D : Ends) (i : Nat) : Ends := { nx := fun σ H => D.nx (σ.set i none) H, rt := D.rt, bk := fun σ H => D.bk (σ.set i none) H, ct := fun σ H => D.ct (σ.set i none) H }
end HB
namespace HB
open PySem L2
structure CmE (P : Program) (w : World) (K : PySem.W.Frag) (mg : Str → Option Value) (base : Heap) (k : Nat) (c m : Str) (n : Nat) (F : Fn) : Prop where
  rd : ClX.CRead K (He.ga K c) (.type "type")
  cm : ClX.CMet K (He.ga K c) (.type "type") m (He.ma K (He.ga K c) m) (He5.wf K (He.ga K c) "classmethod" m)
  gl : mg c = some (.ref (He.ga K c))
  ex : ∃ fd ps, FnOk P w K mg base (L2.CX P w) k (He5.wf K (He.ga K c) "classmethod" m) fd ps (spP K n F) ∧ Binds K fd ps []
  ln : ∀ ds, F ds ≠ none → ds.length = n
section
variable {X : Cx} {E : XK}
def mCls (c : Str) (F : Fn) (f : Mo (List D)) : Mo D := mBind f fun ds ρ => match F (fnD c :: ds) with
  | none => none
  | some (.error x) => some (.error x)
  | some (.ok d) => some (.ok (ρ, d))
theorem ev_cls {k n : Nat} {c m : Str} {F : Fn} {e : Expr} {es : List Expr} {f : Mo (List D)} {p apos pos : Pos} {pl : Sem Bool} (hM : CmE X.prog X.w X.K X.mg X.base k c m n F) (hr : Room k X.A) (hx : Passes (L2.CX X.prog X.w) X E) (ha : EA X E (e :: es) f)
    (hg : Gl X c := by rfl) (hd : (c == ("__debug__" : Str)) = false := by decide)
    (tr : eval (.Call (.Attribute (.Name c p) m apos) (e :: es) [] pos) X.env = byMeth X (.Name c p) m apos pos pl (e :: es) := by rfl) (st : starEach (e :: es) X.env = (false, eval e X.env) :: starEach es X.env := by rfl) (nost : (backTo pos (starEach es X.env)).any (·.1) = false := by rfl) :
    EV X E (.Call (.Attribute (.Name c p) m apos) (e :: es) [] pos) (mCls c F f) := by
  obtain ⟨t, pt, q⟩ := ha
  obtain ⟨fd, ps, h1, h2⟩ := hM.ex
  refine ⟨_, ClX.pe_cmeth (pe_glob (v := .ref (He.ga X.K c)) hg hM.gl rfl hd) hM.rd hM.cm (h1.raw h2 .nil) hr hx pt st nost tr, fun G ρ σ H Q j h => ⟨rfl, q G ρ σ H _ j (Post.imp h fun G1 ρ1 vs H1 ds e1 r1 h3 => ?_)⟩⟩
  show spP X.K n F ((V.ref (He.ga X.K c) :: vs) ++ []) H1 Q E
  rw [List.append_nil]
  cases hF : F (fnD c :: ds) with
  | none => rw [hF] at h3; exact h3.elim
  | some r =>
    refine ⟨G1, fnD c :: ds, e1.j.sub, .cons (.fn c) r1, hM.ln _ (by rw [hF]; simp), ?_⟩
    rw [hF] at h3 ⊢
    cases r with
    | error y => exact fun C dx H' z => h3 C dx H' z.of0
    | ok r => exact fun G' v H' p rv => h3 G' v H' (e1.j.ex p) rv
end
theorem cls_ok {P : Program} {w : World} {K : PySem.W.Frag} {mg : Str → Option Value} {base : Heap} {c m qual : Str} {st : Stmt} {fd : FuncData} {N ps : List Str} {k : Nat} {g : Mo Fl} (F : FunD K m qual (defArgs st) (defBody st) (defScope st) [] [] (He5.wf K (He.ga K c) "classmethod" m) fd) (S : FnScope N ps (defScope st))
    (rd : ClX.CRead K (He.ga K c) (.type "type")) (cm : ClX.CMet K (He.ga K c) (.type "type") m (He.ma K (He.ga K c) m) (He5.wf K (He.ga K c) "classmethod" m)) (gl : mg c = some (.ref (He.ga K c)))
    (b : ∀ (kV doc pm : Value) (an : Option Addr) (cdv ct : Value) (us : List Value), us.length = ps.length → bindArgs (PySem.W.fnOf m qual (defArgs st) (defBody st) (defScope st) .none kV doc pm an cdv ct) ⟨us, []⟩ = pure (ps.zip us))
    (hb : ∀ (cdv : Value) (A : Around) (outer : List PySem.Env) (s : Shared) (H : Hp) (E : XK), Room k (A.deeper (PyProof.Rows.envOfC qual (defScope st) s.heap.objs.size (He5.wf K (He.ga K c) "classmethod" m) cdv)) → SVs (cxOf (L2.CX P w) P w K mg base N qual (defScope st) (He5.wf K (He.ga K c) "classmethod" m) cdv A outer s H E) E (defBody st) g) :
    CmE P w K mg base (k + 1) c m ps.length (guard ps.length (runF N.length g)) := by
  refine ⟨rd, cm, gl, ⟨fd, ps, F.ok S (fun vs H Q E h => ?_) fun cdv A outer s H vs Q E hr h => ?_, F.bindsN b⟩, fun ds h => guard_len h⟩
  · obtain ⟨G, ds, _, r, hl, _⟩ := h
    rw [r.length, hl]
  · obtain ⟨t, p, q⟩ := hb cdv A outer s H E hr
    exact ⟨t, p, body_sem q h⟩
section
variable {X : Cx} {E : XK}
def tMkSl (i : Nat) (C : Addr) (sp : Sp) (E : XK) (t : TA) : TE := fun σ H Q => σ[i]? = some (some (.ref C)) ∧ tMake C sp [] E t σ H Q
theorem pe_mkSl {CX : CXT} {k i : Nat} {f C : Addr} {fd : FuncData} {ps : List Str} {sp : Sp} {x : Str} {np pos : Pos} {e : Expr} {es : List Expr} {t : TA} (M : Mk X.K C f) (F : FnOk X.prog X.w X.K X.mg X.base CX k f fd ps sp) (hr : Room (k + 1) X.A) (hN : X.N[i]? = some x) (hv : Vis X.env.scope x) (hb : Binds X.K fd ps []) (hx : Passes CX X E) (ha : PA X (e :: es) t)
    (nd : (x == ("__debug__" : Str)) = false) (nc : (x == ("__classdict__" : Str)) = false) (st : starEach (e :: es) X.env = (false, eval e X.env) :: starEach es X.env) (nost : (backTo pos (starEach es X.env)).any (·.1) = false) :
    PE X (.Call (.Name x np) (e :: es) [] pos) (tMkSl i C sp E t) :=
  PE.mk fun pins s σ H Q I ⟨inSlot, told⟩ => by
    have looked := (pe_var (pos := np) hN hv nd nc).run pins s σ H (fun z Hz => z = .ref C ∧ Hz = H) I ⟨.ref C, inSlot, rfl, rfl⟩
    refine wpAny_Call_Name_kw (thn looked fun u s1 y => ?_)
    obtain ⟨z, Hz, I1, rz, ez, eH⟩ := y
    subst ez eH
    cases rz
    have args := ha.run pos pins s1 σ Hz _ I1 told
    exact PySem.W.callWith_K (h₀ := X.base) I1.ok.mod.kin M.kp (thn args fun us s2 ⟨vs, H2, I2, rs, fin⟩ => ⟨I2.kIn, run_make M F hr hb .nil hx I2 rs fin⟩) st nost
def mMkSl (i : Nat) (c : Str) (F : FnI) (a : Mo (List D)) : Mo D := fun ρ => match ρ[i]? with
  | some (.pur (.dict [(.none, .str x)])) => (match decide (x = c) with
    | true => mMake c F a ρ
    | false => none)
  | _ => none
theorem ev_mkSl {i k n : Nat} {c x : Str} {F : FnI} {p pos : Pos} {e : Expr} {es : List Expr} {f : Mo (List D)} (hF : MkE X.prog X.w X.K X.mg X.base k c n F) (hr : Room (k + 1) X.A) (hx : Passes (L2.CX X.prog X.w) X E)
    (ha : EA X E (e :: es) f) (hN : X.N[i]? = some x := by rfl) (hv : Vis X.env.scope x := by first | exact Or.inl rfl | exact Or.inr (Or.inl rfl) | exact Or.inr (Or.inr rfl)) (nd : (x == ("__debug__" : Str)) = false := by decide) (nc : (x == ("__classdict__" : Str)) = false := by decide)
    (st : starEach (e :: es) X.env = (false, eval e X.env) :: starEach es X.env := by rfl) (nost : (backTo pos (starEach es X.env)).any (·.1) = false := by rfl) : EV X E (.Call (.Name x p) (e :: es) [] pos) (mMkSl i c F f) := by
  obtain ⟨t, pt, q⟩ := ha
  obtain ⟨M, ⟨fd, ps, h1, h2⟩, _, hl⟩ := hF
  refine ⟨_, pe_mkSl (i := i) M h1 hr hN hv h2 hx pt nd nc st nost, fun G ρ σ H Q j h => ?_⟩
  unfold mMkSl at h
  split at h
  · rename_i y hq
    cases hy : decide (y = c) with
    | false => rw [hy] at h; exact h.elim
    | true =>
      rw [hy] at h
      obtain rfl := of_decide_eq_true hy
      obtain ⟨v, h3, h4⟩ := j.pur i _ hq
      cases h4 with
      | fn _ => exact ⟨h3, make_sem q hl G ρ σ H Q j h⟩
  · exact h.elim
def signsD : D → Option (List D)
  | .str z => some (z.cps.toList.map fun c => .str ⟨#[c]⟩)
  | _ => none
def mSignS (f : Mo D) : Mo Src := mBind f fun d => mLift ((signsD d).map constS)
theorem its_ok {K : PySem.W.Frag} {G : Hp} {σ : St} {z : Str} {js : List Nat} : ItOk K G σ (Its z) (constS (z.cps.toList.map fun c => .str ⟨#[c]⟩)) js := by
  intro i G2 ρ2 σ2 H2 items sg j _ e
  cases e
  refine ⟨fun d hd => ?_, fun hi => by show z.cps.size ≤ i; simpa using hi⟩
  rw [List.getElem?_map] at hd
  cases hc : z.cps.toList[i]? with
  | none => rw [hc] at hd; cases hd
  | some c =>
    rw [hc] at hd
    cases hd
    obtain ⟨lt, ec⟩ := List.getElem?_eq_some_iff.mp hc
    refine ⟨by show i < z.cps.size; simpa using lt, fun x H3 y => ?_⟩
    obtain ⟨rfl, c', h1, rfl⟩ := y
    have h2 : z.cps[i]? = some c := by
      rw [← Array.getElem?_toList]
      exact hc
    rw [h2] at h1
    cases h1
    exact ⟨G2, .refl j.sub, .str _⟩
theorem iv_signs {tg iter : Expr} {f : Mo D} (h : EV X E iter f) : IV X E tg iter (mSignS f) [] := by
  obtain ⟨t, p, q⟩ := h
  refine ⟨_, pi_str p, fun G ρ σ H R j h => q G ρ σ H _ j (PostI.imp h fun G1 ρ1 x H1 d e1 r1 h1 => ?_)⟩
  obtain ⟨src, hs, k⟩ := PostI.lift h1
  cases r1 with
  | str z =>
    cases hs
    exact ⟨z, rfl, k G1 H1 _ e1.j.refl its_ok⟩
  | _ => cases hs
theorem const_signs {f : Mo D} : ∀ ρ ρ' s, mSignS f ρ = some (.ok (ρ', s)) → Const s := by
  intro ρ ρ' s h
  unfold mSignS mBind mLift at h
  split at h
  · cases h
  · cases h
  · rename_i ρ1 d e
    cases hi : signsD d with
    | none => simp only [hi, Option.map] at h; cases h
    | some ds =>
      simp only [hi, Option.map] at h
      cases h
      exact fun _ => rfl
def intSD : List D → Option D
  | [.str z] => if z.length ≤ 640 then (PySem.intText? z).map .int else none
  | _ => none
theorem dc_intS : DCall X (.type "int") intSD := by
  refine ⟨_, call_int_str, fun G H xs ds c Q s hx h k => ?_⟩
  match ds, h with
  | [.str z], h =>
    obtain ⟨x, rfl, r⟩ := hx.one
    cases r
    by_cases hz : z.length ≤ 640
    · have h' : (if z.length ≤ 640 then (PySem.intText? z).map PyData.int else none) = some c := h
      rw [if_pos hz] at h'
      cases hn : PySem.intText? z with
      | none => rw [hn] at h'; cases h'
      | some n =>
        rw [hn] at h'
        cases h'
        exact ⟨z, n, rfl, hn, hz, k G _ H (.refl s) (.int _)⟩
    · have h' : (if z.length ≤ 640 then (PySem.intText? z).map PyData.int else none) = some c := h
      rw [if_neg hz] at h'
      cases h'
def isLstB : D → Bool
  | .list _ => true
  | _ => false
def cntLD : D → D → Option D
  | .list ds, d => if SeqAt.shaped d = true ∧ SeqAt.shaped (.list ds) = true then some (.int (ds.countP fun z => PyData.eqv z d : Nat)) else none
  | _, _ => none
def idxLD : D → D → Option D
  | .list ds, d => if SeqAt.shaped d = true ∧ SeqAt.shaped (.list ds) = true then (match ds.findIdx? (fun z => PyData.eqv z d) with
    | some j => some (.int (j : Nat))
    | none => none) else none
  | _, _ => none
theorem ev_cntL {o e : Expr} {fo fe : Mo D} {apos pos : Pos} (ho : EV X E o fo) (he : EV X E e fe) (hu : X.A.units + 65 < cLine) (base : attributeBase o "count" X.env (eval o X.env) = eval o X.env := by rfl) (few : Few X pos [e] := by rfl)
    (line : (apos.endLine == pos.line) = true := by rfl) (st : starEach [e] X.env = (false, eval e X.env) :: starEach [] X.env := by rfl) (nost : (backTo pos (starEach [] X.env)).any (·.1) = false := by rfl) : EV X E (.Call (.Attribute o "count" apos) [e] [] pos) (mRecv isLstB cntLD fo fe) := by
  obtain ⟨t, p, q⟩ := ho
  obtain ⟨t2, p2, q2⟩ := he
  refine ⟨_, pe_bm PySem.F.plainAttrs_list PySem.F.slot_list_count PySem.F.type_list_count (mt_cntO hu) p (pa_cons p2 pa_nil st) base few line st nost, fun G ρ σ H Q j h => ?_⟩
  refine q G ρ σ H _ j (Post.imp h fun G1 ρ1 v H1 d e1 r1 h1 => ?_)
  cases hp : isLstB d with
  | false => rw [hp] at h1; exact h1.elim
  | true =>
    rw [hp] at h1
    cases r1 with
    | @lst a xs ds z1 z2 =>
      refine ⟨.inl ⟨rfl, xs, .of (e1.j.sub _ _ z1)⟩, q2 G1 ρ1 σ H1 _ e1.j (Post.imp h1 fun G2 ρ2 y H2 d2 e2 r2 h2 => ?_)⟩
      obtain ⟨c, hc, k2⟩ := Post.lift (ρ' := ρ2) h2
      have h5 : (if SeqAt.shaped d2 = true ∧ SeqAt.shaped (.list ds) = true then some (PyData.int (ds.countP fun z => PyData.eqv z d2 : Nat)) else none) = some c := hc
      by_cases h34 : SeqAt.shaped d2 = true ∧ SeqAt.shaped (.list ds) = true
      rotate_left
      · rw [if_neg h34] at h5; cases h5
      rw [if_pos h34] at h5
      obtain ⟨h3, h4⟩ := h34
      cases h5
      have rt : Rp X.K G2 (.ref a) (.list ds) := (Rp.lst z1 z2).mono e2.g
      exact ⟨a, y, d2, ds, rfl, rfl, rt.shaped e2.j.sub h4, r2.shaped e2.j.sub h3, h4, h3, k2 G2 _ H2 e2.j.refl (.int _)⟩
    | _ => cases hp
theorem ev_idxL {o e : Expr} {fo fe : Mo D} {apos pos : Pos} (ho : EV X E o fo) (he : EV X E e fe) (hu : X.A.units + 65 < cLine) (base : attributeBase o "index" X.env (eval o X.env) = eval o X.env := by rfl) (few : Few X pos [e] := by rfl)
    (line : (apos.endLine == pos.line) = true := by rfl) (st : starEach [e] X.env = (false, eval e X.env) :: starEach [] X.env := by rfl) (nost : (backTo pos (starEach [] X.env)).any (·.1) = false := by rfl) : EV X E (.Call (.Attribute o "index" apos) [e] [] pos) (mRecv isLstB idxLD fo fe) := by
  obtain ⟨t, p, q⟩ := ho
  obtain ⟨t2, p2, q2⟩ := he
  refine ⟨_, pe_bm PySem.F.plainAttrs_list PySem.F.slot_list_index PySem.F.type_list_index (mt_indexD hu) p (pa_cons p2 pa_nil st) base few line st nost, fun G ρ σ H Q j h => ?_⟩
  refine q G ρ σ H _ j (Post.imp h fun G1 ρ1 v H1 d e1 r1 h1 => ?_)
  cases hp : isLstB d with
  | false => rw [hp] at h1; exact h1.elim
  | true =>
    rw [hp] at h1
    cases r1 with
    | @lst a xs ds z1 z2 =>
      refine ⟨.inl ⟨rfl, xs, .of (e1.j.sub _ _ z1)⟩, q2 G1 ρ1 σ H1 _ e1.j (Post.imp h1 fun G2 ρ2 y H2 d2 e2 r2 h2 => ?_)⟩
      obtain ⟨c, hc, k2⟩ := Post.lift (ρ' := ρ2) h2
      have h5 : (if SeqAt.shaped d2 = true ∧ SeqAt.shaped (.list ds) = true then (match ds.findIdx? (fun z => PyData.eqv z d2) with
        | some j => some (PyData.int (j : Nat))
        | none => none) else none) = some c := hc
      by_cases h34 : SeqAt.shaped d2 = true ∧ SeqAt.shaped (.list ds) = true
      rotate_left
      · rw [if_neg h34] at h5; cases h5
      rw [if_pos h34] at h5
      obtain ⟨h3, h4⟩ := h34
      have rt : Rp X.K G2 (.ref a) (.list ds) := (Rp.lst z1 z2).mono e2.g
      cases fi : ds.findIdx? (fun z => PyData.eqv z d2) with
      | none => rw [fi] at h5; cases h5
      | some n =>
        rw [fi] at h5
        cases h5
        obtain ⟨lt, hit, no⟩ := List.findIdx?_eq_some_iff_getElem.mp fi
        refine ⟨a, y, d2, ds, n, ds[n], rfl, rfl, rt.shaped e2.j.sub h4, r2.shaped e2.j.sub h3, h4, h3, List.getElem?_eq_getElem lt, hit, fun m z' lm hz => ?_, k2 G2 _ H2 e2.j.refl (.int _)⟩
        obtain ⟨lm2, ez⟩ := List.getElem?_eq_some_iff.mp hz
        rw [← ez]
        simpa using no m lm
    | _ => cases hp
end
theorem crB_ok {K : PySem.W.Frag} {c : Str} (h : crB K c = true) : ClX.CRead K (He.ga K c) (.type "type") := by
  obtain ⟨h1, h2⟩ := Bool.and_eq_true_iff.mp h
  exact ⟨h1, of_decide_eq_true h2⟩
theorem cmB_ok {K : PySem.W.Frag} {c m : Str} (h : cmB K c m = true) : ClX.CMet K (He.ga K c) (.type "type") m (He.ma K (He.ga K c) m) (He5.wf K (He.ga K c) "classmethod" m) := by
  obtain ⟨h1, h2⟩ := Bool.and_eq_true_iff.mp h
  exact He5.cmet_of h1 h2
theorem obsG_eq {as : List Addr} {fa : List He.Fa} {fn : List He.DefD} {fm : List He5.DefA} {tp : List (Str × List He.Dv)} {xs : List (PySem.W.Frag → Bool)} {g : Addr → Option Obj} {s : Shared} (h : ∀ a, g a = s.heap.get? a) : obsG as fa fn fm tp xs g = (hookG as fa fn fm tp xs).obs s := by
  rw [show g = fun a => s.heap.get? a from funext h]
  rfl
end HB
namespace HB
open PySem L2
section
variable {X : Cx} {E : XK} {CX : CXT} {f : Addr} {fd : FuncData} {ps : List Str} {sp : Sp}
theorem here_run {pins : List (Addr × Obj)} {σ : St} {H : Hp} {s : Shared} {Q : VK} {us : List Value} {vs : List V} (F : RunsAt X.prog X.w X.K X.mg X.base CX X.A f fd ps sp) (ln : ∀ vs H Q E, sp vs H Q E → vs.length = ps.length) (hb : Binds X.K fd ps []) (hx : Passes CX X E)
    (inv : Inv X pins σ H s) (r : Vals vs us) (q : sp vs H Q E) : wpAny (model X.prog X.w) X.A (call (.ref f) us) (EP X pins σ Q) X.xe s := by
  have many : (us ++ []).length = ps.length := by rw [List.append_nil, ← r.length]; exact ln _ _ _ _ q
  have b := hb s us inv.kIn many
  rw [List.append_nil] at b
  refine wpAny_call (codeAny_mono (F X.stack s H ⟨us, []⟩ us vs Q E inv.env0 b r q) fun o s' hq => ?_)
  match o, hq with
  | .error x, hq => exact hx pins σ H s x s' inv hq
  | .ok (.ret _), hq => exact inv.after hq
  | .ok .next, hq => exact hq.elim
  | .ok .brk, hq => exact hq.elim
  | .ok .cont, hq => exact hq.elim
theorem pe_here {x : Str} {p pos : Pos} {e : Expr} {es : List Expr} {t : TA} (F : RunsAt X.prog X.w X.K X.mg X.base CX X.A f fd ps sp) (ln : ∀ vs H Q E, sp vs H Q E → vs.length = ps.length) (hg : Gl X x) (hm : X.mg x = some (.ref f)) (hk : PySem.W.keepIn X.K (.ref f) = true) (hb : Binds X.K fd ps []) (hx : Passes CX X E)
    (ha : PA X (e :: es) t) (hdb : (x == ("__debug__" : Str)) = false) (he : starEach (e :: es) X.env = (false, eval e X.env) :: starEach es X.env) (hpl : (backTo pos (starEach es X.env)).any (·.1) = false) :
    PE X (.Call (.Name x p) (e :: es) [] pos) (tCall sp [] E t) := by
  constructor
  intro pins s σ H Q inv want
  have next := thn (ha.run pos pins s σ H _ inv want) fun us s1 ⟨vs, H1, I1, r, q⟩ => (⟨I1.kIn, here_run (Q := Q) (us := us) F ln hb hx I1 r (by
    have q' : sp (vs ++ []) H1 Q E := q
    rwa [List.append_nil] at q')⟩ : _ ∧ _)
  refine wpAny_Call_Name_kw (ld_glob inv hg hm ?_ hdb)
  exact PySem.W.callWith_K (first := []) (h₀ := X.base) inv.ok.mod.kin hk next he hpl
end
end HB
namespace HB
open PySem L2 NdefX LamX
mutual
def noClo : D → Bool
  | .list ds => noClos ds
  | .tuple ds => noClos ds
  | .dict kvs => noClok kvs
  | _ => true
def noClos : List D → Bool
  | [] => true
  | d :: ds => noClo d && noClos ds
def noClok : List (D × D) → Bool
  | [] => true
  | (.bool false, _) :: _ => false
  | (_, d) :: ds => noClo d && noClok ds
end
theorem cell_noCode {a c : Addr} {v : V} {q : Str} : cellO a v ≠ CodeO c q := no_code (D := a) fun h ⟨u, _, o, e, d⟩ => ⟨o, e, fun vs z => by rw [d] at z; cases z⟩
theorem cell_noFn {a c : Addr} {v : V} {F : NF} : cellO a v ≠ FnO c F := no_fn (D := a) fun h ⟨u, _, o, e, d⟩ => ⟨o, e, fun vs z => by rw [d] at z; cases z⟩
instance {a : Addr} {v : V} : NoC (cellO a v) := ⟨fun _ _ => cell_noCode, fun _ _ => cell_noFn⟩
end HB
namespace HB
open PySem L2
section
variable {K : PySem.W.Frag} {G H G' H' : Hp} {ρ ρ' : En} {σ σ' : St}
theorem J.inst (j : J K G ρ σ H) {i : Nat} {o : Bool} {c : Str} {kvs : List (D × D)} (h : ρ[i]? = some (.ins o c kvs)) : ∃ (a dx : Addr) (fs : List (Str × V)), σ[i]? = some (some (.ref a)) ∧ H a = some (.ins (He.ga K c) dx fs) ∧ G a = none ∧ RpF K G fs kvs := by
  obtain ⟨a, ob, h1, h2, h3, h4⟩ := j.hold i _ _ h rfl
  obtain ⟨dx, fs, e, r⟩ := h4
  subst e
  exact ⟨a, dx, fs, h1, h2, h3, r⟩
/-- another thing of the same kind in the slot -/
theorem J.putY (j : J K G ρ σ H) {i : Nat} {s s' : Sl} {ds es : List D} {a : Addr} {ob : HO} (h : ρ[i]? = some s) (hl : s.hs = some ds) (hl' : s'.hs = some es) (np : ∀ d, s' ≠ .pur d) (nd : ∀ o g z, s' ≠ .dl o g z) (ng : ∀ o xs, s' ≠ .gst o xs) (nb : ∀ fs, s' ≠ .box fs) (dd : s'.isD = true → s.isD = true)
    (ha : σ[i]? = some (some (.ref a))) (g : Same G G') (new : ∀ b, G' b ≠ none → G b ≠ none ∨ H b = none) (sb : Sub K G' H') (kept : ∀ b o, b ≠ a → H b = some o → [NoT o] → H' b = some o) (dom : Dm H H') (ga : G' a = none) (hw : H' a = some ob) (r : Shp K G' s' es ob) : Ex K G ρ σ H G' (ρ.set i s') σ H' := by
  have od : Ownd ρ σ a := ⟨i, s, ds, h, hl, ha⟩
  have c : ∀ (m : Nat) (t : Sl) (us : List D), (ρ.set i s')[m]? = some t → t.hs = some us → ∃ t' us', ρ[m]? = some t' ∧ t'.hs = some us' := fun m t us hm ht => by
    rcases getElem?_set_cases hm with ⟨z1, _⟩ | ⟨_, z⟩
    · subst z1; exact ⟨s, ds, h, hl⟩
    · exact ⟨t, us, z, ht⟩
  refine ⟨⟨sb, by rw [List.length_set]; exact j.len, fun k d q => ?_, fun k t fs q ht => ?_, fun k l t u fs gs b q1 l1 q2 l2 q3 q4 => ?_, fun k w o o2 z xs q1 q2 => ?_⟩, g, fun b hb => (new b hb).elim .inl fun z => .inr (.inl z), fun b o q n => kept b o (fun z => by subst z; exact n od) q, fun b hb => ?_, dom.d, fun k fs q => ?_, fun k t q ql => ?_, dom.t⟩
  · rcases getElem?_set_cases q with ⟨_, z⟩ | ⟨_, q'⟩
    · exact absurd z.symm (np d)
    · obtain ⟨v, y1, y2⟩ := j.pur k d q'
      exact ⟨v, y1, y2.mono g⟩
  · rcases getElem?_set_cases q with ⟨z1, z⟩ | ⟨z1, q'⟩
    · subst z
      subst z1
      rw [hl'] at ht
      cases ht
      exact ⟨a, ob, ha, hw, ga, r⟩
    · obtain ⟨b, us, g1, g2, g3, g4⟩ := j.hold k t fs q' ht
      have ne : b ≠ a := fun z => by
        subst z
        exact z1 (j.alone k i t s fs ds b q' ht h hl g1 ha)
      haveI := g4.noT
      refine ⟨b, us, g1, kept b _ ne g2, ?_, g4.mono g⟩
      cases y : G' b with
      | none => rfl
      | some o =>
        rcases new b (by rw [y]; simp) with w | w
        · exact absurd g3 w
        · rw [g2] at w; cases w
  · obtain ⟨t1, u1, c1, c2⟩ := c k t fs q1 l1
    obtain ⟨t2, u2, c3, c4⟩ := c l u gs q2 l2
    exact j.alone k l t1 t2 u1 u2 b c1 c2 c3 c4 q3 q4
  · rcases getElem?_set_cases q1 with ⟨_, y⟩ | ⟨y1, q1'⟩
    · exact absurd y.symm (nd o w z)
    · rcases getElem?_set_cases q2 with ⟨_, y⟩ | ⟨_, q2'⟩
      · exact absurd y.symm (ng o2 xs)
      · obtain ⟨b, v, u, g1, g2, g3⟩ := j.lk k w o o2 z xs q1' q2'
        have ne : b ≠ a := fun w => by
          subst w
          exact y1 (j.alone k i _ s _ ds b q1' rfl h hl g1 ha)
        exact ⟨b, v, u, g1, kept b _ ne g2, g3⟩
  · obtain ⟨k, t, us, q1, l1, q2⟩ := hb
    obtain ⟨t1, u1, c1, c2⟩ := c k t us q1 l1
    exact .inl ⟨k, t1, u1, c1, c2, q2⟩
  · rcases getElem?_set_cases q with ⟨_, z⟩ | ⟨_, q'⟩
    · exact absurd z.symm (nb fs)
    · exact ⟨⟨fs, q'⟩, rfl⟩
  · rcases getElem?_set_cases q with ⟨y1, y⟩ | ⟨_, q'⟩
    · subst y
      subst y1
      exact ⟨⟨s, h, dd ql⟩, rfl⟩
    · exact ⟨⟨t, q', ql⟩, rfl⟩
/-- .. an instance with other fields -/
theorem J.putI (j : J K G ρ σ H) {i : Nat} {o : Bool} {c : Str} {kvs kvs' : List (D × D)} {a dx : Addr} {fs : List (Str × V)} (h : ρ[i]? = some (.ins o c kvs)) (ha : σ[i]? = some (some (.ref a))) (g : Same G G') (new : ∀ b, G' b ≠ none → G b ≠ none ∨ H b = none) (sb : Sub K G' H') (kept : ∀ b o, b ≠ a → H b = some o → [NoT o] → H' b = some o) (dom : Dm H H') (ga : G' a = none) (hw : H' a = some (.ins (He.ga K c) dx fs)) (r : RpF K G' fs kvs') :
    Ex K G ρ σ H G' (ρ.set i (.ins o c kvs')) σ H' :=
  j.putY (s' := .ins o c kvs') h rfl rfl (fun d z => by cases z) (fun o g z w => by cases w) (fun o xs w => by cases w) (fun fs w => by cases w) (fun z => by cases o <;> first | exact z | rfl) ha g new sb kept dom ga hw ⟨dx, fs, rfl, r⟩
end
section
variable {X : Cx} {E : XK}
def mFldS (i : Nat) (c f : Str) : Mo D := fun ρ => match ρ[i]? with
  | some (.ins _ c' kvs) => if c' = c then mLift (fldIn f kvs) ρ else none
  | some (.pur d) => mLift (fldD c f d) ρ
  | _ => none
theorem ev_fldS {i : Nat} {c f y : Str} {p1 pos : Pos} (hc : Cls X.K (He.ga X.K c)) (hn : NoAttr X.K (He.ga X.K c) f) (hN : X.N[i]? = some y := by rfl) (hv : Vis X.env.scope y := by first | exact Or.inl rfl | exact Or.inr (Or.inl rfl) | exact Or.inr (Or.inr rfl)) (hd : (y == ("__debug__" : Str)) = false := by decide) (hcd : (y == ("__classdict__" : Str)) = false := by decide)
    (hb : attributeBase (.Name y p1) f X.env (eval (.Name y p1) X.env) = eval (.Name y p1) X.env := by rfl) : EV X E (.Attribute (.Name y p1) f pos) (mFldS i c f) := by
  refine ⟨_, pe_fld (pe_var hN hv hd hcd) hb, fun G ρ σ H Q j h => ?_⟩
  unfold mFldS at h
  cases q : ρ[i]? with
  | none => rw [q] at h; exact h.elim
  | some s =>
    rw [q] at h
    cases s with
    | ins o c' kvs =>
      simp only at h
      by_cases e : c' = c
      · rw [if_pos e] at h
        subst e
        obtain ⟨d, hd', k⟩ := Post.lift (ρ' := ρ) h
        obtain ⟨a, dx, fs, h1, h2, h3, h4⟩ := j.inst q
        obtain ⟨v, w1, w2⟩ := h4.look hd'
        exact ⟨_, h1, a, _, dx, fs, v, rfl, h2, hc, hn, w1, k G v H j.refl w2⟩
      · rw [if_neg e] at h; exact h.elim
    | pur d =>
      obtain ⟨y2, hy, k⟩ := Post.lift (ρ' := ρ) h
      obtain ⟨v, h1, r1⟩ := j.pur i d q
      cases r1 with
      | @obj ad dx c' fs kvs z1 z2 =>
        obtain ⟨rfl, h3⟩ : c' = c ∧ fldIn f kvs = some y2 := by
          have hy' : (if c' = c then fldIn f kvs else none) = some y2 := hy
          split at hy'
          · rename_i q
            exact ⟨q, hy'⟩
          · cases hy'
        obtain ⟨v', h4, h5⟩ := z2.look h3
        exact ⟨_, h1, ad, _, dx, fs, v', rfl, j.sub _ _ z1, hc, hn, h4, k G _ H j.refl h5⟩
      | frz z1 z2 => cases hy
      | _ => cases hy
    | _ => exact h.elim
/-- x.f = e -/
def sFldS (i : Nat) (c f : Str) (m : Mo D) : Mo Fl := mBind m fun d ρ => match ρ[i]? with
  | some (.ins o c' kvs) => if c' = c then (match Nat.blt kvs.length 1000 with
    | true => some (.ok (ρ.set i (.ins o c (putK f d kvs)), .nx))
    | false => none) else none
  | _ => none
theorem s_fldS {i : Nat} {c f y : Str} {e : Expr} {m : Mo D} {p pos pos' : Pos} (h : EV X E e m) (hc : Cls X.K (He.ga X.K c)) (hn : NoAttr X.K (He.ga X.K c) f) (hN : X.N[i]? = some y := by rfl)
    (hv : Vis X.env.scope y := by first | exact Or.inl rfl | exact Or.inr (Or.inl rfl) | exact Or.inr (Or.inr rfl)) (hd : (y == ("__debug__" : Str)) = false := by decide) (hcd : (y == ("__classdict__" : Str)) = false := by decide)
    (hs : swapsWith e (some (.Attribute (.Name y p) f pos')) pos.line X.env = pure false := by rfl) : SV X E (.Assign [.Attribute (.Name y p) f pos'] e pos) (sFldS i c f m) := by
  obtain ⟨t, pt, q⟩ := h
  refine ⟨_, ps_fld (pe_var hN hv hd hcd) pt hs, fun G ρ σ H De j h => q G ρ σ H _ j (PostS.imp h fun G1 ρ1 v H1 d e1 r1 k => ?_)⟩
  have k' : PostS X.K E G1 ρ1 σ H1 De (match ρ1[i]? with
    | some (.ins o c' kvs) => if c' = c then (match Nat.blt kvs.length 1000 with
      | true => some (.ok (ρ1.set i (.ins o c (putK f d kvs)), .nx))
      | false => none) else none
    | _ => none) := k
  cases hq : ρ1[i]? with
  | none => rw [hq] at k'; exact k'.elim
  | some s =>
    rw [hq] at k'
    cases s with
    | ins o c' kvs =>
      simp only at k'
      by_cases ec : c' = c
      · rw [if_pos ec] at k'
        subst ec
        cases hb : Nat.blt kvs.length 1000 with
        | false => simp only [hb] at k'; exact k'.elim
        | true =>
          simp only [hb] at k'
          obtain ⟨a, dx, fs, h1, h2, h3, h4⟩ := e1.j.inst hq
          refine ⟨_, h1, a, _, dx, fs, rfl, h2, hc, hn, ?_, ?_⟩
          · rw [h4.len]
            exact of_decide_eq_true (by simpa [Nat.blt_eq] using hb)
          · refine k' G1 σ _ (e1.j.putI hq h1 (.refl G1) (fun b hb => .inl hb) (e1.j.sub.put h3 (pl_of h2)) (fun b o nb ho => by intro _; rw [upd_ne nb]; exact ho) ⟨fun b hb => ?_, .put (pl_of h2)⟩ h3 upd_same (h4.put r1))
            by_cases z : b = a
            · subst z; rw [upd_same] at hb; cases hb
            · rw [upd_ne z] at hb; exact hb
      · rw [if_neg ec] at k'; exact k'.elim
    | _ => exact k'.elim
end
end HB
namespace HB
open PySem L2
abbrev FnM := List (D × D) → List D → Option (Except Exn (List (D × D) × D))
def PostIn (K : PySem.W.Frag) (E : XK) (c : Str) (a : Addr) (G H : Hp) (Q : VK) : Option (Except Exn (List (D × D) × D)) → Prop
  | none => False
  | some (.error x) => ∀ C dx H', XP K G [] [] H x C dx H' → E C dx H'
  | some (.ok (kvs', d)) => ∀ G' v H' dx fs, Same G G' → (∀ b, G' b ≠ none → G b ≠ none ∨ H b = none) → Sub K G' H' → (∀ b o, b ≠ a → H b = some o → [NoT o] → H' b = some o) → Dm H H' → G' a = none → H' a = some (.ins (He.ga K c) dx fs) → RpF K G' fs kvs' → Rp K G' v d → Q v H'
def spM (K : PySem.W.Frag) (c : Str) (n : Nat) (F : FnM) : Sp := fun vs H Q E => ∃ (a dx : Addr) (fs : List (Str × V)) (us : List V) (kvs : List (D × D)) (ds : List D) (G : Hp), vs = .ref a :: us ∧ H a = some (.ins (He.ga K c) dx fs) ∧ G a = none ∧ Sub K G H ∧ RpF K G fs kvs ∧ RpAll K G us ds ∧ ds.length = n ∧ PostIn K E c a G H Q (F kvs ds)
/-- a method -/
structure MmE (P : Program) (w : World) (K : PySem.W.Frag) (mg : Str → Option Value) (base : Heap) (k : Nat) (c m : Str) (n : Nat) (F : FnM) : Prop where
  cl : Cls K (He.ga K c)
  me : Meth K (He.ga K c) m (He.ma K (He.ga K c) m)
  ex : ∃ fd ps, FnOk P w K mg base (L2.CX P w) k (He.ma K (He.ga K c) m) fd ps (spM K c n F) ∧ Binds K fd ps []
  ln : ∀ kvs ds, F kvs ds ≠ none → ds.length = n
def insAt (ρ : En) (i : Nat) (c : Str) : Option (Bool × List (D × D)) := match ρ[i]? with
  | some (.ins o c' kvs) => if c' = c then some (o, kvs) else none
  | _ => none
theorem insAt_ok {ρ : En} {i : Nat} {c : Str} {o : Bool} {kvs : List (D × D)} (h : insAt ρ i c = some (o, kvs)) : ρ[i]? = some (.ins o c kvs) := by
  unfold insAt at h
  split at h
  · rename_i o' c' kvs' e
    by_cases z : c' = c
    · rw [if_pos z] at h
      cases h
      rw [e, z]
    · rw [if_neg z] at h; cases h
  · cases h
/-- what is left once the arguments are there -/
def endM (c : Str) (F : FnM) (i : Nat) (as : List D) : Mo D := fun ρ => match insAt ρ i c with
  | none => none
  | some (o, kvs) => match F kvs as with
    | none => none
    | some (.error x) => some (.error x)
    | some (.ok (kvs', d)) => some (.ok (ρ.set i (.ins o c kvs'), d))
def mMethI (c m : Str) (F : FnM) (i : Nat) (f : Mo (List D)) : Mo D := fun ρ => match insAt ρ i c with
  | none => none
  | some (_, kvs) => match noKey m kvs with
    | false => none
    | true => mBind f (endM c F i) ρ
section
variable {X : Cx} {E : XK}
theorem endM_sem {c : Str} {F : FnM} {n i : Nat} {G H : Hp} {ρ : En} {σ : St} {Q : VK} {a : Addr} {us : List V} {as : List D} (hl : ∀ kvs ds, F kvs ds ≠ none → ds.length = n) (j : J X.K G ρ σ H) (ha : σ[i]? = some (some (.ref a))) (r : RpAll X.K G us as)
    (h : Post X.K E (Rp X.K) G ρ σ H Q (endM c F i as ρ)) : spM X.K c n F (.ref a :: us) H Q E := by
  unfold endM at h
  cases q : insAt ρ i c with
  | none => rw [q] at h; exact h.elim
  | some p =>
    obtain ⟨o, kvs⟩ := p
    rw [q] at h
    have q' := insAt_ok q
    obtain ⟨b, dx, fs, h1, h2, h3, h4⟩ := j.inst q'
    rw [ha] at h1
    cases h1
    cases hF : F kvs as with
    | none => simp only [hF] at h; exact h.elim
    | some z =>
      simp only [hF] at h
      refine ⟨a, dx, fs, us, kvs, as, G, rfl, h2, h3, j.sub, h4, r, hl kvs as (by rw [hF]; simp), ?_⟩
      rw [hF]
      cases z with
      | error x => exact fun C dx H' z => h C dx H' z.of0
      | ok z =>
        obtain ⟨kvs', d⟩ := z
        exact fun G' v H' dx' fs' g new sb kept dom ga hw rf rv => h G' v H' (j.putI q' ha g new sb kept dom ga hw rf) rv
theorem ev_methI {k n i : Nat} {c m y : Str} {F : FnM} {e : Expr} {es : List Expr} {f : Mo (List D)} {p1 apos pos : Pos} {pl : Sem Bool} (hM : MmE X.prog X.w X.K X.mg X.base k c m n F) (hr : Room k X.A) (hx : Passes (L2.CX X.prog X.w) X E) (ha : EA X E (e :: es) f)
    (hN : X.N[i]? = some y := by rfl) (hv : Vis X.env.scope y := by first | exact Or.inl rfl | exact Or.inr (Or.inl rfl) | exact Or.inr (Or.inr rfl)) (hd : (y == ("__debug__" : Str)) = false := by decide) (hcd : (y == ("__classdict__" : Str)) = false := by decide)
    (ht : eval (.Call (.Attribute (.Name y p1) m apos) (e :: es) [] pos) X.env = byMeth X (.Name y p1) m apos pos pl (e :: es) := by rfl) (hst : starEach (e :: es) X.env = (false, eval e X.env) :: starEach es X.env := by rfl) (hpl : (backTo pos (starEach es X.env)).any (·.1) = false := by rfl) : EV X E (.Call (.Attribute (.Name y p1) m apos) (e :: es) [] pos) (mMethI c m F i f) := by
  obtain ⟨hc, me, ⟨fd, ps, h1, h2⟩, hl⟩ := hM
  obtain ⟨t, pt, q⟩ := ha
  refine ⟨_, pe_meth (pe_var hN hv hd hcd) hc me h1 hr h2 .nil hx pt hst hpl ht, fun G ρ σ H Q j h => ?_⟩
  unfold mMethI at h
  cases q0 : insAt ρ i c with
  | none => rw [q0] at h; exact h.elim
  | some pr =>
    obtain ⟨o, kvs⟩ := pr
    rw [q0] at h
    cases hk : noKey m kvs with
    | false => simp only [hk] at h; exact h.elim
    | true =>
      simp only [hk] at h
      obtain ⟨a, dx, fs, z1, z2, z3, z4⟩ := j.inst (insAt_ok q0)
      refine ⟨.ref a, z1, a, dx, fs, rfl, z2, z4.noLook hk, q G ρ σ H _ j (Post.imp h fun G1 ρ1 us H1 as e1 r1 k => ?_)⟩
      rw [List.append_nil]
      exact endM_sem hl e1.j z1 r1 k
end
def flatI : D → Bool
  | .none => true
  | .bool _ => true
  | .int _ => true
  | .str _ => true
  | _ => false
/-- plain, or a tuple of plain things -/
def freeI : D → Bool
  | .tuple ds => ds.all flatI
  | d => flatI d
section
variable {K : PySem.W.Frag} {G G' H : Hp}
theorem Rp.flat {v : V} {d : D} (r : Rp K G v d) (h : flatI d = true) : Rp K G' v d := by
  cases r with
  | non => exact .non
  | bl b => exact .bl b
  | int i => exact .int i
  | str x => exact .str x
  | _ => cases h
theorem RpAll.flat0 : ∀ {vs : List V} {ds : List D}, RpAll K G vs ds → ds.all flatI = true → RpAll K G' vs ds
  | _, _, .nil, _ => .nil
  | _, _, .cons r t, h => by
    replace h := Bool.and_eq_true_iff.mp (List.all_cons ▸ h)
    exact .cons (r.flat h.1) (t.flat0 h.2)
theorem Rp.out {a : Addr} {v : V} {d : D} (r : Rp K G v d) (h : freeI d = true) (ha : ∀ o, G a = some o → ∃ C dx fs, o = .ins C dx fs) : Rp K (HB.less G (· = a)) v d := by
  cases r with
  | non => exact .non
  | bl b => exact .bl b
  | int i => exact .int i
  | str x => exact .str x
  | @tup b xs ds h1 h2 =>
    refine .tup ?_ (h2.flat0 h)
    rcases h1 with ⟨o, e, n⟩ | h1
    · refine .inl ⟨o, ?_, n⟩
      rw [less_of fun m => by obtain ⟨_, _, _, z⟩ := ha _ (m ▸ e); cases z]
      exact e
    · exact .inr h1
  | _ => cases h
theorem RpF.out {a : Addr} (ha : ∀ o, G a = some o → ∃ C dx fs, o = .ins C dx fs) : ∀ {fs : List (Str × V)} {kvs : List (D × D)}, RpF K G fs kvs → (kvs.all fun p => freeI p.2) = true → RpF K (HB.less G (· = a)) fs kvs
  | _, _, .nil, _ => .nil
  | _, _, .cons r t, h => by
    replace h := Bool.and_eq_true_iff.mp (List.all_cons ▸ h)
    exact .cons (r.out h.1 ha) (RpF.out ha t h.2)
/-- it was known only while the def ran -/
theorem XP.out {ρ : En} {σ : St} {x : Exn} {C : Value} {dx : Option Addr} {H' : Hp} {a : Addr} {c dd : Addr} {fs : List (Str × V)} (h : XP K (upd G a (.ins c dd fs)) ρ σ H x C dx H') (no : ∀ b, ¬ Ownd ρ σ b) (ga : G a = none) (ha : H a = some (.ins c dd fs)) (fr : (x.2.all fun p => freeI p.2) = true) : XP K G [] [] H x C dx H' := by
  obtain ⟨h1, G2, s1, s2, new, kept, dom, fl⟩ := h
  have g2 : G2 a = some (.ins c dd fs) := s1.s _ _ upd_same
  have isI : ∀ o, G2 a = some o → ∃ C dx fs, o = .ins C dx fs := fun o e => by rw [g2] at e; cases e; exact ⟨_, _, _, rfl⟩
  refine ⟨h1, HB.less G2 (· = a), ⟨fun b o e => ?_, fun b ps e => ?_⟩, ⟨⟨fun b o e => s2.toSame.s b o (less_in e).2, fun b ps e => s2.toSame.t b ps (less_in e).2⟩, s2.tb⟩, fun b hb => ?_, fun b o e _ => kept b o e (no b), dom, ?_⟩
  · intro _
    have nb : b ≠ a := ne_of_none e ga
    rw [less_of (P := (· = a)) nb]
    exact s1.s b o ((upd_ne nb).trans e)
  · have nb : b ≠ a := ne_of_none e ga
    obtain ⟨ps', e'⟩ := s1.t b ps ((upd_ne nb).trans e)
    exact ⟨ps', by rw [less_of (P := (· = a)) nb]; exact e'⟩
  · by_cases nb : b = a
    · exact absurd (less_at (P := (· = a)) nb) hb
    · rw [less_of (P := (· = a)) nb] at hb
      rcases new b hb with z | z | z
      · rw [upd_ne nb] at z; exact .inl z
      · exact .inr (.inl z)
      · exact absurd z (no b)
  · rcases fl with z | ⟨d, fs2, z1, z2, z3⟩
    · exact .inl z
    · refine .inr ⟨d, fs2, z1, z2, RpF.out isI z3 ?_⟩
      rw [List.all_map]
      exact fr
theorem J.consI {ρ : En} {σ : St} {a dx : Addr} {c : Str} {fs : List (Str × V)} {kvs : List (D × D)} (j : J K G ρ σ H) (no : ∀ b, ¬ Ownd ρ σ b) (h1 : H a = some (.ins (He.ga K c) dx fs)) (h2 : G a = none) (r : RpF K G fs kvs) : J K G (.ins false c kvs :: ρ) (some (.ref a) :: σ) H := by
  refine ⟨j.sub, congrArg (· + 1) j.len, fun i d h => ?_, fun i s es h hl => ?_, fun i k s t es fs b e1 l1 e2 l2 e3 e4 => ?_, fun i g o1 o2 z xs e1 e2 => ?_⟩
  · cases i with
    | zero => cases h
    | succ i => exact j.pur i d h
  · cases i with
    | zero => cases h; cases hl; exact ⟨a, _, rfl, h1, h2, ⟨dx, fs, rfl, r⟩⟩
    | succ i => exact j.hold i s es h hl
  · cases i with
    | zero => cases k with
      | zero => rfl
      | succ k => exact absurd ⟨k, t, fs, e2, l2, e4⟩ (no b)
    | succ i => exact absurd ⟨i, s, es, e1, l1, e3⟩ (no b)
  · cases i with
    | zero => cases e1
    | succ i =>
      obtain ⟨a, _, q, _⟩ := j.hold i _ _ e1 rfl
      exact absurd ⟨i, _, _, e1, rfl, q⟩ (no a)
end
def ins0 (c : Str) : En → Option (List (D × D))
  | .ins false c' kvs :: _ => if c' = c then some kvs else none
  | _ => none
theorem ins0_ok {ρ : En} {c : Str} {kvs : List (D × D)} (h : ins0 c ρ = some kvs) : ρ[0]? = some (.ins false c kvs) := by
  unfold ins0 at h
  split at h
  · rename_i c' kvs' r
    by_cases z : c' = c
    · rw [if_pos z] at h
      cases h
      rw [z]
      rfl
    · rw [if_neg z] at h; cases h
  · cases h
abbrev argsE (n : Nat) (as : List D) : En := as.map Sl.pur ++ List.replicate (n - as.length) Sl.no
/-- first with the instance as data: what is raised then is raised ahead of any change -/
def runM (c : Str) (n : Nat) (g : Mo Fl) : FnM := fun kvs as => match g (.pur (.dict ((.str c, .none) :: kvs)) :: argsE n as) with
  | some (.error x) => (match x.2.all fun p => freeI p.2 with
    | true => some (.error x)
    | false => none)
  | _ => match g (.ins false c kvs :: argsE n as) with
    | some (.ok (ρ', .rt d)) => (match ins0 c ρ' with
      | some kvs' => some (.ok (kvs', d))
      | none => none)
    | some (.ok (ρ', .nx)) => (match ins0 c ρ' with
      | some kvs' => some (.ok (kvs', .none))
      | none => none)
    | _ => none
def guardM (n : Nat) (F : FnM) : FnM := fun kvs as => match Nat.beq as.length n with
  | true => F kvs as
  | false => none
theorem guardM_len {n : Nat} {F : FnM} {kvs : List (D × D)} {ds : List D} (h : guardM n F kvs ds ≠ none) : ds.length = n := by
  unfold guardM at h
  cases q : Nat.beq ds.length n with
  | true => exact Nat.eq_of_beq_eq_true q
  | false => rw [q] at h; exact absurd rfl h
theorem bodyM {K : PySem.W.Frag} {E : XK} {N : List Str} {x c : Str} {g : Mo Fl} {t : TS} {n : Nat} (q : ∀ G ρ σ H De, J K G ρ σ H → PostS K E G ρ σ H De (g ρ) → t De σ H) {vs : List V} {H : Hp} {Q : VK} (h : spM K c n (guardM n (runM c N.length g)) vs H Q E) :
    t { nx := fun _ H' => Q .non H', rt := Q } (start (x :: N) vs) H := by
  obtain ⟨a, dx, fs, us, kvs, as, G, rfl, h1, h2, s, r1, r2, hl, k⟩ := h
  rw [start_cons]
  have e0 : guardM n (runM c N.length g) kvs as = runM c N.length g kvs as := by
    unfold guardM
    have e : Nat.beq as.length n = true := by rw [hl]; exact Nat.beq_refl _
    rw [e]
  rw [e0] at k
  have no : ∀ b, ¬ Ownd (argsE N.length as) (start N us) b := fun b => start_no
  unfold runM at k
  have real : (∀ x, g (.pur (.dict ((.str c, .none) :: kvs)) :: argsE N.length as) ≠ some (.error x)) → t { nx := fun _ H' => Q .non H', rt := Q } (some (.ref a) :: start N us) H := by
    intro ne
    have k2 : PostIn K E c a G H Q (match g (.ins false c kvs :: argsE N.length as) with
      | some (.ok (ρ', .rt d)) => (match ins0 c ρ' with
        | some kvs' => some (.ok (kvs', d))
        | none => none)
      | some (.ok (ρ', .nx)) => (match ins0 c ρ' with
        | some kvs' => some (.ok (kvs', .none))
        | none => none)
      | _ => none) := by
      match hp : g (.pur (.dict ((.str c, .none) :: kvs)) :: argsE N.length as), k with
      | none, k => simp only [hp] at k; exact k
      | some (.error y), _ => exact absurd hp (ne y)
      | some (.ok z), k => simp only [hp] at k; exact k
    have j0 := (start_j (N := N) s r2).consI no h1 h2 r1
    have own1 : ∀ b, Ownd (.ins false c kvs :: argsE N.length as) (some (.ref a) :: start N us) b → b = a := fun b z => by
      obtain ⟨i, s, es, z1, z2, z3⟩ := z
      cases i with
      | zero => cases z3; rfl
      | succ i => exact absurd ⟨i, s, es, z1, z2, z3⟩ (no b)
    have fin : ∀ (ρ' : En) (kvs' : List (D × D)) (d : D) (G' : Hp) (σ' : St) (v : V) (H' : Hp), ins0 c ρ' = some kvs' → Ex K G (.ins false c kvs :: argsE N.length as) (some (.ref a) :: start N us) H G' ρ' σ' H' → Rp K G' v d → PostIn K E c a G H Q (some (.ok (kvs', d))) → Q v H' := by
      intro ρ' kvs' d G' σ' v H' hb z rv kk
      have w1 := ins0_ok hb
      obtain ⟨b, dx', fs', u1, u2, u3, u4⟩ := z.j.inst w1
      have sa : σ'[0]? = some (some (.ref a)) := (z.bd 0 _ w1 rfl).2
      rw [sa] at u1
      cases u1
      refine kk G' v H' dx' fs' z.g (fun b hb => ?_) z.j.sub (fun b o hb q => z.kept b o q fun y => hb (own1 b y)) ⟨z.dom, z.tt⟩ u3 u2 u4 rv
      rcases z.new b hb with y | y | y
      · exact .inl y
      · exact .inr y
      · have e := own1 b y
        subst e
        exact absurd u3 hb
    refine q G _ _ H _ j0 ?_
    match hg : g (.ins false c kvs :: argsE N.length as), k2 with
    | none, k => simp only [hg] at k; exact k.elim
    | some (.error y), k => simp only [hg] at k; exact k.elim
    | some (.ok (ρ', .rt d)), k =>
      simp only [hg] at k
      cases hb : ins0 c ρ' with
      | none => simp only [hb] at k; exact k.elim
      | some es => simp only [hb] at k; exact fun G' σ' v H' z rv => fin ρ' es d G' σ' v H' hb z rv k
    | some (.ok (ρ', .nx)), k =>
      simp only [hg] at k
      cases hb : ins0 c ρ' with
      | none => simp only [hb] at k; exact k.elim
      | some es => simp only [hb] at k; exact fun G' σ' H' z => fin ρ' es .none G' σ' .non H' hb z .non k
    | some (.ok (ρ', .bk)), k => simp only [hg] at k; exact k.elim
    | some (.ok (ρ', .ct)), k => simp only [hg] at k; exact k.elim
  match hp : g (.pur (.dict ((.str c, .none) :: kvs)) :: argsE N.length as), k with
  | none, _ => exact real fun x z => by rw [hp] at z; cases z
  | some (.ok z), _ => exact real fun x z => by rw [hp] at z; cases z
  | some (.error y), k =>
    simp only [hp] at k
    cases fr : y.2.all fun p => freeI p.2 with
    | false => simp only [fr] at k; exact k.elim
    | true =>
      simp only [fr] at k
      have sg : Same G (upd G a (.ins (He.ga K c) dx fs)) := same_upd h2
      have r0 : Rp K (upd G a (.ins (He.ga K c) dx fs)) (.ref a) (.dict ((.str c, .none) :: kvs)) := .obj upd_same (r1.mono sg)
      have j1 := start_j (N := x :: N) (s.take h1) (.cons r0 (RpAll.mono sg r2))
      rw [start_cons] at j1
      have e1 : (PyData.dict ((.str c, .none) :: kvs) :: as).map Sl.pur ++ List.replicate ((x :: N).length - (PyData.dict ((.str c, .none) :: kvs) :: as).length) Sl.no = .pur (.dict ((.str c, .none) :: kvs)) :: argsE N.length as := by
        simp only [List.map_cons, List.length_cons, Nat.add_sub_add_right, List.cons_append]
      rw [e1] at j1
      have no1 : ∀ b, ¬ Ownd (.pur (.dict ((.str c, .none) :: kvs)) :: argsE N.length as) (some (.ref a) :: start N us) b := fun b ⟨i, s, es, z1, z2, z3⟩ => by
        cases i with
        | zero => cases z1; cases z2
        | succ i => exact absurd ⟨i, s, es, z1, z2, z3⟩ (no b)
      refine q _ _ _ H _ j1 ?_
      rw [hp]
      exact fun C d H' z => k C d H' (z.out no1 h2 h1 fr)
end HB
namespace HB
open PySem L2
section
variable {base : Heap} {mg : Str → Option Value} {K : PySem.W.Frag}
variable {w : World} {P : Program}
theorem meth_okM {c m qual y : Str} {st : Stmt} {fd : FuncData} {N ps : List Str} {k : Nat} {g : Mo Fl} (F : FunD K m qual (defArgs st) (defBody st) (defScope st) [] [] (He.ma K (He.ga K c) m) fd) (S : FnScope (y :: N) (y :: ps) (defScope st)) (hc : Cls K (He.ga K c)) (me : Meth K (He.ga K c) m (He.ma K (He.ga K c) m))
    (b : ∀ (kV doc pm : Value) (an : Option Addr) (cdv ct : Value) (us : List Value), us.length = (y :: ps).length → bindArgs (PySem.W.fnOf m qual (defArgs st) (defBody st) (defScope st) .none kV doc pm an cdv ct) ⟨us, []⟩ = pure ((y :: ps).zip us))
    (hb : ∀ (cdv : Value) (A : Around) (outer : List PySem.Env) (s : Shared) (H : Hp) (E : XK), Room k (A.deeper (PyProof.Rows.envOfC qual (defScope st) s.heap.objs.size (He.ma K (He.ga K c) m) cdv)) → SVs (cxOf (L2.CX P w) P w K mg base (y :: N) qual (defScope st) (He.ma K (He.ga K c) m) cdv A outer s H E) E (defBody st) g) :
    MmE P w K mg base (k + 1) c m ps.length (guardM ps.length (runM c N.length g)) := by
  refine ⟨hc, me, ⟨fd, y :: ps, F.ok S (fun vs H Q E h => ?_) fun cdv A outer s H vs Q E hr h => ?_, F.bindsN b⟩, fun kvs ds h => guardM_len h⟩
  · obtain ⟨a, dx, fs, us, kvs, ds, G, e, _, _, _, _, r, hl, _⟩ := h
    rw [e]
    show us.length + 1 = ps.length + 1
    rw [r.length, hl]
  · obtain ⟨t, p, q⟩ := hb cdv A outer s H E hr
    exact ⟨t, p, bodyM q h⟩
end
theorem propB_ok {K : PySem.W.Frag} {c m : Str} (h : propB K c m = true) : PropOf K (He.ga K c) m (He.ma K (He.ga K c) m) (propA K c m) := by
  obtain ⟨h1, r1⟩ := He.ba h
  obtain ⟨h2, r2⟩ := He.ba r1
  obtain ⟨h3, h4⟩ := He.ba r2
  refine ⟨?_, of_decide_eq_true h2, of_decide_eq_true h3, ?_⟩
  · split at h1
    · rename_i p e
      rw [e, of_decide_eq_true h1]
    · cases h1
  · split at h4
    · rename_i g rest e
      exact ⟨rest, by rw [e, of_decide_eq_true h4]⟩
    · cases h4
section
variable {X : Cx} {E : XK}
theorem passN {X : Cx} : Passes (L2.CX X.prog X.w) X.nox botK := fun _ _ _ _ _ _ _ c => by
  obtain ⟨_, _, _, _, _, _, _, _, _, _, _, _, z⟩ := c
  exact z.elim
def RpI (K : PySem.W.Frag) (c : Str) (H0 H' G' : Hp) (ρ' : En) (σ : St) (v : V) (kvs : List (D × D)) : Prop := ∃ (a dx : Addr) (fs : List (Str × V)), v = .ref a ∧ H0 a = none ∧ G' a = none ∧ H' a = some (.ins (He.ga K c) dx fs) ∧ ¬ Ownd ρ' σ a ∧ RpF K G' fs kvs
def PostMk (K : PySem.W.Frag) (E : XK) (c : Str) (G : Hp) (ρ : En) (σ : St) (H : Hp) (Q : VK) : Option (Except Exn (En × List (D × D))) → Prop
  | none => False
  | some (.error x) => ∀ C dx H', XP K G ρ σ H x C dx H' → E C dx H'
  | some (.ok (ρ', kvs)) => ∀ G' v H', Ex K G ρ σ H G' ρ' σ H' → RpI K c H H' G' ρ' σ v kvs → Q v H'
/-- an expression that makes one -/
def EM (X : Cx) (E : XK) (c : Str) (e : Expr) (f : Mo (List (D × D))) : Prop := ∃ t, PE X e t ∧ ∀ G ρ σ H Q, J X.K G ρ σ H → PostMk X.K E c G ρ σ H Q (f ρ) → t σ H Q
def mNew (F : FnI) (a : Mo (List D)) : Mo (List (D × D)) := mBind a fun ds ρ => match F ds with
  | none => none
  | some (.error x) => some (.error x)
  | some (.ok kvs) => some (.ok (ρ, kvs))
theorem em_make {k n : Nat} {c : Str} {F : FnI} {p pos : Pos} {e : Expr} {es : List Expr} {f : Mo (List D)} (hF : MkE X.prog X.w X.K X.mg X.base k c n F) (hr : Room (k + 1) X.A) (hx : Passes (L2.CX X.prog X.w) X E)
    (ha : EA X E (e :: es) f) (hg : Gl X c := by rfl) (hdb : (c == ("__debug__" : Str)) = false := by decide) (he : starEach (e :: es) X.env = (false, eval e X.env) :: starEach es X.env := by rfl)
    (hpl : (backTo pos (starEach es X.env)).any (·.1) = false := by rfl) : EM X E c (.Call (.Name c p) (e :: es) [] pos) (mNew F f) := by
  obtain ⟨M, ⟨fd, ps, h1, h2⟩, gl, hl⟩ := hF
  obtain ⟨t, pt, q⟩ := ha
  refine ⟨_, pe_make M h1 hr hg gl h2 .nil hx pt hdb he hpl, fun G ρ σ H Q j h => q G ρ σ H _ j ?_⟩
  unfold mNew mBind at h
  cases hf : f ρ with
  | none => simp only [hf] at h; exact h.elim
  | some r =>
    cases r with
    | error x => simp only [hf] at h; exact h
    | ok pr =>
      obtain ⟨ρ1, ds⟩ := pr
      simp only [hf] at h
      intro G1 vs H1 e1 r1 x dx hx' hdx hne
      rw [List.append_nil]
      have s12 : SameT H1 (upd (upd H1 dx (.own x)) x (.ins (He.ga X.K c) dx [])) := (sameT_upd hdx).trans (sameT_upd (by rw [upd_ne (Ne.symm hne)]; exact hx'))
      have j1 := e1.j
      have ne : ∀ b, H1 b = none ∨ (upd (upd H1 dx (.own x)) x (.ins (He.ga X.K c) dx [])) b ≠ none := fun b => by
        cases q : H1 b with
        | none => exact .inl rfl
        | some o => exact .inr (let ⟨_, e⟩ := s12.toSame.some q; by rw [e]; simp)
      cases hF : F ds with
      | none => simp only [hF] at h; exact h.elim
      | some r =>
        refine ⟨x, dx, vs, ds, G1, rfl, upd_same, j1.sub.up (j1.up s12), j1.sub.free hx', r1, hl ds (by rw [hF]; simp), ?_⟩
        rw [hF]
        simp only [hF] at h
        cases r with
        | error y => exact fun C d H' z => h C d H' (XP.trans e1 (XP.trans (j1.ex (j1.up s12)) z.of0))
        | ok kvs =>
          intro G' H' g new sb kept dm gx ob
          refine ⟨rfl, ?_⟩
          obtain ⟨d', fs, z1, z2⟩ := ob
          have px : PX G1 H1 G' H' := by
            refine ⟨⟨fun b o hb => kept b o (fun e => by subst e; rw [hx'] at hb; cases hb) (s12.toSame.s _ _ hb), s12.toSame.t.trans dm.t.t⟩, g, sb.toSame, fun b hb => ?_, fun P z => dm.t.n P (s12.g P z)⟩
            rcases new b hb with w | w
            · exact .inl w
            · rcases ne b with u | u
              · exact .inr u
              · exact absurd w u
          exact h G' _ H' (e1.trans (j1.ex px)) ⟨x, d', fs, rfl, e1.dom x hx', gx, z1, j1.nown hx', z2⟩
end
end HB
namespace HB
open PySem L2
section
variable {X : Cx}
def tMethAt (C : Addr) (m : Str) (sp : Sp) (W : WX) (ta : TE) (t : TA) : TE := fun σ H Q => tMeth C m sp [] (WE W σ) ta t σ H Q
theorem pe_methAt {k : Nat} {C g : Addr} {m : Str} {fd : FuncData} {ps : List Str} {sp : Sp} {W : WX} {o e : Expr} {es : List Expr} {ta : TE} {t : TA} {apos pos : Pos} {pl : Sem Bool} (tk : Takes X W) (po : PE X o ta) (cl : Cls X.K C) (me : Meth X.K C m g) (F : FnOk X.prog X.w X.K X.mg X.base (L2.CX X.prog X.w) k g fd ps sp) (room : Room k X.A) (bnd : Binds X.K fd ps []) (pa : PA X (e :: es) t)
    (ev : eval (.Call (.Attribute o m apos) (e :: es) [] pos) X.env = byMeth X o m apos pos pl (e :: es)) (st : starEach (e :: es) X.env = (false, eval e X.env) :: starEach es X.env) (nost : (backTo pos (starEach es X.env)).any (·.1) = false) : PE X (.Call (.Attribute o m apos) (e :: es) [] pos) (tMethAt C m sp W ta t) := by
  refine ⟨fun pins s σ H Q I z => PySem.W.methodCall_KW (pl := pl) (thn (po.run pins s σ H _ I z) ?_) ev⟩
  rintro ov s1 ⟨y, H1, I1, ry, ad, dx, fs, ey, at1, nl, z1⟩
  subst ey
  have eo : ov = Value.ref ad := ry
  subst eo
  refine getmeth_ok I1 at1 cl me nl (PySem.W.callWith_K (first := [.ref ad]) (h₀ := X.base) I1.ok.mod.kin me.kp (thn (pa.run pos pins s1 σ H1 _ I1 z1) ?_) st nost)
  rintro us s2 ⟨vs, H2, I2, rv, z2⟩
  refine ⟨I2.kIn, run_fnS (us := .ref ad :: us) (vs := .ref ad :: vs) (E := WE W) F room bnd (passAt tk σ) I2 (.cons rfl rv) ?_⟩
  have z3 : sp (.ref ad :: (vs ++ [])) H2 Q (WE W σ) := z2
  rwa [List.append_nil] at z3
end
end HB
namespace HB
open PySem L2
section
variable {K : PySem.W.Frag} {G G' H H' : Hp} {ρ : En} {σ : St}
/-- all but what stands at a stays -/
theorem J.but {a : Addr} (j : J K G ρ σ H) (na : ¬ Ownd ρ σ a) (g : Same G G') (new : ∀ b, G' b ≠ none → G b ≠ none ∨ H b = none) (sb : Sub K G' H') (kept : ∀ b o, b ≠ a → H b = some o → [NoT o] → H' b = some o) : J K G' ρ σ H' := by
  refine ⟨sb, j.len, fun i d e => let ⟨v, h1, h2⟩ := j.pur i d e; ⟨v, h1, h2.mono g⟩, fun i s ds e hl => ?_, j.alone, fun i k o o' z xs e1 e2 => ?_⟩
  · obtain ⟨b, ob, h1, h2, h3, h4⟩ := j.hold i s ds e hl
    have nb : b ≠ a := fun z => by subst z; exact na ⟨i, s, ds, e, hl, h1⟩
    haveI := h4.noT
    refine ⟨b, ob, h1, kept b ob nb h2, ?_, h4.mono g⟩
    cases q : G' b with
    | none => rfl
    | some o =>
      rcases new b (by rw [q]; simp) with z | z
      · exact absurd h3 z
      · rw [h2] at z; cases z
  · obtain ⟨b, v, u, h1, h2, h3⟩ := j.lk i k o o' z xs e1 e2
    have nb : b ≠ a := fun z => by subst z; exact na ⟨i, _, _, e1, rfl, h1⟩
    exact ⟨b, v, u, h1, kept b _ nb h2, h3⟩
end
end HB
namespace HB
open PySem L2
abbrev AtS (σ : St) (i : Nat) (a : Addr) : Prop := σ[i]? = some (some (.ref a))
abbrev Dst := Option (List (D × D))
def Inn (K : PySem.W.Frag) (H : Hp) (a b : Addr) : Prop := ∃ dx, H a = some (.ins (He.ga K "Desk") dx [("live", .ref b)])
def Ld (K : PySem.W.Frag) (G : Hp) (a : Addr) (st : Dst) (ρ : En) (σ : St) (H : Hp) : Prop := G a = none ∧ ¬ Ownd ρ σ a ∧ (match st with
  | none => ∃ dx, H a = some (.ins (He.ga K "Desk") dx [("live", .non)])
  | some kvs => ∃ (dx y dy : Addr) (fs : List (Str × V)), y ≠ a ∧ H a = some (.ins (He.ga K "Desk") dx [("live", .ref y)]) ∧ G y = none ∧ ¬ Ownd ρ σ y ∧ H y = some (.ins (He.ga K "Live") dy fs) ∧ RpF K G fs kvs)
section
variable {K : PySem.W.Frag} {a : Addr} {st : Dst} {G H G' H' G1 H1 : Hp} {ρ ρ' ρ1 : En} {σ σ' σ1 : St}
theorem Ld.has (l : Ld K G a st ρ σ H) : ∃ dx v, H a = some (.ins (He.ga K "Desk") dx [("live", v)]) := by
  obtain ⟨_, _, h⟩ := l
  cases st with
  | none => obtain ⟨dx, e⟩ := h; exact ⟨dx, _, e⟩
  | some kvs => obtain ⟨dx, y, dy, fs, _, e, _⟩ := h; exact ⟨dx, _, e⟩
theorem Ex.stay2 (ex : Ex K G ρ σ H G' ρ' σ' H') {x : Addr} {ob : HO} [NoT ob] (g0 : G x = none) (h0 : H x = some ob) (n0 : ¬ Ownd ρ σ x) : G' x = none ∧ H' x = some ob ∧ ¬ Ownd ρ' σ' x := by
  refine ⟨?_, ex.kept x ob h0 n0, fun z => ?_⟩
  · cases y : G' x with
    | none => rfl
    | some o =>
      rcases ex.new x (by rw [y]; simp) with z | z | z
      · exact absurd g0 z
      · rw [h0] at z; cases z
      · exact absurd z n0
  · rcases ex.ow x z with y | y
    · exact n0 y
    · rw [h0] at y; cases y
theorem Ld.ex (l : Ld K G a st ρ σ H) (e : Ex K G ρ σ H G' ρ' σ' H') : Ld K G' a st ρ' σ' H' := by
  obtain ⟨g0, n0, h⟩ := l
  cases st with
  | none =>
    obtain ⟨dx, h⟩ := h
    obtain ⟨g1, h1, n1⟩ := e.stay2 g0 h n0
    exact ⟨g1, n1, dx, h1⟩
  | some kvs =>
    obtain ⟨dx, y, dy, fs, ne, h, gy, ny, hy, r⟩ := h
    obtain ⟨g1, h1, n1⟩ := e.stay2 g0 h n0
    obtain ⟨g2, h2, n2⟩ := e.stay2 gy hy ny
    exact ⟨g1, n1, dx, y, dy, fs, ne, h1, g2, n2, h2, r.mono e.g⟩
/-- what may have happened, these two set aside -/
structure TrL (K : PySem.W.Frag) (a : Addr) (G : Hp) (ρ : En) (σ : St) (H : Hp) (G' : Hp) (ρ' : En) (σ' : St) (H' : Hp) : Prop where
  j : J K G' ρ' σ' H'
  g : Same G G'
  new : ∀ b, G' b ≠ none → G b ≠ none ∨ H b = none ∨ Ownd ρ σ b
  kept : ∀ b o, H b = some o → ¬ Ownd ρ σ b → b ≠ a → ¬ Inn K H a b → [NoT o] → H' b = some o
  ow : ∀ b, Ownd ρ' σ' b → Ownd ρ σ b ∨ H b = none
  dom : ∀ b, H' b = none → H b = none
  bx : ∀ (i : Nat) (ds : List D), ρ'[i]? = some (.box ds) → (∃ es, ρ[i]? = some (.box es)) ∧ σ'[i]? = σ[i]?
  bd : ∀ (i : Nat) (s : Sl), ρ'[i]? = some s → s.isD = true → (∃ s0, ρ[i]? = some s0 ∧ s0.isD = true) ∧ σ'[i]? = σ[i]?
  tt : Tx H H'
  inn : ∀ b, Inn K H' a b → Inn K H a b ∨ H b = none
theorem Ld.tr (l : Ld K G a st ρ σ H) (e : Ex K G ρ σ H G' ρ' σ' H') : TrL K a G ρ σ H G' ρ' σ' H' := by
  refine ⟨e.j, e.g, e.new, fun b o h n _ _ => e.kept b o h n, e.ow, e.dom, e.bx, e.bd, e.tt, fun b hb => ?_⟩
  obtain ⟨dx, v, h⟩ := l.has
  have h' : H' a = _ := e.kept a _ h l.2.1
  obtain ⟨d2, hb⟩ := hb
  rw [h'] at hb
  cases hb
  exact .inl ⟨dx, h⟩
theorem TrL.trans {G2 H2 : Hp} {ρ2 : En} {σ2 : St} (p : TrL K a G ρ σ H G1 ρ1 σ1 H1) (q : TrL K a G1 ρ1 σ1 H1 G2 ρ2 σ2 H2) : TrL K a G ρ σ H G2 ρ2 σ2 H2 where
  j := q.j
  g := p.g.trans q.g
  new := fun c hc => by
    rcases q.new c hc with z | z | z
    · exact p.new c z
    · exact .inr (.inl (p.dom c z))
    · rcases p.ow c z with z | z
      · exact .inr (.inr z)
      · exact .inr (.inl z)
  kept := fun c o e n na ni => q.kept c o (p.kept c o e n na ni) (fun z => by
    rcases p.ow c z with z | z
    · exact n z
    · rw [e] at z; cases z) na fun z => by
    rcases p.inn c z with z | z
    · exact ni z
    · rw [e] at z; cases z
  ow := fun c hc => by
    rcases q.ow c hc with z | z
    · exact p.ow c z
    · exact .inr (p.dom c z)
  dom := fun c hc => p.dom c (q.dom c hc)
  bx := fun i ds h => by
    obtain ⟨⟨es, h1⟩, h2⟩ := q.bx i ds h
    obtain ⟨h3, h4⟩ := p.bx i es h1
    exact ⟨h3, h2.trans h4⟩
  bd := fun i s h w => by
    obtain ⟨⟨s1, h1, q1⟩, h2⟩ := q.bd i s h w
    obtain ⟨h3, h4⟩ := p.bd i s1 h1 q1
    exact ⟨h3, h2.trans h4⟩
  tt := p.tt.trans q.tt
  inn := fun b hb => by
    rcases q.inn b hb with z | z
    · exact p.inn b z
    · exact .inr (p.dom b z)
end
abbrev MoL (α : Type) := En → Dst → Option (Except Exn (En × Dst × α))
def PostL {α β : Type} (K : PySem.W.Frag) (E : XK) (R : Hp → β → α → Prop) (a : Addr) (G : Hp) (ρ : En) (σ : St) (H : Hp) (Q : β → Hp → Prop) : Option (Except Exn (En × Dst × α)) → Prop
  | none => False
  | some (.error x) => ∀ C dx H', XP K G ρ σ H x C dx H' → E C dx H'
  | some (.ok (ρ', st', d)) => ∀ G' v H', TrL K a G ρ σ H G' ρ' σ H' → Ld K G' a st' ρ' σ H' → R G' v d → Q v H'
def EVL (X : Cx) (E : XK) (i : Nat) (e : Expr) (f : MoL D) : Prop := ∃ t, PE X e t ∧ ∀ G ρ st (a : Addr) σ H Q, J X.K G ρ σ H → AtS σ i a → Ld X.K G a st ρ σ H → PostL X.K E (Rp X.K) a G ρ σ H Q (f ρ st) → t σ H Q
def ETL (X : Cx) (E : XK) (i : Nat) (e : Expr) (f : MoL Bool) : Prop := ∃ t, PT X e t ∧ ∀ G ρ st (a : Addr) σ H Q, J X.K G ρ σ H → AtS σ i a → Ld X.K G a st ρ σ H → PostL X.K E (fun _ b c => b = c) a G ρ σ H Q (f ρ st) → t σ H Q
/-- one that does not touch it -/
def liftL {α : Type} (f : Mo α) : MoL α := fun ρ st => match f ρ with
  | none => none
  | some (.error x) => some (.error x)
  | some (.ok (ρ', d)) => some (.ok (ρ', st, d))
section
variable {X : Cx} {E : XK} {i : Nat}
theorem PostL.lift {α β : Type} {R : Hp → β → α → Prop} {a : Addr} {st : Dst} {G H : Hp} {ρ : En} {σ : St} {Q : β → Hp → Prop} {f : Mo α} (l : Ld X.K G a st ρ σ H) (h : PostL X.K E R a G ρ σ H Q (liftL f ρ st)) : Post X.K E R G ρ σ H Q (f ρ) := by
  unfold liftL at h
  match hf : f ρ, h with
  | none, h => simp only [hf] at h; exact h
  | some (.error x), h => simp only [hf] at h; exact h
  | some (.ok (ρ', d)), h => simp only [hf] at h; exact fun G' v H' ex r => h G' v H' (l.tr ex) (l.ex ex) r
theorem evL_of {e : Expr} {f : Mo D} (h : EV X E e f) : EVL X E i e (liftL f) := by
  obtain ⟨t, p, q⟩ := h
  exact ⟨t, p, fun G ρ st a σ H Q j at_ l h => q G ρ σ H Q j (PostL.lift l h)⟩
theorem etL_of {e : Expr} {f : Mo Bool} (h : ET X E e f) : ETL X E i e (liftL f) := by
  obtain ⟨t, p, q⟩ := h
  exact ⟨t, p, fun G ρ st a σ H Q j at_ l h => q G ρ σ H Q j (PostL.lift l h)⟩
/-- the one field's thing -/
theorem Ld.live {a : Addr} {kvs : List (D × D)} {G H : Hp} {ρ : En} {σ : St} {Q : VK} (at_ : AtS σ i a) (hc : Cls X.K (He.ga X.K "Desk")) (hn : NoAttr X.K (He.ga X.K "Desk") "live") (l : Ld X.K G a (some kvs) ρ σ H)
    (k : ∀ (y dy : Addr) (fs : List (Str × V)), y ≠ a → G y = none → ¬ Ownd ρ σ y → H y = some (.ins (He.ga X.K "Live") dy fs) → RpF X.K G fs kvs → (∃ dx, H a = some (.ins (He.ga X.K "Desk") dx [("live", .ref y)])) → Q (.ref y) H) : tFld X.K (tVar i) "live" σ H Q := by
  obtain ⟨_, _, dx, y, dy, fs, ne, h1, gy, ny, h2, r⟩ := l
  exact ⟨.ref a, at_, a, _, dx, _, .ref y, rfl, h1, hc, hn, rfl, k y dy fs ne gy ny h2 r ⟨dx, h1⟩⟩
/-- self.live.m(..) -/
def mMethL (m : Str) (F : FnM) (f : Mo (List D)) : MoL D := fun ρ st => match st with
  | none => none
  | some kvs => (match noKey m kvs with
    | false => none
    | true => (match liftL f ρ st with
      | none => none
      | some (.error x) => some (.error x)
      | some (.ok (ρ1, _, as)) => (match F kvs as with
        | none => none
        | some (.error x) => some (.error x)
        | some (.ok (kvs', d)) => some (.ok (ρ1, some kvs', d)))))
theorem PostL.imp {α β γ δ : Type} {R : Hp → β → α → Prop} {R' : Hp → δ → γ → Prop} {a : Addr} {st : Dst} {G H : Hp} {ρ : En} {σ : St} {Q : β → Hp → Prop} {Q' : δ → Hp → Prop} {f : Mo γ} {k : En → γ → Option (Except Exn (En × Dst × α))} (l : Ld X.K G a st ρ σ H)
    (h : PostL X.K E R a G ρ σ H Q (match liftL f ρ st with
      | none => none
      | some (.error x) => some (.error x)
      | some (.ok (ρ1, _, d)) => k ρ1 d)) (go : ∀ G1 ρ1 v H1 d, Ex X.K G ρ σ H G1 ρ1 σ H1 → Ld X.K G1 a st ρ1 σ H1 → R' G1 v d → PostL X.K E R a G ρ σ H Q (k ρ1 d) → Q' v H1) : Post X.K E R' G ρ σ H Q' (f ρ) := by
  unfold liftL at h
  match hf : f ρ, h with
  | none, h => simp only [hf] at h; exact h
  | some (.error x), h => simp only [hf] at h; exact h
  | some (.ok (ρ', d)), h => simp only [hf] at h; exact fun G' v H' ex r => go G' ρ' v H' d ex (l.ex ex) r h
/-- a method has changed the inner instance -/
theorem Ld.inner {K : PySem.W.Frag} {a y dx : Addr} {kvs' : List (D × D)} {G H G' H' : Hp} {ρ : En} {σ : St} (j : J K G ρ σ H) (ga : G a = none) (na : ¬ Ownd ρ σ a) (ne : y ≠ a) (ha : H a = some (.ins (He.ga K "Desk") dx [("live", .ref y)])) (gy : G y = none) (ny : ¬ Ownd ρ σ y) {o : HO} (hy : H y = some o)
    (g : Same G G') (new : ∀ b, G' b ≠ none → G b ≠ none ∨ H b = none) (sb : Sub K G' H') (kept : ∀ b o, b ≠ y → H b = some o → [NoT o] → H' b = some o) (dom : Dm H H') (gy' : G' y = none) {dy : Addr} {fs : List (Str × V)} (hy' : H' y = some (.ins (He.ga K "Live") dy fs)) (r : RpF K G' fs kvs') :
    TrL K a G ρ σ H G' ρ σ H' ∧ Ld K G' a (some kvs') ρ σ H' := by
  have ha' : H' a = some (.ins (He.ga K "Desk") dx [("live", .ref y)]) := kept a _ (Ne.symm ne) ha
  refine ⟨⟨j.but ny g new sb kept, g, fun b hb => (new b hb).elim .inl fun z => .inr (.inl z), fun b o hb _ _ ni => ?_, fun b h => .inl h, dom.d, fun i ds h => ⟨⟨ds, h⟩, rfl⟩, fun i s h q => ⟨⟨s, h, q⟩, rfl⟩, dom.t, fun b hb => ?_⟩, ?_, na, dx, y, dy, fs, ne, ha', gy', ny, hy', r⟩
  · intro _
    exact kept b o (fun z => ni (by rw [z]; exact ⟨dx, ha⟩)) hb
  · obtain ⟨d2, hb⟩ := hb
    rw [ha'] at hb
    cases hb
    exact .inl ⟨dx, ha⟩
  · cases q : G' a with
    | none => rfl
    | some o =>
      rcases new a (by rw [q]; simp) with z | z
      · exact absurd ga z
      · rw [ha] at z; cases z
theorem evL_meth {k n : Nat} {m y : Str} {F : FnM} {e : Expr} {es : List Expr} {f : Mo (List D)} {p1 lpos apos pos : Pos} {pl : Sem Bool} (hM : MmE X.prog X.w X.K X.mg X.base k "Live" m n F) (hr : Room k X.A) (hx : Passes (L2.CX X.prog X.w) X E) (hc0 : Cls X.K (He.ga X.K "Desk")) (hn0 : NoAttr X.K (He.ga X.K "Desk") "live") (ha : EA X E (e :: es) f)
    (hN : X.N[i]? = some y := by rfl) (hv : Vis X.env.scope y := by first | exact Or.inl rfl | exact Or.inr (Or.inl rfl) | exact Or.inr (Or.inr rfl)) (hd : (y == ("__debug__" : Str)) = false := by decide) (hcd : (y == ("__classdict__" : Str)) = false := by decide)
    (hb : attributeBase (.Name y p1) "live" X.env (eval (.Name y p1) X.env) = eval (.Name y p1) X.env := by rfl)
    (ht : eval (.Call (.Attribute (.Attribute (.Name y p1) "live" lpos) m apos) (e :: es) [] pos) X.env = byMeth X (.Attribute (.Name y p1) "live" lpos) m apos pos pl (e :: es) := by rfl) (hst : starEach (e :: es) X.env = (false, eval e X.env) :: starEach es X.env := by rfl) (hpl : (backTo pos (starEach es X.env)).any (·.1) = false := by rfl) :
    EVL X E i (.Call (.Attribute (.Attribute (.Name y p1) "live" lpos) m apos) (e :: es) [] pos) (mMethL m F f) := by
  obtain ⟨hc, me, ⟨fd, ps, h1, h2⟩, hl⟩ := hM
  obtain ⟨t, pt, q⟩ := ha
  refine ⟨_, pe_meth (pe_fld (pe_var hN hv hd hcd) hb) hc me h1 hr h2 .nil hx pt hst hpl ht, fun G ρ st a σ H Q j at_ l h => ?_⟩
  unfold mMethL at h
  cases st with
  | none => exact h.elim
  | some kvs =>
    simp only at h
    cases hk : noKey m kvs with
    | false => simp only [hk] at h; exact h.elim
    | true =>
      simp only [hk] at h
      refine Ld.live at_ hc0 hn0 l fun y dy fs ne gy ny hy r ⟨dx, ha⟩ => ⟨y, dy, fs, rfl, hy, r.noLook hk, q G ρ σ H _ j (PostL.imp (R := Rp X.K) (Q := Q) (k := fun ρ1 as => match F kvs as with
        | none => none
        | some (.error x) => some (.error x)
        | some (.ok (kvs', d)) => some (.ok (ρ1, some kvs', d))) l ?_ fun G1 ρ1 us H1 as e1 l1 ru hh => ?_)⟩
      · match hL : liftL f ρ (some kvs), h with
        | none, h => simp only [hL] at h; exact h.elim
        | some (.error x), h => simp only [hL] at h; exact h
        | some (.ok (ρ1, st1, as)), h => simp only [hL] at h; exact h
      · rw [List.append_nil]
        obtain ⟨gy1, hy1, ny1⟩ := e1.stay2 gy hy ny
        obtain ⟨ga1, ha1, na1⟩ := e1.stay2 l.1 ha l.2.1
        cases hF : F kvs as with
        | none => simp only [hF] at hh; exact hh.elim
        | some z =>
          simp only [hF] at hh
          refine ⟨y, dy, fs, us, kvs, as, G1, rfl, hy1, gy1, e1.j.sub, r.mono e1.g, ru, hl kvs as (by rw [hF]; simp), ?_⟩
          rw [hF]
          cases z with
          | error x => exact fun C dx H' z => hh C dx H' (XP.trans e1 z.of0)
          | ok z =>
            obtain ⟨kvs', d⟩ := z
            intro G' v H' dy' fs' g new sb kept dom gy' hy' rf rv
            obtain ⟨tr, l2⟩ := Ld.inner e1.j ga1 na1 ne ha1 gy1 ny1 hy1 g new sb kept dom gy' hy' rf
            exact hh G' v H' ((l.tr e1).trans tr) l2 rv
/-- self.live.m() -/
theorem evL_meth0 {k n : Nat} {m y : Str} {F : FnM} {p1 lpos apos pos : Pos} {pl : Sem Bool} (hM : MmE X.prog X.w X.K X.mg X.base k "Live" m n F) (hr : Room k X.A) (hx : Passes (L2.CX X.prog X.w) X E) (hc0 : Cls X.K (He.ga X.K "Desk")) (hn0 : NoAttr X.K (He.ga X.K "Desk") "live")
    (hN : X.N[i]? = some y := by rfl) (hv : Vis X.env.scope y := by first | exact Or.inl rfl | exact Or.inr (Or.inl rfl) | exact Or.inr (Or.inr rfl)) (hd : (y == ("__debug__" : Str)) = false := by decide) (hcd : (y == ("__classdict__" : Str)) = false := by decide)
    (hb : attributeBase (.Name y p1) "live" X.env (eval (.Name y p1) X.env) = eval (.Name y p1) X.env := by rfl)
    (ht : eval (.Call (.Attribute (.Attribute (.Name y p1) "live" lpos) m apos) [] [] pos) X.env = byMeth X (.Attribute (.Name y p1) "live" lpos) m apos pos pl [] := by rfl) :
    EVL X E i (.Call (.Attribute (.Attribute (.Name y p1) "live" lpos) m apos) [] [] pos) (mMethL m F mNil) := by
  obtain ⟨hc, me, ⟨fd, ps, h1, h2⟩, hl⟩ := hM
  refine ⟨_, pe_meth0 (pe_fld (pe_var hN hv hd hcd) hb) hc me h1 hr h2 .nil hx ht, fun G ρ st a σ H Q j at_ l h => ?_⟩
  unfold mMethL at h
  cases st with
  | none => exact h.elim
  | some kvs =>
    simp only at h
    cases hk : noKey m kvs with
    | false => simp only [hk] at h; exact h.elim
    | true =>
      have e0 : liftL mNil ρ (some kvs) = some (.ok (ρ, some kvs, [])) := by
        unfold liftL mNil mRet
        rfl
      simp only [hk, e0] at h
      refine Ld.live at_ hc0 hn0 l fun y dy fs ne gy ny hy r ⟨dx, ha⟩ => ⟨y, dy, fs, rfl, hy, r.noLook hk, ?_⟩
      show spM X.K "Live" n F (.ref y :: ([] ++ [])) H Q E
      cases hF : F kvs [] with
      | none => simp only [hF] at h; exact h.elim
      | some z =>
        simp only [hF] at h
        refine ⟨y, dy, fs, [], kvs, [], G, rfl, hy, gy, j.sub, r, .nil, hl kvs [] (by rw [hF]; simp), ?_⟩
        rw [hF]
        cases z with
        | error x => exact fun C dx H' z => h C dx H' z.of0
        | ok z =>
          obtain ⟨kvs', d⟩ := z
          intro G' v H' dy' fs' g new sb kept dom gy' hy' rf rv
          obtain ⟨tr, l2⟩ := Ld.inner j l.1 l.2.1 ne ha gy ny hy g new sb kept dom gy' hy' rf
          exact h G' v H' tr l2 rv
end
end HB
namespace HB
open PySem L2
section
variable {X : Cx} {E : XK} {i : Nat}
/-- arguments, the first of which may change it -/
def EAL (X : Cx) (E : XK) (i : Nat) (es : List Expr) (f : MoL (List D)) : Prop := ∃ t, PA X es t ∧ ∀ G ρ st (a : Addr) σ H Q, J X.K G ρ σ H → AtS σ i a → Ld X.K G a st ρ σ H → PostL X.K E (RpAll X.K) a G ρ σ H Q (f ρ st) → t σ H Q
def mConsL (f : MoL D) (g : Mo (List D)) : MoL (List D) := fun ρ st => match f ρ st with
  | none => none
  | some (.error x) => some (.error x)
  | some (.ok (ρ1, st1, d)) => (match liftL g ρ1 st1 with
    | some (.ok (ρ2, st2, ds)) => some (.ok (ρ2, st2, d :: ds))
    | _ => none)
theorem eaL_cons {e : Expr} {es : List Expr} {f : MoL D} {g : Mo (List D)} (h : EVL X E i e f) (r : EA X E es g) (he : starEach (e :: es) X.env = (false, eval e X.env) :: starEach es X.env := by rfl) : EAL X E i (e :: es) (mConsL f g) := by
  obtain ⟨t, p, q⟩ := h
  obtain ⟨u, p2, q2⟩ := r
  refine ⟨_, pa_cons p p2 he, fun G ρ st a σ H Q j at_ l h => q G ρ st a σ H _ j at_ l ?_⟩
  unfold mConsL at h
  cases hf : f ρ st with
  | none => simp only [hf] at h; exact h.elim
  | some r =>
    cases r with
    | error x => simp only [hf] at h; exact h
    | ok pr =>
      obtain ⟨ρ1, st1, d⟩ := pr
      simp only [hf] at h
      intro G1 v H1 tr l1 r1
      refine q2 G1 ρ1 σ H1 _ tr.j ?_
      unfold liftL at h
      cases hg : g ρ1 with
      | none => simp only [hg] at h; exact h.elim
      | some r =>
        cases r with
        | error x => simp only [hg] at h; exact h.elim
        | ok pr =>
          obtain ⟨ρ2, ds⟩ := pr
          simp only [hg] at h
          exact fun G2 vs H2 ex rs => h G2 (v :: vs) H2 (tr.trans (l1.tr ex)) (l1.ex ex) (.cons (r1.mono ex.g) rs)
/-- a call of a def -/
def mCallL (F : Fn) (f : MoL (List D)) : MoL D := fun ρ st => match f ρ st with
  | none => none
  | some (.error x) => some (.error x)
  | some (.ok (ρ1, st1, ds)) => (match F ds with
    | some (.ok d) => some (.ok (ρ1, st1, d))
    | _ => none)
theorem evL_call {k : Nat} {x : Str} {ps : List Str} {F : Fn} {p pos : Pos} {e : Expr} {es : List Expr} {f : MoL (List D)} (hF : FnE X.prog X.w X.K X.mg X.base k x ps F) (hr : Room k X.A) (hx : Passes (L2.CX X.prog X.w) X E)
    (ha : EAL X E i (e :: es) f) (hg : Gl X x := by rfl) (hdb : (x == ("__debug__" : Str)) = false := by decide) (he : starEach (e :: es) X.env = (false, eval e X.env) :: starEach es X.env := by rfl)
    (hpl : (backTo pos (starEach es X.env)).any (·.1) = false := by rfl) : EVL X E i (.Call (.Name x p) (e :: es) [] pos) (mCallL F f) := by
  obtain ⟨⟨fd, h1, h2⟩, kp, gl, hl⟩ := hF
  obtain ⟨t, pt, q⟩ := ha
  refine ⟨_, pe_call h1 hr hg gl kp h2 .nil hx pt hdb he hpl, fun G ρ st a σ H Q j at_ l h => q G ρ st a σ H _ j at_ l ?_⟩
  unfold mCallL at h
  cases hf : f ρ st with
  | none => simp only [hf] at h; exact h.elim
  | some r =>
    cases r with
    | error x => simp only [hf] at h; exact h
    | ok pr =>
      obtain ⟨ρ1, st1, ds⟩ := pr
      simp only [hf] at h
      intro G1 vs H1 tr l1 r1
      show spP X.K _ F (vs ++ []) H1 Q E
      rw [List.append_nil]
      cases hF : F ds with
      | none => simp only [hF] at h; exact h.elim
      | some z =>
        refine ⟨G1, ds, tr.j.sub, r1, hl ds (by rw [hF]; simp), ?_⟩
        rw [hF]
        cases z with
        | error x => simp only [hF] at h; exact h.elim
        | ok d =>
          simp only [hF] at h
          exact fun G2 v H2 px rv => h G2 v H2 (tr.trans (l1.tr (tr.j.ex px))) (l1.ex (tr.j.ex px)) rv
/-- a builtin by values -/
def mBuiltL (g : List D → Option D) (f : MoL (List D)) : MoL D := fun ρ st => match f ρ st with
  | none => none
  | some (.error x) => some (.error x)
  | some (.ok (ρ1, st1, ds)) => (match g ds with
    | some d => some (.ok (ρ1, st1, d))
    | none => none)
theorem builtL_sem {t : TA} {f : MoL (List D)} {r : List V → Hp → VK → Prop} {g : List D → Option D} (q : ∀ G ρ st (a : Addr) σ H Q, J X.K G ρ σ H → AtS σ i a → Ld X.K G a st ρ σ H → PostL X.K E (RpAll X.K) a G ρ σ H Q (f ρ st) → t σ H Q)
    (hr : ∀ G H xs ds c Q, Same G H → RpAll X.K G xs ds → g ds = some c → (∀ G' v H', PX G H G' H' → Rp X.K G' v c → Q v H') → r xs H Q) {G : Hp} {ρ : En} {st : Dst} {a : Addr} {σ : St} {H : Hp} {Q : VK} (j : J X.K G ρ σ H) (at_ : AtS σ i a) (l : Ld X.K G a st ρ σ H)
    (h : PostL X.K E (Rp X.K) a G ρ σ H Q (mBuiltL g f ρ st)) : tCB r t σ H Q := by
  refine q G ρ st a σ H _ j at_ l ?_
  unfold mBuiltL at h
  cases hf : f ρ st with
  | none => simp only [hf] at h; exact h.elim
  | some z =>
    cases z with
    | error x => simp only [hf] at h; exact h
    | ok pr =>
      obtain ⟨ρ1, st1, ds⟩ := pr
      simp only [hf] at h
      intro G1 vs H1 tr l1 r1
      cases hg : g ds with
      | none => simp only [hg] at h; exact h.elim
      | some d =>
        simp only [hg] at h
        exact hr G1 H1 vs ds d Q tr.j.sub r1 hg fun G2 v H2 px rv => h G2 v H2 (tr.trans (l1.tr (tr.j.ex px))) (l1.ex (tr.j.ex px)) rv
/-- a or b by a test that may change it -/
def mIfL (c : MoL Bool) (f g : MoL D) : MoL D := fun ρ st => match c ρ st with
  | none => none
  | some (.error x) => some (.error x)
  | some (.ok (ρ1, st1, b)) => (match bif b then f ρ1 st1 else g ρ1 st1 with
    | some (.ok r) => some (.ok r)
    | _ => none)
theorem evL_if {c a b : Expr} {pos : Pos} {fc : MoL Bool} {fa fb : MoL D} (hc : ETL X E i c fc) (ha : EVL X E i a fa) (hb : EVL X E i b fb) : EVL X E i (.IfExp c a b pos) (mIfL fc fa fb) := by
  obtain ⟨t, p, q⟩ := hc
  obtain ⟨ta, pa, qa⟩ := ha
  obtain ⟨tb, pb, qb⟩ := hb
  refine ⟨_, pe_ifExp p pa pb, fun G ρ st ad σ H Q j at_ l h => q G ρ st ad σ H _ j at_ l ?_⟩
  unfold mIfL at h
  cases hf : fc ρ st with
  | none => simp only [hf] at h; exact h.elim
  | some r =>
    cases r with
    | error x => simp only [hf] at h; exact h
    | ok pr =>
      obtain ⟨ρ1, st1, bb⟩ := pr
      simp only [hf] at h
      intro G1 x H1 tr l1 ex
      subst ex
      cases x with
      | true =>
        refine qa G1 ρ1 st1 ad σ H1 Q tr.j at_ l1 ?_
        match hr : fa ρ1 st1, h with
        | none, h => simp only [cond_true, hr] at h; exact h.elim
        | some (.error x), h => simp only [cond_true, hr] at h; exact h.elim
        | some (.ok (ρ2, st2, d)), h =>
          simp only [cond_true, hr] at h
          exact fun G2 v H2 tr2 l2 rv => h G2 v H2 (tr.trans tr2) l2 rv
      | false =>
        refine qb G1 ρ1 st1 ad σ H1 Q tr.j at_ l1 ?_
        match hr : fb ρ1 st1, h with
        | none, h => simp only [cond_false, hr] at h; exact h.elim
        | some (.error x), h => simp only [cond_false, hr] at h; exact h.elim
        | some (.ok (ρ2, st2, d)), h =>
          simp only [cond_false, hr] at h
          exact fun G2 v H2 tr2 l2 rv => h G2 v H2 (tr.trans tr2) l2 rv
/-- a value as a test -/
def mTestL (f : MoL D) : MoL Bool := fun ρ st => match f ρ st with
  | none => none
  | some (.error x) => some (.error x)
  | some (.ok (ρ1, st1, d)) => (match boolD d with
    | some b => some (.ok (ρ1, st1, b))
    | none => none)
def mNotL (f : MoL Bool) : MoL Bool := fun ρ st => match f ρ st with
  | none => none
  | some (.error x) => some (.error x)
  | some (.ok (ρ1, st1, b)) => some (.ok (ρ1, st1, !b))
end
end HB
namespace HB
open PySem L2
section
variable {X : Cx} {E : XK} {i : Nat}
/-- the field itself: none, or some reference -/
def mLiveL : MoL D := fun ρ st => some (.ok (ρ, st, match st with
  | none => .none
  | some _ => gD 0))
theorem evL_live {y : Str} {p1 lpos : Pos} (hc0 : Cls X.K (He.ga X.K "Desk")) (hn0 : NoAttr X.K (He.ga X.K "Desk") "live")
    (hN : X.N[i]? = some y := by rfl) (hv : Vis X.env.scope y := by first | exact Or.inl rfl | exact Or.inr (Or.inl rfl) | exact Or.inr (Or.inr rfl)) (hd : (y == ("__debug__" : Str)) = false := by decide) (hcd : (y == ("__classdict__" : Str)) = false := by decide)
    (hb : attributeBase (.Name y p1) "live" X.env (eval (.Name y p1) X.env) = eval (.Name y p1) X.env := by rfl) : EVL X E i (.Attribute (.Name y p1) "live" lpos) mLiveL := by
  refine ⟨_, pe_fld (pe_var hN hv hd hcd) hb, fun G ρ st a σ H Q j at_ l h => ?_⟩
  unfold mLiveL at h
  cases st with
  | some kvs =>
    exact Ld.live at_ hc0 hn0 l fun y dy fs ne gy ny hy r _ => h G (.ref y) H (l.tr j.refl) l (.gst y 0)
  | none =>
    obtain ⟨dx, h1⟩ := l.2.2
    exact ⟨.ref a, at_, a, _, dx, _, .non, rfl, h1, hc0, hn0, rfl, h G .non H (l.tr j.refl) l .non⟩
/-- a value, then one that does not touch it -/
def mOpL (g : D → D → Option D) (fa : MoL D) (fb : Mo D) : MoL D := fun ρ st => match fa ρ st with
  | none => none
  | some (.error x) => some (.error x)
  | some (.ok (ρ1, st1, x)) => (match liftL fb ρ1 st1 with
    | some (.ok (ρ2, st2, y)) => (match g x y with
      | some d => some (.ok (ρ2, st2, d))
      | none => none)
    | _ => none)
theorem etL_cmp {op : CmpOp} {a b : Expr} {pos : Pos} {fa : MoL D} {fb : Mo D} {f : D → D → Option D} (ho : DOp X (compareOp op) f) (ha : EVL X E i a fa) (hb : EV X E b fb) (hm : behindInMarks op b = false) : ETL X E i (.Compare a [op] [b] pos) (mTestL (mOpL f fa fb)) := by
  obtain ⟨r, o, hr⟩ := ho
  obtain ⟨ta, pa, qa⟩ := ha
  obtain ⟨tb, pb, qb⟩ := hb
  refine ⟨_, pt_cmpR o pa pb hm, fun G ρ st ad σ H Q j at_ l h => qa G ρ st ad σ H _ j at_ l ?_⟩
  unfold mTestL mOpL at h
  cases hf : fa ρ st with
  | none => simp only [hf] at h; exact h.elim
  | some z =>
    cases z with
    | error x => simp only [hf] at h; exact h
    | ok pr =>
      obtain ⟨ρ1, st1, x⟩ := pr
      simp only [hf] at h
      intro G1 vx H1 tr l1 rx
      refine qb G1 ρ1 σ H1 _ tr.j ?_
      unfold liftL at h
      cases hg : fb ρ1 with
      | none => simp only [hg] at h; exact h.elim
      | some z =>
        cases z with
        | error x => simp only [hg] at h; exact h.elim
        | ok pr =>
          obtain ⟨ρ2, y⟩ := pr
          simp only [hg] at h
          intro G2 vy H2 ex ry
          cases hd : f x y with
          | none => simp only [hd] at h; exact h.elim
          | some d =>
            simp only [hd] at h
            refine hr G2 H2 vx vy x y d _ ex.j.sub (rx.mono ex.g) ry hd fun G3 v H3 px rv => ?_
            cases hbd : boolD d with
            | none => simp only [hbd] at h; exact h.elim
            | some c =>
              simp only [hbd] at h
              have ex3 := ex.trans (ex.j.ex px)
              cases rv with
              | bl b =>
                cases hbd
                exact ⟨_, rfl, h G3 _ H3 (tr.trans (l1.tr ex3)) (l1.ex ex3) rfl⟩
              | _ => cases hbd
theorem etL_val {e : Expr} {f : MoL D} (h : EVL X E i e f) (he : ∀ whole, isTrue e X.env whole = (do let v ← whole; standAt e.pos; holding [v] (truthy v)) := by intro _; rfl) : ETL X E i e (mTestL f) := by
  obtain ⟨t, p, q⟩ := h
  refine ⟨_, pt_val p he, fun G ρ st a σ H Q j at_ l h => q G ρ st a σ H _ j at_ l ?_⟩
  unfold mTestL at h
  cases hf : f ρ st with
  | none => simp only [hf] at h; exact h.elim
  | some z =>
    cases z with
    | error x => simp only [hf] at h; exact h
    | ok pr =>
      obtain ⟨ρ1, st1, d⟩ := pr
      simp only [hf] at h
      intro G1 v H1 tr l1 rv
      cases hbd : boolD d with
      | none => simp only [hbd] at h; exact h.elim
      | some c =>
        simp only [hbd] at h
        cases rv with
        | bl b =>
          cases hbd
          exact ⟨_, rfl, h G1 _ H1 tr l1 rfl⟩
        | _ => cases hbd
theorem etL_not {a : Expr} {pos : Pos} {f : MoL Bool} (h : ETL X E i a f) : ETL X E i (.UnaryOp .Not a pos) (mNotL f) := by
  obtain ⟨t, p, q⟩ := h
  refine ⟨_, pt_not p, fun G ρ st a σ H Q j at_ l h => q G ρ st a σ H _ j at_ l ?_⟩
  unfold mNotL at h
  cases hf : f ρ st with
  | none => simp only [hf] at h; exact h.elim
  | some z =>
    cases z with
    | error x => simp only [hf] at h; exact h
    | ok pr =>
      obtain ⟨ρ1, st1, b⟩ := pr
      simp only [hf] at h
      intro G1 x H1 tr l1 ex
      subst ex
      exact h G1 _ H1 tr l1 rfl
def EWL (X : Cx) (E : XK) (i : Nat) (e : Expr) (f : MoL Bool) : Prop := ∃ t, PW X e t ∧ ∀ G ρ st (a : Addr) σ H Q, J X.K G ρ σ H → AtS σ i a → Ld X.K G a st ρ σ H → PostL X.K E (fun _ b c => b = c) a G ρ σ H Q (f ρ st) → t σ H Q
theorem ewL_and1 {a : Expr} {pos : Pos} {f : MoL Bool} (h : ETL X E i a f) : EWL X E i (.BoolOp .And [a] pos) f := let ⟨t, p, q⟩ := h; ⟨t, pw_and1 p, q⟩
theorem ewL_or1 {a : Expr} {pos : Pos} {f : MoL Bool} (h : ETL X E i a f) : EWL X E i (.BoolOp .Or [a] pos) f := let ⟨t, p, q⟩ := h; ⟨t, pw_or1 p, q⟩
theorem EWL.et {e : Expr} {f : MoL Bool} (h : EWL X E i e f) : ETL X E i e f := let ⟨t, p, q⟩ := h; ⟨t, p.pt, q⟩
/-- a and b, a or b; what is raised by the second is not told -/
def mAndL (f g : MoL Bool) : MoL Bool := fun ρ st => match f ρ st with
  | none => none
  | some (.error x) => some (.error x)
  | some (.ok (ρ1, st1, false)) => some (.ok (ρ1, st1, false))
  | some (.ok (ρ1, st1, true)) => (match g ρ1 st1 with
    | some (.ok r) => some (.ok r)
    | _ => none)
def mOrL (f g : MoL Bool) : MoL Bool := fun ρ st => match f ρ st with
  | none => none
  | some (.error x) => some (.error x)
  | some (.ok (ρ1, st1, true)) => some (.ok (ρ1, st1, true))
  | some (.ok (ρ1, st1, false)) => (match g ρ1 st1 with
    | some (.ok r) => some (.ok r)
    | _ => none)
theorem ewL_and {a b : Expr} {rest : List Expr} {pos : Pos} {f g : MoL Bool} (h : ETL X E i a f) (hb : EWL X E i (.BoolOp .And (b :: rest) pos) g) : EWL X E i (.BoolOp .And (a :: b :: rest) pos) (mAndL f g) := by
  obtain ⟨t, p, q⟩ := h
  obtain ⟨t2, p2, q2⟩ := hb
  refine ⟨_, pw_and p p2, fun G ρ st ad σ H Q j at_ l h => q G ρ st ad σ H _ j at_ l ?_⟩
  unfold mAndL at h
  cases hf : f ρ st with
  | none => simp only [hf] at h; exact h.elim
  | some z =>
    cases z with
    | error x => simp only [hf] at h; exact h
    | ok pr =>
      obtain ⟨ρ1, st1, c⟩ := pr
      cases c with
      | false =>
        simp only [hf] at h
        intro G1 x H1 tr l1 ex
        subst ex
        exact h G1 _ H1 tr l1 rfl
      | true =>
        simp only [hf] at h
        intro G1 x H1 tr l1 ex
        subst ex
        refine q2 G1 ρ1 st1 ad σ H1 Q tr.j at_ l1 ?_
        match hr : g ρ1 st1, h with
        | none, h => simp only [hr] at h; exact h.elim
        | some (.error x), h => simp only [hr] at h; exact h.elim
        | some (.ok (ρ2, st2, d)), h =>
          simp only [hr] at h
          exact fun G2 v H2 tr2 l2 rv => h G2 v H2 (tr.trans tr2) l2 rv
theorem ewL_or {a b : Expr} {rest : List Expr} {pos : Pos} {f g : MoL Bool} (h : ETL X E i a f) (hb : EWL X E i (.BoolOp .Or (b :: rest) pos) g) : EWL X E i (.BoolOp .Or (a :: b :: rest) pos) (mOrL f g) := by
  obtain ⟨t, p, q⟩ := h
  obtain ⟨t2, p2, q2⟩ := hb
  refine ⟨_, pw_or p p2, fun G ρ st ad σ H Q j at_ l h => q G ρ st ad σ H _ j at_ l ?_⟩
  unfold mOrL at h
  cases hf : f ρ st with
  | none => simp only [hf] at h; exact h.elim
  | some z =>
    cases z with
    | error x => simp only [hf] at h; exact h
    | ok pr =>
      obtain ⟨ρ1, st1, c⟩ := pr
      cases c with
      | true =>
        simp only [hf] at h
        intro G1 x H1 tr l1 ex
        subst ex
        exact h G1 _ H1 tr l1 rfl
      | false =>
        simp only [hf] at h
        intro G1 x H1 tr l1 ex
        subst ex
        refine q2 G1 ρ1 st1 ad σ H1 Q tr.j at_ l1 ?_
        match hr : g ρ1 st1, h with
        | none, h => simp only [hr] at h; exact h.elim
        | some (.error x), h => simp only [hr] at h; exact h.elim
        | some (.ok (ρ2, st2, d)), h =>
          simp only [hr] at h
          exact fun G2 v H2 tr2 l2 rv => h G2 v H2 (tr.trans tr2) l2 rv
end
abbrev MoF := En → Dst → Option (Except Exn (En × Dst × Fl))
def PostSL (K : PySem.W.Frag) (E : XK) (i : Nat) (a : Addr) (G : Hp) (ρ : En) (σ : St) (H : Hp) (De : Ends) : Option (Except Exn (En × Dst × Fl)) → Prop
  | none => False
  | some (.error x) => ∀ C dx H', XP K G ρ σ H x C dx H' → E C dx H'
  | some (.ok (ρ', st', .nx)) => ∀ G' σ' H', TrL K a G ρ σ H G' ρ' σ' H' → Ld K G' a st' ρ' σ' H' → AtS σ' i a → De.nx σ' H'
  | some (.ok (ρ', st', .bk)) => ∀ G' σ' H', TrL K a G ρ σ H G' ρ' σ' H' → Ld K G' a st' ρ' σ' H' → AtS σ' i a → De.bk σ' H'
  | some (.ok (ρ', st', .ct)) => ∀ G' σ' H', TrL K a G ρ σ H G' ρ' σ' H' → Ld K G' a st' ρ' σ' H' → AtS σ' i a → De.ct σ' H'
  | some (.ok (ρ', st', .rt d)) => ∀ G' σ' v H', TrL K a G ρ σ H G' ρ' σ' H' → Ld K G' a st' ρ' σ' H' → Rp K G' v d → De.rt v H'
def SVsL (X : Cx) (E : XK) (i : Nat) (s : List Stmt) (g : MoF) : Prop := ∃ t, PSs X s t ∧ ∀ G ρ st (a : Addr) σ H De, J X.K G ρ σ H → AtS σ i a → Ld X.K G a st ρ σ H → PostSL X.K E i a G ρ σ H De (g ρ st) → t De σ H
section
variable {X : Cx} {E : XK} {i : Nat}
/-- a suite that does not touch it, and that returns or raises -/
def liftS (f : Mo Fl) : MoF := fun ρ st => match f ρ with
  | none => none
  | some (.error x) => some (.error x)
  | some (.ok (ρ', .rt d)) => some (.ok (ρ', st, .rt d))
  | some (.ok (_, _)) => none
theorem ssL_of {s : List Stmt} {f : Mo Fl} (h : SVs X E s f) : SVsL X E i s (liftS f) := by
  obtain ⟨t, p, q⟩ := h
  refine ⟨t, p, fun G ρ st a σ H De j at_ l h => q G ρ σ H De j ?_⟩
  unfold liftS at h
  match hf : f ρ, h with
  | none, h => simp only [hf] at h; exact h
  | some (.error x), h => simp only [hf] at h; exact h
  | some (.ok (ρ', .rt d)), h => simp only [hf] at h; exact fun G' σ' v H' ex r => h G' σ' v H' (l.tr ex) (l.ex ex) r
  | some (.ok (ρ', .nx)), h => simp only [hf] at h; exact h.elim
  | some (.ok (ρ', .bk)), h => simp only [hf] at h; exact h.elim
  | some (.ok (ρ', .ct)), h => simp only [hf] at h; exact h.elim
/-- return e -/
def rRetL (f : MoL D) : MoF := fun ρ st => match f ρ st with
  | none => none
  | some (.error x) => some (.error x)
  | some (.ok (ρ1, st1, d)) => some (.ok (ρ1, st1, .rt d))
theorem ssL_ret {e : Expr} {f : MoL D} {pos : Pos} (h : EVL X E i e f) : SVsL X E i [.Return (some e) pos] (rRetL f) := by
  obtain ⟨t, p, q⟩ := h
  refine ⟨_, pss_one (ps_ret p), fun G ρ st a σ H De j at_ l h => q G ρ st a σ H _ j at_ l ?_⟩
  unfold rRetL at h
  cases hf : f ρ st with
  | none => simp only [hf] at h; exact h.elim
  | some z =>
    cases z with
    | error x => simp only [hf] at h; exact h
    | ok pr =>
      obtain ⟨ρ1, st1, d⟩ := pr
      simp only [hf] at h
      exact fun G1 v H1 tr l1 rv => h G1 σ v H1 tr l1 rv
end
end HB
namespace HB
open PySem L2
section
variable {X : Cx} {E : XK} {i : Nat}
theorem PostSL.ex {a : Addr} {st : Dst} {G H G1 H1 : Hp} {ρ ρ1 : En} {σ σ1 : St} {De : Ends} {o : Option (Except Exn (En × Dst × Fl))} (l : Ld X.K G a st ρ σ H) (e : Ex X.K G ρ σ H G1 ρ1 σ1 H1) (h : PostSL X.K E i a G ρ σ H De o) : PostSL X.K E i a G1 ρ1 σ1 H1 De o := by
  match o, h with
  | some (.error x), h => exact fun C dx H' z => h C dx H' (XP.trans e z)
  | some (.ok (ρ', st', .nx)), h => exact fun G' σ' H' tr => h G' σ' H' ((l.tr e).trans tr)
  | some (.ok (ρ', st', .bk)), h => exact fun G' σ' H' tr => h G' σ' H' ((l.tr e).trans tr)
  | some (.ok (ρ', st', .ct)), h => exact fun G' σ' H' tr => h G' σ' H' ((l.tr e).trans tr)
  | some (.ok (ρ', st', .rt d)), h => exact fun G' σ' v H' tr => h G' σ' v H' ((l.tr e).trans tr)
/-- .. where no error is told -/
theorem PostSL.tr {a : Addr} {G H G1 H1 : Hp} {ρ ρ1 : En} {σ σ1 : St} {De : Ends} {o : Option (Except Exn (En × Dst × Fl))} (p : TrL X.K a G ρ σ H G1 ρ1 σ1 H1) (ne : ∀ x, o ≠ some (.error x)) (h : PostSL X.K E i a G ρ σ H De o) : PostSL X.K E i a G1 ρ1 σ1 H1 De o := by
  match o, h, ne with
  | some (.error x), h, ne => exact absurd rfl (ne x)
  | some (.ok (ρ', st', .nx)), h, _ => exact fun G' σ' H' tr => h G' σ' H' (p.trans tr)
  | some (.ok (ρ', st', .bk)), h, _ => exact fun G' σ' H' tr => h G' σ' H' (p.trans tr)
  | some (.ok (ρ', st', .ct)), h, _ => exact fun G' σ' H' tr => h G' σ' H' (p.trans tr)
  | some (.ok (ρ', st', .rt d)), h, _ => exact fun G' σ' v H' tr => h G' σ' v H' (p.trans tr)
/-- a statement that sets other slots -/
def PostSi (K : PySem.W.Frag) (E : XK) (i : Nat) (G : Hp) (ρ : En) (σ : St) (H : Hp) (De : Ends) : Option (Except Exn (En × Fl)) → Prop
  | some (.error x) => ∀ C dx H', XP K G ρ σ H x C dx H' → E C dx H'
  | some (.ok (ρ', .nx)) => ∀ G' σ' H', Ex K G ρ σ H G' ρ' σ' H' → σ'[i]? = σ[i]? → De.nx σ' H'
  | _ => False
def SVi (X : Cx) (E : XK) (i : Nat) (s : Stmt) (f : Mo Fl) : Prop := ∃ t, PS X s t ∧ ∀ G ρ σ H De, J X.K G ρ σ H → PostSi X.K E i G ρ σ H De (f ρ) → t De σ H
theorem si_set {l : Nat} {x : Str} {e : Expr} {f : Mo D} {pos pos' : Pos} (h : EV X E e f) (hN : X.N.Nodup) (hne : Nat.beq l i = false := by rfl) (hi : X.N[l]? = some x := by rfl) (hx : Loc X.env.scope x := by first | exact Or.inl rfl | exact Or.inr rfl)
    (hs : swapsWith e (some (.Name x pos')) pos.line X.env = pure false := by rfl) (hf : X.fn x = true ∨ X.env.scope.names.lookup x = some .local := by first | exact .inl rfl | exact .inr rfl | assumption) : SVi X E i (.Assign [.Name x pos'] e pos) (sSet l f) := by
  obtain ⟨t, p, q⟩ := h
  refine ⟨_, ps_set hN hi hx p hs hf, fun G ρ σ H De j h => q G ρ σ H _ j ?_⟩
  unfold sSet mBind at h
  match hh : f ρ, h with
  | none, h => simp only [hh] at h; exact h
  | some (.error x), h => simp only [hh] at h; exact h
  | some (.ok (ρ1, d)), h =>
    simp only [hh] at h
    exact fun G1 v H1 e1 r1 => h G1 _ H1 (e1.trans (Ex.set e1.j l r1)) (List.getElem?_set_ne (Nat.ne_of_beq_eq_false hne))
theorem si_asg {tg e : Expr} {f : Mo D} {g : D → En → Option En} {ws : List Nat} {pos : Pos} (h : EV X E e f) (hg : GV X tg g ws) (hne : i ∉ ws := by decide) (hs : swapsWithSole [tg] e pos.line X.env = pure false := by rfl) (hw : swappedStores [tg] e X.env = pure none := by rfl)
    (ha : (assignEach [tg] X.env).map (·.2) = [assign tg X.env] := by rfl) : SVi X E i (.Assign [tg] e pos) (sAsg g f) := by
  obtain ⟨t, p, q⟩ := h
  obtain ⟨u, pg, qg⟩ := hg
  refine ⟨_, ps_asg p pg hs hw ha, fun G ρ σ H De j h => q G ρ σ H _ j ?_⟩
  unfold sAsg mBind at h
  match hh : f ρ, h with
  | none, h => simp only [hh] at h; exact h
  | some (.error x), h => simp only [hh] at h; exact h
  | some (.ok (ρ1, d)), h =>
    simp only [hh] at h
    intro G1 v H1 e1 r1
    match e : g d ρ1, h with
    | none, h => simp only [e] at h; exact h.elim
    | some ρ', h => simp only [e] at h; exact qg G1 ρ1 σ H1 _ d v ρ' e1.j r1 e fun σ' x s => h G1 σ' H1 (e1.trans x) (s.2 i hne)
/-- such a statement, then others -/
def sSeqP (f : Mo Fl) (g : MoF) : MoF := fun ρ st => match f ρ with
  | none => none
  | some (.error x) => some (.error x)
  | some (.ok (ρ1, .nx)) => g ρ1 st
  | _ => none
theorem ssL_cons {s : Stmt} {rest : List Stmt} {f : Mo Fl} {g : MoF} (h : SVi X E i s f) (r : SVsL X E i rest g) : SVsL X E i (s :: rest) (sSeqP f g) := by
  obtain ⟨t, p, q⟩ := h
  obtain ⟨u, p2, q2⟩ := r
  refine ⟨_, pss_cons p p2, fun G ρ st a σ H De j at_ l h => q G ρ σ H _ j ?_⟩
  unfold sSeqP at h
  match hf : f ρ, h with
  | none, h => simp only [hf] at h; exact h
  | some (.error x), h => simp only [hf] at h; exact h
  | some (.ok (ρ1, .nx)), h => simp only [hf] at h; exact fun G1 σ1 H1 ex e => q2 G1 ρ1 st a σ1 H1 De ex.j (e.trans at_) (l.ex ex) (PostSL.ex l ex h)
  | some (.ok (ρ1, .bk)), h => simp only [hf] at h; exact h.elim
  | some (.ok (ρ1, .ct)), h => simp only [hf] at h; exact h.elim
  | some (.ok (ρ1, .rt d)), h => simp only [hf] at h; exact h.elim
/-- if c: what returns or raises; then others -/
def noNx (f : MoF) : MoF := fun ρ st => match f ρ st with
  | some (.ok (_, _, .nx)) => none
  | o => o
theorem noNx_post {a : Addr} {st : Dst} {G H : Hp} {ρ : En} {σ : St} {De : Ends} {f : MoF} {N : St → Hp → Prop} (h : PostSL X.K E i a G ρ σ H De (noNx f ρ st)) : PostSL X.K E i a G ρ σ H { De with nx := N } (f ρ st) := by
  unfold noNx at h
  match hf : f ρ st, h with
  | none, h => simp only [hf] at h; exact h.elim
  | some (.error x), h => simp only [hf] at h; exact h
  | some (.ok (ρ', st', .nx)), h => simp only [hf] at h; exact h.elim
  | some (.ok (ρ', st', .bk)), h => simp only [hf] at h; exact h
  | some (.ok (ρ', st', .ct)), h => simp only [hf] at h; exact h
  | some (.ok (ρ', st', .rt d)), h => simp only [hf] at h; exact h
def sIfP (c : Mo Bool) (f g : MoF) : MoF := fun ρ st => match c ρ with
  | none => none
  | some (.error x) => some (.error x)
  | some (.ok (ρ1, true)) => noNx f ρ1 st
  | some (.ok (ρ1, false)) => g ρ1 st
theorem ssL_ifP {c : Expr} {A rest : List Stmt} {pos : Pos} {fc : Mo Bool} {f g : MoF} (hc : ET X E c fc) (hA : SVsL X E i A f) (r : SVsL X E i rest g) : SVsL X E i (.If c A [] pos :: rest) (sIfP fc f g) := by
  obtain ⟨t, p, q⟩ := hc
  obtain ⟨tA, pA, qA⟩ := hA
  obtain ⟨u, p2, q2⟩ := r
  refine ⟨_, pss_cons (ps_if p pA pss_nil) p2, fun G ρ st a σ H De j at_ l h => q G ρ σ H _ j ?_⟩
  unfold sIfP at h
  match hf : fc ρ, h with
  | none, h => simp only [hf] at h; exact h
  | some (.error x), h => simp only [hf] at h; exact h
  | some (.ok (ρ1, true)), h =>
    simp only [hf] at h
    intro G1 x H1 ex eb
    subst eb
    exact qA G1 ρ1 st a σ H1 _ ex.j at_ (l.ex ex) (noNx_post (PostSL.ex l ex h))
  | some (.ok (ρ1, false)), h =>
    simp only [hf] at h
    intro G1 x H1 ex eb
    subst eb
    exact q2 G1 ρ1 st a σ H1 De ex.j at_ (l.ex ex) (PostSL.ex l ex h)
/-- if self.live is None: .. -/
def sIfN (f g : MoF) : MoF := fun ρ st => match st with
  | none => noNx f ρ none
  | some kvs => g ρ (some kvs)
theorem ssL_ifN {y : Str} {A rest : List Stmt} {p1 lpos npos cpos pos : Pos} {ck : Nat} {f g : MoF} (hc0 : Cls X.K (He.ga X.K "Desk")) (hn0 : NoAttr X.K (He.ga X.K "Desk") "live") (hA : SVsL X E i A f) (r : SVsL X E i rest g)
    (hN : X.N[i]? = some y := by rfl) (hv : Vis X.env.scope y := by first | exact Or.inl rfl | exact Or.inr (Or.inl rfl) | exact Or.inr (Or.inr rfl)) (hd : (y == ("__debug__" : Str)) = false := by decide) (hcd : (y == ("__classdict__" : Str)) = false := by decide)
    (hb : attributeBase (.Name y p1) "live" X.env (eval (.Name y p1) X.env) = eval (.Name y p1) X.env := by rfl) (hm : behindInMarks .Is (.Constant .none ck npos) = false := by rfl) : SVsL X E i (.If (.Compare (.Attribute (.Name y p1) "live" lpos) [.Is] [.Constant .none ck npos] cpos) A [] pos :: rest) (sIfN f g) := by
  obtain ⟨rr, o, hr⟩ := dop_is (X := X)
  obtain ⟨tn, pn, qn⟩ := ev_non (X := X) (E := E) (pos := npos)
  obtain ⟨tA, pA, qA⟩ := hA
  obtain ⟨u, p2, q2⟩ := r
  refine ⟨_, pss_cons (ps_if (pt_cmpR o (pe_fld (pe_var hN hv hd hcd) hb) pn hm) pA pss_nil) p2, fun G ρ st a σ H De j at_ l h => ?_⟩
  unfold sIfN at h
  cases st with
  | none =>
    obtain ⟨dx, h1⟩ := l.2.2
    refine ⟨.ref a, at_, a, _, dx, _, .non, rfl, h1, hc0, hn0, rfl, qn G ρ σ H _ j fun G1 v1 H1 ex rn => ?_⟩
    refine hr G1 H1 _ _ .none .none (.bool true) _ ex.j.sub .non rn rfl fun G2 v2 H2 px rv => ?_
    have ex2 := ex.trans (ex.j.ex px)
    cases rv
    exact ⟨true, rfl, qA G2 ρ none a σ H2 _ ex2.j at_ (l.ex ex2) (noNx_post (PostSL.ex l ex2 h))⟩
  | some kvs =>
    obtain ⟨dx, y, dy, fs, ne, h1, gy, ny, h2, r⟩ := l.2.2
    refine ⟨.ref a, at_, a, _, dx, _, .ref y, rfl, h1, hc0, hn0, rfl, qn G ρ σ H _ j fun G1 v1 H1 ex rn => ?_⟩
    refine hr G1 H1 _ _ (gD 0) .none (.bool false) _ ex.j.sub (.gst y 0) rn rfl fun G2 v2 H2 px rv => ?_
    have ex2 := ex.trans (ex.j.ex px)
    cases rv
    exact ⟨false, rfl, q2 G2 ρ (some kvs) a σ H2 De ex2.j at_ (l.ex ex2) (PostSL.ex l ex2 h)⟩
/-- a test that may change it: what is raised later is not told -/
def noErr (o : Option (Except Exn (En × Dst × Fl))) : Option (Except Exn (En × Dst × Fl)) := match o with
  | some (.error _) => none
  | o => o
theorem noErr_post {a : Addr} {G H : Hp} {ρ : En} {σ : St} {De : Ends} {o : Option (Except Exn (En × Dst × Fl))} (h : PostSL X.K E i a G ρ σ H De (noErr o)) : PostSL X.K E i a G ρ σ H De o ∧ ∀ x, o ≠ some (.error x) := by
  unfold noErr at h
  match o, h with
  | none, h => exact h.elim
  | some (.error x), h => exact h.elim
  | some (.ok z), h => exact ⟨h, fun x w => by cases w⟩
def sIfC (c : MoL Bool) (f g : MoF) : MoF := fun ρ st => match c ρ st with
  | none => none
  | some (.error x) => some (.error x)
  | some (.ok (ρ1, st1, true)) => noErr (noNx f ρ1 st1)
  | some (.ok (ρ1, st1, false)) => noErr (g ρ1 st1)
theorem ssL_ifC {c : Expr} {A rest : List Stmt} {pos : Pos} {fc : MoL Bool} {f g : MoF} (hc : ETL X E i c fc) (hA : SVsL X E i A f) (r : SVsL X E i rest g) : SVsL X E i (.If c A [] pos :: rest) (sIfC fc f g) := by
  obtain ⟨t, p, q⟩ := hc
  obtain ⟨tA, pA, qA⟩ := hA
  obtain ⟨u, p2, q2⟩ := r
  refine ⟨_, pss_cons (ps_if p pA pss_nil) p2, fun G ρ st a σ H De j at_ l h => q G ρ st a σ H _ j at_ l ?_⟩
  unfold sIfC at h
  cases hf : fc ρ st with
  | none => simp only [hf] at h; exact h.elim
  | some z =>
    cases z with
    | error x => simp only [hf] at h; exact h
    | ok pr =>
      obtain ⟨ρ1, st1, b⟩ := pr
      cases b with
      | true =>
        simp only [hf] at h
        intro G1 x H1 tr l1 eb
        subst eb
        obtain ⟨h', ne⟩ := noErr_post h
        exact qA G1 ρ1 st1 a σ H1 _ tr.j at_ l1 (noNx_post (PostSL.tr tr ne h'))
      | false =>
        simp only [hf] at h
        intro G1 x H1 tr l1 eb
        subst eb
        obtain ⟨h', ne⟩ := noErr_post h
        exact q2 G1 ρ1 st1 a σ H1 De tr.j at_ l1 (PostSL.tr tr ne h')
end
end HB
namespace HB
open PySem L2
abbrev FnD := Dst → List D → Option (Except Exn (Dst × D))
def PostDk (K : PySem.W.Frag) (E : XK) (a : Addr) (G H : Hp) (Q : VK) : Option (Except Exn (Dst × D)) → Prop
  | none => False
  | some (.error x) => ∀ C dx H', XP K G [] [] H x C dx H' → E C dx H'
  | some (.ok (st', d)) => ∀ G' v H', TrL K a G [] [] H G' [] [] H' → Ld K G' a st' [] [] H' → Rp K G' v d → Q v H'
def spDk (K : PySem.W.Frag) (n : Nat) (F : FnD) : Sp := fun vs H Q E => ∃ (a : Addr) (us : List V) (ds : List D) (st : Dst) (G : Hp), vs = .ref a :: us ∧ Sub K G H ∧ Ld K G a st [] [] H ∧ RpAll K G us ds ∧ ds.length = n ∧ PostDk K E a G H Q (F st ds)
/-- a method of its own -/
structure DkE (P : Program) (w : World) (K : PySem.W.Frag) (mg : Str → Option Value) (base : Heap) (k : Nat) (m : Str) (n : Nat) (F : FnD) : Prop where
  cl : Cls K (He.ga K "Desk")
  me : Meth K (He.ga K "Desk") m (He.ma K (He.ga K "Desk") m)
  ex : ∃ fd ps, FnOk P w K mg base (L2.CX P w) k (He.ma K (He.ga K "Desk") m) fd ps (spDk K n F) ∧ Binds K fd ps []
  ln : ∀ st ds, F st ds ≠ none → ds.length = n
section
variable {K : PySem.W.Frag} {G G' H H' : Hp} {ρ : En} {σ : St} {a : Addr} {st st' : Dst}
theorem no_own (b : Addr) : ¬ Ownd [] [] b := fun ⟨i, s, ds, h, _, _⟩ => by cases h
theorem J.nil (s : Sub K G H) : J K G [] [] H := ⟨s, rfl, fun i d h => (nomatch h), fun i s ds h => (nomatch h), fun i j s t ds es b h => (nomatch h), fun i g o o' z xs h => (nomatch h)⟩
theorem J.butP {P : Addr → Prop} (j : J K G ρ σ H) (na : ∀ b, P b → ¬ Ownd ρ σ b) (g : Same G G') (new : ∀ b, G' b ≠ none → G b ≠ none ∨ H b = none) (sb : Sub K G' H') (kept : ∀ b o, ¬ P b → H b = some o → [NoT o] → H' b = some o) : J K G' ρ σ H' := by
  refine ⟨sb, j.len, fun i d e => let ⟨v, h1, h2⟩ := j.pur i d e; ⟨v, h1, h2.mono g⟩, fun i s ds e hl => ?_, j.alone, fun i k o o' z xs e1 e2 => ?_⟩
  · obtain ⟨b, ob, h1, h2, h3, h4⟩ := j.hold i s ds e hl
    have nb : ¬ P b := fun z => na b z ⟨i, s, ds, e, hl, h1⟩
    haveI := h4.noT
    refine ⟨b, ob, h1, kept b ob nb h2, ?_, h4.mono g⟩
    match q : G' b with
    | none => rfl
    | some o =>
      rcases new b (by rw [q]; simp) with z | z
      · exact absurd h3 z
      · rw [h2] at z; cases z
  · obtain ⟨b, v, u, h1, h2, h3⟩ := j.lk i k o o' z xs e1 e2
    have nb : ¬ P b := fun z => na b z ⟨i, _, _, e1, rfl, h1⟩
    exact ⟨b, v, u, h1, kept b _ nb h2, h3⟩
theorem Ld.inn_no (l : Ld K G a st ρ σ H) {b : Addr} (h : Inn K H a b) : ¬ Ownd ρ σ b := by
  obtain ⟨d2, h⟩ := h
  obtain ⟨_, _, z⟩ := l
  match st, z with
  | none, ⟨dx, z⟩ => rw [z] at h; cases h
  | some kvs, ⟨dx, y, dy, fs, _, z, _, ny, _⟩ =>
    rw [z] at h
    cases h
    exact ny
/-- for a call -/
theorem Ld.call (l : Ld K G a st ρ σ H) : Ld K G a st [] [] H := by
  obtain ⟨g0, _, z⟩ := l
  refine ⟨g0, no_own a, ?_⟩
  match st, z with
  | none, z => exact z
  | some kvs, ⟨dx, y, dy, fs, ne, z1, z2, _, z3⟩ => exact ⟨dx, y, dy, fs, ne, z1, z2, no_own y, z3⟩
theorem Ld.back (j : J K G ρ σ H) (l : Ld K G a st ρ σ H) (t : TrL K a G [] [] H G' [] [] H') (l' : Ld K G' a st' [] [] H') : TrL K a G ρ σ H G' ρ σ H' ∧ Ld K G' a st' ρ σ H' := by
  have new : ∀ b, G' b ≠ none → G b ≠ none ∨ H b = none := fun b hb => by
    rcases t.new b hb with z | z | z
    · exact .inl z
    · exact .inr z
    · exact absurd z (no_own b)
  refine ⟨⟨j.butP (P := fun b => b = a ∨ Inn K H a b) (fun b z => ?_) t.g new t.j.sub (fun b o nb h => ?_), t.g, fun b hb => (new b hb).elim .inl fun z => .inr (.inl z), fun b o h _ na ni => t.kept b o h (no_own b) na ni, fun b h => .inl h, t.dom, fun i ds h => ⟨⟨ds, h⟩, rfl⟩, fun i s h q => ⟨⟨s, h, q⟩, rfl⟩, t.tt, t.inn⟩, ?_⟩
  · rcases z with z | z
    · rw [z]; exact l.2.1
    · exact l.inn_no z
  · exact t.kept b o h (no_own b) (fun z => nb (.inl z)) fun z => nb (.inr z)
  · obtain ⟨g0, _, z⟩ := l'
    refine ⟨g0, l.2.1, ?_⟩
    match st', z with
    | none, z => exact z
    | some kvs, ⟨dx, y, dy, fs, ne, z1, z2, _, z3⟩ =>
      refine ⟨dx, y, dy, fs, ne, z1, z2, ?_, z3⟩
      rcases t.inn y ⟨dx, z1⟩ with w | w
      · exact l.inn_no w
      · exact j.nown w
/-- for a def's body: nothing is owned at its head -/
theorem TrL.out {ρ' : En} {σ' : St} (no : ∀ b, ¬ Ownd ρ σ b) (t : TrL K a G ρ σ H G' ρ' σ' H') : TrL K a G [] [] H G' [] [] H' :=
  ⟨J.nil t.j.sub, t.g, fun b hb => by
    rcases t.new b hb with z | z | z
    · exact .inl z
    · exact .inr (.inl z)
    · exact absurd z (no b), fun b o h _ na ni => t.kept b o h (no b) na ni, fun b h => absurd h (no_own b), t.dom, fun i ds h => (nomatch h), fun i s h => (nomatch h), t.tt, t.inn⟩
theorem Ld.at (no : ∀ b, ¬ Ownd ρ σ b) (l : Ld K G a st [] [] H) : Ld K G a st ρ σ H := by
  obtain ⟨g0, _, z⟩ := l
  refine ⟨g0, no a, ?_⟩
  match st, z with
  | none, z => exact z
  | some kvs, ⟨dx, y, dy, fs, ne, z1, z2, _, z3⟩ => exact ⟨dx, y, dy, fs, ne, z1, z2, no y, z3⟩
end
def endD (F : FnD) (f : Mo (List D)) : MoL D := fun ρ st => match f ρ with
  | none => none
  | some (.error x) => some (.error x)
  | some (.ok (ρ1, as)) => match F st as with
    | none => none
    | some (.error x) => some (.error x)
    | some (.ok (st', d)) => some (.ok (ρ1, st', d))
section
variable {X : Cx} {E : XK} {i : Nat}
theorem endD_sem {n : Nat} {F : FnD} {G H : Hp} {ρ : En} {σ : St} {Q : VK} {a : Addr} {us : List V} {as : List D} {st : Dst} (hl : ∀ st ds, F st ds ≠ none → ds.length = n) (j : J X.K G ρ σ H) (l : Ld X.K G a st ρ σ H) (r : RpAll X.K G us as)
    (h : PostL X.K E (Rp X.K) a G ρ σ H Q (match F st as with
      | none => none
      | some (.error x) => some (.error x)
      | some (.ok (st', d)) => some (.ok (ρ, st', d)))) : spDk X.K n F (.ref a :: us) H Q E := by
  match hF : F st as, h with
  | none, h => simp only [hF] at h; exact h.elim
  | some (.error x), h =>
    simp only [hF] at h
    refine ⟨a, us, as, st, G, rfl, j.sub, l.call, r, hl st as (by rw [hF]; simp), ?_⟩
    rw [hF]
    exact fun C dx H' z => h C dx H' z.of0
  | some (.ok (st', d)), h =>
    simp only [hF] at h
    refine ⟨a, us, as, st, G, rfl, j.sub, l.call, r, hl st as (by rw [hF]; simp), ?_⟩
    rw [hF]
    intro G' v H' t l' rv
    obtain ⟨t2, l2⟩ := Ld.back j l t l'
    exact h G' v H' t2 l2 rv
theorem Ld.look {a : Addr} {st : Dst} {G H : Hp} {ρ : En} {σ : St} {m : Str} (l : Ld X.K G a st ρ σ H) (hm : (m == ("live" : Str)) = false) : ∃ dx fs, H a = some (.ins (He.ga X.K "Desk") dx fs) ∧ fs.lookup m = none := by
  obtain ⟨dx, v, h⟩ := l.has
  refine ⟨dx, _, h, ?_⟩
  show (match m == ("live" : Str) with
    | true => some v
    | false => none) = none
  rw [hm]
theorem evL_own {k n : Nat} {m y : Str} {F : FnD} {e : Expr} {es : List Expr} {f : Mo (List D)} {p1 apos pos : Pos} {pl : Sem Bool} (hM : DkE X.prog X.w X.K X.mg X.base k m n F) (hr : Room k X.A) (hx : Passes (L2.CX X.prog X.w) X E) (ha : EA X E (e :: es) f) (hm : (m == ("live" : Str)) = false := by decide)
    (hN : X.N[i]? = some y := by rfl) (hv : Vis X.env.scope y := by first | exact Or.inl rfl | exact Or.inr (Or.inl rfl) | exact Or.inr (Or.inr rfl)) (hd : (y == ("__debug__" : Str)) = false := by decide) (hcd : (y == ("__classdict__" : Str)) = false := by decide)
    (ht : eval (.Call (.Attribute (.Name y p1) m apos) (e :: es) [] pos) X.env = byMeth X (.Name y p1) m apos pos pl (e :: es) := by rfl) (hst : starEach (e :: es) X.env = (false, eval e X.env) :: starEach es X.env := by rfl) (hpl : (backTo pos (starEach es X.env)).any (·.1) = false := by rfl) : EVL X E i (.Call (.Attribute (.Name y p1) m apos) (e :: es) [] pos) (endD F f) := by
  obtain ⟨hc, me, ⟨fd, ps, h1, h2⟩, hl⟩ := hM
  obtain ⟨t, pt, q⟩ := ha
  refine ⟨_, pe_meth (pe_var hN hv hd hcd) hc me h1 hr h2 .nil hx pt hst hpl ht, fun G ρ st a σ H Q j at_ l h => ?_⟩
  obtain ⟨dx, fs, z2, z3⟩ := l.look hm
  refine ⟨.ref a, at_, a, dx, fs, rfl, z2, z3, q G ρ σ H _ j ?_⟩
  unfold endD at h
  match hf : f ρ, h with
  | none, h => simp only [hf] at h; exact h
  | some (.error x), h => simp only [hf] at h; exact h
  | some (.ok (ρ1, as)), h =>
    simp only [hf] at h
    intro G1 us H1 e1 r1
    rw [List.append_nil]
    refine endD_sem hl e1.j (l.ex e1) r1 ?_
    match hF : F st as, h with
    | none, h => simp only [hF] at h; exact h.elim
    | some (.error x), h => simp only [hF] at h; exact fun C dx H' z => h C dx H' (XP.trans e1 z)
    | some (.ok (st', d)), h => simp only [hF] at h; exact fun G' v H' t l2 rv => h G' v H' ((l.tr e1).trans t) l2 rv
end
def runD (n : Nat) (g : MoF) : FnD := fun st as => match g (.pur (gD 0) :: argsE n as) st with
  | none => none
  | some (.error x) => some (.error x)
  | some (.ok (_, st', .rt d)) => some (.ok (st', d))
  | some (.ok (_, st', .nx)) => some (.ok (st', .none))
  | some (.ok _) => none
def guardD (n : Nat) (F : FnD) : FnD := fun st as => match Nat.beq as.length n with
  | true => F st as
  | false => none
theorem guardD_len {n : Nat} {F : FnD} {st : Dst} {ds : List D} (h : guardD n F st ds ≠ none) : ds.length = n := by
  unfold guardD at h
  match q : Nat.beq ds.length n with
  | true => exact Nat.eq_of_beq_eq_true q
  | false => rw [q] at h; exact absurd rfl h
theorem XP.nil {K : PySem.W.Frag} {G H : Hp} {ρ : En} {σ : St} {x : Exn} {C : Value} {dx : Option Addr} {H' : Hp} (h : XP K G ρ σ H x C dx H') (no : ∀ b, ¬ Ownd ρ σ b) : XP K G [] [] H x C dx H' := by
  obtain ⟨h1, G2, s1, s2, new, kept, dom, fl⟩ := h
  exact ⟨h1, G2, s1, s2, fun b hb => (new b hb).elim .inl fun z => z.elim (fun y => .inr (.inl y)) fun y => absurd y (no b), fun b o e _ => kept b o e (no b), dom, fl⟩
theorem bodyD {K : PySem.W.Frag} {E : XK} {N : List Str} {x : Str} {g : MoF} {t : TS} {n : Nat} (q : ∀ G ρ st (a : Addr) σ H De, J K G ρ σ H → AtS σ 0 a → Ld K G a st ρ σ H → PostSL K E 0 a G ρ σ H De (g ρ st) → t De σ H) {vs : List V} {H : Hp} {Q : VK} (h : spDk K n (guardD n (runD N.length g)) vs H Q E) :
    t { nx := fun _ H' => Q .non H', rt := Q } (start (x :: N) vs) H := by
  obtain ⟨a, us, as, st, G, rfl, s, l, r, hl, k⟩ := h
  have e0 : guardD n (runD N.length g) st as = runD N.length g st as := by
    unfold guardD
    have e : Nat.beq as.length n = true := by rw [hl]; exact Nat.beq_refl _
    rw [e]
  rw [e0] at k
  have r0 : Rp K G (.ref a) (gD 0) := .gst a 0
  have j1 := start_j (N := x :: N) s (.cons r0 r)
  have no1 : ∀ b, ¬ Ownd ((gD 0 :: as).map Sl.pur ++ List.replicate ((x :: N).length - (gD 0 :: as).length) Sl.no) (start (x :: N) (.ref a :: us)) b := fun b => start_no
  have e1 : (gD 0 :: as).map Sl.pur ++ List.replicate ((x :: N).length - (gD 0 :: as).length) Sl.no = .pur (gD 0) :: argsE N.length as := by
    simp only [List.map_cons, List.length_cons, Nat.add_sub_add_right, List.cons_append]
  rw [e1] at j1 no1
  have at0 : AtS (start (x :: N) (.ref a :: us)) 0 a := by rw [start_cons]; rfl
  have l1 := l.at no1
  refine q G _ st a _ H _ j1 at0 l1 ?_
  unfold runD at k
  match hg : g (.pur (gD 0) :: argsE N.length as) st, k with
  | none, k => simp only [hg] at k; exact k.elim
  | some (.error y), k =>
    simp only [hg] at k
    exact fun C dx H' z => k C dx H' (XP.nil z no1)
  | some (.ok (ρ', st', .rt d)), k =>
    simp only [hg] at k
    exact fun G' σ' v H' tr l' rv => k G' v H' (tr.out no1) l'.call rv
  | some (.ok (ρ', st', .nx)), k =>
    simp only [hg] at k
    exact fun G' σ' H' tr l' _ => k G' .non H' (tr.out no1) l'.call .non
  | some (.ok (ρ', st', .bk)), k => simp only [hg] at k; exact k.elim
  | some (.ok (ρ', st', .ct)), k => simp only [hg] at k; exact k.elim
section
variable {base : Heap} {mg : Str → Option Value} {K : PySem.W.Frag}
variable {w : World} {P : Program}
theorem meth_okDk {m qual y : Str} {st : Stmt} {fd : FuncData} {N ps : List Str} {k : Nat} {g : MoF} (F : FunD K m qual (defArgs st) (defBody st) (defScope st) [] [] (He.ma K (He.ga K "Desk") m) fd) (S : FnScope (y :: N) (y :: ps) (defScope st)) (hc : Cls K (He.ga K "Desk")) (me : Meth K (He.ga K "Desk") m (He.ma K (He.ga K "Desk") m))
    (b : ∀ (kV doc pm : Value) (an : Option Addr) (cdv ct : Value) (us : List Value), us.length = (y :: ps).length → bindArgs (PySem.W.fnOf m qual (defArgs st) (defBody st) (defScope st) .none kV doc pm an cdv ct) ⟨us, []⟩ = pure ((y :: ps).zip us))
    (hb : ∀ (cdv : Value) (A : Around) (outer : List PySem.Env) (s : Shared) (H : Hp) (E : XK), Room k (A.deeper (PyProof.Rows.envOfC qual (defScope st) s.heap.objs.size (He.ma K (He.ga K "Desk") m) cdv)) → SVsL (cxOf (L2.CX P w) P w K mg base (y :: N) qual (defScope st) (He.ma K (He.ga K "Desk") m) cdv A outer s H E) E 0 (defBody st) g) :
    DkE P w K mg base (k + 1) m ps.length (guardD ps.length (runD N.length g)) := by
  refine ⟨hc, me, ⟨fd, y :: ps, F.ok S (fun vs H Q E h => ?_) fun cdv A outer s H vs Q E hr h => ?_, F.bindsN b⟩, fun st ds h => guardD_len h⟩
  · obtain ⟨a, us, ds, st, G, e, _, _, r, hl, _⟩ := h
    rw [e]
    show us.length + 1 = ps.length + 1
    rw [r.length, hl]
  · obtain ⟨t, p, q⟩ := hb cdv A outer s H E hr
    exact ⟨t, p, bodyD q h⟩
end
end HB
namespace HB
open PySem L2
section
variable {X : Cx} {E : XK} {i : Nat}
def sStL (f : Mo (List (D × D))) (g : MoF) : MoF := fun ρ st => match f ρ with
  | none => none
  | some (.error x) => some (.error x)
  | some (.ok (ρ1, kvs)) => noErr (g ρ1 (some kvs))
theorem ssL_store {y : Str} {e : Expr} {rest : List Stmt} {f : Mo (List (D × D))} {g : MoF} {p pos pos' : Pos} (h : EM X E "Live" e f) (r : SVsL X E i rest g) (hc : Cls X.K (He.ga X.K "Desk")) (hn : NoAttr X.K (He.ga X.K "Desk") "live") (hN : X.N[i]? = some y := by rfl)
    (hv : Vis X.env.scope y := by first | exact Or.inl rfl | exact Or.inr (Or.inl rfl) | exact Or.inr (Or.inr rfl)) (hd : (y == ("__debug__" : Str)) = false := by decide) (hcd : (y == ("__classdict__" : Str)) = false := by decide)
    (hs : swapsWith e (some (.Attribute (.Name y p) "live" pos')) pos.line X.env = pure false := by rfl) : SVsL X E i (.Assign [.Attribute (.Name y p) "live" pos'] e pos :: rest) (sStL f g) := by
  obtain ⟨t, pt, q⟩ := h
  obtain ⟨u, p2, q2⟩ := r
  refine ⟨_, pss_cons (ps_fld (pe_var hN hv hd hcd) pt hs) p2, fun G ρ st a σ H De j at_ l h => q G ρ σ H _ j ?_⟩
  unfold sStL at h
  match hf : f ρ, h with
  | none, h => simp only [hf] at h; exact h.elim
  | some (.error x), h => simp only [hf] at h; exact h
  | some (.ok (ρ1, kvs)), h =>
    simp only [hf] at h
    intro G1 v H1 e1 rv
    obtain ⟨y1, dy, fs, rfl, z1, z2, z3, no, z4⟩ := rv
    have l1 := l.ex e1
    obtain ⟨dx0, v00, ha0⟩ := l.has
    obtain ⟨dx, v0, ha⟩ := l1.has
    have ne : y1 ≠ a := fun z => by rw [z, ha0] at z1; cases z1
    refine ⟨_, at_, a, _, dx, [("live", v0)], rfl, ha, hc, hn, (by show 1 < 1000; decide), ?_⟩
    have t1 := l.tr e1
    have sb : Sub X.K G1 (upd H1 a (.ins (He.ga X.K "Desk") dx [("live", .ref y1)])) := e1.j.sub.put l1.1 (pl_of ha)
    have tr : TrL X.K a G ρ σ H G1 ρ1 σ (upd H1 a (.ins (He.ga X.K "Desk") dx [("live", .ref y1)])) := by
      refine ⟨e1.j.butP (P := fun b => b = a) (fun b z => by rw [z]; exact l1.2.1) (.refl G1) (fun b hb => .inl hb) sb (fun b o nb ho => ?_), t1.g, t1.new, fun b o hb n na ni => ?_, t1.ow, fun b hb => ?_, t1.bx, t1.bd, t1.tt.trans (.put (pl_of ha)), fun b hb => ?_⟩
      · intro _
        rw [upd_ne nb]; exact ho
      · intro _
        rw [upd_ne na]
        exact t1.kept b o hb n na ni
      · by_cases z : b = a
        · subst z; rw [upd_same] at hb; cases hb
        · rw [upd_ne z] at hb; exact t1.dom b hb
      · obtain ⟨d2, hb⟩ := hb
        rw [upd_same] at hb
        cases hb
        exact .inr z1
    have l2 : Ld X.K G1 a (some kvs) ρ1 σ (upd H1 a (.ins (He.ga X.K "Desk") dx [("live", .ref y1)])) := ⟨l1.1, l1.2.1, dx, y1, dy, fs, ne, upd_same, z2, no, by rw [upd_ne ne]; exact z3, z4⟩
    obtain ⟨h', nee⟩ := noErr_post h
    exact q2 G1 ρ1 (some kvs) a σ _ De tr.j at_ l2 (PostSL.tr tr nee h')
end
section
variable {X : Cx} {E : XK} {i : Nat}
def mStrOL (c : Str) (F : Fn) (f : MoL D) : MoL D := fun ρ st => match f ρ st with
  | none => none
  | some (.error x) => some (.error x)
  | some (.ok (ρ1, st1, d)) => match isObj c "__str__" d with
    | true => (match F [d] with
      | some (.ok (.str z)) => some (.ok (ρ1, st1, .str z))
      | _ => none)
    | false => none
theorem evL_strO {k n : Nat} {c : Str} {F : Fn} {e : Expr} {f : MoL D} {p pos : Pos} (hM : MeE X.prog X.w X.K X.mg X.base k c "__str__" n F) (hr : Room (k + 2) X.A) (hx : Passes (L2.CX X.prog X.w) X E) (h : EVL X E i e f) (hm : X.mg "str" = none) (hg : Gl X "str" := by rfl)
    (he : starEach [e] X.env = (false, eval e X.env) :: starEach [] X.env := by rfl) : EVL X E i (.Call (.Name "str" p) [e] [] pos) (mStrOL c F f) := by
  obtain ⟨hc, me, ⟨fd, ps, h1, h2⟩, hl⟩ := hM
  obtain ⟨t, pt, q⟩ := h
  refine ⟨_, pe_callTy (call_strO me h1 hr h2 hx) hg hm (by decide +kernel) (pa_cons pt pa_nil he) (he := he), fun G ρ st a σ H Q j at_ l h => q G ρ st a σ H _ j at_ l ?_⟩
  unfold mStrOL at h
  match hf : f ρ st, h with
  | none, h => simp only [hf] at h; exact h.elim
  | some (.error x), h => simp only [hf] at h; exact h
  | some (.ok (ρ1, st1, d)), h =>
    simp only [hf] at h
    intro G1 v H1 tr l1 r1
    match hb : isObj c "__str__" d, h with
    | false, h => simp only [hb] at h; exact h.elim
    | true, h =>
      simp only [hb] at h
      obtain ⟨o, dx, fs, rfl, z1, z2⟩ := r1.isObj hb
      refine ⟨o, dx, fs, rfl, tr.j.sub _ _ z1, G1, [d], tr.j.sub, .cons r1 .nil, ?_, ?_⟩
      · refine hl _ fun no => ?_
        rw [no] at h
        exact h
      · match hF : F [d], h with
        | none, h => simp only [hF] at h; exact h.elim
        | some (.error x), h => simp only [hF] at h; exact h.elim
        | some (.ok (.str z)), h =>
          simp only [hF] at h
          intro G2 u H2 px ru
          cases ru
          exact ⟨⟨z, rfl⟩, h G2 _ H2 (tr.trans (l1.tr (tr.j.ex px))) (l1.ex (tr.j.ex px)) (.str z)⟩
        | some (.ok .none), h => simp only [hF] at h; exact h.elim
        | some (.ok (.bool _)), h => simp only [hF] at h; exact h.elim
        | some (.ok (.int _)), h => simp only [hF] at h; exact h.elim
        | some (.ok (.list _)), h => simp only [hF] at h; exact h.elim
        | some (.ok (.tuple _)), h => simp only [hF] at h; exact h.elim
        | some (.ok (.dict _)), h => simp only [hF] at h; exact h.elim
def mLenOL (c : Str) (F : Fn) (f : MoL D) : MoL D := fun ρ st => match f ρ st with
  | none => none
  | some (.error x) => some (.error x)
  | some (.ok (ρ1, st1, d)) => match isObj c "__len__" d with
    | true => (match F [d] with
      | some (.ok (.int z)) => if 0 ≤ z ∧ z ≤ 1000000 then some (.ok (ρ1, st1, .int z)) else none
      | _ => none)
    | false => none
theorem evL_lenO {k n : Nat} {c : Str} {F : Fn} {e : Expr} {f : MoL D} {p pos : Pos} (hM : MeE X.prog X.w X.K X.mg X.base k c "__len__" n F) (hr : Room (k + 1) X.A) (hx : Passes (L2.CX X.prog X.w) X E) (h : EVL X E i e f) (hm : X.mg "len" = none) (hg : Gl X "len" := by rfl)
    (he : starEach [e] X.env = (false, eval e X.env) :: starEach [] X.env := by rfl) (hpl : (backTo pos (starEach [] X.env)).any (·.1) = false := by rfl) : EVL X E i (.Call (.Name "len" p) [e] [] pos) (mLenOL c F f) := by
  obtain ⟨hc, me, ⟨fd, ps, h1, h2⟩, hl⟩ := hM
  obtain ⟨t, pt, q⟩ := h
  refine ⟨_, pe_callB (call_lenO me h1 hr h2 hx) hg hm (by decide +kernel) (pa_cons pt pa_nil he) (by decide) (by decide) he hpl, fun G ρ st a σ H Q j at_ l h => q G ρ st a σ H _ j at_ l ?_⟩
  unfold mLenOL at h
  match hf : f ρ st, h with
  | none, h => simp only [hf] at h; exact h.elim
  | some (.error x), h => simp only [hf] at h; exact h
  | some (.ok (ρ1, st1, d)), h =>
    simp only [hf] at h
    intro G1 v H1 tr l1 r1
    match hb : isObj c "__len__" d, h with
    | false, h => simp only [hb] at h; exact h.elim
    | true, h =>
      simp only [hb] at h
      obtain ⟨o, dx, fs, rfl, z1, z2⟩ := r1.isObj hb
      refine ⟨o, dx, fs, rfl, tr.j.sub _ _ z1, G1, [d], tr.j.sub, .cons r1 .nil, ?_, ?_⟩
      · refine hl _ fun no => ?_
        rw [no] at h
        exact h
      · match hF : F [d], h with
        | none, h => simp only [hF] at h; exact h.elim
        | some (.error x), h => simp only [hF] at h; exact h.elim
        | some (.ok (.int z)), h =>
          simp only [hF] at h
          by_cases c : 0 ≤ z ∧ z ≤ 1000000
          · rw [if_pos c] at h
            intro G2 u H2 px ru
            cases ru
            obtain ⟨m, em⟩ : ∃ m : Nat, z = m := ⟨z.toNat, by omega⟩
            exact ⟨⟨m, by rw [em], by omega⟩, h G2 _ H2 (tr.trans (l1.tr (tr.j.ex px))) (l1.ex (tr.j.ex px)) (.int z)⟩
          · rw [if_neg c] at h; exact h.elim
        | some (.ok .none), h => simp only [hF] at h; exact h.elim
        | some (.ok (.bool _)), h => simp only [hF] at h; exact h.elim
        | some (.ok (.str _)), h => simp only [hF] at h; exact h.elim
        | some (.ok (.list _)), h => simp only [hF] at h; exact h.elim
        | some (.ok (.tuple _)), h => simp only [hF] at h; exact h.elim
        | some (.ok (.dict _)), h => simp only [hF] at h; exact h.elim
/-- len of the field's thing, by its own __len__ -/
def mLenLL (F : FnM) : MoL D := fun ρ st => match st with
  | none => none
  | some kvs => match F kvs [] with
    | some (.ok (kvs', .int n)) => if 0 ≤ n ∧ n ≤ 1000000 then some (.ok (ρ, some kvs', .int n)) else none
    | _ => none
theorem evL_lenL {k n : Nat} {y : Str} {F : FnM} {p p1 lpos pos : Pos} (hM : MmE X.prog X.w X.K X.mg X.base k "Live" "__len__" n F) (hr : Room (k + 1) X.A) (hx : Passes (L2.CX X.prog X.w) X E) (hc0 : Cls X.K (He.ga X.K "Desk")) (hn0 : NoAttr X.K (He.ga X.K "Desk") "live") (hm : X.mg "len" = none)
    (hN : X.N[i]? = some y := by rfl) (hv : Vis X.env.scope y := by first | exact Or.inl rfl | exact Or.inr (Or.inl rfl) | exact Or.inr (Or.inr rfl)) (hd : (y == ("__debug__" : Str)) = false := by decide) (hcd : (y == ("__classdict__" : Str)) = false := by decide)
    (hb : attributeBase (.Name y p1) "live" X.env (eval (.Name y p1) X.env) = eval (.Name y p1) X.env := by rfl)
    (hg : Gl X "len" := by rfl) (he : starEach [.Attribute (.Name y p1) "live" lpos] X.env = (false, eval (.Attribute (.Name y p1) "live" lpos) X.env) :: starEach [] X.env := by rfl) (hpl : (backTo pos (starEach [] X.env)).any (·.1) = false := by rfl) : EVL X E i (.Call (.Name "len" p) [.Attribute (.Name y p1) "live" lpos] [] pos) (mLenLL F) := by
  obtain ⟨hc, me, ⟨fd, ps, h1, h2⟩, hl⟩ := hM
  refine ⟨_, pe_callB (call_lenO me h1 hr h2 hx) hg hm (by decide +kernel) (pa_cons (pe_fld (pe_var hN hv hd hcd) hb) pa_nil he) (by decide) (by decide) he hpl, fun G ρ st a σ H Q j at_ l h => ?_⟩
  unfold mLenLL at h
  cases st with
  | none => exact h.elim
  | some kvs =>
    simp only at h
    obtain ⟨dx, y, dy, fs, ne, ha, gy, ny, hy, r⟩ := l.2.2
    have n0 : F kvs [] ≠ none := fun e => by simp only [e] at h; exact h.elim
    refine ⟨.ref a, at_, a, _, dx, _, .ref y, rfl, ha, hc0, hn0, rfl, y, dy, fs, rfl, hy, y, dy, fs, [], kvs, [], G, rfl, hy, gy, j.sub, r, .nil, hl kvs [] n0, ?_⟩
    match hF : F kvs [], h with
    | none, h => simp only [hF] at h; exact h.elim
    | some (.error x), h => simp only [hF] at h; exact h.elim
    | some (.ok (kvs', .int m)), h =>
      simp only [hF] at h
      by_cases cc : 0 ≤ m ∧ m ≤ 1000000
      · rw [if_pos cc] at h
        intro G' v H' dy' fs' g new sb kept dom gy' hy' rf rv
        cases rv
        obtain ⟨l0, em⟩ : ∃ l : Nat, m = l := ⟨m.toNat, by omega⟩
        obtain ⟨tr, l2⟩ := Ld.inner j l.1 l.2.1 ne ha gy ny hy g new sb kept dom gy' hy' rf
        exact ⟨⟨l0, by rw [em], by omega⟩, h G' _ H' tr l2 (.int m)⟩
      · rw [if_neg cc] at h; exact h.elim
    | some (.ok (_, .none)), h => simp only [hF] at h; exact h.elim
    | some (.ok (_, .bool _)), h => simp only [hF] at h; exact h.elim
    | some (.ok (_, .str _)), h => simp only [hF] at h; exact h.elim
    | some (.ok (_, .list _)), h => simp only [hF] at h; exact h.elim
    | some (.ok (_, .tuple _)), h => simp only [hF] at h; exact h.elim
    | some (.ok (_, .dict _)), h => simp only [hF] at h; exact h.elim
end
end HB
namespace HB
open PySem L2 PySem.Spec PyProof.Rows
abbrev WEnd := Ends → WX
def wAs (K : PySem.W.Frag) (i : Nat) (c : Value) (u : Addr → Value → Option Addr → TS) (w : WEnd) : WEnd := fun D cls d σ H => ∃ fits, PySem.W.exmOne K cls c = some fits ∧ (fits = true → ∀ a, H a = none → u a cls d (offE D i) (σ.set i (some (.ref a))) H) ∧ (fits = false → w D cls d σ H)
def wBare (K : PySem.W.Frag) (c : Value) (u : Addr → Value → Option Addr → TS) (w : WEnd) : WEnd := fun D cls d σ H => ∃ fits, PySem.W.exmOne K cls c = some fits ∧ (fits = true → ∀ a, H a = none → u a cls d D σ H) ∧ (fits = false → w D cls d σ H)
inductive Hdls (X : Cx) (i : Nat) (n : Str) : List ExceptHandler → WEnd → Prop
  | nil : Hdls X i n [] (fun _ _ _ _ _ => False)
  | as {x : Str} {c : Value} {b : Stmt} {s : List Stmt} {q r : Pos} {u : Addr → Value → Option Addr → TS} {rest : List ExceptHandler} {w : WEnd} : Names X x c → (∀ (a : Addr) (oe : Obj) (cls : Value) (d : Option Addr) (pn : List (Addr × Obj)), Zc cls d oe → (∃ vs, oe.data = .fields vs) → PSs (X.suite a ((a, oe) :: pn)) (b :: s) (u a cls d)) →
      Hdls X i n rest w → Hdls X i n (.ExceptHandler (some (.Name x q)) (some n) (b :: s) r :: rest) (wAs X.K i c u w)
  | bare {x : Str} {c : Value} {b : Stmt} {s : List Stmt} {q r : Pos} {u : Addr → Value → Option Addr → TS} {rest : List ExceptHandler} {w : WEnd} : Names X x c → (∀ (a : Addr) (oe : Obj) (cls : Value) (d : Option Addr) (pn : List (Addr × Obj)), Zc cls d oe → (∃ vs, oe.data = .fields vs) → PSs (X.suite a ((a, oe) :: pn)) (b :: s) (u a cls d)) →
      Hdls X i n rest w → Hdls X i n (.ExceptHandler (some (.Name x q)) none (b :: s) r :: rest) (wBare X.K c u w)
section
variable {X : Cx} {n : Str} {i : Nat} {body : List Stmt} {h0 : ExceptHandler} {hds : List ExceptHandler} {pos : Pos} {tb : WX → TS} {w : WEnd}
theorem ps_try_many (hs : X.stack = X.env :: X.outer) (hf : X.env.frame = some X.env.locals) (hN : X.N.Nodup) (hi : X.N[i]? = some n) (hln : X.env.kindOf n = some .local)
    (hb : ∀ (W : WX) (news : List (Addr × Obj)) (xe : Value → Shared → Prop), Takes (X.tr news xe) W → PassesOwn (model X.prog X.w) X.A X.env xe → PSs (X.tr news xe) body (tb W))
    (hh : Hdls X i n (h0 :: hds) w) : PS X (.Try body (h0 :: hds) [] [] pos) (fun D σ H => tb (w D) D σ H) := by
  constructor
  intro pins s σ H D I h
  have ok := I.ok
  have frames : X.A.frames = some (X.env :: X.outer) := ok.frames.trans (by rw [hs])
  refine wpAny_Try_except (wpAny_mono ((hb (w D) (X.pn ++ pins) (fun er sa => wpAny (model X.prog X.w) X.A (noteFrame er X.env) (fun _ sb => wpAny (model X.prog X.w) X.A (setFlight er none) (fun _ sc =>
    wpAny (model X.prog X.w) X.A (handleBy er X.env (h0 :: hds)) (SP X pins D) X.xe sc) X.xe sb) X.xe sa) (fun u s' xx => ?_) PassesOwn.looking).run [] s σ H D (I.toTry _) h) (fun f sz done => ?_) (fun _ _ he => he))
  · obtain ⟨a, B, sI, pins', σ', H', cls, d, rfl, Jt, nb, up, sky, na, os, ag, told⟩ := xx
    have J : Inv X pins σ' H' sI := Jt.ofTry ok
    have skyX : Sky B (X.env :: X.outer) a (Zc cls d) X.env.locals s'.heap := hs ▸ sky
    change wpAny (model X.prog X.w) X.A (noteFrame (.ref a) X.env) _ _ _
    refine Sky.land Zc.steady frames hf skyX fun h3 fl up3 => ?_
    have J3 : Inv X pins σ' H' { s' with heap := h3 } := J.landed nb fl.1 (up.trans up3) os ag
    obtain ⟨oe, vs, at3, z3, f3⟩ := fl.there
    have off : a ∉ frs (X.env :: X.outer) := fun hm => by
      obtain ⟨_, o, eo, nf⟩ := fl.2.2.1.mem hm
      exact nf _ (Option.some.inj (eo.symm.trans at3) ▸ f3)
    have offL : a ≠ X.env.locals := fun z => off (List.mem_filterMap.mpr ⟨X.env, List.mem_cons_self, hf.trans (congrArg some z.symm)⟩)
    have offF : a ∉ X.fs := fun hm => let ⟨e, he, q⟩ := List.mem_filterMap.mp hm; off (List.mem_filterMap.mpr ⟨e, List.mem_cons_of_mem _ he, q⟩)
    have SU := J3.suite at3 f3 na offL offF
    have kind : PySem.W.Looks (model X.prog X.w) h3 (typeOf (.ref a)) cls := fun A Q E s k q => wpAny_typeOf_ref (k _ _ at3) (by rw [z3.1]; exact q)
    have named : ∀ {x : Str} {c : Value} {np : Pos} {Q E : Value → Shared → Prop}, Names X x c → Q c { s' with heap := h3 } → wpAny (model X.prog X.w) (X.A.mark (some (.ref a))) (eval (.Name x np) X.env) Q E { s' with heap := h3 } := fun {x c np Q E} hc q => by
      obtain ⟨g, db, m | ⟨m, v, nn⟩⟩ := hc
      · exact ld_glob (X := X.suite a ((a, oe) :: (X.pn ++ pins))) SU g m q db
      · exact ld_blt (X := X.suite a ((a, oe) :: (X.pn ++ pins))) SU g m v q nn db
    have all : ∀ {hds : List ExceptHandler} {w : WEnd}, Hdls X i n hds w → w D cls d σ' H' → wpAny (model X.prog X.w) X.A (handleBy (.ref a) X.env hds) (SP X pins D) X.xe { s' with heap := h3 } := by
      intro hds w hh
      induction hh with
      | nil => exact fun z => z.elim
      | @as x c b s q r u rest w n1 h1 _ ih =>
        intro ⟨fits, e1, yes1, no1⟩
        refine wpAny_handleBy_cons (codeAny_handlers_test ?_) (fun q => by cases q)
        refine named n1 ((PySem.W.exm_one (M := model X.prog X.w) J3.kIn kind e1).here ?_)
        match fits, yes1, no1 with
        | false, _, no1 => exact ih (no1 rfl)
        | true, yes1, _ =>
          refine codeAny_handlers_suite_as (HandSPX.lands_againZ fl fun h4 fl4 up4 => ?_)
          have J4 : Inv X pins σ' H' { s' with heap := h4 } := (J.landed nb fl4.1 ((up.trans up3).trans up4) os ag)
          obtain ⟨oe4, _, at4, z4, f4⟩ := fl4.there
          have S4 := J4.suite at4 f4 na offL offF
          refine store_ok (X := X.suite a ((a, oe4) :: (X.pn ++ pins))) (v := .ref a) S4 hN hi (.inl hln) rfl (fun s5 S5 => ?_) (.inr hln)
          refine wpAny_mono ((h1 a oe4 cls d (X.pn ++ pins) z4 ⟨_, f4⟩).run [] s5 _ H' _ S5 (yes1 rfl a na)) (fun f s6 done => ?_) (fun _ _ z => z.elim)
          have last : ∀ {σ6 : L2.St} {H6 : L2.Hp} {Q : Shared → Prop}, Inv (X.suite a ((a, oe4) :: (X.pn ++ pins))) [] σ6 H6 s6 → (∀ s7, Inv X pins (σ6.set i none) H6 s7 → Q s7) →
              wpAny (model X.prog X.w) X.A (do bindName X.env n .none; unbindBehindTheSuite X.env n r) (fun _ s7 => Q s7) X.xe s6 := fun {σ6 H6 Q} S6 then_ => gone_ok (S6.unsuite ok) hN hi hln then_
          match f, done with
          | .ret _, ⟨v6, _, _, S6, r6, fin⟩ => exact last S6 fun _ J7 => ⟨_, _, _, J7, r6, fin⟩
          | .next, ⟨_, _, S6, fin⟩ => exact last S6 fun _ J7 => ⟨_, _, J7, fin⟩
          | .brk, ⟨_, _, S6, fin⟩ => exact last S6 fun _ J7 => ⟨_, _, J7, fin⟩
          | .cont, ⟨_, _, S6, fin⟩ => exact last S6 fun _ J7 => ⟨_, _, J7, fin⟩
      | @bare x c b s q r u rest w n1 h1 _ ih =>
        intro ⟨fits, e1, yes1, no1⟩
        refine wpAny_handleBy_cons (codeAny_handlers_test ?_) (fun q => by cases q)
        refine named n1 ((PySem.W.exm_one (M := model X.prog X.w) J3.kIn kind e1).here ?_)
        match fits, yes1, no1 with
        | false, _, no1 => exact ih (no1 rfl)
        | true, yes1, _ =>
          refine codeAny_handlers_suite (HandSPX.lands_againZ fl fun h4 fl4 up4 => ?_)
          have J4 : Inv X pins σ' H' { s' with heap := h4 } := (J.landed nb fl4.1 ((up.trans up3).trans up4) os ag)
          obtain ⟨oe4, _, at4, z4, f4⟩ := fl4.there
          refine wpAny_mono ((h1 a oe4 cls d (X.pn ++ pins) z4 ⟨_, f4⟩).run [] _ _ H' _ (J4.suite at4 f4 na offL offF) (yes1 rfl a na)) (fun f s6 done => ?_) (fun _ _ z => z.elim)
          match f, done with
          | .ret _, ⟨v6, _, _, S6, r6, fin⟩ => exact ⟨_, _, _, S6.unsuite ok, r6, fin⟩
          | .next, ⟨_, _, S6, fin⟩ => exact ⟨_, _, S6.unsuite ok, fin⟩
          | .brk, ⟨_, _, S6, fin⟩ => exact ⟨_, _, S6.unsuite ok, fin⟩
          | .cont, ⟨_, _, S6, fin⟩ => exact ⟨_, _, S6.unsuite ok, fin⟩
    exact all hh told
  · match f, done with
    | .ret _, ⟨v, _, _, Jz, rv, fin⟩ => exact ⟨v, _, _, Jz.ofTry ok, rv, fin⟩
    | .next, ⟨_, _, Jz, fin⟩ => exact wpAny_execs_nil ⟨_, _, Jz.ofTry ok, fin⟩
    | .brk, ⟨_, _, Jz, fin⟩ => exact ⟨_, _, Jz.ofTry ok, fin⟩
    | .cont, ⟨_, _, Jz, fin⟩ => exact ⟨_, _, Jz.ofTry ok, fin⟩
end
end HB
namespace HB
open PySem L2
abbrev HSem := List (Str × Bool × (Exn → Option D))
def pickH : HSem → Exn → Option (Bool × D)
  | [], _ => none
  | (c, b, f) :: r, x => if x.1 = c then (match b && x.2.isEmpty with
    | true => none
    | false => (match f x with
      | some z => some (b, z)
      | none => none)) else pickH r x
inductive HdD (X : Cx) (ie l : Nat) (n y : Str) : List ExceptHandler → HSem → Prop
  | nil : HdD X ie l n y [] []
  | as {c : Str} {e : Expr} {f : Exn → Option D} {np p2 p3 r : Pos} {rest : List ExceptHandler} {hs : HSem} : Names X c (.ref (He.ga X.K c)) → HV X ie e f → swapsWith e (some (.Name y p2)) p3.line X.env = pure false → HdD X ie l n y rest hs →
      HdD X ie l n y (.ExceptHandler (some (.Name c np)) (some n) [.Assign [.Name y p2] e p3] r :: rest) ((c, true, f) :: hs)
  | bare {c z : Str} {k : Nat} {np p2 p3 p4 r : Pos} {rest : List ExceptHandler} {hs : HSem} : Names X c (.ref (He.ga X.K c)) → swapsWith (.Constant (.str z) k p4) (some (.Name y p2)) p3.line X.env = pure false → HdD X ie l n y rest hs →
      HdD X ie l n y (.ExceptHandler (some (.Name c np)) none [.Assign [.Name y p2] (.Constant (.str z) k p4) p3] r :: rest) ((c, false, fun _ => some (.str z)) :: hs)
/-- the classes, told apart -/
def Apart (K : PySem.W.Frag) (cs : List Str) : Prop := ∀ c c', c ∈ cs → c' ∈ cs → PySem.W.exmOne K (.ref (He.ga K c)) (.ref (He.ga K c')) = some (decide (c = c'))
theorem apartB_ok {K : PySem.W.Frag} {cs : List Str} (h : apartB cs K = true) : Apart K cs := fun c c' h1 h2 => of_decide_eq_true (List.all_eq_true.mp (List.all_eq_true.mp h c h1) c' h2)
def endS (b : Bool) (ie l : Nat) (v : V) (σ : St) : St := match b with
  | true => (σ.set l (some v)).set ie none
  | false => σ.set l (some v)
def endN (b : Bool) (ie l : Nat) (z : D) (ρ : En) : En := match b with
  | true => (ρ.set l (.pur z)).set ie .no
  | false => ρ.set l (.pur z)
section
variable {X : Cx} {ie l : Nat} {n y : Str}
theorem HdD.go {cs : List Str} (F : Apart X.K cs) (ne : ie ≠ l) (hN : X.N.Nodup) (hj : X.N[l]? = some y) (hx : Loc X.env.scope y) (hfn : X.fn y = true ∨ X.env.scope.names.lookup y = some .local) {hds : List ExceptHandler} {hs : HSem} (h : HdD X ie l n y hds hs) : (∀ p ∈ hs, p.1 ∈ cs) →
    ∃ w, Hdls X ie n hds w ∧ ∀ (De : Ends) (x : Exn) (b : Bool) (z : D) (G : Hp) (σ : St) (H : Hp) (d : Option Addr), x.1 ∈ cs → pickH hs x = some (b, z) → ie < σ.length → Same G H → (b = true → ∃ dd fs, d = some dd ∧ H dd = some (.xd fs) ∧ RpF X.K G fs (x.2.map fun p => (.str p.1, p.2))) →
      (∀ G3 v H3, PX G H G3 H3 → Rp X.K G3 v z → De.nx (endS b ie l v σ) H3) → w De (.ref (He.ga X.K x.1)) d σ H := by
  induction h with
  | nil => exact fun _ => ⟨_, .nil, fun De x b z G σ H d _ e => by cases e⟩
  | @as c e f np p2 p3 r rest hs n1 hv hsw _ ih =>
    intro mem
    obtain ⟨w, hw, q⟩ := ih fun p hp => mem p (List.mem_cons_of_mem _ hp)
    have mc : c ∈ cs := mem _ List.mem_cons_self
    let ts : Addr → Value → Option Addr → TS := fun a cls d De σ H => ∃ G x z, Held X.K a cls d ie G σ H x ∧ f x = some z ∧ ∀ G1 v H1, PX G H G1 H1 → Rp X.K G1 v z → De.nx (σ.set l (some v)) H1
    have suite_ok : ∀ (a : Addr) (oe : Obj) (cls : Value) (d : Option Addr) (pn : List (Addr × Obj)), Zc cls d oe → (∃ vs, oe.data = .fields vs) → PSs (X.suite a ((a, oe) :: pn)) [.Assign [.Name y p2] e p3] (ts a cls d) := by
      intro a oe cls d pn hz ho
      obtain ⟨u, p, q⟩ := hv a oe cls d pn hz ho
      have st := pss_one (ps_set (X := X.suite a ((a, oe) :: pn)) (pos := p3) (pos' := p2) hN hj hx p hsw hfn)
      exact ⟨fun pins s σ H De I z => let ⟨G, x, w, held, fx, k⟩ := z; st.run pins s σ H De I (q G σ H _ x w held fx k)⟩
    refine ⟨_, .as n1 suite_ok hw, fun De x b z G σ H d mx e li s dict k => ⟨_, F x.1 c mx mc, fun yes a na => ?_, fun no => ?_⟩⟩
    · have ec : x.1 = c := of_decide_eq_true yes
      unfold pickH at e
      rw [if_pos ec] at e
      match hb : x.2.isEmpty, e with
      | true, e => simp only [hb, Bool.and_self] at e; cases e
      | false, e =>
        simp only [hb, Bool.and_false] at e
        match hf : f x, e with
        | none, e => simp only [hf] at e; cases e
        | some z', e =>
          simp only [hf] at e
          cases e
          refine ⟨G, x, _, ⟨List.getElem?_set_self li, rfl, dict rfl, s⟩, hf, fun G3 v H3 px rv => ?_⟩
          have eq : ((σ.set ie (some (V.ref a))).set l (some v)).set ie none = endS true ie l v σ := by
            show _ = (σ.set l (some v)).set ie none
            rw [List.set_comm _ _ ne, List.set_set]
          show De.nx (((σ.set ie (some (V.ref a))).set l (some v)).set ie none) H3
          rw [eq]
          exact k G3 v H3 px rv
    · have ec : x.1 ≠ c := of_decide_eq_false no
      unfold pickH at e
      rw [if_neg ec] at e
      exact q De x b z G σ H d mx e li s dict k
  | @bare c z0 kk np p2 p3 p4 r rest hs n1 hsw _ ih =>
    intro mem
    obtain ⟨w, hw, q⟩ := ih fun p hp => mem p (List.mem_cons_of_mem _ hp)
    have mc : c ∈ cs := mem _ List.mem_cons_self
    let ts : Addr → Value → Option Addr → TS := fun a cls d De σ H => De.nx (σ.set l (some (.str z0))) H
    have suite_ok : ∀ (a : Addr) (oe : Obj) (cls : Value) (d : Option Addr) (pn : List (Addr × Obj)), Zc cls d oe → (∃ vs, oe.data = .fields vs) → PSs (X.suite a ((a, oe) :: pn)) [.Assign [.Name y p2] (.Constant (.str z0) kk p4) p3] (ts a cls d) := by
      intro a oe cls d pn hz ho
      exact pss_one (ps_set (X := X.suite a ((a, oe) :: pn)) (pos := p3) (pos' := p2) hN hj hx pe_str hsw hfn)
    refine ⟨_, .bare n1 suite_ok hw, fun De x b z G σ H d mx e li s dict k => ⟨_, F x.1 c mx mc, fun yes a na => ?_, fun no => ?_⟩⟩
    · have ec : x.1 = c := of_decide_eq_true yes
      unfold pickH at e
      rw [if_pos ec] at e
      simp only [Bool.false_and] at e
      cases e
      exact k G _ H (.refl s) (.str z0)
    · have ec : x.1 ≠ c := of_decide_eq_false no
      unfold pickH at e
      rw [if_neg ec] at e
      exact q De x b z G σ H d mx e li s dict k
end
theorem pickH_in : ∀ {hs : HSem} {x : Exn} {p : Bool × D}, pickH hs x = some p → x.1 ∈ hs.map (·.1)
  | (c, b, f) :: r, x, p, e => by
    unfold pickH at e
    by_cases h : x.1 = c
    · rw [h] ; exact List.mem_cons_self
    · rw [if_neg h] at e; exact List.mem_cons_of_mem _ (pickH_in e)
theorem pickH_empty : ∀ {hs : HSem} {x : Exn} {z : D}, x.2 = [] → pickH hs x = some (true, z) → False
  | [], _, _, _, e => nomatch e
  | (c, b, f) :: r, x, z, h0, e => by
    unfold pickH at e
    by_cases h : x.1 = c
    · rw [if_pos h, h0] at e
      match b, e with
      | true, e => cases e
      | false, e =>
        match hf : f x, e with
        | none, e => simp only [hf, Bool.false_and] at e; cases e
        | some z', e => simp only [hf, Bool.false_and] at e; cases e
    · rw [if_neg h] at e; exact pickH_empty h0 e
/-- the body -/
def BXL (X : Cx) (i : Nat) (body : List Stmt) (g : MoF) : Prop := ∀ (W : WX) (pn : List (Addr × Obj)) (xe : Value → Shared → Prop), Takes (X.tr pn xe) W →
  ∃ t, PSs (X.tr pn xe) body t ∧ ∀ G ρ st (a : Addr) σ H De, J X.K G ρ σ H → AtS σ i a → Ld X.K G a st ρ σ H → PostSL X.K (WE W σ) i a G ρ σ H De (g ρ st) → t De σ H
def xSay (F : FnD) (f : Mo (List D)) (l : Nat) : MoF := fun ρ st => match f ρ with
  | some (.ok (ρ1, as)) => (match F st as with
    | none => none
    | some (.error x) => some (.error x)
    | some (.ok (st', d)) => some (.ok (ρ1.set l (.pur d), st', .nx)))
  | _ => none
section
variable {X : Cx} {E : XK} {i : Nat}
theorem bxL_say {k n l : Nat} {m y z : Str} {F : FnD} {p1 p2 apos pos pos2 : Pos} {e : Expr} {es : List Expr} {f : Mo (List D)} {pl : Sem Bool} (hM : DkE X.prog X.w X.K X.mg X.base k m n F) (hr : Room k X.A) (ha : ∀ pn xe, EA (X.tr pn xe) botK (e :: es) f) (hNd : X.N.Nodup) (hi : X.N[l]? = some z := by rfl) (hx : Loc X.env.scope z := by first | exact Or.inl rfl | exact Or.inr rfl)
    (hne : Nat.beq l i = false := by rfl) (hm : (m == ("live" : Str)) = false := by decide) (hN : X.N[i]? = some y := by rfl) (hv : Vis X.env.scope y := by first | exact Or.inl rfl | exact Or.inr (Or.inl rfl) | exact Or.inr (Or.inr rfl)) (hd : (y == ("__debug__" : Str)) = false := by decide) (hcd : (y == ("__classdict__" : Str)) = false := by decide)
    (ht : eval (.Call (.Attribute (.Name y p1) m apos) (e :: es) [] pos) X.env = byMeth X (.Name y p1) m apos pos pl (e :: es) := by rfl) (hst : starEach (e :: es) X.env = (false, eval e X.env) :: starEach es X.env := by rfl) (hpl : (backTo pos (starEach es X.env)).any (·.1) = false := by rfl)
    (hs : swapsWith (.Call (.Attribute (.Name y p1) m apos) (e :: es) [] pos) (some (.Name z p2)) pos2.line X.env = pure false := by rfl) (hf : X.fn z = true ∨ X.env.scope.names.lookup z = some .local := by first | exact .inl rfl | exact .inr rfl | assumption) :
    BXL X i [.Assign [.Name z p2] (.Call (.Attribute (.Name y p1) m apos) (e :: es) [] pos) pos2] (xSay F f l) := by
  intro W pn xe tk
  obtain ⟨hc, me, ⟨fd, ps, h1, h2⟩, hl⟩ := hM
  obtain ⟨t, pt, q⟩ := ha pn xe
  refine ⟨_, pss_one (ps_set (X := X.tr pn xe) hNd hi hx (pe_methAt (X := X.tr pn xe) tk (pe_var hN hv hd hcd) hc me h1 hr h2 pt ht hst hpl) hs hf), fun G ρ st a σ H De j at_ ld h => ?_⟩
  obtain ⟨dx, fs, z2, z3⟩ := ld.look hm
  refine ⟨.ref a, at_, a, dx, fs, rfl, z2, z3, q G ρ σ H _ j ?_⟩
  unfold xSay at h
  match hf : f ρ, h with
  | none, h => simp only [hf] at h; exact h.elim
  | some (.error x), h => simp only [hf] at h; exact h.elim
  | some (.ok (ρ1, as)), h =>
    simp only [hf] at h
    intro G1 us H1 e1 r1
    rw [List.append_nil]
    refine endD_sem hl e1.j (ld.ex e1) r1 ?_
    match hF : F st as, h with
    | none, h => simp only [hF] at h; exact h.elim
    | some (.error x), h => simp only [hF] at h; exact fun C dx H' z => h C dx H' (XP.trans e1 z)
    | some (.ok (st', d)), h =>
      simp only [hF] at h
      intro G' v H' t l2 rv
      have ex := Ex.set t.j l rv
      exact h G' _ H' (((ld.tr e1).trans t).trans (l2.tr ex)) (l2.ex ex) ((List.getElem?_set_ne (Nat.ne_of_beq_eq_false hne)).trans at_)
/-- try: body, except ..; then others -/
def sTryL (ie l : Nat) (hs : HSem) (g k : MoF) : MoF := fun ρ st => match calmE ρ && (Nat.blt ie ρ.length && Nat.blt l ρ.length) with
  | false => none
  | true => match g ρ st with
    | some (.ok (ρ', st', .nx)) => noErr (k ρ' st')
    | some (.error x) => (match pickH hs x with
      | some (b, z) => k (endN b ie l z ρ) st
      | none => none)
    | _ => none
theorem Ex.endN {K : PySem.W.Frag} {G H : Hp} {ρ : En} {σ : St} (j : J K G ρ σ H) (b : Bool) (ie l : Nat) {v : V} {z : D} (r : Rp K G v z) : Ex K G ρ σ H G (endN b ie l z ρ) (endS b ie l v σ) H := by
  cases b with
  | true => exact (Ex.set j l r).trans (Ex.drop (Ex.set j l r).j ie)
  | false => exact Ex.set j l r
theorem ssL_try {n y : Str} {ie l : Nat} {body : List Stmt} {h0 : ExceptHandler} {hds : List ExceptHandler} {rest : List Stmt} {hs : HSem} {g k : MoF} {pos : Pos} (hst : X.stack = X.env :: X.outer) (hfr : X.env.frame = some X.env.locals) (hN : X.N.Nodup) (hi : X.N[ie]? = some n) (hln : X.env.kindOf n = some .local) (hj : X.N[l]? = some y) (hx : Loc X.env.scope y)
    (hfn : X.fn y = true ∨ X.env.scope.names.lookup y = some .local) (ne : Nat.beq ie l = false) (n1 : Nat.beq ie i = false) (n2 : Nat.beq l i = false) (hb : BXL X i body g) (hh : HdD X ie l n y (h0 :: hds) hs) (F : Apart X.K (hs.map (·.1))) (r : SVsL X E i rest k) :
    SVsL X E i (.Try body (h0 :: hds) [] [] pos :: rest) (sTryL ie l hs g k) := by
  have ne' := Nat.ne_of_beq_eq_false ne
  obtain ⟨w, hw, qw⟩ := hh.go F ne' hN hj hx hfn fun p hp => List.mem_map.mpr ⟨p, hp, rfl⟩
  obtain ⟨u, p2, q2⟩ := r
  let tb : WX → TS := fun W De σ H => ∃ G ρ st, ∃ a : Addr, J X.K G ρ σ H ∧ AtS σ i a ∧ Ld X.K G a st ρ σ H ∧ PostSL X.K (WE W σ) i a G ρ σ H De (g ρ st)
  have body_ok : ∀ (W : WX) (pn : List (Addr × Obj)) (xe : Value → Shared → Prop), Takes (X.tr pn xe) W → PassesOwn (model X.prog X.w) X.A X.env xe → PSs (X.tr pn xe) body (tb W) := by
    intro W pn xe t _
    obtain ⟨u, p, q⟩ := hb W pn xe t
    exact ⟨fun pins s σ H De I z => let ⟨G, ρ, st, a, jj, at_, ld, po⟩ := z; p.run pins s σ H De I (q G ρ st a σ H De jj at_ ld po)⟩
  refine ⟨_, pss_cons (ps_try_many hst hfr hN hi hln body_ok hw) p2, fun G ρ st a σ H De jj at_ ld h => ⟨G, ρ, st, a, jj, at_, ld, ?_⟩⟩
  unfold sTryL at h
  match hn : calmE ρ && (Nat.blt ie ρ.length && Nat.blt l ρ.length), h with
  | false, h => simp only [hn] at h; exact h.elim
  | true, h =>
    simp only [hn] at h
    match hg : g ρ st, h with
    | none, h => simp only [hg] at h; exact h.elim
    | some (.ok (ρ', st', .nx)), h =>
      simp only [hg] at h
      obtain ⟨h', nee⟩ := noErr_post h
      exact fun G' σ' H' tr l' at' => q2 G' ρ' st' a σ' H' De tr.j at' l' (PostSL.tr tr nee h')
    | some (.ok (ρ', st', .bk)), h => simp only [hg] at h; exact h.elim
    | some (.ok (ρ', st', .ct)), h => simp only [hg] at h; exact h.elim
    | some (.ok (ρ', st', .rt d)), h => simp only [hg] at h; exact h.elim
    | some (.error x), h =>
      simp only [hg] at h
      match hp : pickH hs x, h with
      | none, h => simp only [hp] at h; exact h.elim
      | some (b, z), h =>
        simp only [hp] at h
        intro C dx H2 xp
        obtain ⟨xc, G2, s1, s2, new, kept, dom, fl⟩ := xp
        obtain ⟨n0, n12⟩ := He.ba hn
        obtain ⟨n3, n4⟩ := He.ba n12
        have li : ie < σ.length := by rw [← jj.len]; exact Nat.le_of_ble_eq_true n3
        have j2 : J X.K G2 ρ σ H2 := ⟨s2, jj.len, fun k d e => let ⟨v, q1, q2⟩ := jj.pur k d e; ⟨v, q1, q2.mono s1⟩, fun k s ds e h => (calmE_get n0 e h).elim, fun k l s t ds es b e1 h1 _ _ _ _ => (calmE_get n0 e1 h1).elim, fun k g o o2 z xs e1 _ => (calmE_get n0 e1 rfl).elim⟩
        have e2 : Ex X.K G ρ σ H G2 ρ σ H2 := ⟨j2, s1, new, kept, fun b z => absurd z (calmE_d n0 b), dom.d, fun k ds e => (calmE_get (ds := ds) n0 e rfl).elim, fun k s e ql => let ⟨_, hl⟩ := Sl.isD_hs ql; (calmE_get n0 e hl).elim, dom.t⟩
        rw [xc]
        refine qw _ x b z G2 σ H2 dx (pickH_in hp) hp li s2.toSame (fun eb => ?_) fun G3 v H3 px rv => ?_
        · rcases fl with ⟨_, z0⟩ | z0
          · exact absurd hp (by
              rw [eb]
              intro hp
              exact pickH_empty z0 hp)
          · exact z0
        · have e3 := e2.trans (j2.ex px)
          have e4 := e3.trans (Ex.endN e3.j b ie l rv)
          refine q2 G3 _ st a _ H3 De e4.j ?_ (ld.ex e4) (PostSL.ex ld e4 h)
          have ni := Nat.ne_of_beq_eq_false n1
          have nl := Nat.ne_of_beq_eq_false n2
          cases b with
          | true => exact (List.getElem?_set_ne ni).trans ((List.getElem?_set_ne nl).trans at_)
          | false => exact (List.getElem?_set_ne nl).trans at_
end
end HB
namespace HB
open PySem L2
section
variable {X : Cx} {i : Nat}
def catX (f g : Exn → Option D) (x : Exn) : Option D := match f x, g x with
  | some (.str u), some (.str w) => if u.length + w.length ≤ 1000000 then some (.str (u ++ w)) else none
  | _, _ => none
theorem hv_cat {a b : Expr} {pos : Pos} {f g : Exn → Option D} (h1 : HV X i a f) (h2 : HV X i b g) : HV X i (.BinOp a .Add b pos) (catX f g) := by
  intro ad oe cls d pn hz ho
  obtain ⟨t1, p1, q1⟩ := h1 ad oe cls d pn hz ho
  obtain ⟨t2, p2, q2⟩ := h2 ad oe cls d pn hz ho
  refine ⟨_, pe_op (op_add_str (X := X.suite ad ((ad, oe) :: pn))) p1 p2, fun G σ H Q x y hh e k => ?_⟩
  unfold catX at e
  match hf : f x, hg : g x, e with
  | some (.str u), some (.str w), e =>
    simp only [hf, hg] at e
    obtain ⟨hl, rfl⟩ := ite_some e
    refine q1 G σ H _ x (.str u) hh hf fun G1 v1 H1 px1 r1 => q2 G1 σ H1 _ x (.str w) (hh.px px1) hg fun G2 v2 H2 px2 r2 => ?_
    cases r1
    cases r2
    exact ⟨u, w, rfl, rfl, line_of hl, k G2 _ H2 (px1.trans px2) (.str _)⟩
def unX (h : List D → Option D) (f : Exn → Option D) (x : Exn) : Option D := match f x with
  | some d => h [d]
  | none => none
theorem hv_callT {T : String} {h : List D → Option D} {x : Str} {p pos : Pos} {e : Expr} {f : Exn → Option D} (hc : ∀ ad pn, DCall (X.suite ad pn) (.type T) h) (hm : X.mg x = none) (hv : bootBuiltins x = some (.type T)) (h1 : HV X i e f) (hg : Gl X x := by rfl)
    (hn : x ≠ "__name__" := by decide) (hdb : (x == ("__debug__" : Str)) = false := by decide) (he : starEach [e] X.env = (false, eval e X.env) :: starEach [] X.env := by rfl) (hpl : (backTo pos (starEach [] X.env)).any (·.1) = false := by rfl) : HV X i (.Call (.Name x p) [e] [] pos) (unX h f) := by
  intro ad oe cls d pn hz ho
  obtain ⟨t1, p1, q1⟩ := h1 ad oe cls d pn hz ho
  obtain ⟨r, c1, c2⟩ := hc ad ((ad, oe) :: pn)
  refine ⟨_, pe_callTy (X := X.suite ad ((ad, oe) :: pn)) c1 hg hm hv (pa_cons p1 pa_nil he) hn hdb he hpl, fun G σ H Q x y hh e k => ?_⟩
  unfold unX at e
  match hf : f x, e with
  | none, e => simp only [hf] at e; cases e
  | some u, e =>
    simp only [hf] at e
    exact q1 G σ H _ x u hh hf fun G1 v1 H1 px1 r1 => c2 G1 H1 [v1] [u] y Q px1.s (.cons r1 .nil) e fun G2 v2 H2 px2 r2 => k G2 v2 H2 (px1.trans px2) r2
theorem hv_callB {id : String} {h : List D → Option D} {x : Str} {p pos : Pos} {e : Expr} {f : Exn → Option D} (hc : ∀ ad pn, DCall (X.suite ad pn) (.builtin id) h) (hm : X.mg x = none) (hv : bootBuiltins x = some (.builtin id)) (h1 : HV X i e f) (hg : Gl X x := by rfl)
    (hn : x ≠ "__name__" := by decide) (hdb : (x == ("__debug__" : Str)) = false := by decide) (he : starEach [e] X.env = (false, eval e X.env) :: starEach [] X.env := by rfl) (hpl : (backTo pos (starEach [] X.env)).any (·.1) = false := by rfl) : HV X i (.Call (.Name x p) [e] [] pos) (unX h f) := by
  intro ad oe cls d pn hz ho
  obtain ⟨t1, p1, q1⟩ := h1 ad oe cls d pn hz ho
  obtain ⟨r, c1, c2⟩ := hc ad ((ad, oe) :: pn)
  refine ⟨_, pe_callB (X := X.suite ad ((ad, oe) :: pn)) c1 hg hm hv (pa_cons p1 pa_nil he) hn hdb he hpl, fun G σ H Q x y hh e k => ?_⟩
  unfold unX at e
  match hf : f x, e with
  | none, e => simp only [hf] at e; cases e
  | some u, e =>
    simp only [hf] at e
    exact q1 G σ H _ x u hh hf fun G1 v1 H1 px1 r1 => c2 G1 H1 [v1] [u] y Q px1.s (.cons r1 .nil) e fun G2 v2 H2 px2 r2 => k G2 v2 H2 (px1.trans px2) r2
end
structure FdGE (P : Program) (w : World) (K : PySem.W.Frag) (mg : Str → Option Value) (base : Heap) (k : Nat) (x : Str) (ps : List Str) (n : Nat) (F : FnD) : Prop where
  ex : ∃ fd, (∀ A : Around, A.guards = some [] → Room k A → RunsAt P w K mg base (L2.CX P w) A (He.ga K x) fd ps (spDk K n F)) ∧ Binds K fd ps []
  kp : PySem.W.keepIn K (.ref (He.ga K x)) = true
  gl : mg x = some (.ref (He.ga K x))
  ln : ∀ st ds, F st ds ≠ none → ds.length = n
  nn : ps.length = n + 1
theorem fn_okGD {P : Program} {w : World} {K : PySem.W.Frag} {mg : Str → Option Value} {base : Heap} {x y : Str} {st : Stmt} {fd : FuncData} {N ps : List Str} {k : Nat} {g : MoF} (F : FunD K x x (defArgs st) (defBody st) (defScope st) [] [] (He.ga K x) fd) (S : FnScope (y :: N) (y :: ps) (defScope st)) (gl : mg x = some (.ref (He.ga K x)))
    (b : ∀ (kV doc pm : Value) (an : Option Addr) (cdv ct : Value) (us : List Value), us.length = (y :: ps).length → bindArgs (PySem.W.fnOf x x (defArgs st) (defBody st) (defScope st) .none kV doc pm an cdv ct) ⟨us, []⟩ = pure ((y :: ps).zip us))
    (hb : ∀ (cdv : Value) (A : Around) (outer : List PySem.Env) (s : Shared) (H : Hp) (E : XK), A.guards = some [] → Room k (A.deeper (PyProof.Rows.envOfC x (defScope st) s.heap.objs.size (He.ga K x) cdv)) → SVsL (cxOf (L2.CX P w) P w K mg base (y :: N) x (defScope st) (He.ga K x) cdv A outer s H E) E 0 (defBody st) g) :
    FdGE P w K mg base (k + 1) x (y :: ps) ps.length (guardD ps.length (runD N.length g)) := by
  refine ⟨⟨fd, fun A hA room => ?_, F.bindsN b⟩, F.kp, gl, fun st ds h => guardD_len h, rfl⟩
  refine runs_at F S room (fun vs H Q E h => ?_) fun cdv outer s H vs Q E hr h => ?_
  · obtain ⟨a, us, ds, st, G, e, _, _, r, hl, _⟩ := h
    rw [e]
    show us.length + 1 = ps.length + 1
    rw [r.length, hl]
  · obtain ⟨t, p, q⟩ := hb cdv A outer s H E hA hr
    exact ⟨t, p, bodyD q h⟩
section
variable {X : Cx} {E : XK} {i : Nat}
theorem evL_callGD {k n : Nat} {x y : Str} {ps : List Str} {F : FnD} {p p1 pos : Pos} {es : List Expr} {f : Mo (List D)} (hF : FdGE X.prog X.w X.K X.mg X.base k x ps n F) (h0 : X.A.guards = some []) (hr : Room k X.A) (hx : Passes (L2.CX X.prog X.w) X E)
    (ha : EA X E es f) (hN : X.N[i]? = some y := by rfl) (hv : Vis X.env.scope y := by first | exact Or.inl rfl | exact Or.inr (Or.inl rfl) | exact Or.inr (Or.inr rfl)) (hd : (y == ("__debug__" : Str)) = false := by decide) (hcd : (y == ("__classdict__" : Str)) = false := by decide)
    (hg : Gl X x := by rfl) (hdb : (x == ("__debug__" : Str)) = false := by decide) (he : starEach (.Name y p1 :: es) X.env = (false, eval (.Name y p1) X.env) :: starEach es X.env := by rfl)
    (hpl : (backTo pos (starEach es X.env)).any (·.1) = false := by rfl) : EVL X E i (.Call (.Name x p) (.Name y p1 :: es) [] pos) (endD F f) := by
  obtain ⟨⟨fd, h1, h2⟩, kp, gl, hl, nn⟩ := hF
  obtain ⟨t, pt, q⟩ := ha
  refine ⟨_, pe_here (h1 X.A h0 hr) (fun vs H Q E h => by
    obtain ⟨a, us, ds, st, G, e, _, _, r, hl, _⟩ := h
    rw [e, nn]
    show us.length + 1 = n + 1
    rw [r.length, hl]) hg gl kp h2 hx (pa_cons (pe_var hN hv hd hcd) pt he) hdb he hpl, fun G ρ st a σ H Q j at_ l h => ?_⟩
  refine ⟨.ref a, at_, q G ρ σ H _ j ?_⟩
  unfold endD at h
  match hf : f ρ, h with
  | none, h => simp only [hf] at h; exact h
  | some (.error x), h => simp only [hf] at h; exact h
  | some (.ok (ρ1, as)), h =>
    simp only [hf] at h
    intro G1 us H1 e1 r1
    show spDk X.K n F ((.ref a :: us) ++ []) H1 Q E
    rw [List.append_nil]
    refine endD_sem hl e1.j (l.ex e1) r1 ?_
    match hF : F st as, h with
    | none, h => simp only [hF] at h; exact h.elim
    | some (.error x), h => simp only [hF] at h; exact fun C dx H' z => h C dx H' (XP.trans e1 z)
    | some (.ok (st', d)), h => simp only [hF] at h; exact fun G' v H' t l2 rv => h G' v H' ((l.tr e1).trans t) l2 rv
end
theorem Ex.past {K : PySem.W.Frag} {G H G1 H1 G2 H2 : Hp} {ρ ρ1 ρ2 : En} {σ σ1 σ2 : St} {a : Addr} (e : Ex K G ρ σ H G1 ρ1 σ1 H1) (ha : H a = none) (ni : ∀ b, ¬ Inn K H1 a b) (t : TrL K a G1 ρ1 σ1 H1 G2 ρ2 σ2 H2) : Ex K G ρ σ H G2 ρ2 σ2 H2 where
  j := t.j
  g := e.g.trans t.g
  new := fun c hc => by
    rcases t.new c hc with z | z | z
    · exact e.new c z
    · exact .inr (.inl (e.dom c z))
    · rcases e.ow c z with z | z
      · exact .inr (.inr z)
      · exact .inr (.inl z)
  kept := fun c o h n => t.kept c o (e.kept c o h n) (fun z => by
    rcases e.ow c z with z | z
    · exact n z
    · rw [h] at z; cases z) (fun z => by rw [z, ha] at h; cases h) (ni c)
  ow := fun c hc => by
    rcases t.ow c hc with z | z
    · exact e.ow c z
    · exact .inr (e.dom c z)
  dom := fun c hc => e.dom c (t.dom c hc)
  bx := fun i ds h => by
    obtain ⟨⟨es, h1⟩, h2⟩ := t.bx i ds h
    obtain ⟨h3, h4⟩ := e.bx i es h1
    exact ⟨h3, h2.trans h4⟩
  bd := fun i s h w => by
    obtain ⟨⟨s1, h1, q1⟩, h2⟩ := t.bd i s h w
    obtain ⟨h3, h4⟩ := e.bd i s1 h1 q1
    exact ⟨h3, h2.trans h4⟩
  tt := e.tt.trans t.tt
def endB (o : Option (Except Exn (En × Dst × Fl))) : Option (Except Exn (En × Fl)) := match o with
  | some (.ok (ρ, _, fl)) => some (.ok (ρ, fl))
  | _ => none
theorem endB_post {K : PySem.W.Frag} {E : XK} {i : Nat} {a : Addr} {G H G1 H1 : Hp} {ρ ρ1 : En} {σ σ1 : St} {De : Ends} {o : Option (Except Exn (En × Dst × Fl))} (e : Ex K G ρ σ H G1 ρ1 σ1 H1) (ha : H a = none) (ni : ∀ b, ¬ Inn K H1 a b) (h : PostS K E G ρ σ H De (endB o)) : PostSL K E i a G1 ρ1 σ1 H1 De o := by
  unfold endB at h
  match o, h with
  | none, h => exact h.elim
  | some (.error x), h => exact h.elim
  | some (.ok (ρ', st', .nx)), h => exact fun G' σ' H' tr _ _ => h G' σ' H' (e.past ha ni tr)
  | some (.ok (ρ', st', .bk)), h => exact fun G' σ' H' tr _ _ => h G' σ' H' (e.past ha ni tr)
  | some (.ok (ρ', st', .ct)), h => exact fun G' σ' H' tr _ _ => h G' σ' H' (e.past ha ni tr)
  | some (.ok (ρ', st', .rt d)), h => exact fun G' σ' v H' tr _ r => h G' σ' v H' (e.past ha ni tr) r
theorem RpF.live0 {K : PySem.W.Frag} {G : Hp} {fs : List (Str × V)} {x : Str} (h : RpF K G fs [(.str x, .none)]) : fs = [(x, V.non)] := by
  cases h with
  | cons rv t => cases t; cases rv; rfl
def newK : List (D × D) → Bool
  | [(.str f, .none)] => decide (f = "live")
  | _ => false
theorem newK_ok {kvs : List (D × D)} (h : newK kvs = true) : kvs = [(.str "live", .none)] := by
  unfold newK at h
  split at h
  · rw [of_decide_eq_true h]
  · cases h
section
variable {X : Cx} {E : XK} {i : Nat}
theorem new_sem {c : Str} {F : FnI} {n : Nat} {f : Mo (List D)} {t : TA} (hl : ∀ ds, F ds ≠ none → ds.length = n) (q : ∀ G ρ σ H Q, J X.K G ρ σ H → Post X.K E (RpAll X.K) G ρ σ H Q (f ρ) → t σ H Q) :
    ∀ G ρ σ H Q, J X.K G ρ σ H → PostMk X.K E c G ρ σ H Q (mNew F f ρ) → tMake (He.ga X.K c) (spI X.K c n F) [] E t σ H Q := by
  intro G ρ σ H Q j h
  refine q G ρ σ H _ j ?_
  unfold mNew mBind at h
  match hf : f ρ, h with
  | none, h => simp only [hf] at h; exact h.elim
  | some (.error x), h => simp only [hf] at h; exact h
  | some (.ok (ρ1, ds)), h =>
    simp only [hf] at h
    intro G1 vs H1 e1 r1 x dx hx' hdx hne
    rw [List.append_nil]
    have s12 : SameT H1 (upd (upd H1 dx (.own x)) x (.ins (He.ga X.K c) dx [])) := (sameT_upd hdx).trans (sameT_upd (by rw [upd_ne (Ne.symm hne)]; exact hx'))
    have j1 := e1.j
    have ne : ∀ b, H1 b = none ∨ (upd (upd H1 dx (.own x)) x (.ins (He.ga X.K c) dx [])) b ≠ none := fun b => by
      match q : H1 b with
      | none => exact .inl rfl
      | some o => exact .inr (let ⟨_, e⟩ := s12.toSame.some q; by rw [e]; simp)
    match hF : F ds, h with
    | none, h => simp only [hF] at h; exact h.elim
    | some r, h =>
      refine ⟨x, dx, vs, ds, G1, rfl, upd_same, j1.sub.up (j1.up s12), j1.sub.free hx', r1, hl ds (by rw [hF]; simp), ?_⟩
      rw [hF]
      match r, h with
      | .error y, h => exact fun C d H' z => h C d H' (XP.trans e1 (XP.trans (j1.ex (j1.up s12)) z.of0))
      | .ok kvs, h =>
        intro G' H' g new sb kept dm gx ob
        refine ⟨rfl, ?_⟩
        obtain ⟨d', fs, z1, z2⟩ := ob
        have px : PX G1 H1 G' H' := by
          refine ⟨⟨fun b o hb => kept b o (fun e => by subst e; rw [hx'] at hb; cases hb) (s12.toSame.s _ _ hb), s12.toSame.t.trans dm.t.t⟩, g, sb.toSame, fun b hb => ?_, fun P z => dm.t.n P (s12.g P z)⟩
          rcases new b hb with w | w
          · exact .inl w
          · rcases ne b with u | u
            · exact .inr u
            · exact absurd w u
        exact h G' _ H' (e1.trans (j1.ex px)) ⟨x, d', fs, rfl, e1.dom x hx', gx, z1, j1.nown hx', z2⟩
theorem em_make0 {k n : Nat} {c : Str} {F : FnI} {p pos : Pos} (hF : MkE X.prog X.w X.K X.mg X.base k c n F) (hr : Room (k + 1) X.A) (hx : Passes (L2.CX X.prog X.w) X E) (hg : Gl X c := by rfl) (hdb : (c == ("__debug__" : Str)) = false := by decide) : EM X E c (.Call (.Name c p) [] [] pos) (mNew F mNil) := by
  obtain ⟨M, ⟨fd, ps, h1, h2⟩, gl, hl⟩ := hF
  exact ⟨_, pe_make0 M h1 hr hg gl h2 .nil hx hdb, new_sem hl fun G ρ σ H Q j h => h G _ H j.refl .nil⟩
/-- xs, d = a, Desk(), then others -/
def sDesk2 (l i : Nat) (f : Mo (List D)) (g : Mo (List (D × D))) (k : MoF) : Mo Fl := fun ρ => match f ρ with
  | some (.ok (ρ1, ds)) => (match g ρ1 with
    | some (.ok (ρ2, kvs)) => (match newK kvs && Nat.blt i ρ2.length with
      | true => endB (k ((ρ2.set l (.own ds)).set i (.pur (gD 0))) none)
      | false => none)
    | _ => none)
  | _ => none
theorem ss_desk2 {l : Nat} {x y : Str} {a b : Expr} {rest : List Stmt} {f : Mo (List D)} {g : Mo (List (D × D))} {k : MoF} {px py pt : Pos} {kt k2 : Nat} {pt2 pos : Pos} (hc : X.calm = true) (hN : X.N.Nodup) (h : EN X E a f) (hb : EM X E "Desk" b g) (r : SVsL X E i rest k) (nv : NV X [.Name x px, .Name y py] [l, i])
    (hs1 : starEach [a, b] X.env = (false, eval a X.env) :: starEach [b] X.env := by rfl) (hs2 : starEach [b] X.env = (false, eval b X.env) :: starEach [] X.env := by rfl) (ln : (assignEach [.Name x px, .Name y py] X.env).length = 2 := by rfl) (st : (assignEach [.Name x px, .Name y py] X.env).findIdx? (·.1) = none := by rfl)
    (hs : swapsWithSole [.Tuple [.Name x px, .Name y py] kt pt] (.Tuple [a, b] k2 pt2) pos.line X.env = pure false := by rfl) (hw : swappedStores [.Tuple [.Name x px, .Name y py] kt pt] (.Tuple [a, b] k2 pt2) X.env = pure none := by rfl)
    (ha : (assignEach [.Tuple [.Name x px, .Name y py] kt pt] X.env).map (·.2) = [assign (.Tuple [.Name x px, .Name y py] kt pt) X.env] := by rfl) :
    SVs X E (.Assign [.Tuple [.Name x px, .Name y py] kt pt] (.Tuple [a, b] k2 pt2) pos :: rest) (sDesk2 l i f g k) := by
  obtain ⟨t, p, q⟩ := h
  obtain ⟨t2, p2, q2⟩ := hb
  obtain ⟨u, p3, q3⟩ := r
  refine ⟨_, pss_cons (ps_asg (pe_tupP (pa_cons p (pa_cons p2 pa_nil hs2) hs1)) (pg_tup hc nv ln st) hs hw ha) p3, fun G ρ σ H De jj h => q G ρ σ H _ jj ?_⟩
  unfold sDesk2 at h
  match hf : f ρ, h with
  | none, h => simp only [hf] at h; exact h.elim
  | some (.error y), h => simp only [hf] at h; exact h.elim
  | some (.ok (ρ1, ds)), h =>
    simp only [hf] at h
    intro G1 v1 H1 e1 r1
    refine q2 G1 ρ1 σ H1 _ e1.j ?_
    match hg : g ρ1, h with
    | none, h => simp only [hg] at h; exact h.elim
    | some (.error y), h => simp only [hg] at h; exact h.elim
    | some (.ok (ρ2, kvs)), h =>
      simp only [hg] at h
      intro G2 v2 H2 e2 r2
      match hn : newK kvs && Nat.blt i ρ2.length, h with
      | false, h => simp only [hn] at h; exact h.elim
      | true, h =>
        simp only [hn] at h
        have hend := h
        obtain ⟨n1, n2⟩ := He.ba hn
        have ek := newK_ok n1
        subst ek
        obtain ⟨b1, us, rfl, b2, b3, b4, b5, b6⟩ := r1
        obtain ⟨a1, dx, fs, rfl, a2, a3, a4, a5, a6⟩ := r2
        have hfs := a6.live0
        subst hfs
        refine ⟨by show 2 ≤ sizeLine; decide, fun pp o hp nd => ⟨pp, [.ref b1, .ref a1], rfl, (SqP.new nd).t, rfl, ?_⟩⟩
        have up : Same H2 (upd H2 pp (.frz o (.tup [.ref b1, .ref a1]))) := same_upd hp
        have px : PX G2 H2 G2 (upd H2 pp (.frz o (.tup [.ref b1, .ref a1]))) := ⟨up, .refl _, e2.j.sub.toSame.trans up, fun _ z => .inl z, fun _ t => tabG_put t (pl_none hp)⟩
        obtain ⟨c1, c2, c3⟩ := e2.stay2 b3 b4 b5
        have e3 := (e1.trans e2).trans (e2.j.ex px)
        have e4 := e3.setOwn l (ds := ds) ⟨b1, us, rfl, b2, c1, up _ _ c2, c3, b6.mono e2.g⟩
        have e5 := e4.trans (Ex.set e4.j i (.gst a1 0))
        have Ha : H a1 = none := e1.dom a1 a2
        have no5 : ¬ Ownd ((ρ2.set l (.own ds)).set i (.pur (gD 0))) ((σ.set l (some (.ref b1))).set i (some (.ref a1))) a1 := fun ⟨k, s, es, q1, hl, q2⟩ => by
          rcases getElem?_set_cases q1 with ⟨z1, z⟩ | ⟨z, q1'⟩
          · rw [z] at hl; cases hl
          · rw [List.getElem?_set_ne (Ne.symm z)] at q2
            rcases getElem?_set_cases q1' with ⟨z1, z2⟩ | ⟨z3, q1''⟩
            · rcases getElem?_set_cases q2 with ⟨_, z4⟩ | ⟨z4, _⟩
              · cases z4
                rw [a2] at b4; cases b4
              · exact z4 z1
            · rw [List.getElem?_set_ne (Ne.symm z3)] at q2
              exact a5 ⟨k, s, es, q1'', hl, q2⟩
        have a4' := up _ _ a4
        have at5 : AtS ((σ.set l (some (.ref b1))).set i (some (.ref a1))) i a1 := List.getElem?_set_self (by rw [List.length_set, ← e2.j.len]; exact Nat.le_of_ble_eq_true n2)
        have ni : ∀ b, ¬ Inn X.K (upd H2 pp (.frz o (.tup [.ref b1, .ref a1]))) a1 b := fun b ⟨d2, z⟩ => by rw [a4'] at z; cases z
        exact ⟨_, _, rfl, _, _, rfl, rfl, q3 G2 _ none a1 _ _ De e5.j at5 ⟨a3, no5, dx, a4'⟩ (endB_post e5 Ha ni hend)⟩
end
end HB
namespace HB
open PySem L2
def forLL (g : D → En → Option En) (body : MoF) : List D → MoF
  | [] => fun ρ st => some (.ok (ρ, st, .nx))
  | d :: ds => fun ρ st => match g d ρ with
    | none => none
    | some ρ1 => match body ρ1 st with
      | some (.ok (ρ2, st2, .nx)) => forLL g body ds ρ2 st2
      | some (.ok (ρ2, st2, .ct)) => forLL g body ds ρ2 st2
      | some (.ok (ρ2, st2, .bk)) => some (.ok (ρ2, st2, .nx))
      | some (.ok (ρ2, st2, .rt d)) => some (.ok (ρ2, st2, .rt d))
      | _ => none
def sForL (src : Mo Src) (g : D → En → Option En) (body k : MoF) : MoF := fun ρ st => match src ρ with
  | some (.ok (ρ1, s)) => (match s [] with
    | none => none
    | some items => (match forLL g body items ρ1 st with
      | some (.ok (ρ2, st2, .nx)) => noErr (k ρ2 st2)
      | some (.ok (ρ2, st2, .rt d)) => some (.ok (ρ2, st2, .rt d))
      | _ => none))
  | _ => none
section
variable {X : Cx} {E : XK} {i : Nat}
theorem ssL_for {tg iter : Expr} {body rest : List Stmt} {src : Mo Src} {g : D → En → Option En} {b k : MoF} {ws : List Nat} {pos : Pos} (hp : PassesOwn (model X.prog X.w) X.A X.env X.xe) (hc : X.calm = true) (hi : IV X E tg iter src []) (hcs : ∀ ρ ρ' s, src ρ = some (.ok (ρ', s)) → Const s) (hg : GV X tg g ws) (hb : SVsL X E i body b) (r : SVsL X E i rest k) (hne : i ∉ ws := by decide)
    (hfs : ∀ x, foldedSetIterable iter X.env x = pure x := by intro _; rfl) : SVsL X E i (.For tg iter body [] pos :: rest) (sForL src g b k) := by
  obtain ⟨wi, pi, qi⟩ := hi
  obtain ⟨tg, pg, qg⟩ := hg
  obtain ⟨tb, pb, qb⟩ := hb
  obtain ⟨u, p2, q2⟩ := r
  refine ⟨_, pss_cons (ps_for hp hc pi pg pb hfs) p2, fun G ρ st a σ H De j at_ l h => ?_⟩
  refine qi G ρ σ H _ j ?_
  unfold sForL at h
  match hs : src ρ, h with
  | none, h => simp only [hs] at h; exact h.elim
  | some (.error x), h => simp only [hs] at h; exact h.elim
  | some (.ok (ρ1, s)), h =>
    simp only [hs] at h
    have hcon := hcs ρ ρ1 s hs
    intro G1 H1 Jt e1 hit
    match hi : s [], h with
    | none, h => simp only [hi] at h; exact h.elim
    | some items, h =>
      simp only [hi] at h
      have h' : PostSL X.K E i a G ρ σ H { De with nx := u De } (forLL g b items ρ1 st) := by
        match hl : forLL g b items ρ1 st, h with
        | none, h => simp only [hl] at h; exact h.elim
        | some (.error x), h => simp only [hl] at h; exact h.elim
        | some (.ok (ρ2, st2, .nx)), h =>
          simp only [hl] at h
          obtain ⟨h3, nee⟩ := noErr_post h
          exact fun G' σ' H' tr l' at' => q2 G' ρ2 st2 a σ' H' De tr.j at' l' (PostSL.tr tr nee h3)
        | some (.ok (ρ2, st2, .bk)), h => simp only [hl] at h; exact h.elim
        | some (.ok (ρ2, st2, .ct)), h => simp only [hl] at h; exact h.elim
        | some (.ok (ρ2, st2, .rt d)), h => simp only [hl] at h; exact h
      have l1 := l.ex e1
      have t1 := l.tr e1
      refine ⟨fun n m σ2 H2 => m = items.length - n ∧ n ≤ items.length ∧ ∃ G2 ρ2 st2, TrL X.K a G1 ρ1 σ H1 G2 ρ2 σ2 H2 ∧ Ld X.K G2 a st2 ρ2 σ2 H2 ∧ AtS σ2 i a ∧ PostSL X.K E i a G ρ σ H { De with nx := u De } (forLL g b (items.drop n) ρ2 st2), ⟨items.length, by omega, Nat.zero_le _, G1, ρ1, st, l1.tr e1.j.refl, l1, at_, h'⟩, ?_⟩
      rintro n m σ2 H2 ⟨rfl, hile, G2, ρ2, st2, t2, l2, at2, hpost⟩
      obtain ⟨hgo, hstop⟩ := hit n G2 ρ2 σ2 H2 items t2.g t2.j (fun _ z => nomatch z) ((hcon ρ2).trans hi)
      by_cases hlt : n < items.length
      · have hd : items[n]? = some items[n] := List.getElem?_eq_getElem hlt
        obtain ⟨go, yld⟩ := hgo _ hd
        rw [List.drop_eq_getElem_cons hlt] at hpost
        refine .inr ⟨go, fun σ' H' => ∃ G3 ρ3 st3, TrL X.K a G1 ρ1 σ H1 G3 ρ3 σ' H' ∧ Ld X.K G3 a st3 ρ3 σ' H' ∧ AtS σ' i a ∧ PostSL X.K E i a G ρ σ H { De with nx := u De } (forLL g b (items.drop (n + 1)) ρ3 st3), fun σ' H' ⟨G3, ρ3, st3, w1, w2, w3, w4⟩ => ⟨items.length - (n + 1), by omega, rfl, hlt, G3, ρ3, st3, w1, w2, w3, w4⟩, fun x H3 y => ?_⟩
        obtain ⟨G3, px, rx⟩ := yld x H3 y
        have e3 := t2.j.ex px
        unfold forLL at hpost
        match eg : g items[n] ρ2, hpost with
        | none, hpost => simp only [eg] at hpost; exact hpost.elim
        | some ρ4, hpost =>
          simp only [eg] at hpost
          refine qg G3 ρ2 σ2 H3 _ items[n] x ρ4 e3.j rx eg fun σ4 x4 s4 => ?_
          have e4 := e3.trans x4
          have l4 := l2.ex e4
          have t4 := t2.trans (l2.tr e4)
          have at4 : AtS σ4 i a := (s4.2 i hne).trans at2
          refine qb G3 ρ4 st2 a σ4 H3 _ e4.j at4 l4 ?_
          match eb : b ρ4 st2, hpost with
          | none, hpost => simp only [eb] at hpost; exact hpost.elim
          | some (.error x), hpost => simp only [eb] at hpost; exact hpost.elim
          | some (.ok (ρ5, st5, .nx)), hpost => simp only [eb] at hpost; exact fun G5 σ5 H5 x5 l5 at5 => ⟨G5, ρ5, st5, t4.trans x5, l5, at5, hpost⟩
          | some (.ok (ρ5, st5, .ct)), hpost => simp only [eb] at hpost; exact fun G5 σ5 H5 x5 l5 at5 => ⟨G5, ρ5, st5, t4.trans x5, l5, at5, hpost⟩
          | some (.ok (ρ5, st5, .bk)), hpost => simp only [eb] at hpost; exact fun G5 σ5 H5 x5 l5 at5 => hpost G5 σ5 H5 (t1.trans (t4.trans x5)) l5 at5
          | some (.ok (ρ5, st5, .rt d)), hpost => simp only [eb] at hpost; exact fun G5 σ5 v H5 x5 l5 r => hpost G5 σ5 v H5 (t1.trans (t4.trans x5)) l5 r
      · have e : n = items.length := by omega
        subst e
        rw [List.drop_length] at hpost
        exact .inl ⟨hstop (Nat.le_refl _), hpost G2 σ2 H2 (t1.trans t2) l2 at2⟩
/-- x = e, which may change it; then others -/
def sSetL (l : Nat) (f : MoL D) (k : MoF) : MoF := fun ρ st => match f ρ st with
  | none => none
  | some (.error x) => some (.error x)
  | some (.ok (ρ1, st1, d)) => noErr (k (ρ1.set l (.pur d)) st1)
end
end HB
namespace HB
open PySem L2
section
variable {K : PySem.W.Frag} {a : Addr} {st st' : Dst} {G H G' H' : Hp} {ρ ρ' : En} {σ σ' : St}
theorem Ld.apart (l : Ld K G a st ρ σ H) {p : Addr} {vs : List V} (h : H p = some (.lst vs)) : p ≠ a ∧ ¬ Inn K H a p := by
  obtain ⟨dx, v, ha⟩ := l.has
  refine ⟨fun z => (by rw [z, ha] at h; cases h), fun ⟨d2, z⟩ => ?_⟩
  obtain ⟨_, _, w⟩ := l
  match st, w with
  | none, ⟨dx, w⟩ => rw [w] at z; cases z
  | some kvs, ⟨dx, y, dy, fs, _, w, _, _, hy, _⟩ =>
    rw [w] at z
    cases z
    rw [hy] at h; cases h
theorem TrL.stay (t : TrL K a G ρ σ H G' ρ' σ' H') (l : Ld K G a st ρ σ H) {p : Addr} {vs : List V} (g0 : G p = none) (h0 : H p = some (.lst vs)) (n0 : ¬ Ownd ρ σ p) : G' p = none ∧ H' p = some (.lst vs) ∧ ¬ Ownd ρ' σ' p := by
  obtain ⟨n1, n2⟩ := l.apart h0
  refine ⟨?_, t.kept p _ h0 n0 n1 n2, fun z => ?_⟩
  · match y : G' p with
    | none => rfl
    | some o =>
      rcases t.new p (by rw [y]; simp) with z | z | z
      · exact absurd g0 z
      · rw [h0] at z; cases z
      · exact absurd z n0
  · rcases t.ow p z with y | y
    · exact n0 y
    · rw [h0] at y; cases y
/-- a list that is being made -/
theorem TrL.poke {p : Addr} {xs ys : List V} (t : TrL K a G ρ σ H G' ρ' σ' H') (l : Ld K G' a st ρ' σ' H') (h1 : H p = none) (h2 : G' p = none) (no : ¬ Ownd ρ' σ' p) (hp : H' p = some (.lst xs)) : TrL K a G ρ σ H G' ρ' σ' (upd H' p (.lst ys)) ∧ Ld K G' a st ρ' σ' (upd H' p (.lst ys)) := by
  obtain ⟨n1, n2⟩ := l.apart hp
  refine ⟨⟨t.j.butP (P := fun b => b = p) (fun b z => by rw [z]; exact no) (.refl _) (fun b hb => .inl hb) (t.j.sub.put h2 (pl_of hp)) (fun b o nb ho => ?_), t.g, t.new, fun b o hb n na ni => ?_, t.ow, fun b hb => ?_, t.bx, t.bd, t.tt.trans (.put (pl_of hp)), fun b hb => ?_⟩, ?_⟩
  · intro _
    rw [upd_ne nb]; exact ho
  · intro _
    rw [upd_ne (ne_of_none hb h1)]
    exact t.kept b o hb n na ni
  · by_cases z : b = p
    · subst z; rw [upd_same] at hb; cases hb
    · rw [upd_ne z] at hb; exact t.dom b hb
  · obtain ⟨d2, hb⟩ := hb
    rw [upd_ne (Ne.symm n1)] at hb
    exact t.inn b ⟨d2, hb⟩
  · obtain ⟨g0, n0, w⟩ := l
    refine ⟨g0, n0, ?_⟩
    match st, w with
    | none, ⟨dx, w⟩ => exact ⟨dx, by rw [upd_ne (Ne.symm n1)]; exact w⟩
    | some kvs, ⟨dx, y, dy, fs, ne, w1, w2, w3, w4, w5⟩ =>
      have ny : y ≠ p := fun z => n2 ⟨dx, by rw [← z]; exact w1⟩
      exact ⟨dx, y, dy, fs, ne, by rw [upd_ne (Ne.symm n1)]; exact w1, w2, w3, by rw [upd_ne ny]; exact w4, w5⟩
/-- from now on that list is data -/
theorem TrL.still {p : Addr} {xs : List V} (t : TrL K a G ρ σ H G' ρ' σ' H') (l : Ld K G' a st ρ' σ' H') (h1 : H p = none) (h2 : G' p = none) (hp : H' p = some (.lst xs)) (no : ¬ Ownd ρ' σ' p) : TrL K a G ρ σ H (upd G' p (.lst xs)) ρ' σ' H' ∧ Ld K (upd G' p (.lst xs)) a st ρ' σ' H' := by
  obtain ⟨n1, n2⟩ := l.apart hp
  have sg : Same G' (upd G' p (.lst xs)) := same_upd h2
  refine ⟨⟨⟨t.j.sub.take hp, t.j.len, fun i d q => ?_, fun i s es q hl => ?_, t.j.alone, t.j.lk⟩, t.g.trans sg, fun b hb => ?_, t.kept, t.ow, t.dom, t.bx, t.bd, t.tt, t.inn⟩, ?_⟩
  · obtain ⟨v, q1, q2⟩ := t.j.pur i d q
    exact ⟨v, q1, q2.mono sg⟩
  · obtain ⟨b, o, q1, q2, q3, q4⟩ := t.j.hold i s es q hl
    have ne : b ≠ p := fun z => by
      subst z
      exact no ⟨i, s, es, q, hl, q1⟩
    exact ⟨b, o, q1, q2, by rw [upd_ne ne]; exact q3, q4.mono sg⟩
  · by_cases z : b = p
    · subst z; exact .inr (.inl h1)
    · rw [upd_ne z] at hb; exact t.new b hb
  · obtain ⟨g0, n0, w⟩ := l
    refine ⟨by rw [upd_ne (Ne.symm n1)]; exact g0, n0, ?_⟩
    match st, w with
    | none, w => exact w
    | some kvs, ⟨dx, y, dy, fs, ne, w1, w2, w3, w4, w5⟩ =>
      have ny : y ≠ p := fun z => n2 ⟨dx, by rw [← z]; exact w1⟩
      exact ⟨dx, y, dy, fs, ne, w1, by rw [upd_ne ny]; exact w2, w3, w4, w5.mono sg⟩
/-- out of the block -/
theorem TrL.rest {vs : List Nat} (j : J K G ρ σ H) (no : noOwn ρ vs = true) (t : TrL K a G (wipeE ρ vs) (wipe σ vs) H G' ρ' (wipe σ vs) H') (l : Ld K G' a st ρ' (wipe σ vs) H') : TrL K a G ρ σ H G' (restE ρ ρ' vs) σ H' ∧ Ld K G' a st (restE ρ ρ' vs) σ H' := by
  refine ⟨⟨⟨t.j.sub, by rw [restE_len, t.j.len, wipe_length], fun i d h => ?_, fun i s0 ds h hl => ?_, fun i k s0 t0 ds es b h1 l1 h2 l2 h3 h4 => ?_, fun i g o o' z xs h1 h2 => ?_⟩, t.g, fun b hb => ?_, fun b o q n na ni => t.kept b o q (fun z => n (wipe_ownd z)) na ni, fun b hb => ?_, t.dom, fun i ds h => ?_, fun i s h ql => ?_, t.tt, t.inn⟩, ?_⟩
  · rcases restE_get h with ⟨z, h'⟩ | ⟨z, h'⟩
    · rw [List.getD_eq_getElem?_getD] at h'
      match q : ρ[i]?, h' with
      | none, h' => cases h'
      | some s, h' =>
        have e1 : s = .pur d := h'.symm
        subst e1
        obtain ⟨v, w1, w2⟩ := j.pur i d q
        exact ⟨v, w1, w2.mono t.g⟩
    · obtain ⟨v, w1, w2⟩ := t.j.pur i d h'
      exact ⟨v, (wipe_out z).symm.trans w1, w2⟩
  · obtain ⟨z, h'⟩ := rest_out no h hl
    obtain ⟨b, o, w1, w2⟩ := t.j.hold i s0 ds h' hl
    exact ⟨b, o, (wipe_out z).symm.trans w1, w2⟩
  · obtain ⟨z1, h1'⟩ := rest_out no h1 l1
    obtain ⟨z2, h2'⟩ := rest_out no h2 l2
    exact t.j.dis i k s0 t0 ds es b h1' l1 h2' l2 ((wipe_out z1).trans h3) ((wipe_out z2).trans h4)
  · obtain ⟨z1, h1'⟩ := rest_out no h1 rfl
    obtain ⟨z2, h2'⟩ := rest_out no h2 rfl
    obtain ⟨b, v, u, q1, q2, q3⟩ := t.j.lk i g o o' z xs h1' h2'
    exact ⟨b, v, u, (wipe_out z1).symm.trans q1, q2, (wipe_out z2).symm.trans q3⟩
  · rcases t.new b hb with z | z | z
    · exact .inl z
    · exact .inr (.inl z)
    · exact .inr (.inr (wipe_ownd z))
  · rcases t.ow b (rest_ownd no hb) with z | z
    · exact .inl (wipe_ownd z)
    · exact .inr z
  · obtain ⟨z, h'⟩ := rest_out no h rfl
    obtain ⟨⟨es, w1⟩, _⟩ := t.bx i ds h'
    rcases wipeE_get w1 with w3 | ⟨_, w4⟩
    · cases w3
    · exact ⟨⟨es, w4⟩, rfl⟩
  · obtain ⟨es, hl⟩ := Sl.isD_hs ql
    obtain ⟨z, h'⟩ := rest_out no h hl
    obtain ⟨⟨s1, w1, wq⟩, _⟩ := t.bd i s h' ql
    rcases wipeE_get w1 with w3 | ⟨_, w4⟩
    · subst w3; cases wq
    · exact ⟨⟨s1, w4, wq⟩, rfl⟩
  · obtain ⟨g0, n0, w⟩ := l
    refine ⟨g0, fun z => n0 (rest_ownd no z), ?_⟩
    match st, w with
    | none, w => exact w
    | some kvs, ⟨dx, y, dy, fs, ne, w1, w2, w3, w4, w5⟩ => exact ⟨dx, y, dy, fs, ne, w1, w2, fun z => w3 (rest_ownd no z), w4, w5⟩
end
def lcLL (vs : List Nat) (g : D → En → Option En) (elt : MoL D) : List D → En → Dst → Option (En × Dst × List D)
  | [], ρ, st => some (ρ, st, [])
  | d :: ds, ρ, st => match g d ρ with
    | none => none
    | some ρ1 => match elt ρ1 st with
      | some (.ok (ρ3, st3, y)) => (match lcLL vs g elt ds (wipeE ρ3 vs) st3 with
        | some (ρ4, st4, ys) => some (ρ4, st4, y :: ys)
        | none => none)
      | _ => none
def mBlkL (vs : List Nat) (src : Mo Src) (g : D → En → Option En) (elt : MoL D) : MoL D := fun ρ st => match src ρ with
  | some (.ok (ρ1, s)) => (match noOwn ρ1 vs with
    | false => none
    | true => match s [] with
      | none => none
      | some items => match Nat.blt items.length 1000000 with
        | false => none
        | true => match lcLL vs g elt items (wipeE ρ1 vs) st with
          | some (ρ', st', ys) => some (.ok (restE ρ1 ρ' vs, st', .list ys))
          | none => none)
  | _ => none
def teL (K : PySem.W.Frag) (E : XK) (i : Nat) (f : MoL D) : TE := fun σ H Q => ∃ G ρ st, ∃ a : Addr, J K G ρ σ H ∧ AtS σ i a ∧ Ld K G a st ρ σ H ∧ PostL K E (Rp K) a G ρ σ H Q (f ρ st)
section
variable {X : Cx} {E : XK} {i : Nat}
theorem EVL.pe {e : Expr} {f : MoL D} (h : EVL X E i e f) : PE X e (teL X.K E i f) := by
  obtain ⟨t, p, q⟩ := h
  exact ⟨fun pins s σ H Q I ⟨G, ρ, st, a, j, at_, l, z⟩ => p.run pins s σ H Q I (q G ρ st a σ H Q j at_ l z)⟩
theorem lcL_sem {wi : TI} {src : Mo Src} {vs : List Nat} {g : D → En → Option En} {ws : List Nat} {elt : MoL D} (qi : ∀ G ρ σ H R, J X.K G ρ σ H → PostI X.K E [] G ρ σ H R (src ρ) → wi σ H R) (hcs : ∀ ρ ρ' s, src ρ = some (.ok (ρ', s)) → Const s) (hws : ∀ k ∈ ws, k ∈ vs) (hne : i ∉ vs) :
    ∀ G ρ st (a : Addr) σ H Q, J X.K G ρ σ H → AtS σ i a → Ld X.K G a st ρ σ H → PostL X.K E (Rp X.K) a G ρ σ H Q (mBlkL vs src g elt ρ st) → tLc wi (tG X.K g ws) (fun _ H Q => Q true H) (teL X.K E0 i elt) vs σ H Q := by
  intro G ρ st a σ H Q j at_ l h
  refine qi G ρ σ H _ j ?_
  unfold mBlkL at h
  match hs : src ρ, h with
  | none, h => simp only [hs] at h; exact h.elim
  | some (.error x), h => simp only [hs] at h; exact h.elim
  | some (.ok (ρ1, s)), h =>
    simp only [hs] at h
    have hcon := hcs ρ ρ1 s hs
    intro G1 H1 Jt e1 hit Dd hD
    match hno : noOwn ρ1 vs, h with
    | false, h => simp only [hno] at h; exact h.elim
    | true, h =>
      simp only [hno] at h
      match hi : s [], h with
      | none, h => simp only [hi] at h; exact h.elim
      | some items, h =>
        simp only [hi] at h
        match hb : Nat.blt items.length 1000000, h with
        | false, h => simp only [hb] at h; exact h.elim
        | true, h =>
          simp only [hb] at h
          match hl : lcLL vs g elt items (wipeE ρ1 vs) st, h with
          | none, h => simp only [hl] at h; exact h.elim
          | some (ρE, stE, ys), h =>
            simp only [hl] at h
            have at1 : AtS (wipe σ vs) i a := (wipe_out hne).trans at_
            have lw : Ld X.K G1 a st (wipeE ρ1 vs) (wipe σ vs) H1 := (l.ex e1).ex (e1.j.refl.wiped vs)
            have jw := e1.j.wipe vs
            have x0 : Ex X.K G1 (wipeE ρ1 vs) (wipe σ vs) H1 G1 (wipeE ρ1 vs) (wipe σ vs) (upd H1 Dd (.lst [])) := new_list jw hD .nil
            have hlen : items.length ≤ 1000000 := by
              have := Nat.le_of_ble_eq_true hb
              omega
            refine ⟨fun n m H2 => ∃ (G2 : Hp) (ρ2 : En) (st2 : Dst) (vacc : List V) (dacc rest : List D), m = items.length - n ∧ n ≤ items.length ∧ TrL X.K a G1 (wipeE ρ1 vs) (wipe σ vs) H1 G2 ρ2 (wipe σ vs) H2 ∧ Ld X.K G2 a st2 ρ2 (wipe σ vs) H2 ∧ G2 Dd = none ∧ ¬ Ownd ρ2 (wipe σ vs) Dd ∧ H2 Dd = some (.lst vacc) ∧ RpAll X.K G2 vacc dacc ∧ dacc.length ≤ n ∧ lcLL vs g elt (items.drop n) ρ2 st2 = some (ρE, stE, rest) ∧ dacc ++ rest = ys,
              ⟨items.length, G1, wipeE ρ1 vs, st, [], [], ys, by omega, Nat.zero_le _, lw.tr x0, lw.ex x0, e1.j.sub.free hD, jw.nown hD, upd_same, .nil, Nat.le_refl _, hl, rfl⟩, ?_⟩
            rintro n m H2 ⟨G2, ρ2, st2, vacc, dacc, rest, rfl, hile, t2, l2, hG2, hno2, hH2, racc, hla, hlc, hys⟩
            obtain ⟨hgo, hstop⟩ := hit n G2 ρ2 (wipe σ vs) H2 items t2.g t2.j (fun _ z => nomatch z) ((hcon ρ2).trans hi)
            by_cases hlt : n < items.length
            · have hd : items[n]? = some items[n] := List.getElem?_eq_getElem hlt
              obtain ⟨go, yld⟩ := hgo _ hd
              rw [List.drop_eq_getElem_cons hlt] at hlc
              refine .inr ⟨go, fun H6 => ∃ (G6 : Hp) (ρ6 : En) (st6 : Dst) (va : List V) (da re : List D), TrL X.K a G1 (wipeE ρ1 vs) (wipe σ vs) H1 G6 ρ6 (wipe σ vs) H6 ∧ Ld X.K G6 a st6 ρ6 (wipe σ vs) H6 ∧ G6 Dd = none ∧ ¬ Ownd ρ6 (wipe σ vs) Dd ∧ H6 Dd = some (.lst va) ∧ RpAll X.K G6 va da ∧ da.length ≤ n + 1 ∧ lcLL vs g elt (items.drop (n + 1)) ρ6 st6 = some (ρE, stE, re) ∧ da ++ re = ys,
                fun H6 ⟨G6, ρ6, st6, va, da, re, k1, k2, k3, k4, k5, k6, k7, k8, k9⟩ => ⟨items.length - (n + 1), by omega, G6, ρ6, st6, va, da, re, rfl, hlt, k1, k2, k3, k4, k5, k6, k7, k8, k9⟩, fun x H3 y => ?_⟩
              obtain ⟨G3, px, rx⟩ := yld x H3 y
              have e3 : Ex X.K G2 ρ2 (wipe σ vs) H2 G3 ρ2 (wipe σ vs) H3 := t2.j.ex px
              unfold lcLL at hlc
              match eg : g items[n] ρ2, hlc with
              | none, hlc => simp only [eg] at hlc; cases hlc
              | some ρ3, hlc =>
                simp only [eg] at hlc
                refine ⟨G3, ρ2, items[n], ρ3, e3.j, rx, eg, fun σ4 x4 s4 => ?_⟩
                have s5 : Sets vs (wipe σ vs) σ4 := ⟨s4.1, fun k hk => s4.2 k fun z => hk (hws k z)⟩
                have ew : wipe σ4 vs = wipe σ vs := by
                  rw [wipe_ext s5]
                  exact wipe_ext ⟨wipe_length σ vs, fun k hk => wipe_out hk⟩
                have e4 := e3.trans x4
                have l4 := l2.ex e4
                have t4 := t2.trans (l2.tr e4)
                have at4 : AtS σ4 i a := (s5.2 i hne).trans at1
                refine ⟨ew, ?_⟩
                refine iteT ⟨G3, ρ3, st2, a, e4.j, at4, l4, ?_⟩
                match ee : elt ρ3 st2, hlc with
                | none, hlc => simp only [ee] at hlc; cases hlc
                | some (.error x), hlc => simp only [ee] at hlc; cases hlc
                | some (.ok (ρ7, st7, yd)), hlc =>
                  simp only [ee] at hlc
                  intro G7 yv H7 t7 l7 ry
                  match er : lcLL vs g elt (items.drop (n + 1)) (wipeE ρ7 vs) st7, hlc with
                  | none, hlc => simp only [er] at hlc; cases hlc
                  | some (ρ8, st8, rest'), hlc =>
                    simp only [er] at hlc
                    cases hlc
                    have ex8 := t7.j.refl.wiped vs
                    rw [ew] at ex8
                    have t8 := (t4.trans t7).trans (l7.tr ex8)
                    have l8 := l7.ex ex8
                    obtain ⟨o1, o2, o3⟩ := ((l2.tr e4).trans t7 |>.trans (l7.tr ex8)).stay l2 hG2 hH2 hno2
                    obtain ⟨t9, l9⟩ := t8.poke (ys := vacc ++ [yv]) l8 hD o1 o3 o2
                    refine ⟨vacc, o2, ?_, G7, _, st7, vacc ++ [yv], dacc ++ [yd], rest', t9, l9, o1, o3, upd_same, (racc.mono ((l2.tr e4).trans t7).g).append (.cons ry .nil), ?_, er, ?_⟩
                    · rw [racc.length]
                      exact Nat.lt_of_lt_of_le (show dacc.length < 1000000 by omega) (by decide)
                    · simp only [List.length_append, List.length_singleton]
                      omega
                    · rw [List.append_assoc]
                      exact hys
            · have e : n = items.length := by omega
              subst e
              rw [List.drop_length] at hlc
              unfold lcLL at hlc
              cases hlc
              rw [List.append_nil] at hys
              subst hys
              refine .inl ⟨hstop (Nat.le_refl _), ?_⟩
              obtain ⟨t3, l3⟩ := TrL.rest e1.j hno t2 l2
              obtain ⟨t4, l4⟩ := ((l.tr e1).trans t3).still l3 (e1.dom _ hD) hG2 hH2 (fun z => hno2 (rest_ownd hno z))
              exact h _ _ H2 t4 l4 (.lst upd_same (racc.mono (same_upd hG2)))
/-- [elt for tg in iter] -/
def LCL (X : Cx) (E : XK) (i : Nat) (elt tg iter : Expr) (scope : Scope) (f : MoL D) : Prop := ∃ wi g tt te own, PI X tg iter wi ∧ BlkOk X.N X.env.scope scope own ∧
  (∀ (s : Shared) (H : Hp) (C : Addr) (cl : List (Str × Addr)) (fp : List Addr), PG (X.blk s H scope (compEnvC scope cl C X.env) fp) tg g) ∧ (∀ (s : Shared) (H : Hp) (C : Addr) (cl : List (Str × Addr)) (fp : List Addr), PTs (X.blk s H scope (compEnvC scope cl C X.env) fp) [] tt) ∧
  (∀ (s : Shared) (H : Hp) (C : Addr) (cl : List (Str × Addr)) (fp : List Addr), PE (X.blk s H scope (compEnvC scope cl C X.env) fp) elt te) ∧ (∀ x, foldedSetIterable iter X.env x = pure x) ∧
  ∀ G ρ st (a : Addr) σ H Q, J X.K G ρ σ H → AtS σ i a → Ld X.K G a st ρ σ H → PostL X.K E (Rp X.K) a G ρ σ H Q (f ρ st) → tLc wi g tt te (own.map (·.2)) σ H Q
theorem lcL_c {elt tg iter : Expr} {scope : Scope} {own : List (Str × Nat)} {src : Mo Src} {ws : List Nat} {g : D → En → Option En} {fe : MoL D} (hi : IV X E tg iter src []) (hcs : ∀ ρ ρ' s, src ρ = some (.ok (ρ', s)) → Const s) (ok : BlkOk X.N X.env.scope scope own)
    (hg : ∀ (s : Shared) (H : Hp) (C : Addr) (cl : List (Str × Addr)) (fp : List Addr), GV (X.blk s H scope (compEnvC scope cl C X.env) fp) tg g ws) (he : ∀ (s : Shared) (H : Hp) (C : Addr) (cl : List (Str × Addr)) (fp : List Addr), EVL (X.blk s H scope (compEnvC scope cl C X.env) fp) E0 i elt fe)
    (hws : ∀ k ∈ ws, k ∈ own.map (·.2) := by decide) (hne : i ∉ own.map (·.2) := by decide) (hs : ∀ x, foldedSetIterable iter X.env x = pure x := by intro _; rfl) : LCL X E i elt tg iter scope (mBlkL (own.map (·.2)) src g fe) := by
  obtain ⟨wi, pi, qi⟩ := hi
  exact ⟨wi, tG X.K g ws, _, teL X.K E0 i fe, own, pi, ok, fun s H C cl fp => (hg s H C cl fp).pg, fun s H C cl fp => pts_nil, fun s H C cl fp => (he s H C cl fp).pe, hs, lcL_sem qi hcs hws hne⟩
theorem LCL.ev {elt tg iter : Expr} {scope : Scope} {f : MoL D} {pos : Pos} (h : LCL X E i elt tg iter scope f) (hc : X.calm = true) (hN : X.N.Nodup) : EVL X E i (.ListComp elt [⟨tg, iter, [], 0⟩] scope pos) f := by
  obtain ⟨wi, g, tt, te, own, h1, h2, h3, h4, h5, h6, q⟩ := h
  exact ⟨_, pe_lc hc hN h1 h2 h3 h4 h5 h6, q⟩
theorem LCL.set {elt tg iter : Expr} {scope : Scope} {f : MoL D} {k : MoF} {rest : List Stmt} {pos spos : Pos} {l : Nat} {y : Str} {py : Pos} (h : LCL X E i elt tg iter scope f) (r : SVsL X E i rest k) (hc : X.calm = true) (hN : X.N.Nodup) (hsw : swapsWith (.ListComp elt [⟨tg, iter, [], 0⟩] scope pos) (some (.Name y py)) spos.line X.env = pure true)
    (hne : Nat.beq l i = false := by rfl) (hy : X.N[l]? = some y := by rfl) (hyl : X.env.scope.names.lookup y = some .local := by rfl) : SVsL X E i (.Assign [.Name y py] (.ListComp elt [⟨tg, iter, [], 0⟩] scope pos) spos :: rest) (sSetL l f k) := by
  obtain ⟨wi, g, tt, te, own, h1, h2, h3, h4, h5, h6, q⟩ := h
  obtain ⟨u, p2, q2⟩ := r
  refine ⟨_, pss_cons (ps_setLc hc hN hy hyl hsw h1 h2 h3 h4 h5 h6) p2, fun G ρ st a σ H De j at_ ld h => ?_⟩
  show tAsg (tLc wi g tt te (own.map (·.2))) (gName l) { De with nx := u De } σ H
  refine q G ρ st a σ H _ j at_ ld ?_
  unfold sSetL at h
  match hf : f ρ st, h with
  | none, h => simp only [hf] at h; exact h.elim
  | some (.error x), h => simp only [hf] at h; exact h
  | some (.ok (ρ1, st1, d)), h =>
    simp only [hf] at h
    intro G1 v H1 tr l1 rv
    obtain ⟨h', nee⟩ := noErr_post h
    have ex := Ex.set tr.j l rv
    have t2 := tr.trans (l1.tr ex)
    exact q2 G1 _ st1 a _ H1 De ex.j ((List.getElem?_set_ne (Nat.ne_of_beq_eq_false hne)).trans at_) (l1.ex ex) (PostSL.tr t2 nee h')
end
end HB
namespace HB
open PySem L2 PySem.Spec PyProof.Rows
theorem isDT_ok {v : Value} (h : isDT v = true) : v = .type "dict" := by
  cases v with
  | type t => exact congrArg Value.type (eq_of_beq h)
  | _ => cases h
theorem rowsD_ok {tab : List (Int × Str)} {d : Data} (h : rowsD tab d = true) : ∃ es ep, d = .dict es ep ∧ rowsB es.toList tab = true := by
  cases d with
  | dict es ep => exact ⟨es, ep, rfl, h⟩
  | _ => cases h
def askI : List (Int × Str) → Int → Option Str
  | [], _ => none
  | p :: r, k => if p.1 = k then some p.2 else askI r k
theorem rowDB_ok {e : DictEntry} {p : Int × Str} (h : rowDB e p = true) : ∃ t u, e.key = .int p.1 t ∧ e.val = .str p.2 u ∧ e.hash = hashInt p.1 := by
  obtain ⟨h1, h2⟩ := He.ba h
  have h3 := of_decide_eq_true h2
  match hk : e.key, hv : e.val, h1 with
  | .int i t, .str z u, h1 =>
    simp only [] at h1
    obtain ⟨a, b⟩ := He.ba h1
    exact ⟨t, u, by rw [of_decide_eq_true a], by rw [of_decide_eq_true b], h3⟩
theorem rowsB_keys {prog : Program} {w : World} : ∀ {es : List DictEntry} {tab : List (Int × Str)}, rowsB es tab = true → ∀ e ∈ es, ∃ k, (intKind prog w).is k e.key = true ∧ e.hash = (intKind prog w).hash k
  | e :: es, p :: ps, h, x, hx => by
    obtain ⟨h1, h2⟩ := He.ba (show (rowDB e p && rowsB es ps) = true from h)
    rcases (List.mem_cons.mp hx) with rfl | hx
    · obtain ⟨t, u, e1, _, e3⟩ := rowDB_ok h1
      exact ⟨p.1, by rw [e1]; exact intKind_is _ _ _ _, e3⟩
    · exact rowsB_keys h2 x hx
theorem rowsB_find : ∀ {es : List DictEntry} {tab : List (Int × Str)} {k : Int} {z : Str}, rowsB es tab = true → askI tab k = some z → ∃ t, (es.find? fun e => Value.isInt k e.key).map (·.val) = some (.str z t)
  | [], [], _, _, _, e => nomatch e
  | e :: es, p :: ps, k, z, h, a => by
    obtain ⟨h1, h2⟩ := He.ba (show (rowDB e p && rowsB es ps) = true from h)
    obtain ⟨t, u, e1, e2, _⟩ := rowDB_ok h1
    unfold askI at a
    by_cases c : p.1 = k
    · rw [if_pos c] at a
      cases a
      refine ⟨u, ?_⟩
      have : Value.isInt k e.key = true := by rw [e1, c]; simp [Value.isInt]
      rw [List.find?_cons_of_pos (p := fun e : DictEntry => Value.isInt k e.key) this]
      show some e.val = _
      rw [e2]
    · rw [if_neg c] at a
      have : ¬ Value.isInt k e.key = true := by rw [e1]; simpa [Value.isInt] using c
      rw [List.find?_cons_of_neg (p := fun e : DictEntry => Value.isInt k e.key) this]
      exact rowsB_find h2 a
theorem glDic_ok {prog : Program} {w : World} {x : Str} {tab : List (Int × Str)} {K : PySem.W.Frag} {h : Heap} (b : glDic x tab K = true) (hk : K.In h) : ∃ f, h.MapOf (intKind prog w) (He.ga K x) f ∧ ∀ k z, askI tab k = some z → ∃ t, f k = some (.str z t) := by
  unfold glDic at b
  cases hl : K.lookup (He.ga K x) with
  | none => rw [hl] at b; cases b
  | some o =>
    rw [hl] at b
    obtain ⟨b1, b2⟩ := He.ba b
    obtain ⟨b2, b3⟩ := He.ba b2
    obtain ⟨b3, b4⟩ := He.ba b3
    obtain ⟨es, ep, hd, hr⟩ := rowsD_ok b4
    refine ⟨findBy (intKind prog w).is es, ⟨o, es, ep, hk _ _ hl, ⟨isDT_ok b1, Option.isNone_iff_eq_none.mp b2, Array.eq_empty_of_size_eq_zero (Nat.eq_of_beq_eq_true b3)⟩, hd, fun e he => rowsB_keys hr e (Array.mem_toList_iff.mpr he), fun k => rfl⟩, fun k z a => ?_⟩
    obtain ⟨t, q⟩ := rowsB_find hr a
    refine ⟨t, ?_⟩
    obtain ⟨l⟩ := es
    simpa [findBy, intKind] using q
def gdD (tab : List (Int × Str)) : D → Option D
  | .int i => match askI tab i with
    | some z => some (.str z)
    | none => none
  | _ => none
def tGd (tab : List (Int × Str)) (te : TE) : TE := fun σ H Q => te σ H fun y H1 => ∃ i z, y = .int i ∧ askI tab i = some z ∧ Q (.str z) H1
section
variable {X : Cx} {E : XK}
theorem pe_gdic {x : Str} {tab : List (Int × Str)} {e : Expr} {te : TE} {p pos : Pos} (g : X.mg x = some (.ref (He.ga X.K x))) (b : glDic x tab X.K = true) (he : PE X e te) (hs : NoSl e) (hg : Gl X x) (hd : (x == ("__debug__" : Str)) = false) : PE X (.Subscript (.Name x p) e pos) (tGd tab te) := by
  refine ⟨fun pins s σ H Q I hh => ?_⟩
  refine subD_of PySem.F.slot_dict_getitem.lookup hs (ld_glob I hg g (thn (he.run pins s σ H _ I hh) fun iv s2 ⟨y, H2, I2, ry, i, z, ey, az, q2⟩ => ?_) hd)
  subst ey
  obtain ⟨t, rfl⟩ : ∃ t, iv = Value.int i t := ry
  obtain ⟨f, hm, hf⟩ := glDic_ok (prog := X.prog) (w := X.w) b I2.kIn
  obtain ⟨t2, hv⟩ := hf i z az
  exact ⟨hm.typeIs, wpAny_getItem_of (knd := intKind X.prog X.w) (intKind_is _ _ _ _) hm hv ⟨.str z, H2, I2.tok _, ⟨t2, rfl⟩, q2⟩⟩
theorem ev_gdic {x : Str} {tab : List (Int × Str)} {e : Expr} {f : Mo D} {p pos : Pos} (g : X.mg x = some (.ref (He.ga X.K x))) (b : glDic x tab X.K = true) (he : EV X E e f) (hs : NoSl e := by exact fun _ _ => rfl) (hg : Gl X x := by rfl) (hd : (x == ("__debug__" : Str)) = false := by decide) :
    EV X E (.Subscript (.Name x p) e pos) (mUn (gdD tab) f) := by
  obtain ⟨t, pt, qt⟩ := he
  refine ⟨_, pe_gdic g b pt hs hg hd, fun G ρ σ H Q j h => ?_⟩
  refine qt G ρ σ H _ j (Post.imp h fun G3 ρ3 y H3 a e3 r3 z3 => ?_)
  obtain ⟨c, hc, k⟩ := Post.lift (ρ' := ρ3) z3
  unfold gdD at hc
  split at hc
  · rename_i i
    split at hc
    · rename_i z hz
      cases hc
      cases r3
      exact ⟨i, z, rfl, hz, k G3 _ H3 e3.j.refl (.str z)⟩
    · cases hc
  · cases hc
end
def sNextL : MoF := fun ρ st => some (.ok (ρ, st, .nx))
section
variable {X : Cx} {E : XK} {i : Nat}
theorem ssL_nil : SVsL X E i [] sNextL := ⟨_, pss_nil, fun G ρ st a σ H De j at_ l h => h G σ H (l.tr j.refl) l at_⟩
theorem evL_callTy {T : String} {g : List D → Option D} {x : Str} {p pos : Pos} {e : Expr} {es : List Expr} {f : MoL (List D)} (hc : DCall X (.type T) g) (hm : X.mg x = none) (hv : bootBuiltins x = some (.type T)) (ha : EAL X E i (e :: es) f) (hg : Gl X x := by rfl)
    (hn : x ≠ "__name__" := by decide) (hdb : (x == ("__debug__" : Str)) = false := by decide) (he : starEach (e :: es) X.env = (false, eval e X.env) :: starEach es X.env := by rfl) (hpl : (backTo pos (starEach es X.env)).any (·.1) = false := by rfl) : EVL X E i (.Call (.Name x p) (e :: es) [] pos) (mBuiltL g f) := by
  obtain ⟨r, h1, h2⟩ := hc
  obtain ⟨t, pt, q⟩ := ha
  exact ⟨_, pe_callTy h1 hg hm hv pt hn hdb he hpl, fun G ρ st a σ H Q j at_ l h => builtL_sem q h2 j at_ l h⟩
end
def EVR (X : Cx) (E : XK) (i : Nat) (e : Expr) (f : Dst → Mo D) : Prop := ∃ t, PE X e t ∧ ∀ G ρ st (a : Addr) σ H Q, J X.K G ρ σ H → AtS σ i a → Ld X.K G a st ρ σ H → Post X.K E (Rp X.K) G ρ σ H Q (f st ρ) → t σ H Q
def EAR (X : Cx) (E : XK) (i : Nat) (es : List Expr) (f : Dst → Mo (List D)) : Prop := ∃ t, PA X es t ∧ ∀ G ρ st (a : Addr) σ H Q, J X.K G ρ σ H → AtS σ i a → Ld X.K G a st ρ σ H → Post X.K E (RpAll X.K) G ρ σ H Q (f st ρ) → t σ H Q
def liftRd {α : Type} (f : Dst → Mo α) : MoL α := fun ρ st => liftL (f st) ρ st
structure PrF (P : Program) (w : World) (K : PySem.W.Frag) (mg : Str → Option Value) (base : Heap) (k : Nat) (c m f : Str) : Prop where
  cl : Cls K (He.ga K c)
  pr : PropOf K (He.ga K c) m (He.ma K (He.ga K c) m) (propA K c m)
  ex : ∃ fd ps, FnOk P w K mg base (L2.CX P w) k (propA K c m) fd ps (getSp (He.ga K c) f) ∧ Binds K fd ps []
theorem prf_ok {P : Program} {w : World} {K : PySem.W.Frag} {mg : Str → Option Value} {base : Heap} {c m f qual : Str} {st : Stmt} {fd : FuncData} {N : List Str} {k : Nat} (F : FunD K m qual (defArgs st) (defBody st) (defScope st) [] [] (propA K c m) fd) (S : FnScope ("self" :: N) ["self"] (defScope st)) (hc : Cls K (He.ga K c)) (pr : PropOf K (He.ga K c) m (He.ma K (He.ga K c) m) (propA K c m)) (na : NoAttr K (He.ga K c) f)
    (b : ∀ (kV doc pm : Value) (an : Option Addr) (cdv ct : Value) (us : List Value), us.length = (["self"] : List Str).length → bindArgs (PySem.W.fnOf m qual (defArgs st) (defBody st) (defScope st) .none kV doc pm an cdv ct) ⟨us, []⟩ = pure ((["self"] : List Str).zip us))
    (hb : ∃ p1 p2 p3, defBody st = [.Return (some (.Attribute (.Name "self" p1) f p2)) p3]) : PrF P w K mg base (k + 1) c m f := by
  obtain ⟨p1, p2, p3, hb⟩ := hb
  refine ⟨hc, pr, fd, ["self"], F.ok S (fun vs H Q E h => ?_) fun cdv A outer s H vs Q E hr h => ?_, F.bindsN b⟩
  · obtain ⟨a, dx, fs, v, e, _⟩ := (h)
    rw [e]
    rfl
  · obtain ⟨a, dx, fs, v, e, ea, l, q⟩ := (h)
    subst e
    rw [hb]
    refine ⟨_, pss_one (ps_ret (pe_fld (pe_var (i := 0) rfl ((S.par "self" (List.Mem.head _)).elim (fun z => .inl z) (fun z => .inr (.inl z)))) rfl)), ?_⟩
    exact ⟨.ref a, rfl, a, He.ga K c, dx, fs, v, rfl, ea, hc, na, l, q⟩
def mNowR (f : Str) : Dst → Mo D := fun st ρ => match st with
  | none => none
  | some kvs => mLift (fldIn f kvs) ρ
def mConsR (f : Dst → Mo D) (g : Dst → Mo (List D)) : Dst → Mo (List D) := fun st => mCons (f st) (g st)
def mCallR (F : Fn) (f : Dst → Mo (List D)) : Dst → Mo D := fun st => mCall F (f st)
section
variable {X : Cx} {E : XK} {i : Nat}
theorem EVR.l {e : Expr} {f : Dst → Mo D} (h : EVR X E i e f) : EVL X E i e (liftRd f) := by
  obtain ⟨t, p, q⟩ := h
  exact ⟨t, p, fun G ρ st a σ H Q j at_ l h => q G ρ st a σ H Q j at_ l (PostL.lift l h)⟩
theorem eaR_of {es : List Expr} {f : Mo (List D)} (h : EA X E es f) : EAR X E i es (fun _ => f) := by
  obtain ⟨t, p, q⟩ := h
  exact ⟨t, p, fun G ρ st a σ H Q j at_ l h => q G ρ σ H Q j h⟩
theorem evR_prop {k : Nat} {m f y : Str} {p1 lpos pos : Pos} (hM : PrF X.prog X.w X.K X.mg X.base k "Live" m f) (hr : Room (k + 1) X.A) (hc0 : Cls X.K (He.ga X.K "Desk")) (hn0 : NoAttr X.K (He.ga X.K "Desk") "live")
    (hN : X.N[i]? = some y := by rfl) (hv : Vis X.env.scope y := by first | exact Or.inl rfl | exact Or.inr (Or.inl rfl) | exact Or.inr (Or.inr rfl)) (hd : (y == ("__debug__" : Str)) = false := by decide) (hcd : (y == ("__classdict__" : Str)) = false := by decide)
    (hb : attributeBase (.Name y p1) "live" X.env (eval (.Name y p1) X.env) = eval (.Name y p1) X.env := by rfl)
    (hb2 : attributeBase (.Attribute (.Name y p1) "live" lpos) m X.env (eval (.Attribute (.Name y p1) "live" lpos) X.env) = eval (.Attribute (.Name y p1) "live" lpos) X.env := by rfl) :
    EVR X E i (.Attribute (.Attribute (.Name y p1) "live" lpos) m pos) (mNowR f) := by
  obtain ⟨hc, pr, fd, ps, h1, h2⟩ := hM
  refine ⟨_, pe_prop (E := botK) (pe_fld (pe_var hN hv hd hcd) hb) hc pr h1 hr h2 .nil passN hb2, fun G ρ st a σ H Q j at_ l h => ?_⟩
  unfold mNowR at h
  cases st with
  | none => exact h.elim
  | some kvs =>
    simp only at h
    obtain ⟨d, hd, k⟩ := Post.lift (ρ' := ρ) h
    refine Ld.live at_ hc0 hn0 l fun y dy fs ne gy ny hy r _ => ?_
    obtain ⟨v, e1, e2⟩ := r.look hd
    exact ⟨y, dy, fs, rfl, hy, y, dy, fs, v, rfl, hy, e1, k G v H j.refl e2⟩
theorem eaR_cons {e : Expr} {es : List Expr} {f : Dst → Mo D} {g : Dst → Mo (List D)} (h : EVR X E i e f) (r : EAR X E i es g) (he : starEach (e :: es) X.env = (false, eval e X.env) :: starEach es X.env := by rfl) : EAR X E i (e :: es) (mConsR f g) := by
  obtain ⟨t, p, q⟩ := h
  obtain ⟨u, p2, q2⟩ := r
  refine ⟨_, pa_cons p p2 he, fun G ρ st a σ H Q j at_ l h => q G ρ st a σ H _ j at_ l ?_⟩
  unfold mConsR mCons at h
  refine Post.imp h fun G1 ρ1 v H1 d e1 r1 h1 => ?_
  refine q2 G1 ρ1 st a σ H1 _ e1.j at_ (l.ex e1) (Post.imp h1 fun G2 ρ2 vs H2 ds e2 r2 h2 => ?_)
  exact h2 G2 (v :: vs) H2 e2.j.refl (.cons (r1.mono e2.g) r2)
theorem evR_call {k : Nat} {x : Str} {ps : List Str} {F : Fn} {p pos : Pos} {e : Expr} {es : List Expr} {f : Dst → Mo (List D)} (hF : FnE X.prog X.w X.K X.mg X.base k x ps F) (hr : Room k X.A) (hx : Passes (L2.CX X.prog X.w) X E)
    (ha : EAR X E i (e :: es) f) (hg : Gl X x := by rfl) (hdb : (x == ("__debug__" : Str)) = false := by decide) (he : starEach (e :: es) X.env = (false, eval e X.env) :: starEach es X.env := by rfl)
    (hpl : (backTo pos (starEach es X.env)).any (·.1) = false := by rfl) : EVR X E i (.Call (.Name x p) (e :: es) [] pos) (mCallR F f) := by
  obtain ⟨⟨fd, h1, h2⟩, kp, gl, hl⟩ := hF
  obtain ⟨t, pt, q⟩ := ha
  refine ⟨_, pe_call h1 hr hg gl kp h2 .nil hx pt hdb he hpl, fun G ρ st a σ H Q j at_ l h => q G ρ st a σ H _ j at_ l (Post.imp (show Post X.K E (Rp X.K) G ρ σ H Q (mBind (f st) (fun ds ρ1 => match F ds with
    | none => none
    | some (.error x) => some (.error x)
    | some (.ok d) => some (.ok (ρ1, d))) ρ) from h) fun G1 ρ1 vs H1 ds e1 r1 h1 => ?_)⟩
  show spP X.K _ F (vs ++ []) H1 Q E
  rw [List.append_nil]
  have h1' : Post X.K E (Rp X.K) G1 ρ1 σ H1 Q (match F ds with
    | none => none
    | some (.error x) => some (.error x)
    | some (.ok d) => some (.ok (ρ1, d))) := h1
  cases hF : F ds with
  | none => rw [hF] at h1'; exact h1'.elim
  | some r =>
    refine ⟨G1, ds, e1.j.sub, r1, hl ds (by rw [hF]; simp), ?_⟩
    rw [hF] at h1' ⊢
    cases r with
    | error x => exact fun C dx H' z => h1' C dx H' z.of0
    | ok d => exact fun G' v H' p r => h1' G' v H' (e1.j.ex p) r
end
end HB
namespace HB
open PySem L2
def purAt (ρ : En) (i : Nat) (c m : Str) : Bool := match ρ[i]? with
  | some (.pur d) => isObj c m d
  | _ => false
theorem purAt_ok {ρ : En} {i : Nat} {c m : Str} (h : purAt ρ i c m = true) : ∃ d, ρ[i]? = some (.pur d) ∧ isObj c m d = true := by
  unfold purAt at h
  split at h
  · rename_i d e
    exact ⟨d, e, h⟩
  · cases h
def mMethE (c m : Str) (F : FnM) (i : Nat) (f : Mo (List D)) : Mo D := fun ρ => match purAt ρ i c m with
  | true => (match f ρ with
    | some (.error x) => some (.error x)
    | _ => none)
  | false => mMethI c m F i f ρ
section
variable {X : Cx} {E : XK}
theorem ev_methE {k n i : Nat} {c m y : Str} {F : FnM} {e : Expr} {es : List Expr} {f : Mo (List D)} {p1 apos pos : Pos} {pl : Sem Bool} (hM : MmE X.prog X.w X.K X.mg X.base k c m n F) (hr : Room k X.A) (hx : Passes (L2.CX X.prog X.w) X E) (ha : EA X E (e :: es) f)
    (hN : X.N[i]? = some y := by rfl) (hv : Vis X.env.scope y := by first | exact Or.inl rfl | exact Or.inr (Or.inl rfl) | exact Or.inr (Or.inr rfl)) (hd : (y == ("__debug__" : Str)) = false := by decide) (hcd : (y == ("__classdict__" : Str)) = false := by decide)
    (ht : eval (.Call (.Attribute (.Name y p1) m apos) (e :: es) [] pos) X.env = byMeth X (.Name y p1) m apos pos pl (e :: es) := by rfl) (hst : starEach (e :: es) X.env = (false, eval e X.env) :: starEach es X.env := by rfl) (hpl : (backTo pos (starEach es X.env)).any (·.1) = false := by rfl) : EV X E (.Call (.Attribute (.Name y p1) m apos) (e :: es) [] pos) (mMethE c m F i f) := by
  obtain ⟨hc, me, ⟨fd, ps, h1, h2⟩, hl⟩ := hM
  obtain ⟨t, pt, q⟩ := ha
  refine ⟨_, pe_meth (pe_var hN hv hd hcd) hc me h1 hr h2 .nil hx pt hst hpl ht, fun G ρ σ H Q j h => ?_⟩
  unfold mMethE at h
  cases qp : purAt ρ i c m with
  | true =>
    rw [qp] at h
    simp only at h
    obtain ⟨d, e1, e2⟩ := purAt_ok qp
    obtain ⟨v, z1, z2⟩ := j.pur i d e1
    obtain ⟨o, dx, fs, rfl, z3, z4⟩ := z2.isObj e2
    refine ⟨.ref o, z1, o, dx, fs, rfl, j.sub _ _ z3, z4, q G ρ σ H _ j ?_⟩
    match hf : f ρ, h with
    | none, h => simp only [hf] at h; exact h.elim
    | some (.error x), h => simp only [hf] at h; exact h
    | some (.ok r), h => simp only [hf] at h; exact h.elim
  | false =>
    rw [qp] at h
    simp only at h
    unfold mMethI at h
    cases q0 : insAt ρ i c with
    | none => rw [q0] at h; exact h.elim
    | some pr =>
      obtain ⟨o, kvs⟩ := pr
      rw [q0] at h
      cases hk : noKey m kvs with
      | false => simp only [hk] at h; exact h.elim
      | true =>
        simp only [hk] at h
        obtain ⟨a, dx, fs, z1, z2, z3, z4⟩ := j.inst (insAt_ok q0)
        refine ⟨.ref a, z1, a, dx, fs, rfl, z2, z4.noLook hk, q G ρ σ H _ j (Post.imp h fun G1 ρ1 us H1 as e1 r1 k => ?_)⟩
        rw [List.append_nil]
        exact endM_sem hl e1.j z1 r1 k
end
end HB
namespace HB
open PySem L2
def C_PAIR : D := .int 2
def g_is_less : Mo Fl := sRet (mOp (cmpD ltI) (mOp mulD (mOp ixD (mVar 0) (mRet (.int 0))) (mOp ixD (mVar 1) (mRet (.int 1)))) (mOp mulD (mOp ixD (mVar 1) (mRet (.int 0))) (mOp ixD (mVar 0) (mRet (.int 1)))))
def F_is_less : Fn := M_is_less
def g_is_sequence : Mo Fl := sRet (mIsi isSeqT (mVar 0))
def F_is_sequence : Fn := guard 1 (runF 1 g_is_sequence)
def g_common_part : Mo Fl := sSeq (sPar2 0 1 (xConsP (mBuilt absD (mCons (mVar 0) (mNil))) (xConsP (mBuilt absD (mCons (mVar 1) (mNil))) (xNil))))
  (sSeq (sWhile (fuelInt 1) (mTest (mOp (cmpD gtI) (mVar 1) (mRet (.int 0)))) (sPar2 0 1 (xConsP (mVar 1) (xConsP (mOp modD (mVar 0) (mVar 1)) (xNil)))))
  (sRet (mVar 0)))
def F_common_part : Fn := M_common_part
def g_is_integer : Mo Fl := sRet (mAndV (mIsi isIntT (mVar 0)) (mNotV (mIsi isBoolT (mVar 0))))
def F_is_integer : Fn := guard 1 (runF 1 g_is_integer)
def g_is_value_1 : Mo Fl := sRet (mAndV (mOp (cmpD gtI) (mOp ixD (mVar 0) (mRet (.int 1))) (mRet (.int 0))) (mOp eqD (mCall F_common_part (mCons (mOp ixD (mVar 0) (mRet (.int 0))) (mCons (mOp ixD (mVar 0) (mRet (.int 1))) (mNil)))) (mRet (.int 1))))
def g_is_value_2 : Mo Fl := sSeq (sIf (mOr (mNot (mTest (mIsi isTupT (mVar 0)))) (mOr (mTest (mOp neD (mBuilt lenD (mCons (mVar 0) (mNil))) (mRet C_PAIR))) (mOr (mNot (mTest (mCall F_is_integer (mCons (mOp ixD (mVar 0) (mRet (.int 0))) (mNil))))) (mNot (mTest (mCall F_is_integer (mCons (mOp ixD (mVar 0) (mRet (.int 1))) (mNil)))))))) (sRet (mRet (.bool false))) (sNext))
  (g_is_value_1)
def g_is_value : Mo Fl := sSeq (sIf (mTest (mCall F_is_integer (mCons (mVar 0) (mNil)))) (sRet (mRet (.bool true))) (sNext))
  (g_is_value_2)
def F_is_value : Fn := guard 1 (runF 1 g_is_value)
def g_value_of : Mo Fl := sRet (mIf (mTest (mCall F_is_integer (mCons (mVar 0) (mNil)))) (mTup (mCons (mVar 0) (mCons (mRet (.int 1)) (mNil)))) (mVar 0))
def F_value_of : Fn := guard 1 (runF 1 g_value_of)
def g_are_marks_1 : Mo Fl := sRet (mAndV (mOp eqD (mOp ixD (mVar 3) (mRet (.int 0))) (mRet (.int 1))) (mAndV (mOp eqD (mOp ixD (mVar 3) (mUn negD (mRet (.int 1)))) (mRet (.int 1))) (mBuilt allD (mCons (mList (mBlk [7] (mSeqS (mSlice (mVar 3) (mPart (mRet (.int 1))) (mPart (mUn negD (mRet (.int 1)))))) (lcBody [7] (gSet 7) (mRet true) (mOp (cmpD leI) (mVar 7) (mVar 0))))) (mNil)))))
def g_are_marks_2 : Mo Fl := sSeq (sSet 3 (mList (mBlk [5] (mSeqS (mVar 2)) (lcBody [5] (gSet 5) (mRet true) (mBuilt lenD (mCons (mList (mBlk [4] (mSeqS (mVar 2)) (lcBody [4] (gSet 4) (mTest (mOp eqD (mVar 4) (mVar 5))) (mVar 4)))) (mNil)))))))
  (g_are_marks_1)
def g_are_marks_3 : Mo Fl := sSeq (sIf (mTest (mBuilt anyD (mCons (mList (mBlk [6] (mRange range1D (mCons (mOp subD (mBuilt lenD (mCons (mVar 2) (mNil))) (mRet (.int 1))) (mNil))) (lcBody [6] (gSet 6) (mRet true) (mCall F_is_less (mCons (mOp ixD (mVar 2) (mOp addD (mVar 6) (mRet (.int 1)))) (mCons (mOp ixD (mVar 2) (mVar 6)) (mNil))))))) (mNil)))) (sRet (mRet (.bool false))) (sNext))
  (g_are_marks_2)
def g_are_marks_4 : Mo Fl := sSeq (sSet 2 (mList (mBlk [4] (mSeqS (mVar 1)) (lcBody [4] (gSet 4) (mRet true) (mCall F_value_of (mCons (mVar 4) (mNil)))))))
  (g_are_marks_3)
def g_are_marks : Mo Fl := sSeq (sIf (mOr (mNot (mTest (mCall F_is_sequence (mCons (mVar 1) (mNil))))) (mOr (mTest (mOp (cmpD leI) (mBuilt lenD (mCons (mVar 1) (mNil))) (mRet (.int 1)))) (mNot (mTest (mBuilt allD (mCons (mList (mBlk [4] (mSeqS (mVar 1)) (lcBody [4] (gSet 4) (mRet true) (mCall F_is_value (mCons (mVar 4) (mNil)))))) (mNil))))))) (sRet (mRet (.bool false))) (sNext))
  (g_are_marks_4)
def F_are_marks : Fn := guard 2 (runF 8 g_are_marks)
def g_text_of : Mo Fl := sRet (mIf (mTest (mOp eqD (mOp ixD (mVar 0) (mRet (.int 1))) (mRet (.int 1)))) (mBuilt strD (mCons (mOp ixD (mVar 0) (mRet (.int 0))) (mNil))) (mJoined (jCons (mUn fmtD (mOp ixD (mVar 0) (mRet (.int 0)))) (jCons (mRet (.str "/")) (jCons (mUn fmtD (mOp ixD (mVar 0) (mRet (.int 1)))) (jNil))))))
def F_text_of : Fn := guard 1 (runF 1 g_text_of)
def g_text_of_bend_1 : Mo Fl := sRet (mM1 joinD (mRet (.str " ")) (mList (mSized (mCons (mRet (.str "bend")) (mCons (mBuilt strD (mCons (mVar 0) (mNil))) (mCons (mRet (.str "marks")) (mStar (mVar 3) (mCons (mRet (.str "handles")) (mStar (mVar 4) (mNil))))))))))
def g_text_of_bend : Mo Fl := sSeq (sPar2 3 4 (xConsP (mList (mBlk [5] (mSeqS (mVar 1)) (lcBody [5] (gSet 5) (mRet true) (mCall F_text_of (mCons (mVar 5) (mNil)))))) (xConsP (mList (mBlk [5] (mSeqS (mVar 2)) (lcBody [5] (gSet 5) (mRet true) (mCall F_text_of (mCons (mVar 5) (mNil)))))) (xNil))))
  (g_text_of_bend_1)
def F_text_of_bend : Fn := guard 3 (runF 6 g_text_of_bend)
def g_Bend_init : MoO := oIf (mOr (mNot (mTest (mCall F_is_integer (mCons (mVar 1) (mNil))))) (mTest (mOp (cmpD ltI) (mVar 1) (mRet (.int 0))))) (sRaise "InvalidBend" "word" (mRet (.str "degree"))) (oIf (mNot (mTest (mCall F_are_marks (mCons (mVar 1) (mCons (mVar 2) (mNil)))))) (sRaise "InvalidBend" "word" (mRet (.str "marks"))) (oIf (mOr (mNot (mTest (mCall F_is_sequence (mCons (mVar 3) (mNil))))) (mNot (mTest (mBuilt allD (mCons (mList (mBlk [4] (mSeqS (mVar 3)) (lcBody [4] (gSet 4) (mRet true) (mCall F_is_value (mCons (mVar 4) (mNil)))))) (mNil)))))) (sRaise "InvalidBend" "word" (mRet (.str "handles"))) (oIf (mTest (mOp neD (mBuilt lenD (mCons (mVar 3) (mNil))) (mOp subD (mOp addD (mVar 1) (mBuilt lenD (mCons (mVar 2) (mNil)))) (mRet (.int 1))))) (sRaise "InvalidBend" "word" (mRet (.str "handles"))) (oPut "degree" (fun _ => mVar 1)
  (oPut "marks" (fun _ => mBuilt tupleD (mCons (mList (mBlk [4] (mSeqS (mVar 2)) (lcBody [4] (gSet 4) (mRet true) (mCall F_value_of (mCons (mVar 4) (mNil)))))) (mNil)))
  (oPut "handles" (fun _ => mBuilt tupleD (mCons (mList (mBlk [4] (mSeqS (mVar 3)) (lcBody [4] (gSet 4) (mRet true) (mCall F_value_of (mCons (mVar 4) (mNil)))))) (mNil)))
  (oPut "text" (oCall F_text_of_bend (oCons (fun _ => mVar 1) (oCons (fun kvs => pureF (fldIn "marks" kvs)) (oCons (fun kvs => pureF (fldIn "handles" kvs)) (fun _ => mNil)))))
  (oEnd))))))))
def I_Bend : FnI := guardI 3 (runI 4 g_Bend_init)
def g_Bend___len__ : Mo Fl := sRet (mBuilt lenD (mCons (mUn (fldD "Bend" "handles") (mVar 0)) (mNil)))
def F_Bend___len__ : Fn := guard 1 (runF 1 g_Bend___len__)
def g_Bend___str__ : Mo Fl := sRet (mUn fmtD (mUn (fldD "Bend" "text") (mVar 0)))
def F_Bend___str__ : Fn := guard 1 (runF 1 g_Bend___str__)
def g_law_box_1 : Mo (List D) := rRet (mSized (mCons (mOp ixD (mList (mSized (mCons (mRet (.int 0)) (mCons (mVar 3) (mNil))))) (mBuilt intD (mCons (mOp (cmpD geI) (mVar 3) (mOp powD (mRet (.int 10)) (mRet (.int 18)))) (mNil)))) (mCons (mVar 4) (mCons (mRet (.int 0)) (mNil)))))
def g_law_box_2 : Mo (List D) := rSeq (sSet 4 (mOp addD (mOp modD (mBuilt intD (mCons (mOp addD (mOp mulD (mOp modD (mBuilt intD (mCons (mVar 3) (mNil))) (mRet (.int 2147483629))) (mRet (.int 48271))) (mOp mulD (mRet (.int 40692)) (mOp addD (mVar 1) (mOp mulD (mRet (.int 11)) (mVar 2))))) (mNil))) (mRet (.int 2147483629))) (mRet (.int 1))))
  (g_law_box_1)
def g_law_box_3 : Mo (List D) := rSeq (sIf (mTest (mOp (cmpD ltI) (mVar 1) (mBuilt lenD (mCons (mVar 0) (mNil))))) (sSet 3 (mBuilt absD (mCons (mOp ixD (mVar 0) (mVar 1)) (mNil)))) (sIf (mTest (mOp (cmpD gtI) (mBuilt lenD (mCons (mVar 0) (mNil))) (mRet (.int 0)))) (sSet 3 (mOp addD (mVar 3) (mOp mulD (mOp modD (mBuilt intD (mCons (mBuilt absD (mCons (mOp ixD (mVar 0) (mOp modD (mBuilt intD (mCons (mVar 1) (mNil))) (mBuilt lenD (mCons (mVar 0) (mNil))))) (mNil))) (mNil))) (mRet (.int 2147483629))) (mRet (.int 69623))))) (sNext)))
  (g_law_box_2)
def g_law_box : Mo (List D) := rSeq (sSet 3 (mOp addD (mOp addD (mOp mulD (mRet (.int 7727)) (mVar 1)) (mOp mulD (mRet (.int 104729)) (mVar 2))) (mRet (.int 43))))
  (g_law_box_3)
def F_law_box : FnN := guardN 3 (runN 5 g_law_box)
def g_law_take : Mo Fl := sSeq (sIf (mTest (mOp (cmpD gtI) (mIxB 0 (mRet (.int 0))) (mRet (.int 0)))) (sSeq (sSet 4 (mOp modD (mBuilt intD (mCons (mIxB 0 (mRet (.int 0))) (mNil))) (mVar 1)))
  (sSeq (sPutB 0 (mRet (.int 0)) (mOp fdivD (mIxB 0 (mRet (.int 0))) (mVar 1)))
  (sRet (mVar 4)))) (sNext))
  (sSeq (sPutB 0 (mRet (.int 2)) (mOp addD (mIxB 0 (mRet (.int 2))) (mRet (.int 1))))
  (sSeq (sSet 2 (mOp modD (mBuilt intD (mCons (mOp mulD (mOp addD (mIxB 0 (mRet (.int 1))) (mOp mulD (mRet (.int 104729)) (mIxB 0 (mRet (.int 2))))) (mRet (.int 69623))) (mNil))) (mRet (.int 2147483647))))
  (sSeq (sPutB 0 (mRet (.int 1)) (mOp addD (mOp modD (mBuilt intD (mCons (mOp addD (mOp mulD (mVar 2) (mRet (.int 48271))) (mRet (.int 30103))) (mNil))) (mRet (.int 2147483629))) (mRet (.int 1))))
  (sSeq (sIf (mTest (mOp (cmpD ltI) (mVar 1) (mOp powD (mRet (.int 2)) (mRet (.int 40))))) (sRet (mOp modD (mBuilt intD (mCons (mOp fdivD (mOp addD (mOp mulD (mVar 2) (mRet (.int 2147483647))) (mIxB 0 (mRet (.int 1)))) (mRet (.int 8191))) (mNil))) (mVar 1))) (sNext))
  (sSeq (sSet 3 (mOp mulD (mOp addD (mOp mulD (mVar 2) (mRet (.int 2147483647))) (mIxB 0 (mRet (.int 1)))) (mOp powD (mRet (.int 2147483629)) (mRet (.int 3)))))
  (sRet (mOp modD (mBuilt intD (mCons (mOp addD (mOp addD (mVar 3) (mOp mulD (mOp powD (mIxB 0 (mRet (.int 1))) (mRet (.int 3))) (mRet (.int 8191)))) (mVar 2)) (mNil))) (mVar 1))))))))
def F_law_take : FnX := M_law_take
def g_law_pick : Mo Fl := sRet (mOp ixD (mVar 1) (mCallX F_law_take 0 (mCons (mBuilt lenD (mCons (mVar 1) (mNil))) (mNil))))
def F_law_pick : FnX := guardX 1 (runX 1 g_law_pick)
def C_DIGITS : D := .str "0123456789"
def g_law_value_ve847_1 : Mo Fl := sSet 2 (mIf (mTest (mOp eqD (mOp modD (mVar 3) (mRet (.int 2))) (mRet (.int 0)))) (mList (mSized (mCons (mVar 2) (mCons (mRet (.int 1)) (mNil))))) (mTup (mCons (mVar 2) (mNil))))
def g_law_value_ve847_2 : Mo Fl := sRet (mCallX F_law_pick 0 (mCons (mOp addD (mVar 1) (mList (mSized (mCons (mVar 2) (mCons (mTup (mCons (mRet .none) (mCons (mRet (.int 1)) (mNil)))) (mCons (mTup (mCons (mRet (.int 1)) (mCons (mRet (.bool true)) (mNil)))) (mNil))))))) (mNil)))
def g_law_value_ve847_3 : Mo Fl := sSeq (sFor (mRange range1D (mCons (mRet (.int 7)) (mNil))) (gSet 3) (g_law_value_ve847_1))
  (g_law_value_ve847_2)
def g_law_value_ve847 : Mo Fl := sSeq (sSet 1 (mList (mSized (mCons (mRet .none) (mCons (mRet (.str "")) (mCons (mRet (.str "1")) (mCons (mRet (.bool true)) (mCons (mRet (.bool false)) (mCons (mList (mSized (mNil))) (mCons (mList (mSized (mCons (mRet (.int 1)) (mCons (mRet (.int 2)) (mNil))))) (mCons (mTup (mCons (mRet (.int 2)) (mCons (mRet (.int 4)) (mNil)))) (mCons (mTup (mCons (mRet (.int 1)) (mCons (mRet (.int 0)) (mNil)))) (mCons (mTup (mCons (mRet (.int 1)) (mCons (mOp subD (mRet (.int 0)) (mRet (.int 2))) (mNil)))) (mCons (mTup (mCons (mRet (.int 1)) (mCons (mRet (.int 2)) (mCons (mRet (.int 3)) (mNil))))) (mCons (mRet (.str "bend")) (mCons (mTup (mCons (mTup (mCons (mRet (.int 1)) (mCons (mRet (.int 2)) (mNil)))) (mNil))) (mNil)))))))))))))))))
  (sSeq (sSet 2 (mTup (mNil)))
  (g_law_value_ve847_3))
def F_law_value_ve847 : FnX := guardX 0 (runX 3 g_law_value_ve847)
def C_NOUGHT : D := .tuple [.int 0, .int 1]
def C_ONE : D := .tuple [.int 1, .int 1]
def g_in_lowest : Mo Fl := sSeq (sSet 2 (mCall F_common_part (mCons (mVar 0) (mCons (mVar 1) (mNil)))))
  (sRet (mIf (mTest (mOp (cmpD gtI) (mVar 1) (mRet (.int 0)))) (mTup (mCons (mOp fdivD (mVar 0) (mVar 2)) (mCons (mOp fdivD (mVar 1) (mVar 2)) (mNil)))) (mTup (mCons (mOp fdivD (mUn negD (mVar 0)) (mVar 2)) (mCons (mOp fdivD (mUn negD (mVar 1)) (mVar 2)) (mNil))))))
def F_in_lowest : Fn := M_in_lowest
def g_added : Mo Fl := sRet (mCall F_in_lowest (mCons (mOp addD (mOp mulD (mOp ixD (mVar 0) (mRet (.int 0))) (mOp ixD (mVar 1) (mRet (.int 1)))) (mOp mulD (mOp ixD (mVar 1) (mRet (.int 0))) (mOp ixD (mVar 0) (mRet (.int 1))))) (mCons (mOp mulD (mOp ixD (mVar 0) (mRet (.int 1))) (mOp ixD (mVar 1) (mRet (.int 1)))) (mNil))))
def F_added : Fn := M_added
def g_multiplied : Mo Fl := sRet (mCall F_in_lowest (mCons (mOp mulD (mOp ixD (mVar 0) (mRet (.int 0))) (mOp ixD (mVar 1) (mRet (.int 0)))) (mCons (mOp mulD (mOp ixD (mVar 0) (mRet (.int 1))) (mOp ixD (mVar 1) (mRet (.int 1)))) (mNil))))
def F_multiplied : Fn := M_multiplied
def g_less_by : Mo Fl := sRet (mCall F_in_lowest (mCons (mOp subD (mOp mulD (mOp ixD (mVar 0) (mRet (.int 0))) (mOp ixD (mVar 1) (mRet (.int 1)))) (mOp mulD (mOp ixD (mVar 1) (mRet (.int 0))) (mOp ixD (mVar 0) (mRet (.int 1))))) (mCons (mOp mulD (mOp ixD (mVar 0) (mRet (.int 1))) (mOp ixD (mVar 1) (mRet (.int 1)))) (mNil))))
def F_less_by : Fn := M_less_by
def g_quotient : Mo Fl := sRet (mCall F_in_lowest (mCons (mOp mulD (mOp ixD (mVar 0) (mRet (.int 0))) (mOp ixD (mVar 1) (mRet (.int 1)))) (mCons (mOp mulD (mOp ixD (mVar 0) (mRet (.int 1))) (mOp ixD (mVar 1) (mRet (.int 0)))) (mNil))))
def F_quotient : Fn := M_quotient
def g_share_of : Mo Fl := sRet (mIf (mTest (mOp eqD (mVar 0) (mVar 1))) (mRet C_NOUGHT) (mCall F_quotient (mCons (mCall F_less_by (mCons (mVar 2) (mCons (mVar 0) (mNil)))) (mCons (mCall F_less_by (mCons (mVar 1) (mCons (mVar 0) (mNil)))) (mNil)))))
def F_share_of : Fn := guard 3 (runF 3 g_share_of)
def g_is_at_most : Mo Fl := sRet (mNotV (mCall F_is_less (mCons (mVar 1) (mCons (mVar 0) (mNil)))))
def F_is_at_most : Fn := guard 2 (runF 2 g_is_at_most)
def g_span_of_1 : Mo Fl := sRet (mIf (mTest (mOp (cmpD gtI) (mBuilt lenD (mCons (mVar 3) (mNil))) (mRet (.int 0)))) (mOp ixD (mVar 3) (mRet (.int 0))) (mOp ixD (mVar 2) (mUn negD (mRet (.int 1)))))
def g_span_of_2 : Mo Fl := sSeq (sSet 3 (mList (mBlk [4] (mSeqS (mVar 2)) (lcBody [4] (gSet 4) (mAnd (mTest (mCall F_is_at_most (mCons (mOp ixD (mVar 0) (mVar 4)) (mCons (mVar 1) (mNil))))) (mTest (mCall F_is_less (mCons (mVar 1) (mCons (mOp ixD (mVar 0) (mOp addD (mVar 4) (mRet (.int 1)))) (mNil)))))) (mVar 4)))))
  (g_span_of_1)
def g_span_of : Mo Fl := sSeq (sSet 2 (mList (mBlk [4] (mRange range1D (mCons (mOp subD (mBuilt lenD (mCons (mVar 0) (mNil))) (mRet (.int 1))) (mNil))) (lcBody [4] (gSet 4) (mTest (mCall F_is_less (mCons (mOp ixD (mVar 0) (mVar 4)) (mCons (mOp ixD (mVar 0) (mOp addD (mVar 4) (mRet (.int 1)))) (mNil))))) (mVar 4)))))
  (g_span_of_2)
def F_span_of : Fn := guard 2 (runF 5 g_span_of)
def g_all_weights_1 : Mo Fl := sChg 6 (mCons (mCall F_added (mCons (mVar 8) (mCons (mVar 9) (mNil)))) (mNil)) appC
def g_all_weights_2 : Mo Fl := sSeq (sSet 9 (mCall F_multiplied (mCons (mCall F_share_of (mCons (mOp ixD (mVar 1) (mOp addD (mOp addD (mVar 7) (mVar 5)) (mRet (.int 1)))) (mCons (mOp ixD (mVar 1) (mOp addD (mVar 7) (mRet (.int 1)))) (mCons (mVar 2) (mNil))))) (mCons (mOp ixD (mVar 4) (mOp addD (mVar 7) (mRet (.int 1)))) (mNil)))))
  (g_all_weights_1)
def g_all_weights_3 : Mo Fl := sSeq (sSet 8 (mCall F_multiplied (mCons (mCall F_share_of (mCons (mOp ixD (mVar 1) (mVar 7)) (mCons (mOp ixD (mVar 1) (mOp addD (mVar 7) (mVar 5))) (mCons (mVar 2) (mNil))))) (mCons (mOp ixD (mVar 4) (mVar 7)) (mNil)))))
  (g_all_weights_2)
def g_all_weights_4 : Mo Fl := sSeq (sFor (mRange range1D (mCons (mOp subD (mBuilt lenD (mCons (mVar 4) (mNil))) (mRet (.int 1))) (mNil))) (gSet 7) (g_all_weights_3))
  (sSet 4 (mVar 6))
def g_all_weights_5 : Mo Fl := sSeq (sFor (mRange range2D (mCons (mRet (.int 1)) (mCons (mOp addD (mVar 0) (mRet (.int 1))) (mNil)))) (gSet 5) (sSeq (sOwn 6 (mSized (mNil)))
  (g_all_weights_4)))
  (sRet (mBuilt tupleD (mCons (mVar 4) (mNil))))
def g_all_weights_6 : Mo Fl := sSeq (sSet 4 (mList (mBlk [7] (mRange range1D (mCons (mOp subD (mBuilt lenD (mCons (mVar 1) (mNil))) (mRet (.int 1))) (mNil))) (lcBody [7] (gSet 7) (mRet true) (mIf (mTest (mOp eqD (mVar 7) (mVar 3))) (mRet C_ONE) (mRet C_NOUGHT))))))
  (g_all_weights_5)
def g_all_weights : Mo Fl := sSeq (sSet 3 (mCall F_span_of (mCons (mVar 1) (mCons (mVar 2) (mNil)))))
  (g_all_weights_6)
def F_all_weights : Fn := guard 3 (runF 10 g_all_weights)
def g_knots_of_1 : Mo Fl := sRet (mTup (mStar (mList (mBlk [4] (mRange range1D (mCons (mVar 0) (mNil))) (lcBody [4] (gSet 4) (mRet true) (mOp ixD (mVar 2) (mRet (.int 0)))))) (mStar (mVar 2) (mStar (mList (mBlk [4] (mRange range1D (mCons (mVar 0) (mNil))) (lcBody [4] (gSet 4) (mRet true) (mOp ixD (mVar 2) (mUn negD (mRet (.int 1))))))) (mNil)))))
def g_knots_of : Mo Fl := sSeq (sSet 2 (mList (mBlk [3] (mSeqS (mVar 1)) (lcBody [3] (gSet 3) (mRet true) (mCall F_value_of (mCons (mVar 3) (mNil)))))))
  (g_knots_of_1)
def F_knots_of : Fn := guard 2 (runF 5 g_knots_of)
def g_need_time_1 : Mo Fl := sSeq (sIf (mOr (mTest (mCall F_is_less (mCons (mVar 2) (mCons (mCall F_value_of (mCons (mOp ixD (mVar 0) (mRet (.int 0))) (mNil))) (mNil))))) (mTest (mCall F_is_less (mCons (mCall F_value_of (mCons (mOp ixD (mVar 0) (mUn negD (mRet (.int 1)))) (mNil))) (mCons (mVar 2) (mNil)))))) (sRaise "InvalidTime" "time" (mVar 1)) (sNext))
  (sRet (mVar 2))
def g_need_time_2 : Mo Fl := sSeq (sSet 2 (mCall F_value_of (mCons (mVar 1) (mNil))))
  (g_need_time_1)
def g_need_time : Mo Fl := sSeq (sIf (mNot (mTest (mCall F_is_value (mCons (mVar 1) (mNil))))) (sRaise "InvalidTime" "time" (mVar 1)) (sNext))
  (g_need_time_2)
def F_need_time : Fn := guard 2 (runF 3 g_need_time)
def g_summed_1 : Mo Fl := sSet 1 (mCall F_added (mCons (mVar 1) (mCons (mVar 2) (mNil))))
def g_summed_2 : Mo Fl := sSeq (sFor (mSeqS (mVar 0)) (gSet 2) (g_summed_1))
  (sRet (mVar 1))
def g_summed : Mo Fl := sSeq (sSet 1 (mRet C_NOUGHT))
  (g_summed_2)
def F_summed : Fn := guard 1 (runF 3 g_summed)
def g_value_1 : Mo Fl := sRet (mCall F_summed (mCons (mList (mBlk [4, 5] (mZipStrict (mCons (mVar 3) (mCons (mUn (fldD "Bend" "handles") (mVar 0)) (mNil)))) (lcBody [4, 5] (gTupD 2 (gConsD (gSet 4) (gConsD (gSet 5) (gNilD)))) (mRet true) (mCall F_multiplied (mCons (mVar 4) (mCons (mVar 5) (mNil))))))) (mNil)))
def g_value_2 : Mo Fl := sSeq (sSet 3 (mCall F_all_weights (mCons (mUn (fldD "Bend" "degree") (mVar 0)) (mCons (mCall F_knots_of (mCons (mUn (fldD "Bend" "degree") (mVar 0)) (mCons (mUn (fldD "Bend" "marks") (mVar 0)) (mNil)))) (mCons (mVar 2) (mNil))))))
  (g_value_1)
def g_value : Mo Fl := sSeq (sSet 2 (mCall F_need_time (mCons (mUn (fldD "Bend" "marks") (mVar 0)) (mCons (mVar 1) (mNil)))))
  (g_value_2)
def F_value : Fn := guard 2 (runF 6 g_value)
def g_middle_of : Mo Fl := sRet (mCall F_quotient (mCons (mCall F_added (mCons (mVar 0) (mCons (mVar 1) (mNil)))) (mCons (mTup (mCons (mRet C_PAIR) (mCons (mRet (.int 1)) (mNil)))) (mNil))))
def F_middle_of : Fn := guard 2 (runF 2 g_middle_of)
def g_trimmed_1 : Mo Fl := sRet (mBuilt tupleD (mCons (mSlice (mVar 0) (mNoPart) (mPart (mVar 1))) (mNil)))
def g_trimmed_2 : Mo Fl := sSeq (sWhile (fun _ => 4000) (mAnd (mTest (mOp (cmpD gtI) (mVar 1) (mRet (.int 0)))) (mTest (mOp eqD (mOp ixD (mVar 0) (mOp subD (mVar 1) (mRet (.int 1)))) (mRet C_NOUGHT)))) (sAug (fun i j => i - j) 1 (mRet (.int 1))))
  (g_trimmed_1)
def g_trimmed : Mo Fl := sSeq (sSet 1 (mBuilt lenD (mCons (mVar 0) (mNil))))
  (g_trimmed_2)
def F_trimmed : Fn := guard 1 (runF 2 g_trimmed)
def g_poly_at_1 : Mo Fl := sSet 2 (mCall F_added (mCons (mCall F_multiplied (mCons (mVar 2) (mCons (mVar 1) (mNil)))) (mCons (mVar 3) (mNil))))
def g_poly_at_2 : Mo Fl := sSeq (sFor (mSeqS (mRev (mVar 0) (mPart (mUn negD (mRet (.int 1)))))) (gSet 3) (g_poly_at_1))
  (sRet (mVar 2))
def g_poly_at : Mo Fl := sSeq (sSet 2 (mRet C_NOUGHT))
  (g_poly_at_2)
def F_poly_at : Fn := guard 2 (runF 4 g_poly_at)
def g_Piece_init : MoO := oPut "start" (fun _ => mVar 1)
  (oPut "end" (fun _ => mVar 2)
  (oPut "poly" (fun _ => mVar 3)
  (oEnd)))
def I_Piece : FnI := guardI 3 (runI 3 g_Piece_init)
def g_power_at : Mo Fl := sRet (mIf (mTest (mOp (cmpD ltI) (mVar 1) (mBuilt lenD (mCons (mVar 0) (mNil))))) (mOp ixD (mVar 0) (mVar 1)) (mRet C_NOUGHT))
def F_power_at : Fn := guard 2 (runF 2 g_power_at)
def g_poly_less : Mo Fl := sRet (mCall F_trimmed (mCons (mList (mBlk [2] (mRange range1D (mCons (mBuilt maxD (mCons (mBuilt lenD (mCons (mVar 0) (mNil))) (mCons (mBuilt lenD (mCons (mVar 1) (mNil))) (mNil)))) (mNil))) (lcBody [2] (gSet 2) (mRet true) (mCall F_less_by (mCons (mCall F_power_at (mCons (mVar 0) (mCons (mVar 2) (mNil)))) (mCons (mCall F_power_at (mCons (mVar 1) (mCons (mVar 2) (mNil)))) (mNil))))))) (mNil)))
def F_poly_less : Fn := guard 2 (runF 3 g_poly_less)
def g_poly_sum : Mo Fl := sRet (mCall F_trimmed (mCons (mList (mBlk [2] (mRange range1D (mCons (mBuilt maxD (mCons (mBuilt lenD (mCons (mVar 0) (mNil))) (mCons (mBuilt lenD (mCons (mVar 1) (mNil))) (mNil)))) (mNil))) (lcBody [2] (gSet 2) (mRet true) (mCall F_added (mCons (mCall F_power_at (mCons (mVar 0) (mCons (mVar 2) (mNil)))) (mCons (mCall F_power_at (mCons (mVar 1) (mCons (mVar 2) (mNil)))) (mNil))))))) (mNil)))
def F_poly_sum : Fn := guard 2 (runF 3 g_poly_sum)
def g_poly_times_1 : Mo Fl := sPut 2 (mOp addD (mVar 3) (mVar 6)) (mCall F_added (mCons (mIxO 2 (mOp addD (mVar 3) (mVar 6))) (mCons (mCall F_multiplied (mCons (mVar 4) (mCons (mVar 7) (mNil)))) (mNil))))
def g_poly_times_2 : Mo Fl := sFor (mEnum (mVar 1)) (gTupD 2 (gConsD (gSet 6) (gConsD (gSet 7) (gNilD)))) (g_poly_times_1)
def g_poly_times_3 : Mo Fl := sSeq (sFor (mEnum (mVar 0)) (gTupD 2 (gConsD (gSet 3) (gConsD (gSet 4) (gNilD)))) (g_poly_times_2))
  (sRet (mCall F_trimmed (mCons (mVar 2) (mNil))))
def g_poly_times : Mo Fl := sSeq (sOwn 2 (mBlk [5] (mRange range1D (mCons (mOp addD (mBuilt lenD (mCons (mVar 0) (mNil))) (mBuilt lenD (mCons (mVar 1) (mNil)))) (mNil))) (lcBody [5] (gSet 5) (mRet true) (mRet C_NOUGHT))))
  (g_poly_times_3)
def F_poly_times : Fn := guard 2 (runF 8 g_poly_times)
def g_share_poly_1 : Mo Fl := sRet (mCall F_trimmed (mCons (mList (mSized (mCons (mCall F_quotient (mCons (mCall F_less_by (mCons (mRet C_NOUGHT) (mCons (mVar 0) (mNil)))) (mCons (mVar 2) (mNil)))) (mCons (mCall F_quotient (mCons (mRet C_ONE) (mCons (mVar 2) (mNil)))) (mNil))))) (mNil)))
def g_share_poly : Mo Fl := sSeq (sSet 2 (mCall F_less_by (mCons (mVar 1) (mCons (mVar 0) (mNil)))))
  (g_share_poly_1)
def F_share_poly : Fn := guard 2 (runF 3 g_share_poly)
def g_piece_at_1 : Mo Fl := sChg 6 (mCons (mCall F_poly_sum (mCons (mVar 11) (mCons (mCall F_poly_times (mCons (mVar 10) (mCons (mCall F_poly_less (mCons (mVar 12) (mCons (mVar 11) (mNil)))) (mNil)))) (mNil)))) (mNil)) appC
def g_piece_at_2 : Mo Fl := sSeq (sPar2 11 12 (xConsP (mOp ixD (mVar 4) (mOp subD (mVar 7) (mVar 5))) (xConsP (mOp ixD (mVar 4) (mOp addD (mOp subD (mVar 7) (mVar 5)) (mRet (.int 1)))) (xNil))))
  (g_piece_at_1)
def g_piece_at_3 : Mo Fl := sSeq (sSet 10 (mCall F_share_poly (mCons (mOp ixD (mVar 1) (mVar 9)) (mCons (mOp ixD (mVar 1) (mOp subD (mOp addD (mOp addD (mVar 9) (mVar 3)) (mRet (.int 1))) (mVar 5))) (mNil)))))
  (g_piece_at_2)
def g_piece_at_4 : Mo Fl := sSeq (sSet 9 (mOp addD (mOp subD (mVar 2) (mVar 3)) (mVar 7)))
  (g_piece_at_3)
def g_piece_at_5 : Mo Fl := sSeq (sFor (mRange range2D (mCons (mVar 5) (mCons (mOp addD (mVar 3) (mRet (.int 1))) (mNil)))) (gSet 7) (g_piece_at_4))
  (sSet 4 (mVar 6))
def g_piece_at_6 : Mo Fl := sRet (mMake "Piece" I_Piece (mCons (mOp ixD (mVar 1) (mVar 2)) (mCons (mOp ixD (mVar 1) (mOp addD (mVar 2) (mRet (.int 1)))) (mCons (mOp ixD (mVar 4) (mRet (.int 0))) (mNil)))))
def g_piece_at_7 : Mo Fl := sSeq (sFor (mRange range2D (mCons (mRet (.int 1)) (mCons (mOp addD (mVar 3) (mRet (.int 1))) (mNil)))) (gSet 5) (sSeq (sOwn 6 (mSized (mNil)))
  (g_piece_at_5)))
  (g_piece_at_6)
def g_piece_at_8 : Mo Fl := sSeq (sSet 4 (mList (mBlk [8] (mSeqS (mSlice (mUn (fldD "Bend" "handles") (mVar 0)) (mPart (mOp subD (mVar 2) (mVar 3))) (mPart (mOp addD (mVar 2) (mRet (.int 1)))))) (lcBody [8] (gSet 8) (mRet true) (mCall F_trimmed (mCons (mList (mSized (mCons (mVar 8) (mNil)))) (mNil)))))))
  (g_piece_at_7)
def g_piece_at : Mo Fl := sSeq (sSet 3 (mUn (fldD "Bend" "degree") (mVar 0)))
  (g_piece_at_8)
def F_piece_at : Fn := guard 3 (runF 13 g_piece_at)
def g_pieces_of_1 : Mo Fl := sRet (mList (mBlk [2] (mRange range1D (mCons (mOp subD (mBuilt lenD (mCons (mVar 1) (mNil))) (mRet (.int 1))) (mNil))) (lcBody [2] (gSet 2) (mTest (mCall F_is_less (mCons (mOp ixD (mVar 1) (mVar 2)) (mCons (mOp ixD (mVar 1) (mOp addD (mVar 2) (mRet (.int 1)))) (mNil))))) (mCall F_piece_at (mCons (mVar 0) (mCons (mVar 1) (mCons (mVar 2) (mNil))))))))
def g_pieces_of : Mo Fl := sSeq (sSet 1 (mCall F_knots_of (mCons (mUn (fldD "Bend" "degree") (mVar 0)) (mCons (mUn (fldD "Bend" "marks") (mVar 0)) (mNil)))))
  (g_pieces_of_1)
def F_pieces_of : Fn := guard 1 (runF 3 g_pieces_of)
def g_poly_scaled : Mo Fl := sRet (mCall F_trimmed (mCons (mList (mBlk [2] (mSeqS (mVar 0)) (lcBody [2] (gSet 2) (mRet true) (mCall F_multiplied (mCons (mVar 2) (mCons (mVar 1) (mNil))))))) (mNil)))
def F_poly_scaled : Fn := guard 2 (runF 3 g_poly_scaled)
def g_divided_1 : Mo Fl := sSet 2 (mList (mListOf (mCall F_poly_less (mCons (mBuilt tupleD (mCons (mVar 2) (mNil))) (mCons (mVar 6) (mNil))))))
def g_divided_2 : Mo Fl := sSeq (sSet 6 (mTup (mStar (mList (mBlk [7] (mRange range1D (mCons (mVar 4) (mNil))) (lcBody [7] (gSet 7) (mRet true) (mRet C_NOUGHT)))) (mStar (mCall F_poly_scaled (mCons (mVar 1) (mCons (mVar 5) (mNil)))) (mNil)))))
  (g_divided_1)
def g_divided_3 : Mo Fl := sSeq (sSet 5 (mCall F_quotient (mCons (mOp ixD (mVar 2) (mUn negD (mRet (.int 1)))) (mCons (mOp ixD (mVar 1) (mUn negD (mRet (.int 1)))) (mNil)))))
  (sSeq (sPut 3 (mVar 4) (mVar 5))
  (g_divided_2))
def g_divided_4 : Mo Fl := sSeq (sSet 4 (mOp subD (mBuilt lenD (mCons (mVar 2) (mNil))) (mBuilt lenD (mCons (mVar 1) (mNil)))))
  (g_divided_3)
def g_divided_5 : Mo Fl := sRet (mTup (mCons (mCall F_trimmed (mCons (mVar 3) (mNil))) (mCons (mBuilt tupleD (mCons (mVar 2) (mNil))) (mNil))))
def g_divided_6 : Mo Fl := sSeq (sWhile (fun _ => 4000) (mTest (mOp (cmpD geI) (mBuilt lenD (mCons (mVar 2) (mNil))) (mBuilt lenD (mCons (mVar 1) (mNil))))) (g_divided_4))
  (g_divided_5)
def g_divided : Mo Fl := sSeq (sPar2 2 3 (xConsP (mList (mListOf (mVar 0))) (xConsO (mBlk [7] (mRange range1D (mCons (mBuilt lenD (mCons (mVar 0) (mNil))) (mNil))) (lcBody [7] (gSet 7) (mRet true) (mRet C_NOUGHT))) (xNil))))
  (g_divided_6)
def F_divided : Fn := guard 2 (runF 8 g_divided)
def g_order_at_1 : Mo Fl := sSeq (sSet 0 (mOp ixD (mCall F_divided (mCons (mVar 0) (mCons (mVar 3) (mNil)))) (mRet (.int 0))))
  (sAug (fun i j => i + j) 2 (mRet (.int 1)))
def g_order_at_2 : Mo Fl := sSeq (sWhile (fun _ => 4000) (mTest (mOp eqD (mCall F_poly_at (mCons (mVar 0) (mCons (mVar 1) (mNil)))) (mRet C_NOUGHT))) (g_order_at_1))
  (sRet (mVar 2))
def g_order_at : Mo Fl := sSeq (sPar2 2 3 (xConsP (mRet (.int 0)) (xConsP (mTup (mCons (mCall F_less_by (mCons (mRet C_NOUGHT) (mCons (mVar 1) (mNil)))) (mCons (mRet C_ONE) (mNil)))) (xNil))))
  (g_order_at_2)
def F_order_at : Fn := guard 2 (runF 4 g_order_at)
def g_alike_slopes_1 : Mo Fl := sRet (mIf (mTest (mOp eqD (mBuilt lenD (mCons (mVar 3) (mNil))) (mRet (.int 0)))) (mRet .none) (mOp subD (mCall F_order_at (mCons (mVar 3) (mCons (mVar 2) (mNil)))) (mRet (.int 1))))
def g_alike_slopes : Mo Fl := sSeq (sSet 3 (mCall F_poly_less (mCons (mVar 0) (mCons (mVar 1) (mNil)))))
  (g_alike_slopes_1)
def F_alike_slopes : Fn := guard 3 (runF 4 g_alike_slopes)
def g_merged_1 : Mo Fl := sIf (mTest (mOp eqD (mUn (fldD "Piece" "poly") (mVar 2)) (mUn (fldD "Piece" "poly") (mIxO 1 (mUn negD (mRet (.int 1))))))) (sPut 1 (mUn negD (mRet (.int 1))) (mMake "Piece" I_Piece (mCons (mUn (fldD "Piece" "start") (mIxO 1 (mUn negD (mRet (.int 1))))) (mCons (mUn (fldD "Piece" "end") (mVar 2)) (mCons (mUn (fldD "Piece" "poly") (mVar 2)) (mNil)))))) (sChg 1 (mCons (mVar 2) (mNil)) appC)
def g_merged_2 : Mo Fl := sSeq (sFor (mSeqS (mSlice (mVar 0) (mPart (mRet (.int 1))) (mNoPart))) (gSet 2) (g_merged_1))
  (sRet (mVar 1))
def g_merged : Mo Fl := sSeq (sOwn 1 (mSized (mCons (mOp ixD (mVar 0) (mRet (.int 0))) (mNil))))
  (g_merged_2)
def F_merged : Fn := guard 1 (runF 3 g_merged)
def g_poly_in : Mo Fl := sRet (mOp ixD (mList (mBlk [3] (mSeqS (mVar 0)) (lcBody [3] (gSet 3) (mAnd (mTest (mCall F_is_at_most (mCons (mUn (fldD "Piece" "start") (mVar 3)) (mCons (mVar 1) (mNil))))) (mTest (mCall F_is_at_most (mCons (mVar 2) (mCons (mUn (fldD "Piece" "end") (mVar 3)) (mNil)))))) (mUn (fldD "Piece" "poly") (mVar 3))))) (mRet (.int 0)))
def F_poly_in : Fn := guard 3 (runF 4 g_poly_in)
def g_choices_1 : Mo Fl := sSet 2 (mOp fdivD (mOp mulD (mVar 2) (mOp subD (mVar 0) (mVar 3))) (mOp addD (mVar 3) (mRet (.int 1))))
def g_choices_2 : Mo Fl := sSeq (sFor (mRange range1D (mCons (mVar 1) (mNil))) (gSet 3) (g_choices_1))
  (sRet (mVar 2))
def g_choices : Mo Fl := sSeq (sSet 2 (mRet (.int 1)))
  (g_choices_2)
def F_choices : Fn := guard 2 (runF 4 g_choices)
def g_shared_1 : Mo Fl := sSet 3 (mCall F_poly_sum (mCons (mVar 3) (mCons (mTup (mCons (mRet C_NOUGHT) (mStar (mCall F_poly_scaled (mCons (mVar 3) (mCons (mVar 4) (mNil)))) (mNil)))) (mNil))))
def g_shared_2 : Mo Fl := sSet 5 (mCall F_added (mCons (mVar 5) (mCons (mCall F_quotient (mCons (mCall F_multiplied (mCons (mVar 7) (mCons (mCall F_power_at (mCons (mVar 3) (mCons (mVar 6) (mNil)))) (mNil)))) (mCons (mTup (mCons (mCall F_choices (mCons (mVar 1) (mCons (mVar 6) (mNil)))) (mCons (mRet (.int 1)) (mNil)))) (mNil)))) (mNil))))
def g_shared_3 : Mo Fl := sSeq (sFor (mEnum (mVar 0)) (gTupD 2 (gConsD (gSet 6) (gConsD (gSet 7) (gNilD)))) (g_shared_2))
  (sRet (mVar 5))
def g_shared_4 : Mo Fl := sSeq (sFor (mSeqS (mVar 2)) (gSet 4) (g_shared_1))
  (sSeq (sSet 5 (mRet C_NOUGHT))
  (g_shared_3))
def g_shared : Mo Fl := sSeq (sSet 3 (mTup (mCons (mRet C_ONE) (mNil))))
  (g_shared_4)
def F_shared : Fn := guard 3 (runF 8 g_shared)
def g_poly_slope : Mo Fl := sRet (mCall F_trimmed (mCons (mSlice (mList (mBlk [1, 2] (mEnum (mVar 0)) (lcBody [1, 2] (gTupD 2 (gConsD (gSet 1) (gConsD (gSet 2) (gNilD)))) (mRet true) (mCall F_multiplied (mCons (mVar 2) (mCons (mTup (mCons (mVar 1) (mCons (mRet (.int 1)) (mNil)))) (mNil))))))) (mPart (mRet (.int 1))) (mNoPart)) (mNil)))
def F_poly_slope : Fn := guard 1 (runF 3 g_poly_slope)
def g_need_inside_1 : Mo Fl := sSeq (sIf (mOr (mNot (mTest (mCall F_is_less (mCons (mOp ixD (mUn (fldD "Bend" "marks") (mVar 0)) (mRet (.int 0))) (mCons (mVar 2) (mNil)))))) (mNot (mTest (mCall F_is_less (mCons (mVar 2) (mCons (mOp ixD (mUn (fldD "Bend" "marks") (mVar 0)) (mUn negD (mRet (.int 1)))) (mNil))))))) (sRaise "InvalidTime" "time" (mVar 1)) (sNext))
  (sRet (mVar 2))
def g_need_inside_2 : Mo Fl := sSeq (sSet 2 (mCall F_value_of (mCons (mVar 1) (mNil))))
  (g_need_inside_1)
def g_need_inside : Mo Fl := sSeq (sIf (mNot (mTest (mCall F_is_value (mCons (mVar 1) (mNil))))) (sRaise "InvalidTime" "time" (mVar 1)) (sNext))
  (g_need_inside_2)
def F_need_inside : Fn := guard 2 (runF 3 g_need_inside)
def g_smooth_at_1 : Mo Fl := sRet (mCall F_alike_slopes (mCons (mVar 2) (mCons (mVar 3) (mCons (mVar 1) (mNil)))))
def g_smooth_at_2 : Mo Fl := sSeq (sSet 3 (mOp ixD (mList (mBlk [4] (mSeqS (mVar 0)) (lcBody [4] (gSet 4) (mAnd (mTest (mCall F_is_at_most (mCons (mUn (fldD "Piece" "start") (mVar 4)) (mCons (mVar 1) (mNil))))) (mTest (mCall F_is_less (mCons (mVar 1) (mCons (mUn (fldD "Piece" "end") (mVar 4)) (mNil)))))) (mUn (fldD "Piece" "poly") (mVar 4))))) (mRet (.int 0))))
  (g_smooth_at_1)
def g_smooth_at : Mo Fl := sSeq (sSet 2 (mOp ixD (mList (mBlk [4] (mSeqS (mVar 0)) (lcBody [4] (gSet 4) (mAnd (mTest (mCall F_is_less (mCons (mUn (fldD "Piece" "start") (mVar 4)) (mCons (mVar 1) (mNil))))) (mTest (mCall F_is_at_most (mCons (mVar 1) (mCons (mUn (fldD "Piece" "end") (mVar 4)) (mNil)))))) (mUn (fldD "Piece" "poly") (mVar 4))))) (mRet (.int 0))))
  (g_smooth_at_2)
def F_smooth_at : Fn := guard 2 (runF 5 g_smooth_at)
def g_put_in : Mo Fl := sRet (mTup (mStar (mList (mBlk [2] (mSeqS (mVar 0)) (lcBody [2] (gSet 2) (mNot (mTest (mCall F_is_less (mCons (mVar 1) (mCons (mVar 2) (mNil)))))) (mVar 2)))) (mCons (mVar 1) (mStar (mList (mBlk [2] (mSeqS (mVar 0)) (lcBody [2] (gSet 2) (mTest (mCall F_is_less (mCons (mVar 1) (mCons (mVar 2) (mNil))))) (mVar 2)))) (mNil)))))
def F_put_in : Fn := guard 2 (runF 3 g_put_in)
def g_taken_out_1 : Mo Fl := sRet (mTup (mStar (mSlice (mVar 0) (mNoPart) (mPart (mVar 2))) (mStar (mSlice (mVar 0) (mPart (mOp addD (mVar 2) (mRet (.int 1)))) (mNoPart)) (mNil))))
def g_taken_out : Mo Fl := sSeq (sSet 2 (mRecv isTupB idxTD (mVar 0) (mVar 1)))
  (g_taken_out_1)
def F_taken_out : Fn := guard 2 (runF 3 g_taken_out)
def g_wanted_at_1 : Mo Fl := sRet (mIf (mTest (mOp isD (mVar 3) (mRet .none))) (mRet (.int 0)) (mBuilt maxD (mCons (mRet (.int 0)) (mCons (mOp subD (mVar 1) (mVar 3)) (mNil)))))
def g_wanted_at : Mo Fl := sSeq (sSet 3 (mCall F_smooth_at (mCons (mVar 0) (mCons (mVar 2) (mNil)))))
  (g_wanted_at_1)
def F_wanted_at : Fn := guard 3 (runF 4 g_wanted_at)
def C_DOWN : D := .tuple [.int (-1), .int 1]
def C_NONE : D := .tuple []
def g_curve_at : Mo Fl := sRet (mCall F_poly_at (mCons (mCall F_poly_in (mCons (mVar 0) (mCons (mVar 1) (mCons (mVar 1) (mNil))))) (mCons (mVar 1) (mNil))))
def F_curve_at : Fn := guard 2 (runF 2 g_curve_at)
def g_Place_is_known : Mo Fl := sRet (mOrV (mUn (fldD "Place" "is_stretch") (mVar 0)) (mOp eqD (mUn (fldD "Place" "first") (mVar 0)) (mUn (fldD "Place" "last") (mVar 0))))
def F_Place_is_known : Fn := guard 1 (runF 1 g_Place_is_known)
def g_gaps_in_1 : Mo Fl := sIf (mNot (mTest (mMeth "Place" "is_known" F_Place_is_known (mVar 7) mNil))) (sChg 3 (mCons (mUn (fldD "Place" "last") (mVar 7)) (mNil)) appC) (sChg 3 (mCons (mIf (mTest (mMeth "Place" "is_known" F_Place_is_known (mVar 8) mNil)) (mCall F_middle_of (mCons (mUn (fldD "Place" "last") (mVar 7)) (mCons (mUn (fldD "Place" "first") (mVar 8)) (mNil)))) (mUn (fldD "Place" "first") (mVar 8))) (mNil)) appC)
def g_gaps_in_2 : Mo Fl := sSeq (sPar2 7 8 (xConsP (mOp ixD (mVar 1) (mVar 4)) (xConsP (mOp ixD (mVar 1) (mOp addD (mVar 4) (mRet (.int 1)))) (xNil))))
  (g_gaps_in_1)
def g_gaps_in_3 : Mo Fl := sRet (mList (mSized (mStar (mVar 3) (mCons (mIf (mAnd (mTest (mMeth "Place" "is_known" F_Place_is_known (mOp ixD (mVar 1) (mUn negD (mRet (.int 1)))) mNil)) (mTest (mOp eqD (mUn (fldD "Place" "last") (mOp ixD (mVar 1) (mUn negD (mRet (.int 1))))) (mVar 6)))) (mRet .none) (mVar 6)) (mNil)))))
def g_gaps_in_4 : Mo Fl := sSeq (sFor (mRange range1D (mCons (mOp subD (mBuilt lenD (mCons (mVar 1) (mNil))) (mRet (.int 1))) (mNil))) (gSet 4) (g_gaps_in_2))
  (g_gaps_in_3)
def g_gaps_in_5 : Mo Fl := sSeq (sOwn 3 (mSized (mCons (mVar 2) (mNil))))
  (g_gaps_in_4)
def g_gaps_in_6 : Mo Fl := sSeq (sSet 2 (mIf (mAnd (mTest (mMeth "Place" "is_known" F_Place_is_known (mOp ixD (mVar 1) (mRet (.int 0))) mNil)) (mTest (mOp eqD (mUn (fldD "Place" "first") (mOp ixD (mVar 1) (mRet (.int 0)))) (mVar 5)))) (mRet .none) (mVar 5)))
  (g_gaps_in_5)
def g_gaps_in_7 : Mo Fl := sSeq (sIf (mTest (mOp eqD (mBuilt lenD (mCons (mVar 1) (mNil))) (mRet (.int 0)))) (sRet (mList (mSized (mCons (mVar 5) (mNil))))) (sNext))
  (g_gaps_in_6)
def g_gaps_in : Mo Fl := sSeq (sPar2 5 6 (xConsP (mUn (fldD "Piece" "start") (mOp ixD (mVar 0) (mRet (.int 0)))) (xConsP (mUn (fldD "Piece" "end") (mOp ixD (mVar 0) (mUn negD (mRet (.int 1))))) (xNil))))
  (g_gaps_in_7)
def F_gaps_in : Fn := guard 2 (runF 9 g_gaps_in)
def g_Place_init : MoO := oPut "first" (fun _ => mVar 1)
  (oPut "last" (fun _ => mVar 2)
  (oPut "is_stretch" (fun _ => mVar 3)
  (oPut "poly" (fun _ => mVar 4)
  (oPut "factor" (fun _ => mVar 5)
  (oEnd)))))
def I_Place : FnI := guardI 5 (runI 5 g_Place_init)
def g_changes_of_1 : Mo Fl := sRet (mBuilt lenD (mCons (mList (mBlk [3] (mRange range1D (mCons (mOp subD (mBuilt lenD (mCons (mVar 1) (mNil))) (mRet (.int 1))) (mNil))) (lcBody [3] (gSet 3) (mTest (mOp neD (mOp ixD (mVar 1) (mVar 3)) (mOp ixD (mVar 1) (mOp addD (mVar 3) (mRet (.int 1)))))) (mVar 3)))) (mNil)))
def g_changes_of : Mo Fl := sSeq (sSet 1 (mList (mBlk [2] (mSeqS (mVar 0)) (lcBody [2] (gSet 2) (mTest (mOp neD (mVar 2) (mRet (.int 0)))) (mVar 2)))))
  (g_changes_of_1)
def F_changes_of : Fn := guard 1 (runF 4 g_changes_of)
def g_sign_of : Mo Fl := sRet (mOp subBD (mOp (cmpD gtI) (mOp ixD (mVar 0) (mRet (.int 0))) (mRet (.int 0))) (mOp (cmpD ltI) (mOp ixD (mVar 0) (mRet (.int 0))) (mRet (.int 0))))
def F_sign_of : Fn := guard 1 (runF 1 g_sign_of)
def g_changes_at : Mo Fl := sRet (mCall F_changes_of (mCons (mList (mBlk [2] (mSeqS (mVar 0)) (lcBody [2] (gSet 2) (mRet true) (mCall F_sign_of (mCons (mCall F_poly_at (mCons (mVar 2) (mCons (mVar 1) (mNil)))) (mNil)))))) (mNil)))
def F_changes_at : Fn := guard 2 (runF 3 g_changes_at)
def g_common_factor_1 : Mo Fl := sPar2 0 1 (xConsP (mVar 1) (xConsP (mOp ixD (mCall F_divided (mCons (mVar 0) (mCons (mVar 1) (mNil)))) (mRet (.int 1))) (xNil)))
def g_common_factor_2 : Mo Fl := sRet (mIf (mTest (mOp (cmpD gtI) (mBuilt lenD (mCons (mVar 0) (mNil))) (mRet (.int 0)))) (mCall F_poly_scaled (mCons (mVar 0) (mCons (mCall F_quotient (mCons (mRet C_ONE) (mCons (mOp ixD (mVar 0) (mUn negD (mRet (.int 1)))) (mNil)))) (mNil)))) (mRet C_NONE))
def g_common_factor : Mo Fl := sSeq (sWhile (fun _ => 4000) (mTest (mOp (cmpD gtI) (mBuilt lenD (mCons (mVar 1) (mNil))) (mRet (.int 0)))) (g_common_factor_1))
  (g_common_factor_2)
def F_common_factor : Fn := guard 2 (runF 2 g_common_factor)
def g_plain_part : Mo Fl := sRet (mOp ixD (mCall F_divided (mCons (mVar 0) (mCons (mCall F_common_factor (mCons (mVar 0) (mCons (mCall F_poly_slope (mCons (mVar 0) (mNil))) (mNil)))) (mNil)))) (mRet (.int 0)))
def F_plain_part : Fn := guard 1 (runF 1 g_plain_part)
def g_sorted_places_1 : Mo Fl := sSet 1 (mList (mSized (mStar (mList (mBlk [3] (mSeqS (mVar 1)) (lcBody [3] (gSet 3) (mTest (mCall F_is_less (mCons (mUn (fldD "Place" "first") (mVar 3)) (mCons (mUn (fldD "Place" "first") (mVar 2)) (mNil))))) (mVar 3)))) (mCons (mVar 2) (mStar (mList (mBlk [3] (mSeqS (mVar 1)) (lcBody [3] (gSet 3) (mTest (mCall F_is_less (mCons (mUn (fldD "Place" "first") (mVar 2)) (mCons (mUn (fldD "Place" "first") (mVar 3)) (mNil))))) (mVar 3)))) (mNil))))))
def g_sorted_places_2 : Mo Fl := sSeq (sFor (mSeqS (mVar 0)) (gSet 2) (g_sorted_places_1))
  (sRet (mVar 1))
def g_sorted_places : Mo Fl := sSeq (sSet 1 (mList (mSized (mNil))))
  (g_sorted_places_2)
def F_sorted_places : Fn := guard 1 (runF 4 g_sorted_places)
def g_sturm_row_1 : Mo Fl := sChg 1 (mCons (mCall F_poly_scaled (mCons (mOp ixD (mCall F_divided (mCons (mIxO 1 (mUn negD (mRet (.int 2)))) (mCons (mIxO 1 (mUn negD (mRet (.int 1)))) (mNil)))) (mRet (.int 1))) (mCons (mRet C_DOWN) (mNil)))) (mNil)) appC
def g_sturm_row_2 : Mo Fl := sRet (mSlice (mVar 1) (mNoPart) (mPart (mUn negD (mRet (.int 1)))))
def g_sturm_row_3 : Mo Fl := sSeq (sWhile (fun _ => 4000) (mTest (mOp (cmpD gtI) (mBuilt lenD (mCons (mIxO 1 (mUn negD (mRet (.int 1)))) (mNil))) (mRet (.int 0)))) (g_sturm_row_1))
  (g_sturm_row_2)
def g_sturm_row : Mo Fl := sSeq (sOwn 1 (mSized (mCons (mVar 0) (mCons (mCall F_poly_slope (mCons (mVar 0) (mNil))) (mNil)))))
  (g_sturm_row_3)
def F_sturm_row : Fn := guard 1 (runF 2 g_sturm_row)
def g_without_zero : Mo Fl := sRet (mIf (mTest (mOp eqD (mCall F_poly_at (mCons (mVar 0) (mCons (mVar 1) (mNil)))) (mRet C_NOUGHT))) (mOp ixD (mCall F_divided (mCons (mVar 0) (mCons (mTup (mCons (mCall F_less_by (mCons (mRet C_NOUGHT) (mCons (mVar 1) (mNil)))) (mCons (mRet C_ONE) (mNil)))) (mNil)))) (mRet (.int 0))) (mVar 0))
def F_without_zero : Fn := guard 2 (runF 2 g_without_zero)
def g_times_between_1 : Mo Fl := sSeq (sSet 6 (mCall F_without_zero (mCons (mVar 6) (mCons (mVar 10) (mNil)))))
  (sSet 5 (mCall F_sturm_row (mCons (mVar 6) (mNil))))
def g_times_between_2 : Mo Fl := sSeq (sChg 4 (mCons (mVar 10) (mNil)) appC)
  (g_times_between_1)
def g_times_between_3 : Mo Fl := sChg 8 (mCons (mList (mSized (mCons (mTup (mCons (mVar 12) (mCons (mVar 10) (mNil)))) (mCons (mTup (mCons (mVar 10) (mCons (mVar 13) (mNil)))) (mNil))))) (mNil)) extC
def g_times_between_4 : Mo Fl := sSeq (sIf (mTest (mOp eqD (mCall F_poly_at (mCons (mVar 6) (mCons (mVar 10) (mNil)))) (mRet C_NOUGHT))) (sSeq (sChg 7 (mCons (mMake "Place" I_Place (mCons (mVar 10) (mCons (mVar 10) (mCons (mRet (.bool false)) (mCons (mVar 0) (mCons (mVar 3) (mNil))))))) (mNil)) appC)
  (g_times_between_2)) (sNext))
  (g_times_between_3)
def g_times_between_5 : Mo Fl := sSeq (sSet 10 (mCall F_middle_of (mCons (mVar 12) (mCons (mVar 13) (mNil)))))
  (g_times_between_4)
def g_times_between_6 : Mo Fl := sSeq (sIf (mAnd (mTest (mOp eqD (mVar 9) (mRet (.int 1)))) (mAnd (mTest (mInO true 4 (mVar 12))) (mTest (mInO true 4 (mVar 13))))) (sSeq (sChg 7 (mCons (mMake "Place" I_Place (mCons (mVar 12) (mCons (mVar 13) (mCons (mRet (.bool false)) (mCons (mVar 0) (mCons (mVar 3) (mNil))))))) (mNil)) appC)
  (mRet .ct)) (sNext))
  (g_times_between_5)
def g_times_between_7 : Mo Fl := sSeq (sIf (mTest (mOp eqD (mVar 9) (mRet (.int 0)))) (mRet .ct) (sNext))
  (g_times_between_6)
def g_times_between_8 : Mo Fl := sSeq (sSet 9 (mOp subD (mCall F_changes_at (mCons (mVar 5) (mCons (mVar 12) (mNil)))) (mCall F_changes_at (mCons (mVar 5) (mCons (mVar 13) (mNil))))))
  (g_times_between_7)
def g_times_between_9 : Mo Fl := sSeq (sAsg (gTupD 2 (gConsD (gSet 12) (gConsD (gSet 13) (gNilD)))) (mPop0 8))
  (g_times_between_8)
def g_times_between_10 : Mo Fl := sSeq (sWhile (fun _ => 4000) (mTest (mOp (cmpD gtI) (mLenO 8) (mRet (.int 0)))) (g_times_between_9))
  (sRet (mCall F_sorted_places (mCons (mVar 7) (mNil))))
def g_times_between_11 : Mo Fl := sSeq (sSet 5 (mCall F_sturm_row (mCons (mVar 6) (mNil))))
  (g_times_between_10)
def g_times_between_12 : Mo Fl := sSeq (sPar3 6 7 8 (xConsP (mCall F_without_zero (mCons (mCall F_without_zero (mCons (mVar 3) (mCons (mVar 1) (mNil)))) (mCons (mVar 2) (mNil)))) (xConsO (mSized (mNil)) (xConsO (mSized (mCons (mTup (mCons (mVar 1) (mCons (mVar 2) (mNil)))) (mNil))) (xNil)))))
  (g_times_between_11)
def g_times_between_13 : Mo Fl := sSeq (sOwn 4 (mBlk [11] (mSeqS (mTup (mCons (mVar 1) (mCons (mVar 2) (mNil))))) (lcBody [11] (gSet 11) (mTest (mOp eqD (mCall F_poly_at (mCons (mVar 3) (mCons (mVar 11) (mNil)))) (mRet C_NOUGHT))) (mVar 11))))
  (g_times_between_12)
def g_times_between : Mo Fl := sSeq (sSet 3 (mCall F_plain_part (mCons (mVar 0) (mNil))))
  (g_times_between_13)
def F_times_between : Fn := guard 3 (runF 14 g_times_between)
def g_with_stretch_1 : Mo Fl := sSet 0 (mSlice (mVar 0) (mNoPart) (mPart (mUn negD (mRet (.int 1)))))
def g_with_stretch_2 : Mo (List D) := rRet (mSized (mStar (mVar 0) (mCons (mMake "Place" I_Place (mCons (mVar 2) (mCons (mUn (fldD "Piece" "end") (mVar 1)) (mCons (mRet (.bool true)) (mCons (mUn (fldD "Piece" "poly") (mVar 1)) (mCons (mUn (fldD "Piece" "poly") (mVar 1)) (mNil))))))) (mNil))))
def g_with_stretch_3 : Mo (List D) := rSeq (sIf (mAnd (mTest (mOp (cmpD gtI) (mBuilt lenD (mCons (mVar 0) (mNil))) (mRet (.int 0)))) (mTest (mOp eqD (mUn (fldD "Place" "last") (mOp ixD (mVar 0) (mUn negD (mRet (.int 1))))) (mUn (fldD "Piece" "start") (mVar 1))))) (sSeq (sSet 2 (mUn (fldD "Place" "first") (mOp ixD (mVar 0) (mUn negD (mRet (.int 1))))))
  (g_with_stretch_1)) (sNext))
  (g_with_stretch_2)
def g_with_stretch : Mo (List D) := rSeq (sSet 2 (mUn (fldD "Piece" "start") (mVar 1)))
  (g_with_stretch_3)
def F_with_stretch : FnN := guardN 2 (runN 3 g_with_stretch)
def g_places_in_1 : Mo Fl := sIf (mTest (mOp eqD (mCall F_poly_at (mCons (mUn (fldD "Piece" "poly") (mVar 2)) (mCons (mUn (fldD "Piece" "end") (mVar 2)) (mNil)))) (mRet C_NOUGHT))) (sChg 1 (mCons (mMake "Place" I_Place (mCons (mUn (fldD "Piece" "end") (mVar 2)) (mCons (mUn (fldD "Piece" "end") (mVar 2)) (mCons (mRet (.bool false)) (mCons (mUn (fldD "Piece" "poly") (mVar 2)) (mCons (mUn (fldD "Piece" "poly") (mVar 2)) (mNil))))))) (mNil)) appC) (sNext)
def g_places_in_2 : Mo Fl := sSeq (sChg 1 (mCons (mCall F_times_between (mCons (mUn (fldD "Piece" "poly") (mVar 2)) (mCons (mUn (fldD "Piece" "start") (mVar 2)) (mCons (mUn (fldD "Piece" "end") (mVar 2)) (mNil))))) (mNil)) extC)
  (g_places_in_1)
def g_places_in_3 : Mo Fl := sSeq (sIf (mAnd (mTest (mOp eqD (mCall F_poly_at (mCons (mUn (fldD "Piece" "poly") (mVar 2)) (mCons (mUn (fldD "Piece" "start") (mVar 2)) (mNil)))) (mRet C_NOUGHT))) (mNot (mTest (mVar 3)))) (sChg 1 (mCons (mMake "Place" I_Place (mCons (mUn (fldD "Piece" "start") (mVar 2)) (mCons (mUn (fldD "Piece" "start") (mVar 2)) (mCons (mRet (.bool false)) (mCons (mUn (fldD "Piece" "poly") (mVar 2)) (mCons (mUn (fldD "Piece" "poly") (mVar 2)) (mNil))))))) (mNil)) appC) (sNext))
  (g_places_in_2)
def g_places_in_4 : Mo Fl := sSeq (sSet 3 (mAndV (mOp (cmpD gtI) (mLenO 1) (mRet (.int 0))) (mAndV (mOp eqD (mUn (fldD "Place" "last") (mIxO 1 (mUn negD (mRet (.int 1))))) (mUn (fldD "Piece" "start") (mVar 2))) (mMeth "Place" "is_known" F_Place_is_known (mIxO 1 (mUn negD (mRet (.int 1)))) mNil))))
  (g_places_in_3)
def g_places_in_5 : Mo Fl := sSeq (sIf (mTest (mOp eqD (mBuilt lenD (mCons (mUn (fldD "Piece" "poly") (mVar 2)) (mNil))) (mRet (.int 0)))) (sSeq (sOwn 1 (mCallN F_with_stretch (mCons (mVar 1) (mCons (mVar 2) (mNil)))))
  (mRet .ct)) (sNext))
  (g_places_in_4)
def g_places_in_6 : Mo Fl := sSeq (sFor (mSeqS (mVar 0)) (gSet 2) (g_places_in_5))
  (sRet (mVar 1))
def g_places_in : Mo Fl := sSeq (sOwn 1 (mSized (mNil)))
  (g_places_in_6)
def F_places_in : Fn := guard 1 (runF 4 g_places_in)
def g_signs_in_1 : Mo Fl := sIf (mTest (mOp isNotD (mVar 4) (mRet .none))) (sChg 2 (mCons (mCall F_sign_of (mCons (mCall F_curve_at (mCons (mVar 0) (mCons (mVar 4) (mNil)))) (mNil))) (mNil)) appC) (sNext)
def g_signs_in_2 : Mo Fl := sSeq (sIf (mTest (mOp (cmpD gtI) (mVar 3) (mRet (.int 0)))) (sChg 2 (mCons (mRet (.int 0)) (mNil)) appC) (sNext))
  (g_signs_in_1)
def g_signs_in_3 : Mo Fl := sSeq (sFor (mEnum (mCall F_gaps_in (mCons (mVar 0) (mCons (mVar 1) (mNil))))) (gTupD 2 (gConsD (gSet 3) (gConsD (gSet 4) (gNilD)))) (g_signs_in_2))
  (sRet (mBuilt tupleD (mCons (mVar 2) (mNil))))
def g_signs_in : Mo Fl := sSeq (sPar2 1 2 (xConsP (mCall F_places_in (mCons (mVar 0) (mNil))) (xConsO (mSized (mNil)) (xNil))))
  (g_signs_in_3)
def F_signs_in : Fn := guard 1 (runF 5 g_signs_in)
def g_sign_row : Mo Fl := sRet (mCall F_signs_in (mCons (mCall F_pieces_of (mCons (mVar 0) (mNil))) (mNil)))
def F_sign_row : Fn := guard 1 (runF 1 g_sign_row)
def g_Live_init : MoO := oPut "now" (fun _ => mVar 1)
  (oPut "row" (fun _ => mCall F_sign_row (mCons (mVar 1) (mNil)))
  (oPut "past" (fun _ => mTup (mNil))
  (oEnd)))
def I_Live : FnI := guardI 1 (runI 1 g_Live_init)
def g_Live___len__ : Mo Fl := sRet (mBuilt lenD (mCons (mFldS 0 "Live" "past") (mNil)))
def F_Live___len__ : FnM := guardM 0 (runM "Live" 0 g_Live___len__)
def g_Live_go_on_1 : Mo Fl := sSeq (sFldS 0 "Live" "row" (mCall F_sign_row (mCons (mVar 1) (mNil))))
  (sRet (mFldS 0 "Live" "row"))
def g_Live_go_on : Mo Fl := sSeq (sFldS 0 "Live" "past" (mTup (mStar (mFldS 0 "Live" "past") (mCons (mFldS 0 "Live" "now") (mNil)))))
  (sSeq (sFldS 0 "Live" "now" (mVar 1))
  (g_Live_go_on_1))
def F_Live_go_on : FnM := guardM 1 (runM "Live" 1 g_Live_go_on)
def g_is_pull : Mo Fl := sRet (mAndV (mCall F_is_integer (mCons (mVar 1) (mNil))) (mAndV (mChain (cmpD leI) (cmpD ltI) (mRet (.int 0)) (mVar 1) (mLenObj "Bend" F_Bend___len__ (mVar 0))) (mCall F_is_value (mCons (mVar 2) (mNil)))))
def F_is_pull : Fn := guard 3 (runF 3 g_is_pull)
def g_Live_undo_1 : Mo Fl := sSeq (sFldS 0 "Live" "past" (mSlice (mFldS 0 "Live" "past") (mNoPart) (mPart (mUn negD (mRet (.int 1))))))
  (sRet (mRet (.bool true)))
def g_Live_undo_2 : Mo Fl := sSeq (sFldS 0 "Live" "row" (mCall F_sign_row (mCons (mFldS 0 "Live" "now") (mNil))))
  (g_Live_undo_1)
def g_Live_undo_3 : Mo Fl := sSeq (sFldS 0 "Live" "now" (mOp ixD (mFldS 0 "Live" "past") (mUn negD (mRet (.int 1)))))
  (g_Live_undo_2)
def g_Live_undo : Mo Fl := sSeq (sIf (mTest (mOp eqD (mBuilt lenD (mCons (mFldS 0 "Live" "past") (mNil))) (mRet (.int 0)))) (sRet (mRet (.bool false))) (sNext))
  (g_Live_undo_3)
def F_Live_undo : FnM := guardM 0 (runM "Live" 0 g_Live_undo)
def C_ALONE : D := .tuple [.str "signs", .str "least", .str "undo"]
def C_MOST_DIGITS_desk : D := .int 2
def C_MOST_DIGITS_values : D := .int 9
def C_TIMED : D := .tuple [.str "mark", .str "unmark", .str "value"]
def g_Desk_init : MoO := oPut "live" (fun _ => mRet .none)
  (oEnd)
def I_Desk : FnI := guardI 0 (runI 0 g_Desk_init)
def g_number_in_v70a5_1 : Mo Fl := sRet (mIf (mOr (mTest (mOp eqD (mVar 0) (mRet (.str "0")))) (mTest (mOp neD (mOp ixD (mVar 0) (mRet (.int 0))) (mRet (.str "0"))))) (mBuilt intSD (mCons (mVar 0) (mNil))) (mRet .none))
def g_number_in_v70a5 : Mo Fl := sSeq (sIf (mOr (mNot (mTest (mChain (cmpD leI) (cmpD leI) (mRet (.int 1)) (mBuilt lenD (mCons (mVar 0) (mNil))) (mRet C_MOST_DIGITS_values)))) (mNot (mTest (mBuilt allD (mCons (mList (mBlk [1] (mSignS (mVar 0)) (lcBody [1] (gSet 1) (mRet true) (mOp inTD (mVar 1) (mRet C_DIGITS))))) (mNil)))))) (sRet (mRet .none)) (sNext))
  (g_number_in_v70a5_1)
def F_number_in_v70a5 : Fn := guard 1 (runF 2 g_number_in_v70a5)
def g_value_in_vdbf8_1 : Mo Fl := sRet (mIf (mTest (mOp eqD (mBuilt lenD (mCons (mVar 2) (mNil))) (mRet C_PAIR))) (mTup (mCons (mVar 4) (mCons (mOp ixD (mVar 3) (mUn negD (mRet (.int 1)))) (mNil)))) (mTup (mCons (mVar 4) (mCons (mRet (.int 1)) (mNil)))))
def g_value_in_vdbf8_2 : Mo Fl := sSeq (sSet 4 (mIf (mTest (mVar 1)) (mUn negD (mOp ixD (mVar 3) (mRet (.int 0)))) (mOp ixD (mVar 3) (mRet (.int 0)))))
  (g_value_in_vdbf8_1)
def g_value_in_vdbf8_3 : Mo Fl := sSeq (sIf (mAnd (mTest (mOp eqD (mBuilt lenD (mCons (mVar 2) (mNil))) (mRet C_PAIR))) (mOr (mTest (mOp (cmpD leI) (mOp ixD (mVar 3) (mRet (.int 1))) (mRet (.int 1)))) (mTest (mOp neD (mCall F_common_part (mCons (mOp ixD (mVar 3) (mRet (.int 0))) (mCons (mOp ixD (mVar 3) (mRet (.int 1))) (mNil)))) (mRet (.int 1)))))) (sRet (mRet .none)) (sNext))
  (g_value_in_vdbf8_2)
def g_value_in_vdbf8_4 : Mo Fl := sSeq (sIf (mOr (mTest (mOp (cmpD gtI) (mBuilt lenD (mCons (mVar 2) (mNil))) (mRet C_PAIR))) (mOr (mTest (mOp inTD (mRet .none) (mVar 3))) (mAnd (mTest (mVar 1)) (mTest (mOp eqD (mOp ixD (mVar 3) (mRet (.int 0))) (mRet (.int 0))))))) (sRet (mRet .none)) (sNext))
  (g_value_in_vdbf8_3)
def g_value_in_vdbf8_5 : Mo Fl := sSeq (sSet 3 (mList (mBlk [5] (mSeqS (mVar 2)) (lcBody [5] (gSet 5) (mRet true) (mCall F_number_in_v70a5 (mCons (mVar 5) (mNil)))))))
  (g_value_in_vdbf8_4)
def g_value_in_vdbf8_6 : Mo Fl := sSeq (sSet 2 (mM1 splitD (mSlice (mVar 0) (mPart (mBuilt intD (mCons (mVar 1) (mNil)))) (mNoPart)) (mRet (.str "/"))))
  (g_value_in_vdbf8_5)
def g_value_in_vdbf8 : Mo Fl := sSeq (sSet 1 (mOp eqD (mSlice (mVar 0) (mNoPart) (mPart (mRet (.int 1)))) (mRet (.str "-"))))
  (g_value_in_vdbf8_6)
def F_value_in_vdbf8 : Fn := guard 1 (runF 6 g_value_in_vdbf8)
def g_values_in_v091a_1 : Mo Fl := sRet (mIf (mTest (mOp inTD (mRet .none) (mVar 1))) (mRet .none) (mVar 1))
def g_values_in_v091a : Mo Fl := sSeq (sSet 1 (mList (mBlk [2] (mSeqS (mVar 0)) (lcBody [2] (gSet 2) (mRet true) (mCall F_value_in_vdbf8 (mCons (mVar 2) (mNil)))))))
  (g_values_in_v091a_1)
def F_values_in_v091a : Fn := guard 1 (runF 3 g_values_in_v091a)
def g_rows_in_vbcc3_1 : Mo Fl := sRet (mTup (mCons (mOp ixD (mOp ixD (mVar 3) (mRet (.int 0))) (mRet (.int 0))) (mCons (mVar 4) (mCons (mVar 5) (mNil)))))
def g_rows_in_vbcc3_2 : Mo Fl := sSeq (sIf (mOr (mTest (mOp neD (mOp ixD (mOp ixD (mVar 3) (mRet (.int 0))) (mRet (.int 1))) (mRet (.int 1)))) (mTest (mOp (cmpD ltI) (mOp ixD (mOp ixD (mVar 3) (mRet (.int 0))) (mRet (.int 0))) (mRet (.int 0))))) (sRet (mRet .none)) (sNext))
  (g_rows_in_vbcc3_1)
def g_rows_in_vbcc3_3 : Mo Fl := sSeq (sIf (mOr (mTest (mOp isD (mVar 3) (mRet .none))) (mOr (mTest (mOp isD (mVar 4) (mRet .none))) (mOr (mTest (mOp isD (mVar 5) (mRet .none))) (mOr (mTest (mOp eqD (mBuilt lenD (mCons (mVar 4) (mNil))) (mRet (.int 0)))) (mTest (mOp eqD (mBuilt lenD (mCons (mVar 5) (mNil))) (mRet (.int 0)))))))) (sRet (mRet .none)) (sNext))
  (g_rows_in_vbcc3_2)
def g_rows_in_vbcc3_4 : Mo Fl := sSeq (sPar3 3 4 5 (xConsP (mCall F_values_in_v091a (mCons (mSlice (mVar 1) (mPart (mRet (.int 1))) (mPart (mRet (.int 2)))) (mNil))) (xConsP (mCall F_values_in_v091a (mCons (mSlice (mVar 1) (mPart (mRet (.int 3))) (mPart (mVar 2))) (mNil))) (xConsP (mCall F_values_in_v091a (mCons (mSlice (mVar 1) (mPart (mOp addD (mVar 2) (mRet (.int 1)))) (mNoPart)) (mNil))) (xNil)))))
  (g_rows_in_vbcc3_3)
def g_rows_in_vbcc3_5 : Mo Fl := sSeq (sSet 2 (mRecv isLstB idxLD (mVar 1) (mRet (.str "handles"))))
  (g_rows_in_vbcc3_4)
def g_rows_in_vbcc3_6 : Mo Fl := sSeq (sIf (mOr (mTest (mOp neD (mSlice (mVar 1) (mNoPart) (mPart (mRet (.int 1)))) (mList (mSized (mCons (mRet (.str "bend")) (mNil)))))) (mOr (mTest (mOp neD (mSlice (mVar 1) (mPart (mRet (.int 2))) (mPart (mRet (.int 3)))) (mList (mSized (mCons (mRet (.str "marks")) (mNil)))))) (mTest (mOp neD (mRecv isLstB cntLD (mVar 1) (mRet (.str "handles"))) (mRet (.int 1)))))) (sRet (mRet .none)) (sNext))
  (g_rows_in_vbcc3_5)
def g_rows_in_vbcc3 : Mo Fl := sSeq (sSet 1 (mIf (mTest (mIsi isStrT (mVar 0))) (mM1 splitD (mVar 0) (mRet (.str " "))) (mList (mSized (mNil)))))
  (g_rows_in_vbcc3_6)
def F_rows_in_vbcc3 : Fn := guard 1 (runF 6 g_rows_in_vbcc3)
def g_bend_with_v58ff_1 : Mo Fl := sChg 5 (mCons (mCall F_shared (mCons (mVar 8) (mCons (mVar 0) (mCons (mSlice (mVar 4) (mPart (mOp addD (mVar 3) (mRet (.int 1)))) (mPart (mOp addD (mOp addD (mVar 3) (mVar 0)) (mRet (.int 1))))) (mNil))))) (mNil)) appC
def g_bend_with_v58ff_2 : Mo Fl := sSeq (sSet 8 (mCall F_poly_in (mCons (mVar 6) (mCons (mOp ixD (mVar 4) (mVar 7)) (mCons (mOp ixD (mVar 4) (mOp addD (mVar 7) (mRet (.int 1)))) (mNil))))))
  (g_bend_with_v58ff_1)
def g_bend_with_v58ff_3 : Mo Fl := sSeq (sSet 7 (mOp ixD (mList (mBlk [9] (mRange range2D (mCons (mVar 3) (mCons (mOp addD (mOp addD (mVar 3) (mVar 0)) (mRet (.int 1))) (mNil)))) (lcBody [9] (gSet 9) (mTest (mCall F_is_less (mCons (mOp ixD (mVar 4) (mVar 9)) (mCons (mOp ixD (mVar 4) (mOp addD (mVar 9) (mRet (.int 1)))) (mNil))))) (mVar 9)))) (mRet (.int 0))))
  (g_bend_with_v58ff_2)
def g_bend_with_v58ff_4 : Mo Fl := sRet (mMake "Bend" I_Bend (mCons (mVar 0) (mCons (mVar 1) (mCons (mVar 5) (mNil)))))
def g_bend_with_v58ff_5 : Mo Fl := sSeq (sFor (mRange range1D (mCons (mOp addD (mOp subD (mBuilt lenD (mCons (mVar 1) (mNil))) (mRet (.int 1))) (mVar 0)) (mNil))) (gSet 3) (g_bend_with_v58ff_3))
  (g_bend_with_v58ff_4)
def g_bend_with_v58ff : Mo Fl := sSeq (sParN [4, 5, 6] (xConsP (mCall F_knots_of (mCons (mVar 0) (mCons (mVar 1) (mNil)))) (xConsO (mSized (mNil)) (xConsP (mCall F_merged (mCons (mVar 2) (mNil))) (xNil)))))
  (g_bend_with_v58ff_5)
def F_bend_with_v58ff : Fn := guard 3 (runF 10 g_bend_with_v58ff)
def g_least_of_v2f02_1 : Mo Fl := sChg 3 (mCons (mList (mBlk [6] (mRange range1D (mCons (mOp subD (mVar 2) (mVar 5)) (mNil))) (lcBody [6] (gSet 6) (mRet true) (mUn (fldD "Piece" "end") (mOp ixD (mVar 1) (mVar 4)))))) (mNil)) extC
def g_least_of_v2f02_2 : Mo Fl := sSeq (sSet 5 (mCall F_alike_slopes (mCons (mUn (fldD "Piece" "poly") (mOp ixD (mVar 1) (mVar 4))) (mCons (mUn (fldD "Piece" "poly") (mOp ixD (mVar 1) (mOp addD (mVar 4) (mRet (.int 1))))) (mCons (mUn (fldD "Piece" "end") (mOp ixD (mVar 1) (mVar 4))) (mNil))))))
  (g_least_of_v2f02_1)
def g_least_of_v2f02_3 : Mo Fl := sRet (mCall F_bend_with_v58ff (mCons (mVar 2) (mCons (mList (mSized (mStar (mVar 3) (mCons (mUn (fldD "Piece" "end") (mOp ixD (mVar 1) (mUn negD (mRet (.int 1))))) (mNil))))) (mCons (mVar 1) (mNil)))))
def g_least_of_v2f02_4 : Mo Fl := sSeq (sFor (mRange range1D (mCons (mOp subD (mBuilt lenD (mCons (mVar 1) (mNil))) (mRet (.int 1))) (mNil))) (gSet 4) (g_least_of_v2f02_2))
  (g_least_of_v2f02_3)
def g_least_of_v2f02_5 : Mo Fl := sSeq (sOwn 3 (mSized (mCons (mUn (fldD "Piece" "start") (mOp ixD (mVar 1) (mRet (.int 0)))) (mNil))))
  (g_least_of_v2f02_4)
def g_least_of_v2f02_6 : Mo Fl := sSeq (sSet 2 (mBuilt max1D (mCons (mList (mSized (mCons (mRet (.int 0)) (mStar (mList (mBlk [7] (mSeqS (mVar 1)) (lcBody [7] (gSet 7) (mRet true) (mOp subD (mBuilt lenD (mCons (mUn (fldD "Piece" "poly") (mVar 7)) (mNil))) (mRet (.int 1)))))) (mNil))))) (mNil))))
  (g_least_of_v2f02_5)
def g_least_of_v2f02 : Mo Fl := sSeq (sSet 1 (mCall F_merged (mCons (mVar 0) (mNil))))
  (g_least_of_v2f02_6)
def F_least_of_v2f02 : Fn := guard 1 (runF 8 g_least_of_v2f02)
def g_least_v607e : Mo Fl := sRet (mCall F_least_of_v2f02 (mCons (mCall F_pieces_of (mCons (mVar 0) (mNil))) (mNil)))
def F_least_v607e : Fn := guard 1 (runF 1 g_least_v607e)
def g_told_signs : Mo Fl := sRet (mM1 joinD (mRet (.str "")) (mList (mBlk [1] (mSeqS (mVar 0)) (lcBody [1] (gSet 1) (mRet true) (mUn (gdD [((-1), "-"), (0, "0"), (1, "+")]) (mVar 1))))))
def F_told_signs : Fn := guard 1 (runF 2 g_told_signs)
def g_Desk_alone_1 : MoF := rRetL (liftRd (mCallR F_told_signs (mConsR (mNowR "row") (fun _ => mNil))))
def g_Desk_alone_2 : MoF := sIfC (mAndL (liftL (mTest (mOp eqD (mVar 1) (mRet (.str "undo"))))) (mNotL (mTestL (mMethL "undo" F_Live_undo mNil)))) (liftS (sRet (mRet (.str "nothing"))))
  (g_Desk_alone_1)
def g_Desk_alone : MoF := sIfP (mTest (mOp eqD (mVar 1) (mRet (.str "least")))) (rRetL (mStrOL "Bend" F_Bend___str__ (liftRd (mCallR F_least_v607e (mConsR (mNowR "now") (fun _ => mNil))))))
  (g_Desk_alone_2)
def F_Desk_alone : FnD := guardD 1 (runD 1 g_Desk_alone)
def g_with_mark_v73ae_1 : Mo Fl := sRet (mCall F_bend_with_v58ff (mCons (mUn (fldD "Bend" "degree") (mVar 0)) (mCons (mCall F_put_in (mCons (mUn (fldD "Bend" "marks") (mVar 0)) (mCons (mVar 2) (mNil)))) (mCons (mCall F_pieces_of (mCons (mVar 0) (mNil))) (mNil)))))
def g_with_mark_v73ae_2 : Mo Fl := sSeq (sIf (mTest (mOp (cmpD geI) (mRecv isTupB cntTD (mUn (fldD "Bend" "marks") (mVar 0)) (mVar 2)) (mUn (fldD "Bend" "degree") (mVar 0)))) (sRaise "InvalidTime" "time" (mVar 1)) (sNext))
  (g_with_mark_v73ae_1)
def g_with_mark_v73ae : Mo Fl := sSeq (sSet 2 (mCall F_need_inside (mCons (mVar 0) (mCons (mVar 1) (mNil)))))
  (g_with_mark_v73ae_2)
def F_with_mark_v73ae : Fn := guard 2 (runF 3 g_with_mark_v73ae)
def g_Live_mark : Mo Fl := sRet (mMethE "Live" "go_on" F_Live_go_on 0 (mCons (mCall F_with_mark_v73ae (mCons (mFldS 0 "Live" "now") (mCons (mVar 1) (mNil)))) (mNil)))
def F_Live_mark : FnM := guardM 1 (runM "Live" 1 g_Live_mark)
def g_without_mark_v2561_1 : Mo Fl := sRet (mCall F_bend_with_v58ff (mCons (mUn (fldD "Bend" "degree") (mVar 0)) (mCons (mCall F_taken_out (mCons (mUn (fldD "Bend" "marks") (mVar 0)) (mCons (mVar 2) (mNil)))) (mCons (mVar 3) (mNil)))))
def g_without_mark_v2561_2 : Mo Fl := sSeq (sIf (mTest (mOp (cmpD leI) (mRecv isTupB cntTD (mUn (fldD "Bend" "marks") (mVar 0)) (mVar 2)) (mCall F_wanted_at (mCons (mVar 3) (mCons (mUn (fldD "Bend" "degree") (mVar 0)) (mCons (mVar 2) (mNil))))))) (sRet (mRet .none)) (sNext))
  (g_without_mark_v2561_1)
def g_without_mark_v2561_3 : Mo Fl := sSeq (sPar2 2 3 (xConsP (mCall F_value_of (mCons (mVar 1) (mNil))) (xConsP (mCall F_pieces_of (mCons (mVar 0) (mNil))) (xNil))))
  (g_without_mark_v2561_2)
def g_without_mark_v2561 : Mo Fl := sSeq (sIf (mOr (mNot (mTest (mCall F_is_value (mCons (mVar 1) (mNil))))) (mTest (mOp notInTD (mCall F_value_of (mCons (mVar 1) (mNil))) (mSlice (mUn (fldD "Bend" "marks") (mVar 0)) (mPart (mRet (.int 1))) (mPart (mUn negD (mRet (.int 1)))))))) (sRaise "NoMark" "time" (mVar 1)) (sNext))
  (g_without_mark_v2561_3)
def F_without_mark_v2561 : Fn := guard 2 (runF 4 g_without_mark_v2561)
def g_Live_unmark_1 : Mo Fl := sSeq (sDrop (mMethI "Live" "go_on" F_Live_go_on 0 (mCons (mVar 2) (mNil))))
  (sRet (mRet (.bool true)))
def g_Live_unmark_2 : Mo Fl := sSeq (sIf (mTest (mOp isD (mVar 2) (mRet .none))) (sRet (mRet (.bool false))) (sNext))
  (g_Live_unmark_1)
def g_Live_unmark : Mo Fl := sSeq (sSet 2 (mCall F_without_mark_v2561 (mCons (mFldS 0 "Live" "now") (mCons (mVar 1) (mNil)))))
  (g_Live_unmark_2)
def F_Live_unmark : FnM := guardM 1 (runM "Live" 2 g_Live_unmark)
def g_Desk_timed_1 : MoF := rRetL (liftRd (mCallR F_text_of (mConsR (mCallR F_value (mConsR (mNowR "now") (fun _ => mCons (mVar 2) (mNil)))) (fun _ => mNil))))
def g_Desk_timed_2 : MoF := sIfP (mTest (mOp eqD (mVar 1) (mRet (.str "unmark")))) (rRetL (mIfL (mTestL (mMethL "unmark" F_Live_unmark (mCons (mVar 2) (mNil)))) (liftL (mRet (.str "done"))) (liftL (mRet (.str "needed")))))
  (g_Desk_timed_1)
def g_Desk_timed : MoF := sIfP (mTest (mOp eqD (mVar 1) (mRet (.str "mark")))) (rRetL (mCallL F_told_signs (mConsL (mMethL "mark" F_Live_mark (mCons (mVar 2) (mNil))) (mNil))))
  (g_Desk_timed_2)
def F_Desk_timed : FnD := guardD 2 (runD 2 g_Desk_timed)
def g_pulled_v4480 : Mo Fl := sRet (mMake "Bend" I_Bend (mCons (mUn (fldD "Bend" "degree") (mVar 0)) (mCons (mUn (fldD "Bend" "marks") (mVar 0)) (mCons (mList (mSized (mStar (mSlice (mUn (fldD "Bend" "handles") (mVar 0)) (mNoPart) (mPart (mVar 1))) (mCons (mVar 2) (mStar (mSlice (mUn (fldD "Bend" "handles") (mVar 0)) (mPart (mOp addD (mVar 1) (mRet (.int 1)))) (mNoPart)) (mNil)))))) (mNil)))))
def F_pulled_v4480 : Fn := guard 3 (runF 3 g_pulled_v4480)
def g_number_of_1 : Mo Fl := sSeq (sIf (mTest (mOp isD (mVar 1) (mRet .none))) (sRaise0 "InvalidCommand") (sNext))
  (sRet (mVar 1))
def g_number_of : Mo Fl := sSeq (sSet 1 (mIf (mTest (mOp (cmpD leI) (mBuilt lenD (mCons (mVar 0) (mNil))) (mRet C_MOST_DIGITS_desk))) (mCall F_number_in_v70a5 (mCons (mVar 0) (mNil))) (mRet .none)))
  (g_number_of_1)
def F_number_of : Fn := guard 1 (runF 2 g_number_of)
def g_time_of_1 : Mo Fl := sSeq (sIf (mTest (mOp isD (mVar 1) (mRet .none))) (sRaise0 "InvalidCommand") (sNext))
  (sRet (mVar 1))
def g_time_of : Mo Fl := sSeq (sSet 1 (mCall F_value_in_vdbf8 (mCons (mVar 0) (mNil))))
  (g_time_of_1)
def F_time_of : Fn := guard 1 (runF 2 g_time_of)
def g_words_of_1 : Mo Fl := sSeq (sIf (mTest (mOp inTD (mRet (.str "")) (mVar 1))) (sRaise0 "InvalidCommand") (sNext))
  (sRet (mVar 1))
def g_words_of_2 : Mo Fl := sSeq (sSet 1 (mM1 splitD (mVar 0) (mRet (.str " "))))
  (g_words_of_1)
def g_words_of : Mo Fl := sSeq (sIf (mOr (mNot (mTest (mIsi isStrT (mVar 0)))) (mTest (mOp inTD (mRet (.str "\n")) (mVar 0)))) (sRaise0 "InvalidCommand") (sNext))
  (g_words_of_2)
def F_words_of : Fn := guard 1 (runF 2 g_words_of)
end HB
namespace HB
open PySem L2
structure Say (K : PySem.W.Frag) (mg : Str → Option Value) : Prop where
  m_abs : mg "abs" = none
  m_all : mg "all" = none
  m_any : mg "any" = none
  m_bool : mg "bool" = none
  m_enumerate : mg "enumerate" = none
  m_int : mg "int" = none
  m_isinstance : mg "isinstance" = none
  m_len : mg "len" = none
  m_list : mg "list" = none
  m_max : mg "max" = none
  m_min : mg "min" = none
  m_range : mg "range" = none
  m_repr : mg "repr" = none
  m_str : mg "str" = none
  m_tuple : mg "tuple" = none
  m_zip : mg "zip" = none
  c_ALONE : GlD K mg "ALONE" C_ALONE
  c_DIGITS : GlD K mg "DIGITS" C_DIGITS
  c_DOWN : GlD K mg "DOWN" C_DOWN
  c_MOST_DIGITS_desk : GlD K mg "MOST_DIGITS_desk" C_MOST_DIGITS_desk
  c_MOST_DIGITS_values : GlD K mg "MOST_DIGITS_values" C_MOST_DIGITS_values
  c_NONE : GlD K mg "NONE" C_NONE
  c_NOUGHT : GlD K mg "NOUGHT" C_NOUGHT
  c_ONE : GlD K mg "ONE" C_ONE
  c_PAIR : GlD K mg "PAIR" C_PAIR
  c_TIMED : GlD K mg "TIMED" C_TIMED
  gd_SIGNS : mg "SIGNS" = some (.ref (He.ga K "SIGNS"))
  gb_SIGNS : glDic "SIGNS" [((-1), "-"), (0, "0"), (1, "+")] K = true
  ap_0 : apartB ["InvalidCommand", "InvalidText", "InvalidBend", "InvalidTime", "NoMark", "Refused"] K = true
  cl_Bend : Cls K (He.ga K "Bend")
  mk_Bend : Mk K (He.ga K "Bend") (He.ma K (He.ga K "Bend") "__init__")
  gc_Bend : mg "Bend" = some (.ref (He.ga K "Bend"))
  cl_Desk : Cls K (He.ga K "Desk")
  mk_Desk : Mk K (He.ga K "Desk") (He.ma K (He.ga K "Desk") "__init__")
  gc_Desk : mg "Desk" = some (.ref (He.ga K "Desk"))
  cl_Live : Cls K (He.ga K "Live")
  mk_Live : Mk K (He.ga K "Live") (He.ma K (He.ga K "Live") "__init__")
  gc_Live : mg "Live" = some (.ref (He.ga K "Live"))
  cl_Piece : Cls K (He.ga K "Piece")
  mk_Piece : Mk K (He.ga K "Piece") (He.ma K (He.ga K "Piece") "__init__")
  gc_Piece : mg "Piece" = some (.ref (He.ga K "Piece"))
  cl_Place : Cls K (He.ga K "Place")
  mk_Place : Mk K (He.ga K "Place") (He.ma K (He.ga K "Place") "__init__")
  gc_Place : mg "Place" = some (.ref (He.ga K "Place"))
  gc_BendError : mg "BendError" = some (.ref (He.ga K "BendError"))
  gc_InvalidBend : mg "InvalidBend" = some (.ref (He.ga K "InvalidBend"))
  gc_InvalidCommand : mg "InvalidCommand" = some (.ref (He.ga K "InvalidCommand"))
  gc_InvalidText : mg "InvalidText" = some (.ref (He.ga K "InvalidText"))
  gc_InvalidTime : mg "InvalidTime" = some (.ref (He.ga K "InvalidTime"))
  gc_NoMark : mg "NoMark" = some (.ref (He.ga K "NoMark"))
  gc_Refused : mg "Refused" = some (.ref (He.ga K "Refused"))
  xf_InvalidBend : ExcF K "InvalidBend" "word"
  xf_InvalidText : ExcF K "InvalidText" "at"
  xf_InvalidTime : ExcF K "InvalidTime" "time"
  xf_NoMark : ExcF K "NoMark" "time"
  xf_Refused : ExcF K "Refused" "at"
  xf0_InvalidCommand : ExcF0 K "InvalidCommand"
  bot_BendError : BotF K "BendError"
  isx_Bend : IsxF K "Bend"
  iso_Bend : isoB K "Bend" = true
  cr_Bend : ClX.CRead K (He.ga K "Bend") (.type "type")
  cm_Bend_read_o : ClX.CMet K (He.ga K "Bend") (.type "type") "read" (He.ma K (He.ga K "Bend") "read") (He5.wf K (He.ga K "Bend") "classmethod" "read")
  d_Bend_read_o : ∃ fd, FunD K "read" "Bend.read" (defArgs s_Bend_read_o) (defBody s_Bend_read_o) (defScope s_Bend_read_o) [] [] (He5.wf K (He.ga K "Bend") "classmethod" "read") fd
  me_Bend___len__ : Meth K (He.ga K "Bend") "__len__" (He.ma K (He.ga K "Bend") "__len__")
  me_Bend___str__ : Meth K (He.ga K "Bend") "__str__" (He.ma K (He.ga K "Bend") "__str__")
  me_Place_is_known : Meth K (He.ga K "Place") "is_known" (He.ma K (He.ga K "Place") "is_known")
  me_Live_undo : Meth K (He.ga K "Live") "undo" (He.ma K (He.ga K "Live") "undo")
  me_Desk_alone : Meth K (He.ga K "Desk") "alone" (He.ma K (He.ga K "Desk") "alone")
  me_Live_go_on : Meth K (He.ga K "Live") "go_on" (He.ma K (He.ga K "Live") "go_on")
  me_Live_mark : Meth K (He.ga K "Live") "mark" (He.ma K (He.ga K "Live") "mark")
  me_Bend___eq__ : Meth K (He.ga K "Bend") "__eq__" (He.ma K (He.ga K "Bend") "__eq__")
  me_Live_unmark : Meth K (He.ga K "Live") "unmark" (He.ma K (He.ga K "Live") "unmark")
  me_Desk_timed : Meth K (He.ga K "Desk") "timed" (He.ma K (He.ga K "Desk") "timed")
  me_Live_pull_o : Meth K (He.ga K "Live") "pull" (He.ma K (He.ga K "Live") "pull")
  me_Desk_say_o : Meth K (He.ga K "Desk") "say" (He.ma K (He.ga K "Desk") "say")
  me_Live___len__ : Meth K (He.ga K "Live") "__len__" (He.ma K (He.ga K "Live") "__len__")
  pr_Live_bend : PropOf K (He.ga K "Live") "bend" (He.ma K (He.ga K "Live") "bend") (propA K "Live" "bend")
  d_Live_bend : ∃ fd, FunD K "bend" "Live.bend" (defArgs s_Live_bend) (defBody s_Live_bend) (defScope s_Live_bend) [] [] (propA K "Live" "bend") fd
  pr_Live_signs : PropOf K (He.ga K "Live") "signs" (He.ma K (He.ga K "Live") "signs") (propA K "Live" "signs")
  d_Live_signs : ∃ fd, FunD K "signs" "Live.signs" (defArgs s_Live_signs) (defBody s_Live_signs) (defScope s_Live_signs) [] [] (propA K "Live" "signs") fd
  na_Bend_degree : NoAttr K (He.ga K "Bend") "degree"
  na_Bend_handles : NoAttr K (He.ga K "Bend") "handles"
  na_Bend_marks : NoAttr K (He.ga K "Bend") "marks"
  na_Bend_text : NoAttr K (He.ga K "Bend") "text"
  na_Desk_live : NoAttr K (He.ga K "Desk") "live"
  na_Live_now : NoAttr K (He.ga K "Live") "now"
  na_Live_past : NoAttr K (He.ga K "Live") "past"
  na_Live_row : NoAttr K (He.ga K "Live") "row"
  na_Piece_end : NoAttr K (He.ga K "Piece") "end"
  na_Piece_poly : NoAttr K (He.ga K "Piece") "poly"
  na_Piece_start : NoAttr K (He.ga K "Piece") "start"
  na_Place_factor : NoAttr K (He.ga K "Place") "factor"
  na_Place_first : NoAttr K (He.ga K "Place") "first"
  na_Place_is_stretch : NoAttr K (He.ga K "Place") "is_stretch"
  na_Place_last : NoAttr K (He.ga K "Place") "last"
  na_Place_poly : NoAttr K (He.ga K "Place") "poly"
  d_Desk_init : ∃ fd, FunD K "__init__" "Desk.__init__" (defArgs s_Desk_init) (defBody s_Desk_init) (defScope s_Desk_init) [] [] (He.ma K (He.ga K "Desk") "__init__") fd
  d_InvalidBend_init : ∃ fd, FunD K "__init__" "InvalidBend.__init__" (defArgs s_InvalidBend_init) (defBody s_InvalidBend_init) (defScope s_InvalidBend_init) [] [] (He.ma K (He.ga K "InvalidBend") "__init__") fd
  d_is_less : ∃ fd, FunD K "is_less" "is_less" (defArgs s_is_less) (defBody s_is_less) (defScope s_is_less) [] [] (He.ga K "is_less") fd
  g_is_less : mg "is_less" = some (.ref (He.ga K "is_less"))
  d_is_sequence : ∃ fd, FunD K "is_sequence" "is_sequence" (defArgs s_is_sequence) (defBody s_is_sequence) (defScope s_is_sequence) [] [] (He.ga K "is_sequence") fd
  g_is_sequence : mg "is_sequence" = some (.ref (He.ga K "is_sequence"))
  d_common_part : ∃ fd, FunD K "common_part" "common_part" (defArgs s_common_part) (defBody s_common_part) (defScope s_common_part) [] [] (He.ga K "common_part") fd
  g_common_part : mg "common_part" = some (.ref (He.ga K "common_part"))
  d_is_integer : ∃ fd, FunD K "is_integer" "is_integer" (defArgs s_is_integer) (defBody s_is_integer) (defScope s_is_integer) [] [] (He.ga K "is_integer") fd
  g_is_integer : mg "is_integer" = some (.ref (He.ga K "is_integer"))
  d_is_value : ∃ fd, FunD K "is_value" "is_value" (defArgs s_is_value) (defBody s_is_value) (defScope s_is_value) [] [] (He.ga K "is_value") fd
  g_is_value : mg "is_value" = some (.ref (He.ga K "is_value"))
  d_value_of : ∃ fd, FunD K "value_of" "value_of" (defArgs s_value_of) (defBody s_value_of) (defScope s_value_of) [] [] (He.ga K "value_of") fd
  g_value_of : mg "value_of" = some (.ref (He.ga K "value_of"))
  d_are_marks : ∃ fd, FunD K "are_marks" "are_marks" (defArgs s_are_marks) (defBody s_are_marks) (defScope s_are_marks) [] [] (He.ga K "are_marks") fd
  g_are_marks : mg "are_marks" = some (.ref (He.ga K "are_marks"))
  d_text_of : ∃ fd, FunD K "text_of" "text_of" (defArgs s_text_of) (defBody s_text_of) (defScope s_text_of) [] [] (He.ga K "text_of") fd
  g_text_of : mg "text_of" = some (.ref (He.ga K "text_of"))
  d_text_of_bend : ∃ fd, FunD K "text_of_bend" "text_of_bend" (defArgs s_text_of_bend) (defBody s_text_of_bend) (defScope s_text_of_bend) [] [] (He.ga K "text_of_bend") fd
  g_text_of_bend : mg "text_of_bend" = some (.ref (He.ga K "text_of_bend"))
  d_Bend_init : ∃ fd, FunD K "__init__" "Bend.__init__" (defArgs s_Bend_init) (defBody s_Bend_init) (defScope s_Bend_init) [] [] (He.ma K (He.ga K "Bend") "__init__") fd
  d_Bend___len__ : ∃ fd, FunD K "__len__" "Bend.__len__" (defArgs s_Bend___len__) (defBody s_Bend___len__) (defScope s_Bend___len__) [] [] (He.ma K (He.ga K "Bend") "__len__") fd
  d_InvalidText_init : ∃ fd, FunD K "__init__" "InvalidText.__init__" (defArgs s_InvalidText_init) (defBody s_InvalidText_init) (defScope s_InvalidText_init) [] [] (He.ma K (He.ga K "InvalidText") "__init__") fd
  d_number_in_v70a5 : ∃ fd, FunD K "number_in" "number_in" (defArgs s_number_in_v70a5) (defBody s_number_in_v70a5) (defScope s_number_in_v70a5) [] [] (He.ga K "number_in") fd
  g_number_in_v70a5 : mg "number_in" = some (.ref (He.ga K "number_in"))
  d_value_in_vdbf8 : ∃ fd, FunD K "value_in" "value_in" (defArgs s_value_in_vdbf8) (defBody s_value_in_vdbf8) (defScope s_value_in_vdbf8) [] [] (He.ga K "value_in") fd
  g_value_in_vdbf8 : mg "value_in" = some (.ref (He.ga K "value_in"))
  d_values_in_v091a : ∃ fd, FunD K "values_in" "values_in" (defArgs s_values_in_v091a) (defBody s_values_in_v091a) (defScope s_values_in_v091a) [] [] (He.ga K "values_in") fd
  g_values_in_v091a : mg "values_in" = some (.ref (He.ga K "values_in"))
  d_rows_in_vbcc3 : ∃ fd, FunD K "rows_in" "rows_in" (defArgs s_rows_in_vbcc3) (defBody s_rows_in_vbcc3) (defScope s_rows_in_vbcc3) [] [] (He.ga K "rows_in") fd
  g_rows_in_vbcc3 : mg "rows_in" = some (.ref (He.ga K "rows_in"))
  d_Bend___str__ : ∃ fd, FunD K "__str__" "Bend.__str__" (defArgs s_Bend___str__) (defBody s_Bend___str__) (defScope s_Bend___str__) [] [] (He.ma K (He.ga K "Bend") "__str__") fd
  d_knots_of : ∃ fd, FunD K "knots_of" "knots_of" (defArgs s_knots_of) (defBody s_knots_of) (defScope s_knots_of) [] [] (He.ga K "knots_of") fd
  g_knots_of : mg "knots_of" = some (.ref (He.ga K "knots_of"))
  d_Piece_init : ∃ fd, FunD K "__init__" "Piece.__init__" (defArgs s_Piece_init) (defBody s_Piece_init) (defScope s_Piece_init) [] [] (He.ma K (He.ga K "Piece") "__init__") fd
  d_in_lowest : ∃ fd, FunD K "in_lowest" "in_lowest" (defArgs s_in_lowest) (defBody s_in_lowest) (defScope s_in_lowest) [] [] (He.ga K "in_lowest") fd
  g_in_lowest : mg "in_lowest" = some (.ref (He.ga K "in_lowest"))
  d_less_by : ∃ fd, FunD K "less_by" "less_by" (defArgs s_less_by) (defBody s_less_by) (defScope s_less_by) [] [] (He.ga K "less_by") fd
  g_less_by : mg "less_by" = some (.ref (He.ga K "less_by"))
  d_power_at : ∃ fd, FunD K "power_at" "power_at" (defArgs s_power_at) (defBody s_power_at) (defScope s_power_at) [] [] (He.ga K "power_at") fd
  g_power_at : mg "power_at" = some (.ref (He.ga K "power_at"))
  d_trimmed : ∃ fd, FunD K "trimmed" "trimmed" (defArgs s_trimmed) (defBody s_trimmed) (defScope s_trimmed) [] [] (He.ga K "trimmed") fd
  g_trimmed : mg "trimmed" = some (.ref (He.ga K "trimmed"))
  d_poly_less : ∃ fd, FunD K "poly_less" "poly_less" (defArgs s_poly_less) (defBody s_poly_less) (defScope s_poly_less) [] [] (He.ga K "poly_less") fd
  g_poly_less : mg "poly_less" = some (.ref (He.ga K "poly_less"))
  d_added : ∃ fd, FunD K "added" "added" (defArgs s_added) (defBody s_added) (defScope s_added) [] [] (He.ga K "added") fd
  g_added : mg "added" = some (.ref (He.ga K "added"))
  d_poly_sum : ∃ fd, FunD K "poly_sum" "poly_sum" (defArgs s_poly_sum) (defBody s_poly_sum) (defScope s_poly_sum) [] [] (He.ga K "poly_sum") fd
  g_poly_sum : mg "poly_sum" = some (.ref (He.ga K "poly_sum"))
  d_multiplied : ∃ fd, FunD K "multiplied" "multiplied" (defArgs s_multiplied) (defBody s_multiplied) (defScope s_multiplied) [] [] (He.ga K "multiplied") fd
  g_multiplied : mg "multiplied" = some (.ref (He.ga K "multiplied"))
  d_poly_times : ∃ fd, FunD K "poly_times" "poly_times" (defArgs s_poly_times) (defBody s_poly_times) (defScope s_poly_times) [] [] (He.ga K "poly_times") fd
  g_poly_times : mg "poly_times" = some (.ref (He.ga K "poly_times"))
  d_quotient : ∃ fd, FunD K "quotient" "quotient" (defArgs s_quotient) (defBody s_quotient) (defScope s_quotient) [] [] (He.ga K "quotient") fd
  g_quotient : mg "quotient" = some (.ref (He.ga K "quotient"))
  d_share_poly : ∃ fd, FunD K "share_poly" "share_poly" (defArgs s_share_poly) (defBody s_share_poly) (defScope s_share_poly) [] [] (He.ga K "share_poly") fd
  g_share_poly : mg "share_poly" = some (.ref (He.ga K "share_poly"))
  d_piece_at : ∃ fd, FunD K "piece_at" "piece_at" (defArgs s_piece_at) (defBody s_piece_at) (defScope s_piece_at) [] [] (He.ga K "piece_at") fd
  g_piece_at : mg "piece_at" = some (.ref (He.ga K "piece_at"))
  d_pieces_of : ∃ fd, FunD K "pieces_of" "pieces_of" (defArgs s_pieces_of) (defBody s_pieces_of) (defScope s_pieces_of) [] [] (He.ga K "pieces_of") fd
  g_pieces_of : mg "pieces_of" = some (.ref (He.ga K "pieces_of"))
  d_poly_at : ∃ fd, FunD K "poly_at" "poly_at" (defArgs s_poly_at) (defBody s_poly_at) (defScope s_poly_at) [] [] (He.ga K "poly_at") fd
  g_poly_at : mg "poly_at" = some (.ref (He.ga K "poly_at"))
  d_is_at_most : ∃ fd, FunD K "is_at_most" "is_at_most" (defArgs s_is_at_most) (defBody s_is_at_most) (defScope s_is_at_most) [] [] (He.ga K "is_at_most") fd
  g_is_at_most : mg "is_at_most" = some (.ref (He.ga K "is_at_most"))
  d_poly_in : ∃ fd, FunD K "poly_in" "poly_in" (defArgs s_poly_in) (defBody s_poly_in) (defScope s_poly_in) [] [] (He.ga K "poly_in") fd
  g_poly_in : mg "poly_in" = some (.ref (He.ga K "poly_in"))
  d_curve_at : ∃ fd, FunD K "curve_at" "curve_at" (defArgs s_curve_at) (defBody s_curve_at) (defScope s_curve_at) [] [] (He.ga K "curve_at") fd
  g_curve_at : mg "curve_at" = some (.ref (He.ga K "curve_at"))
  d_Place_is_known : ∃ fd, FunD K "is_known" "Place.is_known" (defArgs s_Place_is_known) (defBody s_Place_is_known) (defScope s_Place_is_known) [] [] (He.ma K (He.ga K "Place") "is_known") fd
  d_middle_of : ∃ fd, FunD K "middle_of" "middle_of" (defArgs s_middle_of) (defBody s_middle_of) (defScope s_middle_of) [] [] (He.ga K "middle_of") fd
  g_middle_of : mg "middle_of" = some (.ref (He.ga K "middle_of"))
  d_gaps_in : ∃ fd, FunD K "gaps_in" "gaps_in" (defArgs s_gaps_in) (defBody s_gaps_in) (defScope s_gaps_in) [] [] (He.ga K "gaps_in") fd
  g_gaps_in : mg "gaps_in" = some (.ref (He.ga K "gaps_in"))
  d_Place_init : ∃ fd, FunD K "__init__" "Place.__init__" (defArgs s_Place_init) (defBody s_Place_init) (defScope s_Place_init) [] [] (He.ma K (He.ga K "Place") "__init__") fd
  d_changes_of : ∃ fd, FunD K "changes_of" "changes_of" (defArgs s_changes_of) (defBody s_changes_of) (defScope s_changes_of) [] [] (He.ga K "changes_of") fd
  g_changes_of : mg "changes_of" = some (.ref (He.ga K "changes_of"))
  d_sign_of : ∃ fd, FunD K "sign_of" "sign_of" (defArgs s_sign_of) (defBody s_sign_of) (defScope s_sign_of) [] [] (He.ga K "sign_of") fd
  g_sign_of : mg "sign_of" = some (.ref (He.ga K "sign_of"))
  d_changes_at : ∃ fd, FunD K "changes_at" "changes_at" (defArgs s_changes_at) (defBody s_changes_at) (defScope s_changes_at) [] [] (He.ga K "changes_at") fd
  g_changes_at : mg "changes_at" = some (.ref (He.ga K "changes_at"))
  d_poly_scaled : ∃ fd, FunD K "poly_scaled" "poly_scaled" (defArgs s_poly_scaled) (defBody s_poly_scaled) (defScope s_poly_scaled) [] [] (He.ga K "poly_scaled") fd
  g_poly_scaled : mg "poly_scaled" = some (.ref (He.ga K "poly_scaled"))
  d_divided : ∃ fd, FunD K "divided" "divided" (defArgs s_divided) (defBody s_divided) (defScope s_divided) [] [] (He.ga K "divided") fd
  g_divided : mg "divided" = some (.ref (He.ga K "divided"))
  d_common_factor : ∃ fd, FunD K "common_factor" "common_factor" (defArgs s_common_factor) (defBody s_common_factor) (defScope s_common_factor) [] [] (He.ga K "common_factor") fd
  g_common_factor : mg "common_factor" = some (.ref (He.ga K "common_factor"))
  d_poly_slope : ∃ fd, FunD K "poly_slope" "poly_slope" (defArgs s_poly_slope) (defBody s_poly_slope) (defScope s_poly_slope) [] [] (He.ga K "poly_slope") fd
  g_poly_slope : mg "poly_slope" = some (.ref (He.ga K "poly_slope"))
  d_plain_part : ∃ fd, FunD K "plain_part" "plain_part" (defArgs s_plain_part) (defBody s_plain_part) (defScope s_plain_part) [] [] (He.ga K "plain_part") fd
  g_plain_part : mg "plain_part" = some (.ref (He.ga K "plain_part"))
  d_sorted_places : ∃ fd, FunD K "sorted_places" "sorted_places" (defArgs s_sorted_places) (defBody s_sorted_places) (defScope s_sorted_places) [] [] (He.ga K "sorted_places") fd
  g_sorted_places : mg "sorted_places" = some (.ref (He.ga K "sorted_places"))
  d_sturm_row : ∃ fd, FunD K "sturm_row" "sturm_row" (defArgs s_sturm_row) (defBody s_sturm_row) (defScope s_sturm_row) [] [] (He.ga K "sturm_row") fd
  g_sturm_row : mg "sturm_row" = some (.ref (He.ga K "sturm_row"))
  d_without_zero : ∃ fd, FunD K "without_zero" "without_zero" (defArgs s_without_zero) (defBody s_without_zero) (defScope s_without_zero) [] [] (He.ga K "without_zero") fd
  g_without_zero : mg "without_zero" = some (.ref (He.ga K "without_zero"))
  d_times_between : ∃ fd, FunD K "times_between" "times_between" (defArgs s_times_between) (defBody s_times_between) (defScope s_times_between) [] [] (He.ga K "times_between") fd
  g_times_between : mg "times_between" = some (.ref (He.ga K "times_between"))
  d_with_stretch : ∃ fd, FunD K "with_stretch" "with_stretch" (defArgs s_with_stretch) (defBody s_with_stretch) (defScope s_with_stretch) [] [] (He.ga K "with_stretch") fd
  g_with_stretch : mg "with_stretch" = some (.ref (He.ga K "with_stretch"))
  d_places_in : ∃ fd, FunD K "places_in" "places_in" (defArgs s_places_in) (defBody s_places_in) (defScope s_places_in) [] [] (He.ga K "places_in") fd
  g_places_in : mg "places_in" = some (.ref (He.ga K "places_in"))
  d_signs_in : ∃ fd, FunD K "signs_in" "signs_in" (defArgs s_signs_in) (defBody s_signs_in) (defScope s_signs_in) [] [] (He.ga K "signs_in") fd
  g_signs_in : mg "signs_in" = some (.ref (He.ga K "signs_in"))
  d_sign_row : ∃ fd, FunD K "sign_row" "sign_row" (defArgs s_sign_row) (defBody s_sign_row) (defScope s_sign_row) [] [] (He.ga K "sign_row") fd
  g_sign_row : mg "sign_row" = some (.ref (He.ga K "sign_row"))
  d_Live_undo : ∃ fd, FunD K "undo" "Live.undo" (defArgs s_Live_undo) (defBody s_Live_undo) (defScope s_Live_undo) [] [] (He.ma K (He.ga K "Live") "undo") fd
  d_order_at : ∃ fd, FunD K "order_at" "order_at" (defArgs s_order_at) (defBody s_order_at) (defScope s_order_at) [] [] (He.ga K "order_at") fd
  g_order_at : mg "order_at" = some (.ref (He.ga K "order_at"))
  d_alike_slopes : ∃ fd, FunD K "alike_slopes" "alike_slopes" (defArgs s_alike_slopes) (defBody s_alike_slopes) (defScope s_alike_slopes) [] [] (He.ga K "alike_slopes") fd
  g_alike_slopes : mg "alike_slopes" = some (.ref (He.ga K "alike_slopes"))
  d_merged : ∃ fd, FunD K "merged" "merged" (defArgs s_merged) (defBody s_merged) (defScope s_merged) [] [] (He.ga K "merged") fd
  g_merged : mg "merged" = some (.ref (He.ga K "merged"))
  d_choices : ∃ fd, FunD K "choices" "choices" (defArgs s_choices) (defBody s_choices) (defScope s_choices) [] [] (He.ga K "choices") fd
  g_choices : mg "choices" = some (.ref (He.ga K "choices"))
  d_shared : ∃ fd, FunD K "shared" "shared" (defArgs s_shared) (defBody s_shared) (defScope s_shared) [] [] (He.ga K "shared") fd
  g_shared : mg "shared" = some (.ref (He.ga K "shared"))
  d_bend_with_v58ff : ∃ fd, FunD K "bend_with" "bend_with" (defArgs s_bend_with_v58ff) (defBody s_bend_with_v58ff) (defScope s_bend_with_v58ff) [] [] (He.ga K "bend_with") fd
  g_bend_with_v58ff : mg "bend_with" = some (.ref (He.ga K "bend_with"))
  d_least_of_v2f02 : ∃ fd, FunD K "least_of" "least_of" (defArgs s_least_of_v2f02) (defBody s_least_of_v2f02) (defScope s_least_of_v2f02) [] [] (He.ga K "least_of") fd
  g_least_of_v2f02 : mg "least_of" = some (.ref (He.ga K "least_of"))
  d_least_v607e : ∃ fd, FunD K "least" "least" (defArgs s_least_v607e) (defBody s_least_v607e) (defScope s_least_v607e) [] [] (He.ga K "least") fd
  g_least_v607e : mg "least" = some (.ref (He.ga K "least"))
  d_told_signs : ∃ fd, FunD K "told_signs" "told_signs" (defArgs s_told_signs) (defBody s_told_signs) (defScope s_told_signs) [] [] (He.ga K "told_signs") fd
  g_told_signs : mg "told_signs" = some (.ref (He.ga K "told_signs"))
  d_Desk_alone : ∃ fd, FunD K "alone" "Desk.alone" (defArgs s_Desk_alone) (defBody s_Desk_alone) (defScope s_Desk_alone) [] [] (He.ma K (He.ga K "Desk") "alone") fd
  d_Live_go_on : ∃ fd, FunD K "go_on" "Live.go_on" (defArgs s_Live_go_on) (defBody s_Live_go_on) (defScope s_Live_go_on) [] [] (He.ma K (He.ga K "Live") "go_on") fd
  d_InvalidTime_init : ∃ fd, FunD K "__init__" "InvalidTime.__init__" (defArgs s_InvalidTime_init) (defBody s_InvalidTime_init) (defScope s_InvalidTime_init) [] [] (He.ma K (He.ga K "InvalidTime") "__init__") fd
  d_need_inside : ∃ fd, FunD K "need_inside" "need_inside" (defArgs s_need_inside) (defBody s_need_inside) (defScope s_need_inside) [] [] (He.ga K "need_inside") fd
  g_need_inside : mg "need_inside" = some (.ref (He.ga K "need_inside"))
  d_put_in : ∃ fd, FunD K "put_in" "put_in" (defArgs s_put_in) (defBody s_put_in) (defScope s_put_in) [] [] (He.ga K "put_in") fd
  g_put_in : mg "put_in" = some (.ref (He.ga K "put_in"))
  d_with_mark_v73ae : ∃ fd, FunD K "with_mark" "with_mark" (defArgs s_with_mark_v73ae) (defBody s_with_mark_v73ae) (defScope s_with_mark_v73ae) [] [] (He.ga K "with_mark") fd
  g_with_mark_v73ae : mg "with_mark" = some (.ref (He.ga K "with_mark"))
  d_Live_mark : ∃ fd, FunD K "mark" "Live.mark" (defArgs s_Live_mark) (defBody s_Live_mark) (defScope s_Live_mark) [] [] (He.ma K (He.ga K "Live") "mark") fd
  d_Bend___eq__ : ∃ fd, FunD K "__eq__" "Bend.__eq__" (defArgs s_Bend___eq__) (defBody s_Bend___eq__) (defScope s_Bend___eq__) [] [] (He.ma K (He.ga K "Bend") "__eq__") fd
  d_NoMark_init : ∃ fd, FunD K "__init__" "NoMark.__init__" (defArgs s_NoMark_init) (defBody s_NoMark_init) (defScope s_NoMark_init) [] [] (He.ma K (He.ga K "NoMark") "__init__") fd
  d_taken_out : ∃ fd, FunD K "taken_out" "taken_out" (defArgs s_taken_out) (defBody s_taken_out) (defScope s_taken_out) [] [] (He.ga K "taken_out") fd
  g_taken_out : mg "taken_out" = some (.ref (He.ga K "taken_out"))
  d_smooth_at : ∃ fd, FunD K "smooth_at" "smooth_at" (defArgs s_smooth_at) (defBody s_smooth_at) (defScope s_smooth_at) [] [] (He.ga K "smooth_at") fd
  g_smooth_at : mg "smooth_at" = some (.ref (He.ga K "smooth_at"))
  d_wanted_at : ∃ fd, FunD K "wanted_at" "wanted_at" (defArgs s_wanted_at) (defBody s_wanted_at) (defScope s_wanted_at) [] [] (He.ga K "wanted_at") fd
  g_wanted_at : mg "wanted_at" = some (.ref (He.ga K "wanted_at"))
  d_without_mark_v2561 : ∃ fd, FunD K "without_mark" "without_mark" (defArgs s_without_mark_v2561) (defBody s_without_mark_v2561) (defScope s_without_mark_v2561) [] [] (He.ga K "without_mark") fd
  g_without_mark_v2561 : mg "without_mark" = some (.ref (He.ga K "without_mark"))
  d_Live_unmark : ∃ fd, FunD K "unmark" "Live.unmark" (defArgs s_Live_unmark) (defBody s_Live_unmark) (defScope s_Live_unmark) [] [] (He.ma K (He.ga K "Live") "unmark") fd
  d_share_of : ∃ fd, FunD K "share_of" "share_of" (defArgs s_share_of) (defBody s_share_of) (defScope s_share_of) [] [] (He.ga K "share_of") fd
  g_share_of : mg "share_of" = some (.ref (He.ga K "share_of"))
  d_span_of : ∃ fd, FunD K "span_of" "span_of" (defArgs s_span_of) (defBody s_span_of) (defScope s_span_of) [] [] (He.ga K "span_of") fd
  g_span_of : mg "span_of" = some (.ref (He.ga K "span_of"))
  d_all_weights : ∃ fd, FunD K "all_weights" "all_weights" (defArgs s_all_weights) (defBody s_all_weights) (defScope s_all_weights) [] [] (He.ga K "all_weights") fd
  g_all_weights : mg "all_weights" = some (.ref (He.ga K "all_weights"))
  d_need_time : ∃ fd, FunD K "need_time" "need_time" (defArgs s_need_time) (defBody s_need_time) (defScope s_need_time) [] [] (He.ga K "need_time") fd
  g_need_time : mg "need_time" = some (.ref (He.ga K "need_time"))
  d_summed : ∃ fd, FunD K "summed" "summed" (defArgs s_summed) (defBody s_summed) (defScope s_summed) [] [] (He.ga K "summed") fd
  g_summed : mg "summed" = some (.ref (He.ga K "summed"))
  d_value : ∃ fd, FunD K "value" "value" (defArgs s_value) (defBody s_value) (defScope s_value) [] [] (He.ga K "value") fd
  g_value : mg "value" = some (.ref (He.ga K "value"))
  d_Desk_timed : ∃ fd, FunD K "timed" "Desk.timed" (defArgs s_Desk_timed) (defBody s_Desk_timed) (defScope s_Desk_timed) [] [] (He.ma K (He.ga K "Desk") "timed") fd
  d_InvalidCommand_init : ∃ fd, FunD K "__init__" "InvalidCommand.__init__" (defArgs s_InvalidCommand_init) (defBody s_InvalidCommand_init) (defScope s_InvalidCommand_init) [] [] (He.ma K (He.ga K "InvalidCommand") "__init__") fd
  d_Live_init : ∃ fd, FunD K "__init__" "Live.__init__" (defArgs s_Live_init) (defBody s_Live_init) (defScope s_Live_init) [] [] (He.ma K (He.ga K "Live") "__init__") fd
  d_Refused_init : ∃ fd, FunD K "__init__" "Refused.__init__" (defArgs s_Refused_init) (defBody s_Refused_init) (defScope s_Refused_init) [] [] (He.ma K (He.ga K "Refused") "__init__") fd
  d_is_pull : ∃ fd, FunD K "is_pull" "is_pull" (defArgs s_is_pull) (defBody s_is_pull) (defScope s_is_pull) [] [] (He.ga K "is_pull") fd
  g_is_pull : mg "is_pull" = some (.ref (He.ga K "is_pull"))
  d_pulled_v4480 : ∃ fd, FunD K "pulled" "pulled" (defArgs s_pulled_v4480) (defBody s_pulled_v4480) (defScope s_pulled_v4480) [] [] (He.ga K "pulled") fd
  g_pulled_v4480 : mg "pulled" = some (.ref (He.ga K "pulled"))
  d_Live_pull_o : ∃ fd, FunD K "pull" "Live.pull" (defArgs s_Live_pull_o) (defBody s_Live_pull_o) (defScope s_Live_pull_o) [] [] (He.ma K (He.ga K "Live") "pull") fd
  d_number_of : ∃ fd, FunD K "number_of" "number_of" (defArgs s_number_of) (defBody s_number_of) (defScope s_number_of) [] [] (He.ga K "number_of") fd
  g_number_of : mg "number_of" = some (.ref (He.ga K "number_of"))
  d_time_of : ∃ fd, FunD K "time_of" "time_of" (defArgs s_time_of) (defBody s_time_of) (defScope s_time_of) [] [] (He.ga K "time_of") fd
  g_time_of : mg "time_of" = some (.ref (He.ga K "time_of"))
  d_words_of : ∃ fd, FunD K "words_of" "words_of" (defArgs s_words_of) (defBody s_words_of) (defScope s_words_of) [] [] (He.ga K "words_of") fd
  g_words_of : mg "words_of" = some (.ref (He.ga K "words_of"))
  d_Desk_say_o : ∃ fd, FunD K "say" "Desk.say" (defArgs s_Desk_say_o) (defBody s_Desk_say_o) (defScope s_Desk_say_o) [] [] (He.ma K (He.ga K "Desk") "say") fd
  d_Live___len__ : ∃ fd, FunD K "__len__" "Live.__len__" (defArgs s_Live___len__) (defBody s_Live___len__) (defScope s_Live___len__) [] [] (He.ma K (He.ga K "Live") "__len__") fd
  d_law_box : ∃ fd, FunD K "_law_box" "_law_box" (defArgs s_law_box) (defBody s_law_box) (defScope s_law_box) [] [] (He.ga K "_law_box") fd
  g_law_box : mg "_law_box" = some (.ref (He.ga K "_law_box"))
  d_law_heard_v5980_o : ∃ fd, FunD K "_law_heard" "_law_heard" (defArgs s_law_heard_v5980_o) (defBody s_law_heard_v5980_o) (defScope s_law_heard_v5980_o) [] [] (He.ga K "_law_heard") fd
  g_law_heard_v5980_o : mg "_law_heard" = some (.ref (He.ga K "_law_heard"))
  d_law_take : ∃ fd, FunD K "_law_take" "_law_take" (defArgs s_law_take) (defBody s_law_take) (defScope s_law_take) [] [] (He.ga K "_law_take") fd
  g_law_take : mg "_law_take" = some (.ref (He.ga K "_law_take"))
  d_law_pick : ∃ fd, FunD K "_law_pick" "_law_pick" (defArgs s_law_pick) (defBody s_law_pick) (defScope s_law_pick) [] [] (He.ga K "_law_pick") fd
  g_law_pick : mg "_law_pick" = some (.ref (He.ga K "_law_pick"))
  d_law_value_ve847 : ∃ fd, FunD K "_law_value" "_law_value" (defArgs s_law_value_ve847) (defBody s_law_value_ve847) (defScope s_law_value_ve847) [] [] (He.ga K "_law_value") fd
  g_law_value_ve847 : mg "_law_value" = some (.ref (He.ga K "_law_value"))
  d_law : ∃ fd, FunD K "law" "law" (defArgs s_law) (defBody s_law) (defScope s_law) [] [] (He.ga K "law") fd
  g_law : mg "law" = some (.ref (He.ga K "law"))
end HB
namespace HB
open PySem L2
theorem tabOk_no {K : PySem.W.Frag} {H : Hp} (all : ∀ x ∈ makers, noFd K x = true) : TabOk K H := by
  refine ⟨fun x hx T at_ => ?_⟩
  obtain ⟨fd, c, ⟨oc, od, osl, lk⟩, hc, hcd, _⟩ := at_
  have h := all x hx
  unfold noFd at h
  rw [lk] at h
  cases h
theorem ob_eq (s : PySem.W.SharedT) : ob s = hk.obs s.abs := obsG_eq (HandSHeadRun.getT_eq s)
theorem say {K : PySem.W.Frag} {h : Heap} {mg : Str → Option Value} (X : K.In h) (G : h.Ns mainGlobals mg) (c : He.SaysD fa fn K) (t : (tp.all fun p => tupN K p.1 p.2) = true) (q : (xs.all fun p => p K) = true) (cm : He5.SaysA [] fm K) : Say K mg where
  m_abs := He.free_ok X G (c.fact 0 (f := .free "abs") rfl)
  m_all := He.free_ok X G (c.fact 1 (f := .free "all") rfl)
  m_any := He.free_ok X G (c.fact 2 (f := .free "any") rfl)
  m_bool := He.free_ok X G (c.fact 3 (f := .free "bool") rfl)
  m_enumerate := He.free_ok X G (c.fact 4 (f := .free "enumerate") rfl)
  m_int := He.free_ok X G (c.fact 5 (f := .free "int") rfl)
  m_isinstance := He.free_ok X G (c.fact 6 (f := .free "isinstance") rfl)
  m_len := He.free_ok X G (c.fact 7 (f := .free "len") rfl)
  m_list := He.free_ok X G (c.fact 8 (f := .free "list") rfl)
  m_max := He.free_ok X G (c.fact 9 (f := .free "max") rfl)
  m_min := He.free_ok X G (c.fact 10 (f := .free "min") rfl)
  m_range := He.free_ok X G (c.fact 11 (f := .free "range") rfl)
  m_repr := He.free_ok X G (c.fact 12 (f := .free "repr") rfl)
  m_str := He.free_ok X G (c.fact 13 (f := .free "str") rfl)
  m_tuple := He.free_ok X G (c.fact 14 (f := .free "tuple") rfl)
  m_zip := He.free_ok X G (c.fact 15 (f := .free "zip") rfl)
  c_ALONE := gl_tup X G (c.fact 16 (f := .glo "ALONE") rfl) (tp_ok t 0 rfl) rfl rfl
  c_DIGITS := gl_str X G (c.fact 17 (f := .str "DIGITS" "0123456789") rfl)
  c_DOWN := gl_tup X G (c.fact 18 (f := .glo "DOWN") rfl) (tp_ok t 1 rfl) rfl rfl
  c_MOST_DIGITS_desk := gl_int X G (c.fact 19 (f := .int "MOST_DIGITS_desk" 2) rfl)
  c_MOST_DIGITS_values := gl_int X G (c.fact 20 (f := .int "MOST_DIGITS_values" 9) rfl)
  c_NONE := gl_tup X G (c.fact 21 (f := .glo "NONE") rfl) (tp_ok t 2 rfl) rfl rfl
  c_NOUGHT := gl_tup X G (c.fact 22 (f := .glo "NOUGHT") rfl) (tp_ok t 3 rfl) rfl rfl
  c_ONE := gl_tup X G (c.fact 23 (f := .glo "ONE") rfl) (tp_ok t 4 rfl) rfl rfl
  c_PAIR := gl_int X G (c.fact 24 (f := .int "PAIR" 2) rfl)
  c_TIMED := gl_tup X G (c.fact 25 (f := .glo "TIMED") rfl) (tp_ok t 5 rfl) rfl rfl
  cl_Bend := He.cls_ok (c.fact 26 (f := .cls "Bend") rfl)
  mk_Bend := He.mkr_ok (c.fact 27 (f := .mkr "Bend") rfl)
  gc_Bend := He.glo_ok X G (c.fact 28 (f := .glo "Bend") rfl)
  cl_Desk := He.cls_ok (c.fact 29 (f := .cls "Desk") rfl)
  mk_Desk := He.mkr_ok (c.fact 30 (f := .mkr "Desk") rfl)
  gc_Desk := He.glo_ok X G (c.fact 31 (f := .glo "Desk") rfl)
  cl_Live := He.cls_ok (c.fact 32 (f := .cls "Live") rfl)
  mk_Live := He.mkr_ok (c.fact 33 (f := .mkr "Live") rfl)
  gc_Live := He.glo_ok X G (c.fact 34 (f := .glo "Live") rfl)
  cl_Piece := He.cls_ok (c.fact 35 (f := .cls "Piece") rfl)
  mk_Piece := He.mkr_ok (c.fact 36 (f := .mkr "Piece") rfl)
  gc_Piece := He.glo_ok X G (c.fact 37 (f := .glo "Piece") rfl)
  cl_Place := He.cls_ok (c.fact 38 (f := .cls "Place") rfl)
  mk_Place := He.mkr_ok (c.fact 39 (f := .mkr "Place") rfl)
  gc_Place := He.glo_ok X G (c.fact 40 (f := .glo "Place") rfl)
  me_Bend___len__ := He.meth_ok (c.fact 41 (f := .meth "Bend" "__len__") rfl)
  me_Bend___str__ := He.meth_ok (c.fact 42 (f := .meth "Bend" "__str__") rfl)
  me_Place_is_known := He.meth_ok (c.fact 43 (f := .meth "Place" "is_known") rfl)
  me_Live_undo := He.meth_ok (c.fact 44 (f := .meth "Live" "undo") rfl)
  me_Desk_alone := He.meth_ok (c.fact 45 (f := .meth "Desk" "alone") rfl)
  me_Live_go_on := He.meth_ok (c.fact 46 (f := .meth "Live" "go_on") rfl)
  me_Live_mark := He.meth_ok (c.fact 47 (f := .meth "Live" "mark") rfl)
  me_Bend___eq__ := He.meth_ok (c.fact 48 (f := .meth "Bend" "__eq__") rfl)
  me_Live_unmark := He.meth_ok (c.fact 49 (f := .meth "Live" "unmark") rfl)
  me_Desk_timed := He.meth_ok (c.fact 50 (f := .meth "Desk" "timed") rfl)
  me_Live_pull_o := He.meth_ok (c.fact 51 (f := .meth "Live" "pull") rfl)
  me_Desk_say_o := He.meth_ok (c.fact 52 (f := .meth "Desk" "say") rfl)
  me_Live___len__ := He.meth_ok (c.fact 53 (f := .meth "Live" "__len__") rfl)
  gd_SIGNS := He.glo_ok X G (c.fact 54 (f := .glo "SIGNS") rfl)
  gb_SIGNS := xs_ok q 0 rfl
  ap_0 := xs_ok q 1 rfl
  gc_BendError := He.glo_ok X G (c.fact 55 (f := .glo "BendError") rfl)
  gc_InvalidBend := He.glo_ok X G (c.fact 56 (f := .glo "InvalidBend") rfl)
  gc_InvalidCommand := He.glo_ok X G (c.fact 57 (f := .glo "InvalidCommand") rfl)
  gc_InvalidText := He.glo_ok X G (c.fact 58 (f := .glo "InvalidText") rfl)
  gc_InvalidTime := He.glo_ok X G (c.fact 59 (f := .glo "InvalidTime") rfl)
  gc_NoMark := He.glo_ok X G (c.fact 60 (f := .glo "NoMark") rfl)
  gc_Refused := He.glo_ok X G (c.fact 61 (f := .glo "Refused") rfl)
  xf_InvalidBend := excB_ok (xs_ok q 2 rfl)
  xf_InvalidText := excB_ok (xs_ok q 3 rfl)
  xf_InvalidTime := excB_ok (xs_ok q 4 rfl)
  xf_NoMark := excB_ok (xs_ok q 5 rfl)
  xf_Refused := excB_ok (xs_ok q 6 rfl)
  xf0_InvalidCommand := excB0_ok (xs_ok q 7 rfl)
  bot_BendError := botB_ok (xs_ok q 8 rfl)
  isx_Bend := isxB_ok (xs_ok q 9 rfl)
  iso_Bend := xs_ok q 10 rfl
  cr_Bend := crB_ok (xs_ok q 11 rfl)
  cm_Bend_read_o := cmB_ok (xs_ok q 12 rfl)
  d_Bend_read_o := cm.def_ 0 rfl
  pr_Live_bend := propB_ok (xs_ok q 13 rfl)
  d_Live_bend := cm.def_ 1 rfl
  pr_Live_signs := propB_ok (xs_ok q 14 rfl)
  d_Live_signs := cm.def_ 2 rfl
  na_Bend_degree := He.noat_ok (c.fact 62 (f := .noat "Bend" "degree") rfl)
  na_Bend_handles := He.noat_ok (c.fact 63 (f := .noat "Bend" "handles") rfl)
  na_Bend_marks := He.noat_ok (c.fact 64 (f := .noat "Bend" "marks") rfl)
  na_Bend_text := He.noat_ok (c.fact 65 (f := .noat "Bend" "text") rfl)
  na_Desk_live := He.noat_ok (c.fact 66 (f := .noat "Desk" "live") rfl)
  na_Live_now := He.noat_ok (c.fact 67 (f := .noat "Live" "now") rfl)
  na_Live_past := He.noat_ok (c.fact 68 (f := .noat "Live" "past") rfl)
  na_Live_row := He.noat_ok (c.fact 69 (f := .noat "Live" "row") rfl)
  na_Piece_end := He.noat_ok (c.fact 70 (f := .noat "Piece" "end") rfl)
  na_Piece_poly := He.noat_ok (c.fact 71 (f := .noat "Piece" "poly") rfl)
  na_Piece_start := He.noat_ok (c.fact 72 (f := .noat "Piece" "start") rfl)
  na_Place_factor := He.noat_ok (c.fact 73 (f := .noat "Place" "factor") rfl)
  na_Place_first := He.noat_ok (c.fact 74 (f := .noat "Place" "first") rfl)
  na_Place_is_stretch := He.noat_ok (c.fact 75 (f := .noat "Place" "is_stretch") rfl)
  na_Place_last := He.noat_ok (c.fact 76 (f := .noat "Place" "last") rfl)
  na_Place_poly := He.noat_ok (c.fact 77 (f := .noat "Place" "poly") rfl)
  d_Desk_init := c.def_ 0 rfl
  d_InvalidBend_init := c.def_ 1 rfl
  d_is_less := c.def_ 2 rfl
  g_is_less := He.glo_ok X G (c.fact 78 (f := .glo "is_less") rfl)
  d_is_sequence := c.def_ 3 rfl
  g_is_sequence := He.glo_ok X G (c.fact 79 (f := .glo "is_sequence") rfl)
  d_common_part := c.def_ 4 rfl
  g_common_part := He.glo_ok X G (c.fact 80 (f := .glo "common_part") rfl)
  d_is_integer := c.def_ 5 rfl
  g_is_integer := He.glo_ok X G (c.fact 81 (f := .glo "is_integer") rfl)
  d_is_value := c.def_ 6 rfl
  g_is_value := He.glo_ok X G (c.fact 82 (f := .glo "is_value") rfl)
  d_value_of := c.def_ 7 rfl
  g_value_of := He.glo_ok X G (c.fact 83 (f := .glo "value_of") rfl)
  d_are_marks := c.def_ 8 rfl
  g_are_marks := He.glo_ok X G (c.fact 84 (f := .glo "are_marks") rfl)
  d_text_of := c.def_ 9 rfl
  g_text_of := He.glo_ok X G (c.fact 85 (f := .glo "text_of") rfl)
  d_text_of_bend := c.def_ 10 rfl
  g_text_of_bend := He.glo_ok X G (c.fact 86 (f := .glo "text_of_bend") rfl)
  d_Bend_init := c.def_ 11 rfl
  d_Bend___len__ := c.def_ 12 rfl
  d_InvalidText_init := c.def_ 13 rfl
  d_number_in_v70a5 := c.def_ 14 rfl
  g_number_in_v70a5 := He.glo_ok X G (c.fact 87 (f := .glo "number_in") rfl)
  d_value_in_vdbf8 := c.def_ 15 rfl
  g_value_in_vdbf8 := He.glo_ok X G (c.fact 88 (f := .glo "value_in") rfl)
  d_values_in_v091a := c.def_ 16 rfl
  g_values_in_v091a := He.glo_ok X G (c.fact 89 (f := .glo "values_in") rfl)
  d_rows_in_vbcc3 := c.def_ 17 rfl
  g_rows_in_vbcc3 := He.glo_ok X G (c.fact 90 (f := .glo "rows_in") rfl)
  d_Bend___str__ := c.def_ 18 rfl
  d_knots_of := c.def_ 19 rfl
  g_knots_of := He.glo_ok X G (c.fact 91 (f := .glo "knots_of") rfl)
  d_Piece_init := c.def_ 20 rfl
  d_in_lowest := c.def_ 21 rfl
  g_in_lowest := He.glo_ok X G (c.fact 92 (f := .glo "in_lowest") rfl)
  d_less_by := c.def_ 22 rfl
  g_less_by := He.glo_ok X G (c.fact 93 (f := .glo "less_by") rfl)
  d_power_at := c.def_ 23 rfl
  g_power_at := He.glo_ok X G (c.fact 94 (f := .glo "power_at") rfl)
  d_trimmed := c.def_ 24 rfl
  g_trimmed := He.glo_ok X G (c.fact 95 (f := .glo "trimmed") rfl)
  d_poly_less := c.def_ 25 rfl
  g_poly_less := He.glo_ok X G (c.fact 96 (f := .glo "poly_less") rfl)
  d_added := c.def_ 26 rfl
  g_added := He.glo_ok X G (c.fact 97 (f := .glo "added") rfl)
  d_poly_sum := c.def_ 27 rfl
  g_poly_sum := He.glo_ok X G (c.fact 98 (f := .glo "poly_sum") rfl)
  d_multiplied := c.def_ 28 rfl
  g_multiplied := He.glo_ok X G (c.fact 99 (f := .glo "multiplied") rfl)
  d_poly_times := c.def_ 29 rfl
  g_poly_times := He.glo_ok X G (c.fact 100 (f := .glo "poly_times") rfl)
  d_quotient := c.def_ 30 rfl
  g_quotient := He.glo_ok X G (c.fact 101 (f := .glo "quotient") rfl)
  d_share_poly := c.def_ 31 rfl
  g_share_poly := He.glo_ok X G (c.fact 102 (f := .glo "share_poly") rfl)
  d_piece_at := c.def_ 32 rfl
  g_piece_at := He.glo_ok X G (c.fact 103 (f := .glo "piece_at") rfl)
  d_pieces_of := c.def_ 33 rfl
  g_pieces_of := He.glo_ok X G (c.fact 104 (f := .glo "pieces_of") rfl)
  d_poly_at := c.def_ 34 rfl
  g_poly_at := He.glo_ok X G (c.fact 105 (f := .glo "poly_at") rfl)
  d_is_at_most := c.def_ 35 rfl
  g_is_at_most := He.glo_ok X G (c.fact 106 (f := .glo "is_at_most") rfl)
  d_poly_in := c.def_ 36 rfl
  g_poly_in := He.glo_ok X G (c.fact 107 (f := .glo "poly_in") rfl)
  d_curve_at := c.def_ 37 rfl
  g_curve_at := He.glo_ok X G (c.fact 108 (f := .glo "curve_at") rfl)
  d_Place_is_known := c.def_ 38 rfl
  d_middle_of := c.def_ 39 rfl
  g_middle_of := He.glo_ok X G (c.fact 109 (f := .glo "middle_of") rfl)
  d_gaps_in := c.def_ 40 rfl
  g_gaps_in := He.glo_ok X G (c.fact 110 (f := .glo "gaps_in") rfl)
  d_Place_init := c.def_ 41 rfl
  d_changes_of := c.def_ 42 rfl
  g_changes_of := He.glo_ok X G (c.fact 111 (f := .glo "changes_of") rfl)
  d_sign_of := c.def_ 43 rfl
  g_sign_of := He.glo_ok X G (c.fact 112 (f := .glo "sign_of") rfl)
  d_changes_at := c.def_ 44 rfl
  g_changes_at := He.glo_ok X G (c.fact 113 (f := .glo "changes_at") rfl)
  d_poly_scaled := c.def_ 45 rfl
  g_poly_scaled := He.glo_ok X G (c.fact 114 (f := .glo "poly_scaled") rfl)
  d_divided := c.def_ 46 rfl
  g_divided := He.glo_ok X G (c.fact 115 (f := .glo "divided") rfl)
  d_common_factor := c.def_ 47 rfl
  g_common_factor := He.glo_ok X G (c.fact 116 (f := .glo "common_factor") rfl)
  d_poly_slope := c.def_ 48 rfl
  g_poly_slope := He.glo_ok X G (c.fact 117 (f := .glo "poly_slope") rfl)
  d_plain_part := c.def_ 49 rfl
  g_plain_part := He.glo_ok X G (c.fact 118 (f := .glo "plain_part") rfl)
  d_sorted_places := c.def_ 50 rfl
  g_sorted_places := He.glo_ok X G (c.fact 119 (f := .glo "sorted_places") rfl)
  d_sturm_row := c.def_ 51 rfl
  g_sturm_row := He.glo_ok X G (c.fact 120 (f := .glo "sturm_row") rfl)
  d_without_zero := c.def_ 52 rfl
  g_without_zero := He.glo_ok X G (c.fact 121 (f := .glo "without_zero") rfl)
  d_times_between := c.def_ 53 rfl
  g_times_between := He.glo_ok X G (c.fact 122 (f := .glo "times_between") rfl)
  d_with_stretch := c.def_ 54 rfl
  g_with_stretch := He.glo_ok X G (c.fact 123 (f := .glo "with_stretch") rfl)
  d_places_in := c.def_ 55 rfl
  g_places_in := He.glo_ok X G (c.fact 124 (f := .glo "places_in") rfl)
  d_signs_in := c.def_ 56 rfl
  g_signs_in := He.glo_ok X G (c.fact 125 (f := .glo "signs_in") rfl)
  d_sign_row := c.def_ 57 rfl
  g_sign_row := He.glo_ok X G (c.fact 126 (f := .glo "sign_row") rfl)
  d_Live_undo := c.def_ 58 rfl
  d_order_at := c.def_ 59 rfl
  g_order_at := He.glo_ok X G (c.fact 127 (f := .glo "order_at") rfl)
  d_alike_slopes := c.def_ 60 rfl
  g_alike_slopes := He.glo_ok X G (c.fact 128 (f := .glo "alike_slopes") rfl)
  d_merged := c.def_ 61 rfl
  g_merged := He.glo_ok X G (c.fact 129 (f := .glo "merged") rfl)
  d_choices := c.def_ 62 rfl
  g_choices := He.glo_ok X G (c.fact 130 (f := .glo "choices") rfl)
  d_shared := c.def_ 63 rfl
  g_shared := He.glo_ok X G (c.fact 131 (f := .glo "shared") rfl)
  d_bend_with_v58ff := c.def_ 64 rfl
  g_bend_with_v58ff := He.glo_ok X G (c.fact 132 (f := .glo "bend_with") rfl)
  d_least_of_v2f02 := c.def_ 65 rfl
  g_least_of_v2f02 := He.glo_ok X G (c.fact 133 (f := .glo "least_of") rfl)
  d_least_v607e := c.def_ 66 rfl
  g_least_v607e := He.glo_ok X G (c.fact 134 (f := .glo "least") rfl)
  d_told_signs := c.def_ 67 rfl
  g_told_signs := He.glo_ok X G (c.fact 135 (f := .glo "told_signs") rfl)
  d_Desk_alone := c.def_ 68 rfl
  d_Live_go_on := c.def_ 69 rfl
  d_InvalidTime_init := c.def_ 70 rfl
  d_need_inside := c.def_ 71 rfl
  g_need_inside := He.glo_ok X G (c.fact 136 (f := .glo "need_inside") rfl)
  d_put_in := c.def_ 72 rfl
  g_put_in := He.glo_ok X G (c.fact 137 (f := .glo "put_in") rfl)
  d_with_mark_v73ae := c.def_ 73 rfl
  g_with_mark_v73ae := He.glo_ok X G (c.fact 138 (f := .glo "with_mark") rfl)
  d_Live_mark := c.def_ 74 rfl
  d_Bend___eq__ := c.def_ 75 rfl
  d_NoMark_init := c.def_ 76 rfl
  d_taken_out := c.def_ 77 rfl
  g_taken_out := He.glo_ok X G (c.fact 139 (f := .glo "taken_out") rfl)
  d_smooth_at := c.def_ 78 rfl
  g_smooth_at := He.glo_ok X G (c.fact 140 (f := .glo "smooth_at") rfl)
  d_wanted_at := c.def_ 79 rfl
  g_wanted_at := He.glo_ok X G (c.fact 141 (f := .glo "wanted_at") rfl)
  d_without_mark_v2561 := c.def_ 80 rfl
  g_without_mark_v2561 := He.glo_ok X G (c.fact 142 (f := .glo "without_mark") rfl)
  d_Live_unmark := c.def_ 81 rfl
  d_share_of := c.def_ 82 rfl
  g_share_of := He.glo_ok X G (c.fact 143 (f := .glo "share_of") rfl)
  d_span_of := c.def_ 83 rfl
  g_span_of := He.glo_ok X G (c.fact 144 (f := .glo "span_of") rfl)
  d_all_weights := c.def_ 84 rfl
  g_all_weights := He.glo_ok X G (c.fact 145 (f := .glo "all_weights") rfl)
  d_need_time := c.def_ 85 rfl
  g_need_time := He.glo_ok X G (c.fact 146 (f := .glo "need_time") rfl)
  d_summed := c.def_ 86 rfl
  g_summed := He.glo_ok X G (c.fact 147 (f := .glo "summed") rfl)
  d_value := c.def_ 87 rfl
  g_value := He.glo_ok X G (c.fact 148 (f := .glo "value") rfl)
  d_Desk_timed := c.def_ 88 rfl
  d_InvalidCommand_init := c.def_ 89 rfl
  d_Live_init := c.def_ 90 rfl
  d_Refused_init := c.def_ 91 rfl
  d_is_pull := c.def_ 92 rfl
  g_is_pull := He.glo_ok X G (c.fact 149 (f := .glo "is_pull") rfl)
  d_pulled_v4480 := c.def_ 93 rfl
  g_pulled_v4480 := He.glo_ok X G (c.fact 150 (f := .glo "pulled") rfl)
  d_Live_pull_o := c.def_ 94 rfl
  d_number_of := c.def_ 95 rfl
  g_number_of := He.glo_ok X G (c.fact 151 (f := .glo "number_of") rfl)
  d_time_of := c.def_ 96 rfl
  g_time_of := He.glo_ok X G (c.fact 152 (f := .glo "time_of") rfl)
  d_words_of := c.def_ 97 rfl
  g_words_of := He.glo_ok X G (c.fact 153 (f := .glo "words_of") rfl)
  d_Desk_say_o := c.def_ 98 rfl
  d_Live___len__ := c.def_ 99 rfl
  d_law_box := c.def_ 100 rfl
  g_law_box := He.glo_ok X G (c.fact 154 (f := .glo "_law_box") rfl)
  d_law_heard_v5980_o := c.def_ 101 rfl
  g_law_heard_v5980_o := He.glo_ok X G (c.fact 155 (f := .glo "_law_heard") rfl)
  d_law_take := c.def_ 102 rfl
  g_law_take := He.glo_ok X G (c.fact 156 (f := .glo "_law_take") rfl)
  d_law_pick := c.def_ 103 rfl
  g_law_pick := He.glo_ok X G (c.fact 157 (f := .glo "_law_pick") rfl)
  d_law_value_ve847 := c.def_ 104 rfl
  g_law_value_ve847 := He.glo_ok X G (c.fact 158 (f := .glo "_law_value") rfl)
  d_law := c.def_ 105 rfl
  g_law := He.glo_ok X G (c.fact 159 (f := .glo "law") rfl)
end HB
namespace HB
open PySem L2
def g_Bend_read_o_1 : Mo Fl := sRet (mMkSl 0 "Bend" I_Bend (mCons (mOp ixD (mVar 2) (mRet (.int 0))) (mCons (mOp ixD (mVar 2) (mRet (.int 1))) (mCons (mOp ixD (mVar 2) (mRet (.int 2))) (mNil)))))
def g_Bend_read_o_2 : Mo Fl := sSeq (sIf (mTest (mOp isD (mVar 2) (mRet .none))) (sRaise "InvalidText" "at" (mRet (.int 0))) (sNext))
  (g_Bend_read_o_1)
def g_Bend_read_o : Mo Fl := sSeq (sSet 2 (mCall F_rows_in_vbcc3 (mCons (mVar 1) (mNil))))
  (g_Bend_read_o_2)
def F_Bend_read_o : Fn := guard 2 (runF 3 g_Bend_read_o)
def g_Live_pull_o_1 : Mo Fl := sRet (mMethE "Live" "go_on" F_Live_go_on 0 (mCons (mCall F_pulled_v4480 (mCons (mFldS 0 "Live" "now") (mCons (mVar 1) (mCons (mVar 2) (mNil))))) (mNil)))
def g_Live_pull_o : Mo Fl := sSeq (sIf (mNot (mTest (mCall F_is_pull (mCons (mFldS 0 "Live" "now") (mCons (mVar 1) (mCons (mVar 2) (mNil))))))) (sRaise "Refused" "at" (mLenObj "Bend" F_Bend___len__ (mFldS 0 "Live" "now"))) (sNext))
  (g_Live_pull_o_1)
def F_Live_pull_o : FnM := guardM 2 (runM "Live" 2 g_Live_pull_o)
def g_Desk_say_o_1 : MoF := rRetL (mBuiltL strD (mConsL (mLenOL "Bend" F_Bend___len__ (liftRd (mNowR "now"))) (mNil)))
def g_Desk_say_o_2 : MoF := rRetL (endD F_Desk_alone (mCons (mOp ixD (mVar 2) (mRet (.int 0))) (mNil)))
def g_Desk_say_o_3 : MoF := sIfP (mOr (mTest (mOp notInTD (mOp ixD (mVar 2) (mRet (.int 0))) (mRet C_ALONE))) (mTest (mOp neD (mBuilt lenD (mCons (mVar 2) (mNil))) (mRet (.int 1))))) (liftS (sRaise0 "InvalidCommand"))
  (g_Desk_say_o_2)
def g_Desk_say_o_4 : MoF := sIfP (mAnd (mTest (mOp inTD (mOp ixD (mVar 2) (mRet (.int 0))) (mRet C_TIMED))) (mTest (mOp eqD (mBuilt lenD (mCons (mVar 2) (mNil))) (mRet (.int 2))))) (rRetL (endD F_Desk_timed (mCons (mOp ixD (mVar 2) (mRet (.int 0))) (mCons (mCall F_time_of (mCons (mOp ixD (mVar 2) (mRet (.int 1))) (mNil))) (mNil)))))
  (g_Desk_say_o_3)
def g_Desk_say_o_5 : MoF := sIfP (mAnd (mTest (mOp eqD (mOp ixD (mVar 2) (mRet (.int 0))) (mRet (.str "pull")))) (mTest (mOp eqD (mBuilt lenD (mCons (mVar 2) (mNil))) (mRet (.int 3))))) (rRetL (mCallL F_told_signs (mConsL (mMethL "pull" F_Live_pull_o (mCons (mCall F_number_of (mCons (mOp ixD (mVar 2) (mRet (.int 1))) (mNil))) (mCons (mCall F_time_of (mCons (mOp ixD (mVar 2) (mRet (.int 2))) (mNil))) (mNil)))) (mNil))))
  (g_Desk_say_o_4)
def g_Desk_say_o_6 : MoF := sIfP (mAnd (mTest (mOp eqD (mOp ixD (mVar 2) (mRet (.int 0))) (mRet (.str "bend")))) (mTest (mOp (cmpD gtI) (mBuilt lenD (mCons (mVar 2) (mNil))) (mRet (.int 1))))) (sStL (mNew I_Live (mCons (mCls "Bend" F_Bend_read_o (mCons (mVar 1) (mNil))) (mNil)))
  (g_Desk_say_o_1))
  (sIfN (liftS (sRaise0 "InvalidCommand"))
  (g_Desk_say_o_5))
def g_Desk_say_o : MoF := sSeqP (sSet 2 (mCall F_words_of (mCons (mVar 1) (mNil))))
  (g_Desk_say_o_6)
def F_Desk_say_o : FnD := guardD 1 (runD 2 g_Desk_say_o)
def g_law_heard_v5980_o_1 : MoF := sTryL 3 2 [("InvalidCommand", false, fun _ => some (.str "command")),
  ("InvalidText", true, catX (fun _ => some (.str "text ")) (unX strD (fldX "InvalidText" "at"))),
  ("InvalidBend", true, catX (fun _ => some (.str "bend ")) (fldX "InvalidBend" "word")),
  ("InvalidTime", true, catX (fun _ => some (.str "time ")) (unX reprD (fldX "InvalidTime" "time"))),
  ("NoMark", true, catX (fun _ => some (.str "mark ")) (unX reprD (fldX "NoMark" "time"))),
  ("Refused", true, catX (fun _ => some (.str "refused ")) (unX strD (fldX "Refused" "at")))] (xSay F_Desk_say_o (mCons (mVar 1) (mNil)) 2)
  (liftS (sRet (mVar 2)))
def g_law_heard_v5980_o : MoF := sSeqP (sSet 2 (mRet .none))
  (g_law_heard_v5980_o_1)
def F_law_heard_v5980_o : FnD := guardD 1 (runD 3 g_law_heard_v5980_o)
def g_law_1 : MoF := sIfC (mOrL (mTestL (mOpL neD (endD F_law_heard_v5980_o (mCons (mVar 4) (mNil))) (mRet (.str "command")))) (mTestL (mOpL isNotD (mLiveL) (mRet .none)))) (liftS (sRet (mRet (.bool false))))
  (sNextL)
def g_law_2 : MoF := sIfC (mOrL (mAndL (liftL (mNot (mTest (mIsi isStrT (mVar 10))))) (mTestL (mOpL neD (endD F_law_heard_v5980_o (mCons (mVar 10) (mNil))) (mRet (.str "command"))))) (mTestL (mOpL neD (mLenLL F_Live___len__) (mRet (.int 0))))) (liftS (sRet (mRet (.bool false))))
  (sNextL)
def g_law_3 : MoF := sSeqP (sSet 10 (mCallX F_law_value_ve847 8 (mNil)))
  (g_law_2)
def g_law_4 : MoF := sIfC (mOrL (mTestL (mOpL neD (endD F_law_heard_v5980_o (mCons (mVar 4) (mNil))) (mVar 11))) (mTestL (mOpL neD (endD F_law_heard_v5980_o (mCons (mCallX F_law_pick 8 (mCons (mVar 1) (mNil))) (mNil))) (mRet (.str "command"))))) (liftS (sRet (mRet (.bool false))))
  (g_law_3)
def g_law_5 : MoF := sSeqP (sAsg (gTupD 2 (gConsD (gSet 4) (gConsD (gSet 11) (gNilD)))) (mCallX F_law_pick 8 (mCons (mVar 2) (mNil))))
  (g_law_4)
def g_law_6 : MoF := sIfC (mTestL (mOpL neD (mBlkL [12] (mSeqS (mTup (mCons (mRet (.str "undo")) (mCons (mRet (.str "undo")) (mCons (mRet (.str "value 1/2")) (mNil)))))) (gSet 12) (endD F_Desk_say_o (mCons (mVar 12) (mNil)))) (mList (mSized (mCons (mRet (.str "+0+")) (mCons (mRet (.str "nothing")) (mCons (mRet (.str "1/4")) (mNil)))))))) (liftS (sRet (mRet (.bool false))))
  (sNextL)
def g_law_7 : MoF := sIfP (mTest (mOp neD (mVar 7) (mList (mSized (mCons (mRet (.str "+0+")) (mCons (mRet (.str "+0-0+")) (mCons (mRet (.str "-1")) (mCons (mRet (.str "+0-0+")) (mCons (mRet (.str "bend 2 marks 0 2 handles 1 -3 1")) (mCons (mRet (.str "done")) (mCons (mRet (.str "+0-0+")) (mCons (mRet (.str "+0-0+")) (mNil))))))))))))) (liftS (sRet (mRet (.bool false))))
  (g_law_6)
def g_law_8 : MoF := sSetL 7 (mBlkL [12] (mSeqS (mVar 6)) (gSet 12) (endD F_Desk_say_o (mCons (mVar 12) (mNil))))
  (g_law_7)
def g_law_9 : MoF := sSeqP (sSet 6 (mTup (mCons (mRet (.str "signs")) (mCons (mRet (.str "pull 1 -3")) (mCons (mRet (.str "value 1")) (mCons (mRet (.str "mark 1")) (mCons (mRet (.str "least")) (mCons (mRet (.str "unmark 1")) (mCons (mRet (.str "undo")) (mCons (mRet (.str "undo")) (mNil)))))))))))
  (g_law_8)
def g_law_10 : MoF := sForL (mRange range1D (mCons (mRet (.int 10)) (mNil))) (gSet 5) (g_law_5)
  (g_law_9)
def g_law_11 : MoF := sIfC (mOrL (mTestL (mOpL neD (endD F_law_heard_v5980_o (mCons (mRet (.str "bend x")) (mNil))) (mRet (.str "text 0")))) (mTestL (mOpL neD (endD F_law_heard_v5980_o (mCons (mRet (.str "bend 2 marks 0 2 handles 1 -1 1")) (mNil))) (mRet (.str "3"))))) (liftS (sRet (mRet (.bool false))))
  (g_law_10)
def g_law_12 : MoF := sForL (mSeqS (mTup (mCons (mRet (.str "signs")) (mCons (mRet (.str "undo")) (mCons (mRet (.str "pull 0 1")) (mCons (mRet (.str "value 1")) (mNil))))))) (gSet 4) (g_law_1)
  (g_law_11)
def g_law_13 : Mo Fl := sDesk2 8 9 (mCallN F_law_box (mCons (mVar 0) (mCons (mVar 3) (mCons (mRet (.int 73)) (mNil))))) (mNew I_Desk mNil)
  (g_law_12)
def g_law_14 : Mo Fl := sSeq (sFor (mRange range1D (mCons (mBuilt maxD (mCons (mRet (.int 1)) (mCons (mBuilt minD (mCons (mRet (.int 3)) (mCons (mBuilt lenD (mCons (mVar 0) (mNil))) (mNil)))) (mNil)))) (mNil))) (gSet 3) (g_law_13))
  (sRet (mRet (.bool true)))
def g_law_15 : Mo Fl := sSeq (sSet 2 (mOp addD (mVar 2) (mList (mSized (mCons (mTup (mCons (mRet (.str "mark 0")) (mCons (mRet (.str "time (0, 1)")) (mNil)))) (mCons (mTup (mCons (mRet (.str "unmark 1/2")) (mCons (mRet (.str "mark (1, 2)")) (mNil)))) (mCons (mTup (mCons (mRet (.str "pull 7 1")) (mCons (mRet (.str "refused 3")) (mNil)))) (mNil))))))))
  (g_law_14)
def g_law_16 : Mo Fl := sSeq (sSet 2 (mOp addD (mVar 2) (mList (mSized (mCons (mTup (mCons (mRet (.str "bend 1 marks 1 0 handles 1 1")) (mCons (mRet (.str "bend marks")) (mNil)))) (mCons (mTup (mCons (mRet (.str "value 3")) (mCons (mRet (.str "time (3, 1)")) (mNil)))) (mNil)))))))
  (g_law_15)
def g_law_17 : Mo Fl := sSeq (sSet 2 (mList (mSized (mCons (mTup (mCons (mRet (.str "bend x")) (mCons (mRet (.str "text 0")) (mNil)))) (mCons (mTup (mCons (mRet (.str "bend 2 marks 0 1 handles 1")) (mCons (mRet (.str "bend handles")) (mNil)))) (mNil))))))
  (g_law_16)
def g_law_18 : Mo Fl := sSeq (sSet 1 (mOp addD (mVar 1) (mList (mSized (mCons (mRet (.str "value 3/1")) (mCons (mRet (.str "value 1234567890")) (mCons (mRet (.str "unmark 0/5")) (mNil))))))))
  (g_law_17)
def g_law_19 : Mo Fl := sSeq (sSet 1 (mOp addD (mVar 1) (mList (mSized (mCons (mRet (.str "Bend 0 marks 0 1 handles 1")) (mCons (mRet (.str "bend ")) (mCons (mRet (.str "bend 2  marks 0 1 handles 1 1 1")) (mCons (mRet (.str "pull 0 -0")) (mCons (mRet (.str "mark +1")) (mNil))))))))))
  (g_law_18)
def g_law_20 : Mo Fl := sSeq (sSet 1 (mOp addD (mVar 1) (mList (mSized (mCons (mRet (.str "value 1 1")) (mCons (mRet (.str "value 01")) (mCons (mRet (.str "mark x")) (mCons (mRet (.str "signs 1")) (mCons (mRet (.str "least ")) (mCons (mRet (.str " undo")) (mCons (mRet (.str "undo\n")) (mNil))))))))))))
  (g_law_19)
def g_law : Mo Fl := sSeq (sSet 1 (mList (mSized (mCons (mRet (.str "")) (mCons (mRet (.str "bend")) (mCons (mRet (.str "pull")) (mCons (mRet (.str "pull 0")) (mCons (mRet (.str "pull 0 1 2")) (mCons (mRet (.str "pull 00 1")) (mCons (mRet (.str "pull a 1")) (mCons (mRet (.str "pull 0 2/4")) (mCons (mRet (.str "pull 100 1")) (mCons (mRet (.str "value")) (mNil))))))))))))))
  (g_law_20)
def F_law : Fn := guard 1 (runF 13 g_law)
end HB
namespace HB
open PySem L2
def enc (q : Rat) : D := .tuple [.int q.num, .int q.den]
end HB
namespace HB
open PySem L2
section
variable {α : Type}
theorem for_pre {v : Nat} {body : Mo Fl} (c : α → D) (I : List α → En → Prop) : ∀ (L d : List α) (ρ : En), (∀ d1 a r ρ, d ++ L = d1 ++ a :: r → I d1 ρ → ∃ ρ' f, body (ρ.set v (.pur (c a))) = some (.ok (ρ', f)) ∧ (f = .nx ∨ f = .ct) ∧ I (d1 ++ [a]) ρ') → I d ρ →
    ∃ ρ', forL (gSet v) body (L.map c) ρ = some (.ok (ρ', .nx)) ∧ I (d ++ L) ρ'
  | [], d, ρ, _, h0 => ⟨ρ, rfl, by rwa [List.append_nil]⟩
  | a :: L, d, ρ, h, h0 => by
    obtain ⟨ρ1, f, e1, e2, e3⟩ := h d a L ρ rfl h0
    obtain ⟨ρ', e4, e5⟩ := for_pre c I L (d ++ [a]) ρ1 (fun d1 b r ρ2 e => h d1 b r ρ2 (by rw [← e]; simp)) e3
    refine ⟨ρ', ?_, by rwa [List.append_assoc] at e5⟩
    rcases e2 with rfl | rfl
    · simp only [List.map_cons, forL, gSet, e1]; exact e4
    · simp only [List.map_cons, forL, gSet, e1]; exact e4
theorem for_ok {v : Nat} {src : Mo Src} {body : Mo Fl} {ρ ρ0 : En} (L : List α) (c : α → D) (I : List α → En → Prop) (hs : src ρ0 = some (.ok (ρ, constS (L.map c)))) (h0 : I [] ρ)
    (h : ∀ d a r ρ, L = d ++ a :: r → I d ρ → ∃ ρ' f, body (ρ.set v (.pur (c a))) = some (.ok (ρ', f)) ∧ (f = .nx ∨ f = .ct) ∧ I (d ++ [a]) ρ') : ∃ ρ', sFor src (gSet v) body ρ0 = some (.ok (ρ', .nx)) ∧ I L ρ' := by
  obtain ⟨ρ', e1, e2⟩ := for_pre (v := v) (body := body) c I L [] ρ (fun d a r ρ e => h d a r ρ e) h0
  refine ⟨ρ', ?_, e2⟩
  unfold sFor mBind
  simp only [hs, constS]
  exact e1
end
def natD (i : Nat) : D := .int (i : Int)
theorem rangeD_map : ∀ (n lo : Nat), rangeD (lo : Int) n = (List.range' lo n).map natD
  | 0, _ => rfl
  | n + 1, lo => by
    rw [rangeD, show ((lo : Int) + 1) = ((lo + 1 : Nat) : Int) by omega, rangeD_map n (lo + 1), List.range'_succ]
    rfl
theorem rangeD0 (n : Nat) : rangeD 0 n = (List.range n).map natD := by
  rw [List.range_eq_range']
  exact rangeD_map n 0
theorem range1_of {z : Int} (n : Nat) (h : z = n) (hn : n ≤ 1000000) : range1D [.int z] = some (constS ((List.range n).map natD)) := by
  subst h
  show (if -1000000000 ≤ (n : Int) ∧ (n : Int) ≤ 1000000000 then some (constS (rangeD 0 (n : Int).toNat)) else none) = _
  rw [if_pos ⟨by omega, by omega⟩, Int.toNat_natCast, rangeD0]
theorem for_range {v : Nat} {src : Mo Src} {body : Mo Fl} {ρ ρ0 : En} (m n : Nat) (I : Nat → En → Prop) (hs : src ρ0 = some (.ok (ρ, constS ((List.range' m n).map natD)))) (h0 : I m ρ)
    (h : ∀ i ρ, m ≤ i → i < m + n → I i ρ → ∃ ρ' f, body (ρ.set v (.pur (natD i))) = some (.ok (ρ', f)) ∧ (f = .nx ∨ f = .ct) ∧ I (i + 1) ρ') : ∃ ρ', sFor src (gSet v) body ρ0 = some (.ok (ρ', .nx)) ∧ I (m + n) ρ' := by
  obtain ⟨ρ', e1, e2⟩ := for_ok (v := v) (body := body) (List.range' m n) natD (fun d ρ => I (m + d.length) ρ) hs h0 fun d a r ρ e hI => by
    have hl : d.length < n := by have := congrArg List.length e; simp at this; omega
    have ha : a = m + d.length := by
      have := congrArg (fun l => l[d.length]?) e
      simp [hl] at this
      omega
    obtain ⟨ρ', f, h1, h2, h3⟩ := h (m + d.length) ρ (by omega) (by omega) hI
    refine ⟨ρ', f, by rw [ha]; exact h1, h2, ?_⟩
    rw [List.length_append]; rw [List.length_singleton]
    exact h3
  exact ⟨ρ', e1, by rw [List.length_range'] at e2; exact e2⟩
/-- the i-th of some fractions, nought beyond -/
def at0 (ks : List Rat) (i : Nat) : Rat := ks.getD i 0
def encL (ks : List Rat) : List D := ks.map enc
theorem len_encL (ks : List Rat) : (encL ks).length = ks.length := by unfold encL; exact List.length_map _
def bd {α β : Type} (o : Option (Except Exn (En × α))) (f : En → α → Option (Except Exn (En × β))) : Option (Except Exn (En × β)) := match o with
  | none => none
  | some (.error x) => some (.error x)
  | some (.ok (ρ, a)) => f ρ a
theorem bd_ok {α β : Type} (ρ : En) (a : α) (f : En → α → Option (Except Exn (En × β))) : bd (some (.ok (ρ, a))) f = f ρ a := id rfl
def lf {α : Type} (ρ : En) (o : Option α) : Option (Except Exn (En × α)) := match o with
  | none => none
  | some a => some (.ok (ρ, a))
theorem lf_some {α : Type} (ρ : En) (a : α) : lf ρ (some a) = some (.ok (ρ, a)) := id rfl
def cl {α : Type} (ρ : En) (o : Option (Except Exn α)) : Option (Except Exn (En × α)) := match o with
  | none => none
  | some (.error x) => some (.error x)
  | some (.ok a) => some (.ok (ρ, a))
theorem cl_ok {α : Type} (ρ : En) (a : α) : cl ρ (some (.ok a)) = some (.ok (ρ, a)) := id rfl
section
variable {ρ : En}
theorem a_ret {α : Type} (a : α) : mRet a ρ = some (.ok (ρ, a)) := id rfl
theorem a_op (f : D → D → Option D) (a b : Mo D) : mOp f a b ρ = bd (a ρ) fun ρ1 x => bd (b ρ1) fun ρ2 y => lf ρ2 (f x y) := id rfl
theorem a_un (f : D → Option D) (a : Mo D) : mUn f a ρ = bd (a ρ) fun ρ1 x => lf ρ1 (f x) := id rfl
theorem a_test (a : Mo D) : mTest a ρ = bd (a ρ) fun ρ1 x => lf ρ1 (boolD x) := id rfl
theorem a_and (a b : Mo Bool) : mAnd a b ρ = bd (a ρ) fun ρ1 c => bif c then b ρ1 else some (.ok (ρ1, false)) := by
  unfold mAnd mBind bd
  split <;> rename_i h <;> simp only [h]
  rename_i c; cases c <;> rfl
theorem a_or (a b : Mo Bool) : mOr a b ρ = bd (a ρ) fun ρ1 c => bif c then some (.ok (ρ1, true)) else b ρ1 := by
  unfold mOr mBind bd
  split <;> rename_i h <;> simp only [h]
  rename_i c; cases c <;> rfl
theorem a_not (a : Mo Bool) : mNot a ρ = bd (a ρ) fun ρ1 c => some (.ok (ρ1, !c)) := id rfl
theorem a_andV (a b : Mo D) : mAndV a b ρ = bd (mTest a ρ) fun ρ1 c => bif c then b ρ1 else some (.ok (ρ1, .bool false)) := by
  unfold mAndV mBind bd
  split <;> rename_i h <;> simp only [h]
  rename_i c; cases c <;> rfl
theorem a_orV (a b : Mo D) : mOrV a b ρ = bd (mTest a ρ) fun ρ1 c => bif c then some (.ok (ρ1, .bool true)) else b ρ1 := by
  unfold mOrV mBind bd
  split <;> rename_i h <;> simp only [h]
  rename_i c; cases c <;> rfl
theorem a_notV (a : Mo D) : mNotV a ρ = bd (mTest a ρ) fun ρ1 c => some (.ok (ρ1, .bool (!c))) := id rfl
theorem a_if (c : Mo Bool) (a b : Mo D) : mIf c a b ρ = bd (c ρ) fun ρ1 c => bif c then a ρ1 else b ρ1 := by
  unfold mIf mBind bd
  split <;> rename_i h <;> simp only [h]
  rename_i c; cases c <;> rfl
theorem a_sif (c : Mo Bool) (a b : Mo Fl) : sIf c a b ρ = bd (c ρ) fun ρ1 c => bif c then a ρ1 else b ρ1 := by
  unfold sIf mBind bd
  split <;> rename_i h <;> simp only [h]
  rename_i c; cases c <;> rfl
theorem a_nil : mNil ρ = some (.ok (ρ, [])) := id rfl
theorem a_cons (a : Mo D) (r : Mo (List D)) : mCons a r ρ = bd (a ρ) fun ρ1 x => bd (r ρ1) fun ρ2 xs => some (.ok (ρ2, x :: xs)) := id rfl
theorem a_star (a : Mo D) (r : Mo (List D)) : mStar a r ρ = bd (a ρ) fun ρ1 x => bd (lf ρ1 (itemsD x)) fun ρ1 ys => bd (r ρ1) fun ρ2 xs => some (.ok (ρ2, ys ++ xs)) := id rfl
theorem a_list (a : Mo (List D)) : mList a ρ = bd (a ρ) fun ρ1 x => some (.ok (ρ1, .list x)) := id rfl
theorem a_tup (a : Mo (List D)) : mTup a ρ = bd (a ρ) fun ρ1 ds => lf ρ1 (if sizeOk ds = true then some (.tuple ds) else none) := id rfl
theorem a_sized (a : Mo (List D)) : mSized a ρ = bd (a ρ) fun ρ1 ds => lf ρ1 (if sizeOk ds = true then some ds else none) := id rfl
theorem a_call (F : Fn) (a : Mo (List D)) : mCall F a ρ = bd (a ρ) fun ρ1 ds => cl ρ1 (F ds) := by
  unfold mCall mBind bd
  cases h : a ρ with
  | none => rfl
  | some r =>
    cases r with
    | error x => rfl
    | ok pr =>
      obtain ⟨ρ1, ds⟩ := pr
      simp only
      unfold cl
      cases F ds with
      | none => rfl
      | some q => cases q <;> rfl
theorem a_built (f : List D → Option D) (a : Mo (List D)) : mBuilt f a ρ = bd (a ρ) fun ρ1 ds => lf ρ1 (f ds) := id rfl
theorem a_seq (a b : Mo Fl) : sSeq a b ρ = bd (a ρ) fun ρ1 f => match f with
  | .nx => b ρ1
  | .rt d => some (.ok (ρ1, .rt d))
  | .bk => some (.ok (ρ1, .bk))
  | .ct => some (.ok (ρ1, .ct)) := by
  unfold sSeq mBind bd
  split <;> rename_i h <;> simp only [h]
  rename_i c; cases c <;> rfl
theorem a_set (i : Nat) (f : Mo D) : sSet i f ρ = bd (f ρ) fun ρ1 d => some (.ok (ρ1.set i (.pur d), .nx)) := id rfl
theorem a_own (i : Nat) (f : Mo (List D)) : sOwn i f ρ = bd (f ρ) fun ρ1 d => some (.ok (ρ1.set i (.own d), .nx)) := id rfl
theorem a_sret (f : Mo D) : sRet f ρ = bd (f ρ) fun ρ1 d => some (.ok (ρ1, .rt d)) := id rfl
theorem a_next : sNext ρ = some (.ok (ρ, .nx)) := id rfl
theorem a_isi (tb : D → Option Bool) (f : Mo D) : mIsi tb f ρ = bd (f ρ) fun ρ1 d => lf ρ1 ((tb d).map .bool) := id rfl
theorem a_slice (f : Mo D) (lo hi : Mo (Option Int)) : mSlice f lo hi ρ = bd (f ρ) fun ρ1 d => bd (lo ρ1) fun ρ2 l => bd (hi ρ2) fun ρ3 h => lf ρ3 (slD l h d) := id rfl
theorem a_part (f : Mo D) : mPart f ρ = bd (f ρ) fun ρ1 d => lf ρ1 ((intOf d).map some) := id rfl
theorem a_nopart : mNoPart ρ = some (.ok (ρ, none)) := id rfl
theorem a_range (f : List D → Option Src) (a : Mo (List D)) : mRange f a ρ = bd (a ρ) fun ρ1 ds => lf ρ1 (f ds) := id rfl
theorem a_seqS (f : Mo D) : mSeqS f ρ = bd (f ρ) fun ρ1 d => lf ρ1 ((itemsD d).map constS) := id rfl
theorem a_varP {i : Nat} : mVar i ρ = match ρ[i]? with
  | some (.pur d) => some (.ok (ρ, d))
  | some (.own ds) => some (.ok (ρ.set i (.pur (.list ds)), .list ds))
  | _ => none := id rfl
theorem a_par2 (i j : Nat) (f : Mo (List Tm)) : sPar2 i j f ρ = bd (f ρ) fun ρ1 ts => match ts with
  | [x, y] => some (.ok ((ρ1.set i (slOf x)).set j (slOf y), .nx))
  | _ => none := id rfl
theorem a_xp (a : Mo D) (r : Mo (List Tm)) : xConsP a r ρ = bd (a ρ) fun ρ1 d => bd (r ρ1) fun ρ2 ts => some (.ok (ρ2, .p d :: ts)) := id rfl
theorem a_xo (a : Mo (List D)) (r : Mo (List Tm)) : xConsO a r ρ = bd (a ρ) fun ρ1 d => bd (r ρ1) fun ρ2 ts => some (.ok (ρ2, .o d :: ts)) := id rfl
theorem a_xn : xNil ρ = some (.ok (ρ, [])) := id rfl
theorem a_asg (g : D → En → Option En) (f : Mo D) : sAsg g f ρ = bd (f ρ) fun ρ1 d => match g d ρ1 with
  | some ρ2 => some (.ok (ρ2, .nx))
  | none => none := id rfl
theorem a_make (c : Str) (F : FnI) (a : Mo (List D)) : mMake c F a ρ = bd (a ρ) fun ρ1 ds => match F ds with
  | none => none
  | some (.error x) => some (.error x)
  | some (.ok kvs) => some (.ok (ρ1, .dict ((.str c, .none) :: kvs))) := id rfl
theorem a_chg (i : Nat) (f : Mo (List D)) (c : List D → List D → Option (List D)) : sChg i f c ρ = match ρ[i]? with
  | some (.own _) => bd (f ρ) fun ρ1 as => (match ρ1[i]? with
    | some (.own ds) => match c ds as with
      | some es => some (.ok (ρ1.set i (.own es), .nx))
      | none => none
    | _ => none)
  | _ => none := id rfl
theorem a_ixO (i : Nat) (f : Mo D) : mIxO i f ρ = match ρ[i]? with
  | some (.own _) => bd (f ρ) fun ρ1 k => (match ρ1[i]? with
    | some (.own ds) => lf ρ1 (ixD (.list ds) k)
    | _ => none)
  | some (.pur d) => bd (f ρ) fun ρ1 k => lf ρ1 (ixD d k)
  | _ => none := id rfl
theorem a_lenO (i : Nat) : mLenO i ρ = match ρ[i]? with
  | some (.own ds) => some (.ok (ρ, .int ds.length))
  | some (.pur d) => lf ρ (lenD [d])
  | _ => none := id rfl
theorem a_cntO (i : Nat) (f : Mo D) : mCntO i f ρ = match ρ[i]? with
  | some (.own _) => bd (f ρ) fun ρ1 d => (match ρ1[i]? with
    | some (.own ds) => lf ρ1 (bothD d (.list ds) (.int (ds.countP fun z => PyData.eqv z d : Nat)))
    | _ => none)
  | _ => none := id rfl
theorem a_callX (F : FnX) (i : Nat) (f : Mo (List D)) : mCallX F i f ρ = match atL ρ i with
  | none => none
  | some _ => bd (f ρ) fun ρ1 as => (match atL ρ1 i with
    | none => none
    | some (s, ds) => match F ds as with
      | some (.ok (es, d)) => some (.ok (ρ1.set i (s.put es), d))
      | _ => none) := id rfl
theorem items_lst (ds : List D) : itemsD (.list ds) = some ds := id rfl
theorem items_tup (ds : List D) : itemsD (.tuple ds) = some ds := id rfl
end
theorem intOf_int (i : Int) : intOf (.int i) = some i := id rfl
/-- a def's end -/
def ans : Option (Except Exn (En × Fl)) → Option (Except Exn D)
  | none => none
  | some (.error x) => some (.error x)
  | some (.ok (_, .nx)) => some (.ok .none)
  | some (.ok (_, .rt d)) => some (.ok d)
  | some (.ok (_, _)) => none
theorem ans_rt (ρ : En) (d : D) : ans (some (.ok (ρ, .rt d))) = some (.ok d) := id rfl
theorem a_fn {n m : Nat} {g : Mo Fl} {ds : List D} (h : ds.length = n) : guard n (runF m g) ds = ans (g (ds.map Sl.pur ++ List.replicate (m - ds.length) .no)) := by
  unfold guard
  rw [show Nat.beq ds.length n = true by rw [h]; exact Nat.beq_refl n]
  rfl
end HB
namespace HB
open PySem L2
section
variable {a b t : Rat} {A B C : Nat}
/-- how far t is on the way -/
def share (a b t : Rat) : Rat := if a = b then 0 else (t - a) / (b - a)
end
def knots (n : Nat) (ks : List Rat) : List Rat := List.replicate n (at0 ks 0) ++ (ks ++ List.replicate n (at0 ks (ks.length - 1)))
end HB
namespace HB
open PySem L2
def full (k : Nat → Rat) (L : Nat) : List Nat := (List.range L).filter fun i => decide (k i < k (i + 1))
end HB
namespace HB
open PySem L2
def ansX : Option (Except Exn (En × Fl)) → Option (Except Exn (List D × D))
  | some (.ok (ρ', .rt d)) => (match box0 ρ' with
    | some es => some (.ok (es, d))
    | none => none)
  | some (.ok (ρ', .nx)) => (match box0 ρ' with
    | some es => some (.ok (es, .none))
    | none => none)
  | _ => none
theorem ansX_rt (es : List D) (ρ : En) (d : D) : ansX (some (.ok (.box es :: ρ, .rt d))) = some (.ok (es, d)) := id rfl
theorem a_fnX {n m : Nat} {g : Mo Fl} {ds as : List D} (h : as.length = n) : guardX n (runX m g) ds as = ansX (g (.box ds :: (as.map Sl.pur ++ List.replicate (m - as.length) .no))) := by
  unfold guardX
  rw [show Nat.beq as.length n = true by rw [h]; exact Nat.beq_refl n]
  rfl
end HB
namespace HB
section
variable {k : Nat → Rat} {t : Rat} {s : Nat}
/-- sums of the first n -/
def sm (n : Nat) (f : Nat → Rat) : Rat := match n with
  | 0 => 0
  | n + 1 => sm n f + f n
end
end HB
namespace HB
open PySem L2
theorem ne_str {x : Str} (h : PyData.strOk x = true) : neD (.str x) (.str x) = some (.bool false) := by simp [neD, SeqAt.shaped, PyData.canLay0, PyData.depth, PyData.eqv, h]
end HB
namespace HB
open PySem L2
def trimR : List Rat → List Rat
  | [] => []
  | a :: p => match trimR p with
    | [] => if a = 0 then [] else [a]
    | b :: r => a :: b :: r
/-- so many coefficients, trimmed -/
def mkP (n : Nat) (f : Nat → Rat) : List Rat := trimR ((List.range n).map f)
def psum (p q : List Rat) : List Rat := mkP (max p.length q.length) fun k => at0 p k + at0 q k
def pscale (p : List Rat) (c : Rat) : List Rat := trimR (p.map (· * c))
end HB
namespace HB
open PySem L2
/-- what the first so many of one row give -/
def cv (p q : List Rat) (a k : Nat) : Rat := sm a fun i => if i ≤ k then at0 p i * at0 q (k - i) else 0
def pev : List Rat → Rat → Rat
  | [], _ => 0
  | a :: p, t => pev p t * t + a
end HB
namespace HB
open PySem L2
structure Pc where
  a : Rat
  b : Rat
  p : List Rat
end HB
namespace HB
open PySem L2
def mg : Pc → List Pc → Pc × List Pc
  | l, [] => (l, [])
  | l, r :: rs => if r.p = l.p then mg ⟨l.a, r.b, r.p⟩ rs else (l, (mg r rs).1 :: (mg r rs).2)
end HB
namespace HB
open PySem L2
def esS (s : List Rat) (t : Rat) : List Rat := psum s (0 :: pscale s t)
def es (g : List Rat) : List Rat := g.foldl esS [1]
end HB
namespace HB
open PySem L2
def rowT (m : Nat) (f : Nat → Rat) : List Rat := (List.range (m + 1)).map f
def tb (m : Nat) (f : Nat → Nat → Rat) : List D := (List.range m).map fun k => .list (encL (rowT m (f k)))
end HB
namespace HB
open PySem L2
def prodL (zs : List Rat) (t : Rat) : Rat := match zs with
  | [] => 1
  | z :: zs => (t - z) * prodL zs t
def hmp (o : Option Rat) (t : Rat) : Rat := match o with
  | none => 1
  | some m => (t - m) * (t - m) + 1
end HB
namespace HB
open PySem L2
def sg (x : Rat) : Int := if 0 < x then 1 else if x < 0 then -1 else 0
def chg : List Int → Nat
  | a :: b :: r => (if a = b then 0 else 1) + chg (b :: r)
  | _ => 0
def vr (s : List Int) : Nat := chg (s.filter fun a => decide (a ≠ 0))
end HB
namespace HB
open PySem L2
/-- the sign against the slope -/
def ag (p : List Rat) (w : Int) (t : Rat) : Nat := if sg (pev p t) = -w then 1 else 0
end HB
namespace HB
open PySem L2
structure Pl where
  a : Rat
  b : Rat
  s : Bool
  p : List Rat
  f : List Rat
end HB
namespace HB
open PySem L2
def numL : List Rat := [1, -1, 2, -1 / 2]
end HB
namespace HB
open PySem L2
structure Rw where
  a : Rat
  b : Rat
  c : Rat
  zs : List Rat
  o : Option Rat
def rv (r : Rw) (t : Rat) : Rat := r.c * prodL r.zs t * hmp r.o t
end HB
namespace HB
open PySem L2
section
variable {n s : Nat} {h k : Nat → Rat} {κ : Nat → Int}
def dl (κ : Nat → Int) (n d i : Nat) : Nat := (κ (i + n - d) - κ i).toNat
end
end HB
namespace HB
open PySem L2
def some8 : List D := [.none, .str "", .str "1", .bool true, .bool false, .list [], .list [.int 1, .int 2], .tuple [.int 2, .int 4], .tuple [.int 1, .int 0], .tuple [.int 1, .int (-2)], .tuple [.int 1, .int 2, .int 3], .str "bend", .tuple [.tuple [.int 1, .int 2]]]
def deep8 : D := .list [.tuple [.list [.tuple [.list [.tuple [.list [.tuple [], .int 1]], .int 1]], .int 1]], .int 1]
def any8 : List D := some8 ++ [deep8, .tuple [.none, .int 1], .tuple [.int 1, .bool true]]
theorem any_run8 {b : List D} {m : Int} (hb : Bx b m) (hm : m < 1000000000) : ∃ b' d, F_law_value_ve847 b [] = some (.ok (b', d)) ∧ Bx b' (m + 1) ∧ d ∈ any8 := by
  obtain ⟨b', d, pk, hb', dm⟩ := pick_run (items := any8) hb (by omega) (by decide) (by decide)
  have pk' : F_law_pick b [.list any8] = some (.ok (b', d)) := pk
  refine ⟨b', d, ?_, hb', dm⟩
  have e0 : ∀ b : List D, g_law_value_ve847 [.box b, .no, .no, .no] = g_law_value_ve847_2 [.box b, .pur (.list some8), .pur deep8, .pur (.int 6)] := fun b => by kernel_rfl
  have ad : addD (.list some8) (.list [deep8, .tuple [.none, .int 1], .tuple [.int 1, .bool true]]) = some (.list any8) := by kernel_rfl
  have e1 : g_law_value_ve847_2 [.box b, .pur (.list some8), .pur deep8, .pur (.int 6)] = some (.ok ([.box b', .pur (.list some8), .pur deep8, .pur (.int 6)], .rt d)) := by
    simp [bd_ok, lf_some, cl_ok, a_ret, a_op, a_un, a_test, a_and, a_or, a_not, a_andV, a_orV, a_notV, a_if, a_sif, a_nil, a_cons, a_star, a_list, a_tup, a_sized, a_call, a_built, a_seq, a_set, a_own, a_sret, a_next, a_isi, a_slice, a_part, a_nopart, a_range, a_seqS, a_varP, a_par2, a_xp, a_xo, a_xn, a_asg, a_make, a_chg, a_ixO, a_lenO, a_cntO, items_lst, items_tup, sizeOk, boolD, cmpD, slOf, intOf_int, len_encL, ans_rt, a_fn, List.replicate, g_law_value_ve847_2, a_callX, atL, Sl.ls, Sl.put, ad, pk']
  unfold F_law_value_ve847
  rw [a_fnX (by rfl)]
  rw [show (Sl.box b :: (([] : List D).map Sl.pur ++ List.replicate (3 - ([] : List D).length) Sl.no)) = [.box b, .no, .no, .no] from rfl, e0, e1]
  exact ansX_rt b' _ d
end HB
namespace HB
open PySem L2
section
variable {ρ ρ1 ρ2 : En} {st st1 st2 : Dst}
theorem endD_ok {F : FnD} {f : Mo (List D)} {as : List D} {d : D} (h : f ρ = some (.ok (ρ1, as))) (e : F st as = some (.ok (st1, d))) : endD F f ρ st = some (.ok (ρ1, st1, d)) := by
  unfold endD
  rw [h]
  simp only [e]
theorem tstL {fa : MoL D} {fb : Mo D} {g : D → D → Option D} {x y : D} {b : Bool} (h : fa ρ st = some (.ok (ρ1, st1, x))) (h2 : fb ρ1 = some (.ok (ρ2, y))) (h3 : g x y = some (.bool b)) : mTestL (mOpL g fa fb) ρ st = some (.ok (ρ2, st1, b)) := by
  unfold mTestL mOpL liftL
  rw [h]
  simp only [h2, h3]
  rfl
theorem orL_f {f g : MoL Bool} {b : Bool} (h : f ρ st = some (.ok (ρ1, st1, false))) (h2 : g ρ1 st1 = some (.ok (ρ2, st2, b))) : mOrL f g ρ st = some (.ok (ρ2, st2, b)) := by
  unfold mOrL
  rw [h]
  simp only [h2]
theorem andL_f {f g : MoL Bool} (h : f ρ st = some (.ok (ρ1, st1, false))) : mAndL f g ρ st = some (.ok (ρ1, st1, false)) := by
  unfold mAndL
  rw [h]
theorem andL_t {f g : MoL Bool} {b : Bool} (h : f ρ st = some (.ok (ρ1, st1, true))) (h2 : g ρ1 st1 = some (.ok (ρ2, st2, b))) : mAndL f g ρ st = some (.ok (ρ2, st2, b)) := by
  unfold mAndL
  rw [h]
  simp only [h2]
theorem lfL {α : Type} {f : Mo α} {a : α} (h : f ρ = some (.ok (ρ1, a))) : liftL f ρ st = some (.ok (ρ1, st, a)) := by
  unfold liftL
  rw [h]
theorem ifC_f {c : MoL Bool} {f g : MoF} (h : c ρ st = some (.ok (ρ1, st1, false))) : sIfC c f g ρ st = noErr (g ρ1 st1) := by
  unfold sIfC
  rw [h]
theorem ifP_f {c : Mo Bool} {f g : MoF} (h : c ρ = some (.ok (ρ1, false))) : sIfP c f g ρ st = g ρ1 st := by
  unfold sIfP
  rw [h]
theorem seqP {f : Mo Fl} {g : MoF} (h : f ρ = some (.ok (ρ1, .nx))) : sSeqP f g ρ st = g ρ1 st := by
  unfold sSeqP
  rw [h]
theorem forLL_idx {g : D → En → Option En} {body : MoF} (P : Nat → En → Dst → Prop) : ∀ (ds : List D) (n : Nat) (ρ : En) (st : Dst), P n ρ st → (∀ k, k < ds.length → ∀ d ∈ ds, ∀ ρ st, P (n + k) ρ st → ∃ ρ1 ρ2 st2, g d ρ = some ρ1 ∧ body ρ1 st = some (.ok (ρ2, st2, .nx)) ∧ P (n + k + 1) ρ2 st2) →
    ∃ ρ' st', forLL g body ds ρ st = some (.ok (ρ', st', .nx)) ∧ P (n + ds.length) ρ' st'
  | [], n, ρ, st, h, _ => ⟨ρ, st, rfl, h⟩
  | d :: ds, n, ρ, st, h, hs => by
    obtain ⟨ρ1, ρ2, st2, e1, e2, h2⟩ := hs 0 (by simp) d List.mem_cons_self ρ st h
    obtain ⟨ρ', st', e3, h3⟩ := forLL_idx P ds (n + 1) ρ2 st2 h2 fun k hk d hd ρ st hp => by
      have e : n + 1 + k = n + (k + 1) := by omega
      rw [e] at hp ⊢
      exact hs (k + 1) (by simp; omega) d (List.mem_cons_of_mem _ hd) ρ st hp
    refine ⟨ρ', st', ?_, ?_⟩
    · unfold forLL
      rw [e1]
      simp only [e2]
      exact e3
    · have e : n + (d :: ds).length = n + 1 + ds.length := by simp; omega
      rw [e]
      exact h3
theorem forLq {src : Mo Src} {g : D → En → Option En} {b k : MoF} {items : List D} (hs : src ρ = some (.ok (ρ1, constS items))) (hf : forLL g b items ρ1 st = some (.ok (ρ2, st2, .nx))) : sForL src g b k ρ st = noErr (k ρ2 st2) := by
  unfold sForL
  rw [hs]
  simp only [constS, hf]
/-- some commands, one behind the other -/
def sayAll (F : FnD) : List D → Dst → Option (Dst × List D)
  | [], st => some (st, [])
  | d :: ds, st => match F st [d] with
    | some (.ok (st', y)) => (match sayAll F ds st' with
      | some (s, ys) => some (s, y :: ys)
      | none => none)
    | _ => none
end
def bad73 : List D := [.str "", .str "bend", .str "pull", .str "pull 0", .str "pull 0 1 2", .str "pull 00 1", .str "pull a 1", .str "pull 0 2/4", .str "pull 100 1", .str "value", .str "value 1 1", .str "value 01", .str "mark x", .str "signs 1", .str "least ", .str " undo", .str "undo\n", .str "Bend 0 marks 0 1 handles 1", .str "bend ", .str "bend 2  marks 0 1 handles 1 1 1", .str "pull 0 -0", .str "mark +1", .str "value 3/1", .str "value 1234567890", .str "unmark 0/5"]
def prs73 : List (D × D) := [(.str "bend x", .str "text 0"), (.str "bend 2 marks 0 1 handles 1", .str "bend handles"), (.str "bend 1 marks 1 0 handles 1 1", .str "bend marks"), (.str "value 3", .str "time (3, 1)"), (.str "mark 0", .str "time (0, 1)"), (.str "unmark 1/2", .str "mark (1, 2)"), (.str "pull 7 1", .str "refused 3")]
def some73 : List D := prs73.map fun p => .tuple [p.1, p.2]
@[irreducible] def st73k : List (D × D) := match F_Desk_say_o none [.str "bend 2 marks 0 2 handles 1 -1 1"] with
  | some (.ok (some s, _)) => s
  | _ => []
abbrev st73 : Dst := some st73k
theorem new73 : F_law_heard_v5980_o none [.str "bend 2 marks 0 2 handles 1 -1 1"] = some (.ok (st73, .str "3")) := by kernel_rfl
theorem none73 : [(.str "signs" : D), .str "undo", .str "pull 0 1", .str "value 1"].map (fun c => F_law_heard_v5980_o none [c]) = [(.str "signs" : D), .str "undo", .str "pull 0 1", .str "value 1"].map fun _ => some (.ok (none, .str "command")) := by kernel_rfl
theorem text73 : F_law_heard_v5980_o none [.str "bend x"] = some (.ok (none, .str "text 0")) := by kernel_rfl
theorem badl73 : bad73.map (fun c => F_law_heard_v5980_o st73 [c]) = bad73.map fun _ => some (.ok (st73, .str "command")) := by kernel_rfl
theorem vall73 : any8.map (fun c => F_law_heard_v5980_o st73 [c]) = any8.map fun _ => some (.ok (st73, .str "command")) := by kernel_rfl
theorem prsl73 : prs73.map (fun p => F_law_heard_v5980_o st73 [p.1]) = prs73.map fun p => some (.ok (st73, p.2)) := by kernel_rfl
def w1 : List D := [.str "signs", .str "pull 1 -3", .str "value 1", .str "mark 1", .str "least", .str "unmark 1", .str "undo", .str "undo"]
def d1 : List D := [.str "+0+", .str "+0-0+", .str "-1", .str "+0-0+", .str "bend 2 marks 0 2 handles 1 -3 1", .str "done", .str "+0-0+", .str "+0-0+"]
def w2 : List D := [.str "undo", .str "undo", .str "value 1/2"]
def d2 : List D := [.str "+0+", .str "nothing", .str "1/4"]
@[irreducible] def st1 : Dst := match sayAll F_Desk_say_o w1 st73 with
  | some (s, _) => s
  | none => none
@[irreducible] def st2 : Dst := match sayAll F_Desk_say_o w2 st1 with
  | some (s, _) => s
  | none => none
theorem say1 : sayAll F_Desk_say_o w1 st73 = some (st1, d1) := by kernel_rfl
theorem say2 : sayAll F_Desk_say_o w2 st1 = some (st2, d2) := by kernel_rfl
theorem len73 : F_Live___len__ st73k [] = some (.ok (st73k, .int 0)) := by kernel_rfl
end HB
namespace HB
open PySem L2
theorem map_mem {α β : Type} {l : List α} {f g : α → β} (h : l.map f = l.map g) {x : α} (hx : x ∈ l) : f x = g x := (List.map_inj_left.mp h) x hx
theorem bad_one {c : D} (h : c ∈ bad73) : F_law_heard_v5980_o st73 [c] = some (.ok (st73, .str "command")) := map_mem badl73 h
theorem val_one {c : D} (h : c ∈ any8) : F_law_heard_v5980_o st73 [c] = some (.ok (st73, .str "command")) := map_mem vall73 h
theorem some_one {c : D} (h : c ∈ some73) : ∃ x y, c = .tuple [x, y] ∧ (∃ z, y = .str z ∧ PyData.strOk z = true) ∧ F_law_heard_v5980_o st73 [x] = some (.ok (st73, y)) := by
  obtain ⟨p, hp, rfl⟩ := (List.mem_map.mp h)
  refine ⟨p.1, p.2, rfl, ?_, map_mem prsl73 hp⟩
  simp only [prs73, List.mem_cons, List.not_mem_nil, or_false] at hp
  rcases hp with rfl | rfl | rfl | rfl | rfl | rfl | rfl <;> exact ⟨_, rfl, by decide +kernel⟩
section
variable {x0 x1 x2 x3 x4 x5 x6 x7 x10 x11 : Sl} {b b1 : List D} {c d : D}
abbrev E7 (x0 x1 x2 x3 x4 x5 x6 x7 : Sl) (b : List D) (x10 x11 : Sl) : En := [x0, x1, x2, x3, x4, x5, x6, x7, .own b, .pur (gD 0), x10, x11, .no]
theorem t1 (h : F_law_heard_v5980_o none [c] = some (.ok (none, .str "command"))) : g_law_1 (E7 x0 x1 x2 x3 (.pur c) x5 x6 x7 b x10 x11) none = some (.ok (E7 x0 x1 x2 x3 (.pur c) x5 x6 x7 b x10 x11, none, .nx)) := by
  unfold g_law_1
  rw [ifC_f (orL_f (tstL (endD_ok (ρ1 := E7 x0 x1 x2 x3 (.pur c) x5 x6 x7 b x10 x11) (as := [c]) rfl h) rfl (ne_str (by decide +kernel))) (tstL (ρ1 := E7 x0 x1 x2 x3 (.pur c) x5 x6 x7 b x10 x11) (st1 := none) (x := .none) (y := .none) (b := false) rfl rfl rfl))]
  rfl
theorem str_isi : ∃ q, mNot (mTest (mIsi isStrT (mVar 10))) (E7 x0 x1 x2 x3 x4 x5 x6 x7 b (.pur c) x11) = some (.ok (E7 x0 x1 x2 x3 x4 x5 x6 x7 b (.pur c) x11, q)) ∨ ∃ kvs, c = .dict kvs := by
  cases c with
  | dict kvs => exact ⟨true, .inr ⟨kvs, rfl⟩⟩
  | str z => exact ⟨false, .inl rfl⟩
  | _ => exact ⟨true, .inl rfl⟩
theorem t2 (h : F_law_heard_v5980_o st73 [c] = some (.ok (st73, .str "command"))) (nd : ∀ kvs, c ≠ .dict kvs) : g_law_2 (E7 x0 x1 x2 x3 x4 x5 x6 x7 b (.pur c) x11) st73 = some (.ok (E7 x0 x1 x2 x3 x4 x5 x6 x7 b (.pur c) x11, st73, .nx)) := by
  have ln : mLenLL F_Live___len__ (E7 x0 x1 x2 x3 x4 x5 x6 x7 b (.pur c) x11) st73 = some (.ok (E7 x0 x1 x2 x3 x4 x5 x6 x7 b (.pur c) x11, st73, .int 0)) := by
    unfold mLenLL
    simp only [len73]
    rfl
  have first : mAndL (liftL (mNot (mTest (mIsi isStrT (mVar 10))))) (mTestL (mOpL neD (endD F_law_heard_v5980_o (mCons (mVar 10) (mNil))) (mRet (.str "command")))) (E7 x0 x1 x2 x3 x4 x5 x6 x7 b (.pur c) x11) st73 = some (.ok (E7 x0 x1 x2 x3 x4 x5 x6 x7 b (.pur c) x11, st73, false)) := by
    obtain ⟨q, hq⟩ := str_isi (x0 := x0) (x1 := x1) (x2 := x2) (x3 := x3) (x4 := x4) (x5 := x5) (x6 := x6) (x7 := x7) (b := b) (c := c) (x11 := x11)
    rcases hq with hq | ⟨kvs, z⟩
    · cases q with
      | false => exact andL_f (lfL hq)
      | true => exact andL_t (lfL hq) (tstL (endD_ok (ρ1 := E7 x0 x1 x2 x3 x4 x5 x6 x7 b (.pur c) x11) (as := [c]) rfl h) rfl (ne_str (by decide +kernel)))
    · exact absurd z (nd kvs)
  unfold g_law_2
  rw [ifC_f (orL_f first (tstL ln (ρ2 := E7 x0 x1 x2 x3 x4 x5 x6 x7 b (.pur c) x11) (y := .int 0) (b := false) rfl rfl))]
  rfl
theorem t3 (hv : F_law_value_ve847 b [] = some (.ok (b1, c))) (h : F_law_heard_v5980_o st73 [c] = some (.ok (st73, .str "command"))) (nd : ∀ kvs, c ≠ .dict kvs) : g_law_3 (E7 x0 x1 x2 x3 x4 x5 x6 x7 b x10 x11) st73 = some (.ok (E7 x0 x1 x2 x3 x4 x5 x6 x7 b1 (.pur c) x11, st73, .nx)) := by
  have q : mCallX F_law_value_ve847 8 (mNil) (E7 x0 x1 x2 x3 x4 x5 x6 x7 b x10 x11) = some (.ok (E7 x0 x1 x2 x3 x4 x5 x6 x7 b1 x10 x11, c)) := by
    simp [bd_ok, lf_some, cl_ok, a_ret, a_op, a_un, a_test, a_and, a_or, a_not, a_andV, a_orV, a_notV, a_if, a_sif, a_nil, a_cons, a_star, a_list, a_tup, a_sized, a_call, a_built, a_seq, a_set, a_own, a_sret, a_next, a_isi, a_slice, a_part, a_nopart, a_range, a_seqS, a_varP, a_par2, a_xp, a_xo, a_xn, a_asg, a_make, a_chg, a_ixO, a_lenO, a_cntO, items_lst, items_tup, sizeOk, boolD, cmpD, slOf, intOf_int, len_encL, ans_rt, a_fn, List.replicate, a_callX, atL, Sl.ls, Sl.put, hv]
  have s : sSet 10 (mCallX F_law_value_ve847 8 (mNil)) (E7 x0 x1 x2 x3 x4 x5 x6 x7 b x10 x11) = some (.ok (E7 x0 x1 x2 x3 x4 x5 x6 x7 b1 (.pur c) x11, .nx)) := by
    unfold sSet mBind
    rw [q]
    rfl
  unfold g_law_3
  rw [seqP s]
  exact t2 h nd
theorem t4 {z : D} {b2 : List D} {v : Str} (vk : PyData.strOk v = true) (h : F_law_heard_v5980_o st73 [d] = some (.ok (st73, .str v))) (hp : F_law_pick b [.list bad73] = some (.ok (b1, z))) (hz : F_law_heard_v5980_o st73 [z] = some (.ok (st73, .str "command"))) (hv : F_law_value_ve847 b1 [] = some (.ok (b2, c))) (hc : F_law_heard_v5980_o st73 [c] = some (.ok (st73, .str "command"))) (nd : ∀ kvs, c ≠ .dict kvs) :
    g_law_4 (E7 x0 (.pur (.list bad73)) x2 x3 (.pur d) x5 x6 x7 b x10 (.pur (.str v))) st73 = some (.ok (E7 x0 (.pur (.list bad73)) x2 x3 (.pur d) x5 x6 x7 b2 (.pur c) (.pur (.str v)), st73, .nx)) := by
  have q : mCons (mCallX F_law_pick 8 (mCons (mVar 1) (mNil))) (mNil) (E7 x0 (.pur (.list bad73)) x2 x3 (.pur d) x5 x6 x7 b x10 (.pur (.str v))) = some (.ok (E7 x0 (.pur (.list bad73)) x2 x3 (.pur d) x5 x6 x7 b1 x10 (.pur (.str v)), [z])) := by
    generalize bad73 = B at *
    simp [bd_ok, lf_some, cl_ok, a_ret, a_op, a_un, a_test, a_and, a_or, a_not, a_andV, a_orV, a_notV, a_if, a_sif, a_nil, a_cons, a_star, a_list, a_tup, a_sized, a_call, a_built, a_seq, a_set, a_own, a_sret, a_next, a_isi, a_slice, a_part, a_nopart, a_range, a_seqS, a_varP, a_par2, a_xp, a_xo, a_xn, a_asg, a_make, a_chg, a_ixO, a_lenO, a_cntO, items_lst, items_tup, sizeOk, boolD, cmpD, slOf, intOf_int, len_encL, ans_rt, a_fn, List.replicate, a_callX, atL, Sl.ls, Sl.put, hp]
  unfold g_law_4
  rw [ifC_f (orL_f (tstL (endD_ok (ρ1 := E7 x0 (.pur (.list bad73)) x2 x3 (.pur d) x5 x6 x7 b x10 (.pur (.str v))) (as := [d]) rfl h) (y := .str v) rfl (ne_str vk)) (tstL (endD_ok q hz) rfl (ne_str (by decide +kernel)))), t3 hv hc nd]
  rfl
theorem t5 {z : D} {b2 b3 : List D} {v : Str} (vk : PyData.strOk v = true) (hs : F_law_pick b [.list some73] = some (.ok (b1, .tuple [d, .str v]))) (h : F_law_heard_v5980_o st73 [d] = some (.ok (st73, .str v))) (hp : F_law_pick b1 [.list bad73] = some (.ok (b2, z))) (hz : F_law_heard_v5980_o st73 [z] = some (.ok (st73, .str "command"))) (hv : F_law_value_ve847 b2 [] = some (.ok (b3, c))) (hc : F_law_heard_v5980_o st73 [c] = some (.ok (st73, .str "command"))) (nd : ∀ kvs, c ≠ .dict kvs) :
    g_law_5 (E7 x0 (.pur (.list bad73)) (.pur (.list some73)) x3 x4 x5 x6 x7 b x10 x11) st73 = some (.ok (E7 x0 (.pur (.list bad73)) (.pur (.list some73)) x3 (.pur d) x5 x6 x7 b3 (.pur c) (.pur (.str v)), st73, .nx)) := by
  have q : mCallX F_law_pick 8 (mCons (mVar 2) (mNil)) (E7 x0 (.pur (.list bad73)) (.pur (.list some73)) x3 x4 x5 x6 x7 b x10 x11) = some (.ok (E7 x0 (.pur (.list bad73)) (.pur (.list some73)) x3 x4 x5 x6 x7 b1 x10 x11, .tuple [d, .str v])) := by
    generalize bad73 = B at *
    generalize some73 = S at *
    simp [bd_ok, lf_some, cl_ok, a_ret, a_op, a_un, a_test, a_and, a_or, a_not, a_andV, a_orV, a_notV, a_if, a_sif, a_nil, a_cons, a_star, a_list, a_tup, a_sized, a_call, a_built, a_seq, a_set, a_own, a_sret, a_next, a_isi, a_slice, a_part, a_nopart, a_range, a_seqS, a_varP, a_par2, a_xp, a_xo, a_xn, a_asg, a_make, a_chg, a_ixO, a_lenO, a_cntO, items_lst, items_tup, sizeOk, boolD, cmpD, slOf, intOf_int, len_encL, ans_rt, a_fn, List.replicate, a_callX, atL, Sl.ls, Sl.put, hs]
  have s : sAsg (gTupD 2 (gConsD (gSet 4) (gConsD (gSet 11) (gNilD)))) (mCallX F_law_pick 8 (mCons (mVar 2) (mNil))) (E7 x0 (.pur (.list bad73)) (.pur (.list some73)) x3 x4 x5 x6 x7 b x10 x11) = some (.ok (E7 x0 (.pur (.list bad73)) (.pur (.list some73)) x3 (.pur d) x5 x6 x7 b1 x10 (.pur (.str v)), .nx)) := by
    unfold sAsg mBind
    rw [q]
    rfl
  unfold g_law_5
  rw [seqP s]
  exact t4 vk h hp hz hv hc nd
theorem lc_say {F : FnD} : ∀ (ds : List D) (st st' : Dst) (ys : List D), sayAll F ds st = some (st', ys) → lcLL [12] (gSet 12) (endD F (mCons (mVar 12) (mNil))) ds (E7 x0 x1 x2 x3 x4 x5 x6 x7 b x10 x11) st = some (E7 x0 x1 x2 x3 x4 x5 x6 x7 b x10 x11, st', ys)
  | [], st, st', ys, h => by cases h; rfl
  | d :: ds, st, st', ys, h => by
    unfold sayAll at h
    cases hF : F st [d] with
    | none => rw [hF] at h; cases h
    | some r =>
      rw [hF] at h
      cases r with
      | error x => cases h
      | ok p =>
        obtain ⟨s1, y⟩ := p
        simp only at h
        cases hs : sayAll F ds s1 with
        | none => rw [hs] at h ; cases h
        | some q =>
          obtain ⟨s2, zs⟩ := q
          rw [hs] at h
          cases h
          have e : endD F (mCons (mVar 12) (mNil)) [x0, x1, x2, x3, x4, x5, x6, x7, .own b, .pur (gD 0), x10, x11, .pur d] st = some (.ok ([x0, x1, x2, x3, x4, x5, x6, x7, .own b, .pur (gD 0), x10, x11, .pur d], s1, y)) := endD_ok (as := [d]) rfl hF
          have ih := lc_say (F := F) ds s1 st' zs hs
          unfold lcLL
          show (match endD F (mCons (mVar 12) (mNil)) [x0, x1, x2, x3, x4, x5, x6, x7, .own b, .pur (gD 0), x10, x11, .pur d] st with
            | some (.ok (ρ3, st3, y)) => (match lcLL [12] (gSet 12) (endD F (mCons (mVar 12) (mNil))) ds (wipeE ρ3 [12]) st3 with
              | some (ρ4, st4, ys) => some (ρ4, st4, y :: ys)
              | none => none)
            | _ => none) = _
          rw [e]
          show (match lcLL [12] (gSet 12) (endD F (mCons (mVar 12) (mNil))) ds (E7 x0 x1 x2 x3 x4 x5 x6 x7 b x10 x11) s1 with
              | some (ρ4, st4, ys) => some (ρ4, st4, y :: ys)
              | none => none) = _
          rw [ih]
theorem blk_say {F : FnD} {src : Mo Src} {ds : List D} {st st' : Dst} {ys : List D} (hs : src (E7 x0 x1 x2 x3 x4 x5 x6 x7 b x10 x11) = some (.ok (E7 x0 x1 x2 x3 x4 x5 x6 x7 b x10 x11, constS ds))) (hl : Nat.blt ds.length 1000000 = true) (h : sayAll F ds st = some (st', ys)) :
    mBlkL [12] src (gSet 12) (endD F (mCons (mVar 12) (mNil))) (E7 x0 x1 x2 x3 x4 x5 x6 x7 b x10 x11) st = some (.ok (E7 x0 x1 x2 x3 x4 x5 x6 x7 b x10 x11, st', .list ys)) := by
  have no : noOwn (E7 x0 x1 x2 x3 x4 x5 x6 x7 b x10 x11) [12] = true := rfl
  have wi : wipeE (E7 x0 x1 x2 x3 x4 x5 x6 x7 b x10 x11) [12] = E7 x0 x1 x2 x3 x4 x5 x6 x7 b x10 x11 := rfl
  have lc := lc_say (F := F) (x0 := x0) (x1 := x1) (x2 := x2) (x3 := x3) (x4 := x4) (x5 := x5) (x6 := x6) (x7 := x7) (b := b) (x10 := x10) (x11 := x11) ds st st' ys h
  unfold mBlkL
  rw [hs]
  simp only [no, constS, hl, wi, lc]
  rfl
theorem t6 : g_law_6 (E7 x0 x1 x2 x3 x4 x5 x6 x7 b x10 x11) st1 = some (.ok (E7 x0 x1 x2 x3 x4 x5 x6 x7 b x10 x11, st2, .nx)) := by
  have bk := blk_say (F := F_Desk_say_o) (src := mSeqS (mTup (mCons (mRet (.str "undo")) (mCons (mRet (.str "undo")) (mCons (mRet (.str "value 1/2")) (mNil)))))) (x0 := x0) (x1 := x1) (x2 := x2) (x3 := x3) (x4 := x4) (x5 := x5) (x6 := x6) (x7 := x7) (b := b) (x10 := x10) (x11 := x11) (ds := w2) (by rfl) (by decide) say2
  unfold g_law_6
  rw [ifC_f (tstL bk (ρ2 := E7 x0 x1 x2 x3 x4 x5 x6 x7 b x10 x11) (y := .list d2) (b := false) rfl (by kernel_rfl))]
  rfl
theorem t7 : g_law_7 (E7 x0 x1 x2 x3 x4 x5 x6 (.pur (.list d1)) b x10 x11) st1 = some (.ok (E7 x0 x1 x2 x3 x4 x5 x6 (.pur (.list d1)) b x10 x11, st2, .nx)) := by
  unfold g_law_7
  rw [ifP_f (ρ1 := E7 x0 x1 x2 x3 x4 x5 x6 (.pur (.list d1)) b x10 x11) (by kernel_rfl)]
  exact t6
theorem t8 : g_law_8 (E7 x0 x1 x2 x3 x4 x5 (.pur (.tuple w1)) x7 b x10 x11) st73 = some (.ok (E7 x0 x1 x2 x3 x4 x5 (.pur (.tuple w1)) (.pur (.list d1)) b x10 x11, st2, .nx)) := by
  have bk := blk_say (F := F_Desk_say_o) (src := mSeqS (mVar 6)) (x0 := x0) (x1 := x1) (x2 := x2) (x3 := x3) (x4 := x4) (x5 := x5) (x6 := .pur (.tuple w1)) (x7 := x7) (b := b) (x10 := x10) (x11 := x11) (ds := w1) (by rfl) (by decide) say1
  unfold g_law_8 sSetL
  rw [bk]
  show noErr (g_law_7 (E7 x0 x1 x2 x3 x4 x5 (.pur (.tuple w1)) (.pur (.list d1)) b x10 x11) st1) = _
  rw [t7]
  rfl
theorem t9 : g_law_9 (E7 x0 x1 x2 x3 x4 x5 x6 x7 b x10 x11) st73 = some (.ok (E7 x0 x1 x2 x3 x4 x5 (.pur (.tuple w1)) (.pur (.list d1)) b x10 x11, st2, .nx)) := by
  unfold g_law_9
  rw [seqP (ρ1 := E7 x0 x1 x2 x3 x4 x5 (.pur (.tuple w1)) x7 b x10 x11) (by rfl)]
  exact t8
theorem nd_bad {c : D} (h : c ∈ any8) : ∀ kvs, c ≠ .dict kvs := by
  intro kvs e
  subst e
  simp [any8, some8, deep8] at h
theorem t10 {m : Int} (hb : Bx b m) (hm : m < 1000000) : ∃ b' y4 y5 y6 y7 y10 y11, g_law_10 (E7 x0 (.pur (.list bad73)) (.pur (.list some73)) x3 x4 x5 x6 x7 b x10 x11) st73 = some (.ok (E7 x0 (.pur (.list bad73)) (.pur (.list some73)) x3 y4 y5 y6 y7 b' y10 y11, st2, .nx)) ∧ Bx b' (m + 1000) := by
  have rg : range1D [.int 10] = _ := range1_of (z := 10) 10 rfl (by decide)
  have src : mRange range1D (mCons (mRet (.int 10)) (mNil)) (E7 x0 (.pur (.list bad73)) (.pur (.list some73)) x3 x4 x5 x6 x7 b x10 x11) = some (.ok (E7 x0 (.pur (.list bad73)) (.pur (.list some73)) x3 x4 x5 x6 x7 b x10 x11, constS ((List.range 10).map natD))) := by
    generalize bad73 = B
    generalize some73 = S
    rw [a_range, a_cons, a_ret, bd_ok, a_nil, bd_ok, bd_ok, rg]
    rfl
  obtain ⟨ρ', st', f1, b', y4, y5, y10, y11, rfl, rfl, f3⟩ := forLL_idx (g := gSet 5) (body := g_law_5) (fun n ρ st => ∃ b' y4 y5 y10 y11, ρ = E7 x0 (.pur (.list bad73)) (.pur (.list some73)) x3 y4 y5 x6 x7 b' y10 y11 ∧ st = st73 ∧ Bx b' (m + 3 * n)) ((List.range 10).map natD) 0 _ st73 ⟨b, x4, x5, x10, x11, rfl, rfl, by simpa using hb⟩ fun k hk dd _ ρ st ⟨b', y4, y5, y10, y11, e1, e2, hb'⟩ => by
    subst e1
    subst e2
    have hk' : k < 10 := by simpa using hk
    obtain ⟨b1, s, p1, q1, m1⟩ := pick_run (items := some73) hb' (by omega) (by decide) (by decide)
    have p1' : F_law_pick b' [.list some73] = some (.ok (b1, s)) := p1
    obtain ⟨d, y, rfl, ⟨v, rfl, vk⟩, hd⟩ := some_one m1
    obtain ⟨b2, z, p2, q2, m2⟩ := pick_run (items := bad73) q1 (by omega) (by decide) (by decide)
    have p2' : F_law_pick b1 [.list bad73] = some (.ok (b2, z)) := p2
    obtain ⟨b3, c, p3, q3, m3⟩ := any_run8 q2 (by omega)
    exact ⟨_, _, _, rfl, t5 (x5 := .pur dd) vk p1' hd p2' (bad_one m2) p3 (val_one m3) (nd_bad m3), b3, _, _, _, _, rfl, rfl, q3.mono (by omega)⟩
  refine ⟨b', y4, y5, .pur (.tuple w1), .pur (.list d1), y10, y11, ?_, f3.mono (by simp only [List.length_map, List.length_range]; omega)⟩
  unfold g_law_10
  rw [forLq src f1, t9]
  rfl
theorem t11 {m : Int} (hb : Bx b m) (hm : m < 1000000) : ∃ b' y4 y5 y6 y7 y10 y11, g_law_11 (E7 x0 (.pur (.list bad73)) (.pur (.list some73)) x3 x4 x5 x6 x7 b x10 x11) none = some (.ok (E7 x0 (.pur (.list bad73)) (.pur (.list some73)) x3 y4 y5 y6 y7 b' y10 y11, st2, .nx)) ∧ Bx b' (m + 1000) := by
  obtain ⟨b', y4, y5, y6, y7, y10, y11, e, hb'⟩ := t10 (x0 := x0) (x3 := x3) (x4 := x4) (x5 := x5) (x6 := x6) (x7 := x7) (x10 := x10) (x11 := x11) hb hm
  refine ⟨b', y4, y5, y6, y7, y10, y11, ?_, hb'⟩
  unfold g_law_11
  rw [ifC_f (orL_f (tstL (endD_ok (ρ1 := E7 x0 (.pur (.list bad73)) (.pur (.list some73)) x3 x4 x5 x6 x7 b x10 x11) (as := [.str "bend x"]) rfl text73) rfl (ne_str (by decide +kernel))) (tstL (endD_ok (ρ1 := E7 x0 (.pur (.list bad73)) (.pur (.list some73)) x3 x4 x5 x6 x7 b x10 x11) (as := [.str "bend 2 marks 0 2 handles 1 -1 1"]) rfl new73) rfl (ne_str (by decide +kernel)))), e]
  rfl
theorem t12 {m : Int} (hb : Bx b m) (hm : m < 1000000) : ∃ b' y4 y5 y6 y7 y10 y11, g_law_12 (E7 x0 (.pur (.list bad73)) (.pur (.list some73)) x3 x4 x5 x6 x7 b x10 x11) none = some (.ok (E7 x0 (.pur (.list bad73)) (.pur (.list some73)) x3 y4 y5 y6 y7 b' y10 y11, st2, .nx)) ∧ Bx b' (m + 1000) := by
  have src : mSeqS (mTup (mCons (mRet (.str "signs")) (mCons (mRet (.str "undo")) (mCons (mRet (.str "pull 0 1")) (mCons (mRet (.str "value 1")) (mNil)))))) (E7 x0 (.pur (.list bad73)) (.pur (.list some73)) x3 x4 x5 x6 x7 b x10 x11) = some (.ok (E7 x0 (.pur (.list bad73)) (.pur (.list some73)) x3 x4 x5 x6 x7 b x10 x11, constS [.str "signs", .str "undo", .str "pull 0 1", .str "value 1"])) := rfl
  obtain ⟨ρ', st', f1, y4, rfl, rfl⟩ := forLL_idx (g := gSet 4) (body := g_law_1) (fun n ρ st => ∃ y4, ρ = E7 x0 (.pur (.list bad73)) (.pur (.list some73)) x3 y4 x5 x6 x7 b x10 x11 ∧ st = none) [.str "signs", .str "undo", .str "pull 0 1", .str "value 1"] 0 _ none ⟨x4, rfl, rfl⟩ fun k hk dd hd ρ st ⟨y4, e1, e2⟩ => by
    subst e1
    subst e2
    exact ⟨_, _, _, rfl, t1 (map_mem none73 hd), _, rfl, rfl⟩
  obtain ⟨b', z4, z5, z6, z7, z10, z11, e, hb'⟩ := t11 (x0 := x0) (x3 := x3) (x4 := y4) (x5 := x5) (x6 := x6) (x7 := x7) (x10 := x10) (x11 := x11) hb hm
  refine ⟨b', z4, z5, z6, z7, z10, z11, ?_, hb'⟩
  unfold g_law_12
  rw [forLq src f1, e]
  rfl
end
abbrev S7 (x0 x1 x2 x3 x4 x5 x6 x7 x8 x9 x10 x11 : Sl) : En := [x0, x1, x2, x3, x4, x5, x6, x7, x8, x9, x10, x11, .no]
theorem cell_ok {ns : List Int} {k : Nat} (hk : k < 1000) {x4 x5 x6 x7 x8 x9 x10 x11 : Sl} :
    ∃ y4 y5 y6 y7 y8 y9 y10 y11, g_law_13 (S7 (.pur (scr ns)) (.pur (.list bad73)) (.pur (.list some73)) (.pur (natD k)) x4 x5 x6 x7 x8 x9 x10 x11) = some (.ok (S7 (.pur (scr ns)) (.pur (.list bad73)) (.pur (.list some73)) (.pur (natD k)) y4 y5 y6 y7 y8 y9 y10 y11, .nx)) := by
  obtain ⟨b0, h0, q0⟩ := box_bx ns k 73 (by omega) (by omega) (by decide) (by decide)
  have h0' : F_law_box [scr ns, natD k, .int 73] = some (.ok b0) := h0
  obtain ⟨b', y4, y5, y6, y7, y10, y11, e, hb'⟩ := t12 (x0 := .pur (scr ns)) (x3 := .pur (natD k)) (x4 := x4) (x5 := x5) (x6 := x6) (x7 := x7) (x10 := x10) (x11 := x11) q0 (by decide)
  refine ⟨y4, y5, y6, y7, .own b', .pur (gD 0), y10, y11, ?_⟩
  have q : mCallN F_law_box (mCons (mVar 0) (mCons (mVar 3) (mCons (mRet (.int 73)) (mNil)))) (S7 (.pur (scr ns)) (.pur (.list bad73)) (.pur (.list some73)) (.pur (natD k)) x4 x5 x6 x7 x8 x9 x10 x11) = some (.ok (S7 (.pur (scr ns)) (.pur (.list bad73)) (.pur (.list some73)) (.pur (natD k)) x4 x5 x6 x7 x8 x9 x10 x11, b0)) := by
    have ha : mCons (mVar 0) (mCons (mVar 3) (mCons (mRet (.int 73)) (mNil))) (S7 (.pur (scr ns)) (.pur (.list bad73)) (.pur (.list some73)) (.pur (natD k)) x4 x5 x6 x7 x8 x9 x10 x11) = some (.ok (S7 (.pur (scr ns)) (.pur (.list bad73)) (.pur (.list some73)) (.pur (natD k)) x4 x5 x6 x7 x8 x9 x10 x11, [scr ns, natD k, .int 73])) := rfl
    unfold mCallN mBind
    rw [ha]
    simp only [h0']
  have nw : mNew I_Desk mNil (S7 (.pur (scr ns)) (.pur (.list bad73)) (.pur (.list some73)) (.pur (natD k)) x4 x5 x6 x7 x8 x9 x10 x11) = some (.ok (S7 (.pur (scr ns)) (.pur (.list bad73)) (.pur (.list some73)) (.pur (natD k)) x4 x5 x6 x7 x8 x9 x10 x11, [(.str "live", .none)])) := rfl
  unfold g_law_13 sDesk2
  rw [q]
  simp only
  rw [nw]
  show endB (g_law_12 (E7 (.pur (scr ns)) (.pur (.list bad73)) (.pur (.list some73)) (.pur (natD k)) x4 x5 x6 x7 b0 x10 x11) none) = _
  rw [e]
  rfl
theorem law_true (ns : List Int) (_ : ns.length ≤ 63) : isT (F_law [scr ns]) = true := by
  have hl := scr_len ns
  obtain ⟨K, hK, eK⟩ : ∃ K : Nat, K ≤ 3 ∧ mBuilt maxD (mCons (mRet (.int 1)) (mCons (mBuilt minD (mCons (mRet (.int 3)) (mCons (mBuilt lenD (mCons (mVar 0) (mNil))) (mNil)))) (mNil))) (S7 (.pur (scr ns)) (.pur (.list bad73)) (.pur (.list some73)) .no .no .no .no .no .no .no .no .no) = some (.ok (S7 (.pur (scr ns)) (.pur (.list bad73)) (.pur (.list some73)) .no .no .no .no .no .no .no .no .no, .int K)) := by
    generalize bad73 = B
    generalize some73 = S
    by_cases c1 : (ns.length : Int) < 3
    · by_cases c2 : (ns.length : Int) > 1
      · exact ⟨ns.length, by omega, by simp [bd_ok, lf_some, cl_ok, a_ret, a_op, a_un, a_test, a_and, a_or, a_not, a_andV, a_orV, a_notV, a_if, a_sif, a_nil, a_cons, a_star, a_list, a_tup, a_sized, a_call, a_built, a_seq, a_set, a_own, a_sret, a_next, a_isi, a_slice, a_part, a_nopart, a_range, a_seqS, a_varP, a_par2, a_xp, a_xo, a_xn, a_asg, a_make, a_chg, a_ixO, a_lenO, a_cntO, items_lst, items_tup, sizeOk, boolD, cmpD, slOf, intOf_int, len_encL, ans_rt, a_fn, List.replicate, hl, minD, maxD, c1, c2]⟩
      · exact ⟨1, by omega, by simp [bd_ok, lf_some, cl_ok, a_ret, a_op, a_un, a_test, a_and, a_or, a_not, a_andV, a_orV, a_notV, a_if, a_sif, a_nil, a_cons, a_star, a_list, a_tup, a_sized, a_call, a_built, a_seq, a_set, a_own, a_sret, a_next, a_isi, a_slice, a_part, a_nopart, a_range, a_seqS, a_varP, a_par2, a_xp, a_xo, a_xn, a_asg, a_make, a_chg, a_ixO, a_lenO, a_cntO, items_lst, items_tup, sizeOk, boolD, cmpD, slOf, intOf_int, len_encL, ans_rt, a_fn, List.replicate, hl, minD, maxD, c1, c2]⟩
    · exact ⟨3, by omega, by simp [bd_ok, lf_some, cl_ok, a_ret, a_op, a_un, a_test, a_and, a_or, a_not, a_andV, a_orV, a_notV, a_if, a_sif, a_nil, a_cons, a_star, a_list, a_tup, a_sized, a_call, a_built, a_seq, a_set, a_own, a_sret, a_next, a_isi, a_slice, a_part, a_nopart, a_range, a_seqS, a_varP, a_par2, a_xp, a_xo, a_xn, a_asg, a_make, a_chg, a_ixO, a_lenO, a_cntO, items_lst, items_tup, sizeOk, boolD, cmpD, slOf, intOf_int, len_encL, ans_rt, a_fn, List.replicate, hl, minD, maxD, c1]⟩
  have rg : range1D [.int (K : Int)] = _ := range1_of (z := K) K rfl (by omega)
  have src : mRange range1D (mCons (mBuilt maxD (mCons (mRet (.int 1)) (mCons (mBuilt minD (mCons (mRet (.int 3)) (mCons (mBuilt lenD (mCons (mVar 0) (mNil))) (mNil)))) (mNil)))) (mNil)) (S7 (.pur (scr ns)) (.pur (.list bad73)) (.pur (.list some73)) .no .no .no .no .no .no .no .no .no) = some (.ok (S7 (.pur (scr ns)) (.pur (.list bad73)) (.pur (.list some73)) .no .no .no .no .no .no .no .no .no, constS ((List.range' 0 K).map natD))) := by
    rw [← List.range_eq_range', a_range, a_cons, eK, bd_ok, a_nil, bd_ok, bd_ok, rg]
    rfl
  obtain ⟨ρ', e1, y3, y4, y5, y6, y7, y8, y9, y10, y11, e2⟩ := for_range (v := 3) (body := g_law_13) 0 K (fun i ρ => ∃ y3 y4 y5 y6 y7 y8 y9 y10 y11, ρ = S7 (.pur (scr ns)) (.pur (.list bad73)) (.pur (.list some73)) y3 y4 y5 y6 y7 y8 y9 y10 y11) src ⟨_, _, _, _, _, _, _, _, _, rfl⟩ fun i ρ _ hi ⟨y3, y4, y5, y6, y7, y8, y9, y10, y11, hρ⟩ => by
    subst hρ
    obtain ⟨z4, z5, z6, z7, z8, z9, z10, z11, t1⟩ := cell_ok (ns := ns) (k := i) (by omega) (x4 := y4) (x5 := y5) (x6 := y6) (x7 := y7) (x8 := y8) (x9 := y9) (x10 := y10) (x11 := y11)
    exact ⟨_, .nx, t1, .inl rfl, _, z4, z5, z6, z7, z8, z9, z10, z11, rfl⟩
  subst e2
  have e0 : F_law [scr ns] = ans (g_law [.pur (scr ns), .no, .no, .no, .no, .no, .no, .no, .no, .no, .no, .no, .no]) := rfl
  have b20 : g_law [.pur (scr ns), .no, .no, .no, .no, .no, .no, .no, .no, .no, .no, .no, .no] = g_law_14 (S7 (.pur (scr ns)) (.pur (.list bad73)) (.pur (.list some73)) .no .no .no .no .no .no .no .no .no) := by kernel_rfl
  rw [e0, b20]
  unfold g_law_14
  rw [a_seq, e1, bd_ok]
  rfl
end HB
namespace HB
open PySem L2
theorem sc_Desk_init : FnScope ["self"] ["self"] (defScope s_Desk_init) := ⟨rfl, rfl, rfl, by decide +kernel, rfl, by decide +kernel, by decide +kernel⟩
theorem mk_Desk {P : Program} {w : World} {K : PySem.W.Frag} {mg : Str → Option Value} {base : Heap} (T : Say K mg) : MkE P w K mg base 1 "Desk" 0 I_Desk := by
  obtain ⟨fd, F⟩ := T.d_Desk_init
  exact init_ok F sc_Desk_init T.mk_Desk T.gc_Desk (fun _ _ _ _ _ _ us hl => match us, hl with | [_], _ => rfl) fun cdv A outer s H E hr =>
    so_put (evo_of (ev_non))
    (so_nil) T.cl_Desk T.na_Desk_live
theorem sc_InvalidBend_init : FnScope ["self", "word"] ["self", "word"] (defScope s_InvalidBend_init) := ⟨rfl, rfl, rfl, by decide +kernel, rfl, by decide +kernel, by decide +kernel⟩
theorem xc_InvalidBend {P : Program} {w : World} {K : PySem.W.Frag} {mg : Str → Option Value} {base : Heap} (T : Say K mg) : XcE P w K mg base 1 "InvalidBend" "word" := by
  obtain ⟨fd, F⟩ := T.d_InvalidBend_init
  exact exc_ok F sc_InvalidBend_init T.xf_InvalidBend T.gc_InvalidBend (fun _ _ _ _ _ _ us hl => match us, hl with | [_, _], _ => rfl) fun cdv A outer s H E => exc_suite rfl rfl (by first | exact Or.inl rfl | exact Or.inr (Or.inl rfl) | exact Or.inr (Or.inr rfl)) (by first | exact Or.inl rfl | exact Or.inr (Or.inl rfl) | exact Or.inr (Or.inr rfl)) rfl T.gc_BendError T.bot_BendError T.xf_InvalidBend.o T.xf_InvalidBend.n (by decide) (by decide) (by decide) rfl rfl rfl
theorem sc_is_less : FnScope ["one", "other"] ["one", "other"] (defScope s_is_less) := ⟨rfl, rfl, rfl, by decide +kernel, rfl, by decide +kernel, by decide +kernel⟩
theorem ok_is_less {P : Program} {w : World} {K : PySem.W.Frag} {mg : Str → Option Value} {base : Heap} (T : Say K mg) : FnE P w K mg base 1 "is_less" ["one", "other"] F_is_less := by
  obtain ⟨fd, F⟩ := T.d_is_less
  exact FnE.by (F := guard 2 (runF 2 g_is_less)) (fn_ok F sc_is_less T.g_is_less (fun _ _ _ _ _ _ us hl => match us, hl with | [_, _], _ => rfl) fun cdv A outer s H E hr =>
    ss_one (s_ret (ev_cmp dop_lt (ev_op dop_mul (ev_ix (ev_var 0) (ev_int)) (ev_ix (ev_var 1) (ev_int))) (ev_op dop_mul (ev_ix (ev_var 1) (ev_int)) (ev_ix (ev_var 0) (ev_int))) (nomark _)))) mir_is_less
theorem sc_is_sequence : FnScope ["value"] ["value"] (defScope s_is_sequence) := ⟨rfl, rfl, rfl, by decide +kernel, rfl, by decide +kernel, by decide +kernel⟩
theorem ok_is_sequence {P : Program} {w : World} {K : PySem.W.Frag} {mg : Str → Option Value} {base : Heap} (T : Say K mg) : FnE P w K mg base 1 "is_sequence" ["value"] F_is_sequence := by
  obtain ⟨fd, F⟩ := T.d_is_sequence
  exact fn_ok F sc_is_sequence T.g_is_sequence (fun _ _ _ _ _ _ us hl => match us, hl with | [_], _ => rfl) fun cdv A outer s H E hr =>
    ss_one (s_ret (ev_isiLT (ev_var 0) (T.m_isinstance) (T.m_list) (T.m_tuple)))
theorem sc_common_part : FnScope ["one", "other"] ["one", "other"] (defScope s_common_part) := ⟨rfl, rfl, rfl, by decide +kernel, rfl, by decide +kernel, by decide +kernel⟩
theorem ok_common_part {P : Program} {w : World} {K : PySem.W.Frag} {mg : Str → Option Value} {base : Heap} (T : Say K mg) : FnE P w K mg base 1 "common_part" ["one", "other"] F_common_part := by
  obtain ⟨fd, F⟩ := T.d_common_part
  exact FnE.by (F := guard 2 (runF 2 g_common_part)) (fn_ok F sc_common_part T.g_common_part (fun _ _ _ _ _ _ us hl => match us, hl with | [_, _], _ => rfl) fun cdv A outer s H E hr =>
    ss_cons (s_par2 (i := 0) (j := 1) rfl sc_common_part.nd (ex_consP (ev_callB dc_abs (T.m_abs) (by decide +kernel) (ea_cons (ev_var 0) (ea_nil))) (ex_consP (ev_callB dc_abs (T.m_abs) (by decide +kernel) (ea_cons (ev_var 1) (ea_nil))) (ex_nil))))
    (ss_cons (s_while (fuelInt 1) pass_own (et_cmp dop_gt (ev_var 1) (ev_int) (nomark _)) (ss_one (s_par2 (i := 0) (j := 1) rfl sc_common_part.nd (ex_consP (ev_var 1) (ex_consP (ev_op dop_mod (ev_var 0) (ev_var 1)) (ex_nil))))))
    (ss_one (s_ret (ev_var 0))))) mir_common_part
theorem sc_is_integer : FnScope ["value"] ["value"] (defScope s_is_integer) := ⟨rfl, rfl, rfl, by decide +kernel, rfl, by decide +kernel, by decide +kernel⟩
theorem ok_is_integer {P : Program} {w : World} {K : PySem.W.Frag} {mg : Str → Option Value} {base : Heap} (T : Say K mg) : FnE P w K mg base 1 "is_integer" ["value"] F_is_integer := by
  obtain ⟨fd, F⟩ := T.d_is_integer
  exact fn_ok F sc_is_integer T.g_is_integer (fun _ _ _ _ _ _ us hl => match us, hl with | [_], _ => rfl) fun cdv A outer s H E hr =>
    ss_one (s_ret (ev_and (ev_isi tab_int (ev_var 0) (T.m_isinstance) (T.m_int) (by decide +kernel)) (ev_one (ev_not (ev_isi tab_bool (ev_var 0) (T.m_isinstance) (T.m_bool) (by decide +kernel))))))
theorem sc_is_value : FnScope ["value"] ["value"] (defScope s_is_value) := ⟨rfl, rfl, rfl, by decide +kernel, rfl, by decide +kernel, by decide +kernel⟩
theorem ok_is_value {P : Program} {w : World} {K : PySem.W.Frag} {mg : Str → Option Value} {base : Heap} (T : Say K mg) : FnE P w K mg base 2 "is_value" ["value"] F_is_value := by
  obtain ⟨fd, F⟩ := T.d_is_value
  exact fn_ok F sc_is_value T.g_is_value (fun _ _ _ _ _ _ us hl => match us, hl with | [_], _ => rfl) fun cdv A outer s H E hr =>
    ss_cons (s_if (et_val (ev_call (ok_is_integer T) (hr.mono (by decide)) pass_cx (ea_cons (ev_var 0) (ea_nil)))) (ss_one (s_ret (ev_bl))) (ss_nil))
    (ss_cons (s_if ((ew_or (et_not (et_val (ev_isi tab_tup (ev_var 0) (T.m_isinstance) (T.m_tuple) (by decide +kernel)))) (ew_or (et_cmp (dop_ne hr.units) (ev_callB dc_len (T.m_len) (by decide +kernel) (ea_cons (ev_var 0) (ea_nil))) (ev_glob T.c_PAIR) (nomark _)) (ew_or (et_not (et_val (ev_call (ok_is_integer T) (hr.mono (by decide)) pass_cx (ea_cons (ev_ix (ev_var 0) (ev_int)) (ea_nil))))) (ew_or1 (et_not (et_val (ev_call (ok_is_integer T) (hr.mono (by decide)) pass_cx (ea_cons (ev_ix (ev_var 0) (ev_int)) (ea_nil))))))))).et) (ss_one (s_ret (ev_bl))) (ss_nil))
    (ss_one (s_ret (ev_and (ev_cmp dop_gt (ev_ix (ev_var 0) (ev_int)) (ev_int) (nomark _)) (ev_one (ev_cmp (dop_eq hr.units) (ev_call (ok_common_part T) (hr.mono (by decide)) pass_cx (ea_cons (ev_ix (ev_var 0) (ev_int)) (ea_cons (ev_ix (ev_var 0) (ev_int)) (ea_nil)))) (ev_int) (nomark _)))))))
theorem sc_value_of : FnScope ["value"] ["value"] (defScope s_value_of) := ⟨rfl, rfl, rfl, by decide +kernel, rfl, by decide +kernel, by decide +kernel⟩
theorem ok_value_of {P : Program} {w : World} {K : PySem.W.Frag} {mg : Str → Option Value} {base : Heap} (T : Say K mg) : FnE P w K mg base 2 "value_of" ["value"] F_value_of := by
  obtain ⟨fd, F⟩ := T.d_value_of
  exact fn_ok F sc_value_of T.g_value_of (fun _ _ _ _ _ _ us hl => match us, hl with | [_], _ => rfl) fun cdv A outer s H E hr =>
    ss_one (s_ret (ev_if (et_val (ev_call (ok_is_integer T) (hr.mono (by decide)) pass_cx (ea_cons (ev_var 0) (ea_nil)))) (ev_tup (ea_cons (ev_var 0) (ea_cons (ev_int) (ea_nil)))) (ev_var 0)))
theorem sc_are_marks : FnScope ["degree", "marks", "rows", "counts", "one", "row", "at", "many"] ["degree", "marks"] (defScope s_are_marks) := ⟨rfl, rfl, rfl, by decide +kernel, rfl, by decide +kernel, by decide +kernel⟩
theorem ok_are_marks {P : Program} {w : World} {K : PySem.W.Frag} {mg : Str → Option Value} {base : Heap} (T : Say K mg) : FnE P w K mg base 3 "are_marks" ["degree", "marks"] F_are_marks := by
  obtain ⟨fd, F⟩ := T.d_are_marks
  exact fn_ok F sc_are_marks T.g_are_marks (fun _ _ _ _ _ _ us hl => match us, hl with | [_, _], _ => rfl) fun cdv A outer s H E hr =>
    ss_cons (s_if ((ew_or (et_not (et_val (ev_call (ok_is_sequence T) (hr.mono (by decide)) pass_cx (ea_cons (ev_var 1) (ea_nil))))) (ew_or (et_cmp dop_le (ev_callB dc_len (T.m_len) (by decide +kernel) (ea_cons (ev_var 1) (ea_nil))) (ev_int) (nomark _)) (ew_or1 (et_not (et_val (ev_callB (dc_all rfl) (T.m_all) (by decide +kernel) (ea_cons (((lc_c (own := [("one", 4)]) (iv_seq (ev_var 1)) const_seq (blkOk_by (own := [("one", 4)]) (by kernel_rfl)) (fun _ _ _ _ _ => gv_name (i := 4) sc_are_marks.nd) (fun _ _ _ _ _ => eif_nil) (fun _ _ _ _ _ => ev_call (ok_is_value T) (hr.mono (by decide)) passL (ea_cons (ev_var 4) (ea_nil)))).en rfl sc_are_marks.nd).ev) (ea_nil)))))))).et) (ss_one (s_ret (ev_bl))) (ss_nil))
    (ss_cons (s_set (i := 2) (((lc_c (own := [("one", 4)]) (iv_seq (ev_var 1)) const_seq (blkOk_by (own := [("one", 4)]) (by kernel_rfl)) (fun _ _ _ _ _ => gv_name (i := 4) sc_are_marks.nd) (fun _ _ _ _ _ => eif_nil) (fun _ _ _ _ _ => ev_call (ok_value_of T) (hr.mono (by decide)) passL (ea_cons (ev_var 4) (ea_nil)))).en rfl sc_are_marks.nd).ev) sc_are_marks.nd)
    (ss_cons (s_if (et_val (ev_callB (dc_any rfl) (T.m_any) (by decide +kernel) (ea_cons (((lc_c (own := [("at", 6)]) (iv_range1 (T.m_range) (ea_cons (ev_op dop_sub (ev_callB dc_len (T.m_len) (by decide +kernel) (ea_cons (ev_var 2) (ea_nil))) (ev_int)) (ea_nil))) const_range1 (blkOk_by (own := [("at", 6)]) (by kernel_rfl)) (fun _ _ _ _ _ => gv_name (i := 6) sc_are_marks.nd) (fun _ _ _ _ _ => eif_nil) (fun _ _ _ _ _ => ev_call (ok_is_less T) (hr.mono (by decide)) passL (ea_cons (ev_ix (ev_var 2) (ev_op dop_add (ev_var 6) (ev_int))) (ea_cons (ev_ix (ev_var 2) (ev_var 6)) (ea_nil))))).en rfl sc_are_marks.nd).ev) (ea_nil)))) (ss_one (s_ret (ev_bl))) (ss_nil))
    (ss_cons ((lc_c (own := [("row", 5)]) (iv_seq (ev_var 2)) const_seq (blkOk_by (own := [("row", 5)]) (by kernel_rfl)) (fun _ _ _ _ _ => gv_name (i := 5) sc_are_marks.nd) (fun _ _ _ _ _ => eif_nil) (fun _ _ _ _ _ => ev_callB dc_len (T.m_len) (by decide +kernel) (ea_cons (((lc_c (own := [("one", 4)]) (iv_seq (ev_var 2)) const_seq (blkOk_by (own := [("one", 4)]) (by kernel_rfl)) (fun _ _ _ _ _ => gv_name (i := 4) sc_are_marks.nd) (fun _ _ _ _ _ => eif_one (et_cmp (dop_eq hr.units) (ev_var 4) (ev_var 5) (nomark _))) (fun _ _ _ _ _ => ev_var 4)).en rfl sc_are_marks.nd).ev) (ea_nil)))).set (i := 3) rfl sc_are_marks.nd (sw_true rfl rfl rfl (by kernel_rfl)))
    (ss_one (s_ret (ev_and (ev_cmp (dop_eq hr.units) (ev_ix (ev_var 3) (ev_int)) (ev_int) (nomark _)) (ev_and (ev_cmp (dop_eq hr.units) (ev_ix (ev_var 3) (ev_neg (ev_int))) (ev_int) (nomark _)) (ev_one (ev_callB (dc_all rfl) (T.m_all) (by decide +kernel) (ea_cons (((lc_c (own := [("many", 7)]) (iv_seq (ev_slice (ev_var 3) (eo_some (ev_int)) (eo_some (ev_neg (ev_int))))) const_seq (blkOk_by (own := [("many", 7)]) (by kernel_rfl)) (fun _ _ _ _ _ => gv_name (i := 7) sc_are_marks.nd) (fun _ _ _ _ _ => eif_nil) (fun _ _ _ _ _ => ev_cmp dop_le (ev_var 7) (ev_var 0) (nomark _))).en rfl sc_are_marks.nd).ev) (ea_nil)))))))))))
theorem sc_text_of : FnScope ["value"] ["value"] (defScope s_text_of) := ⟨rfl, rfl, rfl, by decide +kernel, rfl, by decide +kernel, by decide +kernel⟩
theorem ok_text_of {P : Program} {w : World} {K : PySem.W.Frag} {mg : Str → Option Value} {base : Heap} (T : Say K mg) : FnE P w K mg base 1 "text_of" ["value"] F_text_of := by
  obtain ⟨fd, F⟩ := T.d_text_of
  exact fn_ok F sc_text_of T.g_text_of (fun _ _ _ _ _ _ us hl => match us, hl with | [_], _ => rfl) fun cdv A outer s H E hr =>
    ss_one (s_ret (ev_if (et_cmp (dop_eq hr.units) (ev_ix (ev_var 0) (ev_int)) (ev_int) (nomark _)) (ev_callTy dc_str (T.m_str) (by decide +kernel) (ea_cons (ev_ix (ev_var 0) (ev_int)) (ea_nil))) (ev_joined (ej_cons (ev_fmt (ev_ix (ev_var 0) (ev_int))) (ej_cons (ev_str) (ej_cons (ev_fmt (ev_ix (ev_var 0) (ev_int))) (ej_nil)))))))
theorem sc_text_of_bend : FnScope ["degree", "marks", "handles", "here", "there", "one"] ["degree", "marks", "handles"] (defScope s_text_of_bend) := ⟨rfl, rfl, rfl, by decide +kernel, rfl, by decide +kernel, by decide +kernel⟩
theorem ok_text_of_bend {P : Program} {w : World} {K : PySem.W.Frag} {mg : Str → Option Value} {base : Heap} (T : Say K mg) : FnE P w K mg base 2 "text_of_bend" ["degree", "marks", "handles"] F_text_of_bend := by
  obtain ⟨fd, F⟩ := T.d_text_of_bend
  exact fn_ok F sc_text_of_bend T.g_text_of_bend (fun _ _ _ _ _ _ us hl => match us, hl with | [_, _, _], _ => rfl) fun cdv A outer s H E hr =>
    ss_cons (s_par2 (i := 3) (j := 4) rfl sc_text_of_bend.nd (ex_consP (((lc_c (own := [("one", 5)]) (iv_seq (ev_var 1)) const_seq (blkOk_by (own := [("one", 5)]) (by kernel_rfl)) (fun _ _ _ _ _ => gv_name (i := 5) sc_text_of_bend.nd) (fun _ _ _ _ _ => eif_nil) (fun _ _ _ _ _ => ev_call (ok_text_of T) (hr.mono (by decide)) passL (ea_cons (ev_var 5) (ea_nil)))).en rfl sc_text_of_bend.nd).ev) (ex_consP (((lc_c (own := [("one", 5)]) (iv_seq (ev_var 2)) const_seq (blkOk_by (own := [("one", 5)]) (by kernel_rfl)) (fun _ _ _ _ _ => gv_name (i := 5) sc_text_of_bend.nd) (fun _ _ _ _ _ => eif_nil) (fun _ _ _ _ _ => ev_call (ok_text_of T) (hr.mono (by decide)) passL (ea_cons (ev_var 5) (ea_nil)))).en rfl sc_text_of_bend.nd).ev) (ex_nil))))
    (ss_one (s_ret (ev_join (ev_str) ((en_lst (ea_cons (ev_str) (ea_cons (ev_callTy dc_str (T.m_str) (by decide +kernel) (ea_cons (ev_var 0) (ea_nil))) (ea_cons (ev_str) (ea_star (ev_var 3) (ea_cons (ev_str) (ea_star (ev_var 4) (ea_nil)))))))).ev))))
theorem sc_Bend_init : FnScope ["self", "degree", "marks", "handles", "one"] ["self", "degree", "marks", "handles"] (defScope s_Bend_init) := ⟨rfl, rfl, rfl, by decide +kernel, rfl, by decide +kernel, by decide +kernel⟩
theorem mk_Bend {P : Program} {w : World} {K : PySem.W.Frag} {mg : Str → Option Value} {base : Heap} (T : Say K mg) : MkE P w K mg base 4 "Bend" 3 I_Bend := by
  obtain ⟨fd, F⟩ := T.d_Bend_init
  exact init_ok F sc_Bend_init T.mk_Bend T.gc_Bend (fun _ _ _ _ _ _ us hl => match us, hl with | [_, _, _, _], _ => rfl) fun cdv A outer s H E hr =>
    so_if ((ew_or (et_not (et_val (ev_call (ok_is_integer T) (hr.mono (by decide)) pass_cx (ea_cons (ev_var 1) (ea_nil))))) (ew_or1 (et_cmp dop_lt (ev_var 1) (ev_int) (nomark _)))).et) (ss_one (s_raise (xc_InvalidBend T) (hr.mono (by decide)) rfl (takes_of rfl rfl rfl rfl) (ev_str))) (so_if (et_not (et_val (ev_call (ok_are_marks T) (hr.mono (by decide)) pass_cx (ea_cons (ev_var 1) (ea_cons (ev_var 2) (ea_nil)))))) (ss_one (s_raise (xc_InvalidBend T) (hr.mono (by decide)) rfl (takes_of rfl rfl rfl rfl) (ev_str))) (so_if ((ew_or (et_not (et_val (ev_call (ok_is_sequence T) (hr.mono (by decide)) pass_cx (ea_cons (ev_var 3) (ea_nil))))) (ew_or1 (et_not (et_val (ev_callB (dc_all rfl) (T.m_all) (by decide +kernel) (ea_cons (((lc_c (own := [("one", 4)]) (iv_seq (ev_var 3)) const_seq (blkOk_by (own := [("one", 4)]) (by kernel_rfl)) (fun _ _ _ _ _ => gv_name (i := 4) sc_Bend_init.nd) (fun _ _ _ _ _ => eif_nil) (fun _ _ _ _ _ => ev_call (ok_is_value T) (hr.mono (by decide)) passL (ea_cons (ev_var 4) (ea_nil)))).en rfl sc_Bend_init.nd).ev) (ea_nil))))))).et) (ss_one (s_raise (xc_InvalidBend T) (hr.mono (by decide)) rfl (takes_of rfl rfl rfl rfl) (ev_str))) (so_if (et_cmp (dop_ne hr.units) (ev_callB dc_len (T.m_len) (by decide +kernel) (ea_cons (ev_var 3) (ea_nil))) (ev_op dop_sub (ev_op dop_add (ev_var 1) (ev_callB dc_len (T.m_len) (by decide +kernel) (ea_cons (ev_var 2) (ea_nil)))) (ev_int)) (nomark _)) (ss_one (s_raise (xc_InvalidBend T) (hr.mono (by decide)) rfl (takes_of rfl rfl rfl rfl) (ev_str))) (so_put (evo_of (ev_var 1))
    (so_put (evo_of (ev_callTy dc_tuple (T.m_tuple) (by decide +kernel) (ea_cons (((lc_c (own := [("one", 4)]) (iv_seq (ev_var 2)) const_seq (blkOk_by (own := [("one", 4)]) (by kernel_rfl)) (fun _ _ _ _ _ => gv_name (i := 4) sc_Bend_init.nd) (fun _ _ _ _ _ => eif_nil) (fun _ _ _ _ _ => ev_call (ok_value_of T) (hr.mono (by decide)) passL (ea_cons (ev_var 4) (ea_nil)))).en rfl sc_Bend_init.nd).ev) (ea_nil))))
    (so_put (evo_of (ev_callTy dc_tuple (T.m_tuple) (by decide +kernel) (ea_cons (((lc_c (own := [("one", 4)]) (iv_seq (ev_var 3)) const_seq (blkOk_by (own := [("one", 4)]) (by kernel_rfl)) (fun _ _ _ _ _ => gv_name (i := 4) sc_Bend_init.nd) (fun _ _ _ _ _ => eif_nil) (fun _ _ _ _ _ => ev_call (ok_value_of T) (hr.mono (by decide)) passL (ea_cons (ev_var 4) (ea_nil)))).en rfl sc_Bend_init.nd).ev) (ea_nil))))
    (so_put (evo_call (ok_text_of_bend T) (hr.mono (by decide)) pass_cx (eao_cons (evo_of (ev_var 1)) (eao_cons (evo_fld (hc := T.cl_Bend) (hn := T.na_Bend_marks)) (eao_cons (evo_fld (hc := T.cl_Bend) (hn := T.na_Bend_handles)) (eao_nil)))))
    (so_nil) T.cl_Bend T.na_Bend_text) T.cl_Bend T.na_Bend_handles) T.cl_Bend T.na_Bend_marks) T.cl_Bend T.na_Bend_degree))))
theorem sc_Bend___len__ : FnScope ["self"] ["self"] (defScope s_Bend___len__) := ⟨rfl, rfl, rfl, by decide +kernel, rfl, by decide +kernel, by decide +kernel⟩
theorem me_Bend___len__ {P : Program} {w : World} {K : PySem.W.Frag} {mg : Str → Option Value} {base : Heap} (T : Say K mg) : MeE P w K mg base 1 "Bend" "__len__" 1 F_Bend___len__ := by
  obtain ⟨fd, F⟩ := T.d_Bend___len__
  exact meth_ok F sc_Bend___len__ T.cl_Bend T.me_Bend___len__ (fun _ _ _ _ _ _ us hl => match us, hl with | [_], _ => rfl) fun cdv A outer s H E hr =>
    ss_one (s_ret (ev_callB dc_len (T.m_len) (by decide +kernel) (ea_cons (ev_fld (ev_var 0) T.cl_Bend T.na_Bend_handles) (ea_nil))))
theorem sc_InvalidText_init : FnScope ["self", "at"] ["self", "at"] (defScope s_InvalidText_init) := ⟨rfl, rfl, rfl, by decide +kernel, rfl, by decide +kernel, by decide +kernel⟩
theorem xc_InvalidText {P : Program} {w : World} {K : PySem.W.Frag} {mg : Str → Option Value} {base : Heap} (T : Say K mg) : XcE P w K mg base 1 "InvalidText" "at" := by
  obtain ⟨fd, F⟩ := T.d_InvalidText_init
  exact exc_ok F sc_InvalidText_init T.xf_InvalidText T.gc_InvalidText (fun _ _ _ _ _ _ us hl => match us, hl with | [_, _], _ => rfl) fun cdv A outer s H E => exc_suite rfl rfl (by first | exact Or.inl rfl | exact Or.inr (Or.inl rfl) | exact Or.inr (Or.inr rfl)) (by first | exact Or.inl rfl | exact Or.inr (Or.inl rfl) | exact Or.inr (Or.inr rfl)) rfl T.gc_BendError T.bot_BendError T.xf_InvalidText.o T.xf_InvalidText.n (by decide) (by decide) (by decide) rfl rfl rfl
theorem sc_number_in_v70a5 : FnScope ["word", "sign"] ["word"] (defScope s_number_in_v70a5) := ⟨rfl, rfl, rfl, by decide +kernel, rfl, by decide +kernel, by decide +kernel⟩
theorem ok_number_in_v70a5 {P : Program} {w : World} {K : PySem.W.Frag} {mg : Str → Option Value} {base : Heap} (T : Say K mg) : FnE P w K mg base 1 "number_in" ["word"] F_number_in_v70a5 := by
  obtain ⟨fd, F⟩ := T.d_number_in_v70a5
  exact fn_ok F sc_number_in_v70a5 T.g_number_in_v70a5 (fun _ _ _ _ _ _ us hl => match us, hl with | [_], _ => rfl) fun cdv A outer s H E hr =>
    ss_cons (s_if ((ew_or (et_not (et_chain dop_le dop_le (ev_int) (ev_callB dc_len (T.m_len) (by decide +kernel) (ea_cons (ev_var 0) (ea_nil))) (ev_glob T.c_MOST_DIGITS_values))) (ew_or1 (et_not (et_val (ev_callB (dc_all rfl) (T.m_all) (by decide +kernel) (ea_cons (((lc_c (own := [("sign", 1)]) (iv_signs (ev_var 0)) const_signs (blkOk_by (own := [("sign", 1)]) (by kernel_rfl)) (fun _ _ _ _ _ => gv_name (i := 1) sc_number_in_v70a5.nd) (fun _ _ _ _ _ => eif_nil) (fun _ _ _ _ _ => ev_cmp (dop_inT (hu65 hr)) (ev_var 1) (ev_glob T.c_DIGITS) (by rfl))).en rfl sc_number_in_v70a5.nd).ev) (ea_nil))))))).et) (ss_one (s_ret (ev_non))) (ss_nil))
    (ss_one (s_ret (ev_if ((ew_or (et_cmp (dop_eq hr.units) (ev_var 0) (ev_str) (nomark _)) (ew_or1 (et_cmp (dop_ne hr.units) (ev_ix (ev_var 0) (ev_int)) (ev_str) (nomark _)))).et) (ev_callTy dc_intS (T.m_int) (by decide +kernel) (ea_cons (ev_var 0) (ea_nil))) (ev_non))))
theorem sc_value_in_vdbf8 : FnScope ["word", "is_below", "parts", "numbers", "top", "part"] ["word"] (defScope s_value_in_vdbf8) := ⟨rfl, rfl, rfl, by decide +kernel, rfl, by decide +kernel, by decide +kernel⟩
theorem ok_value_in_vdbf8 {P : Program} {w : World} {K : PySem.W.Frag} {mg : Str → Option Value} {base : Heap} (T : Say K mg) : FnE P w K mg base 2 "value_in" ["word"] F_value_in_vdbf8 := by
  obtain ⟨fd, F⟩ := T.d_value_in_vdbf8
  exact fn_ok F sc_value_in_vdbf8 T.g_value_in_vdbf8 (fun _ _ _ _ _ _ us hl => match us, hl with | [_], _ => rfl) fun cdv A outer s H E hr =>
    ss_cons (s_set (i := 1) (ev_cmp (dop_eq hr.units) (ev_slice (ev_var 0) (eo_none) (eo_some (ev_int))) (ev_str) (nomark _)) sc_value_in_vdbf8.nd)
    (ss_cons (s_set (i := 2) (ev_split (ev_slice (ev_var 0) (eo_some (ev_callTy dc_int (T.m_int) (by decide +kernel) (ea_cons (ev_var 1) (ea_nil)))) (eo_none)) (ev_str)) sc_value_in_vdbf8.nd)
    (ss_cons ((lc_c (own := [("part", 5)]) (iv_seq (ev_var 2)) const_seq (blkOk_by (own := [("part", 5)]) (by kernel_rfl)) (fun _ _ _ _ _ => gv_name (i := 5) sc_value_in_vdbf8.nd) (fun _ _ _ _ _ => eif_nil) (fun _ _ _ _ _ => ev_call (ok_number_in_v70a5 T) (hr.mono (by decide)) passL (ea_cons (ev_var 5) (ea_nil)))).set (i := 3) rfl sc_value_in_vdbf8.nd (sw_true rfl rfl rfl (by kernel_rfl)))
    (ss_cons (s_if ((ew_or (et_cmp dop_gt (ev_callB dc_len (T.m_len) (by decide +kernel) (ea_cons (ev_var 2) (ea_nil))) (ev_glob T.c_PAIR) (nomark _)) (ew_or (et_cmp (dop_inT (hu65 hr)) (ev_non) (ev_var 3) (by rfl)) (ew_or1 ((ew_and (et_val (ev_var 1)) (ew_and1 (et_cmp (dop_eq hr.units) (ev_ix (ev_var 3) (ev_int)) (ev_int) (nomark _)))).et)))).et) (ss_one (s_ret (ev_non))) (ss_nil))
    (ss_cons (s_if ((ew_and (et_cmp (dop_eq hr.units) (ev_callB dc_len (T.m_len) (by decide +kernel) (ea_cons (ev_var 2) (ea_nil))) (ev_glob T.c_PAIR) (nomark _)) (ew_and1 ((ew_or (et_cmp dop_le (ev_ix (ev_var 3) (ev_int)) (ev_int) (nomark _)) (ew_or1 (et_cmp (dop_ne hr.units) (ev_call (ok_common_part T) (hr.mono (by decide)) pass_cx (ea_cons (ev_ix (ev_var 3) (ev_int)) (ea_cons (ev_ix (ev_var 3) (ev_int)) (ea_nil)))) (ev_int) (nomark _)))).et))).et) (ss_one (s_ret (ev_non))) (ss_nil))
    (ss_cons (s_set (i := 4) (ev_if (et_val (ev_var 1)) (ev_neg (ev_ix (ev_var 3) (ev_int))) (ev_ix (ev_var 3) (ev_int))) sc_value_in_vdbf8.nd)
    (ss_one (s_ret (ev_if (et_cmp (dop_eq hr.units) (ev_callB dc_len (T.m_len) (by decide +kernel) (ea_cons (ev_var 2) (ea_nil))) (ev_glob T.c_PAIR) (nomark _)) (ev_tup (ea_cons (ev_var 4) (ea_cons (ev_ix (ev_var 3) (ev_neg (ev_int))) (ea_nil)))) (ev_tup (ea_cons (ev_var 4) (ea_cons (ev_int) (ea_nil))))))))))))
theorem sc_values_in_v091a : FnScope ["words", "found", "word"] ["words"] (defScope s_values_in_v091a) := ⟨rfl, rfl, rfl, by decide +kernel, rfl, by decide +kernel, by decide +kernel⟩
theorem ok_values_in_v091a {P : Program} {w : World} {K : PySem.W.Frag} {mg : Str → Option Value} {base : Heap} (T : Say K mg) : FnE P w K mg base 3 "values_in" ["words"] F_values_in_v091a := by
  obtain ⟨fd, F⟩ := T.d_values_in_v091a
  exact fn_ok F sc_values_in_v091a T.g_values_in_v091a (fun _ _ _ _ _ _ us hl => match us, hl with | [_], _ => rfl) fun cdv A outer s H E hr =>
    ss_cons ((lc_c (own := [("word", 2)]) (iv_seq (ev_var 0)) const_seq (blkOk_by (own := [("word", 2)]) (by kernel_rfl)) (fun _ _ _ _ _ => gv_name (i := 2) sc_values_in_v091a.nd) (fun _ _ _ _ _ => eif_nil) (fun _ _ _ _ _ => ev_call (ok_value_in_vdbf8 T) (hr.mono (by decide)) passL (ea_cons (ev_var 2) (ea_nil)))).set (i := 1) rfl sc_values_in_v091a.nd (sw_true rfl rfl rfl (by kernel_rfl)))
    (ss_one (s_ret (ev_if (et_cmp (dop_inT (hu65 hr)) (ev_non) (ev_var 1) (by rfl)) (ev_non) (ev_var 1))))
theorem sc_rows_in_vbcc3 : FnScope ["text", "words", "at", "degrees", "marks", "handles"] ["text"] (defScope s_rows_in_vbcc3) := ⟨rfl, rfl, rfl, by decide +kernel, rfl, by decide +kernel, by decide +kernel⟩
theorem ok_rows_in_vbcc3 {P : Program} {w : World} {K : PySem.W.Frag} {mg : Str → Option Value} {base : Heap} (T : Say K mg) : FnE P w K mg base 4 "rows_in" ["text"] F_rows_in_vbcc3 := by
  obtain ⟨fd, F⟩ := T.d_rows_in_vbcc3
  exact fn_ok F sc_rows_in_vbcc3 T.g_rows_in_vbcc3 (fun _ _ _ _ _ _ us hl => match us, hl with | [_], _ => rfl) fun cdv A outer s H E hr =>
    ss_cons (s_set (i := 1) (ev_if (et_val (ev_isi tab_str (ev_var 0) (T.m_isinstance) (T.m_str) (by decide +kernel))) (ev_split (ev_var 0) (ev_str)) ((en_lst (ea_nil)).ev)) sc_rows_in_vbcc3.nd)
    (ss_cons (s_if ((ew_or (et_cmp (dop_ne hr.units) (ev_slice (ev_var 1) (eo_none) (eo_some (ev_int))) ((en_lst (ea_cons (ev_str) (ea_nil))).ev) (nomark _)) (ew_or (et_cmp (dop_ne hr.units) (ev_slice (ev_var 1) (eo_some (ev_int)) (eo_some (ev_int))) ((en_lst (ea_cons (ev_str) (ea_nil))).ev) (nomark _)) (ew_or1 (et_cmp (dop_ne hr.units) (ev_cntL (ev_var 1) (ev_str) (hu65 hr)) (ev_int) (nomark _))))).et) (ss_one (s_ret (ev_non))) (ss_nil))
    (ss_cons (s_set (i := 2) (ev_idxL (ev_var 1) (ev_str) (hu65 hr)) sc_rows_in_vbcc3.nd)
    (ss_cons (s_par3 (i := 3) (j := 4) (l := 5) rfl sc_rows_in_vbcc3.nd (ex_consP (ev_call (ok_values_in_v091a T) (hr.mono (by decide)) pass_cx (ea_cons (ev_slice (ev_var 1) (eo_some (ev_int)) (eo_some (ev_int))) (ea_nil))) (ex_consP (ev_call (ok_values_in_v091a T) (hr.mono (by decide)) pass_cx (ea_cons (ev_slice (ev_var 1) (eo_some (ev_int)) (eo_some (ev_var 2))) (ea_nil))) (ex_consP (ev_call (ok_values_in_v091a T) (hr.mono (by decide)) pass_cx (ea_cons (ev_slice (ev_var 1) (eo_some (ev_op dop_add (ev_var 2) (ev_int))) (eo_none)) (ea_nil))) (ex_nil)))))
    (ss_cons (s_if ((ew_or (et_cmp dop_is (ev_var 3) (ev_non) (nomark _)) (ew_or (et_cmp dop_is (ev_var 4) (ev_non) (nomark _)) (ew_or (et_cmp dop_is (ev_var 5) (ev_non) (nomark _)) (ew_or (et_cmp (dop_eq hr.units) (ev_callB dc_len (T.m_len) (by decide +kernel) (ea_cons (ev_var 4) (ea_nil))) (ev_int) (nomark _)) (ew_or1 (et_cmp (dop_eq hr.units) (ev_callB dc_len (T.m_len) (by decide +kernel) (ea_cons (ev_var 5) (ea_nil))) (ev_int) (nomark _))))))).et) (ss_one (s_ret (ev_non))) (ss_nil))
    (ss_cons (s_if ((ew_or (et_cmp (dop_ne hr.units) (ev_ix (ev_ix (ev_var 3) (ev_int)) (ev_int)) (ev_int) (nomark _)) (ew_or1 (et_cmp dop_lt (ev_ix (ev_ix (ev_var 3) (ev_int)) (ev_int)) (ev_int) (nomark _)))).et) (ss_one (s_ret (ev_non))) (ss_nil))
    (ss_one (s_ret (ev_tup (ea_cons (ev_ix (ev_ix (ev_var 3) (ev_int)) (ev_int)) (ea_cons (ev_var 4) (ea_cons (ev_var 5) (ea_nil))))))))))))
theorem sc_Bend_read_o : FnScope ["cls", "text", "rows"] ["cls", "text"] (defScope s_Bend_read_o) := ⟨rfl, rfl, rfl, by decide +kernel, rfl, by decide +kernel, by decide +kernel⟩
theorem cme_Bend_read_o {P : Program} {w : World} {K : PySem.W.Frag} {mg : Str → Option Value} {base : Heap} (T : Say K mg) : CmE P w K mg base 6 "Bend" "read" 2 F_Bend_read_o := by
  obtain ⟨fd, F⟩ := T.d_Bend_read_o
  exact cls_ok F sc_Bend_read_o T.cr_Bend T.cm_Bend_read_o T.gc_Bend (fun _ _ _ _ _ _ us hl => match us, hl with | [_, _], _ => rfl) fun cdv A outer s H E hr =>
    ss_cons (s_set (i := 2) (ev_call (ok_rows_in_vbcc3 T) (hr.mono (by decide)) pass_cx (ea_cons (ev_var 1) (ea_nil))) sc_Bend_read_o.nd)
    (ss_cons (s_if (et_cmp dop_is (ev_var 2) (ev_non) (nomark _)) (ss_one (s_raise (xc_InvalidText T) (hr.mono (by decide)) rfl (takes_of rfl rfl rfl rfl) (ev_int))) (ss_nil))
    (ss_one (s_ret (ev_mkSl (i := 0) (mk_Bend T) (hr.mono (by decide)) pass_cx (ea_cons (ev_ix (ev_var 2) (ev_int)) (ea_cons (ev_ix (ev_var 2) (ev_int)) (ea_cons (ev_ix (ev_var 2) (ev_int)) (ea_nil))))))))
theorem sc_Bend___str__ : FnScope ["self"] ["self"] (defScope s_Bend___str__) := ⟨rfl, rfl, rfl, by decide +kernel, rfl, by decide +kernel, by decide +kernel⟩
theorem me_Bend___str__ {P : Program} {w : World} {K : PySem.W.Frag} {mg : Str → Option Value} {base : Heap} (T : Say K mg) : MeE P w K mg base 1 "Bend" "__str__" 1 F_Bend___str__ := by
  obtain ⟨fd, F⟩ := T.d_Bend___str__
  exact meth_ok F sc_Bend___str__ T.cl_Bend T.me_Bend___str__ (fun _ _ _ _ _ _ us hl => match us, hl with | [_], _ => rfl) fun cdv A outer s H E hr =>
    ss_one (s_ret (ev_joined1 (ev_fmt (ev_fld (ev_var 0) T.cl_Bend T.na_Bend_text))))
theorem sc_Live_bend : FnScope ["self"] ["self"] (defScope s_Live_bend) := ⟨rfl, rfl, rfl, by decide +kernel, rfl, by decide +kernel, by decide +kernel⟩
theorem prf_Live_bend {P : Program} {w : World} {K : PySem.W.Frag} {mg : Str → Option Value} {base : Heap} (T : Say K mg) : PrF P w K mg base 1 "Live" "bend" "now" := by
  obtain ⟨fd, F⟩ := T.d_Live_bend
  exact prf_ok F sc_Live_bend T.cl_Live T.pr_Live_bend T.na_Live_now (fun _ _ _ _ _ _ us hl => match us, hl with | [_], _ => rfl) ⟨_, _, _, rfl⟩
theorem sc_Live_signs : FnScope ["self"] ["self"] (defScope s_Live_signs) := ⟨rfl, rfl, rfl, by decide +kernel, rfl, by decide +kernel, by decide +kernel⟩
theorem prf_Live_signs {P : Program} {w : World} {K : PySem.W.Frag} {mg : Str → Option Value} {base : Heap} (T : Say K mg) : PrF P w K mg base 1 "Live" "signs" "row" := by
  obtain ⟨fd, F⟩ := T.d_Live_signs
  exact prf_ok F sc_Live_signs T.cl_Live T.pr_Live_signs T.na_Live_row (fun _ _ _ _ _ _ us hl => match us, hl with | [_], _ => rfl) ⟨_, _, _, rfl⟩
theorem sc_knots_of : FnScope ["degree", "marks", "rows", "one", "k"] ["degree", "marks"] (defScope s_knots_of) := ⟨rfl, rfl, rfl, by decide +kernel, rfl, by decide +kernel, by decide +kernel⟩
theorem ok_knots_of {P : Program} {w : World} {K : PySem.W.Frag} {mg : Str → Option Value} {base : Heap} (T : Say K mg) : FnE P w K mg base 3 "knots_of" ["degree", "marks"] F_knots_of := by
  obtain ⟨fd, F⟩ := T.d_knots_of
  exact fn_ok F sc_knots_of T.g_knots_of (fun _ _ _ _ _ _ us hl => match us, hl with | [_, _], _ => rfl) fun cdv A outer s H E hr =>
    ss_cons (s_set (i := 2) (((lc_c (own := [("one", 3)]) (iv_seq (ev_var 1)) const_seq (blkOk_by (own := [("one", 3)]) (by kernel_rfl)) (fun _ _ _ _ _ => gv_name (i := 3) sc_knots_of.nd) (fun _ _ _ _ _ => eif_nil) (fun _ _ _ _ _ => ev_call (ok_value_of T) (hr.mono (by decide)) passL (ea_cons (ev_var 3) (ea_nil)))).en rfl sc_knots_of.nd).ev) sc_knots_of.nd)
    (ss_one (s_ret (ev_tup (ea_star (((lc_c (own := [("k", 4)]) (iv_range1 (T.m_range) (ea_cons (ev_var 0) (ea_nil))) const_range1 (blkOk_by (own := [("k", 4)]) (by kernel_rfl)) (fun _ _ _ _ _ => gv_name (i := 4) sc_knots_of.nd) (fun _ _ _ _ _ => eif_nil) (fun _ _ _ _ _ => ev_ix (ev_var 2) (ev_int))).en rfl sc_knots_of.nd).ev) (ea_star (ev_var 2) (ea_star (((lc_c (own := [("k", 4)]) (iv_range1 (T.m_range) (ea_cons (ev_var 0) (ea_nil))) const_range1 (blkOk_by (own := [("k", 4)]) (by kernel_rfl)) (fun _ _ _ _ _ => gv_name (i := 4) sc_knots_of.nd) (fun _ _ _ _ _ => eif_nil) (fun _ _ _ _ _ => ev_ix (ev_var 2) (ev_neg (ev_int)))).en rfl sc_knots_of.nd).ev) (ea_nil)))))))
theorem sc_Piece_init : FnScope ["self", "start", "end", "poly"] ["self", "start", "end", "poly"] (defScope s_Piece_init) := ⟨rfl, rfl, rfl, by decide +kernel, rfl, by decide +kernel, by decide +kernel⟩
theorem mk_Piece {P : Program} {w : World} {K : PySem.W.Frag} {mg : Str → Option Value} {base : Heap} (T : Say K mg) : MkE P w K mg base 1 "Piece" 3 I_Piece := by
  obtain ⟨fd, F⟩ := T.d_Piece_init
  exact init_ok F sc_Piece_init T.mk_Piece T.gc_Piece (fun _ _ _ _ _ _ us hl => match us, hl with | [_, _, _, _], _ => rfl) fun cdv A outer s H E hr =>
    so_put (evo_of (ev_var 1))
    (so_put (evo_of (ev_var 2))
    (so_put (evo_of (ev_var 3))
    (so_nil) T.cl_Piece T.na_Piece_poly) T.cl_Piece T.na_Piece_end) T.cl_Piece T.na_Piece_start
theorem sc_in_lowest : FnScope ["top", "bottom", "part"] ["top", "bottom"] (defScope s_in_lowest) := ⟨rfl, rfl, rfl, by decide +kernel, rfl, by decide +kernel, by decide +kernel⟩
theorem ok_in_lowest {P : Program} {w : World} {K : PySem.W.Frag} {mg : Str → Option Value} {base : Heap} (T : Say K mg) : FnE P w K mg base 2 "in_lowest" ["top", "bottom"] F_in_lowest := by
  obtain ⟨fd, F⟩ := T.d_in_lowest
  exact FnE.by (F := guard 2 (runF 3 g_in_lowest)) (fn_ok F sc_in_lowest T.g_in_lowest (fun _ _ _ _ _ _ us hl => match us, hl with | [_, _], _ => rfl) fun cdv A outer s H E hr =>
    ss_cons (s_set (i := 2) (ev_call (ok_common_part T) (hr.mono (by decide)) pass_cx (ea_cons (ev_var 0) (ea_cons (ev_var 1) (ea_nil)))) sc_in_lowest.nd)
    (ss_one (s_ret (ev_if (et_cmp dop_gt (ev_var 1) (ev_int) (nomark _)) (ev_tup (ea_cons (ev_op dop_fdiv (ev_var 0) (ev_var 2)) (ea_cons (ev_op dop_fdiv (ev_var 1) (ev_var 2)) (ea_nil)))) (ev_tup (ea_cons (ev_op dop_fdiv (ev_neg (ev_var 0)) (ev_var 2)) (ea_cons (ev_op dop_fdiv (ev_neg (ev_var 1)) (ev_var 2)) (ea_nil)))))))) mir_in_lowest
theorem sc_less_by : FnScope ["one", "other"] ["one", "other"] (defScope s_less_by) := ⟨rfl, rfl, rfl, by decide +kernel, rfl, by decide +kernel, by decide +kernel⟩
theorem ok_less_by {P : Program} {w : World} {K : PySem.W.Frag} {mg : Str → Option Value} {base : Heap} (T : Say K mg) : FnE P w K mg base 3 "less_by" ["one", "other"] F_less_by := by
  obtain ⟨fd, F⟩ := T.d_less_by
  exact FnE.by (F := guard 2 (runF 2 g_less_by)) (fn_ok F sc_less_by T.g_less_by (fun _ _ _ _ _ _ us hl => match us, hl with | [_, _], _ => rfl) fun cdv A outer s H E hr =>
    ss_one (s_ret (ev_call (ok_in_lowest T) (hr.mono (by decide)) pass_cx (ea_cons (ev_op dop_sub (ev_op dop_mul (ev_ix (ev_var 0) (ev_int)) (ev_ix (ev_var 1) (ev_int))) (ev_op dop_mul (ev_ix (ev_var 1) (ev_int)) (ev_ix (ev_var 0) (ev_int)))) (ea_cons (ev_op dop_mul (ev_ix (ev_var 0) (ev_int)) (ev_ix (ev_var 1) (ev_int))) (ea_nil)))))) mir_less_by
theorem sc_power_at : FnScope ["poly", "k"] ["poly", "k"] (defScope s_power_at) := ⟨rfl, rfl, rfl, by decide +kernel, rfl, by decide +kernel, by decide +kernel⟩
theorem ok_power_at {P : Program} {w : World} {K : PySem.W.Frag} {mg : Str → Option Value} {base : Heap} (T : Say K mg) : FnE P w K mg base 1 "power_at" ["poly", "k"] F_power_at := by
  obtain ⟨fd, F⟩ := T.d_power_at
  exact fn_ok F sc_power_at T.g_power_at (fun _ _ _ _ _ _ us hl => match us, hl with | [_, _], _ => rfl) fun cdv A outer s H E hr =>
    ss_one (s_ret (ev_if (et_cmp dop_lt (ev_var 1) (ev_callB dc_len (T.m_len) (by decide +kernel) (ea_cons (ev_var 0) (ea_nil))) (nomark _)) (ev_ix (ev_var 0) (ev_var 1)) (ev_glob T.c_NOUGHT)))
theorem sc_trimmed : FnScope ["powers", "size"] ["powers"] (defScope s_trimmed) := ⟨rfl, rfl, rfl, by decide +kernel, rfl, by decide +kernel, by decide +kernel⟩
theorem ok_trimmed {P : Program} {w : World} {K : PySem.W.Frag} {mg : Str → Option Value} {base : Heap} (T : Say K mg) : FnE P w K mg base 1 "trimmed" ["powers"] F_trimmed := by
  obtain ⟨fd, F⟩ := T.d_trimmed
  exact fn_ok F sc_trimmed T.g_trimmed (fun _ _ _ _ _ _ us hl => match us, hl with | [_], _ => rfl) fun cdv A outer s H E hr =>
    ss_cons (s_set (i := 1) (ev_callB dc_len (T.m_len) (by decide +kernel) (ea_cons (ev_var 0) (ea_nil))) sc_trimmed.nd)
    (ss_cons (s_while (fun _ => 4000) pass_own ((ew_and (et_cmp dop_gt (ev_var 1) (ev_int) (nomark _)) (ew_and1 (et_cmp (dop_eq hr.units) (ev_ix (ev_var 0) (ev_op dop_sub (ev_var 1) (ev_int))) (ev_glob T.c_NOUGHT) (nomark _)))).et) (ss_one (s_aug (i := 1) ip_sub sc_trimmed.nd (ev_int))))
    (ss_one (s_ret (ev_callTy dc_tuple (T.m_tuple) (by decide +kernel) (ea_cons (ev_slice (ev_var 0) (eo_none) (eo_some (ev_var 1))) (ea_nil))))))
theorem sc_poly_less : FnScope ["one", "other", "k"] ["one", "other"] (defScope s_poly_less) := ⟨rfl, rfl, rfl, by decide +kernel, rfl, by decide +kernel, by decide +kernel⟩
theorem ok_poly_less {P : Program} {w : World} {K : PySem.W.Frag} {mg : Str → Option Value} {base : Heap} (T : Say K mg) : FnE P w K mg base 4 "poly_less" ["one", "other"] F_poly_less := by
  obtain ⟨fd, F⟩ := T.d_poly_less
  exact fn_ok F sc_poly_less T.g_poly_less (fun _ _ _ _ _ _ us hl => match us, hl with | [_, _], _ => rfl) fun cdv A outer s H E hr =>
    ss_one (s_ret (ev_call (ok_trimmed T) (hr.mono (by decide)) pass_cx (ea_cons (((lc_c (own := [("k", 2)]) (iv_range1 (T.m_range) (ea_cons (ev_callB (dc_max rfl) (T.m_max) (by decide +kernel) (ea_cons (ev_callB dc_len (T.m_len) (by decide +kernel) (ea_cons (ev_var 0) (ea_nil))) (ea_cons (ev_callB dc_len (T.m_len) (by decide +kernel) (ea_cons (ev_var 1) (ea_nil))) (ea_nil)))) (ea_nil))) const_range1 (blkOk_by (own := [("k", 2)]) (by kernel_rfl)) (fun _ _ _ _ _ => gv_name (i := 2) sc_poly_less.nd) (fun _ _ _ _ _ => eif_nil) (fun _ _ _ _ _ => ev_call (ok_less_by T) (hr.mono (by decide)) passL (ea_cons (ev_call (ok_power_at T) (hr.mono (by decide)) passL (ea_cons (ev_var 0) (ea_cons (ev_var 2) (ea_nil)))) (ea_cons (ev_call (ok_power_at T) (hr.mono (by decide)) passL (ea_cons (ev_var 1) (ea_cons (ev_var 2) (ea_nil)))) (ea_nil))))).en rfl sc_poly_less.nd).ev) (ea_nil))))
theorem sc_added : FnScope ["one", "other"] ["one", "other"] (defScope s_added) := ⟨rfl, rfl, rfl, by decide +kernel, rfl, by decide +kernel, by decide +kernel⟩
theorem ok_added {P : Program} {w : World} {K : PySem.W.Frag} {mg : Str → Option Value} {base : Heap} (T : Say K mg) : FnE P w K mg base 3 "added" ["one", "other"] F_added := by
  obtain ⟨fd, F⟩ := T.d_added
  exact FnE.by (F := guard 2 (runF 2 g_added)) (fn_ok F sc_added T.g_added (fun _ _ _ _ _ _ us hl => match us, hl with | [_, _], _ => rfl) fun cdv A outer s H E hr =>
    ss_one (s_ret (ev_call (ok_in_lowest T) (hr.mono (by decide)) pass_cx (ea_cons (ev_op dop_add (ev_op dop_mul (ev_ix (ev_var 0) (ev_int)) (ev_ix (ev_var 1) (ev_int))) (ev_op dop_mul (ev_ix (ev_var 1) (ev_int)) (ev_ix (ev_var 0) (ev_int)))) (ea_cons (ev_op dop_mul (ev_ix (ev_var 0) (ev_int)) (ev_ix (ev_var 1) (ev_int))) (ea_nil)))))) mir_added
theorem sc_poly_sum : FnScope ["one", "other", "k"] ["one", "other"] (defScope s_poly_sum) := ⟨rfl, rfl, rfl, by decide +kernel, rfl, by decide +kernel, by decide +kernel⟩
theorem ok_poly_sum {P : Program} {w : World} {K : PySem.W.Frag} {mg : Str → Option Value} {base : Heap} (T : Say K mg) : FnE P w K mg base 4 "poly_sum" ["one", "other"] F_poly_sum := by
  obtain ⟨fd, F⟩ := T.d_poly_sum
  exact fn_ok F sc_poly_sum T.g_poly_sum (fun _ _ _ _ _ _ us hl => match us, hl with | [_, _], _ => rfl) fun cdv A outer s H E hr =>
    ss_one (s_ret (ev_call (ok_trimmed T) (hr.mono (by decide)) pass_cx (ea_cons (((lc_c (own := [("k", 2)]) (iv_range1 (T.m_range) (ea_cons (ev_callB (dc_max rfl) (T.m_max) (by decide +kernel) (ea_cons (ev_callB dc_len (T.m_len) (by decide +kernel) (ea_cons (ev_var 0) (ea_nil))) (ea_cons (ev_callB dc_len (T.m_len) (by decide +kernel) (ea_cons (ev_var 1) (ea_nil))) (ea_nil)))) (ea_nil))) const_range1 (blkOk_by (own := [("k", 2)]) (by kernel_rfl)) (fun _ _ _ _ _ => gv_name (i := 2) sc_poly_sum.nd) (fun _ _ _ _ _ => eif_nil) (fun _ _ _ _ _ => ev_call (ok_added T) (hr.mono (by decide)) passL (ea_cons (ev_call (ok_power_at T) (hr.mono (by decide)) passL (ea_cons (ev_var 0) (ea_cons (ev_var 2) (ea_nil)))) (ea_cons (ev_call (ok_power_at T) (hr.mono (by decide)) passL (ea_cons (ev_var 1) (ea_cons (ev_var 2) (ea_nil)))) (ea_nil))))).en rfl sc_poly_sum.nd).ev) (ea_nil))))
theorem sc_multiplied : FnScope ["one", "other"] ["one", "other"] (defScope s_multiplied) := ⟨rfl, rfl, rfl, by decide +kernel, rfl, by decide +kernel, by decide +kernel⟩
theorem ok_multiplied {P : Program} {w : World} {K : PySem.W.Frag} {mg : Str → Option Value} {base : Heap} (T : Say K mg) : FnE P w K mg base 3 "multiplied" ["one", "other"] F_multiplied := by
  obtain ⟨fd, F⟩ := T.d_multiplied
  exact FnE.by (F := guard 2 (runF 2 g_multiplied)) (fn_ok F sc_multiplied T.g_multiplied (fun _ _ _ _ _ _ us hl => match us, hl with | [_, _], _ => rfl) fun cdv A outer s H E hr =>
    ss_one (s_ret (ev_call (ok_in_lowest T) (hr.mono (by decide)) pass_cx (ea_cons (ev_op dop_mul (ev_ix (ev_var 0) (ev_int)) (ev_ix (ev_var 1) (ev_int))) (ea_cons (ev_op dop_mul (ev_ix (ev_var 0) (ev_int)) (ev_ix (ev_var 1) (ev_int))) (ea_nil)))))) mir_multiplied
theorem sc_poly_times : FnScope ["one", "other", "found", "at", "here", "k", "spot", "there"] ["one", "other"] (defScope s_poly_times) := ⟨rfl, rfl, rfl, by decide +kernel, rfl, by decide +kernel, by decide +kernel⟩
theorem ok_poly_times {P : Program} {w : World} {K : PySem.W.Frag} {mg : Str → Option Value} {base : Heap} (T : Say K mg) : FnE P w K mg base 4 "poly_times" ["one", "other"] F_poly_times := by
  obtain ⟨fd, F⟩ := T.d_poly_times
  exact fn_ok F sc_poly_times T.g_poly_times (fun _ _ _ _ _ _ us hl => match us, hl with | [_, _], _ => rfl) fun cdv A outer s H E hr =>
    ss_cons ((lc_c (own := [("k", 5)]) (iv_range1 (T.m_range) (ea_cons (ev_op dop_add (ev_callB dc_len (T.m_len) (by decide +kernel) (ea_cons (ev_var 0) (ea_nil))) (ev_callB dc_len (T.m_len) (by decide +kernel) (ea_cons (ev_var 1) (ea_nil)))) (ea_nil))) const_range1 (blkOk_by (own := [("k", 5)]) (by kernel_rfl)) (fun _ _ _ _ _ => gv_name (i := 5) sc_poly_times.nd) (fun _ _ _ _ _ => eif_nil) (fun _ _ _ _ _ => ev_glob T.c_NOUGHT)).own (i := 2) rfl sc_poly_times.nd (sw_true rfl rfl rfl (by kernel_rfl)))
    (ss_cons (s_for pass_own rfl (iv_enum (T.m_enumerate) (ev_var 0)) const_enum (gv_tup rfl (gvs_cons (gv_name (i := 3) sc_poly_times.nd) (gvs_cons (gv_name (i := 4) sc_poly_times.nd) (gvs_nil)))) (ss_one (s_for pass_own rfl (iv_enum (T.m_enumerate) (ev_var 1)) const_enum (gv_tup rfl (gvs_cons (gv_name (i := 6) sc_poly_times.nd) (gvs_cons (gv_name (i := 7) sc_poly_times.nd) (gvs_nil)))) (ss_one (s_put (i := 2) (ev_call (ok_added T) (hr.mono (by decide)) pass_cx (ea_cons (ev_ixO (i := 2) (ev_op dop_add (ev_var 3) (ev_var 6))) (ea_cons (ev_call (ok_multiplied T) (hr.mono (by decide)) pass_cx (ea_cons (ev_var 4) (ea_cons (ev_var 7) (ea_nil)))) (ea_nil)))) (ev_op dop_add (ev_var 3) (ev_var 6)))))))
    (ss_one (s_ret (ev_call (ok_trimmed T) (hr.mono (by decide)) pass_cx (ea_cons (ev_var 2) (ea_nil))))))
theorem sc_quotient : FnScope ["one", "other"] ["one", "other"] (defScope s_quotient) := ⟨rfl, rfl, rfl, by decide +kernel, rfl, by decide +kernel, by decide +kernel⟩
theorem ok_quotient {P : Program} {w : World} {K : PySem.W.Frag} {mg : Str → Option Value} {base : Heap} (T : Say K mg) : FnE P w K mg base 3 "quotient" ["one", "other"] F_quotient := by
  obtain ⟨fd, F⟩ := T.d_quotient
  exact FnE.by (F := guard 2 (runF 2 g_quotient)) (fn_ok F sc_quotient T.g_quotient (fun _ _ _ _ _ _ us hl => match us, hl with | [_, _], _ => rfl) fun cdv A outer s H E hr =>
    ss_one (s_ret (ev_call (ok_in_lowest T) (hr.mono (by decide)) pass_cx (ea_cons (ev_op dop_mul (ev_ix (ev_var 0) (ev_int)) (ev_ix (ev_var 1) (ev_int))) (ea_cons (ev_op dop_mul (ev_ix (ev_var 0) (ev_int)) (ev_ix (ev_var 1) (ev_int))) (ea_nil)))))) mir_quotient
theorem sc_share_poly : FnScope ["here", "there", "width"] ["here", "there"] (defScope s_share_poly) := ⟨rfl, rfl, rfl, by decide +kernel, rfl, by decide +kernel, by decide +kernel⟩
theorem ok_share_poly {P : Program} {w : World} {K : PySem.W.Frag} {mg : Str → Option Value} {base : Heap} (T : Say K mg) : FnE P w K mg base 4 "share_poly" ["here", "there"] F_share_poly := by
  obtain ⟨fd, F⟩ := T.d_share_poly
  exact fn_ok F sc_share_poly T.g_share_poly (fun _ _ _ _ _ _ us hl => match us, hl with | [_, _], _ => rfl) fun cdv A outer s H E hr =>
    ss_cons (s_set (i := 2) (ev_call (ok_less_by T) (hr.mono (by decide)) pass_cx (ea_cons (ev_var 1) (ea_cons (ev_var 0) (ea_nil)))) sc_share_poly.nd)
    (ss_one (s_ret (ev_call (ok_trimmed T) (hr.mono (by decide)) pass_cx (ea_cons ((en_lst (ea_cons (ev_call (ok_quotient T) (hr.mono (by decide)) pass_cx (ea_cons (ev_call (ok_less_by T) (hr.mono (by decide)) pass_cx (ea_cons (ev_glob T.c_NOUGHT) (ea_cons (ev_var 0) (ea_nil)))) (ea_cons (ev_var 2) (ea_nil)))) (ea_cons (ev_call (ok_quotient T) (hr.mono (by decide)) pass_cx (ea_cons (ev_glob T.c_ONE) (ea_cons (ev_var 2) (ea_nil)))) (ea_nil)))).ev) (ea_nil)))))
theorem sc_piece_at : FnScope ["bend", "knots", "at", "degree", "row", "deep", "later", "spot", "handle", "first", "share", "one", "other"] ["bend", "knots", "at"] (defScope s_piece_at) := ⟨rfl, rfl, rfl, by decide +kernel, rfl, by decide +kernel, by decide +kernel⟩
theorem ok_piece_at {P : Program} {w : World} {K : PySem.W.Frag} {mg : Str → Option Value} {base : Heap} (T : Say K mg) : FnE P w K mg base 5 "piece_at" ["bend", "knots", "at"] F_piece_at := by
  obtain ⟨fd, F⟩ := T.d_piece_at
  exact fn_ok F sc_piece_at T.g_piece_at (fun _ _ _ _ _ _ us hl => match us, hl with | [_, _, _], _ => rfl) fun cdv A outer s H E hr =>
    ss_cons (s_set (i := 3) (ev_fld (ev_var 0) T.cl_Bend T.na_Bend_degree) sc_piece_at.nd)
    (ss_cons ((lc_c (own := [("handle", 8)]) (iv_seq (ev_slice (ev_fld (ev_var 0) T.cl_Bend T.na_Bend_handles) (eo_some (ev_op dop_sub (ev_var 2) (ev_var 3))) (eo_some (ev_op dop_add (ev_var 2) (ev_int))))) const_seq (blkOk_by (own := [("handle", 8)]) (by kernel_rfl)) (fun _ _ _ _ _ => gv_name (i := 8) sc_piece_at.nd) (fun _ _ _ _ _ => eif_nil) (fun _ _ _ _ _ => ev_call (ok_trimmed T) (hr.mono (by decide)) passL (ea_cons ((en_lst (ea_cons (ev_var 8) (ea_nil))).ev) (ea_nil)))).set (i := 4) rfl sc_piece_at.nd (sw_true rfl rfl rfl (by kernel_rfl)))
    (ss_cons (s_for pass_own rfl (iv_range2 (T.m_range) (ea_cons (ev_int) (ea_cons (ev_op dop_add (ev_var 3) (ev_int)) (ea_nil)))) const_range2 (gv_name (i := 5) sc_piece_at.nd) (ss_cons (s_own (i := 6) (en_lst (ea_nil)) sc_piece_at.nd)
    (ss_cons (s_for pass_own rfl (iv_range2 (T.m_range) (ea_cons (ev_var 5) (ea_cons (ev_op dop_add (ev_var 3) (ev_int)) (ea_nil)))) const_range2 (gv_name (i := 7) sc_piece_at.nd) (ss_cons (s_set (i := 9) (ev_op dop_add (ev_op dop_sub (ev_var 2) (ev_var 3)) (ev_var 7)) sc_piece_at.nd)
    (ss_cons (s_set (i := 10) (ev_call (ok_share_poly T) (hr.mono (by decide)) pass_cx (ea_cons (ev_ix (ev_var 1) (ev_var 9)) (ea_cons (ev_ix (ev_var 1) (ev_op dop_sub (ev_op dop_add (ev_op dop_add (ev_var 9) (ev_var 3)) (ev_int)) (ev_var 5))) (ea_nil)))) sc_piece_at.nd)
    (ss_cons (s_par2 (i := 11) (j := 12) rfl sc_piece_at.nd (ex_consP (ev_ix (ev_var 4) (ev_op dop_sub (ev_var 7) (ev_var 5))) (ex_consP (ev_ix (ev_var 4) (ev_op dop_add (ev_op dop_sub (ev_var 7) (ev_var 5)) (ev_int))) (ex_nil))))
    (ss_one (s_app (i := 6) (ea_cons (ev_call (ok_poly_sum T) (hr.mono (by decide)) pass_cx (ea_cons (ev_var 11) (ea_cons (ev_call (ok_poly_times T) (hr.mono (by decide)) pass_cx (ea_cons (ev_var 10) (ea_cons (ev_call (ok_poly_less T) (hr.mono (by decide)) pass_cx (ea_cons (ev_var 12) (ea_cons (ev_var 11) (ea_nil)))) (ea_nil)))) (ea_nil)))) (ea_nil))))))))
    (ss_one (s_set (i := 4) (ev_var 6) sc_piece_at.nd)))))
    (ss_one (s_ret (ev_make (mk_Piece T) (hr.mono (by decide)) pass_cx (ea_cons (ev_ix (ev_var 1) (ev_var 2)) (ea_cons (ev_ix (ev_var 1) (ev_op dop_add (ev_var 2) (ev_int))) (ea_cons (ev_ix (ev_var 4) (ev_int)) (ea_nil)))))))))
theorem sc_pieces_of : FnScope ["bend", "knots", "at"] ["bend"] (defScope s_pieces_of) := ⟨rfl, rfl, rfl, by decide +kernel, rfl, by decide +kernel, by decide +kernel⟩
theorem ok_pieces_of {P : Program} {w : World} {K : PySem.W.Frag} {mg : Str → Option Value} {base : Heap} (T : Say K mg) : FnE P w K mg base 6 "pieces_of" ["bend"] F_pieces_of := by
  obtain ⟨fd, F⟩ := T.d_pieces_of
  exact fn_ok F sc_pieces_of T.g_pieces_of (fun _ _ _ _ _ _ us hl => match us, hl with | [_], _ => rfl) fun cdv A outer s H E hr =>
    ss_cons (s_set (i := 1) (ev_call (ok_knots_of T) (hr.mono (by decide)) pass_cx (ea_cons (ev_fld (ev_var 0) T.cl_Bend T.na_Bend_degree) (ea_cons (ev_fld (ev_var 0) T.cl_Bend T.na_Bend_marks) (ea_nil)))) sc_pieces_of.nd)
    (ss_one (s_ret (((lc_c (own := [("at", 2)]) (iv_range1 (T.m_range) (ea_cons (ev_op dop_sub (ev_callB dc_len (T.m_len) (by decide +kernel) (ea_cons (ev_var 1) (ea_nil))) (ev_int)) (ea_nil))) const_range1 (blkOk_by (own := [("at", 2)]) (by kernel_rfl)) (fun _ _ _ _ _ => gv_name (i := 2) sc_pieces_of.nd) (fun _ _ _ _ _ => eif_one (et_val (ev_call (ok_is_less T) (hr.mono (by decide)) passL (ea_cons (ev_ix (ev_var 1) (ev_var 2)) (ea_cons (ev_ix (ev_var 1) (ev_op dop_add (ev_var 2) (ev_int))) (ea_nil)))))) (fun _ _ _ _ _ => ev_call (ok_piece_at T) (hr.mono (by decide)) passL (ea_cons (ev_var 0) (ea_cons (ev_var 1) (ea_cons (ev_var 2) (ea_nil)))))).en rfl sc_pieces_of.nd).ev)))
theorem sc_poly_at : FnScope ["poly", "time", "found", "value"] ["poly", "time"] (defScope s_poly_at) := ⟨rfl, rfl, rfl, by decide +kernel, rfl, by decide +kernel, by decide +kernel⟩
theorem ok_poly_at {P : Program} {w : World} {K : PySem.W.Frag} {mg : Str → Option Value} {base : Heap} (T : Say K mg) : FnE P w K mg base 4 "poly_at" ["poly", "time"] F_poly_at := by
  obtain ⟨fd, F⟩ := T.d_poly_at
  exact fn_ok F sc_poly_at T.g_poly_at (fun _ _ _ _ _ _ us hl => match us, hl with | [_, _], _ => rfl) fun cdv A outer s H E hr =>
    ss_cons (s_set (i := 2) (ev_glob T.c_NOUGHT) sc_poly_at.nd)
    (ss_cons (s_for pass_own rfl (iv_seq (ev_rev (ev_var 0) (eo_some (ev_neg (ev_int))))) const_seq (gv_name (i := 3) sc_poly_at.nd) (ss_one (s_set (i := 2) (ev_call (ok_added T) (hr.mono (by decide)) pass_cx (ea_cons (ev_call (ok_multiplied T) (hr.mono (by decide)) pass_cx (ea_cons (ev_var 2) (ea_cons (ev_var 1) (ea_nil)))) (ea_cons (ev_var 3) (ea_nil)))) sc_poly_at.nd)))
    (ss_one (s_ret (ev_var 2))))
theorem sc_is_at_most : FnScope ["one", "other"] ["one", "other"] (defScope s_is_at_most) := ⟨rfl, rfl, rfl, by decide +kernel, rfl, by decide +kernel, by decide +kernel⟩
theorem ok_is_at_most {P : Program} {w : World} {K : PySem.W.Frag} {mg : Str → Option Value} {base : Heap} (T : Say K mg) : FnE P w K mg base 2 "is_at_most" ["one", "other"] F_is_at_most := by
  obtain ⟨fd, F⟩ := T.d_is_at_most
  exact fn_ok F sc_is_at_most T.g_is_at_most (fun _ _ _ _ _ _ us hl => match us, hl with | [_, _], _ => rfl) fun cdv A outer s H E hr =>
    ss_one (s_ret (ev_not (ev_call (ok_is_less T) (hr.mono (by decide)) pass_cx (ea_cons (ev_var 1) (ea_cons (ev_var 0) (ea_nil))))))
theorem sc_poly_in : FnScope ["rows", "here", "there", "row"] ["rows", "here", "there"] (defScope s_poly_in) := ⟨rfl, rfl, rfl, by decide +kernel, rfl, by decide +kernel, by decide +kernel⟩
theorem ok_poly_in {P : Program} {w : World} {K : PySem.W.Frag} {mg : Str → Option Value} {base : Heap} (T : Say K mg) : FnE P w K mg base 3 "poly_in" ["rows", "here", "there"] F_poly_in := by
  obtain ⟨fd, F⟩ := T.d_poly_in
  exact fn_ok F sc_poly_in T.g_poly_in (fun _ _ _ _ _ _ us hl => match us, hl with | [_, _, _], _ => rfl) fun cdv A outer s H E hr =>
    ss_one (s_ret (ev_ix (((lc_c (own := [("row", 3)]) (iv_seq (ev_var 0)) const_seq (blkOk_by (own := [("row", 3)]) (by kernel_rfl)) (fun _ _ _ _ _ => gv_name (i := 3) sc_poly_in.nd) (fun _ _ _ _ _ => eif_one ((ew_and (et_val (ev_call (ok_is_at_most T) (hr.mono (by decide)) passL (ea_cons (ev_fld (ev_var 3) T.cl_Piece T.na_Piece_start) (ea_cons (ev_var 1) (ea_nil))))) (ew_and1 (et_val (ev_call (ok_is_at_most T) (hr.mono (by decide)) passL (ea_cons (ev_var 2) (ea_cons (ev_fld (ev_var 3) T.cl_Piece T.na_Piece_end) (ea_nil))))))).et)) (fun _ _ _ _ _ => ev_fld (ev_var 3) T.cl_Piece T.na_Piece_poly)).en rfl sc_poly_in.nd).ev) (ev_int)))
theorem sc_curve_at : FnScope ["rows", "time"] ["rows", "time"] (defScope s_curve_at) := ⟨rfl, rfl, rfl, by decide +kernel, rfl, by decide +kernel, by decide +kernel⟩
theorem ok_curve_at {P : Program} {w : World} {K : PySem.W.Frag} {mg : Str → Option Value} {base : Heap} (T : Say K mg) : FnE P w K mg base 5 "curve_at" ["rows", "time"] F_curve_at := by
  obtain ⟨fd, F⟩ := T.d_curve_at
  exact fn_ok F sc_curve_at T.g_curve_at (fun _ _ _ _ _ _ us hl => match us, hl with | [_, _], _ => rfl) fun cdv A outer s H E hr =>
    ss_one (s_ret (ev_call (ok_poly_at T) (hr.mono (by decide)) pass_cx (ea_cons (ev_call (ok_poly_in T) (hr.mono (by decide)) pass_cx (ea_cons (ev_var 0) (ea_cons (ev_var 1) (ea_cons (ev_var 1) (ea_nil))))) (ea_cons (ev_var 1) (ea_nil)))))
theorem sc_Place_is_known : FnScope ["self"] ["self"] (defScope s_Place_is_known) := ⟨rfl, rfl, rfl, by decide +kernel, rfl, by decide +kernel, by decide +kernel⟩
theorem me_Place_is_known {P : Program} {w : World} {K : PySem.W.Frag} {mg : Str → Option Value} {base : Heap} (T : Say K mg) : MeE P w K mg base 1 "Place" "is_known" 1 F_Place_is_known := by
  obtain ⟨fd, F⟩ := T.d_Place_is_known
  exact meth_ok F sc_Place_is_known T.cl_Place T.me_Place_is_known (fun _ _ _ _ _ _ us hl => match us, hl with | [_], _ => rfl) fun cdv A outer s H E hr =>
    ss_one (s_ret (ev_or (ev_fld (ev_var 0) T.cl_Place T.na_Place_is_stretch) (ev_one (ev_cmp (dop_eq hr.units) (ev_fld (ev_var 0) T.cl_Place T.na_Place_first) (ev_fld (ev_var 0) T.cl_Place T.na_Place_last) (nomark _)))))
theorem sc_middle_of : FnScope ["one", "other"] ["one", "other"] (defScope s_middle_of) := ⟨rfl, rfl, rfl, by decide +kernel, rfl, by decide +kernel, by decide +kernel⟩
theorem ok_middle_of {P : Program} {w : World} {K : PySem.W.Frag} {mg : Str → Option Value} {base : Heap} (T : Say K mg) : FnE P w K mg base 4 "middle_of" ["one", "other"] F_middle_of := by
  obtain ⟨fd, F⟩ := T.d_middle_of
  exact fn_ok F sc_middle_of T.g_middle_of (fun _ _ _ _ _ _ us hl => match us, hl with | [_, _], _ => rfl) fun cdv A outer s H E hr =>
    ss_one (s_ret (ev_call (ok_quotient T) (hr.mono (by decide)) pass_cx (ea_cons (ev_call (ok_added T) (hr.mono (by decide)) pass_cx (ea_cons (ev_var 0) (ea_cons (ev_var 1) (ea_nil)))) (ea_cons (ev_tup (ea_cons (ev_glob T.c_PAIR) (ea_cons (ev_int) (ea_nil)))) (ea_nil)))))
theorem sc_gaps_in : FnScope ["rows", "found", "front", "gaps", "at", "start", "end", "here", "there"] ["rows", "found"] (defScope s_gaps_in) := ⟨rfl, rfl, rfl, by decide +kernel, rfl, by decide +kernel, by decide +kernel⟩
theorem ok_gaps_in {P : Program} {w : World} {K : PySem.W.Frag} {mg : Str → Option Value} {base : Heap} (T : Say K mg) : FnE P w K mg base 5 "gaps_in" ["rows", "found"] F_gaps_in := by
  obtain ⟨fd, F⟩ := T.d_gaps_in
  exact fn_ok F sc_gaps_in T.g_gaps_in (fun _ _ _ _ _ _ us hl => match us, hl with | [_, _], _ => rfl) fun cdv A outer s H E hr =>
    ss_cons (s_par2 (i := 5) (j := 6) rfl sc_gaps_in.nd (ex_consP (ev_fld (ev_ix (ev_var 0) (ev_int)) T.cl_Piece T.na_Piece_start) (ex_consP (ev_fld (ev_ix (ev_var 0) (ev_neg (ev_int))) T.cl_Piece T.na_Piece_end) (ex_nil))))
    (ss_cons (s_if (et_cmp (dop_eq hr.units) (ev_callB dc_len (T.m_len) (by decide +kernel) (ea_cons (ev_var 1) (ea_nil))) (ev_int) (nomark _)) (ss_one (s_ret ((en_lst (ea_cons (ev_var 5) (ea_nil))).ev))) (ss_nil))
    (ss_cons (s_set (i := 2) (ev_if ((ew_and (et_val (ev_meth0 (me_Place_is_known T) (hr.mono (by decide)) pass_cx (ev_ix (ev_var 1) (ev_int)))) (ew_and1 (et_cmp (dop_eq hr.units) (ev_fld (ev_ix (ev_var 1) (ev_int)) T.cl_Place T.na_Place_first) (ev_var 5) (nomark _)))).et) (ev_non) (ev_var 5)) sc_gaps_in.nd)
    (ss_cons (s_own (i := 3) (en_lst (ea_cons (ev_var 2) (ea_nil))) sc_gaps_in.nd)
    (ss_cons (s_for pass_own rfl (iv_range1 (T.m_range) (ea_cons (ev_op dop_sub (ev_callB dc_len (T.m_len) (by decide +kernel) (ea_cons (ev_var 1) (ea_nil))) (ev_int)) (ea_nil))) const_range1 (gv_name (i := 4) sc_gaps_in.nd) (ss_cons (s_par2 (i := 7) (j := 8) rfl sc_gaps_in.nd (ex_consP (ev_ix (ev_var 1) (ev_var 4)) (ex_consP (ev_ix (ev_var 1) (ev_op dop_add (ev_var 4) (ev_int))) (ex_nil))))
    (ss_one (s_if (et_not (et_val (ev_meth0 (me_Place_is_known T) (hr.mono (by decide)) pass_cx (ev_var 7)))) (ss_one (s_app (i := 3) (ea_cons (ev_fld (ev_var 7) T.cl_Place T.na_Place_last) (ea_nil)))) (ss_one (s_app (i := 3) (ea_cons (ev_if (et_val (ev_meth0 (me_Place_is_known T) (hr.mono (by decide)) pass_cx (ev_var 8))) (ev_call (ok_middle_of T) (hr.mono (by decide)) pass_cx (ea_cons (ev_fld (ev_var 7) T.cl_Place T.na_Place_last) (ea_cons (ev_fld (ev_var 8) T.cl_Place T.na_Place_first) (ea_nil)))) (ev_fld (ev_var 8) T.cl_Place T.na_Place_first)) (ea_nil))))))))
    (ss_one (s_ret ((en_lst (ea_star (ev_var 3) (ea_cons (ev_if ((ew_and (et_val (ev_meth0 (me_Place_is_known T) (hr.mono (by decide)) pass_cx (ev_ix (ev_var 1) (ev_neg (ev_int))))) (ew_and1 (et_cmp (dop_eq hr.units) (ev_fld (ev_ix (ev_var 1) (ev_neg (ev_int))) T.cl_Place T.na_Place_last) (ev_var 6) (nomark _)))).et) (ev_non) (ev_var 6)) (ea_nil)))).ev)))))))
theorem sc_Place_init : FnScope ["self", "first", "last", "is_stretch", "poly", "factor"] ["self", "first", "last", "is_stretch", "poly", "factor"] (defScope s_Place_init) := ⟨rfl, rfl, rfl, by decide +kernel, rfl, by decide +kernel, by decide +kernel⟩
theorem mk_Place {P : Program} {w : World} {K : PySem.W.Frag} {mg : Str → Option Value} {base : Heap} (T : Say K mg) : MkE P w K mg base 1 "Place" 5 I_Place := by
  obtain ⟨fd, F⟩ := T.d_Place_init
  exact init_ok F sc_Place_init T.mk_Place T.gc_Place (fun _ _ _ _ _ _ us hl => match us, hl with | [_, _, _, _, _, _], _ => rfl) fun cdv A outer s H E hr =>
    so_put (evo_of (ev_var 1))
    (so_put (evo_of (ev_var 2))
    (so_put (evo_of (ev_var 3))
    (so_put (evo_of (ev_var 4))
    (so_put (evo_of (ev_var 5))
    (so_nil) T.cl_Place T.na_Place_factor) T.cl_Place T.na_Place_poly) T.cl_Place T.na_Place_is_stretch) T.cl_Place T.na_Place_last) T.cl_Place T.na_Place_first
theorem sc_changes_of : FnScope ["signs", "left", "sign", "at"] ["signs"] (defScope s_changes_of) := ⟨rfl, rfl, rfl, by decide +kernel, rfl, by decide +kernel, by decide +kernel⟩
theorem ok_changes_of {P : Program} {w : World} {K : PySem.W.Frag} {mg : Str → Option Value} {base : Heap} (T : Say K mg) : FnE P w K mg base 1 "changes_of" ["signs"] F_changes_of := by
  obtain ⟨fd, F⟩ := T.d_changes_of
  exact fn_ok F sc_changes_of T.g_changes_of (fun _ _ _ _ _ _ us hl => match us, hl with | [_], _ => rfl) fun cdv A outer s H E hr =>
    ss_cons (s_set (i := 1) (((lc_c (own := [("sign", 2)]) (iv_seq (ev_var 0)) const_seq (blkOk_by (own := [("sign", 2)]) (by kernel_rfl)) (fun _ _ _ _ _ => gv_name (i := 2) sc_changes_of.nd) (fun _ _ _ _ _ => eif_one (et_cmp (dop_ne hr.units) (ev_var 2) (ev_int) (nomark _))) (fun _ _ _ _ _ => ev_var 2)).en rfl sc_changes_of.nd).ev) sc_changes_of.nd)
    (ss_one (s_ret (ev_callB dc_len (T.m_len) (by decide +kernel) (ea_cons (((lc_c (own := [("at", 3)]) (iv_range1 (T.m_range) (ea_cons (ev_op dop_sub (ev_callB dc_len (T.m_len) (by decide +kernel) (ea_cons (ev_var 1) (ea_nil))) (ev_int)) (ea_nil))) const_range1 (blkOk_by (own := [("at", 3)]) (by kernel_rfl)) (fun _ _ _ _ _ => gv_name (i := 3) sc_changes_of.nd) (fun _ _ _ _ _ => eif_one (et_cmp (dop_ne hr.units) (ev_ix (ev_var 1) (ev_var 3)) (ev_ix (ev_var 1) (ev_op dop_add (ev_var 3) (ev_int))) (nomark _))) (fun _ _ _ _ _ => ev_var 3)).en rfl sc_changes_of.nd).ev) (ea_nil)))))
theorem sc_sign_of : FnScope ["value"] ["value"] (defScope s_sign_of) := ⟨rfl, rfl, rfl, by decide +kernel, rfl, by decide +kernel, by decide +kernel⟩
theorem ok_sign_of {P : Program} {w : World} {K : PySem.W.Frag} {mg : Str → Option Value} {base : Heap} (T : Say K mg) : FnE P w K mg base 1 "sign_of" ["value"] F_sign_of := by
  obtain ⟨fd, F⟩ := T.d_sign_of
  exact fn_ok F sc_sign_of T.g_sign_of (fun _ _ _ _ _ _ us hl => match us, hl with | [_], _ => rfl) fun cdv A outer s H E hr =>
    ss_one (s_ret (ev_op dop_subB (ev_cmp dop_gt (ev_ix (ev_var 0) (ev_int)) (ev_int) (nomark _)) (ev_cmp dop_lt (ev_ix (ev_var 0) (ev_int)) (ev_int) (nomark _))))
theorem sc_changes_at : FnScope ["row", "time", "poly"] ["row", "time"] (defScope s_changes_at) := ⟨rfl, rfl, rfl, by decide +kernel, rfl, by decide +kernel, by decide +kernel⟩
theorem ok_changes_at {P : Program} {w : World} {K : PySem.W.Frag} {mg : Str → Option Value} {base : Heap} (T : Say K mg) : FnE P w K mg base 5 "changes_at" ["row", "time"] F_changes_at := by
  obtain ⟨fd, F⟩ := T.d_changes_at
  exact fn_ok F sc_changes_at T.g_changes_at (fun _ _ _ _ _ _ us hl => match us, hl with | [_, _], _ => rfl) fun cdv A outer s H E hr =>
    ss_one (s_ret (ev_call (ok_changes_of T) (hr.mono (by decide)) pass_cx (ea_cons (((lc_c (own := [("poly", 2)]) (iv_seq (ev_var 0)) const_seq (blkOk_by (own := [("poly", 2)]) (by kernel_rfl)) (fun _ _ _ _ _ => gv_name (i := 2) sc_changes_at.nd) (fun _ _ _ _ _ => eif_nil) (fun _ _ _ _ _ => ev_call (ok_sign_of T) (hr.mono (by decide)) passL (ea_cons (ev_call (ok_poly_at T) (hr.mono (by decide)) passL (ea_cons (ev_var 2) (ea_cons (ev_var 1) (ea_nil)))) (ea_nil)))).en rfl sc_changes_at.nd).ev) (ea_nil))))
theorem sc_poly_scaled : FnScope ["poly", "number", "value"] ["poly", "number"] (defScope s_poly_scaled) := ⟨rfl, rfl, rfl, by decide +kernel, rfl, by decide +kernel, by decide +kernel⟩
theorem ok_poly_scaled {P : Program} {w : World} {K : PySem.W.Frag} {mg : Str → Option Value} {base : Heap} (T : Say K mg) : FnE P w K mg base 4 "poly_scaled" ["poly", "number"] F_poly_scaled := by
  obtain ⟨fd, F⟩ := T.d_poly_scaled
  exact fn_ok F sc_poly_scaled T.g_poly_scaled (fun _ _ _ _ _ _ us hl => match us, hl with | [_, _], _ => rfl) fun cdv A outer s H E hr =>
    ss_one (s_ret (ev_call (ok_trimmed T) (hr.mono (by decide)) pass_cx (ea_cons (((lc_c (own := [("value", 2)]) (iv_seq (ev_var 0)) const_seq (blkOk_by (own := [("value", 2)]) (by kernel_rfl)) (fun _ _ _ _ _ => gv_name (i := 2) sc_poly_scaled.nd) (fun _ _ _ _ _ => eif_nil) (fun _ _ _ _ _ => ev_call (ok_multiplied T) (hr.mono (by decide)) passL (ea_cons (ev_var 2) (ea_cons (ev_var 1) (ea_nil))))).en rfl sc_poly_scaled.nd).ev) (ea_nil))))
theorem sc_divided : FnScope ["one", "other", "rest", "found", "shift", "factor", "part", "k"] ["one", "other"] (defScope s_divided) := ⟨rfl, rfl, rfl, by decide +kernel, rfl, by decide +kernel, by decide +kernel⟩
theorem ok_divided {P : Program} {w : World} {K : PySem.W.Frag} {mg : Str → Option Value} {base : Heap} (T : Say K mg) : FnE P w K mg base 5 "divided" ["one", "other"] F_divided := by
  obtain ⟨fd, F⟩ := T.d_divided
  exact fn_ok F sc_divided T.g_divided (fun _ _ _ _ _ _ us hl => match us, hl with | [_, _], _ => rfl) fun cdv A outer s H E hr =>
    ss_cons (s_par2 (i := 2) (j := 3) rfl sc_divided.nd (ex_consP ((en_list (T.m_list) (ev_var 0)).ev) (ex_consO ((lc_c (own := [("k", 7)]) (iv_range1 (T.m_range) (ea_cons (ev_callB dc_len (T.m_len) (by decide +kernel) (ea_cons (ev_var 0) (ea_nil))) (ea_nil))) const_range1 (blkOk_by (own := [("k", 7)]) (by kernel_rfl)) (fun _ _ _ _ _ => gv_name (i := 7) sc_divided.nd) (fun _ _ _ _ _ => eif_nil) (fun _ _ _ _ _ => ev_glob T.c_NOUGHT)).en rfl sc_divided.nd) (ex_nil))))
    (ss_cons (s_while (fun _ => 4000) pass_own (et_cmp dop_ge (ev_callB dc_len (T.m_len) (by decide +kernel) (ea_cons (ev_var 2) (ea_nil))) (ev_callB dc_len (T.m_len) (by decide +kernel) (ea_cons (ev_var 1) (ea_nil))) (nomark _)) (ss_cons (s_set (i := 4) (ev_op dop_sub (ev_callB dc_len (T.m_len) (by decide +kernel) (ea_cons (ev_var 2) (ea_nil))) (ev_callB dc_len (T.m_len) (by decide +kernel) (ea_cons (ev_var 1) (ea_nil)))) sc_divided.nd)
    (ss_cons (s_set (i := 5) (ev_call (ok_quotient T) (hr.mono (by decide)) pass_cx (ea_cons (ev_ix (ev_var 2) (ev_neg (ev_int))) (ea_cons (ev_ix (ev_var 1) (ev_neg (ev_int))) (ea_nil)))) sc_divided.nd)
    (ss_cons (s_put (i := 3) (ev_var 5) (ev_var 4))
    (ss_cons (s_set (i := 6) (ev_tup (ea_star (((lc_c (own := [("k", 7)]) (iv_range1 (T.m_range) (ea_cons (ev_var 4) (ea_nil))) const_range1 (blkOk_by (own := [("k", 7)]) (by kernel_rfl)) (fun _ _ _ _ _ => gv_name (i := 7) sc_divided.nd) (fun _ _ _ _ _ => eif_nil) (fun _ _ _ _ _ => ev_glob T.c_NOUGHT)).en rfl sc_divided.nd).ev) (ea_star (ev_call (ok_poly_scaled T) (hr.mono (by decide)) pass_cx (ea_cons (ev_var 1) (ea_cons (ev_var 5) (ea_nil)))) (ea_nil)))) sc_divided.nd)
    (ss_one (s_set (i := 2) ((en_list (T.m_list) (ev_call (ok_poly_less T) (hr.mono (by decide)) pass_cx (ea_cons (ev_callTy dc_tuple (T.m_tuple) (by decide +kernel) (ea_cons (ev_var 2) (ea_nil))) (ea_cons (ev_var 6) (ea_nil))))).ev) sc_divided.nd)))))))
    (ss_one (s_ret (ev_tup (ea_cons (ev_call (ok_trimmed T) (hr.mono (by decide)) pass_cx (ea_cons (ev_var 3) (ea_nil))) (ea_cons (ev_callTy dc_tuple (T.m_tuple) (by decide +kernel) (ea_cons (ev_var 2) (ea_nil))) (ea_nil)))))))
theorem sc_common_factor : FnScope ["one", "other"] ["one", "other"] (defScope s_common_factor) := ⟨rfl, rfl, rfl, by decide +kernel, rfl, by decide +kernel, by decide +kernel⟩
theorem ok_common_factor {P : Program} {w : World} {K : PySem.W.Frag} {mg : Str → Option Value} {base : Heap} (T : Say K mg) : FnE P w K mg base 6 "common_factor" ["one", "other"] F_common_factor := by
  obtain ⟨fd, F⟩ := T.d_common_factor
  exact fn_ok F sc_common_factor T.g_common_factor (fun _ _ _ _ _ _ us hl => match us, hl with | [_, _], _ => rfl) fun cdv A outer s H E hr =>
    ss_cons (s_while (fun _ => 4000) pass_own (et_cmp dop_gt (ev_callB dc_len (T.m_len) (by decide +kernel) (ea_cons (ev_var 1) (ea_nil))) (ev_int) (nomark _)) (ss_one (s_par2 (i := 0) (j := 1) rfl sc_common_factor.nd (ex_consP (ev_var 1) (ex_consP (ev_ix (ev_call (ok_divided T) (hr.mono (by decide)) pass_cx (ea_cons (ev_var 0) (ea_cons (ev_var 1) (ea_nil)))) (ev_int)) (ex_nil))))))
    (ss_one (s_ret (ev_if (et_cmp dop_gt (ev_callB dc_len (T.m_len) (by decide +kernel) (ea_cons (ev_var 0) (ea_nil))) (ev_int) (nomark _)) (ev_call (ok_poly_scaled T) (hr.mono (by decide)) pass_cx (ea_cons (ev_var 0) (ea_cons (ev_call (ok_quotient T) (hr.mono (by decide)) pass_cx (ea_cons (ev_glob T.c_ONE) (ea_cons (ev_ix (ev_var 0) (ev_neg (ev_int))) (ea_nil)))) (ea_nil)))) (ev_glob T.c_NONE))))
theorem sc_poly_slope : FnScope ["poly", "k", "value"] ["poly"] (defScope s_poly_slope) := ⟨rfl, rfl, rfl, by decide +kernel, rfl, by decide +kernel, by decide +kernel⟩
theorem ok_poly_slope {P : Program} {w : World} {K : PySem.W.Frag} {mg : Str → Option Value} {base : Heap} (T : Say K mg) : FnE P w K mg base 4 "poly_slope" ["poly"] F_poly_slope := by
  obtain ⟨fd, F⟩ := T.d_poly_slope
  exact fn_ok F sc_poly_slope T.g_poly_slope (fun _ _ _ _ _ _ us hl => match us, hl with | [_], _ => rfl) fun cdv A outer s H E hr =>
    ss_one (s_ret (ev_call (ok_trimmed T) (hr.mono (by decide)) pass_cx (ea_cons (ev_slice (((lc_c (own := [("k", 1), ("value", 2)]) (iv_enum (T.m_enumerate) (ev_var 0)) const_enum (blkOk_by (own := [("k", 1), ("value", 2)]) (by kernel_rfl)) (fun _ _ _ _ _ => gv_tup rfl (gvs_cons (gv_name (i := 1) sc_poly_slope.nd) (gvs_cons (gv_name (i := 2) sc_poly_slope.nd) (gvs_nil)))) (fun _ _ _ _ _ => eif_nil) (fun _ _ _ _ _ => ev_call (ok_multiplied T) (hr.mono (by decide)) passL (ea_cons (ev_var 2) (ea_cons (ev_tup (ea_cons (ev_var 1) (ea_cons (ev_int) (ea_nil)))) (ea_nil))))).en rfl sc_poly_slope.nd).ev) (eo_some (ev_int)) (eo_none)) (ea_nil))))
theorem sc_plain_part : FnScope ["poly"] ["poly"] (defScope s_plain_part) := ⟨rfl, rfl, rfl, by decide +kernel, rfl, by decide +kernel, by decide +kernel⟩
theorem ok_plain_part {P : Program} {w : World} {K : PySem.W.Frag} {mg : Str → Option Value} {base : Heap} (T : Say K mg) : FnE P w K mg base 7 "plain_part" ["poly"] F_plain_part := by
  obtain ⟨fd, F⟩ := T.d_plain_part
  exact fn_ok F sc_plain_part T.g_plain_part (fun _ _ _ _ _ _ us hl => match us, hl with | [_], _ => rfl) fun cdv A outer s H E hr =>
    ss_one (s_ret (ev_ix (ev_call (ok_divided T) (hr.mono (by decide)) pass_cx (ea_cons (ev_var 0) (ea_cons (ev_call (ok_common_factor T) (hr.mono (by decide)) pass_cx (ea_cons (ev_var 0) (ea_cons (ev_call (ok_poly_slope T) (hr.mono (by decide)) pass_cx (ea_cons (ev_var 0) (ea_nil))) (ea_nil)))) (ea_nil)))) (ev_int)))
theorem sc_sorted_places : FnScope ["some", "found", "place", "one"] ["some"] (defScope s_sorted_places) := ⟨rfl, rfl, rfl, by decide +kernel, rfl, by decide +kernel, by decide +kernel⟩
theorem ok_sorted_places {P : Program} {w : World} {K : PySem.W.Frag} {mg : Str → Option Value} {base : Heap} (T : Say K mg) : FnE P w K mg base 2 "sorted_places" ["some"] F_sorted_places := by
  obtain ⟨fd, F⟩ := T.d_sorted_places
  exact fn_ok F sc_sorted_places T.g_sorted_places (fun _ _ _ _ _ _ us hl => match us, hl with | [_], _ => rfl) fun cdv A outer s H E hr =>
    ss_cons (s_set (i := 1) ((en_lst (ea_nil)).ev) sc_sorted_places.nd)
    (ss_cons (s_for pass_own rfl (iv_seq (ev_var 0)) const_seq (gv_name (i := 2) sc_sorted_places.nd) (ss_one (s_set (i := 1) ((en_lst (ea_star (((lc_c (own := [("one", 3)]) (iv_seq (ev_var 1)) const_seq (blkOk_by (own := [("one", 3)]) (by kernel_rfl)) (fun _ _ _ _ _ => gv_name (i := 3) sc_sorted_places.nd) (fun _ _ _ _ _ => eif_one (et_val (ev_call (ok_is_less T) (hr.mono (by decide)) passL (ea_cons (ev_fld (ev_var 3) T.cl_Place T.na_Place_first) (ea_cons (ev_fld (ev_var 2) T.cl_Place T.na_Place_first) (ea_nil)))))) (fun _ _ _ _ _ => ev_var 3)).en rfl sc_sorted_places.nd).ev) (ea_cons (ev_var 2) (ea_star (((lc_c (own := [("one", 3)]) (iv_seq (ev_var 1)) const_seq (blkOk_by (own := [("one", 3)]) (by kernel_rfl)) (fun _ _ _ _ _ => gv_name (i := 3) sc_sorted_places.nd) (fun _ _ _ _ _ => eif_one (et_val (ev_call (ok_is_less T) (hr.mono (by decide)) passL (ea_cons (ev_fld (ev_var 2) T.cl_Place T.na_Place_first) (ea_cons (ev_fld (ev_var 3) T.cl_Place T.na_Place_first) (ea_nil)))))) (fun _ _ _ _ _ => ev_var 3)).en rfl sc_sorted_places.nd).ev) (ea_nil))))).ev) sc_sorted_places.nd)))
    (ss_one (s_ret (ev_var 1))))
theorem sc_sturm_row : FnScope ["poly", "row"] ["poly"] (defScope s_sturm_row) := ⟨rfl, rfl, rfl, by decide +kernel, rfl, by decide +kernel, by decide +kernel⟩
theorem ok_sturm_row {P : Program} {w : World} {K : PySem.W.Frag} {mg : Str → Option Value} {base : Heap} (T : Say K mg) : FnE P w K mg base 6 "sturm_row" ["poly"] F_sturm_row := by
  obtain ⟨fd, F⟩ := T.d_sturm_row
  exact fn_ok F sc_sturm_row T.g_sturm_row (fun _ _ _ _ _ _ us hl => match us, hl with | [_], _ => rfl) fun cdv A outer s H E hr =>
    ss_cons (s_own (i := 1) (en_lst (ea_cons (ev_var 0) (ea_cons (ev_call (ok_poly_slope T) (hr.mono (by decide)) pass_cx (ea_cons (ev_var 0) (ea_nil))) (ea_nil)))) sc_sturm_row.nd)
    (ss_cons (s_while (fun _ => 4000) pass_own (et_cmp dop_gt (ev_callB dc_len (T.m_len) (by decide +kernel) (ea_cons (ev_ixO (i := 1) (ev_neg (ev_int))) (ea_nil))) (ev_int) (nomark _)) (ss_one (s_app (i := 1) (ea_cons (ev_call (ok_poly_scaled T) (hr.mono (by decide)) pass_cx (ea_cons (ev_ix (ev_call (ok_divided T) (hr.mono (by decide)) pass_cx (ea_cons (ev_ixO (i := 1) (ev_neg (ev_int))) (ea_cons (ev_ixO (i := 1) (ev_neg (ev_int))) (ea_nil)))) (ev_int)) (ea_cons (ev_glob T.c_DOWN) (ea_nil)))) (ea_nil)))))
    (ss_one (s_ret (ev_slice (ev_var 1) (eo_none) (eo_some (ev_neg (ev_int)))))))
theorem sc_without_zero : FnScope ["poly", "time"] ["poly", "time"] (defScope s_without_zero) := ⟨rfl, rfl, rfl, by decide +kernel, rfl, by decide +kernel, by decide +kernel⟩
theorem ok_without_zero {P : Program} {w : World} {K : PySem.W.Frag} {mg : Str → Option Value} {base : Heap} (T : Say K mg) : FnE P w K mg base 6 "without_zero" ["poly", "time"] F_without_zero := by
  obtain ⟨fd, F⟩ := T.d_without_zero
  exact fn_ok F sc_without_zero T.g_without_zero (fun _ _ _ _ _ _ us hl => match us, hl with | [_, _], _ => rfl) fun cdv A outer s H E hr =>
    ss_one (s_ret (ev_if (et_cmp (dop_eq hr.units) (ev_call (ok_poly_at T) (hr.mono (by decide)) pass_cx (ea_cons (ev_var 0) (ea_cons (ev_var 1) (ea_nil)))) (ev_glob T.c_NOUGHT) (nomark _)) (ev_ix (ev_call (ok_divided T) (hr.mono (by decide)) pass_cx (ea_cons (ev_var 0) (ea_cons (ev_tup (ea_cons (ev_call (ok_less_by T) (hr.mono (by decide)) pass_cx (ea_cons (ev_glob T.c_NOUGHT) (ea_cons (ev_var 1) (ea_nil)))) (ea_cons (ev_glob T.c_ONE) (ea_nil)))) (ea_nil)))) (ev_int)) (ev_var 0)))
theorem sc_times_between : FnScope ["poly", "start", "end", "whole", "noughts", "row", "part", "found", "waiting", "many", "middle", "time", "first", "last"] ["poly", "start", "end"] (defScope s_times_between) := ⟨rfl, rfl, rfl, by decide +kernel, rfl, by decide +kernel, by decide +kernel⟩
theorem ok_times_between {P : Program} {w : World} {K : PySem.W.Frag} {mg : Str → Option Value} {base : Heap} (T : Say K mg) : FnE P w K mg base 8 "times_between" ["poly", "start", "end"] F_times_between := by
  obtain ⟨fd, F⟩ := T.d_times_between
  exact fn_ok F sc_times_between T.g_times_between (fun _ _ _ _ _ _ us hl => match us, hl with | [_, _, _], _ => rfl) fun cdv A outer s H E hr =>
    ss_cons (s_set (i := 3) (ev_call (ok_plain_part T) (hr.mono (by decide)) pass_cx (ea_cons (ev_var 0) (ea_nil))) sc_times_between.nd)
    (ss_cons ((lc_c (own := [("time", 11)]) (iv_seq (ev_tup (ea_cons (ev_var 1) (ea_cons (ev_var 2) (ea_nil))))) const_seq (blkOk_by (own := [("time", 11)]) (by kernel_rfl)) (fun _ _ _ _ _ => gv_name (i := 11) sc_times_between.nd) (fun _ _ _ _ _ => eif_one (et_cmp (dop_eq hr.units) (ev_call (ok_poly_at T) (hr.mono (by decide)) passL (ea_cons (ev_var 3) (ea_cons (ev_var 11) (ea_nil)))) (ev_glob T.c_NOUGHT) (nomark _))) (fun _ _ _ _ _ => ev_var 11)).own (i := 4) rfl sc_times_between.nd (sw_true rfl rfl rfl (by kernel_rfl)))
    (ss_cons (s_par3 (i := 6) (j := 7) (l := 8) rfl sc_times_between.nd (ex_consP (ev_call (ok_without_zero T) (hr.mono (by decide)) pass_cx (ea_cons (ev_call (ok_without_zero T) (hr.mono (by decide)) pass_cx (ea_cons (ev_var 3) (ea_cons (ev_var 1) (ea_nil)))) (ea_cons (ev_var 2) (ea_nil)))) (ex_consO (en_lst (ea_nil)) (ex_consO (en_lst (ea_cons (ev_tup (ea_cons (ev_var 1) (ea_cons (ev_var 2) (ea_nil)))) (ea_nil))) (ex_nil)))))
    (ss_cons (s_set (i := 5) (ev_call (ok_sturm_row T) (hr.mono (by decide)) pass_cx (ea_cons (ev_var 6) (ea_nil))) sc_times_between.nd)
    (ss_cons (s_while (fun _ => 4000) pass_own (et_cmp dop_gt (ev_lenO (i := 8) (T.m_len)) (ev_int) (nomark _)) (ss_cons (s_asg (ev_pop0 (i := 8)) (gv_tup rfl (gvs_cons (gv_name (i := 12) sc_times_between.nd) (gvs_cons (gv_name (i := 13) sc_times_between.nd) (gvs_nil)))))
    (ss_cons (s_set (i := 9) (ev_op dop_sub (ev_call (ok_changes_at T) (hr.mono (by decide)) pass_cx (ea_cons (ev_var 5) (ea_cons (ev_var 12) (ea_nil)))) (ev_call (ok_changes_at T) (hr.mono (by decide)) pass_cx (ea_cons (ev_var 5) (ea_cons (ev_var 13) (ea_nil))))) sc_times_between.nd)
    (ss_cons (s_if (et_cmp (dop_eq hr.units) (ev_var 9) (ev_int) (nomark _)) (ss_one (s_continue)) (ss_nil))
    (ss_cons (s_if ((ew_and (et_cmp (dop_eq hr.units) (ev_var 9) (ev_int) (nomark _)) (ew_and (et_notInO (i := 4) (ev_var 12) (hu65 hr)) (ew_and1 (et_notInO (i := 4) (ev_var 13) (hu65 hr))))).et) (ss_cons (s_app (i := 7) (ea_cons (ev_make (mk_Place T) (hr.mono (by decide)) pass_cx (ea_cons (ev_var 12) (ea_cons (ev_var 13) (ea_cons (ev_bl) (ea_cons (ev_var 0) (ea_cons (ev_var 3) (ea_nil))))))) (ea_nil)))
    (ss_one (s_continue))) (ss_nil))
    (ss_cons (s_set (i := 10) (ev_call (ok_middle_of T) (hr.mono (by decide)) pass_cx (ea_cons (ev_var 12) (ea_cons (ev_var 13) (ea_nil)))) sc_times_between.nd)
    (ss_cons (s_if (et_cmp (dop_eq hr.units) (ev_call (ok_poly_at T) (hr.mono (by decide)) pass_cx (ea_cons (ev_var 6) (ea_cons (ev_var 10) (ea_nil)))) (ev_glob T.c_NOUGHT) (nomark _)) (ss_cons (s_app (i := 7) (ea_cons (ev_make (mk_Place T) (hr.mono (by decide)) pass_cx (ea_cons (ev_var 10) (ea_cons (ev_var 10) (ea_cons (ev_bl) (ea_cons (ev_var 0) (ea_cons (ev_var 3) (ea_nil))))))) (ea_nil)))
    (ss_cons (s_app (i := 4) (ea_cons (ev_var 10) (ea_nil)))
    (ss_cons (s_set (i := 6) (ev_call (ok_without_zero T) (hr.mono (by decide)) pass_cx (ea_cons (ev_var 6) (ea_cons (ev_var 10) (ea_nil)))) sc_times_between.nd)
    (ss_one (s_set (i := 5) (ev_call (ok_sturm_row T) (hr.mono (by decide)) pass_cx (ea_cons (ev_var 6) (ea_nil))) sc_times_between.nd))))) (ss_nil))
    (ss_one (s_ext (i := 8) (ea_cons ((en_lst (ea_cons (ev_tup (ea_cons (ev_var 12) (ea_cons (ev_var 10) (ea_nil)))) (ea_cons (ev_tup (ea_cons (ev_var 10) (ea_cons (ev_var 13) (ea_nil)))) (ea_nil)))).ev) (ea_nil)))))))))))
    (ss_one (s_ret (ev_call (ok_sorted_places T) (hr.mono (by decide)) pass_cx (ea_cons (ev_var 7) (ea_nil)))))))))
theorem sc_with_stretch : FnScope ["found", "row", "first"] ["found", "row"] (defScope s_with_stretch) := ⟨rfl, rfl, rfl, by decide +kernel, rfl, by decide +kernel, by decide +kernel⟩
theorem ok_with_stretch {P : Program} {w : World} {K : PySem.W.Frag} {mg : Str → Option Value} {base : Heap} (T : Say K mg) : FnNE P w K mg base 3 "with_stretch" 2 F_with_stretch := by
  obtain ⟨fd, F⟩ := T.d_with_stretch
  exact fn_okN F sc_with_stretch T.g_with_stretch (fun _ _ _ _ _ _ us hl => match us, hl with | [_, _], _ => rfl) fun cdv A outer s H E hr =>
    svn_cons (s_set (i := 2) (ev_fld (ev_var 1) T.cl_Piece T.na_Piece_start) sc_with_stretch.nd)
    (svn_cons (s_if ((ew_and (et_cmp dop_gt (ev_callB dc_len (T.m_len) (by decide +kernel) (ea_cons (ev_var 0) (ea_nil))) (ev_int) (nomark _)) (ew_and1 (et_cmp (dop_eq hr.units) (ev_fld (ev_ix (ev_var 0) (ev_neg (ev_int))) T.cl_Place T.na_Place_last) (ev_fld (ev_var 1) T.cl_Piece T.na_Piece_start) (nomark _)))).et) (ss_cons (s_set (i := 2) (ev_fld (ev_ix (ev_var 0) (ev_neg (ev_int))) T.cl_Place T.na_Place_first) sc_with_stretch.nd)
    (ss_one (s_set (i := 0) (ev_slice (ev_var 0) (eo_none) (eo_some (ev_neg (ev_int)))) sc_with_stretch.nd))) (ss_nil))
    (svn_ret (en_lst (ea_star (ev_var 0) (ea_cons (ev_make (mk_Place T) (hr.mono (by decide)) pass_cx (ea_cons (ev_var 2) (ea_cons (ev_fld (ev_var 1) T.cl_Piece T.na_Piece_end) (ea_cons (ev_bl) (ea_cons (ev_fld (ev_var 1) T.cl_Piece T.na_Piece_poly) (ea_cons (ev_fld (ev_var 1) T.cl_Piece T.na_Piece_poly) (ea_nil))))))) (ea_nil))))))
theorem sc_places_in : FnScope ["rows", "found", "row", "is_told"] ["rows"] (defScope s_places_in) := ⟨rfl, rfl, rfl, by decide +kernel, rfl, by decide +kernel, by decide +kernel⟩
theorem ok_places_in {P : Program} {w : World} {K : PySem.W.Frag} {mg : Str → Option Value} {base : Heap} (T : Say K mg) : FnE P w K mg base 9 "places_in" ["rows"] F_places_in := by
  obtain ⟨fd, F⟩ := T.d_places_in
  exact fn_ok F sc_places_in T.g_places_in (fun _ _ _ _ _ _ us hl => match us, hl with | [_], _ => rfl) fun cdv A outer s H E hr =>
    ss_cons (s_own (i := 1) (en_lst (ea_nil)) sc_places_in.nd)
    (ss_cons (s_for pass_own rfl (iv_seq (ev_var 0)) const_seq (gv_name (i := 2) sc_places_in.nd) (ss_cons (s_if (et_cmp (dop_eq hr.units) (ev_callB dc_len (T.m_len) (by decide +kernel) (ea_cons (ev_fld (ev_var 2) T.cl_Piece T.na_Piece_poly) (ea_nil))) (ev_int) (nomark _)) (ss_cons (s_own (i := 1) (en_call (ok_with_stretch T) (hr.mono (by decide)) pass_cx (ea_cons (ev_var 1) (ea_cons (ev_var 2) (ea_nil)))) sc_places_in.nd)
    (ss_one (s_continue))) (ss_nil))
    (ss_cons (s_set (i := 3) (ev_and (ev_cmp dop_gt (ev_lenO (i := 1) (T.m_len)) (ev_int) (nomark _)) (ev_and (ev_cmp (dop_eq hr.units) (ev_fld (ev_ixO (i := 1) (ev_neg (ev_int))) T.cl_Place T.na_Place_last) (ev_fld (ev_var 2) T.cl_Piece T.na_Piece_start) (nomark _)) (ev_one (ev_meth0 (me_Place_is_known T) (hr.mono (by decide)) pass_cx (ev_ixO (i := 1) (ev_neg (ev_int))))))) sc_places_in.nd)
    (ss_cons (s_if ((ew_and (et_cmp (dop_eq hr.units) (ev_call (ok_poly_at T) (hr.mono (by decide)) pass_cx (ea_cons (ev_fld (ev_var 2) T.cl_Piece T.na_Piece_poly) (ea_cons (ev_fld (ev_var 2) T.cl_Piece T.na_Piece_start) (ea_nil)))) (ev_glob T.c_NOUGHT) (nomark _)) (ew_and1 (et_not (et_val (ev_var 3))))).et) (ss_one (s_app (i := 1) (ea_cons (ev_make (mk_Place T) (hr.mono (by decide)) pass_cx (ea_cons (ev_fld (ev_var 2) T.cl_Piece T.na_Piece_start) (ea_cons (ev_fld (ev_var 2) T.cl_Piece T.na_Piece_start) (ea_cons (ev_bl) (ea_cons (ev_fld (ev_var 2) T.cl_Piece T.na_Piece_poly) (ea_cons (ev_fld (ev_var 2) T.cl_Piece T.na_Piece_poly) (ea_nil))))))) (ea_nil)))) (ss_nil))
    (ss_cons (s_ext (i := 1) (ea_cons (ev_call (ok_times_between T) (hr.mono (by decide)) pass_cx (ea_cons (ev_fld (ev_var 2) T.cl_Piece T.na_Piece_poly) (ea_cons (ev_fld (ev_var 2) T.cl_Piece T.na_Piece_start) (ea_cons (ev_fld (ev_var 2) T.cl_Piece T.na_Piece_end) (ea_nil))))) (ea_nil)))
    (ss_one (s_if (et_cmp (dop_eq hr.units) (ev_call (ok_poly_at T) (hr.mono (by decide)) pass_cx (ea_cons (ev_fld (ev_var 2) T.cl_Piece T.na_Piece_poly) (ea_cons (ev_fld (ev_var 2) T.cl_Piece T.na_Piece_end) (ea_nil)))) (ev_glob T.c_NOUGHT) (nomark _)) (ss_one (s_app (i := 1) (ea_cons (ev_make (mk_Place T) (hr.mono (by decide)) pass_cx (ea_cons (ev_fld (ev_var 2) T.cl_Piece T.na_Piece_end) (ea_cons (ev_fld (ev_var 2) T.cl_Piece T.na_Piece_end) (ea_cons (ev_bl) (ea_cons (ev_fld (ev_var 2) T.cl_Piece T.na_Piece_poly) (ea_cons (ev_fld (ev_var 2) T.cl_Piece T.na_Piece_poly) (ea_nil))))))) (ea_nil)))) (ss_nil))))))))
    (ss_one (s_ret (ev_var 1))))
theorem sc_signs_in : FnScope ["rows", "found", "signs", "at", "time"] ["rows"] (defScope s_signs_in) := ⟨rfl, rfl, rfl, by decide +kernel, rfl, by decide +kernel, by decide +kernel⟩
theorem ok_signs_in {P : Program} {w : World} {K : PySem.W.Frag} {mg : Str → Option Value} {base : Heap} (T : Say K mg) : FnE P w K mg base 10 "signs_in" ["rows"] F_signs_in := by
  obtain ⟨fd, F⟩ := T.d_signs_in
  exact fn_ok F sc_signs_in T.g_signs_in (fun _ _ _ _ _ _ us hl => match us, hl with | [_], _ => rfl) fun cdv A outer s H E hr =>
    ss_cons (s_par2 (i := 1) (j := 2) rfl sc_signs_in.nd (ex_consP (ev_call (ok_places_in T) (hr.mono (by decide)) pass_cx (ea_cons (ev_var 0) (ea_nil))) (ex_consO (en_lst (ea_nil)) (ex_nil))))
    (ss_cons (s_for pass_own rfl (iv_enum (T.m_enumerate) (ev_call (ok_gaps_in T) (hr.mono (by decide)) pass_cx (ea_cons (ev_var 0) (ea_cons (ev_var 1) (ea_nil))))) const_enum (gv_tup rfl (gvs_cons (gv_name (i := 3) sc_signs_in.nd) (gvs_cons (gv_name (i := 4) sc_signs_in.nd) (gvs_nil)))) (ss_cons (s_if (et_cmp dop_gt (ev_var 3) (ev_int) (nomark _)) (ss_one (s_app (i := 2) (ea_cons (ev_int) (ea_nil)))) (ss_nil))
    (ss_one (s_if (et_cmp dop_isNot (ev_var 4) (ev_non) (nomark _)) (ss_one (s_app (i := 2) (ea_cons (ev_call (ok_sign_of T) (hr.mono (by decide)) pass_cx (ea_cons (ev_call (ok_curve_at T) (hr.mono (by decide)) pass_cx (ea_cons (ev_var 0) (ea_cons (ev_var 4) (ea_nil)))) (ea_nil))) (ea_nil)))) (ss_nil)))))
    (ss_one (s_ret (ev_callTy dc_tuple (T.m_tuple) (by decide +kernel) (ea_cons (ev_var 2) (ea_nil))))))
theorem sc_sign_row : FnScope ["bend"] ["bend"] (defScope s_sign_row) := ⟨rfl, rfl, rfl, by decide +kernel, rfl, by decide +kernel, by decide +kernel⟩
theorem ok_sign_row {P : Program} {w : World} {K : PySem.W.Frag} {mg : Str → Option Value} {base : Heap} (T : Say K mg) : FnE P w K mg base 11 "sign_row" ["bend"] F_sign_row := by
  obtain ⟨fd, F⟩ := T.d_sign_row
  exact fn_ok F sc_sign_row T.g_sign_row (fun _ _ _ _ _ _ us hl => match us, hl with | [_], _ => rfl) fun cdv A outer s H E hr =>
    ss_one (s_ret (ev_call (ok_signs_in T) (hr.mono (by decide)) pass_cx (ea_cons (ev_call (ok_pieces_of T) (hr.mono (by decide)) pass_cx (ea_cons (ev_var 0) (ea_nil))) (ea_nil))))
theorem sc_Live_undo : FnScope ["self"] ["self"] (defScope s_Live_undo) := ⟨rfl, rfl, rfl, by decide +kernel, rfl, by decide +kernel, by decide +kernel⟩
theorem me_Live_undo {P : Program} {w : World} {K : PySem.W.Frag} {mg : Str → Option Value} {base : Heap} (T : Say K mg) : MmE P w K mg base 12 "Live" "undo" 0 F_Live_undo := by
  obtain ⟨fd, F⟩ := T.d_Live_undo
  exact meth_okM F sc_Live_undo T.cl_Live T.me_Live_undo (fun _ _ _ _ _ _ us hl => match us, hl with | [_], _ => rfl) fun cdv A outer s H E hr =>
    ss_cons (s_if (et_cmp (dop_eq hr.units) (ev_callB dc_len (T.m_len) (by decide +kernel) (ea_cons (ev_fldS (i := 0) T.cl_Live T.na_Live_past) (ea_nil))) (ev_int) (nomark _)) (ss_one (s_ret (ev_bl))) (ss_nil))
    (ss_cons (s_fldS (i := 0) (ev_ix (ev_fldS (i := 0) T.cl_Live T.na_Live_past) (ev_neg (ev_int))) T.cl_Live T.na_Live_now)
    (ss_cons (s_fldS (i := 0) (ev_call (ok_sign_row T) (hr.mono (by decide)) pass_cx (ea_cons (ev_fldS (i := 0) T.cl_Live T.na_Live_now) (ea_nil))) T.cl_Live T.na_Live_row)
    (ss_cons (s_fldS (i := 0) (ev_slice (ev_fldS (i := 0) T.cl_Live T.na_Live_past) (eo_none) (eo_some (ev_neg (ev_int)))) T.cl_Live T.na_Live_past)
    (ss_one (s_ret (ev_bl))))))
theorem sc_order_at : FnScope ["poly", "time", "found", "factor"] ["poly", "time"] (defScope s_order_at) := ⟨rfl, rfl, rfl, by decide +kernel, rfl, by decide +kernel, by decide +kernel⟩
theorem ok_order_at {P : Program} {w : World} {K : PySem.W.Frag} {mg : Str → Option Value} {base : Heap} (T : Say K mg) : FnE P w K mg base 6 "order_at" ["poly", "time"] F_order_at := by
  obtain ⟨fd, F⟩ := T.d_order_at
  exact fn_ok F sc_order_at T.g_order_at (fun _ _ _ _ _ _ us hl => match us, hl with | [_, _], _ => rfl) fun cdv A outer s H E hr =>
    ss_cons (s_par2 (i := 2) (j := 3) rfl sc_order_at.nd (ex_consP (ev_int) (ex_consP (ev_tup (ea_cons (ev_call (ok_less_by T) (hr.mono (by decide)) pass_cx (ea_cons (ev_glob T.c_NOUGHT) (ea_cons (ev_var 1) (ea_nil)))) (ea_cons (ev_glob T.c_ONE) (ea_nil)))) (ex_nil))))
    (ss_cons (s_while (fun _ => 4000) pass_own (et_cmp (dop_eq hr.units) (ev_call (ok_poly_at T) (hr.mono (by decide)) pass_cx (ea_cons (ev_var 0) (ea_cons (ev_var 1) (ea_nil)))) (ev_glob T.c_NOUGHT) (nomark _)) (ss_cons (s_set (i := 0) (ev_ix (ev_call (ok_divided T) (hr.mono (by decide)) pass_cx (ea_cons (ev_var 0) (ea_cons (ev_var 3) (ea_nil)))) (ev_int)) sc_order_at.nd)
    (ss_one (s_aug (i := 2) ip_add sc_order_at.nd (ev_int)))))
    (ss_one (s_ret (ev_var 2))))
theorem sc_alike_slopes : FnScope ["one", "other", "time", "rest"] ["one", "other", "time"] (defScope s_alike_slopes) := ⟨rfl, rfl, rfl, by decide +kernel, rfl, by decide +kernel, by decide +kernel⟩
theorem ok_alike_slopes {P : Program} {w : World} {K : PySem.W.Frag} {mg : Str → Option Value} {base : Heap} (T : Say K mg) : FnE P w K mg base 7 "alike_slopes" ["one", "other", "time"] F_alike_slopes := by
  obtain ⟨fd, F⟩ := T.d_alike_slopes
  exact fn_ok F sc_alike_slopes T.g_alike_slopes (fun _ _ _ _ _ _ us hl => match us, hl with | [_, _, _], _ => rfl) fun cdv A outer s H E hr =>
    ss_cons (s_set (i := 3) (ev_call (ok_poly_less T) (hr.mono (by decide)) pass_cx (ea_cons (ev_var 0) (ea_cons (ev_var 1) (ea_nil)))) sc_alike_slopes.nd)
    (ss_one (s_ret (ev_if (et_cmp (dop_eq hr.units) (ev_callB dc_len (T.m_len) (by decide +kernel) (ea_cons (ev_var 3) (ea_nil))) (ev_int) (nomark _)) (ev_non) (ev_op dop_sub (ev_call (ok_order_at T) (hr.mono (by decide)) pass_cx (ea_cons (ev_var 3) (ea_cons (ev_var 2) (ea_nil)))) (ev_int)))))
theorem sc_merged : FnScope ["rows", "found", "row"] ["rows"] (defScope s_merged) := ⟨rfl, rfl, rfl, by decide +kernel, rfl, by decide +kernel, by decide +kernel⟩
theorem ok_merged {P : Program} {w : World} {K : PySem.W.Frag} {mg : Str → Option Value} {base : Heap} (T : Say K mg) : FnE P w K mg base 3 "merged" ["rows"] F_merged := by
  obtain ⟨fd, F⟩ := T.d_merged
  exact fn_ok F sc_merged T.g_merged (fun _ _ _ _ _ _ us hl => match us, hl with | [_], _ => rfl) fun cdv A outer s H E hr =>
    ss_cons (s_own (i := 1) (en_lst (ea_cons (ev_ix (ev_var 0) (ev_int)) (ea_nil))) sc_merged.nd)
    (ss_cons (s_for pass_own rfl (iv_seq (ev_slice (ev_var 0) (eo_some (ev_int)) (eo_none))) const_seq (gv_name (i := 2) sc_merged.nd) (ss_one (s_if (et_cmp (dop_eq hr.units) (ev_fld (ev_var 2) T.cl_Piece T.na_Piece_poly) (ev_fld (ev_ixO (i := 1) (ev_neg (ev_int))) T.cl_Piece T.na_Piece_poly) (nomark _)) (ss_one (s_put (i := 1) (ev_make (mk_Piece T) (hr.mono (by decide)) pass_cx (ea_cons (ev_fld (ev_ixO (i := 1) (ev_neg (ev_int))) T.cl_Piece T.na_Piece_start) (ea_cons (ev_fld (ev_var 2) T.cl_Piece T.na_Piece_end) (ea_cons (ev_fld (ev_var 2) T.cl_Piece T.na_Piece_poly) (ea_nil))))) (ev_neg (ev_int)))) (ss_one (s_app (i := 1) (ea_cons (ev_var 2) (ea_nil)))))))
    (ss_one (s_ret (ev_var 1))))
theorem sc_choices : FnScope ["size", "many", "found", "k"] ["size", "many"] (defScope s_choices) := ⟨rfl, rfl, rfl, by decide +kernel, rfl, by decide +kernel, by decide +kernel⟩
theorem ok_choices {P : Program} {w : World} {K : PySem.W.Frag} {mg : Str → Option Value} {base : Heap} (T : Say K mg) : FnE P w K mg base 1 "choices" ["size", "many"] F_choices := by
  obtain ⟨fd, F⟩ := T.d_choices
  exact fn_ok F sc_choices T.g_choices (fun _ _ _ _ _ _ us hl => match us, hl with | [_, _], _ => rfl) fun cdv A outer s H E hr =>
    ss_cons (s_set (i := 2) (ev_int) sc_choices.nd)
    (ss_cons (s_for pass_own rfl (iv_range1 (T.m_range) (ea_cons (ev_var 1) (ea_nil))) const_range1 (gv_name (i := 3) sc_choices.nd) (ss_one (s_set (i := 2) (ev_op dop_fdiv (ev_op dop_mul (ev_var 2) (ev_op dop_sub (ev_var 0) (ev_var 3))) (ev_op dop_add (ev_var 3) (ev_int))) sc_choices.nd)))
    (ss_one (s_ret (ev_var 2))))
theorem sc_shared : FnScope ["poly", "degree", "given", "sums", "time", "found", "k", "value"] ["poly", "degree", "given"] (defScope s_shared) := ⟨rfl, rfl, rfl, by decide +kernel, rfl, by decide +kernel, by decide +kernel⟩
theorem ok_shared {P : Program} {w : World} {K : PySem.W.Frag} {mg : Str → Option Value} {base : Heap} (T : Say K mg) : FnE P w K mg base 5 "shared" ["poly", "degree", "given"] F_shared := by
  obtain ⟨fd, F⟩ := T.d_shared
  exact fn_ok F sc_shared T.g_shared (fun _ _ _ _ _ _ us hl => match us, hl with | [_, _, _], _ => rfl) fun cdv A outer s H E hr =>
    ss_cons (s_set (i := 3) (ev_tup (ea_cons (ev_glob T.c_ONE) (ea_nil))) sc_shared.nd)
    (ss_cons (s_for pass_own rfl (iv_seq (ev_var 2)) const_seq (gv_name (i := 4) sc_shared.nd) (ss_one (s_set (i := 3) (ev_call (ok_poly_sum T) (hr.mono (by decide)) pass_cx (ea_cons (ev_var 3) (ea_cons (ev_tup (ea_cons (ev_glob T.c_NOUGHT) (ea_star (ev_call (ok_poly_scaled T) (hr.mono (by decide)) pass_cx (ea_cons (ev_var 3) (ea_cons (ev_var 4) (ea_nil)))) (ea_nil)))) (ea_nil)))) sc_shared.nd)))
    (ss_cons (s_set (i := 5) (ev_glob T.c_NOUGHT) sc_shared.nd)
    (ss_cons (s_for pass_own rfl (iv_enum (T.m_enumerate) (ev_var 0)) const_enum (gv_tup rfl (gvs_cons (gv_name (i := 6) sc_shared.nd) (gvs_cons (gv_name (i := 7) sc_shared.nd) (gvs_nil)))) (ss_one (s_set (i := 5) (ev_call (ok_added T) (hr.mono (by decide)) pass_cx (ea_cons (ev_var 5) (ea_cons (ev_call (ok_quotient T) (hr.mono (by decide)) pass_cx (ea_cons (ev_call (ok_multiplied T) (hr.mono (by decide)) pass_cx (ea_cons (ev_var 7) (ea_cons (ev_call (ok_power_at T) (hr.mono (by decide)) pass_cx (ea_cons (ev_var 3) (ea_cons (ev_var 6) (ea_nil)))) (ea_nil)))) (ea_cons (ev_tup (ea_cons (ev_call (ok_choices T) (hr.mono (by decide)) pass_cx (ea_cons (ev_var 1) (ea_cons (ev_var 6) (ea_nil)))) (ea_cons (ev_int) (ea_nil)))) (ea_nil)))) (ea_nil)))) sc_shared.nd)))
    (ss_one (s_ret (ev_var 5))))))
theorem sc_bend_with_v58ff : FnScope ["degree", "marks", "rows", "at", "knots", "handles", "parts", "spot", "poly", "k"] ["degree", "marks", "rows"] (defScope s_bend_with_v58ff) := ⟨rfl, rfl, rfl, by decide +kernel, rfl, by decide +kernel, by decide +kernel⟩
theorem ok_bend_with_v58ff {P : Program} {w : World} {K : PySem.W.Frag} {mg : Str → Option Value} {base : Heap} (T : Say K mg) : FnE P w K mg base 6 "bend_with" ["degree", "marks", "rows"] F_bend_with_v58ff := by
  obtain ⟨fd, F⟩ := T.d_bend_with_v58ff
  exact fn_ok F sc_bend_with_v58ff T.g_bend_with_v58ff (fun _ _ _ _ _ _ us hl => match us, hl with | [_, _, _], _ => rfl) fun cdv A outer s H E hr =>
    ss_cons (s_parN rfl (nv_cons (i := 4) (nv_cons (i := 5) (nv_cons (i := 6) (nv_nil) sc_bend_with_v58ff.nd) sc_bend_with_v58ff.nd) sc_bend_with_v58ff.nd) (ex_consP (ev_call (ok_knots_of T) (hr.mono (by decide)) pass_cx (ea_cons (ev_var 0) (ea_cons (ev_var 1) (ea_nil)))) (ex_consO (en_lst (ea_nil)) (ex_consP (ev_call (ok_merged T) (hr.mono (by decide)) pass_cx (ea_cons (ev_var 2) (ea_nil))) (ex_nil)))))
    (ss_cons (s_for pass_own rfl (iv_range1 (T.m_range) (ea_cons (ev_op dop_add (ev_op dop_sub (ev_callB dc_len (T.m_len) (by decide +kernel) (ea_cons (ev_var 1) (ea_nil))) (ev_int)) (ev_var 0)) (ea_nil))) const_range1 (gv_name (i := 3) sc_bend_with_v58ff.nd) (ss_cons (s_set (i := 7) (ev_ix (((lc_c (own := [("k", 9)]) (iv_range2 (T.m_range) (ea_cons (ev_var 3) (ea_cons (ev_op dop_add (ev_op dop_add (ev_var 3) (ev_var 0)) (ev_int)) (ea_nil)))) const_range2 (blkOk_by (own := [("k", 9)]) (by kernel_rfl)) (fun _ _ _ _ _ => gv_name (i := 9) sc_bend_with_v58ff.nd) (fun _ _ _ _ _ => eif_one (et_val (ev_call (ok_is_less T) (hr.mono (by decide)) passL (ea_cons (ev_ix (ev_var 4) (ev_var 9)) (ea_cons (ev_ix (ev_var 4) (ev_op dop_add (ev_var 9) (ev_int))) (ea_nil)))))) (fun _ _ _ _ _ => ev_var 9)).en rfl sc_bend_with_v58ff.nd).ev) (ev_int)) sc_bend_with_v58ff.nd)
    (ss_cons (s_set (i := 8) (ev_call (ok_poly_in T) (hr.mono (by decide)) pass_cx (ea_cons (ev_var 6) (ea_cons (ev_ix (ev_var 4) (ev_var 7)) (ea_cons (ev_ix (ev_var 4) (ev_op dop_add (ev_var 7) (ev_int))) (ea_nil))))) sc_bend_with_v58ff.nd)
    (ss_one (s_app (i := 5) (ea_cons (ev_call (ok_shared T) (hr.mono (by decide)) pass_cx (ea_cons (ev_var 8) (ea_cons (ev_var 0) (ea_cons (ev_slice (ev_var 4) (eo_some (ev_op dop_add (ev_var 3) (ev_int))) (eo_some (ev_op dop_add (ev_op dop_add (ev_var 3) (ev_var 0)) (ev_int)))) (ea_nil))))) (ea_nil)))))))
    (ss_one (s_ret (ev_make (mk_Bend T) (hr.mono (by decide)) pass_cx (ea_cons (ev_var 0) (ea_cons (ev_var 1) (ea_cons (ev_var 5) (ea_nil))))))))
theorem sc_least_of_v2f02 : FnScope ["rows", "parts", "degree", "marks", "at", "alike", "k", "row"] ["rows"] (defScope s_least_of_v2f02) := ⟨rfl, rfl, rfl, by decide +kernel, rfl, by decide +kernel, by decide +kernel⟩
theorem ok_least_of_v2f02 {P : Program} {w : World} {K : PySem.W.Frag} {mg : Str → Option Value} {base : Heap} (T : Say K mg) : FnE P w K mg base 8 "least_of" ["rows"] F_least_of_v2f02 := by
  obtain ⟨fd, F⟩ := T.d_least_of_v2f02
  exact fn_ok F sc_least_of_v2f02 T.g_least_of_v2f02 (fun _ _ _ _ _ _ us hl => match us, hl with | [_], _ => rfl) fun cdv A outer s H E hr =>
    ss_cons (s_set (i := 1) (ev_call (ok_merged T) (hr.mono (by decide)) pass_cx (ea_cons (ev_var 0) (ea_nil))) sc_least_of_v2f02.nd)
    (ss_cons (s_set (i := 2) (ev_callB (dc_max1 rfl) (T.m_max) (by decide +kernel) (ea_cons ((en_lst (ea_cons (ev_int) (ea_star (((lc_c (own := [("row", 7)]) (iv_seq (ev_var 1)) const_seq (blkOk_by (own := [("row", 7)]) (by kernel_rfl)) (fun _ _ _ _ _ => gv_name (i := 7) sc_least_of_v2f02.nd) (fun _ _ _ _ _ => eif_nil) (fun _ _ _ _ _ => ev_op dop_sub (ev_callB dc_len (T.m_len) (by decide +kernel) (ea_cons (ev_fld (ev_var 7) T.cl_Piece T.na_Piece_poly) (ea_nil))) (ev_int))).en rfl sc_least_of_v2f02.nd).ev) (ea_nil)))).ev) (ea_nil))) sc_least_of_v2f02.nd)
    (ss_cons (s_own (i := 3) (en_lst (ea_cons (ev_fld (ev_ix (ev_var 1) (ev_int)) T.cl_Piece T.na_Piece_start) (ea_nil))) sc_least_of_v2f02.nd)
    (ss_cons (s_for pass_own rfl (iv_range1 (T.m_range) (ea_cons (ev_op dop_sub (ev_callB dc_len (T.m_len) (by decide +kernel) (ea_cons (ev_var 1) (ea_nil))) (ev_int)) (ea_nil))) const_range1 (gv_name (i := 4) sc_least_of_v2f02.nd) (ss_cons (s_set (i := 5) (ev_call (ok_alike_slopes T) (hr.mono (by decide)) pass_cx (ea_cons (ev_fld (ev_ix (ev_var 1) (ev_var 4)) T.cl_Piece T.na_Piece_poly) (ea_cons (ev_fld (ev_ix (ev_var 1) (ev_op dop_add (ev_var 4) (ev_int))) T.cl_Piece T.na_Piece_poly) (ea_cons (ev_fld (ev_ix (ev_var 1) (ev_var 4)) T.cl_Piece T.na_Piece_end) (ea_nil))))) sc_least_of_v2f02.nd)
    (ss_one (s_ext (i := 3) (ea_cons (((lc_c (own := [("k", 6)]) (iv_range1 (T.m_range) (ea_cons (ev_op dop_sub (ev_var 2) (ev_var 5)) (ea_nil))) const_range1 (blkOk_by (own := [("k", 6)]) (by kernel_rfl)) (fun _ _ _ _ _ => gv_name (i := 6) sc_least_of_v2f02.nd) (fun _ _ _ _ _ => eif_nil) (fun _ _ _ _ _ => ev_fld (ev_ix (ev_var 1) (ev_var 4)) T.cl_Piece T.na_Piece_end)).en rfl sc_least_of_v2f02.nd).ev) (ea_nil))))))
    (ss_one (s_ret (ev_call (ok_bend_with_v58ff T) (hr.mono (by decide)) pass_cx (ea_cons (ev_var 2) (ea_cons ((en_lst (ea_star (ev_var 3) (ea_cons (ev_fld (ev_ix (ev_var 1) (ev_neg (ev_int))) T.cl_Piece T.na_Piece_end) (ea_nil)))).ev) (ea_cons (ev_var 1) (ea_nil))))))))))
theorem sc_least_v607e : FnScope ["bend"] ["bend"] (defScope s_least_v607e) := ⟨rfl, rfl, rfl, by decide +kernel, rfl, by decide +kernel, by decide +kernel⟩
theorem ok_least_v607e {P : Program} {w : World} {K : PySem.W.Frag} {mg : Str → Option Value} {base : Heap} (T : Say K mg) : FnE P w K mg base 9 "least" ["bend"] F_least_v607e := by
  obtain ⟨fd, F⟩ := T.d_least_v607e
  exact fn_ok F sc_least_v607e T.g_least_v607e (fun _ _ _ _ _ _ us hl => match us, hl with | [_], _ => rfl) fun cdv A outer s H E hr =>
    ss_one (s_ret (ev_call (ok_least_of_v2f02 T) (hr.mono (by decide)) pass_cx (ea_cons (ev_call (ok_pieces_of T) (hr.mono (by decide)) pass_cx (ea_cons (ev_var 0) (ea_nil))) (ea_nil))))
theorem sc_told_signs : FnScope ["row", "sign"] ["row"] (defScope s_told_signs) := ⟨rfl, rfl, rfl, by decide +kernel, rfl, by decide +kernel, by decide +kernel⟩
theorem ok_told_signs {P : Program} {w : World} {K : PySem.W.Frag} {mg : Str → Option Value} {base : Heap} (T : Say K mg) : FnE P w K mg base 1 "told_signs" ["row"] F_told_signs := by
  obtain ⟨fd, F⟩ := T.d_told_signs
  exact fn_ok F sc_told_signs T.g_told_signs (fun _ _ _ _ _ _ us hl => match us, hl with | [_], _ => rfl) fun cdv A outer s H E hr =>
    ss_one (s_ret (ev_join (ev_str) (((lc_c (own := [("sign", 1)]) (iv_seq (ev_var 0)) const_seq (blkOk_by (own := [("sign", 1)]) (by kernel_rfl)) (fun _ _ _ _ _ => gv_name (i := 1) sc_told_signs.nd) (fun _ _ _ _ _ => eif_nil) (fun _ _ _ _ _ => ev_gdic (tab := [((-1), "-"), (0, "0"), (1, "+")]) T.gd_SIGNS T.gb_SIGNS (ev_var 1))).en rfl sc_told_signs.nd).ev)))
theorem sc_Desk_alone : FnScope ["self", "word"] ["self", "word"] (defScope s_Desk_alone) := ⟨rfl, rfl, rfl, by decide +kernel, rfl, by decide +kernel, by decide +kernel⟩
theorem me_Desk_alone {P : Program} {w : World} {K : PySem.W.Frag} {mg : Str → Option Value} {base : Heap} (T : Say K mg) : DkE P w K mg base 14 "alone" 1 F_Desk_alone := by
  obtain ⟨fd, F⟩ := T.d_Desk_alone
  exact meth_okDk F sc_Desk_alone T.cl_Desk T.me_Desk_alone (fun _ _ _ _ _ _ us hl => match us, hl with | [_, _], _ => rfl) fun cdv A outer s H E hr =>
    ssL_ifP (et_cmp (dop_eq hr.units) (ev_var 1) (ev_str) (nomark _)) (ssL_ret (evL_strO (me_Bend___str__ T) (hr.mono (by decide)) pass_cx ((evR_call (ok_least_v607e T) (hr.mono (by decide)) pass_cx (eaR_cons (evR_prop (prf_Live_bend T) (hr.mono (by decide)) T.cl_Desk T.na_Desk_live) (eaR_of (ea_nil)))).l) (T.m_str)))
    (ssL_ifC ((ewL_and (etL_of (et_cmp (dop_eq hr.units) (ev_var 1) (ev_str) (nomark _))) (ewL_and1 (etL_not (etL_val (evL_meth0 (me_Live_undo T) (hr.mono (by decide)) pass_cx T.cl_Desk T.na_Desk_live))))).et) (ssL_of (ss_one (s_ret (ev_str))))
    (ssL_ret ((evR_call (ok_told_signs T) (hr.mono (by decide)) pass_cx (eaR_cons (evR_prop (prf_Live_signs T) (hr.mono (by decide)) T.cl_Desk T.na_Desk_live) (eaR_of (ea_nil)))).l)))
theorem sc_Live_go_on : FnScope ["self", "bend"] ["self", "bend"] (defScope s_Live_go_on) := ⟨rfl, rfl, rfl, by decide +kernel, rfl, by decide +kernel, by decide +kernel⟩
theorem me_Live_go_on {P : Program} {w : World} {K : PySem.W.Frag} {mg : Str → Option Value} {base : Heap} (T : Say K mg) : MmE P w K mg base 12 "Live" "go_on" 1 F_Live_go_on := by
  obtain ⟨fd, F⟩ := T.d_Live_go_on
  exact meth_okM F sc_Live_go_on T.cl_Live T.me_Live_go_on (fun _ _ _ _ _ _ us hl => match us, hl with | [_, _], _ => rfl) fun cdv A outer s H E hr =>
    ss_cons (s_fldS (i := 0) (ev_tup (ea_star (ev_fldS (i := 0) T.cl_Live T.na_Live_past) (ea_cons (ev_fldS (i := 0) T.cl_Live T.na_Live_now) (ea_nil)))) T.cl_Live T.na_Live_past)
    (ss_cons (s_fldS (i := 0) (ev_var 1) T.cl_Live T.na_Live_now)
    (ss_cons (s_fldS (i := 0) (ev_call (ok_sign_row T) (hr.mono (by decide)) pass_cx (ea_cons (ev_var 1) (ea_nil))) T.cl_Live T.na_Live_row)
    (ss_one (s_ret (ev_fldS (i := 0) T.cl_Live T.na_Live_row)))))
theorem sc_InvalidTime_init : FnScope ["self", "time"] ["self", "time"] (defScope s_InvalidTime_init) := ⟨rfl, rfl, rfl, by decide +kernel, rfl, by decide +kernel, by decide +kernel⟩
theorem xc_InvalidTime {P : Program} {w : World} {K : PySem.W.Frag} {mg : Str → Option Value} {base : Heap} (T : Say K mg) : XcE P w K mg base 1 "InvalidTime" "time" := by
  obtain ⟨fd, F⟩ := T.d_InvalidTime_init
  exact exc_ok F sc_InvalidTime_init T.xf_InvalidTime T.gc_InvalidTime (fun _ _ _ _ _ _ us hl => match us, hl with | [_, _], _ => rfl) fun cdv A outer s H E => exc_suite rfl rfl (by first | exact Or.inl rfl | exact Or.inr (Or.inl rfl) | exact Or.inr (Or.inr rfl)) (by first | exact Or.inl rfl | exact Or.inr (Or.inl rfl) | exact Or.inr (Or.inr rfl)) rfl T.gc_BendError T.bot_BendError T.xf_InvalidTime.o T.xf_InvalidTime.n (by decide) (by decide) (by decide) rfl rfl rfl
theorem sc_need_inside : FnScope ["bend", "time", "found"] ["bend", "time"] (defScope s_need_inside) := ⟨rfl, rfl, rfl, by decide +kernel, rfl, by decide +kernel, by decide +kernel⟩
theorem ok_need_inside {P : Program} {w : World} {K : PySem.W.Frag} {mg : Str → Option Value} {base : Heap} (T : Say K mg) : FnE P w K mg base 3 "need_inside" ["bend", "time"] F_need_inside := by
  obtain ⟨fd, F⟩ := T.d_need_inside
  exact fn_ok F sc_need_inside T.g_need_inside (fun _ _ _ _ _ _ us hl => match us, hl with | [_, _], _ => rfl) fun cdv A outer s H E hr =>
    ss_cons (s_if (et_not (et_val (ev_call (ok_is_value T) (hr.mono (by decide)) pass_cx (ea_cons (ev_var 1) (ea_nil))))) (ss_one (s_raise (xc_InvalidTime T) (hr.mono (by decide)) rfl (takes_of rfl rfl rfl rfl) (ev_var 1))) (ss_nil))
    (ss_cons (s_set (i := 2) (ev_call (ok_value_of T) (hr.mono (by decide)) pass_cx (ea_cons (ev_var 1) (ea_nil))) sc_need_inside.nd)
    (ss_cons (s_if ((ew_or (et_not (et_val (ev_call (ok_is_less T) (hr.mono (by decide)) pass_cx (ea_cons (ev_ix (ev_fld (ev_var 0) T.cl_Bend T.na_Bend_marks) (ev_int)) (ea_cons (ev_var 2) (ea_nil)))))) (ew_or1 (et_not (et_val (ev_call (ok_is_less T) (hr.mono (by decide)) pass_cx (ea_cons (ev_var 2) (ea_cons (ev_ix (ev_fld (ev_var 0) T.cl_Bend T.na_Bend_marks) (ev_neg (ev_int))) (ea_nil)))))))).et) (ss_one (s_raise (xc_InvalidTime T) (hr.mono (by decide)) rfl (takes_of rfl rfl rfl rfl) (ev_var 1))) (ss_nil))
    (ss_one (s_ret (ev_var 2)))))
theorem sc_put_in : FnScope ["marks", "spot", "one"] ["marks", "spot"] (defScope s_put_in) := ⟨rfl, rfl, rfl, by decide +kernel, rfl, by decide +kernel, by decide +kernel⟩
theorem ok_put_in {P : Program} {w : World} {K : PySem.W.Frag} {mg : Str → Option Value} {base : Heap} (T : Say K mg) : FnE P w K mg base 2 "put_in" ["marks", "spot"] F_put_in := by
  obtain ⟨fd, F⟩ := T.d_put_in
  exact fn_ok F sc_put_in T.g_put_in (fun _ _ _ _ _ _ us hl => match us, hl with | [_, _], _ => rfl) fun cdv A outer s H E hr =>
    ss_one (s_ret (ev_tup (ea_star (((lc_c (own := [("one", 2)]) (iv_seq (ev_var 0)) const_seq (blkOk_by (own := [("one", 2)]) (by kernel_rfl)) (fun _ _ _ _ _ => gv_name (i := 2) sc_put_in.nd) (fun _ _ _ _ _ => eif_one (et_not (et_val (ev_call (ok_is_less T) (hr.mono (by decide)) passL (ea_cons (ev_var 1) (ea_cons (ev_var 2) (ea_nil))))))) (fun _ _ _ _ _ => ev_var 2)).en rfl sc_put_in.nd).ev) (ea_cons (ev_var 1) (ea_star (((lc_c (own := [("one", 2)]) (iv_seq (ev_var 0)) const_seq (blkOk_by (own := [("one", 2)]) (by kernel_rfl)) (fun _ _ _ _ _ => gv_name (i := 2) sc_put_in.nd) (fun _ _ _ _ _ => eif_one (et_val (ev_call (ok_is_less T) (hr.mono (by decide)) passL (ea_cons (ev_var 1) (ea_cons (ev_var 2) (ea_nil)))))) (fun _ _ _ _ _ => ev_var 2)).en rfl sc_put_in.nd).ev) (ea_nil))))))
theorem sc_with_mark_v73ae : FnScope ["bend", "time", "spot"] ["bend", "time"] (defScope s_with_mark_v73ae) := ⟨rfl, rfl, rfl, by decide +kernel, rfl, by decide +kernel, by decide +kernel⟩
theorem ok_with_mark_v73ae {P : Program} {w : World} {K : PySem.W.Frag} {mg : Str → Option Value} {base : Heap} (T : Say K mg) : FnE P w K mg base 7 "with_mark" ["bend", "time"] F_with_mark_v73ae := by
  obtain ⟨fd, F⟩ := T.d_with_mark_v73ae
  exact fn_ok F sc_with_mark_v73ae T.g_with_mark_v73ae (fun _ _ _ _ _ _ us hl => match us, hl with | [_, _], _ => rfl) fun cdv A outer s H E hr =>
    ss_cons (s_set (i := 2) (ev_call (ok_need_inside T) (hr.mono (by decide)) pass_cx (ea_cons (ev_var 0) (ea_cons (ev_var 1) (ea_nil)))) sc_with_mark_v73ae.nd)
    (ss_cons (s_if (et_cmp dop_ge (ev_cntT (ev_fld (ev_var 0) T.cl_Bend T.na_Bend_marks) (ev_var 2) (hu65 hr)) (ev_fld (ev_var 0) T.cl_Bend T.na_Bend_degree) (nomark _)) (ss_one (s_raise (xc_InvalidTime T) (hr.mono (by decide)) rfl (takes_of rfl rfl rfl rfl) (ev_var 1))) (ss_nil))
    (ss_one (s_ret (ev_call (ok_bend_with_v58ff T) (hr.mono (by decide)) pass_cx (ea_cons (ev_fld (ev_var 0) T.cl_Bend T.na_Bend_degree) (ea_cons (ev_call (ok_put_in T) (hr.mono (by decide)) pass_cx (ea_cons (ev_fld (ev_var 0) T.cl_Bend T.na_Bend_marks) (ea_cons (ev_var 2) (ea_nil)))) (ea_cons (ev_call (ok_pieces_of T) (hr.mono (by decide)) pass_cx (ea_cons (ev_var 0) (ea_nil))) (ea_nil))))))))
theorem sc_Live_mark : FnScope ["self", "time"] ["self", "time"] (defScope s_Live_mark) := ⟨rfl, rfl, rfl, by decide +kernel, rfl, by decide +kernel, by decide +kernel⟩
theorem me_Live_mark {P : Program} {w : World} {K : PySem.W.Frag} {mg : Str → Option Value} {base : Heap} (T : Say K mg) : MmE P w K mg base 14 "Live" "mark" 1 F_Live_mark := by
  obtain ⟨fd, F⟩ := T.d_Live_mark
  exact meth_okM F sc_Live_mark T.cl_Live T.me_Live_mark (fun _ _ _ _ _ _ us hl => match us, hl with | [_, _], _ => rfl) fun cdv A outer s H E hr =>
    ss_one (s_ret (ev_methE (i := 0) (me_Live_go_on T) (hr.mono (by decide)) pass_cx (ea_cons (ev_call (ok_with_mark_v73ae T) (hr.mono (by decide)) pass_cx (ea_cons (ev_fldS (i := 0) T.cl_Live T.na_Live_now) (ea_cons (ev_var 1) (ea_nil)))) (ea_nil))))
theorem sc_NoMark_init : FnScope ["self", "time"] ["self", "time"] (defScope s_NoMark_init) := ⟨rfl, rfl, rfl, by decide +kernel, rfl, by decide +kernel, by decide +kernel⟩
theorem xc_NoMark {P : Program} {w : World} {K : PySem.W.Frag} {mg : Str → Option Value} {base : Heap} (T : Say K mg) : XcE P w K mg base 1 "NoMark" "time" := by
  obtain ⟨fd, F⟩ := T.d_NoMark_init
  exact exc_ok F sc_NoMark_init T.xf_NoMark T.gc_NoMark (fun _ _ _ _ _ _ us hl => match us, hl with | [_, _], _ => rfl) fun cdv A outer s H E => exc_suite rfl rfl (by first | exact Or.inl rfl | exact Or.inr (Or.inl rfl) | exact Or.inr (Or.inr rfl)) (by first | exact Or.inl rfl | exact Or.inr (Or.inl rfl) | exact Or.inr (Or.inr rfl)) rfl T.gc_BendError T.bot_BendError T.xf_NoMark.o T.xf_NoMark.n (by decide) (by decide) (by decide) rfl rfl rfl
theorem sc_taken_out : FnScope ["marks", "spot", "at"] ["marks", "spot"] (defScope s_taken_out) := ⟨rfl, rfl, rfl, by decide +kernel, rfl, by decide +kernel, by decide +kernel⟩
theorem ok_taken_out {P : Program} {w : World} {K : PySem.W.Frag} {mg : Str → Option Value} {base : Heap} (T : Say K mg) : FnE P w K mg base 1 "taken_out" ["marks", "spot"] F_taken_out := by
  obtain ⟨fd, F⟩ := T.d_taken_out
  exact fn_ok F sc_taken_out T.g_taken_out (fun _ _ _ _ _ _ us hl => match us, hl with | [_, _], _ => rfl) fun cdv A outer s H E hr =>
    ss_cons (s_set (i := 2) (ev_idxT (ev_var 0) (ev_var 1) (hu65 hr)) sc_taken_out.nd)
    (ss_one (s_ret (ev_tup (ea_star (ev_slice (ev_var 0) (eo_none) (eo_some (ev_var 2))) (ea_star (ev_slice (ev_var 0) (eo_some (ev_op dop_add (ev_var 2) (ev_int))) (eo_none)) (ea_nil))))))
theorem sc_smooth_at : FnScope ["rows", "spot", "left", "right", "row"] ["rows", "spot"] (defScope s_smooth_at) := ⟨rfl, rfl, rfl, by decide +kernel, rfl, by decide +kernel, by decide +kernel⟩
theorem ok_smooth_at {P : Program} {w : World} {K : PySem.W.Frag} {mg : Str → Option Value} {base : Heap} (T : Say K mg) : FnE P w K mg base 8 "smooth_at" ["rows", "spot"] F_smooth_at := by
  obtain ⟨fd, F⟩ := T.d_smooth_at
  exact fn_ok F sc_smooth_at T.g_smooth_at (fun _ _ _ _ _ _ us hl => match us, hl with | [_, _], _ => rfl) fun cdv A outer s H E hr =>
    ss_cons (s_set (i := 2) (ev_ix (((lc_c (own := [("row", 4)]) (iv_seq (ev_var 0)) const_seq (blkOk_by (own := [("row", 4)]) (by kernel_rfl)) (fun _ _ _ _ _ => gv_name (i := 4) sc_smooth_at.nd) (fun _ _ _ _ _ => eif_one ((ew_and (et_val (ev_call (ok_is_less T) (hr.mono (by decide)) passL (ea_cons (ev_fld (ev_var 4) T.cl_Piece T.na_Piece_start) (ea_cons (ev_var 1) (ea_nil))))) (ew_and1 (et_val (ev_call (ok_is_at_most T) (hr.mono (by decide)) passL (ea_cons (ev_var 1) (ea_cons (ev_fld (ev_var 4) T.cl_Piece T.na_Piece_end) (ea_nil))))))).et)) (fun _ _ _ _ _ => ev_fld (ev_var 4) T.cl_Piece T.na_Piece_poly)).en rfl sc_smooth_at.nd).ev) (ev_int)) sc_smooth_at.nd)
    (ss_cons (s_set (i := 3) (ev_ix (((lc_c (own := [("row", 4)]) (iv_seq (ev_var 0)) const_seq (blkOk_by (own := [("row", 4)]) (by kernel_rfl)) (fun _ _ _ _ _ => gv_name (i := 4) sc_smooth_at.nd) (fun _ _ _ _ _ => eif_one ((ew_and (et_val (ev_call (ok_is_at_most T) (hr.mono (by decide)) passL (ea_cons (ev_fld (ev_var 4) T.cl_Piece T.na_Piece_start) (ea_cons (ev_var 1) (ea_nil))))) (ew_and1 (et_val (ev_call (ok_is_less T) (hr.mono (by decide)) passL (ea_cons (ev_var 1) (ea_cons (ev_fld (ev_var 4) T.cl_Piece T.na_Piece_end) (ea_nil))))))).et)) (fun _ _ _ _ _ => ev_fld (ev_var 4) T.cl_Piece T.na_Piece_poly)).en rfl sc_smooth_at.nd).ev) (ev_int)) sc_smooth_at.nd)
    (ss_one (s_ret (ev_call (ok_alike_slopes T) (hr.mono (by decide)) pass_cx (ea_cons (ev_var 2) (ea_cons (ev_var 3) (ea_cons (ev_var 1) (ea_nil))))))))
theorem sc_wanted_at : FnScope ["rows", "degree", "spot", "alike"] ["rows", "degree", "spot"] (defScope s_wanted_at) := ⟨rfl, rfl, rfl, by decide +kernel, rfl, by decide +kernel, by decide +kernel⟩
theorem ok_wanted_at {P : Program} {w : World} {K : PySem.W.Frag} {mg : Str → Option Value} {base : Heap} (T : Say K mg) : FnE P w K mg base 9 "wanted_at" ["rows", "degree", "spot"] F_wanted_at := by
  obtain ⟨fd, F⟩ := T.d_wanted_at
  exact fn_ok F sc_wanted_at T.g_wanted_at (fun _ _ _ _ _ _ us hl => match us, hl with | [_, _, _], _ => rfl) fun cdv A outer s H E hr =>
    ss_cons (s_set (i := 3) (ev_call (ok_smooth_at T) (hr.mono (by decide)) pass_cx (ea_cons (ev_var 0) (ea_cons (ev_var 2) (ea_nil)))) sc_wanted_at.nd)
    (ss_one (s_ret (ev_if (et_cmp dop_is (ev_var 3) (ev_non) (nomark _)) (ev_int) (ev_callB (dc_max rfl) (T.m_max) (by decide +kernel) (ea_cons (ev_int) (ea_cons (ev_op dop_sub (ev_var 1) (ev_var 3)) (ea_nil)))))))
theorem sc_without_mark_v2561 : FnScope ["bend", "time", "spot", "rows"] ["bend", "time"] (defScope s_without_mark_v2561) := ⟨rfl, rfl, rfl, by decide +kernel, rfl, by decide +kernel, by decide +kernel⟩
theorem ok_without_mark_v2561 {P : Program} {w : World} {K : PySem.W.Frag} {mg : Str → Option Value} {base : Heap} (T : Say K mg) : FnE P w K mg base 10 "without_mark" ["bend", "time"] F_without_mark_v2561 := by
  obtain ⟨fd, F⟩ := T.d_without_mark_v2561
  exact fn_ok F sc_without_mark_v2561 T.g_without_mark_v2561 (fun _ _ _ _ _ _ us hl => match us, hl with | [_, _], _ => rfl) fun cdv A outer s H E hr =>
    ss_cons (s_if ((ew_or (et_not (et_val (ev_call (ok_is_value T) (hr.mono (by decide)) pass_cx (ea_cons (ev_var 1) (ea_nil))))) (ew_or1 (et_cmp (dop_notInT (hu65 hr)) (ev_call (ok_value_of T) (hr.mono (by decide)) pass_cx (ea_cons (ev_var 1) (ea_nil))) (ev_slice (ev_fld (ev_var 0) T.cl_Bend T.na_Bend_marks) (eo_some (ev_int)) (eo_some (ev_neg (ev_int)))) (by rfl)))).et) (ss_one (s_raise (xc_NoMark T) (hr.mono (by decide)) rfl (takes_of rfl rfl rfl rfl) (ev_var 1))) (ss_nil))
    (ss_cons (s_par2 (i := 2) (j := 3) rfl sc_without_mark_v2561.nd (ex_consP (ev_call (ok_value_of T) (hr.mono (by decide)) pass_cx (ea_cons (ev_var 1) (ea_nil))) (ex_consP (ev_call (ok_pieces_of T) (hr.mono (by decide)) pass_cx (ea_cons (ev_var 0) (ea_nil))) (ex_nil))))
    (ss_cons (s_if (et_cmp dop_le (ev_cntT (ev_fld (ev_var 0) T.cl_Bend T.na_Bend_marks) (ev_var 2) (hu65 hr)) (ev_call (ok_wanted_at T) (hr.mono (by decide)) pass_cx (ea_cons (ev_var 3) (ea_cons (ev_fld (ev_var 0) T.cl_Bend T.na_Bend_degree) (ea_cons (ev_var 2) (ea_nil))))) (nomark _)) (ss_one (s_ret (ev_non))) (ss_nil))
    (ss_one (s_ret (ev_call (ok_bend_with_v58ff T) (hr.mono (by decide)) pass_cx (ea_cons (ev_fld (ev_var 0) T.cl_Bend T.na_Bend_degree) (ea_cons (ev_call (ok_taken_out T) (hr.mono (by decide)) pass_cx (ea_cons (ev_fld (ev_var 0) T.cl_Bend T.na_Bend_marks) (ea_cons (ev_var 2) (ea_nil)))) (ea_cons (ev_var 3) (ea_nil)))))))))
theorem sc_Live_unmark : FnScope ["self", "time", "bend"] ["self", "time"] (defScope s_Live_unmark) := ⟨rfl, rfl, rfl, by decide +kernel, rfl, by decide +kernel, by decide +kernel⟩
theorem me_Live_unmark {P : Program} {w : World} {K : PySem.W.Frag} {mg : Str → Option Value} {base : Heap} (T : Say K mg) : MmE P w K mg base 14 "Live" "unmark" 1 F_Live_unmark := by
  obtain ⟨fd, F⟩ := T.d_Live_unmark
  exact meth_okM F sc_Live_unmark T.cl_Live T.me_Live_unmark (fun _ _ _ _ _ _ us hl => match us, hl with | [_, _], _ => rfl) fun cdv A outer s H E hr =>
    ss_cons (s_set (i := 2) (ev_call (ok_without_mark_v2561 T) (hr.mono (by decide)) pass_cx (ea_cons (ev_fldS (i := 0) T.cl_Live T.na_Live_now) (ea_cons (ev_var 1) (ea_nil)))) sc_Live_unmark.nd)
    (ss_cons (s_if (et_cmp dop_is (ev_var 2) (ev_non) (nomark _)) (ss_one (s_ret (ev_bl))) (ss_nil))
    (ss_cons (s_expr (ev_methI (i := 0) (me_Live_go_on T) (hr.mono (by decide)) pass_cx (ea_cons (ev_var 2) (ea_nil))))
    (ss_one (s_ret (ev_bl)))))
theorem sc_share_of : FnScope ["here", "there", "time"] ["here", "there", "time"] (defScope s_share_of) := ⟨rfl, rfl, rfl, by decide +kernel, rfl, by decide +kernel, by decide +kernel⟩
theorem ok_share_of {P : Program} {w : World} {K : PySem.W.Frag} {mg : Str → Option Value} {base : Heap} (T : Say K mg) : FnE P w K mg base 4 "share_of" ["here", "there", "time"] F_share_of := by
  obtain ⟨fd, F⟩ := T.d_share_of
  exact fn_ok F sc_share_of T.g_share_of (fun _ _ _ _ _ _ us hl => match us, hl with | [_, _, _], _ => rfl) fun cdv A outer s H E hr =>
    ss_one (s_ret (ev_if (et_cmp (dop_eq hr.units) (ev_var 0) (ev_var 1) (nomark _)) (ev_glob T.c_NOUGHT) (ev_call (ok_quotient T) (hr.mono (by decide)) pass_cx (ea_cons (ev_call (ok_less_by T) (hr.mono (by decide)) pass_cx (ea_cons (ev_var 2) (ea_cons (ev_var 0) (ea_nil)))) (ea_cons (ev_call (ok_less_by T) (hr.mono (by decide)) pass_cx (ea_cons (ev_var 1) (ea_cons (ev_var 0) (ea_nil)))) (ea_nil))))))
theorem sc_span_of : FnScope ["knots", "time", "full", "here", "at"] ["knots", "time"] (defScope s_span_of) := ⟨rfl, rfl, rfl, by decide +kernel, rfl, by decide +kernel, by decide +kernel⟩
theorem ok_span_of {P : Program} {w : World} {K : PySem.W.Frag} {mg : Str → Option Value} {base : Heap} (T : Say K mg) : FnE P w K mg base 3 "span_of" ["knots", "time"] F_span_of := by
  obtain ⟨fd, F⟩ := T.d_span_of
  exact fn_ok F sc_span_of T.g_span_of (fun _ _ _ _ _ _ us hl => match us, hl with | [_, _], _ => rfl) fun cdv A outer s H E hr =>
    ss_cons ((lc_c (own := [("at", 4)]) (iv_range1 (T.m_range) (ea_cons (ev_op dop_sub (ev_callB dc_len (T.m_len) (by decide +kernel) (ea_cons (ev_var 0) (ea_nil))) (ev_int)) (ea_nil))) const_range1 (blkOk_by (own := [("at", 4)]) (by kernel_rfl)) (fun _ _ _ _ _ => gv_name (i := 4) sc_span_of.nd) (fun _ _ _ _ _ => eif_one (et_val (ev_call (ok_is_less T) (hr.mono (by decide)) passL (ea_cons (ev_ix (ev_var 0) (ev_var 4)) (ea_cons (ev_ix (ev_var 0) (ev_op dop_add (ev_var 4) (ev_int))) (ea_nil)))))) (fun _ _ _ _ _ => ev_var 4)).set (i := 2) rfl sc_span_of.nd (sw_true rfl rfl rfl (by kernel_rfl)))
    (ss_cons ((lc_c (own := [("at", 4)]) (iv_seq (ev_var 2)) const_seq (blkOk_by (own := [("at", 4)]) (by kernel_rfl)) (fun _ _ _ _ _ => gv_name (i := 4) sc_span_of.nd) (fun _ _ _ _ _ => eif_one ((ew_and (et_val (ev_call (ok_is_at_most T) (hr.mono (by decide)) passL (ea_cons (ev_ix (ev_var 0) (ev_var 4)) (ea_cons (ev_var 1) (ea_nil))))) (ew_and1 (et_val (ev_call (ok_is_less T) (hr.mono (by decide)) passL (ea_cons (ev_var 1) (ea_cons (ev_ix (ev_var 0) (ev_op dop_add (ev_var 4) (ev_int))) (ea_nil))))))).et)) (fun _ _ _ _ _ => ev_var 4)).set (i := 3) rfl sc_span_of.nd (sw_true rfl rfl rfl (by kernel_rfl)))
    (ss_one (s_ret (ev_if (et_cmp dop_gt (ev_callB dc_len (T.m_len) (by decide +kernel) (ea_cons (ev_var 3) (ea_nil))) (ev_int) (nomark _)) (ev_ix (ev_var 3) (ev_int)) (ev_ix (ev_var 2) (ev_neg (ev_int)))))))
theorem sc_all_weights : FnScope ["degree", "knots", "time", "span", "found", "deep", "later", "at", "up", "down"] ["degree", "knots", "time"] (defScope s_all_weights) := ⟨rfl, rfl, rfl, by decide +kernel, rfl, by decide +kernel, by decide +kernel⟩
theorem ok_all_weights {P : Program} {w : World} {K : PySem.W.Frag} {mg : Str → Option Value} {base : Heap} (T : Say K mg) : FnE P w K mg base 5 "all_weights" ["degree", "knots", "time"] F_all_weights := by
  obtain ⟨fd, F⟩ := T.d_all_weights
  exact fn_ok F sc_all_weights T.g_all_weights (fun _ _ _ _ _ _ us hl => match us, hl with | [_, _, _], _ => rfl) fun cdv A outer s H E hr =>
    ss_cons (s_set (i := 3) (ev_call (ok_span_of T) (hr.mono (by decide)) pass_cx (ea_cons (ev_var 1) (ea_cons (ev_var 2) (ea_nil)))) sc_all_weights.nd)
    (ss_cons ((lc_c (own := [("at", 7)]) (iv_range1 (T.m_range) (ea_cons (ev_op dop_sub (ev_callB dc_len (T.m_len) (by decide +kernel) (ea_cons (ev_var 1) (ea_nil))) (ev_int)) (ea_nil))) const_range1 (blkOk_by (own := [("at", 7)]) (by kernel_rfl)) (fun _ _ _ _ _ => gv_name (i := 7) sc_all_weights.nd) (fun _ _ _ _ _ => eif_nil) (fun _ _ _ _ _ => ev_if (et_cmp (dop_eq hr.units) (ev_var 7) (ev_var 3) (nomark _)) (ev_glob T.c_ONE) (ev_glob T.c_NOUGHT))).set (i := 4) rfl sc_all_weights.nd (sw_true rfl rfl rfl (by kernel_rfl)))
    (ss_cons (s_for pass_own rfl (iv_range2 (T.m_range) (ea_cons (ev_int) (ea_cons (ev_op dop_add (ev_var 0) (ev_int)) (ea_nil)))) const_range2 (gv_name (i := 5) sc_all_weights.nd) (ss_cons (s_own (i := 6) (en_lst (ea_nil)) sc_all_weights.nd)
    (ss_cons (s_for pass_own rfl (iv_range1 (T.m_range) (ea_cons (ev_op dop_sub (ev_callB dc_len (T.m_len) (by decide +kernel) (ea_cons (ev_var 4) (ea_nil))) (ev_int)) (ea_nil))) const_range1 (gv_name (i := 7) sc_all_weights.nd) (ss_cons (s_set (i := 8) (ev_call (ok_multiplied T) (hr.mono (by decide)) pass_cx (ea_cons (ev_call (ok_share_of T) (hr.mono (by decide)) pass_cx (ea_cons (ev_ix (ev_var 1) (ev_var 7)) (ea_cons (ev_ix (ev_var 1) (ev_op dop_add (ev_var 7) (ev_var 5))) (ea_cons (ev_var 2) (ea_nil))))) (ea_cons (ev_ix (ev_var 4) (ev_var 7)) (ea_nil)))) sc_all_weights.nd)
    (ss_cons (s_set (i := 9) (ev_call (ok_multiplied T) (hr.mono (by decide)) pass_cx (ea_cons (ev_call (ok_share_of T) (hr.mono (by decide)) pass_cx (ea_cons (ev_ix (ev_var 1) (ev_op dop_add (ev_op dop_add (ev_var 7) (ev_var 5)) (ev_int))) (ea_cons (ev_ix (ev_var 1) (ev_op dop_add (ev_var 7) (ev_int))) (ea_cons (ev_var 2) (ea_nil))))) (ea_cons (ev_ix (ev_var 4) (ev_op dop_add (ev_var 7) (ev_int))) (ea_nil)))) sc_all_weights.nd)
    (ss_one (s_app (i := 6) (ea_cons (ev_call (ok_added T) (hr.mono (by decide)) pass_cx (ea_cons (ev_var 8) (ea_cons (ev_var 9) (ea_nil)))) (ea_nil)))))))
    (ss_one (s_set (i := 4) (ev_var 6) sc_all_weights.nd)))))
    (ss_one (s_ret (ev_callTy dc_tuple (T.m_tuple) (by decide +kernel) (ea_cons (ev_var 4) (ea_nil)))))))
theorem sc_need_time : FnScope ["marks", "time", "found"] ["marks", "time"] (defScope s_need_time) := ⟨rfl, rfl, rfl, by decide +kernel, rfl, by decide +kernel, by decide +kernel⟩
theorem ok_need_time {P : Program} {w : World} {K : PySem.W.Frag} {mg : Str → Option Value} {base : Heap} (T : Say K mg) : FnE P w K mg base 3 "need_time" ["marks", "time"] F_need_time := by
  obtain ⟨fd, F⟩ := T.d_need_time
  exact fn_ok F sc_need_time T.g_need_time (fun _ _ _ _ _ _ us hl => match us, hl with | [_, _], _ => rfl) fun cdv A outer s H E hr =>
    ss_cons (s_if (et_not (et_val (ev_call (ok_is_value T) (hr.mono (by decide)) pass_cx (ea_cons (ev_var 1) (ea_nil))))) (ss_one (s_raise (xc_InvalidTime T) (hr.mono (by decide)) rfl (takes_of rfl rfl rfl rfl) (ev_var 1))) (ss_nil))
    (ss_cons (s_set (i := 2) (ev_call (ok_value_of T) (hr.mono (by decide)) pass_cx (ea_cons (ev_var 1) (ea_nil))) sc_need_time.nd)
    (ss_cons (s_if ((ew_or (et_val (ev_call (ok_is_less T) (hr.mono (by decide)) pass_cx (ea_cons (ev_var 2) (ea_cons (ev_call (ok_value_of T) (hr.mono (by decide)) pass_cx (ea_cons (ev_ix (ev_var 0) (ev_int)) (ea_nil))) (ea_nil))))) (ew_or1 (et_val (ev_call (ok_is_less T) (hr.mono (by decide)) pass_cx (ea_cons (ev_call (ok_value_of T) (hr.mono (by decide)) pass_cx (ea_cons (ev_ix (ev_var 0) (ev_neg (ev_int))) (ea_nil))) (ea_cons (ev_var 2) (ea_nil))))))).et) (ss_one (s_raise (xc_InvalidTime T) (hr.mono (by decide)) rfl (takes_of rfl rfl rfl rfl) (ev_var 1))) (ss_nil))
    (ss_one (s_ret (ev_var 2)))))
theorem sc_summed : FnScope ["values", "found", "value"] ["values"] (defScope s_summed) := ⟨rfl, rfl, rfl, by decide +kernel, rfl, by decide +kernel, by decide +kernel⟩
theorem ok_summed {P : Program} {w : World} {K : PySem.W.Frag} {mg : Str → Option Value} {base : Heap} (T : Say K mg) : FnE P w K mg base 4 "summed" ["values"] F_summed := by
  obtain ⟨fd, F⟩ := T.d_summed
  exact fn_ok F sc_summed T.g_summed (fun _ _ _ _ _ _ us hl => match us, hl with | [_], _ => rfl) fun cdv A outer s H E hr =>
    ss_cons (s_set (i := 1) (ev_glob T.c_NOUGHT) sc_summed.nd)
    (ss_cons (s_for pass_own rfl (iv_seq (ev_var 0)) const_seq (gv_name (i := 2) sc_summed.nd) (ss_one (s_set (i := 1) (ev_call (ok_added T) (hr.mono (by decide)) pass_cx (ea_cons (ev_var 1) (ea_cons (ev_var 2) (ea_nil)))) sc_summed.nd)))
    (ss_one (s_ret (ev_var 1))))
theorem sc_value : FnScope ["bend", "time", "spot", "found", "weight", "handle"] ["bend", "time"] (defScope s_value) := ⟨rfl, rfl, rfl, by decide +kernel, rfl, by decide +kernel, by decide +kernel⟩
theorem ok_value {P : Program} {w : World} {K : PySem.W.Frag} {mg : Str → Option Value} {base : Heap} (T : Say K mg) : FnE P w K mg base 6 "value" ["bend", "time"] F_value := by
  obtain ⟨fd, F⟩ := T.d_value
  exact fn_ok F sc_value T.g_value (fun _ _ _ _ _ _ us hl => match us, hl with | [_, _], _ => rfl) fun cdv A outer s H E hr =>
    ss_cons (s_set (i := 2) (ev_call (ok_need_time T) (hr.mono (by decide)) pass_cx (ea_cons (ev_fld (ev_var 0) T.cl_Bend T.na_Bend_marks) (ea_cons (ev_var 1) (ea_nil)))) sc_value.nd)
    (ss_cons (s_set (i := 3) (ev_call (ok_all_weights T) (hr.mono (by decide)) pass_cx (ea_cons (ev_fld (ev_var 0) T.cl_Bend T.na_Bend_degree) (ea_cons (ev_call (ok_knots_of T) (hr.mono (by decide)) pass_cx (ea_cons (ev_fld (ev_var 0) T.cl_Bend T.na_Bend_degree) (ea_cons (ev_fld (ev_var 0) T.cl_Bend T.na_Bend_marks) (ea_nil)))) (ea_cons (ev_var 2) (ea_nil))))) sc_value.nd)
    (ss_one (s_ret (ev_call (ok_summed T) (hr.mono (by decide)) pass_cx (ea_cons (((lc_c (own := [("weight", 4), ("handle", 5)]) (iv_zipStrict (T.m_zip) (ea_cons (ev_var 3) (ea_cons (ev_fld (ev_var 0) T.cl_Bend T.na_Bend_handles) (ea_nil)))) const_zipStrict (blkOk_by (own := [("weight", 4), ("handle", 5)]) (by kernel_rfl)) (fun _ _ _ _ _ => gv_tup rfl (gvs_cons (gv_name (i := 4) sc_value.nd) (gvs_cons (gv_name (i := 5) sc_value.nd) (gvs_nil)))) (fun _ _ _ _ _ => eif_nil) (fun _ _ _ _ _ => ev_call (ok_multiplied T) (hr.mono (by decide)) passL (ea_cons (ev_var 4) (ea_cons (ev_var 5) (ea_nil))))).en rfl sc_value.nd).ev) (ea_nil))))))
theorem sc_Desk_timed : FnScope ["self", "word", "time"] ["self", "word", "time"] (defScope s_Desk_timed) := ⟨rfl, rfl, rfl, by decide +kernel, rfl, by decide +kernel, by decide +kernel⟩
theorem me_Desk_timed {P : Program} {w : World} {K : PySem.W.Frag} {mg : Str → Option Value} {base : Heap} (T : Say K mg) : DkE P w K mg base 16 "timed" 2 F_Desk_timed := by
  obtain ⟨fd, F⟩ := T.d_Desk_timed
  exact meth_okDk F sc_Desk_timed T.cl_Desk T.me_Desk_timed (fun _ _ _ _ _ _ us hl => match us, hl with | [_, _, _], _ => rfl) fun cdv A outer s H E hr =>
    ssL_ifP (et_cmp (dop_eq hr.units) (ev_var 1) (ev_str) (nomark _)) (ssL_ret (evL_call (ok_told_signs T) (hr.mono (by decide)) pass_cx (eaL_cons (evL_meth (me_Live_mark T) (hr.mono (by decide)) pass_cx T.cl_Desk T.na_Desk_live (ea_cons (ev_var 2) (ea_nil))) (ea_nil))))
    (ssL_ifP (et_cmp (dop_eq hr.units) (ev_var 1) (ev_str) (nomark _)) (ssL_ret (evL_if (etL_val (evL_meth (me_Live_unmark T) (hr.mono (by decide)) pass_cx T.cl_Desk T.na_Desk_live (ea_cons (ev_var 2) (ea_nil)))) (evL_of (ev_str)) (evL_of (ev_str))))
    (ssL_ret ((evR_call (ok_text_of T) (hr.mono (by decide)) pass_cx (eaR_cons (evR_call (ok_value T) (hr.mono (by decide)) pass_cx (eaR_cons (evR_prop (prf_Live_bend T) (hr.mono (by decide)) T.cl_Desk T.na_Desk_live) (eaR_of (ea_cons (ev_var 2) (ea_nil))))) (eaR_of (ea_nil)))).l)))
theorem sc_InvalidCommand_init : FnScope ["self"] ["self"] (defScope s_InvalidCommand_init) := ⟨rfl, rfl, rfl, by decide +kernel, rfl, by decide +kernel, by decide +kernel⟩
theorem xc0_InvalidCommand {P : Program} {w : World} {K : PySem.W.Frag} {mg : Str → Option Value} {base : Heap} (T : Say K mg) : XcE0 P w K mg base 1 "InvalidCommand" := by
  obtain ⟨fd, F⟩ := T.d_InvalidCommand_init
  exact exc0_ok F sc_InvalidCommand_init T.xf0_InvalidCommand T.gc_InvalidCommand (fun _ _ _ _ _ _ us hl => match us, hl with | [_], _ => rfl) fun cdv A outer s H E => exc0_suite rfl (by first | exact Or.inl rfl | exact Or.inr (Or.inl rfl) | exact Or.inr (Or.inr rfl)) rfl T.gc_BendError T.bot_BendError T.xf0_InvalidCommand.o (by decide) rfl rfl
theorem sc_Live_init : FnScope ["self", "bend"] ["self", "bend"] (defScope s_Live_init) := ⟨rfl, rfl, rfl, by decide +kernel, rfl, by decide +kernel, by decide +kernel⟩
theorem mk_Live {P : Program} {w : World} {K : PySem.W.Frag} {mg : Str → Option Value} {base : Heap} (T : Say K mg) : MkE P w K mg base 12 "Live" 1 I_Live := by
  obtain ⟨fd, F⟩ := T.d_Live_init
  exact init_ok F sc_Live_init T.mk_Live T.gc_Live (fun _ _ _ _ _ _ us hl => match us, hl with | [_, _], _ => rfl) fun cdv A outer s H E hr =>
    so_put (evo_of (ev_var 1))
    (so_put (evo_of (ev_call (ok_sign_row T) (hr.mono (by decide)) pass_cx (ea_cons (ev_var 1) (ea_nil))))
    (so_put (evo_of (ev_tup (ea_nil)))
    (so_nil) T.cl_Live T.na_Live_past) T.cl_Live T.na_Live_row) T.cl_Live T.na_Live_now
theorem sc_Refused_init : FnScope ["self", "at"] ["self", "at"] (defScope s_Refused_init) := ⟨rfl, rfl, rfl, by decide +kernel, rfl, by decide +kernel, by decide +kernel⟩
theorem xc_Refused {P : Program} {w : World} {K : PySem.W.Frag} {mg : Str → Option Value} {base : Heap} (T : Say K mg) : XcE P w K mg base 1 "Refused" "at" := by
  obtain ⟨fd, F⟩ := T.d_Refused_init
  exact exc_ok F sc_Refused_init T.xf_Refused T.gc_Refused (fun _ _ _ _ _ _ us hl => match us, hl with | [_, _], _ => rfl) fun cdv A outer s H E => exc_suite rfl rfl (by first | exact Or.inl rfl | exact Or.inr (Or.inl rfl) | exact Or.inr (Or.inr rfl)) (by first | exact Or.inl rfl | exact Or.inr (Or.inl rfl) | exact Or.inr (Or.inr rfl)) rfl T.gc_BendError T.bot_BendError T.xf_Refused.o T.xf_Refused.n (by decide) (by decide) (by decide) rfl rfl rfl
theorem sc_is_pull : FnScope ["bend", "at", "height"] ["bend", "at", "height"] (defScope s_is_pull) := ⟨rfl, rfl, rfl, by decide +kernel, rfl, by decide +kernel, by decide +kernel⟩
theorem ok_is_pull {P : Program} {w : World} {K : PySem.W.Frag} {mg : Str → Option Value} {base : Heap} (T : Say K mg) : FnE P w K mg base 4 "is_pull" ["bend", "at", "height"] F_is_pull := by
  obtain ⟨fd, F⟩ := T.d_is_pull
  exact fn_ok F sc_is_pull T.g_is_pull (fun _ _ _ _ _ _ us hl => match us, hl with | [_, _, _], _ => rfl) fun cdv A outer s H E hr =>
    ss_one (s_ret (ev_and (ev_call (ok_is_integer T) (hr.mono (by decide)) pass_cx (ea_cons (ev_var 1) (ea_nil))) (ev_and (ev_chain dop_le dop_lt (ev_int) (ev_var 1) (ev_lenObj (me_Bend___len__ T) (hr.mono (by decide)) pass_cx (ev_var 0) (T.m_len))) (ev_one (ev_call (ok_is_value T) (hr.mono (by decide)) pass_cx (ea_cons (ev_var 2) (ea_nil)))))))
theorem sc_pulled_v4480 : FnScope ["bend", "at", "height"] ["bend", "at", "height"] (defScope s_pulled_v4480) := ⟨rfl, rfl, rfl, by decide +kernel, rfl, by decide +kernel, by decide +kernel⟩
theorem ok_pulled_v4480 {P : Program} {w : World} {K : PySem.W.Frag} {mg : Str → Option Value} {base : Heap} (T : Say K mg) : FnE P w K mg base 6 "pulled" ["bend", "at", "height"] F_pulled_v4480 := by
  obtain ⟨fd, F⟩ := T.d_pulled_v4480
  exact fn_ok F sc_pulled_v4480 T.g_pulled_v4480 (fun _ _ _ _ _ _ us hl => match us, hl with | [_, _, _], _ => rfl) fun cdv A outer s H E hr =>
    ss_one (s_ret (ev_make (mk_Bend T) (hr.mono (by decide)) pass_cx (ea_cons (ev_fld (ev_var 0) T.cl_Bend T.na_Bend_degree) (ea_cons (ev_fld (ev_var 0) T.cl_Bend T.na_Bend_marks) (ea_cons ((en_lst (ea_star (ev_slice (ev_fld (ev_var 0) T.cl_Bend T.na_Bend_handles) (eo_none) (eo_some (ev_var 1))) (ea_cons (ev_var 2) (ea_star (ev_slice (ev_fld (ev_var 0) T.cl_Bend T.na_Bend_handles) (eo_some (ev_op dop_add (ev_var 1) (ev_int))) (eo_none)) (ea_nil))))).ev) (ea_nil))))))
theorem sc_Live_pull_o : FnScope ["self", "at", "height"] ["self", "at", "height"] (defScope s_Live_pull_o) := ⟨rfl, rfl, rfl, by decide +kernel, rfl, by decide +kernel, by decide +kernel⟩
theorem me_Live_pull_o {P : Program} {w : World} {K : PySem.W.Frag} {mg : Str → Option Value} {base : Heap} (T : Say K mg) : MmE P w K mg base 14 "Live" "pull" 2 F_Live_pull_o := by
  obtain ⟨fd, F⟩ := T.d_Live_pull_o
  exact meth_okM F sc_Live_pull_o T.cl_Live T.me_Live_pull_o (fun _ _ _ _ _ _ us hl => match us, hl with | [_, _, _], _ => rfl) fun cdv A outer s H E hr =>
    ss_cons (s_if (et_not (et_val (ev_call (ok_is_pull T) (hr.mono (by decide)) pass_cx (ea_cons (ev_fldS (i := 0) T.cl_Live T.na_Live_now) (ea_cons (ev_var 1) (ea_cons (ev_var 2) (ea_nil))))))) (ss_one (s_raise (xc_Refused T) (hr.mono (by decide)) rfl (takes_of rfl rfl rfl rfl) (ev_lenObj (me_Bend___len__ T) (hr.mono (by decide)) pass_cx (ev_fldS (i := 0) T.cl_Live T.na_Live_now) (T.m_len)))) (ss_nil))
    (ss_one (s_ret (ev_methE (i := 0) (me_Live_go_on T) (hr.mono (by decide)) pass_cx (ea_cons (ev_call (ok_pulled_v4480 T) (hr.mono (by decide)) pass_cx (ea_cons (ev_fldS (i := 0) T.cl_Live T.na_Live_now) (ea_cons (ev_var 1) (ea_cons (ev_var 2) (ea_nil))))) (ea_nil)))))
theorem sc_number_of : FnScope ["word", "found"] ["word"] (defScope s_number_of) := ⟨rfl, rfl, rfl, by decide +kernel, rfl, by decide +kernel, by decide +kernel⟩
theorem ok_number_of {P : Program} {w : World} {K : PySem.W.Frag} {mg : Str → Option Value} {base : Heap} (T : Say K mg) : FnE P w K mg base 3 "number_of" ["word"] F_number_of := by
  obtain ⟨fd, F⟩ := T.d_number_of
  exact fn_ok F sc_number_of T.g_number_of (fun _ _ _ _ _ _ us hl => match us, hl with | [_], _ => rfl) fun cdv A outer s H E hr =>
    ss_cons (s_set (i := 1) (ev_if (et_cmp dop_le (ev_callB dc_len (T.m_len) (by decide +kernel) (ea_cons (ev_var 0) (ea_nil))) (ev_glob T.c_MOST_DIGITS_desk) (nomark _)) (ev_call (ok_number_in_v70a5 T) (hr.mono (by decide)) pass_cx (ea_cons (ev_var 0) (ea_nil))) (ev_non)) sc_number_of.nd)
    (ss_cons (s_if (et_cmp dop_is (ev_var 1) (ev_non) (nomark _)) (ss_one (s_raise0 (xc0_InvalidCommand T) (hr.mono (by decide)) rfl (takes_of rfl rfl rfl rfl))) (ss_nil))
    (ss_one (s_ret (ev_var 1))))
theorem sc_time_of : FnScope ["word", "found"] ["word"] (defScope s_time_of) := ⟨rfl, rfl, rfl, by decide +kernel, rfl, by decide +kernel, by decide +kernel⟩
theorem ok_time_of {P : Program} {w : World} {K : PySem.W.Frag} {mg : Str → Option Value} {base : Heap} (T : Say K mg) : FnE P w K mg base 3 "time_of" ["word"] F_time_of := by
  obtain ⟨fd, F⟩ := T.d_time_of
  exact fn_ok F sc_time_of T.g_time_of (fun _ _ _ _ _ _ us hl => match us, hl with | [_], _ => rfl) fun cdv A outer s H E hr =>
    ss_cons (s_set (i := 1) (ev_call (ok_value_in_vdbf8 T) (hr.mono (by decide)) pass_cx (ea_cons (ev_var 0) (ea_nil))) sc_time_of.nd)
    (ss_cons (s_if (et_cmp dop_is (ev_var 1) (ev_non) (nomark _)) (ss_one (s_raise0 (xc0_InvalidCommand T) (hr.mono (by decide)) rfl (takes_of rfl rfl rfl rfl))) (ss_nil))
    (ss_one (s_ret (ev_var 1))))
theorem sc_words_of : FnScope ["command", "words"] ["command"] (defScope s_words_of) := ⟨rfl, rfl, rfl, by decide +kernel, rfl, by decide +kernel, by decide +kernel⟩
theorem ok_words_of {P : Program} {w : World} {K : PySem.W.Frag} {mg : Str → Option Value} {base : Heap} (T : Say K mg) : FnE P w K mg base 3 "words_of" ["command"] F_words_of := by
  obtain ⟨fd, F⟩ := T.d_words_of
  exact fn_ok F sc_words_of T.g_words_of (fun _ _ _ _ _ _ us hl => match us, hl with | [_], _ => rfl) fun cdv A outer s H E hr =>
    ss_cons (s_if ((ew_or (et_not (et_val (ev_isi tab_str (ev_var 0) (T.m_isinstance) (T.m_str) (by decide +kernel)))) (ew_or1 (et_cmp (dop_inT (hu65 hr)) (ev_str) (ev_var 0) (by rfl)))).et) (ss_one (s_raise0 (xc0_InvalidCommand T) (hr.mono (by decide)) rfl (takes_of rfl rfl rfl rfl))) (ss_nil))
    (ss_cons (s_set (i := 1) (ev_split (ev_var 0) (ev_str)) sc_words_of.nd)
    (ss_cons (s_if (et_cmp (dop_inT (hu65 hr)) (ev_str) (ev_var 1) (by rfl)) (ss_one (s_raise0 (xc0_InvalidCommand T) (hr.mono (by decide)) rfl (takes_of rfl rfl rfl rfl))) (ss_nil))
    (ss_one (s_ret (ev_var 1)))))
theorem sc_Desk_say_o : FnScope ["self", "command", "words"] ["self", "command"] (defScope s_Desk_say_o) := ⟨rfl, rfl, rfl, by decide +kernel, rfl, by decide +kernel, by decide +kernel⟩
theorem me_Desk_say_o {P : Program} {w : World} {K : PySem.W.Frag} {mg : Str → Option Value} {base : Heap} (T : Say K mg) : DkE P w K mg base 18 "say" 1 F_Desk_say_o := by
  obtain ⟨fd, F⟩ := T.d_Desk_say_o
  exact meth_okDk F sc_Desk_say_o T.cl_Desk T.me_Desk_say_o (fun _ _ _ _ _ _ us hl => match us, hl with | [_, _], _ => rfl) fun cdv A outer s H E hr =>
    ssL_cons (si_set (l := 2) (ev_call (ok_words_of T) (hr.mono (by decide)) pass_cx (ea_cons (ev_var 1) (ea_nil))) sc_Desk_say_o.nd)
    (ssL_ifP ((ew_and (et_cmp (dop_eq hr.units) (ev_ix (ev_var 2) (ev_int)) (ev_str) (nomark _)) (ew_and1 (et_cmp dop_gt (ev_callB dc_len (T.m_len) (by decide +kernel) (ea_cons (ev_var 2) (ea_nil))) (ev_int) (nomark _)))).et) (ssL_store (em_make (mk_Live T) (hr.mono (by decide)) pass_cx (ea_cons (ev_cls (cme_Bend_read_o T) (hr.mono (by decide)) pass_cx (ea_cons (ev_var 1) (ea_nil))) (ea_nil)))
    (ssL_ret (evL_callTy dc_str (T.m_str) (by decide +kernel) (eaL_cons (evL_lenO (me_Bend___len__ T) (hr.mono (by decide)) pass_cx ((evR_prop (prf_Live_bend T) (hr.mono (by decide)) T.cl_Desk T.na_Desk_live).l) (T.m_len)) (ea_nil)))) T.cl_Desk T.na_Desk_live)
    (ssL_ifN T.cl_Desk T.na_Desk_live (ssL_of (ss_one (s_raise0 (xc0_InvalidCommand T) (hr.mono (by decide)) rfl (takes_of rfl rfl rfl rfl))))
    (ssL_ifP ((ew_and (et_cmp (dop_eq hr.units) (ev_ix (ev_var 2) (ev_int)) (ev_str) (nomark _)) (ew_and1 (et_cmp (dop_eq hr.units) (ev_callB dc_len (T.m_len) (by decide +kernel) (ea_cons (ev_var 2) (ea_nil))) (ev_int) (nomark _)))).et) (ssL_ret (evL_call (ok_told_signs T) (hr.mono (by decide)) pass_cx (eaL_cons (evL_meth (me_Live_pull_o T) (hr.mono (by decide)) pass_cx T.cl_Desk T.na_Desk_live (ea_cons (ev_call (ok_number_of T) (hr.mono (by decide)) pass_cx (ea_cons (ev_ix (ev_var 2) (ev_int)) (ea_nil))) (ea_cons (ev_call (ok_time_of T) (hr.mono (by decide)) pass_cx (ea_cons (ev_ix (ev_var 2) (ev_int)) (ea_nil))) (ea_nil)))) (ea_nil))))
    (ssL_ifP ((ew_and (et_cmp (dop_inT (hu65 hr)) (ev_ix (ev_var 2) (ev_int)) (ev_glob T.c_TIMED) (by rfl)) (ew_and1 (et_cmp (dop_eq hr.units) (ev_callB dc_len (T.m_len) (by decide +kernel) (ea_cons (ev_var 2) (ea_nil))) (ev_int) (nomark _)))).et) (ssL_ret (evL_own (me_Desk_timed T) (hr.mono (by decide)) pass_cx (ea_cons (ev_ix (ev_var 2) (ev_int)) (ea_cons (ev_call (ok_time_of T) (hr.mono (by decide)) pass_cx (ea_cons (ev_ix (ev_var 2) (ev_int)) (ea_nil))) (ea_nil)))))
    (ssL_ifP ((ew_or (et_cmp (dop_notInT (hu65 hr)) (ev_ix (ev_var 2) (ev_int)) (ev_glob T.c_ALONE) (by rfl)) (ew_or1 (et_cmp (dop_ne hr.units) (ev_callB dc_len (T.m_len) (by decide +kernel) (ea_cons (ev_var 2) (ea_nil))) (ev_int) (nomark _)))).et) (ssL_of (ss_one (s_raise0 (xc0_InvalidCommand T) (hr.mono (by decide)) rfl (takes_of rfl rfl rfl rfl))))
    (ssL_ret (evL_own (me_Desk_alone T) (hr.mono (by decide)) pass_cx (ea_cons (ev_ix (ev_var 2) (ev_int)) (ea_nil)))))))))
theorem sc_Live___len__ : FnScope ["self"] ["self"] (defScope s_Live___len__) := ⟨rfl, rfl, rfl, by decide +kernel, rfl, by decide +kernel, by decide +kernel⟩
theorem me_Live___len__ {P : Program} {w : World} {K : PySem.W.Frag} {mg : Str → Option Value} {base : Heap} (T : Say K mg) : MmE P w K mg base 1 "Live" "__len__" 0 F_Live___len__ := by
  obtain ⟨fd, F⟩ := T.d_Live___len__
  exact meth_okM F sc_Live___len__ T.cl_Live T.me_Live___len__ (fun _ _ _ _ _ _ us hl => match us, hl with | [_], _ => rfl) fun cdv A outer s H E hr =>
    ss_one (s_ret (ev_callB dc_len (T.m_len) (by decide +kernel) (ea_cons (ev_fldS (i := 0) T.cl_Live T.na_Live_past) (ea_nil))))
theorem sc_law_box : FnScope ["_law_script", "_law_k", "_law_own", "_law_cell", "_law_seed"] ["_law_script", "_law_k", "_law_own"] (defScope s_law_box) := ⟨rfl, rfl, rfl, by decide +kernel, rfl, by decide +kernel, by decide +kernel⟩
theorem ok_law_box {P : Program} {w : World} {K : PySem.W.Frag} {mg : Str → Option Value} {base : Heap} (T : Say K mg) : FnNE P w K mg base 1 "_law_box" 3 F_law_box := by
  obtain ⟨fd, F⟩ := T.d_law_box
  exact fn_okN F sc_law_box T.g_law_box (fun _ _ _ _ _ _ us hl => match us, hl with | [_, _, _], _ => rfl) fun cdv A outer s H E hr =>
    svn_cons (s_set (i := 3) (ev_op dop_add (ev_op dop_add (ev_op dop_mul (ev_int) (ev_var 1)) (ev_op dop_mul (ev_int) (ev_var 2))) (ev_int)) sc_law_box.nd)
    (svn_cons (s_if (et_cmp dop_lt (ev_var 1) (ev_callB dc_len (T.m_len) (by decide +kernel) (ea_cons (ev_var 0) (ea_nil))) (nomark _)) (ss_one (s_set (i := 3) (ev_callB dc_abs (T.m_abs) (by decide +kernel) (ea_cons (ev_ix (ev_var 0) (ev_var 1)) (ea_nil))) sc_law_box.nd)) (ss_one (s_if (et_cmp dop_gt (ev_callB dc_len (T.m_len) (by decide +kernel) (ea_cons (ev_var 0) (ea_nil))) (ev_int) (nomark _)) (ss_one (s_set (i := 3) (ev_op dop_add (ev_var 3) (ev_op dop_mul (ev_op dop_mod (ev_callTy dc_int (T.m_int) (by decide +kernel) (ea_cons (ev_callB dc_abs (T.m_abs) (by decide +kernel) (ea_cons (ev_ix (ev_var 0) (ev_op dop_mod (ev_callTy dc_int (T.m_int) (by decide +kernel) (ea_cons (ev_var 1) (ea_nil))) (ev_callB dc_len (T.m_len) (by decide +kernel) (ea_cons (ev_var 0) (ea_nil))))) (ea_nil))) (ea_nil))) (ev_int)) (ev_int))) sc_law_box.nd)) (ss_nil))))
    (svn_cons (s_set (i := 4) (ev_op dop_add (ev_op dop_mod (ev_callTy dc_int (T.m_int) (by decide +kernel) (ea_cons (ev_op dop_add (ev_op dop_mul (ev_op dop_mod (ev_callTy dc_int (T.m_int) (by decide +kernel) (ea_cons (ev_var 3) (ea_nil))) (ev_int)) (ev_int)) (ev_op dop_mul (ev_int) (ev_op dop_add (ev_var 1) (ev_op dop_mul (ev_int) (ev_var 2))))) (ea_nil))) (ev_int)) (ev_int)) sc_law_box.nd)
    (svn_ret (en_lst (ea_cons (ev_ix ((en_lst (ea_cons (ev_int) (ea_cons (ev_var 3) (ea_nil)))).ev) (ev_callTy dc_int (T.m_int) (by decide +kernel) (ea_cons (ev_cmp dop_ge (ev_var 3) (ev_op dop_pow (ev_int) (ev_int)) (nomark _)) (ea_nil)))) (ea_cons (ev_var 4) (ea_cons (ev_int) (ea_nil))))))))
theorem sc_law_heard_v5980_o : FnScope ["_law_desk", "_law_command", "_law_found", "e"] ["_law_desk", "_law_command"] (defScope s_law_heard_v5980_o) := ⟨rfl, rfl, rfl, by decide +kernel, rfl, by decide +kernel, by decide +kernel⟩
theorem ok_law_heard_v5980_o {P : Program} {w : World} {K : PySem.W.Frag} {mg : Str → Option Value} {base : Heap} (T : Say K mg) : FdGE P w K mg base 20 "_law_heard" ["_law_desk", "_law_command"] 1 F_law_heard_v5980_o := by
  obtain ⟨fd, F⟩ := T.d_law_heard_v5980_o
  exact fn_okGD F sc_law_heard_v5980_o T.g_law_heard_v5980_o (fun _ _ _ _ _ _ us hl => match us, hl with | [_, _], _ => rfl) fun cdv A outer s H E hg hr =>
    ssL_cons (si_set (l := 2) (ev_non) sc_law_heard_v5980_o.nd)
    (ssL_try (ie := 3) (l := 2) rfl rfl sc_law_heard_v5980_o.nd rfl rfl rfl (by first | exact Or.inl rfl | exact Or.inr rfl) (by first | exact Or.inl rfl | exact Or.inr rfl) rfl rfl rfl (bxL_say (l := 2) (me_Desk_say_o T) (hr.mono (by decide)) (fun _ _ => ea_cons (ev_var 1) (ea_nil)) sc_law_heard_v5980_o.nd) (.bare ⟨rfl, by decide, .inl T.gc_InvalidCommand⟩ rfl (.as ⟨rfl, by decide, .inl T.gc_InvalidText⟩ (hv_cat (hv_str) (hv_callT (fun _ _ => dc_str) (T.m_str) (by decide +kernel) (hv_fld T.xf_InvalidText rfl))) rfl (.as ⟨rfl, by decide, .inl T.gc_InvalidBend⟩ (hv_cat (hv_str) (hv_fld T.xf_InvalidBend rfl)) rfl (.as ⟨rfl, by decide, .inl T.gc_InvalidTime⟩ (hv_cat (hv_str) (hv_callB (fun _ _ => dc_repr hg (by have z := hu65 hr; exact z)) (T.m_repr) (by decide +kernel) (hv_fld T.xf_InvalidTime rfl))) rfl (.as ⟨rfl, by decide, .inl T.gc_NoMark⟩ (hv_cat (hv_str) (hv_callB (fun _ _ => dc_repr hg (by have z := hu65 hr; exact z)) (T.m_repr) (by decide +kernel) (hv_fld T.xf_NoMark rfl))) rfl (.as ⟨rfl, by decide, .inl T.gc_Refused⟩ (hv_cat (hv_str) (hv_callT (fun _ _ => dc_str) (T.m_str) (by decide +kernel) (hv_fld T.xf_Refused rfl))) rfl (.nil))))))) (apartB_ok T.ap_0)
    (ssL_of (ss_one (s_ret (ev_var 2)))))
theorem sc_law_take : FnScope ["_law_box_here", "_law_bound", "_law_raw", "_law_wide", "_law_digit"] ["_law_box_here", "_law_bound"] (defScope s_law_take) := ⟨rfl, rfl, rfl, by decide +kernel, rfl, by decide +kernel, by decide +kernel⟩
theorem ok_law_take {P : Program} {w : World} {K : PySem.W.Frag} {mg : Str → Option Value} {base : Heap} (T : Say K mg) : FnXE P w K mg base 1 "_law_take" 1 F_law_take := by
  obtain ⟨fd, F⟩ := T.d_law_take
  exact FnXE.by (F := guardX 1 (runX 4 g_law_take)) (fn_okX F sc_law_take T.g_law_take (fun _ _ _ _ _ _ us hl => match us, hl with | [_, _], _ => rfl) fun cdv A outer s H E hr =>
    ss_cons (s_if (et_cmp dop_gt (ev_ixB (i := 0) (ev_int)) (ev_int) (nomark _)) (ss_cons (s_set (i := 4) (ev_op dop_mod (ev_callTy dc_int (T.m_int) (by decide +kernel) (ea_cons (ev_ixB (i := 0) (ev_int)) (ea_nil))) (ev_var 1)) sc_law_take.nd)
    (ss_cons (s_putB (i := 0) (ev_op dop_fdiv (ev_ixB (i := 0) (ev_int)) (ev_var 1)) (ev_int))
    (ss_one (s_ret (ev_var 4))))) (ss_nil))
    (ss_cons (s_putB (i := 0) (ev_op dop_add (ev_ixB (i := 0) (ev_int)) (ev_int)) (ev_int))
    (ss_cons (s_set (i := 2) (ev_op dop_mod (ev_callTy dc_int (T.m_int) (by decide +kernel) (ea_cons (ev_op dop_mul (ev_op dop_add (ev_ixB (i := 0) (ev_int)) (ev_op dop_mul (ev_int) (ev_ixB (i := 0) (ev_int)))) (ev_int)) (ea_nil))) (ev_int)) sc_law_take.nd)
    (ss_cons (s_putB (i := 0) (ev_op dop_add (ev_op dop_mod (ev_callTy dc_int (T.m_int) (by decide +kernel) (ea_cons (ev_op dop_add (ev_op dop_mul (ev_var 2) (ev_int)) (ev_int)) (ea_nil))) (ev_int)) (ev_int)) (ev_int))
    (ss_cons (s_if (et_cmp dop_lt (ev_var 1) (ev_op dop_pow (ev_int) (ev_int)) (nomark _)) (ss_one (s_ret (ev_op dop_mod (ev_callTy dc_int (T.m_int) (by decide +kernel) (ea_cons (ev_op dop_fdiv (ev_op dop_add (ev_op dop_mul (ev_var 2) (ev_int)) (ev_ixB (i := 0) (ev_int))) (ev_int)) (ea_nil))) (ev_var 1)))) (ss_nil))
    (ss_cons (s_set (i := 3) (ev_op dop_mul (ev_op dop_add (ev_op dop_mul (ev_var 2) (ev_int)) (ev_ixB (i := 0) (ev_int))) (ev_op dop_pow (ev_int) (ev_int))) sc_law_take.nd)
    (ss_one (s_ret (ev_op dop_mod (ev_callTy dc_int (T.m_int) (by decide +kernel) (ea_cons (ev_op dop_add (ev_op dop_add (ev_var 3) (ev_op dop_mul (ev_op dop_pow (ev_ixB (i := 0) (ev_int)) (ev_int)) (ev_int))) (ev_var 2)) (ea_nil))) (ev_var 1)))))))))) mir_law_take
theorem sc_law_pick : FnScope ["_law_box_here", "_law_items"] ["_law_box_here", "_law_items"] (defScope s_law_pick) := ⟨rfl, rfl, rfl, by decide +kernel, rfl, by decide +kernel, by decide +kernel⟩
theorem ok_law_pick {P : Program} {w : World} {K : PySem.W.Frag} {mg : Str → Option Value} {base : Heap} (T : Say K mg) : FnXE P w K mg base 2 "_law_pick" 1 F_law_pick := by
  obtain ⟨fd, F⟩ := T.d_law_pick
  exact fn_okX F sc_law_pick T.g_law_pick (fun _ _ _ _ _ _ us hl => match us, hl with | [_, _], _ => rfl) fun cdv A outer s H E hr =>
    ss_one (s_ret (ev_ix (ev_var 1) (ev_callX (i := 0) (ok_law_take T) (hr.mono (by decide)) pass_cx (ea_cons (ev_callB dc_len (T.m_len) (by decide +kernel) (ea_cons (ev_var 1) (ea_nil))) (ea_nil)))))
theorem sc_law_value_ve847 : FnScope ["_law_box_here", "_law_some", "_law_deep", "_law_turn"] ["_law_box_here"] (defScope s_law_value_ve847) := ⟨rfl, rfl, rfl, by decide +kernel, rfl, by decide +kernel, by decide +kernel⟩
theorem ok_law_value_ve847 {P : Program} {w : World} {K : PySem.W.Frag} {mg : Str → Option Value} {base : Heap} (T : Say K mg) : FnXE P w K mg base 3 "_law_value" 0 F_law_value_ve847 := by
  obtain ⟨fd, F⟩ := T.d_law_value_ve847
  exact fn_okX F sc_law_value_ve847 T.g_law_value_ve847 (fun _ _ _ _ _ _ us hl => match us, hl with | [_], _ => rfl) fun cdv A outer s H E hr =>
    ss_cons (s_set (i := 1) ((en_lst (ea_cons (ev_non) (ea_cons (ev_str) (ea_cons (ev_str) (ea_cons (ev_bl) (ea_cons (ev_bl) (ea_cons ((en_lst (ea_nil)).ev) (ea_cons ((en_lst (ea_cons (ev_int) (ea_cons (ev_int) (ea_nil)))).ev) (ea_cons (ev_tup (ea_cons (ev_int) (ea_cons (ev_int) (ea_nil)))) (ea_cons (ev_tup (ea_cons (ev_int) (ea_cons (ev_int) (ea_nil)))) (ea_cons (ev_tup (ea_cons (ev_int) (ea_cons (ev_op dop_sub (ev_int) (ev_int)) (ea_nil)))) (ea_cons (ev_tup (ea_cons (ev_int) (ea_cons (ev_int) (ea_cons (ev_int) (ea_nil))))) (ea_cons (ev_str) (ea_cons (ev_tup (ea_cons (ev_tup (ea_cons (ev_int) (ea_cons (ev_int) (ea_nil)))) (ea_nil))) (ea_nil))))))))))))))).ev) sc_law_value_ve847.nd)
    (ss_cons (s_set (i := 2) (ev_tup (ea_nil)) sc_law_value_ve847.nd)
    (ss_cons (s_for pass_own rfl (iv_range1 (T.m_range) (ea_cons (ev_int) (ea_nil))) const_range1 (gv_name (i := 3) sc_law_value_ve847.nd) (ss_one (s_set (i := 2) (ev_if (et_cmp (dop_eq hr.units) (ev_op dop_mod (ev_var 3) (ev_int)) (ev_int) (nomark _)) ((en_lst (ea_cons (ev_var 2) (ea_cons (ev_int) (ea_nil)))).ev) (ev_tup (ea_cons (ev_var 2) (ea_nil)))) sc_law_value_ve847.nd)))
    (ss_one (s_ret (ev_callX (i := 0) (ok_law_pick T) (hr.mono (by decide)) pass_cx (ea_cons (ev_op dop_add (ev_var 1) ((en_lst (ea_cons (ev_var 2) (ea_cons (ev_tup (ea_cons (ev_non) (ea_cons (ev_int) (ea_nil)))) (ea_cons (ev_tup (ea_cons (ev_int) (ea_cons (ev_bl) (ea_nil)))) (ea_nil))))).ev)) (ea_nil)))))))
theorem sc_law : FnScope ["_law_script", "_law_bad", "_law_some", "_law_k", "_law_command", "_law_turn", "_law_words", "_law_said", "_law_box_here", "_law_desk", "_law_thing", "_law_due", "_law_word"] ["_law_script"] (defScope s_law) := ⟨rfl, rfl, rfl, by decide +kernel, rfl, by decide +kernel, by decide +kernel⟩
theorem ok_law {P : Program} {w : World} {K : PySem.W.Frag} {mg : Str → Option Value} {base : Heap} {fd : FuncData} (F : FunD K "law" "law" (defArgs s_law) (defBody s_law) (defScope s_law) [] [] (He.ga K "law") fd) (T : Say K mg) (room : Room 21 callerA) : RunsAt P w K mg base (L2.CX P w) callerA (He.ga K "law") fd ["_law_script"] (spP K 1 F_law) :=
  law_at F sc_law room fun cdv A outer s H E hg hr =>
    ss_cons (s_set (i := 1) ((en_lst (ea_cons (ev_str) (ea_cons (ev_str) (ea_cons (ev_str) (ea_cons (ev_str) (ea_cons (ev_str) (ea_cons (ev_str) (ea_cons (ev_str) (ea_cons (ev_str) (ea_cons (ev_str) (ea_cons (ev_str) (ea_nil)))))))))))).ev) sc_law.nd)
    (ss_cons (s_set (i := 1) (ev_op dop_add (ev_var 1) ((en_lst (ea_cons (ev_str) (ea_cons (ev_str) (ea_cons (ev_str) (ea_cons (ev_str) (ea_cons (ev_str) (ea_cons (ev_str) (ea_cons (ev_str) (ea_nil))))))))).ev)) sc_law.nd)
    (ss_cons (s_set (i := 1) (ev_op dop_add (ev_var 1) ((en_lst (ea_cons (ev_str) (ea_cons (ev_str) (ea_cons (ev_str) (ea_cons (ev_str) (ea_cons (ev_str) (ea_nil))))))).ev)) sc_law.nd)
    (ss_cons (s_set (i := 1) (ev_op dop_add (ev_var 1) ((en_lst (ea_cons (ev_str) (ea_cons (ev_str) (ea_cons (ev_str) (ea_nil))))).ev)) sc_law.nd)
    (ss_cons (s_set (i := 2) ((en_lst (ea_cons (ev_tup (ea_cons (ev_str) (ea_cons (ev_str) (ea_nil)))) (ea_cons (ev_tup (ea_cons (ev_str) (ea_cons (ev_str) (ea_nil)))) (ea_nil)))).ev) sc_law.nd)
    (ss_cons (s_set (i := 2) (ev_op dop_add (ev_var 2) ((en_lst (ea_cons (ev_tup (ea_cons (ev_str) (ea_cons (ev_str) (ea_nil)))) (ea_cons (ev_tup (ea_cons (ev_str) (ea_cons (ev_str) (ea_nil)))) (ea_nil)))).ev)) sc_law.nd)
    (ss_cons (s_set (i := 2) (ev_op dop_add (ev_var 2) ((en_lst (ea_cons (ev_tup (ea_cons (ev_str) (ea_cons (ev_str) (ea_nil)))) (ea_cons (ev_tup (ea_cons (ev_str) (ea_cons (ev_str) (ea_nil)))) (ea_cons (ev_tup (ea_cons (ev_str) (ea_cons (ev_str) (ea_nil)))) (ea_nil))))).ev)) sc_law.nd)
    (ss_cons (s_for pass_own rfl (iv_range1 (T.m_range) (ea_cons (ev_callB (dc_max rfl) (T.m_max) (by decide +kernel) (ea_cons (ev_int) (ea_cons (ev_callB (dc_min rfl) (T.m_min) (by decide +kernel) (ea_cons (ev_int) (ea_cons (ev_callB dc_len (T.m_len) (by decide +kernel) (ea_cons (ev_var 0) (ea_nil))) (ea_nil)))) (ea_nil)))) (ea_nil))) const_range1 (gv_name (i := 3) sc_law.nd) (ss_desk2 (l := 8) (i := 9) rfl sc_law.nd (en_call (ok_law_box T) (hr.mono (by decide)) pass_cx (ea_cons (ev_var 0) (ea_cons (ev_var 3) (ea_cons (ev_int) (ea_nil))))) (em_make0 (mk_Desk T) (hr.mono (by decide)) pass_cx)
    (ssL_for pass_own rfl (iv_seq (ev_tup (ea_cons (ev_str) (ea_cons (ev_str) (ea_cons (ev_str) (ea_cons (ev_str) (ea_nil))))))) const_seq (gv_name (i := 4) sc_law.nd) (ssL_ifC ((ewL_or (etL_cmp (dop_ne hr.units) (evL_callGD (ok_law_heard_v5980_o T) hg (hr.mono (by decide)) pass_cx (ea_cons (ev_var 4) (ea_nil))) (ev_str) (nomark _)) (ewL_or1 (etL_cmp dop_isNot (evL_live T.cl_Desk T.na_Desk_live) (ev_non) (nomark _)))).et) (ssL_of (ss_one (s_ret (ev_bl))))
    (ssL_nil))
    (ssL_ifC ((ewL_or (etL_cmp (dop_ne hr.units) (evL_callGD (ok_law_heard_v5980_o T) hg (hr.mono (by decide)) pass_cx (ea_cons (ev_str) (ea_nil))) (ev_str) (nomark _)) (ewL_or1 (etL_cmp (dop_ne hr.units) (evL_callGD (ok_law_heard_v5980_o T) hg (hr.mono (by decide)) pass_cx (ea_cons (ev_str) (ea_nil))) (ev_str) (nomark _)))).et) (ssL_of (ss_one (s_ret (ev_bl))))
    (ssL_for pass_own rfl (iv_range1 (T.m_range) (ea_cons (ev_int) (ea_nil))) const_range1 (gv_name (i := 5) sc_law.nd) (ssL_cons (si_asg (ev_callX (i := 8) (ok_law_pick T) (hr.mono (by decide)) pass_cx (ea_cons (ev_var 2) (ea_nil))) (gv_tup rfl (gvs_cons (gv_name (i := 4) sc_law.nd) (gvs_cons (gv_name (i := 11) sc_law.nd) (gvs_nil)))))
    (ssL_ifC ((ewL_or (etL_cmp (dop_ne hr.units) (evL_callGD (ok_law_heard_v5980_o T) hg (hr.mono (by decide)) pass_cx (ea_cons (ev_var 4) (ea_nil))) (ev_var 11) (nomark _)) (ewL_or1 (etL_cmp (dop_ne hr.units) (evL_callGD (ok_law_heard_v5980_o T) hg (hr.mono (by decide)) pass_cx (ea_cons (ev_callX (i := 8) (ok_law_pick T) (hr.mono (by decide)) pass_cx (ea_cons (ev_var 1) (ea_nil))) (ea_nil))) (ev_str) (nomark _)))).et) (ssL_of (ss_one (s_ret (ev_bl))))
    (ssL_cons (si_set (l := 10) (ev_callX (i := 8) (ok_law_value_ve847 T) (hr.mono (by decide)) pass_cx (ea_nil)) sc_law.nd)
    (ssL_ifC ((ewL_or ((ewL_and (etL_of (et_not (et_val (ev_isi tab_str (ev_var 10) (T.m_isinstance) (T.m_str) (by decide +kernel))))) (ewL_and1 (etL_cmp (dop_ne hr.units) (evL_callGD (ok_law_heard_v5980_o T) hg (hr.mono (by decide)) pass_cx (ea_cons (ev_var 10) (ea_nil))) (ev_str) (nomark _)))).et) (ewL_or1 (etL_cmp (dop_ne hr.units) (evL_lenL (me_Live___len__ T) (hr.mono (by decide)) pass_cx T.cl_Desk T.na_Desk_live (T.m_len)) (ev_int) (nomark _)))).et) (ssL_of (ss_one (s_ret (ev_bl))))
    (ssL_nil)))))
    (ssL_cons (si_set (l := 6) (ev_tup (ea_cons (ev_str) (ea_cons (ev_str) (ea_cons (ev_str) (ea_cons (ev_str) (ea_cons (ev_str) (ea_cons (ev_str) (ea_cons (ev_str) (ea_cons (ev_str) (ea_nil)))))))))) sc_law.nd)
    ((lcL_c (own := [("_law_word", 12)]) (iv_seq (ev_var 6)) const_seq (blkOk_by (own := [("_law_word", 12)]) (by kernel_rfl)) (fun _ _ _ _ _ => gv_name (i := 12) sc_law.nd) (fun _ _ _ _ _ => evL_own (me_Desk_say_o T) (hr.mono (by decide)) passL (ea_cons (ev_var 12) (ea_nil)))).set (l := 7)
    (ssL_ifP (et_cmp (dop_ne hr.units) (ev_var 7) ((en_lst (ea_cons (ev_str) (ea_cons (ev_str) (ea_cons (ev_str) (ea_cons (ev_str) (ea_cons (ev_str) (ea_cons (ev_str) (ea_cons (ev_str) (ea_cons (ev_str) (ea_nil)))))))))).ev) (nomark _)) (ssL_of (ss_one (s_ret (ev_bl))))
    (ssL_ifC (etL_cmp (dop_ne hr.units) ((lcL_c (own := [("_law_word", 12)]) (iv_seq (ev_tup (ea_cons (ev_str) (ea_cons (ev_str) (ea_cons (ev_str) (ea_nil)))))) const_seq (blkOk_by (own := [("_law_word", 12)]) (by kernel_rfl)) (fun _ _ _ _ _ => gv_name (i := 12) sc_law.nd) (fun _ _ _ _ _ => evL_own (me_Desk_say_o T) (hr.mono (by decide)) passL (ea_cons (ev_var 12) (ea_nil)))).ev rfl sc_law.nd) ((en_lst (ea_cons (ev_str) (ea_cons (ev_str) (ea_cons (ev_str) (ea_nil))))).ev) (nomark _)) (ssL_of (ss_one (s_ret (ev_bl))))
    (ssL_nil))) rfl sc_law.nd (sw_true rfl rfl rfl (by kernel_rfl))))))) (nv_cons (i := 8) (nv_cons (i := 9) (nv_nil) sc_law.nd) sc_law.nd)))
    (ss_one (s_ret (ev_bl))))))))))
end HB
open PyProof.Rows PySem PySem.Calls PySem.W
theorem PySem.Challenge.cw_handlebends_k73_desks_refuse_and_known_o_holds : PySem.Challenge.rw_handlebends_k73_desks_refuse_and_known_o.Holds := by
  w_on; o_law
  refine HandSHeadRun.head_any (r := OpenLaw.row PySem.Challenge.rw_handlebends_k73_desks_refuse_and_known_o) (q := view (OpenLaw.row PySem.Challenge.rw_handlebends_k73_desks_refuse_and_known_o).prog [115]) (H := HB.hk) (ob := HB.ob) (M := 20000) (loose := HB.loo) (d := HandSHeadRun.topDef (OpenLaw.row PySem.Challenge.rw_handlebends_k73_desks_refuse_and_known_o).prog 115) (kwd := []) HB.ob_eq
    (by kernel_rfl) (fun s => by kernel_rfl) HB.topRun (by kernel_rfl) (by kernel_rfl) (by kernel_rfl) (by rfl) (by first | assumption | decide +kernel) (by decide +kernel) ⟨rfl, rfl, rfl, rfl, rfl, by decide +kernel⟩ ?hw ?hc
  case hw => w_witness2
  case hc =>
    refine HB.walk_at (l := PySem.Challenge.rw_handlebends_k73_desks_refuse_and_known_o) (n := 63) (x := "_law_script") (CX := L2.CX0) rfl (by decide) (by kernel_rfl) ?F (fun _ _ _ _ z => z)
    intro w mg fa h Y G hmg0
    obtain ⟨K, KX, c, t, q, cm⟩ := Y
    have nm : (HandSHeadRun.topDef (OpenLaw.row PySem.Challenge.rw_handlebends_k73_desks_refuse_and_known_o).prog 115).name = ("law" : PySem.Str) := by kernel_rfl
    have hmg := nm ▸ hmg0
    have T := HB.say KX G c t q cm
    have e2 := hmg.symm.trans T.g_law
    cases e2
    obtain ⟨fd, F⟩ := T.d_law
    have b := L2.FunD.bindsA (ps := ["_law_script"]) F fun _ _ _ _ _ _ us hl => match us, hl with | [_], _ => rfl
    refine ⟨K, fd, HB.spE (HB.spP K 1 HB.F_law), KX, fun s v => b s [v] rfl, fun H a ns hl _ hS => HB.law_sp HB.law_true H a ns hl hS (HB.tabOk_no fun x hx => ?_), fun base _ _ => ?_⟩
    · match x, hx with
      | _, .head _ => exact HB.xs_ok q 15 rfl
      | _, .tail _ (.head _) => exact HB.xs_ok q 16 rfl
    exact (HB.ok_law F T ⟨rfl, by decide, by decide⟩).cx0

