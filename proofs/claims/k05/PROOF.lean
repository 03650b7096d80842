import PyProof.Rows.All
import Wide.All
import OpenK.AllK
import Wide.FinOn
import HandS.ForMost
import HandS.ForExc
import HandS.Wide
import HandS.IsInst
import HandS.Deep
import HandS.Star
import HandS.Flow
import HandS.Zip
import HandS.FStr
import HandS.Style
import HandS.TupAny
import HandS.Conv
import HandS.Codes
import HandS.HeadHook2
import KE.KRevSl
import KE.GoesEnumKw
import KE.GoesMore
import HandS.Head0
import HandS.Head1
import HandS.Head2
import HandS.HeadEnd
import HandS.HeadHook1
import HandS.CallLocal
import KE.KCallOwn
import PyProof.ReprReads
import PyProof.ReprRoads
import HandS.Exc
import HandS.ExcInit
import HandS.ExcOwn
import HandS.ExcField
import KE.KExcIs
import PyProof.InstNe
import HandS.DictComp
import PyProof.SeqIndex
import HandS.TryOnly
import HandS.ClsMeth
import HandS.HeadNt
import HandS.Text
import HandS.RaiseMore
import PyProof.Rows.StrBin
import PyProof.ReprLen
import PyProof.FitsInt
import PySem.Challenge.RW_handlebends_k05_texts_of_no_bend
set_option Elab.async false
set_option linter.all false
set_option autoImplicit false
set_option maxRecDepth 100000
set_option maxHeartbeats 0
namespace HB
open PySem L2
abbrev D := PyData
/-- a tuple whose object has no dict -/
def SqP (K : PySem.W.Frag) (H : Hp) (a : Addr) (xs : List V) : Prop := (∃ o, H a = some (.frz o (.tup xs)) ∧ o.dict = none) ∨
  ∃ (o : Obj) (its : Array Value) (n : Nat), K.lookup a = some o ∧ o.dict = none ∧ o.cls = .type "tuple" ∧ o.data = .seq its n ∧ its.size ≤ sizeLine ∧ Vals xs its.toList
theorem SqP.t {K : PySem.W.Frag} {H : Hp} {a : Addr} {xs : List V} (h : SqP K H a xs) : SqT K H a xs :=
  h.elim (fun ⟨o, e, _⟩ => .inl (.inr ⟨o, e⟩)) fun ⟨o, its, n, l, _, c, d, z, r⟩ => .inr ⟨o, its, n, l, c, d, z, r⟩
mutual
inductive Rp (K : PySem.W.Frag) (H : Hp) : V → D → Prop
  | non : Rp K H .non .none
  | bl (b : Bool) : Rp K H (.bl b) (.bool b)
  | int (i : Int) : Rp K H (.int i) (.int i)
  | str (x : Str) : Rp K H (.str x) (.str x)
  | lst {a : Addr} {xs : List V} {ds : List D} : H a = some (.lst xs) → RpAll K H xs ds → Rp K H (.ref a) (.list ds)
  | tup {a : Addr} {xs : List V} {ds : List D} : SqP K H a xs → RpAll K H xs ds → Rp K H (.ref a) (.tuple ds)
  | frz {a : Addr} {xs : List V} {ds : List D} : SqL K H a xs → RpAll K H xs ds → Rp K H (.ref a) (.dict [(.none, .list ds)])
  | obj {a dx : Addr} {c : Str} {fs : List (Str × V)} {kvs : List (D × D)} : H a = some (.ins (He.ga K c) dx fs) → RpF K H fs kvs → Rp K H (.ref a) (.dict ((.str c, .none) :: kvs))
  | adr (a : Addr) : Rp K H (.ref a) (.dict [(.int a, .none)])
  | fn (x : Str) : Rp K H (.ref (He.ga K x)) (.dict [(.none, .str x)])
inductive RpAll (K : PySem.W.Frag) (H : Hp) : List V → List D → Prop
  | nil : RpAll K H [] []
  | cons {v : V} {vs : List V} {d : D} {ds : List D} : Rp K H v d → RpAll K H vs ds → RpAll K H (v :: vs) (d :: ds)
inductive RpF (K : PySem.W.Frag) (H : Hp) : List (Str × V) → List (D × D) → Prop
  | nil : RpF K H [] []
  | cons {f : Str} {v : V} {fs : List (Str × V)} {d : D} {kvs : List (D × D)} : Rp K H v d → RpF K H fs kvs → RpF K H ((f, v) :: fs) ((.str f, d) :: kvs)
end
theorem RpAll.length {K : PySem.W.Frag} {H : Hp} : ∀ {vs : List V} {ds : List D}, RpAll K H vs ds → vs.length = ds.length
  | _, _, .nil => rfl
  | _, _, .cons _ t => congrArg (· + 1) t.length
inductive Sl where
  | no
  | pur (d : D)
  | own (ds : List D)
  | box (ds : List D)
def Sl.ls : Sl → Option (List D)
  | .own ds => some ds
  | .box ds => some ds
  | _ => none
abbrev En := List Sl
end HB
namespace HB
open PySem L2
section
variable {X : Cx}
theorem SqP.obj {pins : List (Addr × Obj)} {σ : St} {H : Hp} {s : Shared} {a : Addr} {xs : List V} (I : Inv X pins σ H s) (h : SqP X.K H a xs) : ∃ o, s.heap.get? a = some o ∧ o.dict = none ∧ o.cls = .type "tuple" := by
  rcases h with ⟨o, e, n⟩ | ⟨o, _, _, l, n, c, _⟩
  · have ⟨e1, _, _, _, o2, e2, c, _⟩ := I.hok a _ e
    exact ⟨o, e1, n, Option.some.inj (e1.symm.trans e2) ▸ c⟩
  · exact ⟨o, I.kIn a o l, n, c⟩
end
end HB
namespace HB
open PySem L2
section
variable {X : Cx}
mutual
theorem Rp.dp {K : PySem.W.Frag} {H : Hp} : ∀ {v : V} (d : D), d.canLay0 = true → Rp K H v d → Dp K H v d
  | _, .none, _, r => by cases r; exact .non
  | _, .bool b, _, r => by cases r; exact .bl _
  | _, .int b, _, r => by cases r; exact .int _
  | _, .str b, _, r => by cases r; exact .str _
  | _, .list ds, c, r => by
    cases r with
    | lst h1 h2 => exact .lst (.of h1) (RpAll.dp ds (by simpa [PyData.canLay0] using c) h2)
  | _, .tuple ds, c, r => by
    cases r with
    | tup h1 h2 => exact .tup h1.t (RpAll.dp ds (by simpa [PyData.canLay0] using c) h2)
  | _, .dict _, c, r => by simp [PyData.canLay0] at c
theorem RpAll.dp {K : PySem.W.Frag} {H : Hp} : ∀ {vs : List V} (ds : List D), PyData.canLayAll0 ds = true → RpAll K H vs ds → DpAll K H vs ds
  | _, [], _, r => by cases r; exact .nil
  | _, d :: ds, c, r => by
    cases r with
    | cons h t =>
      have c2 : (d.canLay0 && PyData.canLayAll0 ds) = true := by simpa [PyData.canLayAll0] using c
      obtain ⟨c3, c4⟩ := Bool.and_eq_true_iff.mp c2
      exact .cons (Rp.dp d c3 h) (RpAll.dp ds c4 t)
end
end
end HB
namespace HB
open PySem L2
theorem RpF.len {K : PySem.W.Frag} {H : Hp} : ∀ {fs : List (Str × V)} {kvs : List (D × D)}, RpF K H fs kvs → fs.length = kvs.length
  | _, _, .nil => rfl
  | _, _, .cons _ t => congrArg (· + 1) t.len
end HB
namespace HB
open PySem L2
abbrev AlX : Type := He.AlD × Bool
/-- a constant that is a tuple without a dict -/
def tupN (K : PySem.W.Frag) (x : Str) (vs : List He.Dv) : Bool := He.tupB K x vs && (match K.lookup (He.ga K x) with
  | some o => o.dict.isNone
  | none => false)
end HB
namespace HB
open PySem L2
mutual
def eqP : D → D → Bool
  | .none, .none => true
  | .bool a, .bool b => a == b
  | .int a, .int b => decide (a = b)
  | .str a, .str b => decide (a = b)
  | .list a, .list b => eqPs a b
  | .tuple a, .tuple b => eqPs a b
  | .dict a, .dict b => eqPk a b
  | _, _ => false
def eqPs : List D → List D → Bool
  | [], [] => true
  | a :: r, b :: s => eqP a b && eqPs r s
  | _, _ => false
def eqPk : List (D × D) → List (D × D) → Bool
  | [], [] => true
  | (a, c) :: r, (b, d) :: s => eqP a b && (eqP c d && eqPk r s)
  | _, _ => false
end
mutual
theorem eqP_ok : ∀ (a b : D), eqP a b = true → a = b
  | .none, b, h => by cases b <;> first | rfl | (simp [eqP] at h)
  | .bool a, b, h => by cases b <;> first | (simp [eqP] at h; rw [h]) | (simp [eqP] at h)
  | .int a, b, h => by cases b <;> first | (simp [eqP] at h; rw [h]) | (simp [eqP] at h)
  | .str a, b, h => by cases b <;> first | (simp [eqP] at h; rw [h]) | (simp [eqP] at h)
  | .list a, b, h => by
    cases b with
    | list b => unfold eqP at h; rw [eqPs_ok a b h]
    | _ => simp [eqP] at h
  | .tuple a, b, h => by
    cases b with
    | tuple b => unfold eqP at h; rw [eqPs_ok a b h]
    | _ => simp [eqP] at h
  | .dict a, b, h => by
    cases b with
    | dict b => unfold eqP at h; rw [eqPk_ok a b h]
    | _ => simp [eqP] at h
theorem eqPs_ok : ∀ (a b : List D), eqPs a b = true → a = b
  | [], b, h => by cases b with
    | nil => rfl
    | cons _ _ => simp [eqPs] at h
  | a :: r, b, h => by cases b with
    | nil => simp [eqPs] at h
    | cons b s =>
      unfold eqPs at h
      obtain ⟨h1, h2⟩ := Bool.and_eq_true_iff.mp h
      rw [eqP_ok a b h1, eqPs_ok r s h2]
theorem eqPk_ok : ∀ (a b : List (D × D)), eqPk a b = true → a = b
  | [], b, h => by cases b with
    | nil => rfl
    | cons _ _ => simp [eqPk] at h
  | (a, c) :: r, b, h => by cases b with
    | nil => simp [eqPk] at h
    | cons b s =>
      obtain ⟨b, d⟩ := b
      unfold eqPk at h
      obtain ⟨h1, h2⟩ := Bool.and_eq_true_iff.mp h
      obtain ⟨h2, h3⟩ := Bool.and_eq_true_iff.mp h2
      rw [eqP_ok a b h1, eqP_ok c d h2, eqPk_ok r s h3]
end
end HB
namespace HB
open PySem L2
def oexB (K : PySem.W.Frag) (C : Addr) : Bool := (match K.lookup C with
  | some ⟨.type "type", _, .cls kd, sl⟩ => (match kd.mro, sl.toList with
    | .ref C2 :: bm, [_, _, _, _, some (.builtin n), _] => decide (C2 = C) && (decide (n = "ValueError.__new__") && (!kd.hasDel && (kd.hasDict && PySem.HandSPX.refsVE bm)))
    | _, _ => false)
  | _ => false) && (He.eqO (PySem.W.findIn K (.ref C) "__setattr__") (some (some (.builtin "object.__setattr__"))) && (decide (PySem.W.subIn K (.ref C) (.type "BaseException") = some true) && (decide (PySem.W.typeIn K (.ref C) = some (.type "type")) && PySem.W.keepIn K (.ref C))))
/-- a class over BendError with one field, kept by its own __init__ -/
def excB (K : PySem.W.Frag) (c f : Str) : Bool := oexB K (He.ga K c) && (xfB K (He.ga K c) && (He.eqO (PySem.W.findIn K (.ref (He.ga K c)) f) (some none) && (He.eqO (PySem.W.findIn K (.ref (He.ga K c)) "__init__") (some (some (.ref (He.ma K (He.ga K c) "__init__")))) &&
  decide (PySem.W.typeIn K (.ref (He.ma K (He.ga K c) "__init__")) = some (.type "function")))))
/-- the class that all of them are -/
def botB (K : PySem.W.Frag) (b : Str) : Bool := PySem.W.readsIn K (He.ga K b) (.type "type") && (match PySem.W.findCls K (.ref (He.ga K b)) (.type "type") "__init__" with
  | some (.val (.builtin "ValueError.__init__")) => He.eqO (PySem.W.specialIn K (.ref (He.ga K b)) "__getattribute__") (some (some (.builtin "type.__getattribute__")))
  | _ => false)
end HB
namespace HB
open PySem L2
section
variable {X : Cx} {i : Nat}
/-- what isinstance wants of an error class -/
def isxB (K : PySem.W.Frag) (c : Str) : Bool := (PySem.W.clsIn K (He.ga K c)).isSome && (He.eqO (PySem.W.findIn K (.ref (He.ga K c)) "__class__") (some (some (.builtin "object.__class__"))) && (decide (PySem.W.specialIn K (.builtin "object.__class__") "__get__" = some (some (.builtin "getset_descriptor.__get__"))) &&
  (decide (PySem.W.takesIn K (.builtin "object.__class__") = some true) && decide (PySem.W.mroIn K (He.ga K c) (.type "object") = some true))))
end
end HB
namespace HB
open PySem L2
def obsE (fa : List He.Fa) (fn : List He.DefD) (tp : List (Str × List He.Dv)) (xs : List (PySem.W.Frag → Bool)) (K : PySem.W.Frag) : AlX := (He.obsD fa fn K, (tp.all fun p => tupN K p.1 p.2) && xs.all fun p => p K)
end HB
namespace HB
open PySem L2
mutual
def freeL : D → Bool
  | .list _ => false
  | .tuple ds => freeLs ds
  | .dict kvs => freeLk kvs
  | _ => true
def freeLs : List D → Bool
  | [] => true
  | d :: ds => freeL d && freeLs ds
def freeLk : List (D × D) → Bool
  | [] => true
  | (_, v) :: r => freeL v && freeLk r
end
end HB
namespace HB
open PySem L2
abbrev KyL := List (List L2.Key × Addr × Value)
end HB
namespace HB
open PySem L2
def obsF (as : List Addr) (fa : List He.Fa) (fn : List He.DefD) (tp : List (Str × List He.Dv)) (xs : List (PySem.W.Frag → Bool)) (g : Addr → Option Obj) : AlX := obsE fa fn tp xs (He.frG g (cStatics :: as))
def seenA : List Addr := List.range' 3 1300
end HB
namespace HB
open PySem L2
def cmDef (c m qual : Str) (st : Stmt) : He5.DefA := ⟨fun K => He5.wf K (He.ga K c) "classmethod" m, m, qual, defArgs st, defBody st, defScope st, [], []⟩
def crB (K : PySem.W.Frag) (c : Str) : Bool := PySem.W.readsIn K (He.ga K c) (.type "type") && decide (PySem.W.specialIn K (.ref (He.ga K c)) "__getattribute__" = some (some (.builtin "type.__getattribute__")))
def cmB (K : PySem.W.Frag) (c m : Str) : Bool := He5.wrapB K (He.ga K c) "classmethod" "classmethod.__get__" m && PySem.W.fnIn K (He5.wf K (He.ga K c) "classmethod" m)
def hookG (as : List Addr) (fa : List He.Fa) (fn : List He.DefD) (fm : List He5.DefA) (tp : List (Str × List He.Dv)) (xs : List (PySem.W.Frag → Bool)) : PySem.W.Hook where
  α := AlX × He.AlD
  obs := fun s => (obsF as fa fn tp xs s.heap.get?, He5.obsA [] fm (He.frG s.heap.get? (cStatics :: as)))
  val := fun _ => ((He.valD fn, true), He5.valA fm)
  says := fun _ h => ∃ K : PySem.W.Frag, K.In h ∧ He.SaysD fa fn K ∧ (tp.all fun p => tupN K p.1 p.2) = true ∧ (xs.all fun p => p K) = true ∧ He5.SaysA [] fm K
  of := fun _ _ e => ⟨_, He.frG_in, congrArg (fun z : AlX × He.AlD => z.1.1) e, (He.ba (congrArg (fun z : AlX × He.AlD => z.1.2) e)).1, (He.ba (congrArg (fun z : AlX × He.AlD => z.1.2) e)).2, congrArg (fun z : AlX × He.AlD => z.2) e⟩
  keeps := fun _ _ _ y k => let ⟨K, hK, said⟩ := y; ⟨K, hK.keeps k, said⟩
def obsG (as : List Addr) (fa : List He.Fa) (fn : List He.DefD) (fm : List He5.DefA) (tp : List (Str × List He.Dv)) (xs : List (PySem.W.Frag → Bool)) (g : Addr → Option Obj) : AlX × He.AlD := (obsF as fa fn tp xs g, He5.obsA [] fm (He.frG g (cStatics :: as)))
end HB
namespace HB
open PySem L2
def topS (i : Nat) : Stmt := PySem.Challenge.pw_handlebends_k05_texts_of_no_bend.main.body.getD i (.Pass ⟨0, 0, 0, 0⟩)
abbrev s_law_box : Stmt := topS 24
abbrev s_law_fr : Stmt := topS 28
abbrev s_law_add : Stmt := topS 29
abbrev s_law_take : Stmt := topS 25
abbrev s_law_pick : Stmt := topS 26
abbrev s_law_marks : Stmt := topS 31
abbrev s_law_small : Stmt := topS 30
abbrev s_law_drawn : Stmt := topS 32
abbrev s_law_below : Stmt := topS 33
abbrev s_law_number_v1 : Stmt := topS 36
abbrev s_law_read_value : Stmt := topS 37
abbrev s_law_due : Stmt := topS 38
abbrev s_InvalidBend_init : Stmt := (C8.clsBody (topS 2)).getD 0 (.Pass ⟨0, 0, 0, 0⟩)
abbrev s_is_less : Stmt := topS 13
abbrev s_is_sequence : Stmt := topS 9
abbrev s_common_part : Stmt := topS 10
abbrev s_is_integer : Stmt := topS 8
abbrev s_is_value : Stmt := topS 11
abbrev s_value_of : Stmt := topS 12
abbrev s_are_marks : Stmt := topS 19
abbrev s_text_of : Stmt := topS 14
abbrev s_text_of_bend : Stmt := topS 21
abbrev s_Bend_init : Stmt := (C8.clsBody (topS 20)).getD 0 (.Pass ⟨0, 0, 0, 0⟩)
abbrev s_Bend___str__ : Stmt := (C8.clsBody (topS 20)).getD 4 (.Pass ⟨0, 0, 0, 0⟩)
abbrev s_InvalidText_init : Stmt := (C8.clsBody (topS 3)).getD 0 (.Pass ⟨0, 0, 0, 0⟩)
abbrev s_number_in : Stmt := topS 15
abbrev s_value_in : Stmt := topS 16
abbrev s_values_in : Stmt := topS 17
abbrev s_rows_in : Stmt := topS 22
abbrev s_Bend_read : Stmt := (C8.clsBody (topS 20)).getD 1 (.Pass ⟨0, 0, 0, 0⟩)
abbrev s_law_heard_v10 : Stmt := topS 39
abbrev s_law_told_value : Stmt := topS 34
abbrev s_law_text : Stmt := topS 35
abbrev s_law_value : Stmt := topS 27
abbrev s_law : Stmt := topS 40
end HB
namespace HB
open PySem L2
def fa0 : List He.Fa := [.free "abs",
  .free "all",
  .free "any",
  .free "bool",
  .free "int",
  .free "isinstance",
  .free "len",
  .free "list",
  .free "max",
  .free "min",
  .free "range",
  .free "repr",
  .free "str",
  .free "tuple",
  .free "zip",
  .str "DIGITS" "0123456789",
  .int "MOST_DIGITS" 9,
  .int "PAIR" 2,
  .cls "Bend",
  .mkr "Bend",
  .glo "Bend",
  .meth "Bend" "__str__",
  .glo "BendError",
  .glo "InvalidBend",
  .glo "InvalidText",
  .exm "InvalidBend" "InvalidText" false,
  .exm "InvalidBend" "InvalidBend" true,
  .exm "InvalidText" "InvalidText" true,
  .noat "Bend" "degree",
  .noat "Bend" "handles"]
def fa1 : List He.Fa := [.noat "Bend" "marks",
  .noat "Bend" "text",
  .glo "_law_box",
  .glo "_law_fr",
  .glo "_law_add",
  .glo "_law_take",
  .glo "_law_pick",
  .glo "_law_marks",
  .glo "_law_small",
  .glo "_law_drawn",
  .glo "_law_below",
  .glo "_law_number",
  .glo "_law_read_value",
  .glo "_law_due",
  .glo "is_less",
  .glo "is_sequence",
  .glo "common_part",
  .glo "is_integer",
  .glo "is_value",
  .glo "value_of",
  .glo "are_marks",
  .glo "text_of",
  .glo "text_of_bend",
  .glo "number_in",
  .glo "value_in",
  .glo "values_in",
  .glo "rows_in",
  .glo "_law_heard",
  .glo "_law_told_value",
  .glo "_law_text"]
def fa2 : List He.Fa := [.glo "_law_value",
  .glo "law"]
def fa : List He.Fa := fa0 ++ fa1 ++ fa2
def fn0 : List He.DefD := [⟨("_law_box", none), "_law_box", "_law_box", defArgs s_law_box, defBody s_law_box, defScope s_law_box, [], []⟩,
  ⟨("_law_fr", none), "_law_fr", "_law_fr", defArgs s_law_fr, defBody s_law_fr, defScope s_law_fr, [], []⟩,
  ⟨("_law_add", none), "_law_add", "_law_add", defArgs s_law_add, defBody s_law_add, defScope s_law_add, [], []⟩,
  ⟨("_law_take", none), "_law_take", "_law_take", defArgs s_law_take, defBody s_law_take, defScope s_law_take, [], []⟩,
  ⟨("_law_pick", none), "_law_pick", "_law_pick", defArgs s_law_pick, defBody s_law_pick, defScope s_law_pick, [], []⟩,
  ⟨("_law_marks", none), "_law_marks", "_law_marks", defArgs s_law_marks, defBody s_law_marks, defScope s_law_marks, [], []⟩,
  ⟨("_law_small", none), "_law_small", "_law_small", defArgs s_law_small, defBody s_law_small, defScope s_law_small, [], []⟩,
  ⟨("_law_drawn", none), "_law_drawn", "_law_drawn", defArgs s_law_drawn, defBody s_law_drawn, defScope s_law_drawn, [], []⟩,
  ⟨("_law_below", none), "_law_below", "_law_below", defArgs s_law_below, defBody s_law_below, defScope s_law_below, [], []⟩,
  ⟨("_law_number", none), "_law_number", "_law_number", defArgs s_law_number_v1, defBody s_law_number_v1, defScope s_law_number_v1, [], []⟩,
  ⟨("_law_read_value", none), "_law_read_value", "_law_read_value", defArgs s_law_read_value, defBody s_law_read_value, defScope s_law_read_value, [], []⟩,
  ⟨("_law_due", none), "_law_due", "_law_due", defArgs s_law_due, defBody s_law_due, defScope s_law_due, [], []⟩,
  ⟨("InvalidBend", some "__init__"), "__init__", "InvalidBend.__init__", defArgs s_InvalidBend_init, defBody s_InvalidBend_init, defScope s_InvalidBend_init, [], []⟩,
  ⟨("is_less", none), "is_less", "is_less", defArgs s_is_less, defBody s_is_less, defScope s_is_less, [], []⟩,
  ⟨("is_sequence", none), "is_sequence", "is_sequence", defArgs s_is_sequence, defBody s_is_sequence, defScope s_is_sequence, [], []⟩,
  ⟨("common_part", none), "common_part", "common_part", defArgs s_common_part, defBody s_common_part, defScope s_common_part, [], []⟩,
  ⟨("is_integer", none), "is_integer", "is_integer", defArgs s_is_integer, defBody s_is_integer, defScope s_is_integer, [], []⟩,
  ⟨("is_value", none), "is_value", "is_value", defArgs s_is_value, defBody s_is_value, defScope s_is_value, [], []⟩,
  ⟨("value_of", none), "value_of", "value_of", defArgs s_value_of, defBody s_value_of, defScope s_value_of, [], []⟩,
  ⟨("are_marks", none), "are_marks", "are_marks", defArgs s_are_marks, defBody s_are_marks, defScope s_are_marks, [], []⟩,
  ⟨("text_of", none), "text_of", "text_of", defArgs s_text_of, defBody s_text_of, defScope s_text_of, [], []⟩,
  ⟨("text_of_bend", none), "text_of_bend", "text_of_bend", defArgs s_text_of_bend, defBody s_text_of_bend, defScope s_text_of_bend, [], []⟩,
  ⟨("Bend", some "__init__"), "__init__", "Bend.__init__", defArgs s_Bend_init, defBody s_Bend_init, defScope s_Bend_init, [], []⟩,
  ⟨("Bend", some "__str__"), "__str__", "Bend.__str__", defArgs s_Bend___str__, defBody s_Bend___str__, defScope s_Bend___str__, [], []⟩,
  ⟨("InvalidText", some "__init__"), "__init__", "InvalidText.__init__", defArgs s_InvalidText_init, defBody s_InvalidText_init, defScope s_InvalidText_init, [], []⟩,
  ⟨("number_in", none), "number_in", "number_in", defArgs s_number_in, defBody s_number_in, defScope s_number_in, [], []⟩,
  ⟨("value_in", none), "value_in", "value_in", defArgs s_value_in, defBody s_value_in, defScope s_value_in, [], []⟩,
  ⟨("values_in", none), "values_in", "values_in", defArgs s_values_in, defBody s_values_in, defScope s_values_in, [], []⟩,
  ⟨("rows_in", none), "rows_in", "rows_in", defArgs s_rows_in, defBody s_rows_in, defScope s_rows_in, [], []⟩,
  ⟨("_law_heard", none), "_law_heard", "_law_heard", defArgs s_law_heard_v10, defBody s_law_heard_v10, defScope s_law_heard_v10, [], []⟩]
def fn1 : List He.DefD := [⟨("_law_told_value", none), "_law_told_value", "_law_told_value", defArgs s_law_told_value, defBody s_law_told_value, defScope s_law_told_value, [], []⟩,
  ⟨("_law_text", none), "_law_text", "_law_text", defArgs s_law_text, defBody s_law_text, defScope s_law_text, [], []⟩,
  ⟨("_law_value", none), "_law_value", "_law_value", defArgs s_law_value, defBody s_law_value, defScope s_law_value, [], []⟩,
  ⟨("law", none), "law", "law", defArgs s_law, defBody s_law, defScope s_law, [], []⟩]
def fn : List He.DefD := fn0 ++ fn1
def tp0 : List (Str × List He.Dv) := []
def tp : List (Str × List He.Dv) := tp0
def xs0 : List (PySem.W.Frag → Bool) := [fun K => excB K "InvalidBend" "word",
  fun K => excB K "InvalidText" "at",
  fun K => botB K "BendError",
  fun K => isxB K "InvalidBend",
  fun K => isxB K "InvalidText",
  fun K => crB K "Bend",
  fun K => cmB K "Bend" "read"]
def xs : List (PySem.W.Frag → Bool) := xs0
def loo0 : List Str := ["__name__",
  "BendError",
  "InvalidBend",
  "InvalidText",
  "PAIR",
  "DIGITS",
  "MOST_DIGITS",
  "is_integer",
  "is_sequence",
  "common_part",
  "is_value",
  "value_of",
  "is_less",
  "text_of",
  "number_in",
  "value_in",
  "values_in",
  "are_marks",
  "Bend",
  "text_of_bend",
  "rows_in",
  "_law_box",
  "_law_take",
  "_law_pick",
  "_law_value",
  "_law_fr",
  "_law_add",
  "_law_small",
  "_law_marks",
  "_law_drawn"]
def loo1 : List Str := ["_law_below",
  "_law_told_value",
  "_law_text",
  "_law_number",
  "_law_read_value",
  "_law_due",
  "_law_heard"]
def loo : List Str := loo0 ++ loo1
def fm : List He5.DefA := [cmDef "Bend" "read" "Bend.read" s_Bend_read]
abbrev rowR : PySem.W.OpenRow := PySem.W.OpenLaw.row PySem.Challenge.rw_handlebends_k05_texts_of_no_bend
abbrev hk : PySem.W.Hook := hookG seenA fa fn fm tp xs
def ob (s : PySem.W.SharedT) : AlX × He.AlD := obsG seenA fa fn fm tp xs (HandSHeadRun.getT s)
theorem topRun (w : World) : HandSHeadRun.RunEq rowR (PySem.W.view rowR.prog [40]) hk ob 6000 loo w := by
  intro os
  kernel_rfl
end HB
namespace HB
open PySem L2
abbrev Exn := Str × List (Str × D)
theorem sqP_mono {K : PySem.W.Frag} {H H' : Hp} {a : Addr} {xs : List V} (s : Same H H') (h : SqP K H a xs) : SqP K H' a xs := h.elim (fun ⟨o, e, n⟩ => .inl ⟨o, s _ _ e, n⟩) .inr
theorem SqP.new {K : PySem.W.Frag} {H : Hp} {p : Addr} {o : Obj} {xs : List V} (n : o.dict = none) : SqP K (upd H p (.frz o (.tup xs))) p xs := .inl ⟨o, upd_same, n⟩
theorem sqT_mono {K : PySem.W.Frag} {H H' : Hp} {a : Addr} {xs : List V} (s : Same H H') (h : SqT K H a xs) : SqT K H' a xs := by
  exact h.elim (fun z => .inl (z.elim (fun y => .inl (s _ _ y)) fun ⟨o, y⟩ => .inr ⟨o, s _ _ y⟩)) .inr
theorem Rp.mono {K : PySem.W.Frag} {H H' : Hp} (s : Same H H') {v : V} {d : D} (r : Rp K H v d) : Rp K H' v d :=
  @Rp.rec K H (fun v d _ => Rp K H' v d) (fun vs ds _ => RpAll K H' vs ds) (fun fs kvs _ => RpF K H' fs kvs)
    .non (fun b => .bl b) (fun i => .int i) (fun x => .str x) (fun h _ ih => .lst (s _ _ h) ih) (fun h _ ih => .tup (sqP_mono s h) ih) (fun h _ ih => .frz (s.seq h) ih) (fun h _ ih => .obj (s _ _ h) ih) (fun a => .adr a) (fun x => .fn x)
    .nil (fun _ _ h t => .cons h t) .nil (fun _ _ h t => .cons h t) v d r
theorem RpAll.mono {K : PySem.W.Frag} {H H' : Hp} (s : Same H H') : ∀ {vs : List V} {ds : List D}, RpAll K H vs ds → RpAll K H' vs ds
  | _, _, .nil => .nil
  | _, _, .cons r t => .cons (r.mono s) (RpAll.mono s t)
theorem RpAll.get {K : PySem.W.Frag} {H : Hp} : ∀ {vs : List V} {ds : List D} {i : Nat} {d : D}, RpAll K H vs ds → ds[i]? = some d → ∃ v, vs[i]? = some v ∧ Rp K H v d
  | _, _, _, _, .nil, no => by simp at no
  | _, _, 0, _, .cons r _, e => by
    have e2 := Option.some.inj (show some _ = some _ from e)
    subst e2
    exact ⟨_, rfl, r⟩
  | _, _, i + 1, _, .cons _ t, e => by
    obtain ⟨v, h1, h2⟩ := RpAll.get (i := i) t e
    exact ⟨v, h1, h2⟩
theorem RpAll.append {K : PySem.W.Frag} {H : Hp} : ∀ {vs ws : List V} {ds es : List D}, RpAll K H vs ds → RpAll K H ws es → RpAll K H (vs ++ ws) (ds ++ es)
  | _, _, _, _, .nil, s => s
  | _, _, _, _, .cons r t, s => .cons r (t.append s)
theorem RpAll.set {K : PySem.W.Frag} {H : Hp} {v : V} {d : D} (r : Rp K H v d) : ∀ {vs : List V} {ds : List D} (i : Nat), RpAll K H vs ds → RpAll K H (vs.set i v) (ds.set i d)
  | _, _, _, .nil => .nil
  | _, _, 0, .cons _ rest => .cons r rest
  | _, _, i + 1, .cons q t => .cons q (RpAll.set r i t)
theorem RpAll.take {K : PySem.W.Frag} {H : Hp} : ∀ {vs : List V} {ds : List D} (n : Nat), RpAll K H vs ds → RpAll K H (vs.take n) (ds.take n)
  | _, _, 0, _ => .nil
  | _, _, _ + 1, .nil => .nil
  | _, _, n + 1, .cons r t => .cons r (t.take n)
theorem RpAll.drop {K : PySem.W.Frag} {H : Hp} : ∀ {vs : List V} {ds : List D} (n : Nat), RpAll K H vs ds → RpAll K H (vs.drop n) (ds.drop n)
  | _, _, 0, r => r
  | _, _, _ + 1, .nil => .nil
  | _, _, n + 1, .cons _ t => t.drop n
/-- a list that is the slot's alone stands at b -/
def Ownd (ρ : En) (σ : St) (b : Addr) : Prop := ∃ (i : Nat) (s : Sl) (ds : List D), ρ[i]? = some s ∧ s.ls = some ds ∧ σ[i]? = some (some (.ref b))
structure J (K : PySem.W.Frag) (G : Hp) (ρ : En) (σ : St) (H : Hp) : Prop where
  sub : Same G H
  len : ρ.length = σ.length
  pur : ∀ (i : Nat) (d : D), ρ[i]? = some (.pur d) → ∃ v, σ[i]? = some (some v) ∧ Rp K G v d
  own : ∀ (i : Nat) (s : Sl) (ds : List D), ρ[i]? = some s → s.ls = some ds → ∃ (a : Addr) (vs : List V), σ[i]? = some (some (.ref a)) ∧ H a = some (.lst vs) ∧ G a = none ∧ RpAll K G vs ds
  dis : ∀ (i j : Nat) (s t : Sl) (ds es : List D) (b : Addr), ρ[i]? = some s → s.ls = some ds → ρ[j]? = some t → t.ls = some es → σ[i]? = some (some (.ref b)) → σ[j]? = some (some (.ref b)) → i = j
/-- what may have happened -/
structure Ex (K : PySem.W.Frag) (G : Hp) (ρ : En) (σ : St) (H : Hp) (G' : Hp) (ρ' : En) (σ' : St) (H' : Hp) : Prop where
  j : J K G' ρ' σ' H'
  g : Same G G'
  new : ∀ b, G' b ≠ none → G b ≠ none ∨ H b = none ∨ Ownd ρ σ b
  kept : ∀ b o, H b = some o → ¬ Ownd ρ σ b → H' b = some o
  ow : ∀ b, Ownd ρ' σ' b → Ownd ρ σ b ∨ H b = none
  dom : ∀ b, H' b = none → H b = none
  bx : ∀ (i : Nat) (ds : List D), ρ'[i]? = some (.box ds) → (∃ es, ρ[i]? = some (.box es)) ∧ σ'[i]? = σ[i]?
/-- nothing that was there is changed -/
structure PX (G H G' H' : Hp) : Prop where
  h : Same H H'
  g : Same G G'
  s : Same G' H'
  new : ∀ b, G' b ≠ none → G b ≠ none ∨ H b = none
theorem PX.refl {G H : Hp} (s : Same G H) : PX G H G H := ⟨.refl _, .refl _, s, fun _ h => .inl h⟩
theorem PX.trans {G H G1 H1 G2 H2 : Hp} (a : PX G H G1 H1) (b : PX G1 H1 G2 H2) : PX G H G2 H2 :=
  ⟨a.h.trans b.h, a.g.trans b.g, b.s, fun c hc => (b.new c hc).elim (fun z => a.new c z) fun z => .inr (a.h.free z)⟩
theorem same_upd {H : Hp} {p : Addr} {o : HO} (np : H p = none) : Same H (upd H p o) := fun b x e => (upd_ne (ne_of_none e np)).trans e
theorem same_upd2 {G H : Hp} {p : Addr} {o : HO} (s : Same G H) : Same (upd G p o) (upd H p o) := fun b x e => by
  by_cases hb : b = p
  · subst hb; rw [upd_same] at e ⊢; exact e
  · rw [upd_ne hb] at e ⊢; exact s _ _ e
/-- a new object -/
theorem PX.alloc {G H : Hp} (s : Same G H) {p : Addr} (hp : H p = none) (o : HO) : PX G H (upd G p o) (upd H p o) :=
  ⟨same_upd hp, same_upd (s.free hp), same_upd2 s, fun b hb => by
    by_cases e : b = p
    · subst e; exact .inr hp
    · rw [upd_ne e] at hb; exact .inl hb⟩
section
variable {K : PySem.W.Frag} {G H G' H' : Hp} {ρ ρ' : En} {σ σ' : St}
theorem J.px (j : J K G ρ σ H) (x : PX G H G' H') : J K G' ρ σ H' where
  sub := x.s
  len := j.len
  pur := fun i d e => let ⟨v, h1, h2⟩ := j.pur i d e; ⟨v, h1, h2.mono x.g⟩
  own := fun i s ds e hl => by
    obtain ⟨a, vs, h1, h2, h3, h4⟩ := j.own i s ds e hl
    refine ⟨a, vs, h1, x.h _ _ h2, ?_, h4.mono x.g⟩
    cases q : G' a with
    | none => rfl
    | some o =>
      rcases x.new a (by rw [q]; simp) with z | z
      · exact absurd h3 z
      · rw [h2] at z; cases z
  dis := j.dis
theorem J.ex (j : J K G ρ σ H) (x : PX G H G' H') : Ex K G ρ σ H G' ρ σ H' :=
  ⟨j.px x, x.g, fun b hb => (x.new b hb).elim .inl fun z => .inr (.inl z), fun b o e _ => x.h _ _ e, fun b h => .inl h, fun b h => x.h.free h, fun i ds h => ⟨⟨ds, h⟩, rfl⟩⟩
theorem J.refl (j : J K G ρ σ H) : Ex K G ρ σ H G ρ σ H := j.ex (.refl j.sub)
theorem J.ownd (j : J K G ρ σ H) {b : Addr} (h : Ownd ρ σ b) : ∃ vs, H b = some (.lst vs) ∧ G b = none := by
  obtain ⟨i, s, ds, h1, hl, h2⟩ := h
  obtain ⟨a, vs, h3, h4, h5, _⟩ := j.own i s ds h1 hl
  rw [h2] at h3
  cases h3
  exact ⟨vs, h4, h5⟩
theorem Ex.trans {G1 G2 H1 H2 : Hp} {ρ1 ρ2 : En} {σ1 σ2 : St} (a : Ex K G ρ σ H G1 ρ1 σ1 H1) (b : Ex K G1 ρ1 σ1 H1 G2 ρ2 σ2 H2) : Ex K G ρ σ H G2 ρ2 σ2 H2 where
  j := b.j
  g := a.g.trans b.g
  new := fun c hc => by
    rcases b.new c hc with z | z | z
    · exact a.new c z
    · exact .inr (.inl (a.dom c z))
    · rcases a.ow c z with z | z
      · exact .inr (.inr z)
      · exact .inr (.inl z)
  kept := fun c o e n => b.kept c o (a.kept c o e n) fun z => by
    rcases a.ow c z with z | z
    · exact n z
    · rw [e] at z; cases z
  ow := fun c hc => by
    rcases b.ow c hc with z | z
    · exact a.ow c z
    · exact .inr (a.dom c z)
  dom := fun c hc => a.dom c (b.dom c hc)
  bx := fun i ds h => by
    obtain ⟨⟨es, h1⟩, h2⟩ := b.bx i ds h
    obtain ⟨h3, h4⟩ := a.bx i es h1
    exact ⟨h3, h2.trans h4⟩
end
end HB
namespace HB
open PySem L2
abbrev tupO (us : List Value) : Obj := { cls := .type "tuple", data := .seq us.toArray }
/-- what is asked of whoever makes a tuple of xs -/
def NewT (H : Hp) (xs : List V) (Q : VK) : Prop := ∀ p o, H p = none → o.dict = none → Q (.ref p) (upd H p (.frz o (.tup xs)))
section
variable {X : Cx}
theorem new_tuple {pins : List (Addr × Obj)} {σ : St} {H : Hp} {s : Shared} {xs : List V} {us : List Value} {Q : VK} (I : Inv X pins σ H s) (r : Vals xs us) (z : xs.length ≤ sizeLine) (q : NewT H xs Q) :
    EP X pins σ Q (.ref s.heap.objs.size) { s with heap := s.heap.push (tupO us) } := by
  have here : (s.heap.push (tupO us)).get? s.heap.objs.size = some (tupO us) := Heap.get?_push_size _ rfl
  have ok : ObjOk X.prog X.w (upd H s.heap.objs.size (.frz (tupO us) (.tup xs))) (s.heap.push (tupO us)) s.heap.objs.size (.frz (tupO us) (.tup xs)) := ⟨here, z, us, r, _, here, rfl, _, rfl⟩
  exact ⟨.ref s.heap.objs.size, _, I.laid (t' := s.toks) (fun _ _ e => Heap.get?_push_of_some _ e) (Nat.le_refl _) ok, rfl, q _ _ (I.hok.fresh (Nat.le_refl _)) rfl⟩
/-- a display -/
def tTupP (t : TA) : TE := fun σ H Q => t σ H fun xs H1 => xs.length ≤ sizeLine ∧ NewT H1 xs Q
theorem pe_tupP {es : List Expr} {t : TA} {k : Nat} {pos : Pos} (h : PA X es t) : PE X (.Tuple es k pos) (tTupP t) :=
  PE.mk fun pins s σ H Q I hq => wpAny_Tuple_spliced (thn (h.run pos pins s σ H _ I hq) fun us s1 ⟨xs, H1, I1, r, z, q⟩ => ⟨r.length ▸ z, new_tuple I1 r z q⟩)
/-- tuple(x) of a list -/
def rTupP (K : PySem.W.Frag) : List V → Hp → VK → Prop := fun vs H Q => ∃ a xs, vs = [.ref a] ∧ SqL K H a xs ∧ NewT H xs Q
theorem call_tupP : CallR X (.type "tuple") (rTupP X.K) := fun pins s σ H vs us Q I r ⟨a, xs, e, hs, q⟩ => by
  subst e
  match us, r with
  | [_], .cons rfl .nil =>
    have ⟨its, rv, pl, hz⟩ := I.list hs
    refine call_tuple_list pl.isList (fun h' kp => ?_) (by simpa [← rv.length] using hz)
    exact new_tuple (s := { s with heap := h' }) (I.kept (t' := s.toks) kp) rv hz q
/-- t[lo:hi], not the whole of it -/
def rSlP (K : PySem.W.Frag) : V → Option Int → Option Int → Hp → VK → Prop := fun x lo hi H Q => ∃ a xs, x = .ref a ∧ SqT K H a xs ∧
  ¬ (HT.sIx xs.length 0 lo = 0 ∧ HT.sIx xs.length xs.length hi = xs.length) ∧ NewT H (cutV xs lo hi) Q
theorem cut_vals {xs : List V} {us : List Value} (r : Vals xs us) (lo hi : Option Int) : Vals (cutV xs lo hi) ((us.drop (HT.sIx us.length 0 lo)).take (HT.sIx us.length us.length hi - HT.sIx us.length 0 lo)) := by
  unfold cutV
  rw [r.length]
  exact (r.drop _).take _
theorem sl_tupP : SlR X (rSlP X.K) := fun pins s σ H x v vl vu lo hi sl Q I rx hs pl pu ⟨a, xs, e, hx, hw, q⟩ => by
  subst e
  cases rx
  have ⟨its, r, ht, hz⟩ := I.tuple hx
  have len : xs.length = its.toArray.size := by simp [r.length]
  have all := HT.getItem_tuple_cut (prog := X.prog) (w := X.w) (E := X.xe) (A := X.A) (Q := EP X pins σ Q) ht hs pl pu (len ▸ hw) (new_tuple I (by simpa using cut_vals r lo hi) (Nat.le_trans (cutV_length xs lo hi) hz) q) (len ▸ hz)
  exact ⟨"tuple", _, PyProof.Rows.slot_tuple_getitem.lookup, ht.typeIs, all⟩
/-- t + u, both not empty -/
def rCatP (K : PySem.W.Frag) : R2 := fun x y H Q => ∃ a b xs ys, x = .ref a ∧ y = .ref b ∧ SqT K H a xs ∧ SqT K H b ys ∧ xs ≠ [] ∧ ys ≠ [] ∧ xs.length + ys.length ≤ sizeLine ∧ NewT H (xs ++ ys) Q
theorem op_catP : OpR X (binaryOp .Add) (rCatP X.K) := fun pins s σ H x y v u Q I rx ry ⟨a, b, xs, ys, ex, ey, ha, hb, nx, ny, hz, q⟩ => by
  subst ex ey
  cases rx
  cases ry
  have ⟨us, r1, p1, _⟩ := I.tuple ha
  have ⟨ws, r2, p2, _⟩ := I.tuple hb
  have lens : us.length + ws.length ≤ sizeLine := by have := r1.length; have := r2.length; omega
  exact HT.cat_tup p1 p2 (fun z => nx (r1.nil_iff.mp z)) (fun z => absurd (r2.nil_iff.mp z) ny) (fun _ => new_tuple I (r1.append r2) (by simpa using hz) q) lens
/-- t + u where one is empty: the other one itself -/
def rCat0 (K : PySem.W.Frag) : R2 := fun x y H Q => ∃ a b xs ys, x = .ref a ∧ y = .ref b ∧ SqT K H a xs ∧ SqT K H b ys ∧ xs.length + ys.length ≤ sizeLine ∧ ((xs = [] ∧ Q y H) ∨ (xs ≠ [] ∧ ys = [] ∧ Q x H))
theorem op_cat0 : OpR X (binaryOp .Add) (rCat0 X.K) := fun pins s σ H x y v u Q I rx ry ⟨a, b, xs, ys, ex, ey, ha, hb, hz, q⟩ => by
  subst ex ey
  refine op_catA pins s σ H _ _ v u Q I rx ry ⟨a, b, xs, ys, rfl, rfl, ha, hb, hz, fun e => ?_, fun n e => ?_, fun n m => ?_⟩
  · exact q.elim (fun z => z.2) fun z => absurd e z.1
  · exact q.elim (fun z => absurd z.1 n) fun z => z.2.2
  · exact q.elim (fun z => absurd z.1 n) fun z => absurd z.2.1 m
end
section
variable {X : Cx}
/-- few arguments, none of them starred -/
abbrev Few (X : Cx) (pos : Pos) (es : List Expr) : Prop := ((backTo pos (starEach es X.env)).all (fun a => !a.1) && (backToKw pos (keywordEach [] X.env)).all (fun a => a.1.isSome) && decide (es.length + ([] : List Keyword).length + (if ([] : List Keyword).isEmpty then 0 else 1) < 30)) = true
end
end HB
namespace HB
open PySem L2
abbrev Mo (α : Type) := En → Option (Except Exn (En × α))
def mRet {α : Type} (a : α) : Mo α := fun ρ => some (.ok (ρ, a))
def mBind {α β : Type} (m : Mo α) (f : α → Mo β) : Mo β := fun ρ => match m ρ with
  | none => none
  | some (.error x) => some (.error x)
  | some (.ok (ρ', a)) => f a ρ'
def mLift {α : Type} (o : Option α) : Mo α := fun ρ => match o with
  | none => none
  | some a => some (.ok (ρ, a))
/-- an exception as it lies -/
def XP (K : PySem.W.Frag) (G : Hp) (ρ : En) (σ : St) (H : Hp) (x : Exn) (C : Value) (dx : Option Addr) (H' : Hp) : Prop :=
  C = .ref (He.ga K x.1) ∧ ∃ G' : Hp, Same G G' ∧ Same G' H' ∧ (∀ b, G' b ≠ none → G b ≠ none ∨ H b = none ∨ Ownd ρ σ b) ∧ (∀ b o, H b = some o → ¬ Ownd ρ σ b → H' b = some o) ∧ (∀ b, H' b = none → H b = none) ∧
    ((dx = none ∧ x.2 = []) ∨ ∃ d fs, dx = some d ∧ H' d = some (.xd fs) ∧ RpF K G' fs (x.2.map fun p => (.str p.1, p.2)))
section
variable {K : PySem.W.Frag} {E : XK} {α β : Type}
def Post (K : PySem.W.Frag) (E : XK) (R : Hp → β → α → Prop) (G : Hp) (ρ : En) (σ : St) (H : Hp) (Q : β → Hp → Prop) : Option (Except Exn (En × α)) → Prop
  | none => False
  | some (.error x) => ∀ C dx H', XP K G ρ σ H x C dx H' → E C dx H'
  | some (.ok (ρ', a)) => ∀ G' v H', Ex K G ρ σ H G' ρ' σ H' → R G' v a → Q v H'
variable {G G1 H H1 : Hp} {ρ ρ1 : En} {σ σ1 : St} {R : Hp → β → α → Prop} {Q : β → Hp → Prop}
theorem XP.trans (e : Ex K G ρ σ H G1 ρ1 σ1 H1) {x : Exn} {C : Value} {dx : Option Addr} {H' : Hp} (h : XP K G1 ρ1 σ1 H1 x C dx H') : XP K G ρ σ H x C dx H' := by
  obtain ⟨h1, G', h2, h3, h4, h5, h6, h7⟩ := h
  refine ⟨h1, G', e.g.trans h2, h3, fun b hb => ?_, fun b o q n => h5 b o (e.kept b o q n) fun z => ?_, fun b hb => e.dom b (h6 b hb), h7⟩
  · rcases h4 b hb with z | z | z
    · exact e.new b z
    · exact .inr (.inl (e.dom b z))
    · rcases e.ow b z with z | z
      · exact .inr (.inr z)
      · exact .inr (.inl z)
  · rcases e.ow b z with z | z
    · exact n z
    · rw [q] at z; cases z
theorem Post.ex {o : Option (Except Exn (En × α))} (e : Ex K G ρ σ H G1 ρ1 σ H1) (h : Post K E R G ρ σ H Q o) : Post K E R G1 ρ1 σ H1 Q o := by
  match o, h with
  | some (.error x), h => exact fun C dx H' z => h C dx H' (XP.trans e z)
  | some (.ok (ρ', a)), h => exact fun G' v H' z r => h G' v H' (e.trans z) r
theorem Post.imp {γ δ : Type} {R' : Hp → δ → γ → Prop} {Q' : δ → Hp → Prop} {m : Mo γ} {f : γ → Mo α} (h : Post K E R G ρ σ H Q (mBind m f ρ))
    (k : ∀ G1 ρ1 v H1 a, Ex K G ρ σ H G1 ρ1 σ H1 → R' G1 v a → Post K E R G1 ρ1 σ H1 Q (f a ρ1) → Q' v H1) : Post K E R' G ρ σ H Q' (m ρ) := by
  unfold mBind at h
  cases q : m ρ with
  | none => rw [q] at h; exact h
  | some r =>
    rw [q] at h
    cases r with
    | error x => exact h
    | ok p =>
      obtain ⟨ρ', a⟩ := p
      exact fun G' v H' z r => k G' ρ' v H' a z r (Post.ex z h)
theorem Post.lift {o : Option α} {ρ' : En} (h : Post K E R G ρ σ H Q (mLift o ρ)) : ∃ a, o = some a ∧ ∀ G' v H', Ex K G ρ σ H G' ρ σ H' → R G' v a → Q v H' := by
  cases o with
  | none => exact False.elim h
  | some a => exact ⟨a, rfl, h⟩
end
/-- an expression -/
def EV (X : Cx) (E : XK) (e : Expr) (f : Mo D) : Prop := ∃ t, PE X e t ∧ ∀ G ρ σ H Q, J X.K G ρ σ H → Post X.K E (Rp X.K) G ρ σ H Q (f ρ) → t σ H Q
/-- a test -/
def ET (X : Cx) (E : XK) (e : Expr) (f : Mo Bool) : Prop := ∃ t, PT X e t ∧ ∀ G ρ σ H Q, J X.K G ρ σ H → Post X.K E (fun _ b c => b = c) G ρ σ H Q (f ρ) → t σ H Q
/-- a BoolOp's tests -/
def EW (X : Cx) (E : XK) (e : Expr) (f : Mo Bool) : Prop := ∃ t, PW X e t ∧ ∀ G ρ σ H Q, J X.K G ρ σ H → Post X.K E (fun _ b c => b = c) G ρ σ H Q (f ρ) → t σ H Q
/-- arguments -/
def EA (X : Cx) (E : XK) (es : List Expr) (f : Mo (List D)) : Prop := ∃ t, PA X es t ∧ ∀ G ρ σ H Q, J X.K G ρ σ H → Post X.K E (RpAll X.K) G ρ σ H Q (f ρ) → t σ H Q
/-- a list that nobody else holds -/
def RpN (K : PySem.W.Frag) (H0 H' : Hp) (G' : Hp) (ρ' : En) (σ : St) (v : V) (ds : List D) : Prop := ∃ a vs, v = .ref a ∧ H0 a = none ∧ G' a = none ∧ H' a = some (.lst vs) ∧ ¬ Ownd ρ' σ a ∧ RpAll K G' vs ds
def PostN (K : PySem.W.Frag) (E : XK) (G : Hp) (ρ : En) (σ : St) (H : Hp) (Q : VK) : Option (Except Exn (En × List D)) → Prop
  | none => False
  | some (.error x) => ∀ C dx H', XP K G ρ σ H x C dx H' → E C dx H'
  | some (.ok (ρ', ds)) => ∀ G' v H', Ex K G ρ σ H G' ρ' σ H' → RpN K H H' G' ρ' σ v ds → Q v H'
/-- an expression that makes a new list -/
def EN (X : Cx) (E : XK) (e : Expr) (f : Mo (List D)) : Prop := ∃ t, PE X e t ∧ ∀ G ρ σ H Q, J X.K G ρ σ H → PostN X.K E G ρ σ H Q (f ρ) → t σ H Q
inductive Fl where
  | nx
  | rt (d : D)
  | bk
  | ct
def PostS (K : PySem.W.Frag) (E : XK) (G : Hp) (ρ : En) (σ : St) (H : Hp) (De : Ends) : Option (Except Exn (En × Fl)) → Prop
  | none => False
  | some (.error x) => ∀ C dx H', XP K G ρ σ H x C dx H' → E C dx H'
  | some (.ok (ρ', .nx)) => ∀ G' σ' H', Ex K G ρ σ H G' ρ' σ' H' → De.nx σ' H'
  | some (.ok (ρ', .bk)) => ∀ G' σ' H', Ex K G ρ σ H G' ρ' σ' H' → De.bk σ' H'
  | some (.ok (ρ', .ct)) => ∀ G' σ' H', Ex K G ρ σ H G' ρ' σ' H' → De.ct σ' H'
  | some (.ok (ρ', .rt d)) => ∀ G' σ' v H', Ex K G ρ σ H G' ρ' σ' H' → Rp K G' v d → De.rt v H'
def SV (X : Cx) (E : XK) (s : Stmt) (g : Mo Fl) : Prop := ∃ t, PS X s t ∧ ∀ G ρ σ H De, J X.K G ρ σ H → PostS X.K E G ρ σ H De (g ρ) → t De σ H
def SVs (X : Cx) (E : XK) (s : List Stmt) (g : Mo Fl) : Prop := ∃ t, PSs X s t ∧ ∀ G ρ σ H De, J X.K G ρ σ H → PostS X.K E G ρ σ H De (g ρ) → t De σ H
section
variable {X : Cx} {E : XK}
theorem PostS.ex {G G1 H H1 : Hp} {ρ ρ1 : En} {σ σ1 : St} {K : PySem.W.Frag} {De : Ends} {o : Option (Except Exn (En × Fl))} (e : Ex K G ρ σ H G1 ρ1 σ1 H1) (h : PostS K E G ρ σ H De o) : PostS K E G1 ρ1 σ1 H1 De o := by
  match o, h with
  | some (.error x), h => exact fun C dx H' z => h C dx H' (XP.trans e z)
  | some (.ok (ρ', .nx)), h => exact fun G' v H' z => h G' v H' (e.trans z)
  | some (.ok (ρ', .bk)), h => exact fun G' v H' z => h G' v H' (e.trans z)
  | some (.ok (ρ', .ct)), h => exact fun G' v H' z => h G' v H' (e.trans z)
  | some (.ok (ρ', .rt d)), h => exact fun G' s' v H' z r => h G' s' v H' (e.trans z) r
/-- an expression first, then a statement -/
theorem PostS.imp {K : PySem.W.Frag} {G H : Hp} {ρ : En} {σ : St} {De : Ends} {γ δ : Type} {R' : Hp → δ → γ → Prop} {Q' : δ → Hp → Prop} {m : Mo γ} {f : γ → Mo Fl} (h : PostS K E G ρ σ H De (mBind m f ρ))
    (k : ∀ G1 ρ1 v H1 a, Ex K G ρ σ H G1 ρ1 σ H1 → R' G1 v a → PostS K E G1 ρ1 σ H1 De (f a ρ1) → Q' v H1) : Post K E R' G ρ σ H Q' (m ρ) := by
  unfold mBind at h
  cases q : m ρ with
  | none => rw [q] at h; exact h
  | some r =>
    rw [q] at h
    cases r with
    | error x => exact h
    | ok p =>
      obtain ⟨ρ', a⟩ := p
      exact fun G' v H' z r => k G' ρ' v H' a z r (PostS.ex z h)
theorem PostS.impN {K : PySem.W.Frag} {G H : Hp} {ρ : En} {σ : St} {De : Ends} {Q' : VK} {m : Mo (List D)} {f : List D → Mo Fl} (h : PostS K E G ρ σ H De (mBind m f ρ))
    (k : ∀ G1 ρ1 v H1 a, Ex K G ρ σ H G1 ρ1 σ H1 → RpN K H H1 G1 ρ1 σ v a → PostS K E G1 ρ1 σ H1 De (f a ρ1) → Q' v H1) : PostN K E G ρ σ H Q' (m ρ) := by
  unfold mBind at h
  cases q : m ρ with
  | none => rw [q] at h; exact h
  | some r =>
    rw [q] at h
    cases r with
    | error x => exact h
    | ok p =>
      obtain ⟨ρ', a⟩ := p
      exact fun G' v H' z r => k G' ρ' v H' a z r (PostS.ex z h)
/-- a name of the def; a list of its own is held by others too from then on -/
def mVar (i : Nat) : Mo D := fun ρ => match ρ[i]? with
  | some (.pur d) => some (.ok (ρ, d))
  | some (.own ds) => some (.ok (ρ.set i (.pur (.list ds)), .list ds))
  | _ => none
theorem J.freeze {K : PySem.W.Frag} {G H : Hp} {ρ : En} {σ : St} (j : J K G ρ σ H) {i : Nat} {ds : List D} (h : ρ[i]? = some (.own ds)) :
    ∃ a vs, σ[i]? = some (some (.ref a)) ∧ Ex K G ρ σ H (upd G a (.lst vs)) (ρ.set i (.pur (.list ds))) σ H ∧ Rp K (upd G a (.lst vs)) (.ref a) (.list ds) := by
  obtain ⟨a, vs, h1, h2, h3, h4⟩ := j.own i _ ds h rfl
  have sg : Same G (upd G a (.lst vs)) := same_upd h3
  have hi : i < ρ.length := (List.getElem?_eq_some_iff.mp h).1
  have r : Rp K (upd G a (.lst vs)) (.ref a) (.list ds) := .lst upd_same (h4.mono sg)
  have at_ : ∀ (k : Nat) (s : Sl), (ρ.set i (.pur (.list ds)))[k]? = some s → (k = i ∧ s = .pur (.list ds)) ∨ (k ≠ i ∧ ρ[k]? = some s) := fun k s e => by
    by_cases hk : k = i
    · subst hk
      rw [List.getElem?_set_self hi] at e
      exact .inl ⟨rfl, (Option.some.inj e).symm⟩
    · rw [List.getElem?_set_ne (Ne.symm hk)] at e
      exact .inr ⟨hk, e⟩
  refine ⟨a, vs, h1, ⟨⟨fun b o e => ?_, by rw [List.length_set]; exact j.len, fun k d e => ?_, fun k s es e hl => ?_, fun k l s t es fs b e1 l1 e2 l2 e3 e4 => ?_⟩, sg, fun b hb => ?_, fun b o e _ => e, fun b hb => ?_, fun _ z => z, fun k es e => ?_⟩, r⟩
  · by_cases hb : b = a
    · subst hb; rw [upd_same] at e; rw [← e]; exact h2
    · rw [upd_ne hb] at e; exact j.sub _ _ e
  · rcases at_ k _ e with ⟨rfl, e'⟩ | ⟨_, e'⟩
    · cases e'
      exact ⟨_, h1, r⟩
    · obtain ⟨v, q1, q2⟩ := j.pur k d e'
      exact ⟨v, q1, q2.mono sg⟩
  · rcases at_ k _ e with ⟨_, e'⟩ | ⟨hk, e'⟩
    · subst e'; cases hl
    · obtain ⟨a', ws, q1, q2, q3, q4⟩ := j.own k s es e' hl
      have ne : a' ≠ a := fun z => by
        subst z
        exact hk (j.dis k i _ _ es ds a' e' hl h rfl q1 h1)
      exact ⟨a', ws, q1, q2, by rw [upd_ne ne]; exact q3, q4.mono sg⟩
  · rcases at_ k _ e1 with ⟨_, e'⟩ | ⟨hk, e'⟩
    · subst e'; cases l1
    · rcases at_ l _ e2 with ⟨_, f'⟩ | ⟨hl, f'⟩
      · subst f'; cases l2
      · exact j.dis k l _ _ es fs b e' l1 f' l2 e3 e4
  · by_cases e : b = a
    · subst e
      exact .inr (.inr ⟨i, _, ds, h, rfl, h1⟩)
    · rw [upd_ne e] at hb
      exact .inl hb
  · obtain ⟨k, s, es, e1, l1, e2⟩ := hb
    rcases at_ k _ e1 with ⟨_, e'⟩ | ⟨hk, e'⟩
    · subst e'; cases l1
    · exact .inl ⟨k, s, es, e', l1, e2⟩
  · rcases at_ k _ e with ⟨_, e'⟩ | ⟨_, e'⟩
    · cases e'
    · exact ⟨⟨es, e'⟩, rfl⟩
theorem ev_var (i : Nat) {x : Str} {pos : Pos} (hN : X.N[i]? = some x := by rfl) (hv : Vis X.env.scope x := by first | exact Or.inl rfl | exact Or.inr (Or.inl rfl) | exact Or.inr (Or.inr rfl)) (hd : (x == ("__debug__" : Str)) = false := by decide)
    (hcd : (x == ("__classdict__" : Str)) = false := by decide) : EV X E (.Name x pos) (mVar i) := by
  refine ⟨tVar i, pe_var hN hv hd hcd, fun G ρ σ H Q j h => ?_⟩
  unfold mVar at h
  cases q : ρ[i]? with
  | none => rw [q] at h; exact h.elim
  | some s =>
    rw [q] at h
    cases s with
    | no => exact h.elim
    | box _ => exact h.elim
    | pur d =>
      obtain ⟨v, h1, h2⟩ := j.pur i d q
      exact ⟨v, h1, h G v H j.refl h2⟩
    | own ds =>
      obtain ⟨a, vs, h1, h2, h3⟩ := j.freeze q
      exact ⟨_, h1, h _ _ _ h2 h3⟩
theorem ev_int {i : Int} {k : Nat} {pos : Pos} : EV X E (.Constant (.int i) k pos) (mRet (.int i)) := ⟨_, pe_int, fun G ρ σ H Q j h => h G _ H j.refl (.int i)⟩
theorem ev_bl {i : Bool} {k : Nat} {pos : Pos} : EV X E (.Constant (.bool i) k pos) (mRet (.bool i)) := ⟨_, pe_bl, fun G ρ σ H Q j h => h G _ H j.refl (.bl i)⟩
theorem ev_non {k : Nat} {pos : Pos} : EV X E (.Constant .none k pos) (mRet .none) := ⟨_, pe_non, fun G ρ σ H Q j h => h G _ H j.refl .non⟩
theorem ev_str {x : Str} {k : Nat} {pos : Pos} : EV X E (.Constant (.str x) k pos) (mRet (.str x)) := ⟨_, pe_str, fun G ρ σ H Q j h => h G _ H j.refl (.str x)⟩
/-- a module's constant -/
def GlD (K : PySem.W.Frag) (mg : Str → Option Value) (x : Str) (d : D) : Prop := ∃ v u, mg x = some u ∧ RelV v u ∧ ∀ H, Rp K H v d
theorem ev_glob {x : Str} {pos : Pos} {d : D} (g : GlD X.K X.mg x d) (hg : Gl X x := by rfl) (hd : (x == ("__debug__" : Str)) = false := by decide) : EV X E (.Name x pos) (mRet d) := by
  obtain ⟨v, u, h1, h2, h3⟩ := g
  exact ⟨_, pe_glob hg h1 h2 hd, fun G ρ σ H Q j h => h G _ H j.refl (h3 G)⟩
/-- a two-place operation on data -/
def DOp (X : Cx) (sem : Value → Value → Sem Value) (f : D → D → Option D) : Prop := ∃ r, OpR X sem r ∧ ∀ G H x y a b c Q, Same G H → Rp X.K G x a → Rp X.K G y b → f a b = some c →
  (∀ G' v H', PX G H G' H' → Rp X.K G' v c → Q v H') → r x y H Q
def mOp (f : D → D → Option D) (a b : Mo D) : Mo D := mBind a fun x => mBind b fun y => mLift (f x y)
theorem bin_sem {ta tb : TE} {r : R2} {fa fb : Mo D} {f : D → D → Option D} {sem : Value → Value → Sem Value}
    (ha : ∀ G ρ σ H Q, J X.K G ρ σ H → Post X.K E (Rp X.K) G ρ σ H Q (fa ρ) → ta σ H Q) (hb : ∀ G ρ σ H Q, J X.K G ρ σ H → Post X.K E (Rp X.K) G ρ σ H Q (fb ρ) → tb σ H Q)
    (hr : ∀ G H x y a b c Q, Same G H → Rp X.K G x a → Rp X.K G y b → f a b = some c → (∀ G' v H', PX G H G' H' → Rp X.K G' v c → Q v H') → r x y H Q) :
    ∀ G ρ σ H Q, J X.K G ρ σ H → Post X.K E (Rp X.K) G ρ σ H Q (mOp f fa fb ρ) → tOp r ta tb σ H Q := by
  intro G ρ σ H Q j h
  refine ha G ρ σ H _ j (Post.imp h fun G1 ρ1 x H1 a e1 r1 h1 => ?_)
  refine hb G1 ρ1 σ H1 _ e1.j (Post.imp h1 fun G2 ρ2 y H2 b e2 r2 h2 => ?_)
  obtain ⟨c, hc, k⟩ := Post.lift (ρ' := ρ2) h2
  exact hr G2 H2 x y a b c Q e2.j.sub (r1.mono e2.g) r2 hc fun G' v H' p q => k G' v H' (e2.j.ex p) q
theorem ev_op {op : Operator} {a b : Expr} {pos : Pos} {fa fb : Mo D} {f : D → D → Option D} (ho : DOp X (binaryOp op) f) (ha : EV X E a fa) (hb : EV X E b fb) : EV X E (.BinOp a op b pos) (mOp f fa fb) := by
  obtain ⟨r, o, hr⟩ := ho
  obtain ⟨ta, pa, qa⟩ := ha
  obtain ⟨tb, pb, qb⟩ := hb
  exact ⟨_, pe_op o pa pb, bin_sem (sem := binaryOp op) qa qb hr⟩
theorem ev_cmp {op : CmpOp} {a b : Expr} {pos : Pos} {fa fb : Mo D} {f : D → D → Option D} (ho : DOp X (compareOp op) f) (ha : EV X E a fa) (hb : EV X E b fb) (hm : behindInMarks op b = false) : EV X E (.Compare a [op] [b] pos) (mOp f fa fb) := by
  obtain ⟨r, o, hr⟩ := ho
  obtain ⟨ta, pa, qa⟩ := ha
  obtain ⟨tb, pb, qb⟩ := hb
  exact ⟨_, pe_cmpR o pa pb hm, bin_sem (sem := compareOp op) qa qb hr⟩
/-- a value as a test: it must be a bool -/
def boolD : D → Option Bool
  | .bool b => some b
  | _ => none
def mTest (f : Mo D) : Mo Bool := mBind f fun d => mLift (boolD d)
theorem test_sem {t : TE} {f : Mo D} (ha : ∀ G ρ σ H Q, J X.K G ρ σ H → Post X.K E (Rp X.K) G ρ σ H Q (f ρ) → t σ H Q) :
    ∀ G ρ σ H Q, J X.K G ρ σ H → Post X.K E (fun _ b c => b = c) G ρ σ H Q (mTest f ρ) → tTest t σ H Q := by
  intro G ρ σ H Q j h
  refine ha G ρ σ H _ j (Post.imp h fun G1 ρ1 x H1 a e1 r1 h1 => ?_)
  obtain ⟨c, hc, k⟩ := Post.lift (ρ' := ρ1) h1
  cases r1 with
  | bl b =>
    cases hc
    exact ⟨_, rfl, k G1 _ H1 e1.j.refl rfl⟩
  | _ => cases hc
theorem et_cmp {op : CmpOp} {a b : Expr} {pos : Pos} {fa fb : Mo D} {f : D → D → Option D} (ho : DOp X (compareOp op) f) (ha : EV X E a fa) (hb : EV X E b fb) (hm : behindInMarks op b = false) : ET X E (.Compare a [op] [b] pos) (mTest (mOp f fa fb)) := by
  obtain ⟨r, o, hr⟩ := ho
  obtain ⟨ta, pa, qa⟩ := ha
  obtain ⟨tb, pb, qb⟩ := hb
  exact ⟨_, pt_cmpR o pa pb hm, test_sem (bin_sem (sem := compareOp op) qa qb hr)⟩
theorem et_val {e : Expr} {f : Mo D} (h : EV X E e f) (he : ∀ whole, isTrue e X.env whole = (do let v ← whole; standAt e.pos; holding [v] (truthy v)) := by intro _; rfl) : ET X E e (mTest f) := by
  obtain ⟨t, p, q⟩ := h
  exact ⟨_, pt_val p he, fun G ρ σ H Q j h => test_sem q G ρ σ H Q j h⟩
def mAnd (a b : Mo Bool) : Mo Bool := mBind a fun c => match c with
  | true => b
  | false => mRet false
def mOr (a b : Mo Bool) : Mo Bool := mBind a fun c => match c with
  | true => mRet true
  | false => b
def mNot (a : Mo Bool) : Mo Bool := mBind a fun c => mRet (!c)
theorem ew_and1 {a : Expr} {pos : Pos} {f : Mo Bool} (h : ET X E a f) : EW X E (.BoolOp .And [a] pos) f := let ⟨t, p, q⟩ := h; ⟨t, pw_and1 p, q⟩
theorem ew_or1 {a : Expr} {pos : Pos} {f : Mo Bool} (h : ET X E a f) : EW X E (.BoolOp .Or [a] pos) f := let ⟨t, p, q⟩ := h; ⟨t, pw_or1 p, q⟩
theorem ew_and {a b : Expr} {rest : List Expr} {pos : Pos} {f g : Mo Bool} (h : ET X E a f) (hb : EW X E (.BoolOp .And (b :: rest) pos) g) : EW X E (.BoolOp .And (a :: b :: rest) pos) (mAnd f g) := by
  obtain ⟨t, p, q⟩ := h
  obtain ⟨t2, p2, q2⟩ := hb
  refine ⟨_, pw_and p p2, fun G ρ σ H Q j h => q G ρ σ H _ j (Post.imp h fun G1 ρ1 x H1 a e1 r1 h1 => ?_)⟩
  subst r1
  cases x with
  | true => exact (q2 G1 ρ1 σ H1 Q e1.j h1 : _)
  | false => exact (h1 G1 false H1 e1.j.refl rfl : _)
theorem ew_or {a b : Expr} {rest : List Expr} {pos : Pos} {f g : Mo Bool} (h : ET X E a f) (hb : EW X E (.BoolOp .Or (b :: rest) pos) g) : EW X E (.BoolOp .Or (a :: b :: rest) pos) (mOr f g) := by
  obtain ⟨t, p, q⟩ := h
  obtain ⟨t2, p2, q2⟩ := hb
  refine ⟨_, pw_or p p2, fun G ρ σ H Q j h => q G ρ σ H _ j (Post.imp h fun G1 ρ1 x H1 a e1 r1 h1 => ?_)⟩
  subst r1
  cases x with
  | false => exact (q2 G1 ρ1 σ H1 Q e1.j h1 : _)
  | true => exact (h1 G1 true H1 e1.j.refl rfl : _)
theorem EW.et {e : Expr} {f : Mo Bool} (h : EW X E e f) : ET X E e f := let ⟨t, p, q⟩ := h; ⟨t, p.pt, q⟩
theorem et_not {a : Expr} {pos : Pos} {f : Mo Bool} (h : ET X E a f) : ET X E (.UnaryOp .Not a pos) (mNot f) := by
  obtain ⟨t, p, q⟩ := h
  refine ⟨_, pt_not p, fun G ρ σ H Q j h => q G ρ σ H _ j (Post.imp h fun G1 ρ1 x H1 a e1 r1 h1 => ?_)⟩
  subst r1
  exact h1 G1 _ H1 e1.j.refl rfl
/-- .. as values, all of them bools -/
def mAndV (a b : Mo D) : Mo D := mBind (mTest a) fun c => match c with
  | true => b
  | false => mRet (.bool false)
def mOrV (a b : Mo D) : Mo D := mBind (mTest a) fun c => match c with
  | true => mRet (.bool true)
  | false => b
def mNotV (a : Mo D) : Mo D := mBind (mTest a) fun c => mRet (.bool (!c))
theorem ev_one {a : Expr} {op : BoolOp} {pos : Pos} {f : Mo D} (h : EV X E a f) : EV X E (.BoolOp op [a] pos) f := let ⟨t, p, q⟩ := h; ⟨t, pe_one p, q⟩
theorem ev_and {a b : Expr} {rest : List Expr} {pos : Pos} {f g : Mo D} (h : EV X E a f) (hb : EV X E (.BoolOp .And (b :: rest) pos) g) : EV X E (.BoolOp .And (a :: b :: rest) pos) (mAndV f g) := by
  obtain ⟨t, p, q⟩ := h
  obtain ⟨t2, p2, q2⟩ := hb
  refine ⟨_, pe_and p p2, fun G ρ σ H Q j h => ?_⟩
  refine test_sem q G ρ σ H (fun c H1 => if c = true then t2 σ H1 Q else Q (.bl false) H1) j (Post.imp h fun G1 ρ1 x H1 a e1 r1 h1 => ?_)
  subst r1
  cases x with
  | true => exact (q2 G1 ρ1 σ H1 Q e1.j h1 : _)
  | false => exact (h1 G1 _ H1 e1.j.refl (.bl false) : _)
theorem ev_not {a : Expr} {pos : Pos} {f : Mo D} (h : EV X E a f) : EV X E (.UnaryOp .Not a pos) (mNotV f) := by
  obtain ⟨t, p, q⟩ := h
  refine ⟨_, pe_not p, fun G ρ σ H Q j h => ?_⟩
  refine test_sem q G ρ σ H (fun c H1 => Q (.bl (!c)) H1) j (Post.imp h fun G1 ρ1 x H1 a e1 r1 h1 => ?_)
  subst r1
  exact h1 G1 _ H1 e1.j.refl (.bl _)
def mIf (c : Mo Bool) (a b : Mo D) : Mo D := mBind c fun c => match c with
  | true => a
  | false => b
theorem ev_if {c a b : Expr} {pos : Pos} {fc : Mo Bool} {fa fb : Mo D} (hc : ET X E c fc) (ha : EV X E a fa) (hb : EV X E b fb) : EV X E (.IfExp c a b pos) (mIf fc fa fb) := by
  obtain ⟨t, p, q⟩ := hc
  obtain ⟨ta, pa, qa⟩ := ha
  obtain ⟨tb, pb, qb⟩ := hb
  refine ⟨_, pe_ifExp p pa pb, fun G ρ σ H Q j h => q G ρ σ H _ j (Post.imp h fun G1 ρ1 x H1 a e1 r1 h1 => ?_)⟩
  subst r1
  cases x with
  | true => exact (qa G1 ρ1 σ H1 Q e1.j h1 : _)
  | false => exact (qb G1 ρ1 σ H1 Q e1.j h1 : _)
end
end HB
namespace HB
open PySem L2
section
variable {X : Cx} {E : XK}
def mNil : Mo (List D) := mRet []
def mCons (a : Mo D) (r : Mo (List D)) : Mo (List D) := mBind a fun x => mBind r fun xs => mRet (x :: xs)
def itemsD : D → Option (List D)
  | .list ds => some ds
  | .tuple ds => some ds
  | .dict [(.none, .list ds)] => some ds
  | _ => none
def mStar (a : Mo D) (r : Mo (List D)) : Mo (List D) := mBind a fun x => mBind (mLift (itemsD x)) fun ys => mBind r fun xs => mRet (ys ++ xs)
theorem Rp.items {K : PySem.W.Frag} {G : Hp} {v : V} {d : D} {ds : List D} (r : Rp K G v d) (h : itemsD d = some ds) : ∃ p xs, v = .ref p ∧ (SqT K G p xs ∨ SqL K G p xs) ∧ RpAll K G xs ds := by
  cases r with
  | lst h1 h2 => cases h; exact ⟨_, _, rfl, .inr (.of h1), h2⟩
  | tup h1 h2 => cases h; exact ⟨_, _, rfl, .inl h1.t, h2⟩
  | frz h1 h2 => cases h; exact ⟨_, _, rfl, .inr h1, h2⟩
  | obj h1 h2 => cases h
  | _ => cases h
theorem ea_nil : EA X E [] mNil := ⟨_, pa_nil, fun G ρ σ H Q j h => h G _ H j.refl .nil⟩
theorem ea_cons {e : Expr} {es : List Expr} {f : Mo D} {g : Mo (List D)} (h : EV X E e f) (hr : EA X E es g) (hs : starEach (e :: es) X.env = (false, eval e X.env) :: starEach es X.env := by rfl) : EA X E (e :: es) (mCons f g) := by
  obtain ⟨t, p, q⟩ := h
  obtain ⟨t2, p2, q2⟩ := hr
  refine ⟨_, pa_cons p p2 hs, fun G ρ σ H Q j h => q G ρ σ H _ j (Post.imp h fun G1 ρ1 x H1 a e1 r1 h1 => ?_)⟩
  refine q2 G1 ρ1 σ H1 _ e1.j (Post.imp h1 fun G2 ρ2 y H2 b e2 r2 h2 => ?_)
  exact h2 G2 _ H2 e2.j.refl (.cons (r1.mono e2.g) r2)
theorem sq_mono {K : PySem.W.Frag} {H H' : Hp} {a : Addr} {xs : List V} (s : Same H H') (h : SqT K H a xs ∨ SqL K H a xs) : SqT K H' a xs ∨ SqL K H' a xs := h.elim (fun z => .inl (sqT_mono s z)) fun z => .inr (s.seq z)
theorem ea_star {e : Expr} {es : List Expr} {f : Mo D} {g : Mo (List D)} {sp : Pos} (h : EV X E e f) (hr : EA X E es g) (hs : starEach (.Starred e sp :: es) X.env = (true, eval e X.env) :: starEach es X.env := by rfl) : EA X E (.Starred e sp :: es) (mStar f g) := by
  obtain ⟨t, p, q⟩ := h
  obtain ⟨t2, p2, q2⟩ := hr
  refine ⟨_, StX.pa_star p p2 hs, fun G ρ σ H Q j h => q G ρ σ H _ j (Post.imp h fun G1 ρ1 x H1 a e1 r1 h1 => ?_)⟩
  have h1' : Post X.K E (RpAll X.K) G1 ρ1 σ H1 Q (mBind (mLift (itemsD a)) (fun ys => mBind g fun xs => mRet (ys ++ xs)) ρ1) := h1
  unfold mBind mLift at h1'
  cases hi : itemsD a with
  | none => rw [hi] at h1'; exact h1'.elim
  | some ys =>
    rw [hi] at h1'
    obtain ⟨p0, xs0, rfl, s0, r0⟩ := r1.items hi
    refine ⟨p0, xs0, rfl, sq_mono e1.j.sub s0, ?_⟩
    refine q2 G1 ρ1 σ H1 _ e1.j (Post.imp (f := fun xs => mRet (ys ++ xs)) h1' fun G2 ρ2 y H2 b e2 r2 h2 => ?_)
    exact h2 G2 _ H2 e2.j.refl ((r0.mono e2.g).append r2)
def sizeOk {α : Type} (xs : List α) : Bool := decide (xs.length ≤ 1000000)
theorem line_of {n : Nat} (h : n ≤ 1000000) : n ≤ sizeLine := Nat.le_trans h (by decide)
def mSized (f : Mo (List D)) : Mo (List D) := mBind f fun ds => mLift (if sizeOk ds = true then some ds else none)
def mTup (f : Mo (List D)) : Mo D := mBind f fun ds => mLift (if sizeOk ds = true then some (.tuple ds) else none)
theorem sized {α : Type} {ds : List α} {β : Type} {b c : β} (h : (if sizeOk ds = true then some b else none) = some c) : ds.length ≤ 1000000 ∧ b = c := by
  split at h
  · rename_i q
    exact ⟨of_decide_eq_true q, Option.some.inj h⟩
  · cases h
theorem ev_tup {es : List Expr} {f : Mo (List D)} {k : Nat} {pos : Pos} (h : EA X E es f) : EV X E (.Tuple es k pos) (mTup f) := by
  obtain ⟨t, p, q⟩ := h
  refine ⟨_, pe_tupP p, fun G ρ σ H Q j h => q G ρ σ H _ j (Post.imp h fun G1 ρ1 xs H1 ds e1 r1 h1 => ?_)⟩
  obtain ⟨c, hc, k⟩ := Post.lift (ρ' := ρ1) h1
  obtain ⟨h3, rfl⟩ := sized hc
  refine ⟨by rw [r1.length]; exact line_of h3, fun p o hp nd => ?_⟩
  have px : PX G1 H1 _ _ := .alloc e1.j.sub hp (.frz o (.tup xs))
  exact k _ _ _ (e1.j.ex px) (.tup (.new nd) (r1.mono px.g))
/-- a new list comes -/
theorem new_list {K : PySem.W.Frag} {G H : Hp} {ρ : En} {σ : St} (j : J K G ρ σ H) {p : Addr} (hp : H p = none) {xs : List V} {ds : List D} (r : RpAll K G xs ds) : Ex K G ρ σ H G ρ σ (upd H p (.lst xs)) := by
  have sh : Same H (upd H p (.lst xs)) := same_upd hp
  refine ⟨⟨j.sub.trans sh, j.len, j.pur, fun i s ds e hl => ?_, j.dis⟩, .refl _, fun b hb => .inl hb, fun b o e _ => sh _ _ e, fun b hb => .inl hb, fun b hb => sh.free hb, fun i ds h => ⟨⟨ds, h⟩, rfl⟩⟩
  obtain ⟨a, vs, h1, h2, h3, h4⟩ := j.own i s ds e hl
  exact ⟨a, vs, h1, sh _ _ h2, h3, h4⟩
theorem Post.impN {K : PySem.W.Frag} {G H : Hp} {ρ : En} {σ : St} {Q : VK} {γ δ : Type} {R' : Hp → δ → γ → Prop} {Q' : δ → Hp → Prop} {m : Mo γ} {f : γ → Mo (List D)} (h : PostN K E G ρ σ H Q (mBind m f ρ))
    (k : ∀ G1 ρ1 v H1 a, Ex K G ρ σ H G1 ρ1 σ H1 → R' G1 v a → PostN K E G1 ρ1 σ H1 Q (f a ρ1) → Q' v H1) : Post K E R' G ρ σ H Q' (m ρ) := by
  unfold mBind at h
  cases q : m ρ with
  | none => rw [q] at h; exact h
  | some r =>
    rw [q] at h
    cases r with
    | error x => exact h
    | ok p =>
      obtain ⟨ρ', a⟩ := p
      refine fun G' v H' z r => k G' ρ' v H' a z r ?_
      have h2 : PostN K E G ρ σ H Q (f a ρ') := h
      match hh : f a ρ', h2 with
      | some (.error x), h2 => exact fun C dx H' y => h2 C dx H' (XP.trans z y)
      | some (.ok (ρ2, ds)), h2 =>
        refine fun G2 v2 H2 y r2 => h2 G2 v2 H2 (z.trans y) ?_
        obtain ⟨a2, vs2, e1, e2, e3, e4, e5, e6⟩ := r2
        exact ⟨a2, vs2, e1, z.dom _ e2, e3, e4, e5, e6⟩
theorem Post.liftN {K : PySem.W.Frag} {G H : Hp} {ρ : En} {σ : St} {Q : VK} {o : Option (List D)} (h : PostN K E G ρ σ H Q (mLift o ρ)) : ∃ a, o = some a ∧ ∀ G' v H', Ex K G ρ σ H G' ρ σ H' → RpN K H H' G' ρ σ v a → Q v H' := by
  cases o with
  | none => exact False.elim h
  | some a => exact ⟨a, rfl, h⟩
theorem J.free {K : PySem.W.Frag} {G H : Hp} {ρ : En} {σ : St} (j : J K G ρ σ H) {p : Addr} (hp : H p = none) : G p = none := j.sub.free hp
theorem J.nown {K : PySem.W.Frag} {G H : Hp} {ρ : En} {σ : St} (j : J K G ρ σ H) {p : Addr} (hp : H p = none) : ¬ Ownd ρ σ p := fun z => by
  obtain ⟨ws, z1, _⟩ := j.ownd z
  rw [hp] at z1; cases z1
theorem en_lst {es : List Expr} {f : Mo (List D)} {pos : Pos} (h : EA X E es f) : EN X E (.List es pos) (mSized f) := by
  obtain ⟨t, p, q⟩ := h
  refine ⟨_, pe_lst p, fun G ρ σ H Q j h => q G ρ σ H _ j (Post.impN h fun G1 ρ1 xs H1 ds e1 r1 h1 => ?_)⟩
  obtain ⟨c, hc, k⟩ := Post.liftN h1
  obtain ⟨h3, rfl⟩ := sized hc
  refine ⟨by rw [r1.length]; exact line_of h3, fun p hp => ?_⟩
  exact k _ _ _ (new_list e1.j hp r1) ⟨p, xs, rfl, hp, e1.j.free hp, upd_same, e1.j.nown hp, r1⟩
/-- a new list, as data -/
def mList (f : Mo (List D)) : Mo D := mBind f fun ds => mRet (.list ds)
/-- from now on it is data: nobody changes it -/
theorem Ex.still {K : PySem.W.Frag} {G H G' H' : Hp} {ρ ρ' : En} {σ : St} (e : Ex K G ρ σ H G' ρ' σ H') {a : Addr} {vs : List V} (h1 : H a = none) (h2 : G' a = none) (h3 : H' a = some (.lst vs)) (no : ¬ Ownd ρ' σ a) : Ex K G ρ σ H (upd G' a (.lst vs)) ρ' σ H' := by
  have sg : Same G' (upd G' a (.lst vs)) := same_upd h2
  refine ⟨⟨fun b o q => ?_, e.j.len, fun i d q => ?_, fun i s es q hl => ?_, e.j.dis⟩, e.g.trans sg, fun b hb => ?_, e.kept, e.ow, e.dom, e.bx⟩
  · by_cases hb : b = a
    · subst hb; rw [upd_same] at q; rw [← q]; exact h3
    · rw [upd_ne hb] at q; exact e.j.sub _ _ q
  · obtain ⟨v, q1, q2⟩ := e.j.pur i d q
    exact ⟨v, q1, q2.mono sg⟩
  · obtain ⟨a', ws, q1, q2, q3, q4⟩ := e.j.own i s es q hl
    have ne : a' ≠ a := fun z => by
      subst z
      exact no ⟨i, s, es, q, hl, q1⟩
    exact ⟨a', ws, q1, q2, by rw [upd_ne ne]; exact q3, q4.mono sg⟩
  · by_cases z : b = a
    · subst z; exact .inr (.inl h1)
    · rw [upd_ne z] at hb; exact e.new b hb
theorem EN.ev {e : Expr} {f : Mo (List D)} (h : EN X E e f) : EV X E e (mList f) := by
  obtain ⟨t, p, q⟩ := h
  refine ⟨t, p, fun G ρ σ H Q j h => q G ρ σ H Q j ?_⟩
  unfold mList mBind at h
  cases hh : f ρ with
  | none => rw [hh] at h; exact h
  | some r =>
    rw [hh] at h
    cases r with
    | error x => exact h
    | ok pr =>
      obtain ⟨ρ', ds⟩ := pr
      intro G' v H' e r
      obtain ⟨a, vs, rfl, h1, h2, h3, no, h4⟩ := r
      exact h (upd G' a (.lst vs)) _ H' (e.still h1 h2 h3 no) (.lst upd_same (h4.mono (same_upd h2)))
def ixD : D → D → Option D
  | .list ds, .int i => atI ds i
  | .tuple ds, .int i => atI ds i
  | .dict [(.none, .list ds)], .int i => atI ds i
  | .str z, .int i => if z.length ≤ 1000000 then (atI z.cps.toList i).map fun c => .str ⟨#[c]⟩ else none
  | _, _ => none
theorem RpAll.atI {K : PySem.W.Frag} {G : Hp} {vs : List V} {ds : List D} {i : Int} {d : D} (r : RpAll K G vs ds) (h : atI ds i = some d) : ∃ v, L2.atI vs i = some v ∧ Rp K G v d := by
  unfold L2.atI at h ⊢
  rw [r.length]
  cases q : ixN ds.length i with
  | none => rw [q] at h; cases h
  | some j =>
    rw [q] at h
    exact r.get h
theorem ix_sem {G H : Hp} {x y : V} {a b c : D} {Q : VK} (s : Same G H) (hx : Rp X.K G x a) (hy : Rp X.K G y b) (h : ixD a b = some c) (k : ∀ v, Rp X.K G v c → Q v H) : rIx X.K x y H Q := by
  cases hy with
  | int i =>
    cases hx with
    | lst h1 h2 =>
      obtain ⟨v, q1, q2⟩ := h2.atI h
      exact .inl ⟨_, _, _, _, rfl, rfl, .of (s _ _ h1), q1, k _ q2⟩
    | tup h1 h2 =>
      obtain ⟨v, q1, q2⟩ := h2.atI h
      exact .inr (.inl ⟨_, _, _, _, rfl, rfl, sqT_mono s h1.t, q1, k _ q2⟩)
    | frz h1 h2 =>
      obtain ⟨v, q1, q2⟩ := h2.atI h
      exact .inl ⟨_, _, _, _, rfl, rfl, s.seq h1, q1, k _ q2⟩
    | str z =>
      have h' : (if z.length ≤ 1000000 then (L2.atI z.cps.toList i).map fun c => PyData.str ⟨#[c]⟩ else none) = some c := h
      split at h'
      · rename_i hz
        cases q : L2.atI z.cps.toList i with
        | none => rw [q] at h'; cases h'
        | some cc =>
          rw [q] at h'
          cases h'
          exact .inr (.inr ⟨_, _, _, rfl, rfl, line_of hz, q, k _ (.str _)⟩)
      · cases h'
    | obj h1 h2 => cases h
    | _ => cases h
  | _ => cases hx <;> cases h
theorem ev_ix {a b : Expr} {pos : Pos} {fa fb : Mo D} (ha : EV X E a fa) (hb : EV X E b fb) (hs : PlainIx b := by exact fun _ _ => rfl) : EV X E (.Subscript a b pos) (mOp ixD fa fb) := by
  obtain ⟨ta, pa, qa⟩ := ha
  obtain ⟨tb, pb, qb⟩ := hb
  refine ⟨_, pe_ix ix_seq pa pb hs, bin_sem (sem := fun _ _ => pure .none) qa qb fun G H x y a b c Q s hx hy h k => ix_sem s hx hy h fun v r => k G v H (.refl s) r⟩
end
end HB
namespace HB
open PySem L2
abbrev Fn := List D → Option (Except Exn D)
def PostF (K : PySem.W.Frag) (E : XK) (G H : Hp) (Q : VK) : Option (Except Exn D) → Prop
  | none => False
  | some (.error x) => ∀ C dx H', XP K G [] [] H x C dx H' → E C dx H'
  | some (.ok d) => ∀ G' v H', PX G H G' H' → Rp K G' v d → Q v H'
def spP (K : PySem.W.Frag) (n : Nat) (F : Fn) : Sp := fun vs H Q E => ∃ G ds, Same G H ∧ RpAll K G vs ds ∧ ds.length = n ∧ PostF K E G H Q (F ds)
/-- the function that stands at f -/
def IsFd (K : PySem.W.Frag) (f : Addr) (fd : FuncData) : Prop := ∃ oc od osl, K.lookup f = some ⟨oc, od, .func fd, osl⟩
theorem IsFd.one {K : PySem.W.Frag} {f : Addr} {fd fd' : FuncData} (a : IsFd K f fd) (b : IsFd K f fd') : fd' = fd := by
  obtain ⟨_, _, _, a⟩ := a
  obtain ⟨_, _, _, b⟩ := b
  have e := Option.some.inj (a.symm.trans b)
  injection e with _ _ e _
  injection e with e
  exact e.symm
/-- a def of the module and what it is worth -/
structure FnE (P : Program) (w : World) (K : PySem.W.Frag) (mg : Str → Option Value) (base : Heap) (k : Nat) (x : Str) (ps : List Str) (F : Fn) : Prop where
  ex : ∃ fd, FnOk P w K mg base (L2.CX P w) k (He.ga K x) fd ps (spP K ps.length F) ∧ Binds K fd ps []
  kp : PySem.W.keepIn K (.ref (He.ga K x)) = true
  gl : mg x = some (.ref (He.ga K x))
  ln : ∀ ds, F ds ≠ none → ds.length = ps.length
  at_ : ∀ fd, IsFd K (He.ga K x) fd → FnOk P w K mg base (L2.CX P w) k (He.ga K x) fd ps (spP K ps.length F)
def mCall (F : Fn) (a : Mo (List D)) : Mo D := mBind a fun ds ρ => match F ds with
  | none => none
  | some (.error x) => some (.error x)
  | some (.ok d) => some (.ok (ρ, d))
theorem XP.of0 {K : PySem.W.Frag} {G H : Hp} {ρ : En} {σ : St} {x : Exn} {C : Value} {dx : Option Addr} {H' : Hp} (h : XP K G [] [] H x C dx H') : XP K G ρ σ H x C dx H' := by
  obtain ⟨h1, G', h2, h3, h4, h5, h6, h7⟩ := h
  have no : ∀ b, ¬ Ownd [] [] b := fun b ⟨i, s, ds, z, _⟩ => by simp at z
  refine ⟨h1, G', h2, h3, fun b hb => ?_, fun b o q _ => h5 b o q (no b), h6, h7⟩
  rcases h4 b hb with z | z | z
  · exact .inl z
  · exact .inr (.inl z)
  · exact absurd z (no b)
section
variable {X : Cx} {E : XK}
theorem call_sem {F : Fn} {n : Nat} {t : TA} {f : Mo (List D)} (q : ∀ G ρ σ H Q, J X.K G ρ σ H → Post X.K E (RpAll X.K) G ρ σ H Q (f ρ) → t σ H Q) (hl : ∀ ds, F ds ≠ none → ds.length = n) :
    ∀ G ρ σ H Q, J X.K G ρ σ H → Post X.K E (Rp X.K) G ρ σ H Q (mCall F f ρ) → tCall (spP X.K n F) [] E t σ H Q := by
  intro G ρ σ H Q j h
  refine q G ρ σ H _ j (Post.imp h fun G1 ρ1 vs H1 ds e1 r1 h1 => ?_)
  show spP X.K n F (vs ++ []) H1 Q E
  rw [List.append_nil]
  have h1' : Post X.K E (Rp X.K) G1 ρ1 σ H1 Q (match F ds with
    | none => none
    | some (.error x) => some (.error x)
    | some (.ok d) => some (.ok (ρ1, d))) := h1
  cases hF : F ds with
  | none => rw [hF] at h1'; exact h1'.elim
  | some r =>
    refine ⟨G1, ds, e1.j.sub, r1, hl ds (by rw [hF]; simp), ?_⟩
    rw [hF] at h1' ⊢
    cases r with
    | error x => exact fun C dx H' z => h1' C dx H' z.of0
    | ok d => exact fun G' v H' p r => h1' G' v H' (e1.j.ex p) r
theorem ev_call {k : Nat} {x : Str} {ps : List Str} {F : Fn} {p pos : Pos} {e : Expr} {es : List Expr} {f : Mo (List D)} (hF : FnE X.prog X.w X.K X.mg X.base k x ps F) (hr : Room k X.A) (hx : Passes (L2.CX X.prog X.w) X E)
    (ha : EA X E (e :: es) f) (hg : Gl X x := by rfl) (hdb : (x == ("__debug__" : Str)) = false := by decide) (he : starEach (e :: es) X.env = (false, eval e X.env) :: starEach es X.env := by rfl)
    (hpl : (backTo pos (starEach es X.env)).any (·.1) = false := by rfl) : EV X E (.Call (.Name x p) (e :: es) [] pos) (mCall F f) := by
  obtain ⟨⟨fd, h1, h2⟩, kp, gl, hl⟩ := hF
  obtain ⟨t, pt, q⟩ := ha
  exact ⟨_, pe_call h1 hr hg gl kp h2 .nil hx pt hdb he hpl, call_sem q hl⟩
def DCall (X : Cx) (fv : Value) (f : List D → Option D) : Prop := ∃ r, CallR X fv r ∧ ∀ G H xs ds c Q, Same G H → RpAll X.K G xs ds → f ds = some c → (∀ G' v H', PX G H G' H' → Rp X.K G' v c → Q v H') → r xs H Q
def mBuilt (f : List D → Option D) (a : Mo (List D)) : Mo D := mBind a fun ds => mLift (f ds)
theorem built_sem {t : TA} {g : Mo (List D)} {r : List V → Hp → VK → Prop} {f : List D → Option D} (q : ∀ G ρ σ H Q, J X.K G ρ σ H → Post X.K E (RpAll X.K) G ρ σ H Q (g ρ) → t σ H Q)
    (hr : ∀ G H xs ds c Q, Same G H → RpAll X.K G xs ds → f ds = some c → (∀ G' v H', PX G H G' H' → Rp X.K G' v c → Q v H') → r xs H Q) :
    ∀ G ρ σ H Q, J X.K G ρ σ H → Post X.K E (Rp X.K) G ρ σ H Q (mBuilt f g ρ) → tCB r t σ H Q := by
  intro G ρ σ H Q j h
  refine q G ρ σ H _ j (Post.imp h fun G1 ρ1 vs H1 ds e1 r1 h1 => ?_)
  obtain ⟨c, hc, k⟩ := Post.lift (ρ' := ρ1) h1
  exact hr G1 H1 vs ds c Q e1.j.sub r1 hc fun G' v H' p q => k G' v H' (e1.j.ex p) q
theorem ev_callB {id : String} {f : List D → Option D} {x : Str} {p pos : Pos} {e : Expr} {es : List Expr} {g : Mo (List D)} (hc : DCall X (.builtin id) f) (hm : X.mg x = none) (hv : bootBuiltins x = some (.builtin id)) (ha : EA X E (e :: es) g) (hg : Gl X x := by rfl)
    (hn : x ≠ "__name__" := by decide) (hdb : (x == ("__debug__" : Str)) = false := by decide) (he : starEach (e :: es) X.env = (false, eval e X.env) :: starEach es X.env := by rfl) (hpl : (backTo pos (starEach es X.env)).any (·.1) = false := by rfl) : EV X E (.Call (.Name x p) (e :: es) [] pos) (mBuilt f g) := by
  obtain ⟨r, h1, h2⟩ := hc
  obtain ⟨t, pt, q⟩ := ha
  exact ⟨_, pe_callB h1 hg hm hv pt hn hdb he hpl, built_sem q h2⟩
theorem ev_callTy {T : String} {f : List D → Option D} {x : Str} {p pos : Pos} {e : Expr} {es : List Expr} {g : Mo (List D)} (hc : DCall X (.type T) f) (hm : X.mg x = none) (hv : bootBuiltins x = some (.type T)) (ha : EA X E (e :: es) g) (hg : Gl X x := by rfl)
    (hn : x ≠ "__name__" := by decide) (hdb : (x == ("__debug__" : Str)) = false := by decide) (he : starEach (e :: es) X.env = (false, eval e X.env) :: starEach es X.env := by rfl) (hpl : (backTo pos (starEach es X.env)).any (·.1) = false := by rfl) : EV X E (.Call (.Name x p) (e :: es) [] pos) (mBuilt f g) := by
  obtain ⟨r, h1, h2⟩ := hc
  obtain ⟨t, pt, q⟩ := ha
  exact ⟨_, pe_callTy h1 hg hm hv pt hn hdb he hpl, built_sem q h2⟩
def sNext : Mo Fl := mRet .nx
def sSeq (a b : Mo Fl) : Mo Fl := mBind a fun f => match f with
  | .nx => b
  | .rt d => mRet (.rt d)
  | .bk => mRet .bk
  | .ct => mRet .ct
theorem ss_nil : SVs X E [] sNext := ⟨_, pss_nil, fun G ρ σ H De j h => h G σ H j.refl⟩
theorem PostS.seq {K : PySem.W.Frag} {G H : Hp} {ρ : En} {σ : St} {De : Ends} {a b : Mo Fl} {u : TS} (h : PostS K E G ρ σ H De (sSeq a b ρ)) (k : ∀ G1 ρ1 σ1 H1, J K G1 ρ1 σ1 H1 → PostS K E G1 ρ1 σ1 H1 De (b ρ1) → u De σ1 H1) : PostS K E G ρ σ H { De with nx := u De } (a ρ) := by
  unfold sSeq mBind at h
  cases q : a ρ with
  | none => rw [q] at h; exact h
  | some r =>
    rw [q] at h
    cases r with
    | error x => exact h
    | ok p =>
      obtain ⟨ρ', f⟩ := p
      cases f with
      | nx => exact fun G' σ' H' z => k G' ρ' σ' H' z.j (PostS.ex z h)
      | rt d => exact h
      | bk => exact h
      | ct => exact h
theorem ss_cons {s : Stmt} {rest : List Stmt} {a b : Mo Fl} (h1 : SV X E s a) (h2 : SVs X E rest b) : SVs X E (s :: rest) (sSeq a b) := by
  obtain ⟨t, p, q⟩ := h1
  obtain ⟨u, p2, q2⟩ := h2
  exact ⟨_, pss_cons p p2, fun G ρ σ H De j h => q G ρ σ H _ j (PostS.seq h fun G1 ρ1 σ1 H1 j1 k => q2 G1 ρ1 σ1 H1 De j1 k)⟩
theorem ss_one {s : Stmt} {a : Mo Fl} (h1 : SV X E s a) : SVs X E [s] a := let ⟨t, p, q⟩ := h1; ⟨t, pss_one p, q⟩
def sRet (f : Mo D) : Mo Fl := mBind f fun d => mRet (.rt d)
theorem s_ret {e : Expr} {f : Mo D} {pos : Pos} (h : EV X E e f) : SV X E (.Return (some e) pos) (sRet f) := by
  obtain ⟨t, p, q⟩ := h
  exact ⟨_, ps_ret p, fun G ρ σ H De j h => q G ρ σ H _ j (PostS.imp h fun G1 ρ1 v H1 a e1 r1 h1 => h1 G1 σ v H1 e1.j.refl r1)⟩
def sIf (c : Mo Bool) (a b : Mo Fl) : Mo Fl := mBind c fun c => match c with
  | true => a
  | false => b
theorem s_if {c : Expr} {a b : List Stmt} {pos : Pos} {fc : Mo Bool} {fa fb : Mo Fl} (hc : ET X E c fc) (ha : SVs X E a fa) (hb : SVs X E b fb) : SV X E (.If c a b pos) (sIf fc fa fb) := by
  obtain ⟨t, p, q⟩ := hc
  obtain ⟨ta, pa, qa⟩ := ha
  obtain ⟨tb, pb, qb⟩ := hb
  refine ⟨_, ps_if p pa pb, fun G ρ σ H De j h => q G ρ σ H _ j (PostS.imp h fun G1 ρ1 x H1 a e1 r1 h1 => ?_)⟩
  subst r1
  cases x with
  | true => exact (qa G1 ρ1 σ H1 De e1.j h1 : _)
  | false => exact (qb G1 ρ1 σ H1 De e1.j h1 : _)
theorem getElem?_set_cases {α : Type} {l : List α} {i k : Nat} {a b : α} (h : (l.set i a)[k]? = some b) : (k = i ∧ b = a) ∨ (k ≠ i ∧ l[k]? = some b) := by
  by_cases hk : k = i
  · subst hk
    by_cases hl : k < l.length
    · rw [List.getElem?_set_self hl] at h
      exact .inl ⟨rfl, (Option.some.inj h).symm⟩
    · rw [List.getElem?_eq_none (by rw [List.length_set]; omega)] at h
      cases h
  · rw [List.getElem?_set_ne (Ne.symm hk)] at h
    exact .inr ⟨hk, h⟩
theorem Ex.set {K : PySem.W.Frag} {G H : Hp} {ρ : En} {σ : St} (j : J K G ρ σ H) (i : Nat) {v : V} {d : D} (r : Rp K G v d) : Ex K G ρ σ H G (ρ.set i (.pur d)) (σ.set i (some v)) H := by
  have hn : ∀ (k : Nat) (s : Sl) (es : List D), (ρ.set i (.pur d))[k]? = some s → s.ls = some es → k ≠ i ∧ ρ[k]? = some s ∧ (σ.set i (some v))[k]? = σ[k]? := fun k s es q hl => by
    rcases getElem?_set_cases q with ⟨_, z⟩ | ⟨z, q'⟩
    · subst z; cases hl
    · exact ⟨z, q', List.getElem?_set_ne (Ne.symm z)⟩
  refine ⟨⟨j.sub, by rw [List.length_set, List.length_set]; exact j.len, fun k e q => ?_, fun k s es q hl => ?_, fun k l s t es fs b q1 l1 q2 l2 q3 q4 => ?_⟩, .refl _, fun b hb => .inl hb, fun b o q _ => q, fun b hb => ?_, fun _ z => z, fun k es q => ?_⟩
  · rcases getElem?_set_cases q with ⟨rfl, z⟩ | ⟨z, q'⟩
    · cases z
      have hl : k < ρ.length := by
        have := (List.getElem?_eq_some_iff.mp q).1
        rw [List.length_set] at this
        exact this
      exact ⟨v, List.getElem?_set_self (by rw [← j.len]; exact hl), r⟩
    · obtain ⟨u, h1, h2⟩ := j.pur k e q'
      exact ⟨u, by rw [List.getElem?_set_ne (Ne.symm z)]; exact h1, h2⟩
  · obtain ⟨z, q', e⟩ := hn k s es q hl
    rw [e]
    exact j.own k s es q' hl
  · obtain ⟨z1, q1', e1⟩ := hn k s es q1 l1
    obtain ⟨z2, q2', e2⟩ := hn l t fs q2 l2
    rw [e1] at q3
    rw [e2] at q4
    exact j.dis k l s t es fs b q1' l1 q2' l2 q3 q4
  · obtain ⟨k, s, es, q1, hl, q2⟩ := hb
    obtain ⟨z, q', e⟩ := hn k s es q1 hl
    rw [e] at q2
    exact .inl ⟨k, s, es, q', hl, q2⟩
  · obtain ⟨z, q', e⟩ := hn k _ es q rfl
    exact ⟨⟨es, q'⟩, e⟩
theorem Ex.setOwn {K : PySem.W.Frag} {G H G' H' : Hp} {ρ ρ' : En} {σ σ' : St} (e : Ex K G ρ σ H G' ρ' σ' H') (i : Nat) {v : V} {ds : List D} (r : RpN K H H' G' ρ' σ' v ds) : Ex K G ρ σ H G' (ρ'.set i (.own ds)) (σ'.set i (some v)) H' := by
  obtain ⟨a, vs, rfl, h1, h2, h3, no, h4⟩ := r
  have j := e.j
  have hn : ∀ (k : Nat) (s : Sl) (es : List D), (ρ'.set i (.own ds))[k]? = some s → s.ls = some es → (k = i ∧ es = ds ∧ s = .own ds ∧ (σ'.set i (some (.ref a)))[k]? = some (some (.ref a))) ∨ (k ≠ i ∧ ρ'[k]? = some s ∧ (σ'.set i (some (.ref a)))[k]? = σ'[k]?) := fun k s es q hl => by
    rcases getElem?_set_cases q with ⟨z1, z⟩ | ⟨z, q'⟩
    · subst z1
      subst z
      cases hl
      have hl : k < ρ'.length := by
        have := (List.getElem?_eq_some_iff.mp q).1
        rw [List.length_set] at this
        exact this
      exact .inl ⟨rfl, rfl, rfl, List.getElem?_set_self (by rw [← j.len]; exact hl)⟩
    · exact .inr ⟨z, q', List.getElem?_set_ne (Ne.symm z)⟩
  refine ⟨⟨j.sub, by rw [List.length_set, List.length_set]; exact j.len, fun k f q => ?_, fun k s es q hl => ?_, fun k l s t es fs b q1 l1 q2 l2 q3 q4 => ?_⟩, e.g, e.new, e.kept, fun b hb => ?_, e.dom, fun k es q => ?_⟩
  · rcases getElem?_set_cases q with ⟨rfl, z⟩ | ⟨z, q'⟩
    · cases z
    · obtain ⟨u, g1, g2⟩ := j.pur k f q'
      exact ⟨u, by rw [List.getElem?_set_ne (Ne.symm z)]; exact g1, g2⟩
  · rcases hn k s es q hl with ⟨rfl, rfl, _, z⟩ | ⟨z, q', e2⟩
    · exact ⟨a, vs, z, h3, h2, h4⟩
    · rw [e2]
      exact j.own k s es q' hl
  · rcases hn k s es q1 l1 with ⟨rfl, rfl, _, z⟩ | ⟨z, q1', e1⟩
    · rw [z] at q3
      cases q3
      rcases hn l t fs q2 l2 with ⟨rfl, rfl, _, z⟩ | ⟨z, q2', e2⟩
      · rfl
      · rw [e2] at q4
        exact absurd ⟨l, t, fs, q2', l2, q4⟩ no
    · rcases hn l t fs q2 l2 with ⟨rfl, rfl, _, z⟩ | ⟨z, q2', e2⟩
      · rw [z] at q4
        cases q4
        rw [e1] at q3
        exact absurd ⟨k, s, es, q1', l1, q3⟩ no
      · rw [e1] at q3
        rw [e2] at q4
        exact j.dis k l s t es fs b q1' l1 q2' l2 q3 q4
  · obtain ⟨k, s, es, q1, hl, q2⟩ := hb
    rcases hn k s es q1 hl with ⟨rfl, rfl, _, z⟩ | ⟨z, q', e2⟩
    · rw [z] at q2
      cases q2
      exact .inr h1
    · rw [e2] at q2
      exact e.ow b ⟨k, s, es, q', hl, q2⟩
  · rcases hn k _ es q rfl with ⟨_, _, z, _⟩ | ⟨z, q', e2⟩
    · cases z
    · obtain ⟨w1, w2⟩ := e.bx k es q'
      exact ⟨w1, e2.trans w2⟩
def setSl (i : Nat) (s : Sl) : Mo Fl := fun ρ => some (.ok (ρ.set i s, .nx))
def sSet (i : Nat) (f : Mo D) : Mo Fl := mBind f fun d => setSl i (.pur d)
def sOwn (i : Nat) (f : Mo (List D)) : Mo Fl := mBind f fun ds => setSl i (.own ds)
theorem s_set {i : Nat} {x : Str} {e : Expr} {f : Mo D} {pos pos' : Pos} (h : EV X E e f) (hN : X.N.Nodup) (hi : X.N[i]? = some x := by rfl) (hx : Loc X.env.scope x := by first | exact Or.inl rfl | exact Or.inr rfl)
    (hs : swapsWith e (some (.Name x pos')) pos.line X.env = pure false := by rfl) (hf : X.fn x = true ∨ X.env.scope.names.lookup x = some .local := by first | exact .inl rfl | exact .inr rfl | assumption) : SV X E (.Assign [.Name x pos'] e pos) (sSet i f) := by
  obtain ⟨t, p, q⟩ := h
  refine ⟨_, ps_set hN hi hx p hs hf, fun G ρ σ H De j h => q G ρ σ H _ j (PostS.imp h fun G1 ρ1 v H1 a e1 r1 h1 => ?_)⟩
  exact h1 G1 _ H1 (Ex.set e1.j i r1)
theorem s_own {i : Nat} {x : Str} {e : Expr} {f : Mo (List D)} {pos pos' : Pos} (h : EN X E e f) (hN : X.N.Nodup) (hi : X.N[i]? = some x := by rfl) (hx : Loc X.env.scope x := by first | exact Or.inl rfl | exact Or.inr rfl)
    (hs : swapsWith e (some (.Name x pos')) pos.line X.env = pure false := by rfl) (hf : X.fn x = true ∨ X.env.scope.names.lookup x = some .local := by first | exact .inl rfl | exact .inr rfl | assumption) : SV X E (.Assign [.Name x pos'] e pos) (sOwn i f) := by
  obtain ⟨t, p, q⟩ := h
  refine ⟨_, ps_set hN hi hx p hs hf, fun G ρ σ H De j h => q G ρ σ H _ j ?_⟩
  unfold sOwn mBind at h
  cases hh : f ρ with
  | none => rw [hh] at h; exact h
  | some r =>
    rw [hh] at h
    cases r with
    | error x => exact h
    | ok pr =>
      obtain ⟨ρ', ds⟩ := pr
      exact fun G' v H' e r => h G' _ H' (e.setOwn i r)
/-- the end of a def's body -/
def runF (n : Nat) (g : Mo Fl) : Fn := fun ds => match g (ds.map Sl.pur ++ List.replicate (n - ds.length) Sl.no) with
  | none => none
  | some (.error x) => some (.error x)
  | some (.ok (_, .nx)) => some (.ok .none)
  | some (.ok (_, .rt d)) => some (.ok d)
  | some (.ok (_, _)) => none
def guard (n : Nat) (F : Fn) : Fn := fun ds => match Nat.beq ds.length n with
  | true => F ds
  | false => none
end
end HB
namespace HB
open PySem L2
theorem start_no {N : List Str} {ds : List D} {σ : St} {b : Addr} : ¬ Ownd (ds.map Sl.pur ++ List.replicate (N.length - ds.length) Sl.no) σ b := by
  rintro ⟨i, s, es, h, hl, _⟩
  rw [List.getElem?_append] at h
  split at h
  · rw [List.getElem?_map] at h
    cases q : ds[i]? with
    | none => rw [q] at h; cases h
    | some d => rw [q] at h; cases h; cases hl
  · rw [List.getElem?_replicate] at h
    split at h
    · cases h; cases hl
    · cases h
theorem start_j {K : PySem.W.Frag} {G H : Hp} {N : List Str} {vs : List V} {ds : List D} (s : Same G H) (r : RpAll K G vs ds) : J K G (ds.map Sl.pur ++ List.replicate (N.length - ds.length) Sl.no) (start N vs) H := by
  have hl := r.length
  refine ⟨s, ?_, fun i d h => ?_, fun i s es h hl => absurd hl ?_, fun i k s t ds' es b h hl _ _ _ _ => absurd hl ?_⟩
  · unfold L2.start
    simp only [List.length_append, List.length_map, List.length_replicate]
    omega
  · rw [List.getElem?_append] at h
    split at h
    · rename_i hi
      rw [List.length_map] at hi
      rw [List.getElem?_map] at h
      cases q : ds[i]? with
      | none => rw [q] at h; cases h
      | some e =>
        rw [q] at h
        cases h
        obtain ⟨v, h1, h2⟩ := r.get q
        refine ⟨v, ?_, h2⟩
        unfold L2.start
        rw [List.getElem?_append_left (by rw [List.length_map, hl]; exact hi), List.getElem?_map, h1]
        rfl
    · rw [List.getElem?_replicate] at h
      split at h <;> cases h
  · intro hl
    rw [List.getElem?_append] at h
    split at h
    · rw [List.getElem?_map] at h
      cases q : ds[i]? with
      | none => rw [q] at h; cases h
      | some d => rw [q] at h; cases h; cases hl
    · rw [List.getElem?_replicate] at h
      split at h
      · cases h; cases hl
      · cases h
  · intro hl
    rw [List.getElem?_append] at h
    split at h
    · rw [List.getElem?_map] at h
      cases q : ds[i]? with
      | none => rw [q] at h; cases h
      | some d => rw [q] at h; cases h; cases hl
    · rw [List.getElem?_replicate] at h
      split at h
      · cases h; cases hl
      · cases h
theorem Ex.px {K : PySem.W.Frag} {G H G' H' : Hp} {ρ ρ' : En} {σ σ' : St} (e : Ex K G ρ σ H G' ρ' σ' H') (no : ∀ b, ¬ Ownd ρ σ b) : PX G H G' H' :=
  ⟨fun b o q => e.kept b o q (no b), e.g, e.j.sub, fun b hb => (e.new b hb).elim .inl fun z => z.elim .inr fun z => absurd z (no b)⟩
theorem XP.to0 {K : PySem.W.Frag} {G H : Hp} {ρ : En} {σ : St} {x : Exn} {C : Value} {dx : Option Addr} {H' : Hp} (no : ∀ b, ¬ Ownd ρ σ b) (h : XP K G ρ σ H x C dx H') : XP K G [] [] H x C dx H' := by
  obtain ⟨h1, G', h2, h3, h4, h5, h6, h7⟩ := h
  refine ⟨h1, G', h2, h3, fun b hb => ?_, fun b o q _ => h5 b o q (no b), h6, h7⟩
  rcases h4 b hb with z | z | z
  · exact .inl z
  · exact .inr (.inl z)
  · exact absurd z (no b)
theorem guard_len {n : Nat} {F : Fn} {ds : List D} (h : guard n F ds ≠ none) : ds.length = n := by
  unfold guard at h
  cases q : Nat.beq ds.length n with
  | true => exact Nat.eq_of_beq_eq_true q
  | false => rw [q] at h; exact absurd rfl h
theorem guard_eq {n : Nat} {F : Fn} {ds : List D} (h : ds.length = n) : guard n F ds = F ds := by
  unfold guard
  subst h
  have e : Nat.beq ds.length ds.length = true := Nat.beq_refl _
  rw [e]
theorem body_sem {K : PySem.W.Frag} {E : XK} {N : List Str} {g : Mo Fl} {t : TS} {n : Nat} (q : ∀ G ρ σ H De, J K G ρ σ H → PostS K E G ρ σ H De (g ρ) → t De σ H) {vs : List V} {H : Hp} {Q : VK} (h : spP K n (guard n (runF N.length g)) vs H Q E) :
    t { nx := fun _ H' => Q .non H', rt := Q } (start N vs) H := by
  obtain ⟨G, ds, s, r, hl, k⟩ := h
  rw [guard_eq hl] at k
  refine q G _ _ H _ (start_j s r) ?_
  have no : ∀ b, ¬ Ownd (ds.map Sl.pur ++ List.replicate (N.length - ds.length) Sl.no) (start N vs) b := fun b => start_no
  unfold runF at k
  cases e : g (ds.map Sl.pur ++ List.replicate (N.length - ds.length) Sl.no) with
  | none => rw [e] at k; exact k.elim
  | some o =>
    rw [e] at k
    cases o with
    | error x => exact fun C dx H' z => k C dx H' (z.to0 no)
    | ok p =>
      obtain ⟨ρ', f⟩ := p
      cases f with
      | nx => exact fun G' σ' H' z => k G' .non H' (z.px no) .non
      | rt d => exact fun G' σ' v H' z r => k G' v H' (z.px no) r
      | bk => exact k.elim
      | ct => exact k.elim
theorem pass_cx {P : Program} {w : World} {K : PySem.W.Frag} {mg : Str → Option Value} {base : Heap} {N : List Str} {qual : Str} {scope : Scope} {f : Addr} {cd : Value} {A : Around} {outer : List PySem.Env} {s : Shared} {H : Hp} {E : XK} :
    Passes (L2.CX P w) (cxOf (L2.CX P w) P w K mg base N qual scope f cd A outer s H E) E := passes_call (takes_of rfl rfl rfl rfl) fun _ _ _ _ h => h
theorem fn_ok {P : Program} {w : World} {K : PySem.W.Frag} {mg : Str → Option Value} {base : Heap} {x : Str} {st : Stmt} {fd : FuncData} {N ps : List Str} {k : Nat} {g : Mo Fl} (F : FunD K x x (defArgs st) (defBody st) (defScope st) [] [] (He.ga K x) fd) (S : FnScope N ps (defScope st)) (gl : mg x = some (.ref (He.ga K x)))
    (b : ∀ (kV doc pm : Value) (an : Option Addr) (cdv ct : Value) (us : List Value), us.length = ps.length → bindArgs (PySem.W.fnOf x x (defArgs st) (defBody st) (defScope st) .none kV doc pm an cdv ct) ⟨us, []⟩ = pure (ps.zip us))
    (hb : ∀ (cdv : Value) (A : Around) (outer : List PySem.Env) (s : Shared) (H : Hp) (E : XK), Room k (A.deeper (PyProof.Rows.envOfC x (defScope st) s.heap.objs.size (He.ga K x) cdv)) → SVs (cxOf (L2.CX P w) P w K mg base N x (defScope st) (He.ga K x) cdv A outer s H E) E (defBody st) g) :
    FnE P w K mg base (k + 1) x ps (guard ps.length (runF N.length g)) := by
  have ok : FnOk P w K mg base (L2.CX P w) (k + 1) (He.ga K x) fd ps (spP K ps.length (guard ps.length (runF N.length g))) := by
    refine F.ok S (fun vs H Q E h => ?_) fun cdv A outer s H vs Q E hr h => ?_
    · obtain ⟨G, ds, _, r, hl, _⟩ := h
      rw [r.length, hl]
    · obtain ⟨t, p, q⟩ := hb cdv A outer s H E hr
      exact ⟨t, p, body_sem q h⟩
  have here : IsFd K (He.ga K x) fd := let ⟨oc, od, _, _, _, _, _, _, _, osl, _, lk, _⟩ := F.ex; ⟨oc, od, osl, lk⟩
  exact ⟨⟨fd, ok, F.bindsN b⟩, F.kp, gl, fun ds h => guard_len h, fun fd' h => here.one h ▸ ok⟩
/-- the same def by another reckoning -/
theorem FnE.by {P : Program} {w : World} {K : PySem.W.Frag} {mg : Str → Option Value} {base : Heap} {k : Nat} {x : Str} {ps : List Str} {F F' : Fn} (h : FnE P w K mg base k x ps F) (e : ∀ ds r, F' ds = some r → F ds = some r) : FnE P w K mg base k x ps F' := by
  obtain ⟨⟨fd, h1, h2⟩, kp, gl, hl, h3⟩ := h
  have weaker : ∀ vs H Q E, spP K ps.length F' vs H Q E → spP K ps.length F vs H Q E := fun vs H Q E q => by
    obtain ⟨G, ds, s, r, l, z⟩ := q
    refine ⟨G, ds, s, r, l, ?_⟩
    cases e1 : F' ds with
    | none => rw [e1] at z; exact z.elim
    | some o => rw [e ds o e1]; rw [e1] at z; exact z
  refine ⟨⟨fd, h1.imp weaker, h2⟩, kp, gl, fun ds q => ?_, fun fd' h => (h3 fd' h).imp weaker⟩
  · cases e1 : F' ds with
    | none => exact absurd e1 q
    | some o => exact hl ds (by rw [e ds o e1]; simp)
section
variable {X : Cx}
def addD : D → D → Option D
  | .int i, .int j => some (.int (i + j))
  | .str x, .str y => if x.length + y.length ≤ 1000000 then some (.str (x ++ y)) else none
  | .tuple xs, .tuple ys => if xs.length + ys.length ≤ 1000000 then some (.tuple (xs ++ ys)) else none
  | .list xs, .list ys => if xs.length + ys.length ≤ 1000000 then some (.list (xs ++ ys)) else none
  | _, _ => none
theorem ite_some {c : Prop} [Decidable c] {α : Type} {a b : α} (h : (if c then some a else none) = some b) : c ∧ a = b := by
  split at h
  · rename_i q
    exact ⟨q, Option.some.inj h⟩
  · cases h
theorem dop_add : DOp X (binaryOp .Add) addD := by
  refine ⟨_, op_add.or (op_add_str.or ((op_catP.or op_cat0).or op_cat)), fun G H x y a b c Q s hx hy h k => ?_⟩
  cases hx with
  | int i => cases hy with
    | int j => cases h; exact .inl ⟨i, j, rfl, rfl, k G _ H (.refl s) (.int _)⟩
    | _ => cases h
  | str z => cases hy with
    | str z' =>
      obtain ⟨h1, rfl⟩ := ite_some (show (if z.length + z'.length ≤ 1000000 then some (PyData.str (z ++ z')) else none) = some c from h)
      exact .inr (.inl ⟨z, z', rfl, rfl, line_of h1, k G _ H (.refl s) (.str _)⟩)
    | _ => cases h
  | @tup a xs ds h1 h2 => cases hy with
    | @tup a' ys es h3 h4 =>
      obtain ⟨hz, rfl⟩ := ite_some (show (if ds.length + es.length ≤ 1000000 then some (PyData.tuple (ds ++ es)) else none) = some c from h)
      have l1 := h2.length
      have l2 := h4.length
      have lz : xs.length + ys.length ≤ sizeLine := by rw [l1, l2]; exact line_of hz
      by_cases ex : xs = []
      · refine .inr (.inr (.inl (.inr ⟨a, a', xs, ys, rfl, rfl, sqT_mono s h1.t, sqT_mono s h3.t, lz, .inl ⟨ex, ?_⟩⟩)))
        subst ex
        cases h2
        exact k G _ H (.refl s) (.tup h3 h4)
      · by_cases ey : ys = []
        · refine .inr (.inr (.inl (.inr ⟨a, a', xs, ys, rfl, rfl, sqT_mono s h1.t, sqT_mono s h3.t, lz, .inr ⟨ex, ey, ?_⟩⟩)))
          subst ey
          cases h4
          exact k G _ H (.refl s) (by rw [List.append_nil]; exact .tup h1 h2)
        · refine .inr (.inr (.inl (.inl ⟨a, a', xs, ys, rfl, rfl, sqT_mono s h1.t, sqT_mono s h3.t, ex, ey, lz, fun p o hp nd => ?_⟩)))
          have px : PX G H _ _ := .alloc s hp (.frz o (.tup (xs ++ ys)))
          exact k _ _ _ px (.tup (.new nd) ((h2.append h4).mono px.g))
    | _ => cases h
  | @lst a xs ds h1 h2 => cases hy with
    | @lst a' ys es h3 h4 =>
      obtain ⟨hz, rfl⟩ := ite_some (show (if ds.length + es.length ≤ 1000000 then some (PyData.list (ds ++ es)) else none) = some c from h)
      refine .inr (.inr (.inr ⟨a, a', xs, ys, rfl, rfl, s _ _ h1, s _ _ h3, by rw [h2.length, h4.length]; exact line_of hz, fun p hp => ?_⟩))
      have px : PX G H _ _ := .alloc s hp (.lst (xs ++ ys))
      exact k _ _ _ px (.lst upd_same ((h2.append h4).mono px.g))
    | _ => cases h
  | obj h1 h2 => cases h
  | _ => cases h
def subD : D → D → Option D
  | .int i, .int j => some (.int (i - j))
  | _, _ => none
theorem dop_sub : DOp X (binaryOp .Sub) subD := by
  refine ⟨_, op_sub, fun G H x y a b c Q s hx hy h k => ?_⟩
  cases hx with
  | int i => cases hy with
    | int j => cases h; exact ⟨i, j, rfl, rfl, k G _ H (.refl s) (.int _)⟩
    | _ => cases h
  | _ => cases h
/-- the factors have together less than a million bits -/
def mulFit (i j : Int) : Bool := Nat.blt (i.natAbs.log2 + j.natAbs.log2) 1000000
def mulD : D → D → Option D
  | .int i, .int j => match mulFit i j with
    | true => some (.int (i * j))
    | false => none
  | .list xs, .int k => if xs.length * k.toNat ≤ 1000000 ∧ k < 1000000 ∧ -1000000 < k then some (.list (List.replicate k.toNat xs).flatten) else none
  | _, _ => none
theorem RpAll.flat {K : PySem.W.Frag} {G : Hp} {xs : List V} {ds : List D} (r : RpAll K G xs ds) : ∀ n : Nat, RpAll K G (List.replicate n xs).flatten (List.replicate n ds).flatten
  | 0 => .nil
  | n + 1 => by
    simp only [List.replicate_succ, List.flatten_cons]
    exact r.append (RpAll.flat r n)
theorem dop_mul : DOp X (binaryOp .Mult) mulD := by
  refine ⟨_, op_mulW.or op_rep, fun G H x y a b c Q s hx hy h k => ?_⟩
  cases hx with
  | int i => cases hy with
    | int j =>
      have h' : (match mulFit i j with
        | true => some (PyData.int (i * j))
        | false => none) = some c := h
      cases q : mulFit i j with
      | true =>
        rw [q] at h'
        cases h'
        refine .inl ⟨i, j, rfl, rfl, ?_, k G _ H (.refl s) (.int _)⟩
        unfold mulFit Nat.blt at q
        exact Nat.le_of_ble_eq_true q
      | false => rw [q] at h'; cases h'
    | _ => cases h
  | @lst a xs ds h1 h2 => cases hy with
    | int j =>
      obtain ⟨⟨hz, h3, h4⟩, rfl⟩ := ite_some (show (if ds.length * j.toNat ≤ 1000000 ∧ j < 1000000 ∧ -1000000 < j then some (PyData.list (List.replicate j.toNat ds).flatten) else none) = some c from h)
      refine .inr ⟨a, j, xs, rfl, rfl, s _ _ h1, by omega, by omega, by rw [h2.length]; exact line_of hz, fun p hp => ?_⟩
      have px : PX G H _ _ := .alloc s hp (.lst (List.replicate j.toNat xs).flatten)
      exact k _ _ _ px (.lst upd_same ((h2.flat _).mono px.g))
    | _ => cases h
  | obj h1 h2 => cases h
  | _ => cases h
def fdivD : D → D → Option D
  | .int i, .int j => if 0 < j ∧ j.natAbs.log2 < 9000 then some (.int (i / j)) else none
  | _, _ => none
theorem dop_fdiv : DOp X (binaryOp .FloorDiv) fdivD := by
  refine ⟨_, op_fdivW, fun G H x y a b c Q s hx hy h k => ?_⟩
  cases hx with
  | int i => cases hy with
    | int j =>
      obtain ⟨h1, rfl⟩ := ite_some (show (if 0 < j ∧ j.natAbs.log2 < 9000 then some (PyData.int (i / j)) else none) = some c from h)
      exact ⟨i, j, rfl, rfl, h1, k G _ H (.refl s) (.int _)⟩
    | _ => cases h
  | _ => cases h
def modD : D → D → Option D
  | .int i, .int j => if 0 < j then some (.int (i % j)) else none
  | _, _ => none
theorem dop_mod : DOp X (binaryOp .Mod) modD := by
  refine ⟨_, op_mod, fun G H x y a b c Q s hx hy h k => ?_⟩
  cases hx with
  | int i => cases hy with
    | int j =>
      obtain ⟨h1, rfl⟩ := ite_some (show (if 0 < j then some (PyData.int (i % j)) else none) = some c from h)
      exact ⟨i, j, rfl, rfl, h1, k G _ H (.refl s) (.int _)⟩
    | _ => cases h
  | _ => cases h
def powD : D → D → Option D
  | .int i, .int j => if 0 ≤ j ∧ j ≤ 1000000 ∧ i.natAbs < 2 ^ 64 then some (.int (i ^ j.toNat)) else none
  | _, _ => none
theorem dop_pow : DOp X (binaryOp .Pow) powD := by
  refine ⟨_, op_pow, fun G H x y a b c Q s hx hy h k => ?_⟩
  cases hx with
  | int i => cases hy with
    | int j =>
      obtain ⟨h1, rfl⟩ := ite_some (show (if 0 ≤ j ∧ j ≤ 1000000 ∧ i.natAbs < 2 ^ 64 then some (PyData.int (i ^ j.toNat)) else none) = some c from h)
      exact ⟨i, j, rfl, rfl, h1, k G _ H (.refl s) (.int _)⟩
    | _ => cases h
  | _ => cases h
/-- comparisons of ints -/
def cmpD (p : Int → Int → Bool) : D → D → Option D
  | .int i, .int j => some (.bool (p i j))
  | _, _ => none
theorem dop_cmp {sem : Value → Value → Sem Value} {p : Int → Int → Bool} (h : OpR X sem (rI0 fun i j => .bl (p i j))) : DOp X sem (cmpD p) := by
  refine ⟨_, h, fun G H x y a b c Q s hx hy h k => ?_⟩
  cases hx with
  | int i => cases hy with
    | int j => cases h; exact ⟨i, j, rfl, rfl, k G _ H (.refl s) (.bl _)⟩
    | _ => cases h
  | _ => cases h
def ltI (i j : Int) : Bool := decide (i < j)
def leI (i j : Int) : Bool := decide (i ≤ j)
def gtI (i j : Int) : Bool := decide (j < i)
def geI (i j : Int) : Bool := decide (j ≤ i)
theorem dop_lt : DOp X (compareOp .Lt) (cmpD ltI) := dop_cmp op_lt
theorem dop_le : DOp X (compareOp .LtE) (cmpD leI) := dop_cmp op_le
theorem dop_gt : DOp X (compareOp .Gt) (cmpD gtI) := dop_cmp op_gt
theorem dop_ge : DOp X (compareOp .GtE) (cmpD geI) := dop_cmp op_ge
def eqD : D → D → Option D
  | .int i, .int j => some (.bool (i == j))
  | a, b => if SeqAt.shaped a = true ∧ SeqAt.shaped b = true then some (.bool (PyData.eqv a b)) else none
def neD : D → D → Option D
  | .int i, .int j => some (.bool (!(i == j)))
  | a, b => if SeqAt.shaped a = true ∧ SeqAt.shaped b = true then some (.bool (!PyData.eqv a b)) else none
theorem eqD_is {a b c : D} (h : eqD a b = some c) : SeqAt.shaped a = true ∧ SeqAt.shaped b = true ∧ c = .bool (PyData.eqv a b) := by
  unfold eqD at h
  split at h
  · cases h
    exact ⟨rfl, rfl, by simp only [PyData.eqv]⟩
  · obtain ⟨⟨h1, h2⟩, rfl⟩ := ite_some h
    exact ⟨h1, h2, rfl⟩
theorem neD_is {a b c : D} (h : neD a b = some c) : SeqAt.shaped a = true ∧ SeqAt.shaped b = true ∧ c = .bool (!PyData.eqv a b) := by
  unfold neD at h
  split at h
  · cases h
    exact ⟨rfl, rfl, by simp only [PyData.eqv]⟩
  · obtain ⟨⟨h1, h2⟩, rfl⟩ := ite_some h
    exact ⟨h1, h2, rfl⟩
theorem Rp.shaped {K : PySem.W.Frag} {G H : Hp} {v : V} {d : D} (s : Same G H) (c : SeqAt.shaped d = true) (r : Rp K G v d) : Dp K H v d := (r.mono s).dp d (SeqAt.canLay_of_shaped c)
theorem dop_eq (hu : X.A.units + 64 < cLine) : DOp X (compareOp .Eq) eqD := by
  refine ⟨_, op_eqD hu, fun G H x y a b c Q s hx hy h k => ?_⟩
  obtain ⟨h1, h2, rfl⟩ := eqD_is h
  exact ⟨a, b, hx.shaped s h1, hy.shaped s h2, h1, h2, k G _ H (.refl s) (.bl _)⟩
theorem dop_ne (hu : X.A.units + 64 < cLine) : DOp X (compareOp .NotEq) neD := by
  refine ⟨_, op_neD hu, fun G H x y a b c Q s hx hy h k => ?_⟩
  obtain ⟨h1, h2, rfl⟩ := neD_is h
  exact ⟨a, b, hx.shaped s h1, hy.shaped s h2, h1, h2, k G _ H (.refl s) (.bl _)⟩
def isN : D → Bool
  | .none => true
  | _ => false
theorem isN_V {K : PySem.W.Frag} {G : Hp} {v : V} {d : D} (r : Rp K G v d) : decide (v = .non) = isN d := by
  cases r <;> simp [isN]
/-- is None -/
def isD : D → D → Option D
  | a, .none => some (.bool (isN a))
  | _, _ => none
theorem dop_is : DOp X (compareOp .Is) isD := by
  refine ⟨_, op_isN, fun G H x y a b c Q s hx hy h k => ?_⟩
  cases hy with
  | non => cases h; exact ⟨rfl, by rw [isN_V hx]; exact k G _ H (.refl s) (.bl _)⟩
  | _ => cases h
end
end HB
namespace HB
open PySem L2
section
variable {X : Cx} {E : XK}
def inD : D → D → Option D
  | d, .list ds => if SeqAt.shaped d = true ∧ SeqAt.shaped (.list ds) = true then some (.bool (ds.any fun z => PyData.eqv z d)) else none
  | .str i, .str j => some (.bool (!(Builtin.Str.occurrences j i 0 j.length 1).isEmpty))
  | _, _ => none
def notInD : D → D → Option D
  | d, .list ds => if SeqAt.shaped d = true ∧ SeqAt.shaped (.list ds) = true then some (.bool (!ds.any fun z => PyData.eqv z d)) else none
  | .str i, .str j => some (.bool (!!(Builtin.Str.occurrences j i 0 j.length 1).isEmpty))
  | _, _ => none
theorem dop_in (hu : X.A.units + 65 < cLine) : DOp X (compareOp .In) inD := by
  refine ⟨_, (op_inD hu).or op_in_str, fun G H x y a b c Q s hx hy h k => ?_⟩
  cases hy with
  | @lst p xs ds h1 h2 =>
    obtain ⟨⟨h3, h4⟩, rfl⟩ := ite_some (show (if SeqAt.shaped a = true ∧ SeqAt.shaped (.list ds) = true then some (PyData.bool (ds.any fun z => PyData.eqv z a)) else none) = some c by
      cases a <;> exact h)
    exact .inl ⟨a, ds, hx.shaped s h3, (Rp.lst h1 h2).shaped s h4, h3, h4, k G _ H (.refl s) (.bl _)⟩
  | str z => cases hx with
    | str z' => cases h; exact .inr ⟨z', z, rfl, rfl, k G _ H (.refl s) (.bl _)⟩
    | _ => cases h
  | _ => cases hx <;> cases h
theorem dop_notIn (hu : X.A.units + 65 < cLine) : DOp X (compareOp .NotIn) notInD := by
  refine ⟨_, (op_notInD hu).or op_notin_str, fun G H x y a b c Q s hx hy h k => ?_⟩
  cases hy with
  | @lst p xs ds h1 h2 =>
    obtain ⟨⟨h3, h4⟩, rfl⟩ := ite_some (show (if SeqAt.shaped a = true ∧ SeqAt.shaped (.list ds) = true then some (PyData.bool (!ds.any fun z => PyData.eqv z a)) else none) = some c by
      cases a <;> exact h)
    exact .inl ⟨a, ds, hx.shaped s h3, (Rp.lst h1 h2).shaped s h4, h3, h4, k G _ H (.refl s) (.bl _)⟩
  | str z => cases hx with
    | str z' => cases h; exact .inr ⟨z', z, rfl, rfl, k G _ H (.refl s) (.bl _)⟩
    | _ => cases h
  | _ => cases hx <;> cases h
/-- -a -/
def negD : D → Option D
  | .int i => some (.int (-i))
  | _ => none
def mUn (f : D → Option D) (a : Mo D) : Mo D := mBind a fun x => mLift (f x)
theorem ev_neg {a : Expr} {pos : Pos} {f : Mo D} (h : EV X E a f) : EV X E (.UnaryOp .USub a pos) (mUn negD f) := by
  obtain ⟨t, p, q⟩ := h
  refine ⟨_, pe_un un_neg p, fun G ρ σ H Q j h => q G ρ σ H _ j (Post.imp h fun G1 ρ1 x H1 a e1 r1 h1 => ?_)⟩
  obtain ⟨c, hc, k⟩ := Post.lift (ρ' := ρ1) h1
  cases r1 with
  | int i => cases hc; exact ⟨i, rfl, k G1 _ H1 e1.j.refl (.int _)⟩
  | _ => cases hc
/-- a op b op' c -/
def mChain (f g : D → D → Option D) (a b c : Mo D) : Mo D := mBind a fun x => mBind b fun y => mBind (mTest (mLift (f x y))) fun t => match t with
  | true => mBind c fun z => mLift (g y z)
  | false => mRet (.bool false)
theorem chain_sem {ta tb tc : TE} {r r' : R2} {fa fb fc : Mo D} {f g : D → D → Option D} (ha : ∀ G ρ σ H Q, J X.K G ρ σ H → Post X.K E (Rp X.K) G ρ σ H Q (fa ρ) → ta σ H Q) (hb : ∀ G ρ σ H Q, J X.K G ρ σ H → Post X.K E (Rp X.K) G ρ σ H Q (fb ρ) → tb σ H Q) (hc : ∀ G ρ σ H Q, J X.K G ρ σ H → Post X.K E (Rp X.K) G ρ σ H Q (fc ρ) → tc σ H Q)
    (hr : ∀ G H x y a b c Q, Same G H → Rp X.K G x a → Rp X.K G y b → f a b = some c → (∀ G' v H', PX G H G' H' → Rp X.K G' v c → Q v H') → r x y H Q)
    (hr' : ∀ G H x y a b c Q, Same G H → Rp X.K G x a → Rp X.K G y b → g a b = some c → (∀ G' v H', PX G H G' H' → Rp X.K G' v c → Q v H') → r' x y H Q) :
    ∀ G ρ σ H Q, J X.K G ρ σ H → Post X.K E (Rp X.K) G ρ σ H Q (mChain f g fa fb fc ρ) → tChain r r' ta tb tc σ H Q := by
  intro G ρ σ H Q j h
  refine ha G ρ σ H _ j (Post.imp h fun G1 ρ1 x H1 a e1 r1 h1 => ?_)
  refine hb G1 ρ1 σ H1 _ e1.j (Post.imp h1 fun G2 ρ2 y H2 b e2 r2 h2 => ?_)
  cases hf : f a b with
  | none =>
    have h2' : Post X.K E (Rp X.K) G2 ρ2 σ H2 Q (mBind (mTest (mLift (f a b))) _ ρ2) := h2
    unfold mBind mTest mBind mLift at h2'
    rw [hf] at h2'
    exact h2'.elim
  | some c =>
    have h2' : Post X.K E (Rp X.K) G2 ρ2 σ H2 Q (mBind (mTest (mLift (f a b))) _ ρ2) := h2
    unfold mBind mTest mBind mLift at h2'
    rw [hf] at h2'
    cases c with
    | bool t =>
      refine hr G2 H2 x y a b _ _ e2.j.sub (r1.mono e2.g) r2 hf fun G3 v H3 p3 r3 => ?_
      cases r3
      have e3 := e2.j.ex p3
      refine ⟨t, rfl, ?_⟩
      cases t with
      | true =>
        refine (hc G3 ρ2 σ H3 _ e3.j (Post.imp (f := fun z => mLift (g b z)) (Post.ex e3 h2') fun G4 ρ4 z H4 dc e4 r4 h4 => ?_) : _)
        obtain ⟨c, hc, k⟩ := Post.lift (ρ' := ρ4) h4
        exact hr' G4 H4 y z b dc c Q e4.j.sub ((r2.mono p3.g).mono e4.g) r4 hc fun G' v H' p q => k G' v H' (e4.j.ex p) q
      | false => exact ((Post.ex e3 h2' : Post X.K E (Rp X.K) G3 ρ2 σ H3 Q (some (.ok (ρ2, .bool false)))) G3 _ H3 e3.j.refl (.bl false) : _)
    | _ => exact h2'.elim
theorem et_chain {op op' : CmpOp} {a b c : Expr} {pos : Pos} {fa fb fc : Mo D} {f g : D → D → Option D} (ho : DOp X (compareOp op) f) (ho' : DOp X (compareOp op') g) (ha : EV X E a fa) (hb : EV X E b fb) (hc : EV X E c fc) (h1 : lastMarks [op, op'] [b, c] = false := by with_unfolding_all rfl) :
    ET X E (.Compare a [op, op'] [b, c] pos) (mTest (mChain f g fa fb fc)) := by
  obtain ⟨r, o, hr⟩ := ho
  obtain ⟨r', o', hr'⟩ := ho'
  obtain ⟨ta, pa, qa⟩ := ha
  obtain ⟨tb, pb, qb⟩ := hb
  obtain ⟨tc, pc, qc⟩ := hc
  exact ⟨_, pt_chain o o' pa pb pc h1, test_sem (chain_sem qa qb qc hr hr')⟩
def lenD : List D → Option D
  | [.list ds] => some (.int ds.length)
  | [.tuple ds] => some (.int ds.length)
  | [.dict [(.none, .list ds)]] => some (.int ds.length)
  | [.str x] => if x.length ≤ 1000000 then some (.int x.length) else none
  | _ => none
theorem RpAll.one {K : PySem.W.Frag} {G : Hp} {xs : List V} {d : D} (r : RpAll K G xs [d]) : ∃ x, xs = [x] ∧ Rp K G x d := by
  cases r with
  | cons h t => cases t; exact ⟨_, rfl, h⟩
theorem RpAll.two {K : PySem.W.Frag} {G : Hp} {xs : List V} {d e : D} (r : RpAll K G xs [d, e]) : ∃ x y, xs = [x, y] ∧ Rp K G x d ∧ Rp K G y e := by
  cases r with
  | cons h t =>
    obtain ⟨y, rfl, q⟩ := t.one
    exact ⟨_, y, rfl, h, q⟩
theorem dc_len : DCall X (.builtin "len") lenD := by
  refine ⟨_, call_len, fun G H xs ds c Q s hx h k => ?_⟩
  match ds, h with
  | [.list ds], h =>
    obtain ⟨x, rfl, r⟩ := hx.one
    cases h
    cases r with
    | lst h1 h2 => exact ⟨_, _, rfl, .inl ⟨_, .of (s _ _ h1), h2.length.symm⟩, k G _ H (.refl s) (.int _)⟩
  | [.tuple ds], h =>
    obtain ⟨x, rfl, r⟩ := hx.one
    cases h
    cases r with
    | tup h1 h2 => exact ⟨_, _, rfl, .inr ⟨_, sqT_mono s h1.t, h2.length.symm⟩, k G _ H (.refl s) (.int _)⟩
  | [.dict [(.none, .list ds)]], h =>
    obtain ⟨x, rfl, r⟩ := hx.one
    cases h
    cases r with
    | frz h1 h2 => exact ⟨_, _, rfl, .inl ⟨_, s.seq h1, h2.length.symm⟩, k G _ H (.refl s) (.int _)⟩
  | [.str z], h =>
    obtain ⟨x, rfl, r⟩ := hx.one
    obtain ⟨h1, rfl⟩ := ite_some (show (if z.length ≤ 1000000 then some (PyData.int z.length) else none) = some c from h)
    cases r
    exact ⟨_, _, rfl, ⟨line_of h1, rfl⟩, k G _ H (.refl s) (.int _)⟩
def absD : List D → Option D
  | [.int i] => some (.int (if i < 0 then -i else i))
  | _ => none
theorem dc_abs : DCall X (.builtin "abs") absD := by
  refine ⟨_, call_abs, fun G H xs ds c Q s hx h k => ?_⟩
  match ds, h with
  | [.int i], h =>
    obtain ⟨x, rfl, r⟩ := hx.one
    cases h
    cases r
    exact ⟨_, rfl, k G _ H (.refl s) (.int _)⟩
def maxD : List D → Option D
  | [.int i, .int j] => some (.int (if j > i then j else i))
  | _ => none
def minD : List D → Option D
  | [.int i, .int j] => some (.int (if j < i then j else i))
  | _ => none
theorem dc_max (hc : X.calm = true) : DCall X (.builtin "max") maxD := by
  refine ⟨_, call_max2 hc, fun G H xs ds c Q s hx h k => ?_⟩
  match ds, h with
  | [.int i, .int j], h =>
    obtain ⟨x, y, rfl, r, r2⟩ := hx.two
    cases h
    cases r
    cases r2
    exact ⟨_, _, rfl, k G _ H (.refl s) (.int _)⟩
theorem dc_min (hc : X.calm = true) : DCall X (.builtin "min") minD := by
  refine ⟨_, call_min2 hc, fun G H xs ds c Q s hx h k => ?_⟩
  match ds, h with
  | [.int i, .int j], h =>
    obtain ⟨x, y, rfl, r, r2⟩ := hx.two
    cases h
    cases r
    cases r2
    exact ⟨_, _, rfl, k G _ H (.refl s) (.int _)⟩
def intD : List D → Option D
  | [.int i] => some (.int i)
  | [.bool b] => some (.int (if b then 1 else 0))
  | _ => none
theorem dc_int : DCall X (.type "int") intD := by
  refine ⟨_, call_int1, fun G H xs ds c Q s hx h k => ?_⟩
  match ds, h with
  | [.int i], h =>
    obtain ⟨x, rfl, r⟩ := hx.one
    cases h
    cases r
    exact .inl ⟨_, rfl, k G _ H (.refl s) (.int _)⟩
  | [.bool i], h =>
    obtain ⟨x, rfl, r⟩ := hx.one
    cases h
    cases r
    exact .inr ⟨_, rfl, k G _ H (.refl s) (.int _)⟩
def boolsD : List D → Option (List Bool)
  | [] => some []
  | .bool b :: r => (boolsD r).map (b :: ·)
  | _ :: _ => none
theorem RpAll.bools {K : PySem.W.Frag} {G : Hp} : ∀ {xs : List V} {ds : List D} {bs : List Bool}, RpAll K G xs ds → boolsD ds = some bs → xs = bs.map V.bl
  | _, [], _, .nil, h => by cases h; rfl
  | _, .bool b :: r, bs, .cons h t, e => by
    cases h
    have e' : (boolsD r).map (b :: ·) = some bs := e
    cases q : boolsD r with
    | none => rw [q] at e'; cases e'
    | some cs =>
      rw [q] at e'
      cases e'
      rw [t.bools q]
      rfl
def allD : List D → Option D
  | [.list ds] => (boolsD ds).map fun bs => .bool (bs.all id)
  | _ => none
def anyD : List D → Option D
  | [.list ds] => (boolsD ds).map fun bs => .bool (bs.any id)
  | _ => none
theorem dc_all (hc : X.calm = true) : DCall X (.builtin "all") allD := by
  refine ⟨_, cr_all hc, fun G H xs ds c Q s hx h k => ?_⟩
  match ds, h with
  | [.list ds], h =>
    obtain ⟨x, rfl, r⟩ := hx.one
    have h' : (boolsD ds).map (fun bs => PyData.bool (bs.all id)) = some c := h
    cases q : boolsD ds with
    | none => rw [q] at h'; cases h'
    | some bs =>
      rw [q] at h'
      cases h'
      cases r with
      | lst h1 h2 => exact ⟨_, bs, rfl, .of (by rw [← h2.bools q]; exact s _ _ h1), k G _ H (.refl s) (.bl _)⟩
theorem dc_any (hc : X.calm = true) : DCall X (.builtin "any") anyD := by
  refine ⟨_, cr_any hc, fun G H xs ds c Q s hx h k => ?_⟩
  match ds, h with
  | [.list ds], h =>
    obtain ⟨x, rfl, r⟩ := hx.one
    have h' : (boolsD ds).map (fun bs => PyData.bool (bs.any id)) = some c := h
    cases q : boolsD ds with
    | none => rw [q] at h'; cases h'
    | some bs =>
      rw [q] at h'
      cases h'
      cases r with
      | lst h1 h2 => exact ⟨_, bs, rfl, .of (by rw [← h2.bools q]; exact s _ _ h1), k G _ H (.refl s) (.bl _)⟩
def tupleD : List D → Option D
  | [.list ds] => some (.tuple ds)
  | [.tuple ds] => some (.tuple ds)
  | _ => none
theorem dc_tuple : DCall X (.type "tuple") tupleD := by
  refine ⟨_, call_tupP.or call_tupleT, fun G H xs ds c Q s hx h k => ?_⟩
  match ds, h with
  | [.list ds], h =>
    obtain ⟨x, rfl, r⟩ := hx.one
    cases h
    cases r with
    | @lst a vs ds h1 h2 =>
      refine .inl ⟨_, vs, rfl, .of (s _ _ h1), fun p o hp nd => ?_⟩
      have px : PX G H _ _ := .alloc s hp (.frz o (.tup vs))
      exact k _ _ _ px (.tup (.new nd) (h2.mono px.g))
  | [.tuple ds], h =>
    obtain ⟨x, rfl, r⟩ := hx.one
    cases h
    cases r with
    | tup h1 h2 => exact .inr ⟨_, _, rfl, sqT_mono s h1.t, k G _ H (.refl s) (.tup h1 h2)⟩
def strD : List D → Option D
  | [.int i] => if i.natAbs.log2 < 1920 then some (.str (toString i)) else none
  | _ => none
theorem dc_str : DCall X (.type "str") strD := by
  refine ⟨_, call_str_int, fun G H xs ds c Q s hx h k => ?_⟩
  match ds, h with
  | [.int i], h =>
    obtain ⟨x, rfl, r⟩ := hx.one
    obtain ⟨h1, rfl⟩ := ite_some (show (if i.natAbs.log2 < 1920 then some (PyData.str (toString i)) else none) = some c from h)
    cases r
    exact ⟨_, rfl, h1, k G _ H (.refl s) (.str _)⟩
def tyD : D → Option String
  | .none => some "NoneType"
  | .bool _ => some "bool"
  | .int _ => some "int"
  | .str _ => some "str"
  | .list _ => some "list"
  | .tuple _ => some "tuple"
  | _ => none
theorem Rp.ty {K : PySem.W.Frag} {G H : Hp} {v : V} {d : D} {n : String} (s : Same G H) (r : Rp K G v d) (h : tyD d = some n) : TyX K H v (.type n) := by
  cases r with
  | non => cases h; exact .base .non
  | bl b => cases h; exact .base (.bl b)
  | int i => cases h; exact .base (.int i)
  | str x => cases h; exact .base (.str x)
  | lst h1 _ => cases h; exact .base (.lst (s _ _ h1))
  | @tup a xs ds h1 h2 =>
    cases h
    rcases sqT_mono s h1.t with (z | ⟨o, z⟩) | z
    · exact .base (.tup z)
    · exact .fTuple z
    · obtain ⟨o, its, n, z1, z2, z3⟩ := z
      exact .kTuple z1 z2
  | frz h1 h2 => cases h
  | obj h1 h2 => cases h
  | adr a => cases h
  | fn x => cases h
end
end HB
namespace HB
open PySem L2
abbrev Src := En → Option (List D)
/-- the iterator yields what the source tells, as things stand -/
def ItOk (K : PySem.W.Frag) (G : Hp) (σ : St) (Jt : It) (src : Src) (js : List Nat) : Prop := ∀ (i : Nat) (G2 : Hp) (ρ2 : En) (σ2 : St) (H2 : Hp) (items : List D), Same G G2 → J K G2 ρ2 σ2 H2 → (∀ j ∈ js, σ2[j]? = σ[j]?) → src ρ2 = some items →
  (∀ d, items[i]? = some d → Jt.go i H2 ∧ ∀ x H3, Jt.yld i H2 x H3 → ∃ G3, PX G2 H2 G3 H3 ∧ Rp K G3 x d) ∧ (items.length ≤ i → Jt.stop i H2)
def PostI (K : PySem.W.Frag) (E : XK) (js : List Nat) (G : Hp) (ρ : En) (σ : St) (H : Hp) (R : It → Hp → Prop) : Option (Except Exn (En × Src)) → Prop
  | none => False
  | some (.error x) => ∀ C dx H', XP K G ρ σ H x C dx H' → E C dx H'
  | some (.ok (ρ', src)) => ∀ G' H' Jt, Ex K G ρ σ H G' ρ' σ H' → ItOk K G' σ Jt src js → R Jt H'
def IV (X : Cx) (E : XK) (tg iter : Expr) (f : Mo Src) (js : List Nat) : Prop := ∃ wi, PI X tg iter wi ∧ ∀ G ρ σ H R, J X.K G ρ σ H → PostI X.K E js G ρ σ H R (f ρ) → wi σ H R
section
variable {X : Cx} {E : XK}
theorem PostI.imp {K : PySem.W.Frag} {js : List Nat} {G H : Hp} {ρ : En} {σ : St} {Rr : It → Hp → Prop} {γ δ : Type} {R' : Hp → δ → γ → Prop} {Q' : δ → Hp → Prop} {m : Mo γ} {f : γ → Mo Src} (h : PostI K E js G ρ σ H Rr (mBind m f ρ))
    (k : ∀ G1 ρ1 v H1 a, Ex K G ρ σ H G1 ρ1 σ H1 → R' G1 v a → PostI K E js G1 ρ1 σ H1 Rr (f a ρ1) → Q' v H1) : Post K E R' G ρ σ H Q' (m ρ) := by
  unfold mBind at h
  cases q : m ρ with
  | none => rw [q] at h; exact h
  | some r =>
    rw [q] at h
    cases r with
    | error x => exact h
    | ok p =>
      obtain ⟨ρ', a⟩ := p
      refine fun G' v H' z r => k G' ρ' v H' a z r ?_
      have h2 : PostI K E js G ρ σ H Rr (f a ρ') := h
      match hh : f a ρ', h2 with
      | some (.error x), h2 => exact fun C dx H' y => h2 C dx H' (XP.trans z y)
      | some (.ok (ρ2, ds)), h2 => exact fun G2 H2 Jt y r2 => h2 G2 H2 Jt (z.trans y) r2
theorem PostI.lift {K : PySem.W.Frag} {js : List Nat} {G H : Hp} {ρ : En} {σ : St} {Rr : It → Hp → Prop} {o : Option Src} (h : PostI K E js G ρ σ H Rr (mLift o ρ)) : ∃ a, o = some a ∧ ∀ G' H' Jt, Ex K G ρ σ H G' ρ σ H' → ItOk K G' σ Jt a js → Rr Jt H' := by
  cases o with
  | none => exact False.elim h
  | some a => exact ⟨a, rfl, h⟩
def constS (ds : List D) : Src := fun _ => some ds
/-- lists and tuples -/
def iSeq (K : PySem.W.Frag) (tl : TE) : TI := fun σ H R => tl σ H fun x H1 => ∃ a, x = .ref a ∧ (((∃ xs, SqL K H1 a xs) ∧ R (Itl K a) H1) ∨ ((∃ xs, SqT K H1 a xs) ∧ R (Itt K a) H1))
theorem pi_seq {tg l : Expr} {tl : TE} (hl : PE X l tl) : PI X tg l (iSeq X.K tl) :=
  PI.mk fun pins s σ H R I h => thn (hl.run pins s σ H _ I h) fun v s1 ⟨x, H1, I1, r1, a, e, q1⟩ => by
    subst e
    cases r1
    exact q1.elim
      (fun ⟨⟨_, hq⟩, q⟩ => have ⟨_, _, p, _⟩ := I1.list hq; wpAny_pyIter_list p.isList (pi_one I1 _ (turn_list a _) ⟨_, Heap.get?_push_size _ rfl, rfl, rfl⟩ q))
      (fun ⟨⟨_, hq⟩, q⟩ => have ⟨its, _, p, _⟩ := I1.tuple hq; wpAny_pyIter_tuple (items := its.toArray) p (pi_one I1 _ (turn_tuple a _) ⟨_, Heap.get?_push_size _ rfl, rfl, rfl⟩ q))
def mSeqS (f : Mo D) : Mo Src := mBind f fun d => mLift ((itemsD d).map constS)
theorem itl_ok {K : PySem.W.Frag} {G : Hp} {σ : St} {a : Addr} {xs : List V} {ds : List D} {js : List Nat} (h : SqL K G a xs) (r : RpAll K G xs ds) : ItOk K G σ (Itl K a) (constS ds) js := by
  intro i G2 ρ2 σ2 H2 items sg j _ e
  cases e
  have hs : SqL K H2 a xs := j.sub.seq (sg.seq h)
  refine ⟨fun d hd => ?_, fun hi => ⟨xs, hs, by rw [r.length]; exact hi⟩⟩
  obtain ⟨v, h1, h2⟩ := r.get hd
  refine ⟨⟨xs, v, hs, h1⟩, fun x H3 y => ?_⟩
  obtain ⟨rfl, y⟩ := y
  have e := Option.some.inj ((y xs hs).symm.trans h1)
  subst e
  exact ⟨G2, .refl j.sub, h2.mono sg⟩
theorem itt_ok {K : PySem.W.Frag} {G : Hp} {σ : St} {a : Addr} {xs : List V} {ds : List D} {js : List Nat} (h : SqT K G a xs) (r : RpAll K G xs ds) : ItOk K G σ (Itt K a) (constS ds) js := by
  intro i G2 ρ2 σ2 H2 items sg j _ e
  cases e
  have hs : SqT K H2 a xs := sqT_mono j.sub (sqT_mono sg h)
  refine ⟨fun d hd => ?_, fun hi => ⟨xs, hs, by rw [r.length]; exact hi⟩⟩
  obtain ⟨v, h1, h2⟩ := r.get hd
  refine ⟨⟨xs, v, hs, h1⟩, fun x H3 y => ?_⟩
  obtain ⟨rfl, y⟩ := y
  have e := Option.some.inj ((y xs hs).symm.trans h1)
  subst e
  exact ⟨G2, .refl j.sub, h2.mono sg⟩
theorem iv_seq {tg iter : Expr} {f : Mo D} (h : EV X E iter f) : IV X E tg iter (mSeqS f) [] := by
  obtain ⟨t, p, q⟩ := h
  refine ⟨_, pi_seq p, fun G ρ σ H R j h => q G ρ σ H _ j (PostI.imp h fun G1 ρ1 x H1 d e1 r1 h1 => ?_)⟩
  obtain ⟨src, hs, k⟩ := PostI.lift h1
  cases hi : itemsD d with
  | none => rw [hi] at hs; cases hs
  | some ds =>
    rw [hi] at hs
    cases hs
    obtain ⟨p0, xs, rfl, s0, r0⟩ := r1.items hi
    rcases s0 with s0 | s0
    · exact ⟨p0, rfl, .inr ⟨⟨xs, sqT_mono e1.j.sub s0⟩, k G1 H1 _ e1.j.refl (itt_ok s0 r0)⟩⟩
    · exact ⟨p0, rfl, .inl ⟨⟨xs, e1.j.sub.seq s0⟩, k G1 H1 _ e1.j.refl (itl_ok s0 r0)⟩⟩
/-- range -/
def rangeD (lo : Int) : Nat → List D
  | 0 => []
  | n + 1 => .int lo :: rangeD (lo + 1) n
theorem rangeD_get : ∀ (n : Nat) (lo : Int) (i : Nat), (rangeD lo n)[i]? = if i < n then some (.int (lo + i)) else none
  | 0, _, _ => by simp [rangeD]
  | n + 1, lo, 0 => by simp [rangeD]
  | n + 1, lo, i + 1 => by
    simp only [rangeD, List.getElem?_cons_succ, rangeD_get n (lo + 1) i]
    have e : lo + 1 + (i : Int) = lo + ((i + 1 : Nat) : Int) := by omega
    simp only [e, Nat.add_lt_add_iff_right]
theorem rangeD_len (lo : Int) (n : Nat) : (rangeD lo n).length = n := by
  induction n generalizing lo with
  | zero => rfl
  | succ n ih => simp [rangeD, ih]
theorem itr_ok {K : PySem.W.Frag} {G : Hp} {σ : St} {lo : Int} {n : Nat} {js : List Nat} : ItOk K G σ (Itr lo n) (constS (rangeD lo n)) js := by
  intro i G2 ρ2 σ2 H2 items sg j _ e
  cases e
  refine ⟨fun d hd => ?_, fun hi => by rw [rangeD_len] at hi; exact hi⟩
  rw [rangeD_get] at hd
  split at hd
  · rename_i hlt
    cases hd
    refine ⟨hlt, fun x H3 y => ?_⟩
    obtain ⟨rfl, rfl⟩ := y
    exact ⟨G2, .refl j.sub, .int _⟩
  · cases hd
def range1D : List D → Option Src
  | [.int j] => if -1000000000 ≤ j ∧ j ≤ 1000000000 then some (constS (rangeD 0 j.toNat)) else none
  | _ => none
def mRange (f : List D → Option Src) (a : Mo (List D)) : Mo Src := mBind a fun ds => mLift (f ds)
theorem iv_range1 {tg a : Expr} {p pos : Pos} {f : Mo (List D)} (hm : X.mg "range" = none) (ha : EA X E [a] f) (hg : Gl X "range" := by rfl) (hs : starEach [a] X.env = [(false, eval a X.env)] := by rfl) : IV X E tg (.Call (.Name "range" p) [a] [] pos) (mRange range1D f) [] := by
  obtain ⟨t, pt, q⟩ := ha
  refine ⟨_, pi_range1 hg hm pt hs, fun G ρ σ H R j h => q G ρ σ H _ j (PostI.imp h fun G1 ρ1 vs H1 ds e1 r1 h1 => ?_)⟩
  obtain ⟨src, hs, k⟩ := PostI.lift h1
  match ds, hs with
  | [.int n], hs =>
    obtain ⟨hz, rfl⟩ := ite_some (show (if -1000000000 ≤ n ∧ n ≤ 1000000000 then some (constS (rangeD 0 n.toNat)) else none) = some src from hs)
    obtain ⟨x, rfl, r⟩ := r1.one
    cases r
    exact ⟨n, rfl, by omega, by omega, k G1 H1 _ e1.j.refl itr_ok⟩
/-- slots but for ws are as they were -/
def Sets (ws : List Nat) (σ σ' : St) : Prop := σ'.length = σ.length ∧ ∀ k, k ∉ ws → σ'[k]? = σ[k]?
theorem Sets.refl {ws : List Nat} {σ : St} : Sets ws σ σ := ⟨rfl, fun _ _ => rfl⟩
theorem Sets.trans {ws us : List Nat} {σ σ1 σ2 : St} (a : Sets ws σ σ1) (b : Sets us σ1 σ2) : Sets (ws ++ us) σ σ2 := ⟨b.1.trans a.1, fun k hk => (b.2 k fun z => hk (List.mem_append_right _ z)).trans (a.2 k fun z => hk (List.mem_append_left _ z))⟩
def GV (X : Cx) (tg : Expr) (g : D → En → Option En) (ws : List Nat) : Prop := ∃ t, PG X tg t ∧ ∀ G ρ σ H Q d v ρ', J X.K G ρ σ H → Rp X.K G v d → g d ρ = some ρ' → (∀ σ', Ex X.K G ρ σ H G ρ' σ' H → Sets ws σ σ' → Q σ' H) → t v σ H Q
def gSet (i : Nat) : D → En → Option En := fun d ρ => some (ρ.set i (.pur d))
theorem gv_name {i : Nat} {x : Str} {pos : Pos} (hN : X.N.Nodup) (hi : X.N[i]? = some x := by rfl) (hx : Loc X.env.scope x := by first | exact Or.inl rfl | exact Or.inr rfl) (hf : X.fn x = true ∨ X.env.scope.names.lookup x = some .local := by first | exact .inl rfl | exact .inr rfl | assumption) : GV X (.Name x pos) (gSet i) [i] :=
  ⟨_, pg_name hN hi hx hf, fun G ρ σ H Q d v ρ' j r h k => by cases h; exact k _ (Ex.set j i r) ⟨List.length_set, fun k hk => List.getElem?_set_ne fun e => hk (by rw [e]; exact List.mem_cons_self)⟩⟩
def GVs (X : Cx) (tgs : List Expr) (g : List D → En → Option En) (ws : List Nat) : Prop := ∃ t, PGs X tgs t ∧ ∀ G ρ σ H Q ds vs ρ', J X.K G ρ σ H → RpAll X.K G vs ds → g ds ρ = some ρ' → (∀ σ', Ex X.K G ρ σ H G ρ' σ' H → Sets ws σ σ' → Q σ' H) → t vs σ H Q
def gNilD : List D → En → Option En
  | [], ρ => some ρ
  | _, _ => none
def gConsD (g : D → En → Option En) (h : List D → En → Option En) : List D → En → Option En
  | d :: ds, ρ => (g d ρ).bind (h ds)
  | _, _ => none
theorem gvs_nil : GVs X [] gNilD [] := ⟨_, pgs_nil, fun G ρ σ H Q ds vs ρ' j r h k => by
  cases r with
  | nil => cases h; exact ⟨rfl, k σ j.refl .refl⟩
  | cons _ _ => cases h⟩
theorem gvs_cons {e : Expr} {es : List Expr} {g : D → En → Option En} {gs : List D → En → Option En} {ws us : List Nat} (h1 : GV X e g ws) (h2 : GVs X es gs us) (hs : (assignEach (e :: es) X.env).map (·.2) = assign e X.env :: (assignEach es X.env).map (·.2) := by rfl) : GVs X (e :: es) (gConsD g gs) (ws ++ us) := by
  obtain ⟨t, p, q⟩ := h1
  obtain ⟨u, p2, q2⟩ := h2
  refine ⟨_, pgs_cons p p2 hs, fun G ρ σ H Q ds vs ρ' j r h k => ?_⟩
  cases r with
  | nil => cases h
  | @cons v vr d dr hd ht =>
    have h' : (g d ρ).bind (gs dr) = some ρ' := h
    cases e1 : g d ρ with
    | none => rw [e1] at h'; cases h'
    | some ρ1 =>
      rw [e1] at h'
      exact ⟨_, _, rfl, q G ρ σ H _ d _ ρ1 j hd e1 fun σ1 x1 s1 => q2 G ρ1 σ1 H Q dr _ ρ' x1.j ht h' fun σ2 x2 s2 => k σ2 (x1.trans x2) (s1.trans s2)⟩
def gTupD (n : Nat) (g : List D → En → Option En) : D → En → Option En
  | .tuple ds, ρ => match Nat.beq ds.length n with
    | true => g ds ρ
    | false => none
  | _, _ => none
theorem gv_tup {es : List Expr} {k : Nat} {g : List D → En → Option En} {n : Nat} {ws : List Nat} {pos : Pos} (hc : X.calm = true) (h : GVs X es g ws) (hn : (assignEach es X.env).length = n := by rfl) (hst : (assignEach es X.env).findIdx? (·.1) = none := by rfl) : GV X (.Tuple es k pos) (gTupD n g) ws := by
  obtain ⟨t, p, q⟩ := h
  refine ⟨_, pg_tup hc p hn hst, fun G ρ σ H Q d v ρ' j r h k => ?_⟩
  cases r with
  | @tup a xs ds h1 h2 =>
    have h' : (match Nat.beq ds.length n with
      | true => g ds ρ
      | false => none) = some ρ' := h
    cases e : Nat.beq ds.length n with
    | false => rw [e] at h'; cases h'
    | true =>
      rw [e] at h'
      exact ⟨a, xs, rfl, sqT_mono j.sub h1.t, h2.length.trans (Nat.eq_of_beq_eq_true e), q G ρ σ H Q ds xs ρ' j h2 h' k⟩
  | _ => cases h
/-- target = value -/
def sAsg (g : D → En → Option En) (f : Mo D) : Mo Fl := mBind f fun d ρ => match g d ρ with
  | some ρ' => some (.ok (ρ', .nx))
  | none => none
theorem s_asg {tg e : Expr} {f : Mo D} {g : D → En → Option En} {ws : List Nat} {pos : Pos} (h : EV X E e f) (hg : GV X tg g ws) (hs : swapsWithSole [tg] e pos.line X.env = pure false := by rfl) (hw : swappedStores [tg] e X.env = pure none := by rfl)
    (ha : (assignEach [tg] X.env).map (·.2) = [assign tg X.env] := by rfl) : SV X E (.Assign [tg] e pos) (sAsg g f) := by
  obtain ⟨t, p, q⟩ := h
  obtain ⟨u, pg, qg⟩ := hg
  refine ⟨_, ps_asg p pg hs hw ha, fun G ρ σ H De j h => q G ρ σ H _ j (PostS.imp h fun G1 ρ1 v H1 d e1 r1 h1 => ?_)⟩
  have h1' : PostS X.K E G1 ρ1 σ H1 De (match g d ρ1 with
    | some ρ' => some (.ok (ρ', .nx))
    | none => none) := h1
  cases e : g d ρ1 with
  | none => rw [e] at h1'; exact h1'.elim
  | some ρ' =>
    rw [e] at h1'
    exact qg G1 ρ1 σ H1 _ d v ρ' e1.j r1 e fun σ' x _ => h1' G1 σ' H1 x
/-- for x in items: body -/
def forL (g : D → En → Option En) (body : Mo Fl) : List D → Mo Fl
  | [] => fun ρ => some (.ok (ρ, .nx))
  | d :: ds => fun ρ => match g d ρ with
    | none => none
    | some ρ1 => match body ρ1 with
      | none => none
      | some (.error x) => some (.error x)
      | some (.ok (ρ2, .nx)) => forL g body ds ρ2
      | some (.ok (ρ2, .ct)) => forL g body ds ρ2
      | some (.ok (ρ2, .bk)) => some (.ok (ρ2, .nx))
      | some (.ok (ρ2, .rt d)) => some (.ok (ρ2, .rt d))
def sFor (src : Mo Src) (g : D → En → Option En) (body : Mo Fl) : Mo Fl := mBind src fun s ρ => match s [] with
  | none => none
  | some items => forL g body items ρ
/-- a source that tells the same whatever happens -/
def Const (s : Src) : Prop := ∀ ρ, s ρ = s []
theorem s_for {tg iter : Expr} {body : List Stmt} {src : Mo Src} {g : D → En → Option En} {b : Mo Fl} {ws : List Nat} {pos : Pos} (hp : PassesOwn (model X.prog X.w) X.A X.env X.xe) (hc : X.calm = true) (hi : IV X E tg iter src []) (hcs : ∀ ρ ρ' s, src ρ = some (.ok (ρ', s)) → Const s) (hg : GV X tg g ws) (hb : SVs X E body b)
    (hfs : ∀ x, foldedSetIterable iter X.env x = pure x := by intro _; rfl) : SV X E (.For tg iter body [] pos) (sFor src g b) := by
  obtain ⟨wi, pi, qi⟩ := hi
  obtain ⟨tg, pg, qg⟩ := hg
  obtain ⟨tb, pb, qb⟩ := hb
  refine ⟨_, ps_for hp hc pi pg pb hfs, fun G ρ σ H De j h => ?_⟩
  refine qi G ρ σ H _ j ?_
  unfold sFor mBind at h
  cases hs : src ρ with
  | none => rw [hs] at h; exact h
  | some r =>
    rw [hs] at h
    cases r with
    | error x => exact h
    | ok pr =>
      obtain ⟨ρ1, s⟩ := pr
      have hcon := hcs ρ ρ1 s hs
      intro G1 H1 Jt e1 hit
      have h' : PostS X.K E G ρ σ H De (match s [] with
        | none => none
        | some items => forL g b items ρ1) := h
      cases hi : s [] with
      | none => rw [hi] at h'; exact h'.elim
      | some items =>
        rw [hi] at h'
        refine ⟨fun i m σ2 H2 => m = items.length - i ∧ i ≤ items.length ∧ ∃ G2 ρ2, Ex X.K G1 ρ1 σ H1 G2 ρ2 σ2 H2 ∧ PostS X.K E G ρ σ H De (forL g b (items.drop i) ρ2), ⟨items.length, by omega, Nat.zero_le _, G1, ρ1, e1.j.refl, h'⟩, ?_⟩
        rintro i m σ2 H2 ⟨rfl, hile, G2, ρ2, e2, hpost⟩
        obtain ⟨hgo, hstop⟩ := hit i G2 ρ2 σ2 H2 items e2.g e2.j (fun _ z => nomatch z) ((hcon ρ2).trans hi)
        by_cases hlt : i < items.length
        · have hd : items[i]? = some items[i] := List.getElem?_eq_getElem hlt
          obtain ⟨go, yld⟩ := hgo _ hd
          rw [List.drop_eq_getElem_cons hlt] at hpost
          refine .inr ⟨go, fun σ' H' => ∃ G3 ρ3, Ex X.K G1 ρ1 σ H1 G3 ρ3 σ' H' ∧ PostS X.K E G ρ σ H De (forL g b (items.drop (i + 1)) ρ3), fun σ' H' ⟨G3, ρ3, e3, p3⟩ => ⟨items.length - (i + 1), by omega, rfl, hlt, G3, ρ3, e3, p3⟩, fun x H3 y => ?_⟩
          obtain ⟨G3, px, rx⟩ := yld x H3 y
          have e3 := e2.trans (e2.j.ex px)
          have hpost' : PostS X.K E G ρ σ H De (match g items[i] ρ2 with
            | none => none
            | some ρ1 => match b ρ1 with
              | none => none
              | some (.error x) => some (.error x)
              | some (.ok (ρ2, .nx)) => forL g b (items.drop (i + 1)) ρ2
              | some (.ok (ρ2, .ct)) => forL g b (items.drop (i + 1)) ρ2
              | some (.ok (ρ2, .bk)) => some (.ok (ρ2, .nx))
              | some (.ok (ρ2, .rt d)) => some (.ok (ρ2, .rt d))) := hpost
          cases eg : g items[i] ρ2 with
          | none => rw [eg] at hpost'; exact hpost'.elim
          | some ρ4 =>
            rw [eg] at hpost'
            refine qg G3 ρ2 σ2 H3 _ items[i] x ρ4 e3.j rx eg fun σ4 x4 _ => ?_
            have e4 := e3.trans x4
            have e04 := e1.trans e4
            refine qb G3 ρ4 σ4 H3 _ e4.j ?_
            cases eb : b ρ4 with
            | none => simp only [eb] at hpost'; exact hpost'.elim
            | some r =>
              cases r with
              | error x => simp only [eb] at hpost'; exact fun C dx H' z => hpost' C dx H' (XP.trans e04 z)
              | ok pr =>
                obtain ⟨ρ5, fl⟩ := pr
                cases fl with
                | nx => simp only [eb] at hpost'; exact fun G5 σ5 H5 x5 => ⟨G5, ρ5, e4.trans x5, hpost'⟩
                | ct => simp only [eb] at hpost'; exact fun G5 σ5 H5 x5 => ⟨G5, ρ5, e4.trans x5, hpost'⟩
                | bk => simp only [eb] at hpost'; exact fun G5 σ5 H5 x5 => hpost' G5 σ5 H5 (e04.trans x5)
                | rt d => simp only [eb] at hpost'; exact fun G5 σ5 v H5 x5 r => hpost' G5 σ5 v H5 (e04.trans x5) r
        · have e : i = items.length := by omega
          subst e
          rw [List.drop_length] at hpost
          exact .inl ⟨hstop (Nat.le_refl _), hpost G2 σ2 H2 (e1.trans e2)⟩
/-- while c: body, at most so many turns -/
def whileL (c : Mo Bool) (body : Mo Fl) : Nat → Mo Fl
  | 0 => fun _ => none
  | n + 1 => fun ρ => match c ρ with
    | none => none
    | some (.error x) => some (.error x)
    | some (.ok (ρ1, false)) => some (.ok (ρ1, .nx))
    | some (.ok (ρ1, true)) => match body ρ1 with
      | none => none
      | some (.error x) => some (.error x)
      | some (.ok (ρ2, .nx)) => whileL c body n ρ2
      | some (.ok (ρ2, .ct)) => whileL c body n ρ2
      | some (.ok (ρ2, .bk)) => some (.ok (ρ2, .nx))
      | some (.ok (ρ2, .rt d)) => some (.ok (ρ2, .rt d))
def sWhile (fuel : En → Nat) (c : Mo Bool) (body : Mo Fl) : Mo Fl := fun ρ => whileL c body (fuel ρ) ρ
theorem s_while {c : Expr} {body : List Stmt} {fc : Mo Bool} {b : Mo Fl} {pos : Pos} (fuel : En → Nat) (hp : PassesOwn (model X.prog X.w) X.A X.env X.xe) (hc : ET X E c fc) (hb : SVs X E body b) : SV X E (.While c body [] pos) (sWhile fuel fc b) := by
  obtain ⟨tc, pc, qc⟩ := hc
  obtain ⟨tb, pb, qb⟩ := hb
  refine ⟨_, ps_while hp pc pb, fun G ρ σ H De j h => ?_⟩
  refine ⟨fun m σ2 H2 => ∃ G2 ρ2, Ex X.K G ρ σ H G2 ρ2 σ2 H2 ∧ PostS X.K E G ρ σ H De (whileL fc b m ρ2), ⟨fuel ρ, G, ρ, j.refl, h⟩, ?_⟩
  rintro m σ2 H2 ⟨G2, ρ2, e2, hpost⟩
  cases m with
  | zero => exact hpost.elim
  | succ n =>
    have hpost' : PostS X.K E G ρ σ H De (match fc ρ2 with
      | none => none
      | some (.error x) => some (.error x)
      | some (.ok (ρ1, false)) => some (.ok (ρ1, .nx))
      | some (.ok (ρ1, true)) => match b ρ1 with
        | none => none
        | some (.error x) => some (.error x)
        | some (.ok (ρ2, .nx)) => whileL fc b n ρ2
        | some (.ok (ρ2, .ct)) => whileL fc b n ρ2
        | some (.ok (ρ2, .bk)) => some (.ok (ρ2, .nx))
        | some (.ok (ρ2, .rt d)) => some (.ok (ρ2, .rt d))) := hpost
    refine qc G2 ρ2 σ2 H2 _ e2.j ?_
    cases ec : fc ρ2 with
    | none => simp only [ec] at hpost'; exact hpost'.elim
    | some r =>
      cases r with
      | error x => simp only [ec] at hpost'; exact fun C dx H' z => hpost' C dx H' (XP.trans e2 z)
      | ok pr =>
        obtain ⟨ρ3, t⟩ := pr
        intro G3 t' H3 x3 ht
        subst ht
        have e3 := e2.trans x3
        cases t' with
        | false => simp only [ec] at hpost'; exact iteF (hpost' G3 σ2 H3 e3)
        | true =>
          simp only [ec] at hpost'
          refine iteT ⟨fun σ' H' => ∃ G4 ρ4, Ex X.K G ρ σ H G4 ρ4 σ' H' ∧ PostS X.K E G ρ σ H De (whileL fc b n ρ4), fun σ' H' ⟨G4, ρ4, x4, p4⟩ => ⟨n, Nat.lt_succ_self _, G4, ρ4, x4, p4⟩, ?_⟩
          refine qb G3 ρ3 σ2 H3 _ e3.j ?_
          cases eb : b ρ3 with
          | none => simp only [eb] at hpost'; exact hpost'.elim
          | some r =>
            cases r with
            | error x => simp only [eb] at hpost'; exact fun C dx H' z => hpost' C dx H' (XP.trans e3 z)
            | ok pr =>
              obtain ⟨ρ5, fl⟩ := pr
              cases fl with
              | nx => simp only [eb] at hpost'; exact fun G5 σ5 H5 x5 => ⟨G5, ρ5, e3.trans x5, hpost'⟩
              | ct => simp only [eb] at hpost'; exact fun G5 σ5 H5 x5 => ⟨G5, ρ5, e3.trans x5, hpost'⟩
              | bk => simp only [eb] at hpost'; exact fun G5 σ5 H5 x5 => hpost' G5 σ5 H5 (e3.trans x5)
              | rt d => simp only [eb] at hpost'; exact fun G5 σ5 v H5 x5 r => hpost' G5 σ5 v H5 (e3.trans x5) r
end
end HB
namespace HB
open PySem L2
def wipeE (ρ : En) : List Nat → En
  | [] => ρ
  | v :: vs => (wipeE ρ vs).set v .no
def restE (ρ0 ρ : En) : List Nat → En
  | [] => ρ
  | v :: vs => (restE ρ0 ρ vs).set v (ρ0.getD v .no)
def noOwn (ρ : En) : List Nat → Bool
  | [] => true
  | v :: vs => match ρ[v]? with
    | some (.own _) => false
    | some (.box _) => false
    | _ => noOwn ρ vs
theorem wipeE_len (ρ : En) : ∀ vs, (wipeE ρ vs).length = ρ.length
  | [] => rfl
  | v :: vs => by unfold wipeE; rw [List.length_set, wipeE_len ρ vs]
theorem restE_len (ρ0 ρ : En) : ∀ vs, (restE ρ0 ρ vs).length = ρ.length
  | [] => rfl
  | v :: vs => by unfold restE; rw [List.length_set, restE_len ρ0 ρ vs]
theorem wipeE_get {ρ : En} {k : Nat} {s : Sl} : ∀ {vs : List Nat}, (wipeE ρ vs)[k]? = some s → s = .no ∨ (k ∉ vs ∧ ρ[k]? = some s)
  | [], h => .inr ⟨by simp, h⟩
  | v :: vs, h => by
    unfold wipeE at h
    rcases getElem?_set_cases h with ⟨_, z⟩ | ⟨z, h'⟩
    · exact .inl z
    · rcases wipeE_get h' with z2 | ⟨z2, z3⟩
      · exact .inl z2
      · exact .inr ⟨by simp only [List.mem_cons, not_or]; exact ⟨z, z2⟩, z3⟩
theorem restE_get {ρ0 ρ : En} {k : Nat} {s : Sl} : ∀ {vs : List Nat}, (restE ρ0 ρ vs)[k]? = some s → (k ∈ vs ∧ s = ρ0.getD k .no) ∨ (k ∉ vs ∧ ρ[k]? = some s)
  | [], h => .inr ⟨by simp, h⟩
  | v :: vs, h => by
    unfold restE at h
    rcases getElem?_set_cases h with ⟨z1, z⟩ | ⟨z, h'⟩
    · exact .inl ⟨by rw [z1]; exact List.mem_cons_self, by rw [z, z1]⟩
    · rcases restE_get h' with ⟨z2, z3⟩ | ⟨z2, z3⟩
      · exact .inl ⟨List.mem_cons_of_mem _ z2, z3⟩
      · exact .inr ⟨by simp only [List.mem_cons, not_or]; exact ⟨z, z2⟩, z3⟩
theorem noOwn_at {ρ : En} {k : Nat} {s : Sl} {ds : List D} (hl : s.ls = some ds) : ∀ {vs : List Nat}, noOwn ρ vs = true → k ∈ vs → ρ[k]? ≠ some s
  | [], _, h => by cases h
  | v :: vs, h, hk => by
    unfold noOwn at h
    rcases List.mem_cons.mp hk with e | hk
    · subst e
      intro z
      rw [z] at h
      cases s with
      | no => cases hl
      | pur d => cases hl
      | own es => cases h
      | box es => cases h
    · refine noOwn_at hl (vs := vs) ?_ hk
      split at h
      · cases h
      · cases h
      · exact h
section
variable {K : PySem.W.Frag} {G H G' H' : Hp} {ρ ρ' : En} {σ σ' : St}
theorem J.wipe (j : J K G ρ σ H) (vs : List Nat) : J K G (wipeE ρ vs) (wipe σ vs) H where
  sub := j.sub
  len := by rw [wipeE_len, wipe_length]; exact j.len
  pur := fun i d h => by
    rcases wipeE_get h with z | ⟨z, h'⟩
    · cases z
    · rw [wipe_out z]; exact j.pur i d h'
  own := fun i s ds h hl => by
    rcases wipeE_get h with z | ⟨z, h'⟩
    · subst z; cases hl
    · rw [wipe_out z]; exact j.own i s ds h' hl
  dis := fun i k s t ds es b h1 l1 h2 l2 h3 h4 => by
    rcases wipeE_get h1 with z | ⟨z, h1'⟩
    · subst z; cases l1
    · rcases wipeE_get h2 with z2 | ⟨z2, h2'⟩
      · subst z2; cases l2
      · rw [wipe_out z] at h3
        rw [wipe_out z2] at h4
        exact j.dis i k s t ds es b h1' l1 h2' l2 h3 h4
theorem wipe_ownd {vs : List Nat} {b : Addr} (h : Ownd (wipeE ρ vs) (wipe σ vs) b) : Ownd ρ σ b := by
  obtain ⟨i, s, ds, h1, hl, h2⟩ := h
  rcases wipeE_get h1 with z | ⟨z, h1'⟩
  · subst z; cases hl
  · rw [wipe_out z] at h2
    exact ⟨i, s, ds, h1', hl, h2⟩
theorem Ex.wiped (e : Ex K G ρ σ H G' ρ' σ' H') (vs : List Nat) : Ex K G ρ σ H G' (wipeE ρ' vs) (L2.wipe σ' vs) H' :=
  ⟨e.j.wipe vs, e.g, e.new, e.kept, fun b hb => e.ow b (wipe_ownd hb), e.dom, fun i ds h => by
    rcases wipeE_get h with z | ⟨z, h'⟩
    · cases z
    · obtain ⟨w1, w2⟩ := e.bx i ds h'
      exact ⟨w1, by rw [wipe_out z]; exact w2⟩⟩
theorem wipe_ext {vs : List Nat} (h : Sets vs σ σ') : wipe σ' vs = wipe σ vs := by
  have key : ∀ (us : List Nat) (k : Nat) (τ : St), k < τ.length → (k ∈ us → (wipe τ us)[k]? = some none) := by
    intro us
    induction us with
    | nil => intro k τ _ hk; cases hk
    | cons u us ih =>
      intro k τ hl hk
      unfold L2.wipe
      by_cases hu : k = u
      · subst hu
        exact List.getElem?_set_self (by rw [wipe_length]; exact hl)
      · rw [List.getElem?_set_ne (Ne.symm hu)]
        exact ih k τ hl ((List.mem_cons.mp hk).resolve_left hu)
  apply List.ext_getElem?
  intro k
  by_cases hk : k ∈ vs
  · by_cases hl : k < σ.length
    · rw [key vs k σ hl hk, key vs k σ' (by rw [h.1]; exact hl) hk]
    · rw [List.getElem?_eq_none (by rw [wipe_length, h.1]; omega), List.getElem?_eq_none (by rw [wipe_length]; omega)]
  · rw [wipe_out hk, wipe_out hk]
    exact h.2 k hk
theorem rest_ownd {vs : List Nat} (no : noOwn ρ vs = true) {b : Addr} (h : Ownd (restE ρ ρ' vs) σ b) : Ownd ρ' (wipe σ vs) b := by
  obtain ⟨i, s0, ds, h1, hl, h2⟩ := h
  rcases restE_get h1 with ⟨z, h1'⟩ | ⟨z, h1'⟩
  · exfalso
    rw [List.getD_eq_getElem?_getD] at h1'
    cases q : ρ[i]? with
    | none => rw [q] at h1'; subst h1'; cases hl
    | some s =>
      rw [q] at h1'
      have e1 : s = s0 := h1'.symm
      subst e1
      exact noOwn_at hl no z q
  · exact ⟨i, s0, ds, h1', hl, by rw [wipe_out z]; exact h2⟩
theorem rest_out {vs : List Nat} (no : noOwn ρ vs = true) {m : Nat} {s0 : Sl} {fs : List D} (hm : (restE ρ ρ' vs)[m]? = some s0) (hl : s0.ls = some fs) : m ∉ vs ∧ ρ'[m]? = some s0 := by
  rcases restE_get hm with ⟨z, h'⟩ | z
  · exfalso
    rw [List.getD_eq_getElem?_getD] at h'
    cases q : ρ[m]? with
    | none => rw [q] at h'; subst h'; cases hl
    | some s =>
      rw [q] at h'
      have e1 : s = s0 := h'.symm
      subst e1
      exact noOwn_at hl no z q
  · exact z
/-- a thing of the block's own is changed -/
theorem Ex.poke {G1 H1 : Hp} {ρ1 : En} {σ1 : St} (e : Ex K G1 ρ1 σ1 H1 G ρ σ H) {p : Addr} {o : HO} (h1 : H1 p = none) (h2 : G p = none) (no : ¬ Ownd ρ σ p) : Ex K G1 ρ1 σ1 H1 G ρ σ (upd H p o) := by
  refine ⟨⟨fun b x q => ?_, e.j.len, e.j.pur, fun i s ds q hl => ?_, e.j.dis⟩, e.g, e.new, fun b x q n => ?_, e.ow, fun b hb => ?_, e.bx⟩
  · rw [upd_ne (ne_of_none q h2)]
    exact e.j.sub _ _ q
  · obtain ⟨a, vs, q1, q2, q3, q4⟩ := e.j.own i s ds q hl
    have ne : a ≠ p := fun z => by
      subst z
      exact no ⟨i, s, ds, q, hl, q1⟩
    exact ⟨a, vs, q1, by rw [upd_ne ne]; exact q2, q3, q4⟩
  · rw [upd_ne (ne_of_none q h1)]
    exact e.kept b x q n
  · by_cases z : b = p
    · subst z; exact h1
    · rw [upd_ne z] at hb
      exact e.dom b hb
/-- out of the block -/
theorem Ex.rest {vs : List Nat} (j : J K G ρ σ H) (no : noOwn ρ vs = true) (e : Ex K G (wipeE ρ vs) (wipe σ vs) H G' ρ' (wipe σ vs) H') : Ex K G ρ σ H G' (restE ρ ρ' vs) σ H' := by
  refine ⟨⟨e.j.sub, ?_, fun i d h => ?_, fun i s0 ds h hl => ?_, fun i k s0 t0 ds es b h1 l1 h2 l2 h3 h4 => ?_⟩, e.g, fun b hb => ?_, fun b o q n => e.kept b o q fun z => n (wipe_ownd z), fun b hb => ?_, e.dom, fun i ds h => ?_⟩
  · rw [restE_len, e.j.len, wipe_length]
  · rcases restE_get h with ⟨z, h'⟩ | ⟨z, h'⟩
    · rw [List.getD_eq_getElem?_getD] at h'
      cases q : ρ[i]? with
      | none => rw [q] at h'; cases h'
      | some s =>
        rw [q] at h'
        have e1 : s = .pur d := h'.symm
        subst e1
        obtain ⟨v, h1, h2⟩ := j.pur i d q
        exact ⟨v, h1, h2.mono e.g⟩
    · obtain ⟨v, h1, h2⟩ := e.j.pur i d h'
      rw [wipe_out z] at h1
      exact ⟨v, h1, h2⟩
  · obtain ⟨z, h'⟩ := rest_out no h hl
    obtain ⟨a, vs', h1, h2⟩ := e.j.own i s0 ds h' hl
    rw [wipe_out z] at h1
    exact ⟨a, vs', h1, h2⟩
  · obtain ⟨z1, h1'⟩ := rest_out no h1 l1
    obtain ⟨z2, h2'⟩ := rest_out no h2 l2
    exact e.j.dis i k s0 t0 ds es b h1' l1 h2' l2 (by rw [wipe_out z1]; exact h3) (by rw [wipe_out z2]; exact h4)
  · rcases e.new b hb with z | z | z
    · exact .inl z
    · exact .inr (.inl z)
    · exact .inr (.inr (wipe_ownd z))
  · rcases e.ow b (rest_ownd no hb) with z | z
    · exact .inl (wipe_ownd z)
    · exact .inr z
  · obtain ⟨z, h'⟩ := rest_out no h rfl
    obtain ⟨⟨es, w1⟩, w2⟩ := e.bx i ds h'
    rcases wipeE_get w1 with w3 | ⟨w3, w4⟩
    · cases w3
    · exact ⟨⟨es, w4⟩, rfl⟩
end
/-- turn by turn, as things stand -/
def lcI (vs : List Nat) (src : Src) (g : D → En → Option En) (test : Mo Bool) (elt : Mo D) : Nat → Nat → En → Option (En × List D)
  | 0, _, _ => none
  | n + 1, i, ρ => match src ρ with
    | none => none
    | some items => match items[i]? with
      | none => some (ρ, [])
      | some d => match g d ρ with
        | none => none
        | some ρ1 => match test ρ1 with
          | some (.ok (ρ2, true)) => match elt ρ2 with
            | some (.ok (ρ3, y)) => match lcI vs src g test elt n (i + 1) (wipeE ρ3 vs) with
              | some (ρ4, ys) => some (ρ4, y :: ys)
              | none => none
            | _ => none
          | some (.ok (ρ2, false)) => lcI vs src g test elt n (i + 1) (wipeE ρ2 vs)
          | _ => none
def mBlk (vs : List Nat) (src : Mo Src) (body : Src → En → Option (En × List D)) : Mo (List D) := mBind src fun s ρ => match noOwn ρ vs with
  | false => none
  | true => match body s (wipeE ρ vs) with
    | none => none
    | some (ρ', ys) => some (.ok (restE ρ ρ' vs, ys))
def tE (K : PySem.W.Frag) (E : XK) (f : Mo D) : TE := fun σ H Q => ∃ G ρ, J K G ρ σ H ∧ Post K E (Rp K) G ρ σ H Q (f ρ)
def tT (K : PySem.W.Frag) (E : XK) (f : Mo Bool) : TT := fun σ H Q => ∃ G ρ, J K G ρ σ H ∧ Post K E (fun _ b c => b = c) G ρ σ H Q (f ρ)
def tG (K : PySem.W.Frag) (g : D → En → Option En) (ws : List Nat) : TG := fun v σ H Q => ∃ G ρ d ρ', J K G ρ σ H ∧ Rp K G v d ∧ g d ρ = some ρ' ∧ ∀ σ', Ex K G ρ σ H G ρ' σ' H → Sets ws σ σ' → Q σ' H
section
variable {X : Cx} {E : XK}
theorem EV.pe {e : Expr} {f : Mo D} (h : EV X E e f) : PE X e (tE X.K E f) := by
  obtain ⟨t, p, q⟩ := h
  exact ⟨fun pins s σ H Q I ⟨G, ρ, j, z⟩ => p.run pins s σ H Q I (q G ρ σ H Q j z)⟩
theorem ET.pt {e : Expr} {f : Mo Bool} (h : ET X E e f) : PT X e (tT X.K E f) := by
  obtain ⟨t, p, q⟩ := h
  exact ⟨fun pins s σ H Q I ⟨G, ρ, j, z⟩ => p.run pins s σ H Q I (q G ρ σ H Q j z)⟩
theorem GV.pg {e : Expr} {g : D → En → Option En} {ws : List Nat} (h : GV X e g ws) : PG X e (tG X.K g ws) := by
  obtain ⟨t, p, q⟩ := h
  exact ⟨fun pins s σ H v u Q I r ⟨G, ρ, d, ρ', j, z, eg, k⟩ => p.run pins s σ H v u Q I r (q G ρ σ H Q d v ρ' j z eg k)⟩
/-- the tests of a clause -/
def EIf (X : Cx) (E : XK) (ifs : List Expr) (f : Mo Bool) : Prop := PTs X ifs (tT X.K E f)
theorem eif_nil : EIf X E [] (mRet true) := ⟨fun pins s σ H Q I ⟨G, ρ, j, z⟩ => pts_nil.run pins s σ H Q I (z G true H j.refl rfl)⟩
theorem eif_one {c : Expr} {f : Mo Bool} (h : ET X E c f) : EIf X E [c] f := pts_one h.pt
theorem lc_sem {wi : TI} {src : Mo Src} {js vs : List Nat} {g : D → En → Option En} {ws : List Nat} {test : Mo Bool} {elt : Mo D} (fuel : Nat) (hf : fuel ≤ 1000000)
    (qi : ∀ G ρ σ H R, J X.K G ρ σ H → PostI X.K E js G ρ σ H R (src ρ) → wi σ H R) (hjs : ∀ j ∈ js, j ∉ vs) (hws : ∀ k ∈ ws, k ∈ vs) :
    ∀ G ρ σ H Q, J X.K G ρ σ H → PostN X.K E G ρ σ H Q (mBlk vs src (fun s ρ => lcI vs s g test elt fuel 0 ρ) ρ) → tLc wi (tG X.K g ws) (tT X.K E0 test) (tE X.K E0 elt) vs σ H Q := by
  intro G ρ σ H Q j h
  refine qi G ρ σ H _ j ?_
  unfold mBlk mBind at h
  cases hs : src ρ with
  | none => rw [hs] at h; exact h
  | some r =>
    rw [hs] at h
    cases r with
    | error x => exact h
    | ok pr =>
      obtain ⟨ρ1, s⟩ := pr
      intro G1 H1 Jt e1 hit Dd hD
      have h' : PostN X.K E G ρ σ H Q (match noOwn ρ1 vs with
        | false => none
        | true => match lcI vs s g test elt fuel 0 (wipeE ρ1 vs) with
          | none => none
          | some (ρ', ys) => some (.ok (restE ρ1 ρ' vs, ys))) := h
      cases hno : noOwn ρ1 vs with
      | false => rw [hno] at h'; exact h'.elim
      | true =>
        simp only [hno] at h'
        cases hl : lcI vs s g test elt fuel 0 (wipeE ρ1 vs) with
        | none => simp only [hl] at h'; exact h'.elim
        | some out =>
          obtain ⟨ρE, ys⟩ := out
          simp only [hl] at h'
          have shD : Same H1 (upd H1 Dd (.lst [])) := same_upd hD
          have hGD : G1 Dd = none := e1.j.sub.free hD
          have x0 : Ex X.K G1 (wipeE ρ1 vs) (wipe σ vs) H1 G1 (wipeE ρ1 vs) (wipe σ vs) (upd H1 Dd (.lst [])) := new_list (e1.j.wipe vs) hD .nil
          refine ⟨fun i m H2 => ∃ (G2 : Hp) (ρ2 : En) (vacc : List V) (dacc rest : List D) (n : Nat), m = n ∧ n + i = fuel ∧ Ex X.K G1 (wipeE ρ1 vs) (wipe σ vs) H1 G2 ρ2 (wipe σ vs) H2 ∧ G2 Dd = none ∧ ¬ Ownd ρ2 (wipe σ vs) Dd ∧ H2 Dd = some (.lst vacc) ∧ RpAll X.K G2 vacc dacc ∧ dacc.length ≤ i ∧ lcI vs s g test elt n i ρ2 = some (ρE, rest) ∧ dacc ++ rest = ys,
            ⟨fuel, G1, wipeE ρ1 vs, [], [], ys, fuel, rfl, by omega, x0, hGD, (e1.j.wipe vs).nown hD, upd_same, .nil, Nat.le_refl _, hl, rfl⟩, ?_⟩
          rintro i m H2 ⟨G2, ρ2, vacc, dacc, rest, n, rfl, hfu, e2, hG2, hno2, hH2, racc, hla, hlc, hys⟩
          cases m with
          | zero => cases hlc
          | succ n =>
            unfold lcI at hlc
            cases hsrc : s ρ2 with
            | none => rw [hsrc] at hlc; cases hlc
            | some items =>
              rw [hsrc] at hlc
              obtain ⟨hgo, hstop⟩ := hit i G2 ρ2 (wipe σ vs) H2 items e2.g e2.j (fun jx hjx => wipe_out (hjs jx hjx)) hsrc
              cases hitem : items[i]? with
              | none =>
                simp only [hitem] at hlc
                cases hlc
                rw [List.append_nil] at hys
                subst hys
                have hle : items.length ≤ i := List.getElem?_eq_none_iff.mp hitem
                refine .inl ⟨hstop hle, ?_⟩
                have xr := Ex.rest e1.j hno e2
                refine h' G2 (.ref Dd) H2 (e1.trans xr) ⟨Dd, vacc, rfl, e1.dom _ hD, hG2, hH2, ?_, racc⟩
                exact fun z => hno2 (rest_ownd hno z)
              | some d =>
                obtain ⟨go, yld⟩ := hgo d hitem
                simp only [hitem] at hlc
                refine .inr ⟨go, fun H6 => ∃ (G6 : Hp) (ρ6 : En) (vacc' : List V) (dacc' rest' : List D), Ex X.K G1 (wipeE ρ1 vs) (wipe σ vs) H1 G6 ρ6 (wipe σ vs) H6 ∧ G6 Dd = none ∧ ¬ Ownd ρ6 (wipe σ vs) Dd ∧ H6 Dd = some (.lst vacc') ∧ RpAll X.K G6 vacc' dacc' ∧ dacc'.length ≤ i + 1 ∧ lcI vs s g test elt n (i + 1) ρ6 = some (ρE, rest') ∧ dacc' ++ rest' = ys,
                  fun H6 ⟨G6, ρ6, va, da, re, k1, k2, k3, k4, k5, k6, k7, k8⟩ => ⟨n, Nat.lt_succ_self _, G6, ρ6, va, da, re, n, rfl, by omega, k1, k2, k3, k4, k5, k6, k7, k8⟩, fun x H3 y => ?_⟩
                obtain ⟨G3, px, rx⟩ := yld x H3 y
                have e3 : Ex X.K G2 ρ2 (wipe σ vs) H2 G3 ρ2 (wipe σ vs) H3 := e2.j.ex px
                cases eg : g d ρ2 with
                | none => simp only [eg] at hlc; cases hlc
                | some ρ3 =>
                  simp only [eg] at hlc
                  refine ⟨G3, ρ2, d, ρ3, e3.j, rx, eg, fun σ4 x4 s4 => ⟨?_, G3, ρ3, x4.j, ?_⟩⟩
                  · have s5 : Sets vs (wipe σ vs) σ4 := ⟨s4.1, fun k hk => s4.2 k fun z => hk (hws k z)⟩
                    rw [wipe_ext s5]
                    exact wipe_ext ⟨wipe_length σ vs, fun k hk => wipe_out hk⟩
                  · have ew : wipe σ4 vs = wipe σ vs := by
                      have s5 : Sets vs (wipe σ vs) σ4 := ⟨s4.1, fun k hk => s4.2 k fun z => hk (hws k z)⟩
                      rw [wipe_ext s5]
                      exact wipe_ext ⟨wipe_length σ vs, fun k hk => wipe_out hk⟩
                    have e4 := e3.trans x4
                    cases et : test ρ3 with
                    | none => simp only [et] at hlc; cases hlc
                    | some rt =>
                      cases rt with
                      | error x => simp only [et] at hlc; cases hlc
                      | ok pt =>
                        obtain ⟨ρ5, b⟩ := pt
                        intro G5 b' H5 x5 hb
                        subst hb
                        have e5 := e4.trans x5
                        have out : ∀ {G7 : Hp} {ρ7 : En} {H7 : Hp}, Ex X.K G2 ρ2 (wipe σ vs) H2 G7 ρ7 σ4 H7 → Ex X.K G1 (wipeE ρ1 vs) (wipe σ vs) H1 G7 (wipeE ρ7 vs) (wipe σ vs) H7 ∧ G7 Dd = none ∧ ¬ Ownd (wipeE ρ7 vs) (wipe σ vs) Dd ∧ H7 Dd = some (.lst vacc) := by
                          intro G7 ρ7 H7 e7
                          have w7 := (e2.trans e7).wiped vs
                          rw [ew] at w7
                          refine ⟨w7, ?_, fun z => ?_, e7.kept Dd _ hH2 hno2⟩
                          · cases q : G7 Dd with
                            | none => rfl
                            | some o =>
                              rcases e7.new Dd (by rw [q]; simp) with z | z | z
                              · exact absurd hG2 z
                              · rw [hH2] at z; cases z
                              · exact absurd z hno2
                          · have w8 := e7.wiped vs
                            rw [ew] at w8
                            rcases w8.ow Dd z with z | z
                            · exact hno2 z
                            · rw [hH2] at z; cases z
                        cases b' with
                        | false =>
                          simp only [et] at hlc
                          obtain ⟨o1, o2, o3, o4⟩ := out e5
                          exact iteF ⟨G5, _, vacc, dacc, rest, o1, o2, o3, o4, racc.mono e5.g, by omega, hlc, hys⟩
                        | true =>
                          simp only [et] at hlc
                          refine iteT ⟨G5, ρ5, e5.j, ?_⟩
                          cases ee : elt ρ5 with
                          | none => simp only [ee] at hlc; cases hlc
                          | some re =>
                            cases re with
                            | error x => simp only [ee] at hlc; cases hlc
                            | ok pe =>
                              obtain ⟨ρ7, yd⟩ := pe
                              intro G7 yv H7 x7 ry
                              have e7 := e5.trans x7
                              simp only [ee] at hlc
                              cases er : lcI vs s g test elt n (i + 1) (wipeE ρ7 vs) with
                              | none => simp only [er] at hlc; cases hlc
                              | some ro =>
                                obtain ⟨ρ8, rest'⟩ := ro
                                simp only [er] at hlc
                                cases hlc
                                obtain ⟨o1, o2, o3, o4⟩ := out e7
                                refine ⟨vacc, o4, ?_, G7, _, vacc ++ [yv], dacc ++ [yd], rest', o1.poke hD o2 o3, o2, o3, upd_same, (racc.mono e7.g).append (.cons ry .nil), ?_, er, ?_⟩
                                · rw [racc.length]
                                  exact Nat.lt_of_lt_of_le (show dacc.length < 1000000 by omega) (by decide)
                                · simp only [List.length_append, List.length_singleton]
                                  omega
                                · rw [List.append_assoc]
                                  exact hys
/-- for sources that tell the same: by the list -/
def lcL (vs : List Nat) (g : D → En → Option En) (test : Mo Bool) (elt : Mo D) : List D → En → Option (En × List D)
  | [], ρ => some (ρ, [])
  | d :: ds, ρ => match g d ρ with
    | none => none
    | some ρ1 => match test ρ1 with
      | some (.ok (ρ2, true)) => match elt ρ2 with
        | some (.ok (ρ3, y)) => match lcL vs g test elt ds (wipeE ρ3 vs) with
          | some (ρ4, ys) => some (ρ4, y :: ys)
          | none => none
        | _ => none
      | some (.ok (ρ2, false)) => lcL vs g test elt ds (wipeE ρ2 vs)
      | _ => none
theorem lcI_of {vs : List Nat} {src : Src} {g : D → En → Option En} {test : Mo Bool} {elt : Mo D} {items : List D} (hc : ∀ ρ, src ρ = some items) : ∀ (n i : Nat) (ds : List D) (ρ : En) (r : En × List D), items.drop i = ds → ds.length < n → lcL vs g test elt ds ρ = some r → lcI vs src g test elt n i ρ = some r
  | 0, _, _, _, _, _, h, _ => absurd h (Nat.not_lt_zero _)
  | n + 1, i, [], ρ, r, hd, _, h => by
    unfold lcI
    rw [hc ρ]
    have e : items[i]? = none := by
      rw [List.getElem?_eq_none_iff]
      exact List.drop_eq_nil_iff.mp hd
    simp only [e]
    exact h
  | n + 1, i, d :: ds, ρ, r, hd, hl, h => by
    unfold lcI
    rw [hc ρ]
    have e : items[i]? = some d := by
      have e2 := congrArg (·[0]?) hd
      simpa using e2
    have e3 : items.drop (i + 1) = ds := by
      have e4 : (items.drop i).drop 1 = ds := by rw [hd]; rfl
      rw [List.drop_drop] at e4
      exact e4
    have hl2 : ds.length < n := by
      rw [List.length_cons] at hl
      omega
    simp only [e]
    unfold lcL at h
    cases eg : g d ρ with
    | none => simp only [eg] at h; cases h
    | some ρ1 =>
      simp only [eg] at h ⊢
      cases et : test ρ1 with
      | none => simp only [et] at h; cases h
      | some rt =>
        cases rt with
        | error x => simp only [et] at h; cases h
        | ok pt =>
          obtain ⟨ρ2, b⟩ := pt
          cases b with
          | false =>
            simp only [et] at h ⊢
            exact lcI_of hc n (i + 1) ds _ r e3 hl2 h
          | true =>
            simp only [et] at h ⊢
            cases ee : elt ρ2 with
            | none => simp only [ee] at h; cases h
            | some re =>
              cases re with
              | error x => simp only [ee] at h; cases h
              | ok pe =>
                obtain ⟨ρ3, y⟩ := pe
                simp only [ee] at h ⊢
                cases er : lcL vs g test elt ds (wipeE ρ3 vs) with
                | none => simp only [er] at h; cases h
                | some ro =>
                  simp only [er] at h
                  rw [lcI_of hc n (i + 1) ds _ ro e3 hl2 er]
                  exact h
def lcBody (vs : List Nat) (g : D → En → Option En) (test : Mo Bool) (elt : Mo D) : Src → En → Option (En × List D) := fun s ρ => match s [] with
  | none => none
  | some items => match Nat.blt items.length 1000000 with
    | false => none
    | true => lcL vs g test elt items ρ
/-- a comprehension -/
def LC (X : Cx) (E : XK) (elt tg iter : Expr) (ifs : List Expr) (scope : Scope) (f : Mo (List D)) : Prop := ∃ wi g tt te own, PI X tg iter wi ∧ BlkOk X.N X.env.scope scope own ∧
  (∀ (s : Shared) (H : Hp) (C : Addr) (cl : List (Str × Addr)) (fp : List Addr), PG (X.blk s H scope (compEnvC scope cl C X.env) fp) tg g) ∧ (∀ (s : Shared) (H : Hp) (C : Addr) (cl : List (Str × Addr)) (fp : List Addr), PTs (X.blk s H scope (compEnvC scope cl C X.env) fp) ifs tt) ∧
  (∀ (s : Shared) (H : Hp) (C : Addr) (cl : List (Str × Addr)) (fp : List Addr), PE (X.blk s H scope (compEnvC scope cl C X.env) fp) elt te) ∧ (∀ x, foldedSetIterable iter X.env x = pure x) ∧
  ∀ G ρ σ H Q, J X.K G ρ σ H → PostN X.K E G ρ σ H Q (f ρ) → tLc wi g tt te (own.map (·.2)) σ H Q
theorem lc_I {elt tg iter : Expr} {ifs : List Expr} {scope : Scope} {own : List (Str × Nat)} {src : Mo Src} {js ws : List Nat} {g : D → En → Option En} {test : Mo Bool} {fe : Mo D} (hi : IV X E tg iter src js) (ok : BlkOk X.N X.env.scope scope own)
    (hg : ∀ (s : Shared) (H : Hp) (C : Addr) (cl : List (Str × Addr)) (fp : List Addr), GV (X.blk s H scope (compEnvC scope cl C X.env) fp) tg g ws) (ht : ∀ (s : Shared) (H : Hp) (C : Addr) (cl : List (Str × Addr)) (fp : List Addr), EIf (X.blk s H scope (compEnvC scope cl C X.env) fp) E0 ifs test)
    (he : ∀ (s : Shared) (H : Hp) (C : Addr) (cl : List (Str × Addr)) (fp : List Addr), EV (X.blk s H scope (compEnvC scope cl C X.env) fp) E0 elt fe) (hjs : ∀ j ∈ js, j ∉ own.map (·.2) := by decide) (hws : ∀ k ∈ ws, k ∈ own.map (·.2) := by decide) (hs : ∀ x, foldedSetIterable iter X.env x = pure x := by intro _; rfl) :
    LC X E elt tg iter ifs scope (mBlk (own.map (·.2)) src fun s ρ => lcI (own.map (·.2)) s g test fe 1000000 0 ρ) := by
  obtain ⟨wi, pi, qi⟩ := hi
  exact ⟨wi, tG X.K g ws, tT X.K E0 test, tE X.K E0 fe, own, pi, ok, fun s H C cl fp => (hg s H C cl fp).pg, ht, fun s H C cl fp => (he s H C cl fp).pe, hs, lc_sem 1000000 (Nat.le_refl _) qi hjs hws⟩
theorem LC.by {elt tg iter : Expr} {ifs : List Expr} {scope : Scope} {f f' : Mo (List D)} (h : LC X E elt tg iter ifs scope f) (k : ∀ ρ r, f' ρ = some r → f ρ = some r) : LC X E elt tg iter ifs scope f' := by
  obtain ⟨wi, g, tt, te, own, h1, h2, h3, h4, h5, h6, q⟩ := h
  refine ⟨wi, g, tt, te, own, h1, h2, h3, h4, h5, h6, fun G ρ σ H Q j h => q G ρ σ H Q j ?_⟩
  cases e : f' ρ with
  | none => rw [e] at h; exact h.elim
  | some r => rw [k ρ r e]; rw [e] at h; exact h
theorem LC.en {elt tg iter : Expr} {ifs : List Expr} {scope : Scope} {f : Mo (List D)} {pos : Pos} (h : LC X E elt tg iter ifs scope f) (hc : X.calm = true) (hN : X.N.Nodup) : EN X E (.ListComp elt [⟨tg, iter, ifs, 0⟩] scope pos) f := by
  obtain ⟨wi, g, tt, te, own, h1, h2, h3, h4, h5, h6, q⟩ := h
  exact ⟨_, pe_lc hc hN h1 h2 h3 h4 h5 h6, q⟩
theorem LC.set {elt tg iter : Expr} {ifs : List Expr} {scope : Scope} {f : Mo (List D)} {pos spos : Pos} {i : Nat} {y : Str} {py : Pos} (h : LC X E elt tg iter ifs scope f) (hc : X.calm = true) (hN : X.N.Nodup) (hsw : swapsWith (.ListComp elt [⟨tg, iter, ifs, 0⟩] scope pos) (some (.Name y py)) spos.line X.env = pure true)
    (hy : X.N[i]? = some y := by rfl) (hyl : X.env.scope.names.lookup y = some .local := by rfl) : SV X E (.Assign [.Name y py] (.ListComp elt [⟨tg, iter, ifs, 0⟩] scope pos) spos) (sSet i (mList f)) := by
  obtain ⟨wi, g, tt, te, own, h1, h2, h3, h4, h5, h6, q⟩ := h
  refine ⟨_, ps_setLc hc hN hy hyl hsw h1 h2 h3 h4 h5 h6, fun G ρ σ H De j h => q G ρ σ H _ j ?_⟩
  unfold sSet mList mBind at h
  cases hh : f ρ with
  | none => simp only [hh] at h; exact h
  | some r =>
    cases r with
    | error x => simp only [hh] at h; exact h
    | ok pr =>
      obtain ⟨ρ', ds⟩ := pr
      simp only [hh] at h
      intro G' v H' e r
      obtain ⟨a, vs, rfl, z1, z2, z3, no, z4⟩ := r
      have e2 := e.still z1 z2 z3 no
      exact h _ _ H' (e2.trans (Ex.set e2.j i (.lst upd_same (z4.mono (same_upd z2)))))
theorem LC.own {elt tg iter : Expr} {ifs : List Expr} {scope : Scope} {f : Mo (List D)} {pos spos : Pos} {i : Nat} {y : Str} {py : Pos} (h : LC X E elt tg iter ifs scope f) (hc : X.calm = true) (hN : X.N.Nodup) (hsw : swapsWith (.ListComp elt [⟨tg, iter, ifs, 0⟩] scope pos) (some (.Name y py)) spos.line X.env = pure true)
    (hy : X.N[i]? = some y := by rfl) (hyl : X.env.scope.names.lookup y = some .local := by rfl) : SV X E (.Assign [.Name y py] (.ListComp elt [⟨tg, iter, ifs, 0⟩] scope pos) spos) (sOwn i f) := by
  obtain ⟨wi, g, tt, te, own, h1, h2, h3, h4, h5, h6, q⟩ := h
  refine ⟨_, ps_setLc hc hN hy hyl hsw h1 h2 h3 h4 h5 h6, fun G ρ σ H De j h => q G ρ σ H _ j ?_⟩
  unfold sOwn mBind at h
  cases hh : f ρ with
  | none => simp only [hh] at h; exact h
  | some r =>
    cases r with
    | error x => simp only [hh] at h; exact h
    | ok pr =>
      obtain ⟨ρ', ds⟩ := pr
      simp only [hh] at h
      exact fun G' v H' e r => h G' _ H' (e.setOwn i r)
theorem EN.by {e : Expr} {f f' : Mo (List D)} (h : EN X E e f) (k : ∀ ρ r, f' ρ = some r → f ρ = some r) : EN X E e f' := by
  obtain ⟨t, p, q⟩ := h
  refine ⟨t, p, fun G ρ σ H Q j h => q G ρ σ H Q j ?_⟩
  cases e : f' ρ with
  | none => rw [e] at h; exact h.elim
  | some r => rw [k ρ r e]; rw [e] at h; exact h
theorem blk_by {vs : List Nat} {src : Mo Src} {g : D → En → Option En} {test : Mo Bool} {fe : Mo D} (hcs : ∀ ρ ρ' s, src ρ = some (.ok (ρ', s)) → Const s) : ∀ ρ r, mBlk vs src (lcBody vs g test fe) ρ = some r → mBlk vs src (fun s ρ => lcI vs s g test fe 1000000 0 ρ) ρ = some r := by
  intro ρ r h
  unfold mBlk mBind at h ⊢
  cases hs : src ρ with
  | none => simp only [hs] at h; cases h
  | some o =>
    cases o with
    | error x => simp only [hs] at h ⊢; exact h
    | ok p =>
      obtain ⟨ρ1, s⟩ := p
      have hcon := hcs ρ ρ1 s hs
      simp only [hs] at h ⊢
      cases hno : noOwn ρ1 vs with
      | false => simp only [hno] at h; cases h
      | true =>
        simp only [hno] at h ⊢
        unfold lcBody at h
        cases hi : s [] with
        | none => simp only [hi] at h; cases h
        | some items =>
          simp only [hi] at h
          cases hb : Nat.blt items.length 1000000 with
          | false => simp only [hb] at h; cases h
          | true =>
            simp only [hb] at h
            cases hl : lcL vs g test fe items (wipeE ρ1 vs) with
            | none => simp only [hl] at h; cases h
            | some ro =>
              simp only [hl] at h
              have hlt : items.length < 1000000 := by
                unfold Nat.blt at hb
                exact Nat.le_of_ble_eq_true hb
              rw [lcI_of (fun ρ => (hcon ρ).trans hi) 1000000 0 items _ ro (by simp) hlt hl]
              exact h
theorem lc_c {elt tg iter : Expr} {ifs : List Expr} {scope : Scope} {own : List (Str × Nat)} {src : Mo Src} {ws : List Nat} {g : D → En → Option En} {test : Mo Bool} {fe : Mo D} (hi : IV X E tg iter src []) (hcs : ∀ ρ ρ' s, src ρ = some (.ok (ρ', s)) → Const s) (ok : BlkOk X.N X.env.scope scope own)
    (hg : ∀ (s : Shared) (H : Hp) (C : Addr) (cl : List (Str × Addr)) (fp : List Addr), GV (X.blk s H scope (compEnvC scope cl C X.env) fp) tg g ws) (ht : ∀ (s : Shared) (H : Hp) (C : Addr) (cl : List (Str × Addr)) (fp : List Addr), EIf (X.blk s H scope (compEnvC scope cl C X.env) fp) E0 ifs test)
    (he : ∀ (s : Shared) (H : Hp) (C : Addr) (cl : List (Str × Addr)) (fp : List Addr), EV (X.blk s H scope (compEnvC scope cl C X.env) fp) E0 elt fe) (hws : ∀ k ∈ ws, k ∈ own.map (·.2) := by decide) (hs : ∀ x, foldedSetIterable iter X.env x = pure x := by intro _; rfl) :
    LC X E elt tg iter ifs scope (mBlk (own.map (·.2)) src (lcBody (own.map (·.2)) g test fe)) :=
  (lc_I hi ok hg ht he (fun _ z => nomatch z) hws hs).by (blk_by hcs)
/-- sources that tell the same -/
theorem const_seq {f : Mo D} : ∀ ρ ρ' s, mSeqS f ρ = some (.ok (ρ', s)) → Const s := by
  intro ρ ρ' s h
  unfold mSeqS mBind mLift at h
  cases e : f ρ with
  | none => simp only [e] at h; cases h
  | some o =>
    cases o with
    | error x => simp only [e] at h; cases h
    | ok p =>
      obtain ⟨ρ1, d⟩ := p
      simp only [e] at h
      cases hi : itemsD d with
      | none => simp only [hi, Option.map] at h; cases h
      | some ds =>
        simp only [hi, Option.map] at h
        cases h
        exact fun _ => rfl
theorem const_range1 {f : Mo (List D)} : ∀ ρ ρ' s, mRange range1D f ρ = some (.ok (ρ', s)) → Const s := by
  intro ρ ρ' s h
  unfold mRange mBind mLift at h
  cases e : f ρ with
  | none => simp only [e] at h; cases h
  | some o =>
    cases o with
    | error x => simp only [e] at h; cases h
    | ok p =>
      obtain ⟨ρ1, ds⟩ := p
      simp only [e] at h
      cases hi : range1D ds with
      | none => simp only [hi] at h; cases h
      | some src =>
        simp only [hi] at h
        cases h
        match ds, hi with
        | [.int j], hi =>
          obtain ⟨_, rfl⟩ := ite_some (show (if -1000000000 ≤ j ∧ j ≤ 1000000000 then some (constS (rangeD 0 j.toNat)) else none) = some s from hi)
          exact fun _ => rfl
end
end HB
namespace HB
open PySem L2
section
variable {X : Cx} {E : XK}
def isIntT : D → Option Bool
  | .bool _ => some true
  | .int _ => some true
  | .dict _ => none
  | _ => some false
def isBoolT : D → Option Bool
  | .bool _ => some true
  | .dict _ => none
  | _ => some false
def isStrT : D → Option Bool
  | .str _ => some true
  | .dict _ => none
  | _ => some false
def isTupT : D → Option Bool
  | .tuple _ => some true
  | .dict _ => none
  | _ => some false
def isSeqT : D → Option Bool
  | .list _ => some true
  | .tuple _ => some true
  | .dict _ => none
  | _ => some false
def IsTab (T : String) (tb : D → Option Bool) : Prop := ∀ d b, tb d = some b → ∃ n, tyD d = some n ∧ kitB n T = some b
theorem tab_int : IsTab "int" isIntT := by
  intro d b h
  cases d <;> first
    | (cases h; exact ⟨_, rfl, by decide +kernel⟩)
    | (cases h; done)
theorem tab_bool : IsTab "bool" isBoolT := by
  intro d b h
  cases d <;> first
    | (cases h; exact ⟨_, rfl, by decide +kernel⟩)
    | (cases h; done)
theorem tab_str : IsTab "str" isStrT := by
  intro d b h
  cases d <;> first
    | (cases h; exact ⟨_, rfl, by decide +kernel⟩)
    | (cases h; done)
theorem tab_tup : IsTab "tuple" isTupT := by
  intro d b h
  cases d <;> first
    | (cases h; exact ⟨_, rfl, by decide +kernel⟩)
    | (cases h; done)
def mIsi (tb : D → Option Bool) (f : Mo D) : Mo D := mBind f fun d => mLift ((tb d).map .bool)
theorem ev_isi {T : String} {x : Str} {tb : D → Option Bool} {e : Expr} {f : Mo D} {p p2 pos : Pos} (ht : IsTab T tb) (h : EV X E e f) (hm : X.mg "isinstance" = none) (hmT : X.mg x = none) (hvT : bootBuiltins x = some (.type T)) (hn : x ≠ "__name__" := by decide) (hdb : (x == ("__debug__" : Str)) = false := by decide)
    (hg : Gl X "isinstance" := by rfl) (hgT : Gl X x := by rfl) (he : starEach [e, .Name x p2] X.env = (false, eval e X.env) :: starEach [.Name x p2] X.env := by rfl) (hpl : (backTo pos (starEach [.Name x p2] X.env)).any (·.1) = false := by rfl) : EV X E (.Call (.Name "isinstance" p) [e, .Name x p2] [] pos) (mIsi tb f) := by
  obtain ⟨t, pt, q⟩ := h
  refine ⟨_, pe_callB call_isi hg hm (by decide +kernel) (pa_cons pt (pa_cons (pe_bltn (v := .ty T) hgT hmT hvT rfl hn hdb) pa_nil) he) (by decide) (by decide) he hpl, fun G ρ σ H Q j h => q G ρ σ H _ j (Post.imp h fun G1 ρ1 v H1 d e1 r1 h1 => ?_)⟩
  obtain ⟨c, hc, k⟩ := Post.lift (ρ' := ρ1) h1
  cases hb : tb d with
  | none => rw [hb] at hc; cases hc
  | some b =>
    rw [hb] at hc
    cases hc
    obtain ⟨n, h2, h3⟩ := ht d b hb
    exact ⟨v, .ty T, .type n, .type T, b, rfl, .ty T, r1.ty e1.j.sub h2, kit_ty h3, k G1 _ H1 e1.j.refl (.bl b)⟩
/-- isinstance(x, (list, tuple)) -/
theorem ev_isiLT {e : Expr} {f : Mo D} {p p2 p3 p4 pos : Pos} {kk : Nat} (h : EV X E e f) (hm : X.mg "isinstance" = none) (hmL : X.mg "list" = none) (hmT : X.mg "tuple" = none)
    (hg : Gl X "isinstance" := by rfl) (hgL : Gl X "list" := by rfl) (hgT : Gl X "tuple" := by rfl) (he : starEach [e, .Tuple [.Name "list" p2, .Name "tuple" p3] kk p4] X.env = (false, eval e X.env) :: starEach [.Tuple [.Name "list" p2, .Name "tuple" p3] kk p4] X.env := by rfl) (hpl : (backTo pos (starEach [.Tuple [.Name "list" p2, .Name "tuple" p3] kk p4] X.env)).any (·.1) = false := by rfl) :
    EV X E (.Call (.Name "isinstance" p) [e, .Tuple [.Name "list" p2, .Name "tuple" p3] kk p4] [] pos) (mIsi isSeqT f) := by
  obtain ⟨t, pt, q⟩ := h
  refine ⟨_, pe_callB call_isiT hg hm (by decide +kernel) (pa_cons pt (pa_cons (pe_tup (pa_cons (pe_bltn (v := .ty "list") hgL hmL (by decide +kernel) rfl) (pa_cons (pe_bltn (v := .ty "tuple") hgT hmT (by decide +kernel) rfl) pa_nil))) pa_nil) he) (by decide) (by decide) he hpl, fun G ρ σ H Q j h => q G ρ σ H _ j (Post.imp h fun G1 ρ1 v H1 d e1 r1 h1 => ?_)⟩
  obtain ⟨c, hc, k⟩ := Post.lift (ρ' := ρ1) h1
  refine ⟨by show 2 ≤ sizeLine; decide, fun tp htp => ?_⟩
  have sh : Same H1 (upd H1 tp (.tup [.ty "list", .ty "tuple"])) := same_upd htp
  have x2 : Ex X.K G1 ρ1 σ H1 G1 ρ1 σ (upd H1 tp (.tup [.ty "list", .ty "tuple"])) := by
    refine ⟨⟨e1.j.sub.trans sh, e1.j.len, e1.j.pur, fun i s ds e hl => ?_, e1.j.dis⟩, .refl _, fun b hb => .inl hb, fun b o e _ => sh _ _ e, fun b hb => .inl hb, fun b hb => sh.free hb, fun i ds h => ⟨⟨ds, h⟩, rfl⟩⟩
    obtain ⟨a, vs, z1, z2, z3, z4⟩ := e1.j.own i s ds e hl
    exact ⟨a, vs, z1, sh _ _ z2, z3, z4⟩
  have key : ∀ b, isSeqT d = some b → ∃ n, tyD d = some n ∧ PySem.W.kitAny X.K (.type n) [.type "list", .type "tuple"] = some b := by
    intro b hb
    cases d <;> first
      | (cases hb; exact ⟨_, rfl, by kernel_rfl⟩)
      | (cases hb; done)
  cases hb : isSeqT d with
  | none => rw [hb] at hc; cases hc
  | some b =>
    rw [hb] at hc
    cases hc
    obtain ⟨n, h2, h3⟩ := key b hb
    exact ⟨v, tp, [.ty "list", .ty "tuple"], .type n, [.type "list", .type "tuple"], b, rfl, upd_same, .cons (.ty _) (.cons (.ty _) .nil), r1.ty x2.j.sub h2, h3, k G1 _ _ x2 (.bl b)⟩
def mNoPart : Mo (Option Int) := mRet none
def intOf : D → Option Int
  | .int i => some i
  | _ => none
def mPart (f : Mo D) : Mo (Option Int) := mBind f fun d => mLift ((intOf d).map some)
def EO (X : Cx) (E : XK) (e : Option Expr) (f : Mo (Option Int)) : Prop := ∃ t, PO X e t ∧ ∀ G ρ σ H Q, J X.K G ρ σ H → Post X.K E (fun _ b c => b = c) G ρ σ H Q (f ρ) → t σ H Q
theorem eo_none : EO X E none mNoPart := ⟨_, po_none, fun G ρ σ H Q j h => h G none H j.refl rfl⟩
theorem eo_some {e : Expr} {f : Mo D} (h : EV X E e f) : EO X E (some e) (mPart f) := by
  obtain ⟨t, p, q⟩ := h
  refine ⟨_, po_some p, fun G ρ σ H Q j h => q G ρ σ H _ j (Post.imp h fun G1 ρ1 v H1 d e1 r1 h1 => ?_)⟩
  obtain ⟨c, hc, k⟩ := Post.lift (ρ' := ρ1) h1
  cases r1 with
  | int i => cases hc; exact ⟨i, rfl, k G1 _ H1 e1.j.refl rfl⟩
  | _ => cases hc
def cutD {α : Type} (xs : List α) (lo hi : Option Int) : List α := (xs.drop (HT.sIx xs.length 0 lo)).take (HT.sIx xs.length xs.length hi - HT.sIx xs.length 0 lo)
theorem RpAll.cut {K : PySem.W.Frag} {G : Hp} {vs : List V} {ds : List D} (r : RpAll K G vs ds) (lo hi : Option Int) : RpAll K G (cutV vs lo hi) (cutD ds lo hi) := by
  unfold cutV cutD
  rw [r.length]
  exact (r.drop _).take _
def slD (lo hi : Option Int) : D → Option D
  | .list ds => some (.list (cutD ds lo hi))
  | .tuple ds => some (.tuple (cutD ds lo hi))
  | .dict [(.none, .list ds)] => some (.list (cutD ds lo hi))
  | .str z => if z.length ≤ 1000000 then some (.str (cutS z lo hi)) else none
  | _ => none
def mSlice (f : Mo D) (lo hi : Mo (Option Int)) : Mo D := mBind f fun d => mBind lo fun l => mBind hi fun h => mLift (slD l h d)
theorem cutV_all {xs : List V} {lo hi : Option Int} (h1 : HT.sIx xs.length 0 lo = 0) (h2 : HT.sIx xs.length xs.length hi = xs.length) : cutV xs lo hi = xs := by
  unfold cutV
  rw [h1, h2]
  simp
theorem ev_slice {e : Expr} {lo hi : Option Expr} {f : Mo D} {fl fh : Mo (Option Int)} {p2 pos : Pos} (h : EV X E e f) (hl : EO X E lo fl) (hh : EO X E hi fh) : EV X E (.Subscript e (.Slice lo hi none p2) pos) (mSlice f fl fh) := by
  obtain ⟨t, p, q⟩ := h
  obtain ⟨tl, pl, ql⟩ := hl
  obtain ⟨th, ph, qh⟩ := hh
  refine ⟨_, pe_slice (sl_list.or ((sl_tupP.or sl_tupA).or sl_str)) p pl ph, fun G ρ σ H Q j h => q G ρ σ H _ j (Post.imp h fun G1 ρ1 v H1 d e1 r1 h1 => ?_)⟩
  refine ql G1 ρ1 σ H1 _ e1.j (Post.imp h1 fun G2 ρ2 l H2 l' e2 rl h2 => ?_)
  subst rl
  refine qh G2 ρ2 σ H2 _ e2.j (Post.imp h2 fun G3 ρ3 u H3 u' e3 ru h3 => ?_)
  subst ru
  obtain ⟨c, hc, k⟩ := Post.lift (ρ' := ρ3) h3
  have r3 : Rp X.K G3 v d := (r1.mono e2.g).mono e3.g
  have s3 := e3.j.sub
  cases r3 with
  | @lst a xs ds z1 z2 =>
    cases hc
    refine .inl ⟨a, xs, rfl, .of (s3 _ _ z1), fun p hp => ?_⟩
    have px : PX G3 H3 _ _ := .alloc s3 hp (.lst (cutV xs l u))
    exact k _ _ _ (e3.j.ex px) (.lst upd_same ((z2.cut l u).mono px.g))
  | @tup a xs ds z1 z2 =>
    cases hc
    by_cases hw : HT.sIx xs.length 0 l = 0 ∧ HT.sIx xs.length xs.length u = xs.length
    · refine .inr (.inl (.inr ⟨a, xs, rfl, sqT_mono s3 z1.t, fun _ => ?_, fun no => absurd hw no⟩))
      have e := z2.cut l u
      rw [cutV_all hw.1 hw.2] at e
      exact k G3 _ H3 e3.j.refl (.tup z1 e)
    · refine .inr (.inl (.inl ⟨a, xs, rfl, sqT_mono s3 z1.t, hw, fun p o hp nd => ?_⟩))
      have px : PX G3 H3 _ _ := .alloc s3 hp (.frz o (.tup (cutV xs l u)))
      exact k _ _ _ (e3.j.ex px) (.tup (.new nd) ((z2.cut l u).mono px.g))
  | @frz a xs ds z1 z2 =>
    cases hc
    refine .inl ⟨a, xs, rfl, s3.seq z1, fun p hp => ?_⟩
    have px : PX G3 H3 _ _ := .alloc s3 hp (.lst (cutV xs l u))
    exact k _ _ _ (e3.j.ex px) (.lst upd_same ((z2.cut l u).mono px.g))
  | str z =>
    obtain ⟨h4, rfl⟩ := ite_some (show (if z.length ≤ 1000000 then some (PyData.str (cutS z l u)) else none) = some c from hc)
    exact .inr (.inr ⟨z, rfl, line_of h4, k G3 _ H3 e3.j.refl (.str _)⟩)
  | obj z1 z2 => cases hc
  | _ => cases hc
def fldIn (f : Str) : List (D × D) → Option D
  | [] => none
  | (.str g, d) :: r => if g = f then some d else fldIn f r
  | _ :: _ => none
def fldD (c f : Str) : D → Option D
  | .dict ((.str c', .none) :: kvs) => if c' = c then fldIn f kvs else none
  | _ => none
theorem RpF.look {K : PySem.W.Frag} {G : Hp} {f : Str} : ∀ {fs : List (Str × V)} {kvs : List (D × D)} {d : D}, RpF K G fs kvs → fldIn f kvs = some d → ∃ v, fs.lookup f = some v ∧ Rp K G v d
  | _, _, _, .nil, h => by cases h
  | _, _, d, @RpF.cons _ _ g v fs e kvs h t, q => by
    have q' : (if g = f then some e else fldIn f kvs) = some d := q
    by_cases z : g = f
    · rw [if_pos z] at q'
      cases q'
      subst z
      exact ⟨v, by simp [List.lookup], h⟩
    · rw [if_neg z] at q'
      obtain ⟨v', h1, h2⟩ := RpF.look t q'
      refine ⟨v', ?_, h2⟩
      have e1 : (f == g) = false := beq_eq_false_iff_ne.mpr (Ne.symm z)
      simp only [List.lookup, e1]
      exact h1
theorem ev_fld {e : Expr} {f : Mo D} {c a : Str} {pos : Pos} (h : EV X E e f) (hc : Cls X.K (He.ga X.K c)) (hn : NoAttr X.K (He.ga X.K c) a) (hb : attributeBase e a X.env (eval e X.env) = eval e X.env := by rfl) : EV X E (.Attribute e a pos) (mUn (fldD c a) f) := by
  obtain ⟨t, p, q⟩ := h
  refine ⟨_, pe_fld p hb, fun G ρ σ H Q j h => q G ρ σ H _ j (Post.imp h fun G1 ρ1 v H1 d e1 r1 h1 => ?_)⟩
  obtain ⟨y, hy, k⟩ := Post.lift (ρ' := ρ1) h1
  cases r1 with
  | @obj ad dx c' fs kvs z1 z2 =>
    obtain ⟨rfl, h3⟩ : c' = c ∧ fldIn a kvs = some y := by
      have hy' : (if c' = c then fldIn a kvs else none) = some y := hy
      split at hy'
      · rename_i q
        exact ⟨q, hy'⟩
      · cases hy'
    obtain ⟨v', h4, h5⟩ := z2.look h3
    exact ⟨ad, _, dx, fs, v', rfl, e1.j.sub _ _ z1, hc, hn, h4, k G1 _ H1 e1.j.refl h5⟩
  | frz z1 z2 => cases hy
  | _ => cases hy
/-- xs.append(e), a statement -/
def sChg (i : Nat) (f : Mo (List D)) (c : List D → List D → Option (List D)) : Mo Fl := fun ρ => match ρ[i]? with
  | some (.own _) => mBind f (fun as ρ1 => match ρ1[i]? with
    | some (.own ds) => match c ds as with
      | some es => some (.ok (ρ1.set i (.own es), .nx))
      | none => none
    | _ => none) ρ
  | _ => none
def appC : List D → List D → Option (List D)
  | ds, [d] => match Nat.blt ds.length 1000000 with
    | true => some (ds ++ [d])
    | false => none
  | _, _ => none
/-- another list in its place -/
def Sl.put : Sl → List D → Sl
  | .own _, es => .own es
  | .box _, es => .box es
  | s, _ => s
theorem Sl.put_ls {s : Sl} {ds es : List D} (h : s.ls = some ds) : (s.put es).ls = some es := by
  cases s with
  | no => cases h
  | pur d => cases h
  | own _ => rfl
  | box _ => rfl
/-- the slot's list is changed -/
theorem J.putS {K : PySem.W.Frag} {G H : Hp} {ρ : En} {σ : St} (j : J K G ρ σ H) {i : Nat} {s : Sl} {ds es : List D} {a : Addr} {ws : List V} (h : ρ[i]? = some s) (hl : s.ls = some ds) (ha : σ[i]? = some (some (.ref a))) (r : RpAll K G ws es) : Ex K G ρ σ H G (ρ.set i (s.put es)) σ (upd H a (.lst ws)) := by
  obtain ⟨a', vs, h1, h2, h3, h4⟩ := j.own i s ds h hl
  rw [ha] at h1
  cases h1
  have hi : i < ρ.length := (List.getElem?_eq_some_iff.mp h).1
  have od : Ownd ρ σ a := ⟨i, s, ds, h, hl, ha⟩
  have np : ∀ d, s.put es ≠ .pur d := fun d => by
    cases s with
    | no => cases hl
    | pur d => cases hl
    | own _ => intro z; cases z
    | box _ => intro z; cases z
  have c : ∀ (m : Nat) (t : Sl) (us : List D), (ρ.set i (s.put es))[m]? = some t → t.ls = some us → ∃ t' us', ρ[m]? = some t' ∧ t'.ls = some us' := fun m t us hm ht => by
    rcases getElem?_set_cases hm with ⟨z1, _⟩ | ⟨_, z⟩
    · subst z1; exact ⟨s, ds, h, hl⟩
    · exact ⟨t, us, z, ht⟩
  refine ⟨⟨fun b o q => ?_, by rw [List.length_set]; exact j.len, fun k d q => ?_, fun k t fs q ht => ?_, fun k l t u fs gs b q1 l1 q2 l2 q3 q4 => ?_⟩, .refl _, fun b hb => .inl hb, fun b o q n => ?_, fun b hb => ?_, fun b hb => ?_, fun k fs q => ?_⟩
  · rw [upd_ne (ne_of_none q h3)]
    exact j.sub _ _ q
  · rcases getElem?_set_cases q with ⟨_, z⟩ | ⟨_, q'⟩
    · exact absurd z.symm (np d)
    · exact j.pur k d q'
  · rcases getElem?_set_cases q with ⟨z1, z⟩ | ⟨z1, q'⟩
    · subst z
      subst z1
      rw [Sl.put_ls hl] at ht
      cases ht
      exact ⟨a, ws, ha, upd_same, h3, r⟩
    · obtain ⟨b, us, g1, g2, g3, g4⟩ := j.own k t fs q' ht
      have ne : b ≠ a := fun z => by
        subst z
        exact z1 (j.dis k i t s fs ds b q' ht h hl g1 ha)
      exact ⟨b, us, g1, by rw [upd_ne ne]; exact g2, g3, g4⟩
  · obtain ⟨t1, u1, c1, c2⟩ := c k t fs q1 l1
    obtain ⟨t2, u2, c3, c4⟩ := c l u gs q2 l2
    exact j.dis k l t1 t2 u1 u2 b c1 c2 c3 c4 q3 q4
  · have ne : b ≠ a := fun z => by
      subst z
      exact n od
    rw [upd_ne ne]
    exact q
  · obtain ⟨k, t, us, q1, l1, q2⟩ := hb
    obtain ⟨t1, u1, c1, c2⟩ := c k t us q1 l1
    exact .inl ⟨k, t1, u1, c1, c2, q2⟩
  · by_cases z : b = a
    · subst z; rw [upd_same] at hb; cases hb
    · rw [upd_ne z] at hb; exact hb
  · rcases getElem?_set_cases q with ⟨z1, z⟩ | ⟨z1, q'⟩
    · subst z1
      cases s with
      | no => cases hl
      | pur d => cases hl
      | own _ => cases z
      | box es0 => exact ⟨⟨es0, h⟩, rfl⟩
    · exact ⟨⟨fs, q'⟩, rfl⟩
theorem J.put {K : PySem.W.Frag} {G H : Hp} {ρ : En} {σ : St} (j : J K G ρ σ H) {i : Nat} {ds es : List D} {a : Addr} {ws : List V} (h : ρ[i]? = some (.own ds)) (ha : σ[i]? = some (some (.ref a))) (r : RpAll K G ws es) : Ex K G ρ σ H G (ρ.set i (.own es)) σ (upd H a (.lst ws)) :=
  j.putS h rfl ha r
theorem chg_sem {i : Nat} {t : TA} {f : Mo (List D)} {c : List D → List D → Option (List D)} {r : V → List V → Hp → VK → Prop} (q : ∀ G ρ σ H Q, J X.K G ρ σ H → Post X.K E (RpAll X.K) G ρ σ H Q (f ρ) → t σ H Q)
    (hr : ∀ G H a vs ds as us es Q, Same G H → H a = some (.lst vs) → G a = none → RpAll X.K G vs ds → RpAll X.K G us as → c ds as = some es → (∀ v ws, RpAll X.K G ws es → Q v (upd H a (.lst ws))) → r (.ref a) us H Q) :
    ∀ G ρ σ H De, J X.K G ρ σ H → PostS X.K E G ρ σ H De (sChg i f c ρ) → tDrop (tBM X.K "list" r (tVar i) t) De σ H := by
  intro G ρ σ H De j h
  unfold sChg at h
  cases hs : ρ[i]? with
  | none => rw [hs] at h; exact h.elim
  | some sl =>
    rw [hs] at h
    cases sl with
    | no => exact h.elim
    | box _ => exact h.elim
    | pur d => exact h.elim
    | own ds0 =>
      obtain ⟨a, vs, h1, h2, h3, h4⟩ := j.own i _ ds0 hs rfl
      refine ⟨.ref a, h1, .inl ⟨rfl, vs, .of h2⟩, q G ρ σ H _ j (PostS.imp h fun G1 ρ1 us H1 as e1 r1 k => ?_)⟩
      have k' : PostS X.K E G1 ρ1 σ H1 De (match ρ1[i]? with
        | some (.own ds) => match c ds as with
          | some es => some (.ok (ρ1.set i (.own es), .nx))
          | none => none
        | _ => none) := k
      cases hs1 : ρ1[i]? with
      | none => rw [hs1] at k'; exact k'.elim
      | some sl1 =>
        rw [hs1] at k'
        cases sl1 with
        | no => exact k'.elim
        | box _ => exact k'.elim
        | pur d => exact k'.elim
        | own ds =>
          cases hc : c ds as with
          | none => simp only [hc] at k'; exact k'.elim
          | some es =>
            simp only [hc] at k'
            obtain ⟨a1, vs1, g1, g2, g3, g4⟩ := e1.j.own i _ ds hs1 rfl
            rw [h1] at g1
            cases g1
            exact hr G1 H1 a vs1 ds as us es _ e1.j.sub g2 g3 g4 r1 hc fun v ws rw' => k' G1 σ _ (e1.j.put hs1 h1 rw')
theorem s_app {i : Nat} {x : Str} {e : Expr} {f : Mo (List D)} {p1 apos cpos pos : Pos} (h : EA X E [e] f) (hN : X.N[i]? = some x := by rfl) (hv : Vis X.env.scope x := by first | exact Or.inl rfl | exact Or.inr (Or.inl rfl) | exact Or.inr (Or.inr rfl)) (hd : (x == ("__debug__" : Str)) = false := by decide) (hcd : (x == ("__classdict__" : Str)) = false := by decide)
    (hs : swapsWith (.Call (.Attribute (.Name x p1) "append" apos) [e] [] cpos) none pos.line X.env = pure false := by rfl)
    (hbase : attributeBase (.Name x p1) "append" X.env (eval (.Name x p1) X.env) = eval (.Name x p1) X.env := by rfl)
    (hfew : ((backTo cpos (starEach [e] X.env)).all (fun x => !x.1) && (backToKw cpos (keywordEach [] X.env)).all (fun x => x.1.isSome) && decide ([e].length + ([] : List Keyword).length + (if ([] : List Keyword).isEmpty then 0 else 1) < 30)) = true := by rfl)
    (hline : (apos.endLine == cpos.line) = true := by rfl) (hst : starEach [e] X.env = (false, eval e X.env) :: starEach [] X.env := by rfl) (hplain : (backTo cpos (starEach [] X.env)).any (·.1) = false := by rfl) :
    SV X E (.Expr (.Call (.Attribute (.Name x p1) "append" apos) [e] [] cpos) pos) (sChg i f appC) := by
  obtain ⟨t, p, q⟩ := h
  refine ⟨_, ps_expr (pe_bm PySem.F.plainAttrs_list PySem.F.slot_list_append PySem.F.type_list_append mt_append (pe_var hN hv hd hcd) p hbase hfew hline hst hplain) hs, chg_sem q fun G H a vs ds as us es Q s z1 z2 z3 z4 hc k => ?_⟩
  match as, hc with
  | [d], hc =>
    obtain ⟨y, rfl, ry⟩ := z4.one
    have hc' : (match Nat.blt ds.length 1000000 with
      | true => some (ds ++ [d])
      | false => none) = some es := hc
    cases hb : Nat.blt ds.length 1000000 with
    | false => rw [hb] at hc'; cases hc'
    | true =>
      rw [hb] at hc'
      cases hc'
      have hlt : ds.length < 1000000 := by
        unfold Nat.blt at hb
        exact Nat.le_of_ble_eq_true hb
      exact ⟨a, vs, y, rfl, rfl, z1, by rw [z3.length]; exact Nat.lt_of_lt_of_le hlt (by decide), k _ _ (z3.append (.cons ry .nil))⟩
/-- xs[e], len(xs) of a list of the def's own -/
def mIxO (i : Nat) (f : Mo D) : Mo D := fun ρ => match ρ[i]? with
  | some (.own _) => mBind f (fun k ρ1 => match ρ1[i]? with
    | some (.own ds) => mLift (ixD (.list ds) k) ρ1
    | _ => none) ρ
  | some (.pur d) => mBind f (fun k => mLift (ixD d k)) ρ
  | _ => none
theorem ev_ixO {i : Nat} {x : Str} {e : Expr} {f : Mo D} {p1 pos : Pos} (h : EV X E e f) (hN : X.N[i]? = some x := by rfl) (hv : Vis X.env.scope x := by first | exact Or.inl rfl | exact Or.inr (Or.inl rfl) | exact Or.inr (Or.inr rfl)) (hd : (x == ("__debug__" : Str)) = false := by decide) (hcd : (x == ("__classdict__" : Str)) = false := by decide)
    (hs : PlainIx e := by exact fun _ _ => rfl) : EV X E (.Subscript (.Name x p1) e pos) (mIxO i f) := by
  obtain ⟨t, p, q⟩ := h
  refine ⟨_, pe_ix ix_seq (pe_var hN hv hd hcd) p hs, fun G ρ σ H Q j h => ?_⟩
  unfold mIxO at h
  cases hs : ρ[i]? with
  | none => rw [hs] at h; exact h.elim
  | some sl =>
    rw [hs] at h
    cases sl with
    | no => exact h.elim
    | box _ => exact h.elim
    | pur d =>
      obtain ⟨v, h1, h2⟩ := j.pur i d hs
      refine ⟨v, h1, q G ρ σ H _ j (Post.imp h fun G1 ρ1 y H1 k e1 r1 h5 => ?_)⟩
      obtain ⟨c, hc, kk⟩ := Post.lift (ρ' := ρ1) h5
      exact ix_sem e1.j.sub (h2.mono e1.g) r1 hc fun v r => kk G1 v H1 e1.j.refl r
    | own ds0 =>
      obtain ⟨a, vs, h1, h2, h3, h4⟩ := j.own i _ ds0 hs rfl
      refine ⟨.ref a, h1, q G ρ σ H _ j (Post.imp h fun G1 ρ1 y H1 k e1 r1 h5 => ?_)⟩
      have k' : Post X.K E (Rp X.K) G1 ρ1 σ H1 Q (match ρ1[i]? with
        | some (.own ds) => mLift (ixD (.list ds) k) ρ1
        | _ => none) := h5
      cases hs1 : ρ1[i]? with
      | none => rw [hs1] at k'; exact k'.elim
      | some sl1 =>
        rw [hs1] at k'
        cases sl1 with
        | no => exact k'.elim
        | box _ => exact k'.elim
        | pur d => exact k'.elim
        | own ds =>
          obtain ⟨c, hc, kk⟩ := Post.lift (ρ' := ρ1) k'
          obtain ⟨a1, vs1, g1, g2, g3, g4⟩ := e1.j.own i _ ds hs1 rfl
          rw [h1] at g1
          cases g1
          cases r1 with
          | int n =>
            obtain ⟨v, q1, q2⟩ := g4.atI hc
            exact .inl ⟨_, _, _, _, rfl, rfl, .of g2, q1, kk G1 v H1 e1.j.refl q2⟩
          | _ => cases hc
def mLenO (i : Nat) : Mo D := fun ρ => match ρ[i]? with
  | some (.own ds) => some (.ok (ρ, .int ds.length))
  | some (.pur d) => mLift (lenD [d]) ρ
  | _ => none
theorem ev_lenO {i : Nat} {x : Str} {p1 p pos : Pos} (hm : X.mg "len" = none) (hN : X.N[i]? = some x := by rfl) (hv : Vis X.env.scope x := by first | exact Or.inl rfl | exact Or.inr (Or.inl rfl) | exact Or.inr (Or.inr rfl)) (hd : (x == ("__debug__" : Str)) = false := by decide) (hcd : (x == ("__classdict__" : Str)) = false := by decide)
    (hg : Gl X "len" := by rfl) (he : starEach [.Name x p1] X.env = (false, eval (.Name x p1) X.env) :: starEach [] X.env := by rfl) (hpl : (backTo pos (starEach [] X.env)).any (·.1) = false := by rfl) : EV X E (.Call (.Name "len" p) [.Name x p1] [] pos) (mLenO i) := by
  refine ⟨_, pe_callB call_len hg hm boot_len (pa_cons (pe_var hN hv hd hcd) pa_nil he) (by decide) (by decide) he hpl, fun G ρ σ H Q j h => ?_⟩
  unfold mLenO at h
  cases hs : ρ[i]? with
  | none => rw [hs] at h; exact h.elim
  | some sl =>
    rw [hs] at h
    cases sl with
    | no => exact h.elim
    | box _ => exact h.elim
    | own ds =>
      obtain ⟨a, vs, h1, h2, h3, h4⟩ := j.own i _ ds hs rfl
      exact ⟨.ref a, h1, _, ds.length, rfl, .inl ⟨_, .of h2, h4.length.symm⟩, h G _ H j.refl (.int _)⟩
    | pur d =>
      obtain ⟨v, h1, h2⟩ := j.pur i d hs
      refine ⟨v, h1, ?_⟩
      obtain ⟨c, hc, kk⟩ := Post.lift (ρ' := ρ) h
      cases h2 with
      | lst z1 z2 => cases hc; exact ⟨_, _, rfl, .inl ⟨_, .of (j.sub _ _ z1), z2.length.symm⟩, kk G _ H j.refl (.int _)⟩
      | tup z1 z2 => cases hc; exact ⟨_, _, rfl, .inr ⟨_, sqT_mono j.sub z1.t, z2.length.symm⟩, kk G _ H j.refl (.int _)⟩
      | frz z1 z2 => cases hc; exact ⟨_, _, rfl, .inl ⟨_, j.sub.seq z1, z2.length.symm⟩, kk G _ H j.refl (.int _)⟩
      | str z =>
        obtain ⟨h5, rfl⟩ := ite_some (show (if z.length ≤ 1000000 then some (PyData.int z.length) else none) = some c from hc)
        exact ⟨_, _, rfl, ⟨line_of h5, rfl⟩, kk G _ H j.refl (.int _)⟩
      | obj z1 z2 => cases hc
      | _ => cases hc
end
end HB
namespace HB
open PySem L2
section
variable {prog : Program} {w : World} {A : Around} {E : Value → Shared → Prop} {s : Shared} {t t1 t2 : Bool}
/-- the zip object; b: strict -/
def IsZipB (b : Bool) (h : Heap) (z TI TO : Addr) (f0 : Value) : Prop := h.get? z = some { cls := .type "zip", data := .fields #[f0, .bool false, .bool b, .ref TI, .ref TO] }
section
variable {b : Bool} {z TI TO : Addr} {f0 : Value} {Q : Value → Shared → Prop}
theorem z0 (hz : IsZipB b s.heap z TI TO f0) (k : Q f0 s) : wpAny (model prog w) A (field (.ref z) 0) Q E s := wpAny_field hz rfl rfl k
theorem z2 (hz : IsZipB b s.heap z TI TO f0) (k : Q (.bool b) s) : wpAny (model prog w) A (field (.ref z) 2) Q E s := wpAny_field hz rfl rfl k
theorem z3 (hz : IsZipB b s.heap z TI TO f0) (k : Q (.ref TI) s) : wpAny (model prog w) A (field (.ref z) 3) Q E s := wpAny_field hz rfl rfl k
theorem z4 (hz : IsZipB b s.heap z TI TO f0) (k : Q (.ref TO) s) : wpAny (model prog w) A (field (.ref z) 4) Q E s := wpAny_field hz rfl rfl k
end
end
section
variable {X : Cx} {E : XK}
/-- zip(a, b, strict=True) on data: of one length -/
def zipD : List D → List D → List D
  | x :: xs, y :: ys => .tuple [x, y] :: zipD xs ys
  | _, _ => []
theorem zipD_get : ∀ (xs ys : List D) (i : Nat) (d : D), (zipD xs ys)[i]? = some d → ∃ x y, xs[i]? = some x ∧ ys[i]? = some y ∧ d = .tuple [x, y]
  | [], _, _, _, h => by simp [zipD] at h
  | _ :: _, [], _, _, h => by simp [zipD] at h
  | x :: xs, y :: ys, 0, d, h => ⟨x, y, rfl, rfl, (Option.some.inj (show some _ = some d from h)).symm⟩
  | x :: xs, y :: ys, i + 1, d, h => zipD_get xs ys i d h
theorem zipD_len : ∀ (xs ys : List D), (zipD xs ys).length = min xs.length ys.length
  | [], _ => by simp [zipD]
  | _ :: _, [] => by simp [zipD]
  | x :: xs, y :: ys => by simp [zipD, zipD_len xs ys]
end
end HB
namespace HB
open PySem L2
section
variable {X : Cx} {E : XK}
inductive Tm where
  | p (d : D)
  | o (ds : List D)
/-- new lists among them are nobody else's, and apart -/
def RT (K : PySem.W.Frag) (H0 G H : Hp) (ρ : En) (σ : St) : List V → List Tm → Prop
  | [], [] => True
  | v :: vs, .p d :: ts => Rp K G v d ∧ RT K H0 G H ρ σ vs ts
  | v :: vs, .o ds :: ts => (∃ a us, v = .ref a ∧ H0 a = none ∧ G a = none ∧ H a = some (.lst us) ∧ ¬ Ownd ρ σ a ∧ RpAll K G us ds ∧ ∀ (i : Nat) es, ts[i]? = some (.o es) → vs[i]? ≠ some (.ref a)) ∧ RT K H0 G H ρ σ vs ts
  | _, _ => False
def PostX (K : PySem.W.Frag) (E : XK) (G : Hp) (ρ : En) (σ : St) (H : Hp) (Q : List V → Hp → Prop) : Option (Except Exn (En × List Tm)) → Prop
  | none => False
  | some (.error x) => ∀ C dx H', XP K G ρ σ H x C dx H' → E C dx H'
  | some (.ok (ρ', ts)) => ∀ G' vs H', Ex K G ρ σ H G' ρ' σ H' → RT K H G' H' ρ' σ vs ts → Q vs H'
def EX (X : Cx) (E : XK) (es : List Expr) (f : Mo (List Tm)) : Prop := ∃ t, PA X es t ∧ ∀ G ρ σ H Q, J X.K G ρ σ H → PostX X.K E G ρ σ H Q (f ρ) → t σ H Q
def xNil : Mo (List Tm) := mRet []
def xConsP (a : Mo D) (r : Mo (List Tm)) : Mo (List Tm) := mBind a fun d => mBind r fun ts => mRet (.p d :: ts)
def xConsO (a : Mo (List D)) (r : Mo (List Tm)) : Mo (List Tm) := mBind a fun ds => mBind r fun ts => mRet (.o ds :: ts)
theorem ex_nil : EX X E [] xNil := ⟨_, pa_nil, fun G ρ σ H Q j h => h G [] H j.refl trivial⟩
theorem RT.dom {K : PySem.W.Frag} {H0 H1 G H : Hp} {ρ : En} {σ : St} (d : ∀ a, H1 a = none → H0 a = none) : ∀ {vs : List V} {ts : List Tm}, RT K H1 G H ρ σ vs ts → RT K H0 G H ρ σ vs ts
  | [], [], _ => trivial
  | v :: vs, .p e :: ts, h => ⟨h.1, RT.dom d h.2⟩
  | v :: vs, .o es :: ts, h => by
    obtain ⟨⟨a, us, h1, h2, h3⟩, h4⟩ := h
    exact ⟨⟨a, us, h1, d a h2, h3⟩, RT.dom d h4⟩
theorem RT.fresh {K : PySem.W.Frag} {H0 G H : Hp} {ρ : En} {σ : St} : ∀ {vs : List V} {ts : List Tm} (i : Nat) {es : List D} {b : Addr}, RT K H0 G H ρ σ vs ts → ts[i]? = some (.o es) → vs[i]? = some (.ref b) → H0 b = none
  | [], [], _, _, _, _, h, _ => by simp at h
  | v :: vs, .p e :: ts, 0, _, _, _, h, _ => by cases h
  | v :: vs, .p e :: ts, i + 1, _, _, h, h1, h2 => RT.fresh i h.2 h1 h2
  | v :: vs, .o e :: ts, 0, _, b, h, h1, h2 => by
    obtain ⟨⟨a, us, z1, z2, _⟩, _⟩ := h
    have e2 : v = .ref b := Option.some.inj h2
    rw [e2] at z1
    cases z1
    exact z2
  | v :: vs, .o e :: ts, i + 1, _, _, h, h1, h2 => RT.fresh i h.2 h1 h2
theorem ex_consP {e : Expr} {es : List Expr} {f : Mo D} {g : Mo (List Tm)} (h : EV X E e f) (hr : EX X E es g) (hs : starEach (e :: es) X.env = (false, eval e X.env) :: starEach es X.env := by rfl) : EX X E (e :: es) (xConsP f g) := by
  obtain ⟨t, p, q⟩ := h
  obtain ⟨t2, p2, q2⟩ := hr
  refine ⟨_, pa_cons p p2 hs, fun G ρ σ H Q j h => q G ρ σ H _ j ?_⟩
  unfold xConsP mBind at h
  cases h1 : f ρ with
  | none => simp only [h1] at h; exact h
  | some r1 =>
    cases r1 with
    | error x => simp only [h1] at h; exact h
    | ok pr =>
      obtain ⟨ρ1, d⟩ := pr
      simp only [h1] at h
      intro G1 v H1 e1 rv
      refine q2 G1 ρ1 σ H1 _ e1.j ?_
      cases h2 : g ρ1 with
      | none => simp only [h2] at h; exact h
      | some r2 =>
        cases r2 with
        | error x => simp only [h2] at h; exact fun C dx H' z => h C dx H' (XP.trans e1 z)
        | ok pr2 =>
          obtain ⟨ρ2, ts⟩ := pr2
          simp only [h2] at h
          exact fun G2 vs H2 e2 rt => h G2 (v :: vs) H2 (e1.trans e2) ⟨rv.mono e2.g, rt.dom e1.dom⟩
/-- one of them to its name -/
def slOf : Tm → Sl
  | .p d => .pur d
  | .o ds => .own ds
theorem ownd_set {ρ : En} {σ : St} {i : Nat} {s : Sl} {v : V} {b : Addr} (h : Ownd (ρ.set i s) (σ.set i (some v)) b) : Ownd ρ σ b ∨ ((∃ ds, s.ls = some ds) ∧ v = .ref b) := by
  obtain ⟨k, s0, es, q1, hl, q2⟩ := h
  rcases getElem?_set_cases q1 with ⟨e1, e2⟩ | ⟨e1, e2⟩
  · rcases getElem?_set_cases q2 with ⟨_, e4⟩ | ⟨e3, _⟩
    · exact .inr ⟨⟨es, by rw [← e2]; exact hl⟩, (Option.some.inj e4).symm⟩
    · exact absurd e1 e3
  · rw [List.getElem?_set_ne (Ne.symm e1)] at q2
    exact .inl ⟨k, s0, es, e2, hl, q2⟩
theorem RT.no {K : PySem.W.Frag} {H0 G H : Hp} {ρ ρ1 : En} {σ σ1 : St} : ∀ {vs : List V} {ts : List Tm} (_ : ∀ b, Ownd ρ1 σ1 b → Ownd ρ σ b ∨ ∀ (i : Nat) es, ts[i]? = some (.o es) → vs[i]? ≠ some (.ref b)), RT K H0 G H ρ σ vs ts → RT K H0 G H ρ1 σ1 vs ts
  | [], [], _, _ => trivial
  | v :: vs, .p e :: ts, n, h => ⟨h.1, RT.no (fun b hb => (n b hb).imp id fun z i es q => z (i + 1) es q) h.2⟩
  | v :: vs, .o es :: ts, n, h => by
    obtain ⟨⟨a, us, h1, h2, h3, h4, h5, h6⟩, h7⟩ := h
    refine ⟨⟨a, us, h1, h2, h3, h4, fun z => ?_, h6⟩, RT.no (fun b hb => (n b hb).imp id fun z i es q => z (i + 1) es q) h7⟩
    rcases n a z with w | w
    · exact h5 w
    · exact w 0 es rfl (congrArg some h1)
theorem RT.put {K : PySem.W.Frag} {G H G' H' : Hp} {ρ ρ' : En} {σ σ' : St} {v : V} {vs : List V} {tm : Tm} {ts : List Tm} (e : Ex K G ρ σ H G' ρ' σ' H') (i : Nat) (r : RT K H G' H' ρ' σ' (v :: vs) (tm :: ts)) :
    Ex K G ρ σ H G' (ρ'.set i (slOf tm)) (σ'.set i (some v)) H' ∧ RT K H G' H' (ρ'.set i (slOf tm)) (σ'.set i (some v)) vs ts := by
  cases tm with
  | p d =>
    obtain ⟨h1, h2⟩ := r
    refine ⟨e.trans (Ex.set e.j i h1), RT.no (fun b hb => ?_) h2⟩
    rcases ownd_set hb with z | ⟨⟨_, z⟩, _⟩
    · exact .inl z
    · cases z
  | o ds =>
    obtain ⟨⟨a, us, h1, h2, h3, h4, h5, h6, h7⟩, h8⟩ := r
    refine ⟨e.setOwn i ⟨a, us, h1, h2, h3, h4, h5, h6⟩, RT.no (fun b hb => ?_) h8⟩
    rcases ownd_set hb with z | ⟨_, z⟩
    · exact .inl z
    · have e3 : a = b := by rw [h1] at z; exact V.ref.inj z
      subst e3
      exact .inr h7
theorem RT.nil {K : PySem.W.Frag} {H0 G H : Hp} {ρ : En} {σ : St} {vs : List V} (h : RT K H0 G H ρ σ vs []) : vs = [] := by
  cases vs with
  | nil => rfl
  | cons v vs => exact h.elim
theorem RT.cons {K : PySem.W.Frag} {H0 G H : Hp} {ρ : En} {σ : St} {vs : List V} {t : Tm} {ts : List Tm} (h : RT K H0 G H ρ σ vs (t :: ts)) : ∃ v ws, vs = v :: ws := by
  cases vs with
  | nil => cases t <;> exact h.elim
  | cons v vs => exact ⟨_, _, rfl⟩
def sPar2 (i j : Nat) (f : Mo (List Tm)) : Mo Fl := mBind f fun ts ρ => match ts with
  | [x, y] => some (.ok ((ρ.set i (slOf x)).set j (slOf y), .nx))
  | _ => none
def sPar3 (i j k : Nat) (f : Mo (List Tm)) : Mo Fl := mBind f fun ts ρ => match ts with
  | [x, y, z] => some (.ok (((ρ.set i (slOf x)).set j (slOf y)).set k (slOf z), .nx))
  | _ => none
theorem s_par2 {i j : Nat} {x y : Str} {a b : Expr} {f : Mo (List Tm)} {px py pt : Pos} {kt k2 : Nat} {pt2 pos : Pos} (hc : X.calm = true) (hN : X.N.Nodup) (h : EX X E [a, b] f) (hi : X.N[i]? = some x := by rfl) (hj : X.N[j]? = some y := by rfl) (hij : i ≠ j := by decide)
    (hx : X.env.scope.names.lookup x = some .local := by rfl) (hy : X.env.scope.names.lookup y = some .local := by rfl) (hw : swappedStores [.Tuple [.Name x px, .Name y py] kt pt] (.Tuple [a, b] k2 pt2) X.env = pure (some [x, y]) := by rfl) :
    SV X E (.Assign [.Tuple [.Name x px, .Name y py] kt pt] (.Tuple [a, b] k2 pt2) pos) (sPar2 i j f) := by
  obtain ⟨t, p, q⟩ := h
  refine ⟨_, ps_par hc hN hi hj hij hx hy p hw, fun G ρ σ H De jj h => q G ρ σ H _ jj ?_⟩
  unfold sPar2 mBind at h
  match hh : f ρ, h with
  | none, h => exact h.elim
  | some (.error x), h => exact h
  | some (.ok (ρ1, [t1, t2])), h =>
    intro G1 vs H1 e1 r1
    obtain ⟨v1, vs, rfl⟩ := r1.cons
    obtain ⟨e2, r2⟩ := RT.put e1 i r1
    obtain ⟨v2, vs, rfl⟩ := r2.cons
    obtain ⟨e3, r3⟩ := RT.put e2 j r2
    cases r3.nil
    exact ⟨v1, v2, rfl, h G1 _ H1 e3⟩
  | some (.ok (ρ1, [])), h => exact h.elim
  | some (.ok (ρ1, [_])), h => exact h.elim
  | some (.ok (ρ1, _ :: _ :: _ :: _)), h => exact h.elim
theorem s_par3 {i j l : Nat} {x y z : Str} {a b c : Expr} {f : Mo (List Tm)} {px py pz pt : Pos} {kt k2 : Nat} {pt2 pos : Pos} (hc : X.calm = true) (hN : X.N.Nodup) (h : EX X E [a, b, c] f) (hi : X.N[i]? = some x := by rfl) (hj : X.N[j]? = some y := by rfl) (hl : X.N[l]? = some z := by rfl) (hij : i ≠ j := by decide) (hil : i ≠ l := by decide) (hjl : j ≠ l := by decide)
    (hx : X.env.scope.names.lookup x = some .local := by rfl) (hy : X.env.scope.names.lookup y = some .local := by rfl) (hz : X.env.scope.names.lookup z = some .local := by rfl) (hw : swappedStores [.Tuple [.Name x px, .Name y py, .Name z pz] kt pt] (.Tuple [a, b, c] k2 pt2) X.env = pure (some [x, y, z]) := by rfl) :
    SV X E (.Assign [.Tuple [.Name x px, .Name y py, .Name z pz] kt pt] (.Tuple [a, b, c] k2 pt2) pos) (sPar3 i j l f) := by
  obtain ⟨t, p, q⟩ := h
  refine ⟨_, ps_par3 hc hN hi hj hl hij hil hjl hx hy hz p hw, fun G ρ σ H De jj h => q G ρ σ H _ jj ?_⟩
  unfold sPar3 mBind at h
  match hh : f ρ, h with
  | none, h => exact h.elim
  | some (.error x), h => exact h
  | some (.ok (ρ1, [t1, t2, t3])), h =>
    intro G1 vs H1 e1 r1
    obtain ⟨v1, vs, rfl⟩ := r1.cons
    obtain ⟨e2, r2⟩ := RT.put e1 i r1
    obtain ⟨v2, vs, rfl⟩ := r2.cons
    obtain ⟨e3, r3⟩ := RT.put e2 j r2
    obtain ⟨v3, vs, rfl⟩ := r3.cons
    obtain ⟨e4, r4⟩ := RT.put e3 l r3
    cases r4.nil
    exact ⟨v1, v2, v3, rfl, h G1 _ H1 e4⟩
  | some (.ok (ρ1, [])), h => exact h.elim
  | some (.ok (ρ1, [_])), h => exact h.elim
  | some (.ok (ρ1, [_, _])), h => exact h.elim
  | some (.ok (ρ1, _ :: _ :: _ :: _ :: _)), h => exact h.elim
theorem hu65 {k : Nat} {A : Around} (r : Room k A) : A.units + 65 < cLine := by have := r.un; omega
def fuelInt (i : Nat) : En → Nat := fun ρ => match ρ[i]? with
  | some (Sl.pur (.int j)) => j.toNat + 1
  | _ => 0
theorem pass_own {P : Program} {w : World} {K : PySem.W.Frag} {mg : Str → Option Value} {base : Heap} {N : List Str} {qual : Str} {scope : Scope} {f : Addr} {cd : Value} {A : Around} {outer : List PySem.Env} {s : Shared} {H : Hp} {E : XK} :
    PassesOwn (model P w) (cxOf (L2.CX P w) P w K mg base N qual scope f cd A outer s H E).A (cxOf (L2.CX P w) P w K mg base N qual scope f cd A outer s H E).env (cxOf (L2.CX P w) P w K mg base N qual scope f cd A outer s H E).xe := passes_of rfl
end
end HB
namespace HB
open PySem L2
section
variable {X : Cx} {E : XK}
theorem J.up {K : PySem.W.Frag} {G H H' : Hp} {ρ : En} {σ : St} (j : J K G ρ σ H) (s : Same H H') : PX G H G H' := ⟨s, .refl _, j.sub.trans s, fun _ z => .inl z⟩
def EJ (X : Cx) (E : XK) (es : List Expr) (f : Str → Mo Str) : Prop := ∃ ts, PJ X es ts ∧ ∀ acc G ρ σ H (Q : Str → Hp → Prop), J X.K G ρ σ H → Post X.K E (fun _ (b c : Str) => b = c) G ρ σ H Q (f acc ρ) → tJs ts acc σ H Q
def strApp (acc : Str) : D → Option Str
  | .str y => if (acc ++ y).length ≤ 1000000 then some (acc ++ y) else none
  | _ => none
def jNil : Str → Mo Str := fun acc => mRet acc
def jCons (a : Mo D) (r : Str → Mo Str) : Str → Mo Str := fun acc => mBind a fun d => mBind (mLift (strApp acc d)) r
theorem ej_nil : EJ X E [] jNil := ⟨_, .nil, fun acc G ρ σ H Q j h => h G acc H j.refl rfl⟩
theorem ej_cons {e : Expr} {es : List Expr} {f : Mo D} {g : Str → Mo Str} (h : EV X E e f) (hr : EJ X E es g) : EJ X E (e :: es) (jCons f g) := by
  obtain ⟨t, p, q⟩ := h
  obtain ⟨ts, p2, q2⟩ := hr
  refine ⟨_, .cons p p2, fun acc G ρ σ H Q j h => q G ρ σ H _ j (Post.imp h fun G1 ρ1 v H1 d e1 r1 h1 => ?_)⟩
  unfold mBind mLift at h1
  cases hd : strApp acc d with
  | none => simp only [hd] at h1; exact h1.elim
  | some z =>
    simp only [hd] at h1
    cases r1 with
    | str y =>
      obtain ⟨h3, h4⟩ := ite_some (show (if (acc ++ y).length ≤ 1000000 then some (acc ++ y) else none) = some z from hd)
      subst h4
      exact ⟨y, rfl, line_of h3, q2 _ G1 ρ1 σ H1 Q e1.j h1⟩
    | _ => cases hd
def mJoined (f : Str → Mo Str) : Mo D := mBind (f Str.empty) fun x => mRet (.str x)
theorem ev_joined {v1 v2 : Expr} {rest : List Expr} {f : Str → Mo Str} {pos : Pos} (h : EJ X E (v1 :: v2 :: rest) f) : EV X E (.JoinedStr (v1 :: v2 :: rest) pos) (mJoined f) := by
  obtain ⟨ts, p, q⟩ := h
  refine ⟨_, pe_joined p, fun G ρ σ H Q j h => q Str.empty G ρ σ H _ j ?_⟩
  unfold mJoined mBind at h
  cases hf : f Str.empty ρ with
  | none => simp only [hf] at h; exact h
  | some r =>
    simp only [hf] at h
    cases r with
    | error x => exact h
    | ok pr =>
      obtain ⟨ρ1, y⟩ := pr
      exact fun G1 v H1 e1 r1 => by
        subst r1
        exact h G1 _ H1 e1 (.str _)
theorem ev_joined1 {e : Expr} {f : Mo D} {pos : Pos} (h : EV X E e f) : EV X E (.JoinedStr [e] pos) f := let ⟨t, p, q⟩ := h; ⟨t, pe_joined1 p, q⟩
def fmtD : D → Option D
  | .str y => if y.length ≤ 1000000 then some (.str y) else none
  | .int i => if i.natAbs.log2 < 1920 then some (.str (toString i)) else none
  | _ => none
theorem ev_fmt {e : Expr} {f : Mo D} {pos : Pos} (h : EV X E e f) : EV X E (.FormattedValue e (-1) none pos) (mUn fmtD f) := by
  obtain ⟨t, p, q⟩ := h
  refine ⟨_, pe_fmt p, fun G ρ σ H Q j h => q G ρ σ H _ j (Post.imp h fun G1 ρ1 v H1 d e1 r1 h1 => ?_)⟩
  obtain ⟨y, hy, k⟩ := Post.lift (ρ' := ρ1) h1
  cases r1 with
  | str z =>
    obtain ⟨h3, h4⟩ := ite_some (show (if z.length ≤ 1000000 then some (PyData.str z) else none) = some y from hy)
    subst h4
    exact .inl ⟨z, rfl, line_of h3, k G1 _ H1 e1.j.refl (.str _)⟩
  | int i =>
    obtain ⟨h3, h4⟩ := ite_some (show (if i.natAbs.log2 < 1920 then some (PyData.str (toString i)) else none) = some y from hy)
    subst h4
    exact .inr ⟨i, rfl, h3, k G1 _ H1 e1.j.refl (.str _)⟩
  | _ => cases hy
def strsD : List D → Option (List Str)
  | [] => some []
  | .str x :: r => (strsD r).map (x :: ·)
  | _ :: _ => none
theorem RpAll.strs {K : PySem.W.Frag} {G : Hp} : ∀ {xs : List V} {ds : List D} {bs : List Str}, RpAll K G xs ds → strsD ds = some bs → xs = bs.map V.str
  | _, [], _, .nil, h => by cases h; rfl
  | _, .str b :: r, bs, .cons h t, e => by
    cases h
    have e' : (strsD r).map (b :: ·) = some bs := e
    cases q : strsD r with
    | none => rw [q] at e'; cases e'
    | some cs =>
      rw [q] at e'
      cases e'
      rw [t.strs q]
      rfl
  | _, .none :: r, bs, _, e => by cases e
  | _, .bool _ :: r, bs, _, e => by cases e
  | _, .int _ :: r, bs, _, e => by cases e
  | _, .list _ :: r, bs, _, e => by cases e
  | _, .tuple _ :: r, bs, _, e => by cases e
  | _, .dict _ :: r, bs, _, e => by cases e
def mM1 (f : Str → D → Option D) (a b : Mo D) : Mo D := mBind a fun x => match x with
  | .str s => mBind b fun y => mLift (f s y)
  | _ => fun _ => none
theorem m1_sem {r : V → List V → Hp → VK → Prop} {t t2 : TE} {f : Str → D → Option D} {fo fe : Mo D} (q : ∀ G ρ σ H Q, J X.K G ρ σ H → Post X.K E (Rp X.K) G ρ σ H Q (fo ρ) → t σ H Q) (q2 : ∀ G ρ σ H Q, J X.K G ρ σ H → Post X.K E (Rp X.K) G ρ σ H Q (fe ρ) → t2 σ H Q)
    (k : ∀ G H a y d c (Q : VK), Same G H → Rp X.K G y d → f a d = some c → (∀ G' v H', PX G H G' H' → Rp X.K G' v c → Q v H') → r (.str a) [y] H Q) :
    ∀ G ρ σ H Q, J X.K G ρ σ H → Post X.K E (Rp X.K) G ρ σ H Q (mM1 f fo fe ρ) → tM1 r t t2 σ H Q := by
  intro G ρ σ H Q j h
  refine q G ρ σ H _ j (Post.imp h fun G1 ρ1 v H1 d e1 r1 h1 => ?_)
  cases r1 with
  | str a =>
    refine ⟨⟨a, rfl⟩, q2 G1 ρ1 σ H1 _ e1.j (Post.imp h1 fun G2 ρ2 y H2 d2 e2 r2 h2 => ?_)⟩
    obtain ⟨c, hc, k2⟩ := Post.lift (ρ' := ρ2) h2
    exact k G2 H2 a y d2 c Q e2.j.sub r2 hc fun G' v H' px rv => k2 G' v H' (e2.j.ex px) rv
  | _ => exact h1.elim
def joinD (a : Str) (d : D) : Option D := match itemsD d with
  | none => none
  | some ds => match strsD ds with
    | none => none
    | some ys => if (ys.map (·.length)).sum + ys.length * a.length ≤ 16777216 then some (.str (Txt.join a ys)) else none
theorem ev_join {o e : Expr} {apos pos : Pos} {fo fe : Mo D} (ho : EV X E o fo) (he : EV X E e fe) (hs : starEach [e] X.env = [(false, eval e X.env)] := by rfl) (hbase : attributeBase o "join" X.env (eval o X.env) = eval o X.env := by rfl) (hline : (apos.endLine == pos.line) = true := by rfl) :
    EV X E (.Call (.Attribute o "join" apos) [e] [] pos) (mM1 joinD fo fe) := by
  obtain ⟨t, p, q⟩ := ho
  obtain ⟨t2, p2, q2⟩ := he
  refine ⟨_, pe_join p p2 hs hbase hline, m1_sem q q2 fun G H a y d c Q s ry h k => ?_⟩
  unfold joinD at h
  cases h1 : itemsD d with
  | none => simp only [h1] at h; cases h
  | some ds =>
    simp only [h1] at h
    cases h2 : strsD ds with
    | none => simp only [h2] at h; cases h
    | some ys =>
      simp only [h2] at h
      obtain ⟨h3, h4⟩ := ite_some h
      subst h4
      obtain ⟨p0, xs, rfl, s0, r0⟩ := ry.items h1
      have e0 := r0.strs h2
      subst e0
      exact ⟨a, p0, ys, rfl, rfl, (sq_mono s s0).symm, h3, k G _ H (.refl s) (.str _)⟩
def splitD (a : Str) : D → Option D
  | .str b => match Nat.beq b.length 0 with
    | true => none
    | false => if a.length ≤ 1000000 then some (.list ((Txt.split a b).map PyData.str)) else none
  | _ => none
theorem RpAll.ofStrs {K : PySem.W.Frag} {G : Hp} : ∀ ys : List Str, RpAll K G (ys.map V.str) (ys.map PyData.str)
  | [] => .nil
  | y :: ys => .cons (.str y) (RpAll.ofStrs ys)
theorem ev_split {o e : Expr} {apos pos : Pos} {fo fe : Mo D} (ho : EV X E o fo) (he : EV X E e fe) (hs : starEach [e] X.env = [(false, eval e X.env)] := by rfl) (hbase : attributeBase o "split" X.env (eval o X.env) = eval o X.env := by rfl) (hline : (apos.endLine == pos.line) = true := by rfl) :
    EV X E (.Call (.Attribute o "split" apos) [e] [] pos) (mM1 splitD fo fe) := by
  obtain ⟨t, p, q⟩ := ho
  obtain ⟨t2, p2, q2⟩ := he
  refine ⟨_, pe_split p p2 hs hbase hline, m1_sem q q2 fun G H a y d c Q s ry h k => ?_⟩
  cases ry with
  | str b =>
    unfold splitD at h
    cases hb : Nat.beq b.length 0 with
    | true => simp only [hb] at h; cases h
    | false =>
      simp only [hb] at h
      obtain ⟨h3, h4⟩ := ite_some h
      subst h4
      refine ⟨a, b, rfl, rfl, (by cases hl : b.length with
        | zero => rw [hl] at hb; cases hb
        | succ n => rfl), Nat.le_trans (Nat.add_le_add_right h3 2) (by decide), fun p hp => ?_⟩
      have px : PX G H _ _ := .alloc s hp (.lst ((Txt.split a b).map V.str))
      exact k _ _ _ px (.lst upd_same (RpAll.ofStrs _))
  | _ => cases h
end
end HB
namespace HB
open PySem L2
structure Ob (K : PySem.W.Frag) (c : Str) (x : Addr) (kvs : List (D × D)) (G : Hp) (ρ : En) (σ : St) (H : Hp) : Prop where
  at_ : ∃ dx fs, H x = some (.ins (He.ga K c) dx fs) ∧ RpF K G fs kvs
  g : G x = none
  no : ¬ Ownd ρ σ x
theorem RpF.mono {K : PySem.W.Frag} {H H' : Hp} (s : Same H H') : ∀ {fs : List (Str × V)} {kvs : List (D × D)}, RpF K H fs kvs → RpF K H' fs kvs
  | _, _, .nil => .nil
  | _, _, .cons r t => .cons (r.mono s) (RpF.mono s t)
theorem Ob.ex {K : PySem.W.Frag} {c : Str} {x : Addr} {kvs : List (D × D)} {G H G' H' : Hp} {ρ ρ' : En} {σ σ' : St} (o : Ob K c x kvs G ρ σ H) (e : Ex K G ρ σ H G' ρ' σ' H') : Ob K c x kvs G' ρ' σ' H' := by
  obtain ⟨⟨dx, fs, h1, h2⟩, g, no⟩ := o
  refine ⟨⟨dx, fs, e.kept x _ h1 no, h2.mono e.g⟩, ?_, fun z => ?_⟩
  · cases q : G' x with
    | none => rfl
    | some o =>
      rcases e.new x (by rw [q]; simp) with w | w | w
      · exact absurd g w
      · rw [h1] at w; cases w
      · exact absurd w no
  · rcases e.ow x z with w | w
    · exact no w
    · rw [h1] at w; cases w
def putK (f : Str) (d : D) : List (D × D) → List (D × D)
  | [] => [(.str f, d)]
  | (.str g, e) :: r => if f = g then (.str f, d) :: r else (.str g, e) :: putK f d r
  | p :: r => p :: putK f d r
theorem RpF.put {K : PySem.W.Frag} {H : Hp} {f : Str} {v : V} {d : D} (r : Rp K H v d) : ∀ {fs : List (Str × V)} {kvs : List (D × D)}, RpF K H fs kvs → RpF K H (putF f v fs) (putK f d kvs)
  | _, _, .nil => .cons r .nil
  | (g, u) :: fs, _, .cons (d := e) (kvs := kvs) q t => by
    by_cases h : f = g
    · subst h
      have e1 : putF f v ((f, u) :: fs) = (f, v) :: fs := by simp [putF]
      have e2 : putK f d ((.str f, e) :: kvs) = (.str f, d) :: kvs := by simp [putK]
      rw [e1, e2]
      exact .cons r t
    · have e1 : putF f v ((g, u) :: fs) = (g, u) :: putF f v fs := by simp [putF, h, Ne.symm h]
      have e2 : putK f d ((.str g, e) :: kvs) = (.str g, e) :: putK f d kvs := by simp [putK, h]
      rw [e1, e2]
      exact .cons q (RpF.put r t)
section
variable {X : Cx} {E : XK}
/-- what may read the object -/
def EVO (X : Cx) (E : XK) (c : Str) (e : Expr) (f : List (D × D) → Mo D) : Prop := ∃ t, PE X e t ∧ ∀ x kvs G ρ σ H Q, J X.K G ρ σ H → Ob X.K c x kvs G ρ σ H → σ[0]? = some (some (.ref x)) → Post X.K E (Rp X.K) G ρ σ H Q (f kvs ρ) → t σ H Q
def EAO (X : Cx) (E : XK) (c : Str) (es : List Expr) (f : List (D × D) → Mo (List D)) : Prop := ∃ t, PA X es t ∧ ∀ x kvs G ρ σ H Q, J X.K G ρ σ H → Ob X.K c x kvs G ρ σ H → σ[0]? = some (some (.ref x)) → Post X.K E (RpAll X.K) G ρ σ H Q (f kvs ρ) → t σ H Q
theorem evo_of {c : Str} {e : Expr} {f : Mo D} (h : EV X E e f) : EVO X E c e (fun _ => f) := let ⟨t, p, q⟩ := h; ⟨t, p, fun _ _ G ρ σ H Q j _ _ z => q G ρ σ H Q j z⟩
def pureF (o : Option D) : Mo D := mLift o
theorem evo_fld {c a : Str} {p pos : Pos} {s : Str} (hN : X.N[0]? = some s := by rfl) (hv : Vis X.env.scope s := by first | exact Or.inl rfl | exact Or.inr (Or.inl rfl) | exact Or.inr (Or.inr rfl)) (hd : (s == ("__debug__" : Str)) = false := by decide)
    (hcd : (s == ("__classdict__" : Str)) = false := by decide) (hc : Cls X.K (He.ga X.K c)) (hn : NoAttr X.K (He.ga X.K c) a) (hb : attributeBase (.Name s p) a X.env (eval (.Name s p) X.env) = eval (.Name s p) X.env := by rfl) : EVO X E c (.Attribute (.Name s p) a pos) (fun kvs => pureF (fldIn a kvs)) := by
  refine ⟨_, pe_fld (pe_var hN hv hd hcd) hb, fun x kvs G ρ σ H Q j o h0 h => ?_⟩
  obtain ⟨y, hy, k⟩ := Post.lift (ρ' := ρ) h
  obtain ⟨⟨dx, fs, z1, z2⟩, _, _⟩ := o
  obtain ⟨v', h4, h5⟩ := z2.look hy
  exact ⟨_, h0, x, _, dx, fs, v', rfl, z1, hc, hn, h4, k G _ H j.refl h5⟩
theorem eao_nil {c : Str} : EAO X E c [] (fun _ => mNil) := ⟨_, pa_nil, fun _ _ G ρ σ H Q j _ _ h => h G _ H j.refl .nil⟩
def oCons (f : List (D × D) → Mo D) (g : List (D × D) → Mo (List D)) : List (D × D) → Mo (List D) := fun kvs => mBind (f kvs) fun d => mBind (g kvs) fun ds => mRet (d :: ds)
theorem eao_cons {c : Str} {e : Expr} {es : List Expr} {f : List (D × D) → Mo D} {g : List (D × D) → Mo (List D)} (h : EVO X E c e f) (hr : EAO X E c es g) (hs : starEach (e :: es) X.env = (false, eval e X.env) :: starEach es X.env := by rfl) : EAO X E c (e :: es) (oCons f g) := by
  obtain ⟨t, p, q⟩ := h
  obtain ⟨t2, p2, q2⟩ := hr
  refine ⟨_, pa_cons p p2 hs, fun x kvs G ρ σ H Q j o h0 h => q x kvs G ρ σ H _ j o h0 (Post.imp h fun G1 ρ1 v H1 d e1 r1 h1 => ?_)⟩
  refine q2 x kvs G1 ρ1 σ H1 _ e1.j (o.ex e1) h0 (Post.imp h1 fun G2 ρ2 vs H2 ds e2 r2 h2 => ?_)
  exact h2 G2 _ H2 e2.j.refl (.cons (r1.mono e2.g) r2)
def oCall (F : Fn) (f : List (D × D) → Mo (List D)) : List (D × D) → Mo D := fun kvs => mCall F (f kvs)
theorem evo_call {c : Str} {k : Nat} {x : Str} {ps : List Str} {F : Fn} {p pos : Pos} {e : Expr} {es : List Expr} {f : List (D × D) → Mo (List D)} (hF : FnE X.prog X.w X.K X.mg X.base k x ps F) (hr : Room k X.A) (hx : Passes (L2.CX X.prog X.w) X E)
    (ha : EAO X E c (e :: es) f) (hg : Gl X x := by rfl) (hdb : (x == ("__debug__" : Str)) = false := by decide) (he : starEach (e :: es) X.env = (false, eval e X.env) :: starEach es X.env := by rfl)
    (hpl : (backTo pos (starEach es X.env)).any (·.1) = false := by rfl) : EVO X E c (.Call (.Name x p) (e :: es) [] pos) (oCall F f) := by
  obtain ⟨⟨fd, h1, h2⟩, kp, gl, hl⟩ := hF
  obtain ⟨t, pt, q⟩ := ha
  refine ⟨_, pe_call h1 hr hg gl kp h2 .nil hx pt hdb he hpl, fun x kvs G ρ σ H Q j o h0 h => ?_⟩
  refine q x kvs G ρ σ H _ j o h0 (Post.imp h fun G1 ρ1 vs H1 ds e1 r1 h1 => ?_)
  show spP X.K _ F (vs ++ []) H1 Q E
  rw [List.append_nil]
  have h1' : Post X.K E (Rp X.K) G1 ρ1 σ H1 Q (match F ds with
    | none => none
    | some (.error x) => some (.error x)
    | some (.ok d) => some (.ok (ρ1, d))) := h1
  cases hF : F ds with
  | none => rw [hF] at h1'; exact h1'.elim
  | some r =>
    refine ⟨G1, ds, e1.j.sub, r1, hl ds (by rw [hF]; simp), ?_⟩
    rw [hF] at h1' ⊢
    cases r with
    | error x => exact fun C dx H' z => h1' C dx H' z.of0
    | ok d => exact fun G' v H' p r => h1' G' v H' (e1.j.ex p) r
/-- the statements: the object may change -/
structure OX (K : PySem.W.Frag) (c : Str) (x : Addr) (G : Hp) (ρ : En) (σ : St) (H : Hp) (kvs' : List (D × D)) (G' : Hp) (ρ' : En) (σ' : St) (H' : Hp) : Prop where
  j : J K G' ρ' σ' H'
  g : Same G G'
  new : ∀ b, G' b ≠ none → G b ≠ none ∨ H b = none ∨ Ownd ρ σ b
  kept : ∀ b o, b ≠ x → H b = some o → ¬ Ownd ρ σ b → H' b = some o
  ow : ∀ b, Ownd ρ' σ' b → Ownd ρ σ b ∨ H b = none
  dom : ∀ b, H' b = none → H b = none
  ob : Ob K c x kvs' G' ρ' σ' H'
abbrev MoO := List (D × D) → En → Option (Except Exn (En × List (D × D)))
def PostO (K : PySem.W.Frag) (E : XK) (c : Str) (x : Addr) (G : Hp) (ρ : En) (σ : St) (H : Hp) (R : Hp → Prop) : Option (Except Exn (En × List (D × D))) → Prop
  | none => False
  | some (.error y) => ∀ C dx H', XP K G ρ σ H y C dx H' → E C dx H'
  | some (.ok (ρ', kvs')) => ∀ G' σ' H', OX K c x G ρ σ H kvs' G' ρ' σ' H' → R H'
def SO (X : Cx) (E : XK) (c : Str) (sts : List Stmt) (g : MoO) : Prop := ∃ t, PSs X sts t ∧ ∀ x kvs G ρ σ H (De : Ends), J X.K G ρ σ H → Ob X.K c x kvs G ρ σ H → σ[0]? = some (some (.ref x)) → PostO X.K E c x G ρ σ H (fun H' => ∀ σ', De.nx σ' H') (g kvs ρ) → t De σ H
theorem Ex.ox {K : PySem.W.Frag} {c : Str} {x : Addr} {kvs' : List (D × D)} {G H G1 H1 G2 H2 : Hp} {ρ ρ1 ρ2 : En} {σ σ1 σ2 : St} (e : Ex K G ρ σ H G1 ρ1 σ1 H1) (o : OX K c x G1 ρ1 σ1 H1 kvs' G2 ρ2 σ2 H2) : OX K c x G ρ σ H kvs' G2 ρ2 σ2 H2 where
  j := o.j
  g := e.g.trans o.g
  new := fun b hb => by
    rcases o.new b hb with z | z | z
    · exact e.new b z
    · exact .inr (.inl (e.dom b z))
    · rcases e.ow b z with z | z
      · exact .inr (.inr z)
      · exact .inr (.inl z)
  kept := fun b o' hb q n => o.kept b o' hb (e.kept b o' q n) fun z => by
    rcases e.ow b z with z | z
    · exact n z
    · rw [q] at z; cases z
  ow := fun b hb => by
    rcases o.ow b hb with z | z
    · exact e.ow b z
    · exact .inr (e.dom b z)
  dom := fun b hb => e.dom b (o.dom b hb)
  ob := o.ob
theorem OX.trans {K : PySem.W.Frag} {c : Str} {x : Addr} {kvs kvs' : List (D × D)} {G H G1 H1 G2 H2 : Hp} {ρ ρ1 ρ2 : En} {σ σ1 σ2 : St} (e : OX K c x G ρ σ H kvs G1 ρ1 σ1 H1) (o : OX K c x G1 ρ1 σ1 H1 kvs' G2 ρ2 σ2 H2) : OX K c x G ρ σ H kvs' G2 ρ2 σ2 H2 where
  j := o.j
  g := e.g.trans o.g
  new := fun b hb => by
    rcases o.new b hb with z | z | z
    · exact e.new b z
    · exact .inr (.inl (e.dom b z))
    · rcases e.ow b z with z | z
      · exact .inr (.inr z)
      · exact .inr (.inl z)
  kept := fun b o' hb q n => o.kept b o' hb (e.kept b o' hb q n) fun z => by
    rcases e.ow b z with z | z
    · exact n z
    · rw [q] at z; cases z
  ow := fun b hb => by
    rcases o.ow b hb with z | z
    · exact e.ow b z
    · exact .inr (e.dom b z)
  dom := fun b hb => e.dom b (o.dom b hb)
  ob := o.ob
/-- a field is written -/
theorem Ob.store {K : PySem.W.Frag} {c : Str} {x : Addr} {kvs : List (D × D)} {G H : Hp} {ρ : En} {σ : St} {f : Str} {v : V} {d : D} {dx : Addr} {fs : List (Str × V)} (j : J K G ρ σ H) (o : Ob K c x kvs G ρ σ H) (h1 : H x = some (.ins (He.ga K c) dx fs)) (h2 : RpF K G fs kvs) (r : Rp K G v d) :
    OX K c x G ρ σ H (putK f d kvs) G ρ σ (upd H x (.ins (He.ga K c) dx (putF f v fs))) := by
  have ne : ∀ b, G b ≠ none → b ≠ x := fun b hb e => by subst e; exact hb o.g
  refine ⟨⟨fun b o' q => ?_, j.len, j.pur, fun i s ds q hl => ?_, j.dis⟩, .refl _, fun b hb => .inl hb, fun b o' hb q _ => by rw [upd_ne hb]; exact q, fun b hb => .inl hb, fun b hb => ?_, ⟨⟨dx, _, upd_same, h2.put r⟩, o.g, o.no⟩⟩
  · rw [upd_ne (ne b (by rw [q]; simp))]
    exact j.sub _ _ q
  · obtain ⟨a, vs, z1, z2, z3, z4⟩ := j.own i s ds q hl
    refine ⟨a, vs, z1, ?_, z3, z4⟩
    rw [upd_ne (fun e => by subst e; rw [z2] at h1; cases h1)]
    exact z2
  · by_cases e : b = x
    · subst e; rw [upd_same] at hb; cases hb
    · rw [upd_ne e] at hb; exact hb
def oEnd : MoO := fun kvs ρ => some (.ok (ρ, kvs))
theorem so_nil {c : Str} : SO X E c [] oEnd := ⟨_, pss_nil, fun x kvs G ρ σ H De j o h0 h => h G σ H ⟨j, .refl _, fun _ z => .inl z, fun _ _ _ q _ => q, fun _ z => .inl z, fun _ z => z, o⟩ σ⟩
def oPut (f : Str) (v : List (D × D) → Mo D) (g : MoO) : MoO := fun kvs ρ => match v kvs ρ with
  | some (.ok (ρ1, d)) => (match Nat.blt kvs.length 1000 with
    | true => (match g (putK f d kvs) ρ1 with
      | some (.ok r) => some (.ok r)
      | _ => none)
    | false => none)
  | _ => none
theorem so_put {c f s : Str} {e : Expr} {v : List (D × D) → Mo D} {g : MoO} {rest : List Stmt} {p pos pos' : Pos} (hv : EVO X E c e v) (hr : SO X E c rest g) (hc : Cls X.K (He.ga X.K c)) (hn : NoAttr X.K (He.ga X.K c) f) (hN : X.N[0]? = some s := by rfl)
    (hvv : Vis X.env.scope s := by first | exact Or.inl rfl | exact Or.inr (Or.inl rfl) | exact Or.inr (Or.inr rfl)) (hd : (s == ("__debug__" : Str)) = false := by decide) (hcd : (s == ("__classdict__" : Str)) = false := by decide)
    (hs : swapsWith e (some (.Attribute (.Name s p) f pos')) pos.line X.env = pure false := by rfl) : SO X E c (.Assign [.Attribute (.Name s p) f pos'] e pos :: rest) (oPut f v g) := by
  obtain ⟨t, pt, q⟩ := hv
  obtain ⟨t2, p2, q2⟩ := hr
  refine ⟨_, pss_cons (ps_fld (pe_var hN hvv hd hcd) pt hs) p2, fun x kvs G ρ σ H De j o h0 h => ?_⟩
  unfold oPut at h
  cases h1 : v kvs ρ with
  | none => simp only [h1] at h; exact h.elim
  | some r =>
    cases r with
    | error y => simp only [h1] at h; exact h.elim
    | ok pr =>
      obtain ⟨ρ1, d⟩ := pr
      simp only [h1] at h
      cases hsb : Nat.blt kvs.length 1000 with
      | false => simp only [hsb] at h; exact h.elim
      | true =>
        simp only [hsb] at h
        refine q x kvs G ρ σ H _ j o h0 ?_
        rw [h1]
        intro G1 y H1 e1 r1
        have o1 := o.ex e1
        obtain ⟨dx, fs, y1, y2⟩ := o1.at_
        have st := Ob.store (f := f) e1.j o1 y1 y2 r1
        refine ⟨_, h0, x, _, dx, fs, rfl, y1, hc, hn, ?_, ?_⟩
        · rw [y2.len]
          exact of_decide_eq_true (by simpa [Nat.blt_eq] using hsb)
        · refine q2 x (putK f d kvs) G1 ρ1 σ _ De st.j st.ob h0 ?_
          cases h3 : g (putK f d kvs) ρ1 with
          | none => simp only [h3] at h; exact h.elim
          | some r3 =>
            cases r3 with
            | error y => simp only [h3] at h; exact h.elim
            | ok pr3 =>
              obtain ⟨ρ3, kvs3⟩ := pr3
              simp only [h3] at h
              exact fun G3 σ3 H3 o3 => h G3 σ3 H3 (e1.ox (st.trans o3))
/-- if test: raise .. -/
def oIf (c : Mo Bool) (a : Mo Fl) (g : MoO) : MoO := fun kvs ρ => match c ρ with
  | none => none
  | some (.error y) => some (.error y)
  | some (.ok (ρ1, true)) => (match a ρ1 with
    | some (.error y) => some (.error y)
    | _ => none)
  | some (.ok (ρ1, false)) => g kvs ρ1
theorem so_if {c : Str} {e : Expr} {body rest : List Stmt} {pos : Pos} {fc : Mo Bool} {a : Mo Fl} {g : MoO} (hc : ET X E e fc) (ha : SVs X E body a) (h2 : SO X E c rest g) : SO X E c (.If e body [] pos :: rest) (oIf fc a g) := by
  obtain ⟨t0, p0, q0⟩ := hc
  obtain ⟨t, p, q⟩ := ha
  obtain ⟨t2, p2, q2⟩ := h2
  refine ⟨_, pss_cons (ps_if p0 p pss_nil) p2, fun x kvs G ρ σ H De j o h0 h => ?_⟩
  refine q0 G ρ σ H _ j ?_
  unfold oIf at h
  match hc : fc ρ, h with
  | none, h => exact h.elim
  | some (.error y), h => exact h
  | some (.ok (ρ1, true)), h =>
    intro G1 b H1 e1 r1
    subst r1
    refine q G1 ρ1 σ H1 _ e1.j ?_
    match ha : a ρ1, h with
    | none, h => simp only [ha] at h; exact h.elim
    | some (.error y), h => simp only [ha] at h; exact fun C dx H' z => h C dx H' (XP.trans e1 z)
    | some (.ok (ρ2, f)), h => simp only [ha] at h; exact h.elim
  | some (.ok (ρ1, false)), h =>
    intro G1 b H1 e1 r1
    subst r1
    refine q2 x kvs G1 ρ1 σ H1 De e1.j (o.ex e1) h0 ?_
    match hg : g kvs ρ1, h with
    | none, h => simp only [hg] at h; exact h.elim
    | some (.error y), h => simp only [hg] at h; exact fun C dx H' z => h C dx H' (XP.trans e1 z)
    | some (.ok (ρ2, kvs2)), h => simp only [hg] at h; exact fun G2 σ2 H2 o2 => h G2 σ2 H2 (e1.ox o2)
end
abbrev FnI := List D → Option (Except Exn (List (D × D)))
def PostK (K : PySem.W.Frag) (E : XK) (c : Str) (x : Addr) (G H : Hp) (Q : VK) : Option (Except Exn (List (D × D))) → Prop
  | none => False
  | some (.error y) => ∀ C dx H', XP K G [] [] H y C dx H' → E C dx H'
  | some (.ok kvs) => ∀ G' H', Same G G' → (∀ b, G' b ≠ none → G b ≠ none ∨ H b = none) → Same G' H' → (∀ b o, b ≠ x → H b = some o → H' b = some o) → G' x = none → (∃ dx fs, H' x = some (.ins (He.ga K c) dx fs) ∧ RpF K G' fs kvs) → Q .non H'
def spI (K : PySem.W.Frag) (c : Str) (n : Nat) (F : FnI) : Sp := fun vs H Q E => ∃ x dx us ds G, vs = .ref x :: us ∧ H x = some (.ins (He.ga K c) dx []) ∧ Same G H ∧ G x = none ∧ RpAll K G us ds ∧ ds.length = n ∧ PostK K E c x G H Q (F ds)
structure MkE (P : Program) (w : World) (K : PySem.W.Frag) (mg : Str → Option Value) (base : Heap) (k : Nat) (c : Str) (n : Nat) (F : FnI) : Prop where
  maker : Mk K (He.ga K c) (He.ma K (He.ga K c) "__init__")
  ex : ∃ fd ps, FnOk P w K mg base (L2.CX P w) k (He.ma K (He.ga K c) "__init__") fd ps (spI K c n F) ∧ Binds K fd ps []
  gl : mg c = some (.ref (He.ga K c))
  ln : ∀ ds, F ds ≠ none → ds.length = n
def mMake (c : Str) (F : FnI) (a : Mo (List D)) : Mo D := mBind a fun ds ρ => match F ds with
  | none => none
  | some (.error x) => some (.error x)
  | some (.ok kvs) => some (.ok (ρ, .dict ((.str c, .none) :: kvs)))
section
variable {X : Cx} {E : XK}
theorem make_sem {c : Str} {F : FnI} {n : Nat} {t : TA} {f : Mo (List D)} (q : ∀ G ρ σ H Q, J X.K G ρ σ H → Post X.K E (RpAll X.K) G ρ σ H Q (f ρ) → t σ H Q) (hl : ∀ ds, F ds ≠ none → ds.length = n) :
    ∀ G ρ σ H Q, J X.K G ρ σ H → Post X.K E (Rp X.K) G ρ σ H Q (mMake c F f ρ) → tMake (He.ga X.K c) (spI X.K c n F) [] E t σ H Q := by
  intro G ρ σ H Q j h
  refine q G ρ σ H _ j (Post.imp h fun G1 ρ1 vs H1 ds e1 r1 h1 => ?_)
  intro x dx hx hdx hne
  rw [List.append_nil]
  have h1' : Post X.K E (Rp X.K) G1 ρ1 σ H1 Q (match F ds with
    | none => none
    | some (.error x) => some (.error x)
    | some (.ok kvs) => some (.ok (ρ1, .dict ((.str c, .none) :: kvs)))) := h1
  have s12 : Same H1 (upd (upd H1 dx (.own x)) x (.ins (He.ga X.K c) dx [])) := (same_upd hdx).trans (same_upd (by rw [upd_ne (Ne.symm hne)]; exact hx))
  have j1 := e1.j
  have ne : ∀ b, H1 b = none ∨ (upd (upd H1 dx (.own x)) x (.ins (He.ga X.K c) dx [])) b ≠ none := fun b => by
    cases q : H1 b with
    | none => exact .inl rfl
    | some o => exact .inr (by rw [s12 _ _ q]; simp)
  cases hF : F ds with
  | none => rw [hF] at h1'; exact h1'.elim
  | some r =>
    refine ⟨x, dx, vs, ds, G1, rfl, upd_same, j1.sub.trans s12, j1.sub.free hx, r1, hl ds (by rw [hF]; simp), ?_⟩
    rw [hF] at h1' ⊢
    cases r with
    | error y => exact fun C d H' z => h1' C d H' (XP.trans (j1.ex (j1.up s12)) z.of0)
    | ok kvs =>
      intro G' H' g new sb kept gx ob
      refine ⟨rfl, ?_⟩
      obtain ⟨d', fs, z1, z2⟩ := ob
      have sg : Same G' (upd G' x (.ins (He.ga X.K c) d' fs)) := same_upd gx
      have px : PX G1 H1 (upd G' x (.ins (He.ga X.K c) d' fs)) H' := by
        refine ⟨fun b o hb => kept b o (fun e => by subst e; rw [hx] at hb; cases hb) (s12 _ _ hb), g.trans sg, fun b o hb => ?_, fun b hb => ?_⟩
        · by_cases e : b = x
          · subst e; rw [upd_same] at hb; rw [z1]; exact hb
          · rw [upd_ne e] at hb; exact sb _ _ hb
        · by_cases e : b = x
          · subst e; exact .inr hx
          · rw [upd_ne e] at hb
            rcases new b hb with w | w
            · exact .inl w
            · rcases ne b with u | u
              · exact .inr u
              · exact absurd w u
      exact h1' _ _ H' (j1.ex px) (.obj upd_same (z2.mono sg))
end
theorem J.cons0 {K : PySem.W.Frag} {G H : Hp} {ρ : En} {σ : St} {o : Option V} (j : J K G ρ σ H) : J K G (.no :: ρ) (o :: σ) H := by
  refine ⟨j.sub, congrArg (· + 1) j.len, fun i d h => ?_, fun i s ds h hl => ?_, fun i k s t ds es b h1 l1 h2 l2 h3 h4 => ?_⟩
  · cases i with
    | zero => cases h
    | succ i => exact j.pur i d h
  · cases i with
    | zero => cases h; cases hl
    | succ i => exact j.own i s ds h hl
  · cases i with
    | zero => cases h1; cases l1
    | succ i => cases k with
      | zero => cases h2; cases l2
      | succ k => exact congrArg (· + 1) (j.dis i k s t ds es b h1 l1 h2 l2 h3 h4)
theorem ownd_cons0 {ρ : En} {σ : St} {o : Option V} {b : Addr} (h : Ownd (.no :: ρ) (o :: σ) b) : Ownd ρ σ b := by
  obtain ⟨i, s, ds, h1, hl, h2⟩ := h
  cases i with
  | zero => cases h1; cases hl
  | succ i => exact ⟨i, s, ds, h1, hl, h2⟩
def runI (n : Nat) (g : MoO) : FnI := fun ds => match g [] (.no :: (ds.map Sl.pur ++ List.replicate (n - ds.length) Sl.no)) with
  | none => none
  | some (.error y) => some (.error y)
  | some (.ok (_, kvs)) => some (.ok kvs)
def guardI (n : Nat) (F : FnI) : FnI := fun ds => match Nat.beq ds.length n with
  | true => F ds
  | false => none
theorem start_cons {x : Str} {N : List Str} {v : V} {vs : List V} : start (x :: N) (v :: vs) = some v :: start N vs := by
  unfold L2.start
  simp [Nat.succ_sub_succ]
theorem init_ok {P : Program} {w : World} {K : PySem.W.Frag} {mg : Str → Option Value} {base : Heap} {c qual self : Str} {st : Stmt} {fd : FuncData} {N ps : List Str} {k : Nat} {g : MoO} (F : FunD K "__init__" qual (defArgs st) (defBody st) (defScope st) [] [] (He.ma K (He.ga K c) "__init__") fd) (S : FnScope (self :: N) (self :: ps) (defScope st))
    (M : Mk K (He.ga K c) (He.ma K (He.ga K c) "__init__")) (gl : mg c = some (.ref (He.ga K c)))
    (b : ∀ (kV doc pm : Value) (an : Option Addr) (cdv ct : Value) (us : List Value), us.length = (self :: ps).length → bindArgs (PySem.W.fnOf "__init__" qual (defArgs st) (defBody st) (defScope st) .none kV doc pm an cdv ct) ⟨us, []⟩ = pure ((self :: ps).zip us))
    (hb : ∀ (cdv : Value) (A : Around) (outer : List PySem.Env) (s : Shared) (H : Hp) (E : XK), Room k (A.deeper (PyProof.Rows.envOfC qual (defScope st) s.heap.objs.size (He.ma K (He.ga K c) "__init__") cdv)) → SO (cxOf (L2.CX P w) P w K mg base (self :: N) qual (defScope st) (He.ma K (He.ga K c) "__init__") cdv A outer s H E) E c (defBody st) g) :
    MkE P w K mg base (k + 1) c ps.length (guardI ps.length (runI N.length g)) := by
  have gl2 : ∀ ds, guardI ps.length (runI N.length g) ds ≠ none → ds.length = ps.length := fun ds h => by
    unfold guardI at h
    cases q : Nat.beq ds.length ps.length with
    | true => exact Nat.eq_of_beq_eq_true q
    | false => rw [q] at h; exact absurd rfl h
  refine ⟨M, ⟨fd, self :: ps, F.ok S (fun vs H Q E h => ?_) fun cdv A outer s H vs Q E hr h => ?_, F.bindsN b⟩, gl, gl2⟩
  · obtain ⟨x, dx, us, ds, G, rfl, _, _, _, r, hl, _⟩ := h
    show us.length + 1 = ps.length + 1
    rw [r.length, hl]
  · obtain ⟨t, p, q⟩ := hb cdv A outer s H E hr
    refine ⟨t, p, ?_⟩
    obtain ⟨x, dx, us, ds, G, rfl, hx, sb, gx, r, hl, k⟩ := h
    rw [start_cons]
    have j0 : J K G (.no :: (ds.map Sl.pur ++ List.replicate (N.length - ds.length) Sl.no)) (some (.ref x) :: start N us) H := (start_j sb r).cons0
    have no : ∀ b, ¬ Ownd (.no :: (ds.map Sl.pur ++ List.replicate (N.length - ds.length) Sl.no)) (some (.ref x) :: start N us) b := fun b z => start_no (ownd_cons0 z)
    refine q x [] G _ _ H _ j0 ⟨⟨dx, [], hx, .nil⟩, gx, no x⟩ rfl ?_
    unfold guardI at k
    have e0 : Nat.beq ds.length ps.length = true := by rw [hl]; exact Nat.beq_refl _
    rw [e0] at k
    unfold runI at k
    match hg : g [] (.no :: (ds.map Sl.pur ++ List.replicate (N.length - ds.length) Sl.no)), k with
    | none, k => simp only [hg] at k; exact k.elim
    | some (.error y), k => simp only [hg] at k; exact fun C d H' z => k C d H' (z.to0 no)
    | some (.ok (ρ', kvs)), k =>
      simp only [hg] at k
      intro G' σ' H' o
      intro σ''
      exact k G' H' o.g (fun b hb => (o.new b hb).elim .inl fun z => z.elim .inr fun z => absurd z (no b)) o.j.sub (fun b o' hb q => o.kept b o' hb q (no b)) o.ob.g o.ob.at_
end HB
namespace HB
open PySem L2
section
variable {mg : Str → Option Value} {K : PySem.W.Frag} {h : Heap}
theorem gl_int {x : Str} {i : Int} (X : K.In h) (G : h.Ns mainGlobals mg) (c : (He.Fa.int x i).ok K = true) : GlD K mg x (.int i) := by
  obtain ⟨t, e⟩ := He.int_ok X G c
  exact ⟨.int i, .int i t, e, ⟨t, rfl⟩, fun H => .int i⟩
theorem gl_str {x z : Str} (X : K.In h) (G : h.Ns mainGlobals mg) (c : (He.Fa.str x z).ok K = true) : GlD K mg x (.str z) := by
  obtain ⟨t, e⟩ := He.str_ok X G c
  exact ⟨.str z, .str z t, e, ⟨t, rfl⟩, fun H => .str z⟩
end
def isT : Option (Except Exn D) → Bool
  | some (.ok (.bool true)) => true
  | _ => false
theorem isT_ok {o : Option (Except Exn D)} (h : isT o = true) : o = some (.ok (.bool true)) := by
  unfold isT at h
  split at h
  · rfl
  · cases h
def spE (sp : Sp) : Sp := fun vs H Q _ => sp vs H Q fun _ _ _ => False
theorem ok_cx0 {P : Program} {w : World} {K : PySem.W.Frag} {mg : Str → Option Value} {base : Heap} {k : Nat} {f : Addr} {fd : FuncData} {ps : List Str} {sp : Sp} (F : FnOk P w K mg base (L2.CX P w) k f fd ps sp) : FnOk P w K mg base CX0 k f fd ps (spE sp) := by
  refine ⟨fun vs H Q E q => F.len _ _ _ _ q, fun A outer s H args us vs Q E hr he hb hv hs => ?_⟩
  refine codeAny_mono (F.run A outer s H args us vs Q _ hr he hb hv hs) fun r s' h => ?_
  cases r with
  | error e =>
    obtain ⟨_, _, _, _, _, _, _, _, _, _, _, _, z⟩ := (show L2.CX P w outer H s (fun _ _ _ => False) e s' from h)
    exact z.elim
  | ok fl => cases fl <;> exact h
theorem fn_ok0 {P : Program} {w : World} {K : PySem.W.Frag} {mg : Str → Option Value} {base : Heap} {x : Str} {st : Stmt} {fd : FuncData} {N ps : List Str} {k : Nat} {g : Mo Fl} (F : FunD K x x (defArgs st) (defBody st) (defScope st) [] [] (He.ga K x) fd) (S : FnScope N ps (defScope st))
    (hb : ∀ (cdv : Value) (A : Around) (outer : List PySem.Env) (s : Shared) (H : Hp) (E : XK), Room k (A.deeper (PyProof.Rows.envOfC x (defScope st) s.heap.objs.size (He.ga K x) cdv)) → SVs (cxOf (L2.CX P w) P w K mg base N x (defScope st) (He.ga K x) cdv A outer s H E) E (defBody st) g) :
    FnOk P w K mg base (L2.CX P w) (k + 1) (He.ga K x) fd ps (spP K ps.length (guard ps.length (runF N.length g))) := by
  refine F.ok S (fun vs H Q E h => ?_) fun cdv A outer s H vs Q E hr h => ?_
  · obtain ⟨G, ds, _, r, hl, _⟩ := h
    rw [r.length, hl]
  · obtain ⟨t, p, q⟩ := hb cdv A outer s H E hr
    exact ⟨t, p, body_sem q h⟩
theorem rp_ints {K : PySem.W.Frag} {H : Hp} : ∀ ns : List Int, RpAll K H (ns.map V.int) (ns.map PyData.int)
  | [] => .nil
  | n :: ns => .cons (.int n) (rp_ints ns)
/-- the script as a datum -/
def scr (ns : List Int) : D := .dict [(.none, .list (ns.map PyData.int))]
theorem law_sp {K : PySem.W.Frag} {F : Fn} {n : Nat} (hT : ∀ ns : List Int, ns.length ≤ n → isT (F [scr ns]) = true) (H : Hp) (a : Addr) (ns : List Int) (hl : ns.length ≤ n) (hS : SqL K H a (ns.map V.int)) :
    spE (spP K 1 F) [.ref a] H (fun v _ => v = .bl true) fun _ _ _ => False := by
  refine ⟨H, [scr ns], .refl _, .cons (.frz hS (rp_ints ns)) .nil, rfl, ?_⟩
  rw [isT_ok (hT ns hl)]
  intro G' v H' _ r
  cases r
  rfl
end HB
namespace HB
open PySem L2
def tI (K : PySem.W.Frag) (E : XK) (f : Mo Src) (js : List Nat) : TI := fun σ H R => ∃ G ρ, J K G ρ σ H ∧ PostI K E js G ρ σ H R (f ρ)
section
variable {X : Cx} {E : XK}
theorem IV.pi {tg iter : Expr} {f : Mo Src} {js : List Nat} (h : IV X E tg iter f js) : PI X tg iter (tI X.K E f js) := by
  obtain ⟨t, p, q⟩ := h
  exact ⟨fun pins s σ H R I ⟨G, ρ, j, z⟩ => p.run pins s σ H R I (q G ρ σ H R j z)⟩
theorem J.re {K : PySem.W.Frag} {G H G' H' : Hp} {ρ : En} {σ : St} (j : J K G ρ σ H) (no : ∀ b, ¬ Ownd ρ σ b) (g : Same G G') (s : Same G' H') : J K G' ρ σ H' := by
  refine ⟨s, j.len, fun i d h => ?_, fun i s0 ds h hl => ?_, j.dis⟩
  · obtain ⟨v, h1, h2⟩ := j.pur i d h
    exact ⟨v, h1, h2.mono g⟩
  · obtain ⟨a, vs, h1, _⟩ := j.own i s0 ds h hl
    exact absurd ⟨i, s0, ds, h, hl, h1⟩ (no a)
end
end HB
namespace HB
open PySem L2
def gCP : Mo Fl := sSeq (sPar2 0 1 (xConsP (mBuilt absD (mCons (mVar 0) (mNil))) (xConsP (mBuilt absD (mCons (mVar 1) (mNil))) (xNil))))
  (sSeq (sWhile (fuelInt 1) (mTest (mOp (cmpD gtI) (mVar 1) (mRet (.int 0)))) (sPar2 0 1 (xConsP (mVar 1) (xConsP (mOp modD (mVar 0) (mVar 1)) (xNil)))))
  (sRet (mVar 0)))
theorem cp_loop : ∀ (m n k : Nat), m < k → whileL (mTest (mOp (cmpD gtI) (mVar 1) (mRet (.int 0)))) (sPar2 0 1 (xConsP (mVar 1) (xConsP (mOp modD (mVar 0) (mVar 1)) (xNil)))) k [.pur (.int n), .pur (.int m)] = some (.ok ([.pur (.int (Nat.gcd n m : Nat)), .pur (.int 0)], .nx)) := by
  refine fun m => Nat.strongRecOn m fun m ih => ?_
  · intro n k hk
    cases k with
    | zero => omega
    | succ k =>
      cases m with
      | zero => simp [whileL, mTest, mOp, mVar, mRet, mBind, mLift, cmpD, gtI, boolD]
      | succ m =>
        have h1 : gtI ((m + 1 : Nat) : Int) 0 = true := by unfold gtI; exact decide_eq_true (by omega)
        have h2 : (0 : Int) < ((m + 1 : Nat) : Int) := by omega
        have e : whileL (mTest (mOp (cmpD gtI) (mVar 1) (mRet (.int 0)))) (sPar2 0 1 (xConsP (mVar 1) (xConsP (mOp modD (mVar 0) (mVar 1)) (xNil)))) (k + 1) [.pur (.int n), .pur (.int ((m + 1 : Nat) : Int))] =
            whileL (mTest (mOp (cmpD gtI) (mVar 1) (mRet (.int 0)))) (sPar2 0 1 (xConsP (mVar 1) (xConsP (mOp modD (mVar 0) (mVar 1)) (xNil)))) k [.pur (.int ((m + 1 : Nat) : Int)), .pur (.int ((n % (m + 1) : Nat) : Int))] := by
          simp only [whileL, mTest, mOp, mVar, mRet, mBind, mLift, cmpD, boolD, List.getElem?_cons_succ, List.getElem?_cons_zero, h1, sPar2, xConsP, xNil, modD, h2, if_true, slOf, List.set]
          rfl
        rw [e, ih (n % (m + 1)) (Nat.mod_lt _ (Nat.succ_pos m)) (m + 1) k (Nat.lt_of_lt_of_le (Nat.mod_lt n (Nat.succ_pos m)) (by omega))]
        rw [Nat.gcd_comm (m + 1), ← Nat.gcd_rec (m + 1) n, Nat.gcd_comm]
def M_common_part : Fn
  | [.int a, .int b] => some (.ok (.int (Nat.gcd a.natAbs b.natAbs : Nat)))
  | _ => none
theorem absI (i : Int) : (if i < 0 then -i else i) = (i.natAbs : Int) := by
  split <;> omega
theorem cp_run (a b : Int) : runF 2 gCP [.int a, .int b] = some (.ok (.int (Nat.gcd a.natAbs b.natAbs : Nat))) := by
  have e : gCP [.pur (.int a), .pur (.int b)] = sSeq (sWhile (fuelInt 1) (mTest (mOp (cmpD gtI) (mVar 1) (mRet (.int 0)))) (sPar2 0 1 (xConsP (mVar 1) (xConsP (mOp modD (mVar 0) (mVar 1)) (xNil))))) (sRet (mVar 0)) [.pur (.int (a.natAbs : Int)), .pur (.int (b.natAbs : Int))] := by
    rw [← absI a, ← absI b]
    rfl
  have e2 : gCP [.pur (.int a), .pur (.int b)] = some (.ok ([.pur (.int (Nat.gcd a.natAbs b.natAbs : Nat)), .pur (.int 0)], .rt (.int (Nat.gcd a.natAbs b.natAbs : Nat)))) := by
    rw [e]
    unfold sSeq mBind sWhile
    have ef : fuelInt 1 [.pur (.int (a.natAbs : Int)), .pur (.int (b.natAbs : Int))] = b.natAbs + 1 := rfl
    rw [ef, cp_loop b.natAbs a.natAbs (b.natAbs + 1) (Nat.lt_succ_self _)]
    rfl
  show (match gCP [.pur (.int a), .pur (.int b)] with
    | none => none
    | some (.error x) => some (.error x)
    | some (.ok (_, .nx)) => some (.ok .none)
    | some (.ok (_, .rt d)) => some (.ok d)
    | some (.ok (_, _)) => none : Option (Except Exn D)) = _
  rw [e2]
theorem mir_common_part (ds : List D) (r : Except Exn D) (h : M_common_part ds = some r) : guard 2 (runF 2 gCP) ds = some r := by
  unfold M_common_part at h
  split at h
  · rw [← h]
    exact cp_run _ _
  · cases h
/-- in lowest terms -/
def lowD (t b : Int) : Option (Except Exn D) := match Nat.blt 0 (Nat.gcd t.natAbs b.natAbs) && Nat.blt (Nat.gcd t.natAbs b.natAbs).log2 9000 with
  | false => none
  | true => match gtI b 0 with
    | true => some (.ok (.tuple [.int (t / (Nat.gcd t.natAbs b.natAbs : Nat)), .int (b / (Nat.gcd t.natAbs b.natAbs : Nat))]))
    | false => some (.ok (.tuple [.int (-t / (Nat.gcd t.natAbs b.natAbs : Nat)), .int (-b / (Nat.gcd t.natAbs b.natAbs : Nat))]))
theorem fdiv_nat {i : Int} {g : Nat} (h1 : 0 < g) (h2 : g.log2 < 9000) : fdivD (.int i) (.int (g : Int)) = some (.int (i / (g : Int))) := by
  unfold fdivD
  simp only
  rw [if_pos ⟨by omega, by rw [Int.natAbs_natCast]; exact h2⟩]
def gLt : Mo Fl := sRet (mOp (cmpD ltI) (mOp mulD (mOp ixD (mVar 0) (mRet (.int 0))) (mOp ixD (mVar 1) (mRet (.int 1)))) (mOp mulD (mOp ixD (mVar 1) (mRet (.int 0))) (mOp ixD (mVar 0) (mRet (.int 1)))))
def M_is_less : Fn
  | [.tuple [.int a, .int b], .tuple [.int c, .int d]] => (match mulFit a d && mulFit c b with
    | true => some (.ok (.bool (ltI (a * d) (c * b))))
    | false => none)
  | _ => none
theorem mul_of {i j : Int} (h : mulFit i j = true) : mulD (.int i) (.int j) = some (.int (i * j)) := by
  unfold mulD
  simp only [h]
theorem ix0 (a b : D) : ixD (.tuple [a, b]) (.int 0) = some a := rfl
theorem ix1 (a b : D) : ixD (.tuple [a, b]) (.int 1) = some b := rfl
theorem mir_is_less (ds : List D) (r : Except Exn D) (h : M_is_less ds = some r) : guard 2 (runF 2 gLt) ds = some r := by
  unfold M_is_less at h
  split at h
  · rename_i a b c d
    cases hc : mulFit a d && mulFit c b with
    | false => rw [hc] at h; cases h
    | true =>
      rw [hc] at h
      obtain ⟨c1, c2⟩ := Bool.and_eq_true_iff.mp hc
      have h : some (Except.ok (PyData.bool (ltI (a * d) (c * b)))) = some r := h
      rw [← h]
      simp [guard, runF, gLt, sRet, mOp, mBind, mLift, mVar, mRet, ix0, ix1, mul_of c1, mul_of c2, cmpD]
  · cases h
end HB
namespace HB
open PySem L2
theorem J.putX {K : PySem.W.Frag} {G H G' H' : Hp} {ρ : En} {σ : St} (j : J K G ρ σ H) {i : Nat} {s : Sl} {ds es : List D} {a : Addr} {ws : List V} (h : ρ[i]? = some s) (hl : s.ls = some ds) (ha : σ[i]? = some (some (.ref a))) (g : Same G G') (new : ∀ b, G' b ≠ none → G b ≠ none ∨ H b = none) (sb : Same G' H')
    (kept : ∀ b o, b ≠ a → H b = some o → H' b = some o) (dom : ∀ b, H' b = none → H b = none) (ga : G' a = none) (hw : H' a = some (.lst ws)) (r : RpAll K G' ws es) : Ex K G ρ σ H G' (ρ.set i (s.put es)) σ H' := by
  obtain ⟨a', vs, h1, h2, h3, h4⟩ := j.own i s ds h hl
  rw [ha] at h1
  cases h1
  have od : Ownd ρ σ a := ⟨i, s, ds, h, hl, ha⟩
  have np : ∀ d, s.put es ≠ .pur d := fun d => by
    cases s with
    | no => cases hl
    | pur d => cases hl
    | own _ => intro z; cases z
    | box _ => intro z; cases z
  have c : ∀ (m : Nat) (t : Sl) (us : List D), (ρ.set i (s.put es))[m]? = some t → t.ls = some us → ∃ t' us', ρ[m]? = some t' ∧ t'.ls = some us' := fun m t us hm ht => by
    rcases getElem?_set_cases hm with ⟨z1, _⟩ | ⟨_, z⟩
    · subst z1; exact ⟨s, ds, h, hl⟩
    · exact ⟨t, us, z, ht⟩
  refine ⟨⟨sb, by rw [List.length_set]; exact j.len, fun k d q => ?_, fun k t fs q ht => ?_, fun k l t u fs gs b q1 l1 q2 l2 q3 q4 => ?_⟩, g, fun b hb => (new b hb).elim .inl fun z => .inr (.inl z), fun b o q n => kept b o (fun z => by subst z; exact n od) q, fun b hb => ?_, dom, fun k fs q => ?_⟩
  · rcases getElem?_set_cases q with ⟨_, z⟩ | ⟨_, q'⟩
    · exact absurd z.symm (np d)
    · obtain ⟨v, y1, y2⟩ := j.pur k d q'
      exact ⟨v, y1, y2.mono g⟩
  · rcases getElem?_set_cases q with ⟨z1, z⟩ | ⟨z1, q'⟩
    · subst z
      subst z1
      rw [Sl.put_ls hl] at ht
      cases ht
      exact ⟨a, ws, ha, hw, ga, r⟩
    · obtain ⟨b, us, g1, g2, g3, g4⟩ := j.own k t fs q' ht
      have ne : b ≠ a := fun z => by
        subst z
        exact z1 (j.dis k i t s fs ds b q' ht h hl g1 ha)
      refine ⟨b, us, g1, kept b _ ne g2, ?_, g4.mono g⟩
      cases y : G' b with
      | none => rfl
      | some o =>
        rcases new b (by rw [y]; simp) with w | w
        · exact absurd g3 w
        · rw [g2] at w; cases w
  · obtain ⟨t1, u1, c1, c2⟩ := c k t fs q1 l1
    obtain ⟨t2, u2, c3, c4⟩ := c l u gs q2 l2
    exact j.dis k l t1 t2 u1 u2 b c1 c2 c3 c4 q3 q4
  · obtain ⟨k, t, us, q1, l1, q2⟩ := hb
    obtain ⟨t1, u1, c1, c2⟩ := c k t us q1 l1
    exact .inl ⟨k, t1, u1, c1, c2, q2⟩
  · rcases getElem?_set_cases q with ⟨z1, z⟩ | ⟨z1, q'⟩
    · subst z1
      cases s with
      | no => cases hl
      | pur d => cases hl
      | own _ => cases z
      | box es0 => exact ⟨⟨es0, h⟩, rfl⟩
    · exact ⟨⟨fs, q'⟩, rfl⟩
abbrev FnX := List D → List D → Option (Except Exn (List D × D))
def PostBX (K : PySem.W.Frag) (G H : Hp) (a : Addr) (Q : VK) : Option (Except Exn (List D × D)) → Prop
  | some (.ok (es, d)) => ∀ G' v H' ws, Same G G' → (∀ b, G' b ≠ none → G b ≠ none ∨ H b = none) → Same G' H' → (∀ b o, b ≠ a → H b = some o → H' b = some o) → (∀ b, H' b = none → H b = none) → G' a = none → H' a = some (.lst ws) → RpAll K G' ws es → Rp K G' v d → Q v H'
  | _ => False
def spX (K : PySem.W.Frag) (n : Nat) (F : FnX) : Sp := fun vs H Q _ => ∃ a us us' ds ds' G, vs = .ref a :: us' ∧ H a = some (.lst us) ∧ G a = none ∧ Same G H ∧ RpAll K G us ds ∧ RpAll K G us' ds' ∧ ds'.length = n ∧ PostBX K G H a Q (F ds ds')
structure FnXE (P : Program) (w : World) (K : PySem.W.Frag) (mg : Str → Option Value) (base : Heap) (k : Nat) (x : Str) (n : Nat) (F : FnX) : Prop where
  ex : ∃ fd ps, FnOk P w K mg base (L2.CX P w) k (He.ga K x) fd ps (spX K n F) ∧ Binds K fd ps []
  kp : PySem.W.keepIn K (.ref (He.ga K x)) = true
  gl : mg x = some (.ref (He.ga K x))
  ln : ∀ ds ds', F ds ds' ≠ none → ds'.length = n
def atL (ρ : En) (i : Nat) : Option (Sl × List D) := match ρ[i]? with
  | none => none
  | some s => match s.ls with
    | none => none
    | some ds => some (s, ds)
theorem atL_ok {ρ : En} {i : Nat} {s : Sl} {ds : List D} (h : atL ρ i = some (s, ds)) : ρ[i]? = some s ∧ s.ls = some ds := by
  unfold atL at h
  split at h
  · cases h
  · rename_i s' e
    split at h
    · cases h
    · rename_i ds' e'
      cases h
      exact ⟨e, e'⟩
def mCallX (F : FnX) (i : Nat) (f : Mo (List D)) : Mo D := fun ρ => match atL ρ i with
  | none => none
  | some _ => mBind f (fun as ρ1 => match atL ρ1 i with
    | none => none
    | some (s, ds) => match F ds as with
      | some (.ok (es, d)) => some (.ok (ρ1.set i (s.put es), d))
      | _ => none) ρ
section
variable {X : Cx} {E : XK}
theorem ev_callX {k n : Nat} {x y : Str} {F : FnX} {i : Nat} {p p1 pos : Pos} {es : List Expr} {f : Mo (List D)} (hF : FnXE X.prog X.w X.K X.mg X.base k x n F) (hr : Room k X.A) (hx : Passes (L2.CX X.prog X.w) X E)
    (ha : EA X E es f) (hN : X.N[i]? = some y := by rfl) (hv : Vis X.env.scope y := by first | exact Or.inl rfl | exact Or.inr (Or.inl rfl) | exact Or.inr (Or.inr rfl)) (hd : (y == ("__debug__" : Str)) = false := by decide) (hcd : (y == ("__classdict__" : Str)) = false := by decide)
    (hg : Gl X x := by rfl) (hdb : (x == ("__debug__" : Str)) = false := by decide) (he : starEach (.Name y p1 :: es) X.env = (false, eval (.Name y p1) X.env) :: starEach es X.env := by rfl)
    (hpl : (backTo pos (starEach es X.env)).any (·.1) = false := by rfl) : EV X E (.Call (.Name x p) (.Name y p1 :: es) [] pos) (mCallX F i f) := by
  obtain ⟨⟨fd, ps, h1, h2⟩, kp, gl, hl⟩ := hF
  obtain ⟨t, pt, q⟩ := ha
  refine ⟨_, pe_call h1 hr hg gl kp h2 .nil hx (pa_cons (pe_var hN hv hd hcd) pt he) hdb he hpl, fun G ρ σ H Q j h => ?_⟩
  unfold mCallX at h
  cases h0 : atL ρ i with
  | none => rw [h0] at h; exact h.elim
  | some sd =>
    obtain ⟨s0, ds0⟩ := sd
    rw [h0] at h
    obtain ⟨z1, z2⟩ := atL_ok h0
    obtain ⟨a, vs, y1, y2, y3, y4⟩ := j.own i s0 ds0 z1 z2
    refine ⟨.ref a, y1, q G ρ σ H _ j (Post.imp h fun G1 ρ1 us H1 as e1 r1 k => ?_)⟩
    have k' : Post X.K E (Rp X.K) G1 ρ1 σ H1 Q (match atL ρ1 i with
      | none => none
      | some (s, ds) => match F ds as with
        | some (.ok (es, d)) => some (.ok (ρ1.set i (s.put es), d))
        | _ => none) := k
    show spX X.K n F ((.ref a :: us) ++ []) H1 Q E
    rw [List.append_nil]
    cases h3 : atL ρ1 i with
    | none => rw [h3] at k'; exact k'.elim
    | some sd =>
      obtain ⟨s, ds⟩ := sd
      simp only [h3] at k'
      obtain ⟨w1, w2⟩ := atL_ok h3
      obtain ⟨a2, ws, u1, u2, u3, u4⟩ := e1.j.own i s ds w1 w2
      rw [y1] at u1
      cases u1
      match hf : F ds as, k' with
      | none, k' => simp only [hf] at k'; exact k'.elim
      | some (.error _), k' => simp only [hf] at k'; exact k'.elim
      | some (.ok (es2, d)), k' =>
        simp only [hf] at k'
        refine ⟨a, ws, us, ds, as, G1, rfl, u2, u3, e1.j.sub, u4, r1, hl ds as (by rw [hf]; simp), ?_⟩
        rw [hf]
        intro G' v H' ws' b1 b2 b3 b4 b5 b6 b7 b8 b9
        exact k' G' v H' (e1.j.putX w1 w2 y1 b1 b2 b3 b4 b5 b6 b7 b8) b9
/-- xs[e], xs[e] = e2 of such a list -/
def mIxB (i : Nat) (f : Mo D) : Mo D := fun ρ => match atL ρ i with
  | none => none
  | some _ => mBind f (fun k ρ1 => match atL ρ1 i with
    | some (_, ds) => mLift (ixD (.list ds) k) ρ1
    | none => none) ρ
theorem ev_ixB {i : Nat} {x : Str} {e : Expr} {f : Mo D} {p1 pos : Pos} (h : EV X E e f) (hN : X.N[i]? = some x := by rfl) (hv : Vis X.env.scope x := by first | exact Or.inl rfl | exact Or.inr (Or.inl rfl) | exact Or.inr (Or.inr rfl)) (hd : (x == ("__debug__" : Str)) = false := by decide) (hcd : (x == ("__classdict__" : Str)) = false := by decide)
    (hs : PlainIx e := by exact fun _ _ => rfl) : EV X E (.Subscript (.Name x p1) e pos) (mIxB i f) := by
  obtain ⟨t, p, q⟩ := h
  refine ⟨_, pe_ix ix_seq (pe_var hN hv hd hcd) p hs, fun G ρ σ H Q j h => ?_⟩
  unfold mIxB at h
  cases h0 : atL ρ i with
  | none => rw [h0] at h; exact h.elim
  | some sd =>
    obtain ⟨s0, ds0⟩ := sd
    rw [h0] at h
    obtain ⟨z1, z2⟩ := atL_ok h0
    obtain ⟨a, vs, y1, y2, y3, y4⟩ := j.own i s0 ds0 z1 z2
    refine ⟨.ref a, y1, q G ρ σ H _ j (Post.imp h fun G1 ρ1 y H1 k e1 r1 h5 => ?_)⟩
    have k' : Post X.K E (Rp X.K) G1 ρ1 σ H1 Q (match atL ρ1 i with
      | some (_, ds) => mLift (ixD (.list ds) k) ρ1
      | none => none) := h5
    cases h3 : atL ρ1 i with
    | none => rw [h3] at k'; exact k'.elim
    | some sd =>
      obtain ⟨s, ds⟩ := sd
      simp only [h3] at k'
      obtain ⟨w1, w2⟩ := atL_ok h3
      obtain ⟨a2, ws, u1, u2, u3, u4⟩ := e1.j.own i s ds w1 w2
      rw [y1] at u1
      cases u1
      obtain ⟨c, hc, kk⟩ := Post.lift (ρ' := ρ1) k'
      cases r1 with
      | int n =>
        obtain ⟨v, q1, q2⟩ := u4.atI hc
        exact .inl ⟨_, _, _, _, rfl, rfl, .of u2, q1, kk G1 v H1 e1.j.refl q2⟩
      | _ => cases hc
def sPutB (i : Nat) (fi fe : Mo D) : Mo Fl := mBind fe fun d ρ => match atL ρ i with
  | none => none
  | some _ => mBind fi (fun k ρ1 => match atL ρ1 i with
    | none => none
    | some (s, ds) => match intOf k with
      | some n => match ixN ds.length n with
        | some m => some (.ok (ρ1.set i (s.put (ds.set m d)), .nx))
        | none => none
      | none => none) ρ
theorem s_putB {i : Nat} {x : Str} {e ie : Expr} {fi fe : Mo D} {p1 tpos pos : Pos} (h : EV X E e fe) (hi : EV X E ie fi) (hN : X.N[i]? = some x := by rfl) (hv : Vis X.env.scope x := by first | exact Or.inl rfl | exact Or.inr (Or.inl rfl) | exact Or.inr (Or.inr rfl)) (hd : (x == ("__debug__" : Str)) = false := by decide) (hcd : (x == ("__classdict__" : Str)) = false := by decide)
    (hpg : ∀ {to ti : TE} {t : TSet}, PE X (.Name x p1) to → PE X ie ti → PSet X t → PG X (.Subscript (.Name x p1) ie tpos) (gSub to ti t) := by exact fun a b c => pg_sub a b c)
    (hs : swapsWithSole [.Subscript (.Name x p1) ie tpos] e pos.line X.env = pure false := by rfl) (hw : swappedStores [.Subscript (.Name x p1) ie tpos] e X.env = pure none := by rfl)
    (ha : (assignEach [.Subscript (.Name x p1) ie tpos] X.env).map (·.2) = [assign (.Subscript (.Name x p1) ie tpos) X.env] := by rfl) : SV X E (.Assign [.Subscript (.Name x p1) ie tpos] e pos) (sPutB i fi fe) := by
  obtain ⟨t, p, q⟩ := h
  obtain ⟨ti, pi, qi⟩ := hi
  refine ⟨_, ps_asg p (hpg (pe_var hN hv hd hcd) pi set_list) hs hw ha, fun G ρ σ H De j h => q G ρ σ H _ j (PostS.imp h fun G1 ρ1 v H1 d e1 r1 k => ?_)⟩
  have k' : PostS X.K E G1 ρ1 σ H1 De (match atL ρ1 i with
    | none => none
    | some _ => mBind fi (fun k ρ1 => match atL ρ1 i with
      | none => none
      | some (s, ds) => match intOf k with
        | some n => match ixN ds.length n with
          | some m => some (.ok (ρ1.set i (s.put (ds.set m d)), .nx))
          | none => none
        | none => none) ρ1) := k
  cases h0 : atL ρ1 i with
  | none => rw [h0] at k'; exact k'.elim
  | some sd =>
    obtain ⟨s0, ds0⟩ := sd
    rw [h0] at k'
    obtain ⟨z1, z2⟩ := atL_ok h0
    obtain ⟨a, vs, y1, y2, y3, y4⟩ := e1.j.own i s0 ds0 z1 z2
    refine ⟨.ref a, y1, qi G1 ρ1 σ H1 _ e1.j (PostS.imp k' fun G2 ρ2 iv H2 kd e2 r2 k2 => ?_)⟩
    have k2' : PostS X.K E G2 ρ2 σ H2 De (match atL ρ2 i with
      | none => none
      | some (s, ds) => match intOf kd with
        | some n => match ixN ds.length n with
          | some m => some (.ok (ρ2.set i (s.put (ds.set m d)), .nx))
          | none => none
        | none => none) := k2
    cases h3 : atL ρ2 i with
    | none => rw [h3] at k2'; exact k2'.elim
    | some sd =>
      obtain ⟨s, ds⟩ := sd
      simp only [h3] at k2'
      obtain ⟨w1, w2⟩ := atL_ok h3
      obtain ⟨a2, ws, u1, u2, u3, u4⟩ := e2.j.own i s ds w1 w2
      rw [y1] at u1
      cases u1
      cases r2 with
      | int n =>
        simp only [intOf] at k2'
        cases hx : ixN ds.length n with
        | none => simp only [hx] at k2'; exact k2'.elim
        | some m =>
          simp only [hx] at k2'
          exact ⟨a, ws, n, m, rfl, rfl, u2, by rw [u4.length]; exact hx, k2' G2 σ _ (e2.j.putS w1 w2 y1 (RpAll.set (r1.mono e2.g) m u4))⟩
      | _ => exact k2'.elim
end
theorem J.consB {K : PySem.W.Frag} {G H : Hp} {ρ : En} {σ : St} {a : Addr} {us : List V} {ds : List D} (j : J K G ρ σ H) (no : ∀ b, ¬ Ownd ρ σ b) (h1 : H a = some (.lst us)) (h2 : G a = none) (r : RpAll K G us ds) : J K G (.box ds :: ρ) (some (.ref a) :: σ) H := by
  refine ⟨j.sub, congrArg (· + 1) j.len, fun i d h => ?_, fun i s es h hl => ?_, fun i k s t es fs b e1 l1 e2 l2 e3 e4 => ?_⟩
  · cases i with
    | zero => cases h
    | succ i => exact j.pur i d h
  · cases i with
    | zero => cases h; cases hl; exact ⟨a, us, rfl, h1, h2, r⟩
    | succ i => exact j.own i s es h hl
  · cases i with
    | zero => cases k with
      | zero => rfl
      | succ k => exact absurd ⟨k, t, fs, e2, l2, e4⟩ (no b)
    | succ i => exact absurd ⟨i, s, es, e1, l1, e3⟩ (no b)
def box0 : En → Option (List D)
  | .box es :: _ => some es
  | _ => none
theorem box0_ok {ρ : En} {es : List D} (h : box0 ρ = some es) : ρ[0]? = some (.box es) := by
  unfold box0 at h
  split at h
  · cases h; rfl
  · cases h
def runX (n : Nat) (g : Mo Fl) : FnX := fun ds as => match g (.box ds :: (as.map Sl.pur ++ List.replicate (n - as.length) Sl.no)) with
  | some (.ok (ρ', .rt d)) => (match box0 ρ' with
    | some es => some (.ok (es, d))
    | none => none)
  | some (.ok (ρ', .nx)) => (match box0 ρ' with
    | some es => some (.ok (es, .none))
    | none => none)
  | _ => none
def guardX (n : Nat) (F : FnX) : FnX := fun ds as => match Nat.beq as.length n with
  | true => F ds as
  | false => none
theorem bodyX {K : PySem.W.Frag} {E : XK} {N : List Str} {x : Str} {g : Mo Fl} {t : TS} {n : Nat} (q : ∀ G ρ σ H De, J K G ρ σ H → PostS K E G ρ σ H De (g ρ) → t De σ H) {vs : List V} {H : Hp} {Q : VK} (h : spX K n (guardX n (runX N.length g)) vs H Q E) :
    t { nx := fun _ H' => Q .non H', rt := Q } (start (x :: N) vs) H := by
  obtain ⟨a, us, us', ds, as, G, rfl, h1, h2, s, r1, r2, hl, k⟩ := h
  rw [start_cons]
  have e0 : guardX n (runX N.length g) ds as = runX N.length g ds as := by
    unfold guardX
    have e : Nat.beq as.length n = true := by rw [hl]; exact Nat.beq_refl _
    rw [e]
  rw [e0] at k
  have no : ∀ b, ¬ Ownd (as.map Sl.pur ++ List.replicate (N.length - as.length) Sl.no) (start N us') b := fun b => start_no
  have j0 := (start_j (N := N) s r2).consB no h1 h2 r1
  have own1 : ∀ b, Ownd (.box ds :: (as.map Sl.pur ++ List.replicate (N.length - as.length) Sl.no)) (some (.ref a) :: start N us') b → b = a := fun b z => by
    obtain ⟨i, s, es, z1, z2, z3⟩ := z
    cases i with
    | zero => cases z3; rfl
    | succ i => exact absurd ⟨i, s, es, z1, z2, z3⟩ (no b)
  have fin : ∀ (ρ' : En) (es : List D) (d : D) (G' : Hp) (σ' : St) (v : V) (H' : Hp), ρ'[0]? = some (.box es) → Ex K G (.box ds :: (as.map Sl.pur ++ List.replicate (N.length - as.length) Sl.no)) (some (.ref a) :: start N us') H G' ρ' σ' H' → Rp K G' v d → PostBX K G H a Q (some (.ok (es, d))) → Q v H' := by
    intro ρ' es d G' σ' v H' hb z rv kk
    obtain ⟨_, w2⟩ := z.bx 0 es hb
    obtain ⟨a2, ws, u1, u2, u3, u4⟩ := z.j.own 0 _ es hb rfl
    rw [w2] at u1
    cases u1
    refine kk G' v H' ws z.g (fun b hb => ?_) z.j.sub (fun b o hb q => z.kept b o q fun y => hb (own1 b y)) z.dom u3 u2 u4 rv
    rcases z.new b hb with y | y | y
    · exact .inl y
    · exact .inr y
    · have e := own1 b y
      subst e
      exact absurd u3 hb
  refine q G _ _ H _ j0 ?_
  unfold runX at k
  match hg : g (.box ds :: (as.map Sl.pur ++ List.replicate (N.length - as.length) Sl.no)), k with
  | none, k => simp only [hg] at k; exact k.elim
  | some (.error y), k => simp only [hg] at k; exact k.elim
  | some (.ok (ρ', .rt d)), k =>
    simp only [hg] at k
    cases hb : box0 ρ' with
    | none => simp only [hb] at k; exact k.elim
    | some es => simp only [hb] at k; exact fun G' σ' v H' z rv => fin ρ' es d G' σ' v H' (box0_ok hb) z rv k
  | some (.ok (ρ', .nx)), k =>
    simp only [hg] at k
    cases hb : box0 ρ' with
    | none => simp only [hb] at k; exact k.elim
    | some es => simp only [hb] at k; exact fun G' σ' H' z => fin ρ' es .none G' σ' .non H' (box0_ok hb) z .non k
  | some (.ok (ρ', .bk)), k => simp only [hg] at k; exact k.elim
  | some (.ok (ρ', .ct)), k => simp only [hg] at k; exact k.elim
theorem fn_okX {P : Program} {w : World} {K : PySem.W.Frag} {mg : Str → Option Value} {base : Heap} {x y : Str} {st : Stmt} {fd : FuncData} {N ps : List Str} {k : Nat} {g : Mo Fl} (F : FunD K x x (defArgs st) (defBody st) (defScope st) [] [] (He.ga K x) fd) (S : FnScope (y :: N) (y :: ps) (defScope st)) (gl : mg x = some (.ref (He.ga K x)))
    (b : ∀ (kV doc pm : Value) (an : Option Addr) (cdv ct : Value) (us : List Value), us.length = (y :: ps).length → bindArgs (PySem.W.fnOf x x (defArgs st) (defBody st) (defScope st) .none kV doc pm an cdv ct) ⟨us, []⟩ = pure ((y :: ps).zip us))
    (hb : ∀ (cdv : Value) (A : Around) (outer : List PySem.Env) (s : Shared) (H : Hp) (E : XK), Room k (A.deeper (PyProof.Rows.envOfC x (defScope st) s.heap.objs.size (He.ga K x) cdv)) → SVs (cxOf (L2.CX P w) P w K mg base (y :: N) x (defScope st) (He.ga K x) cdv A outer s H E) E (defBody st) g) :
    FnXE P w K mg base (k + 1) x ps.length (guardX ps.length (runX N.length g)) := by
  refine ⟨⟨fd, y :: ps, F.ok S (fun vs H Q E h => ?_) fun cdv A outer s H vs Q E hr h => ?_, F.bindsN b⟩, F.kp, gl, fun ds as h => ?_⟩
  · obtain ⟨a, us, us', ds, as, G, rfl, _, _, _, _, r, hl, _⟩ := h
    show us'.length + 1 = ps.length + 1
    rw [r.length, hl]
  · obtain ⟨t, p, q⟩ := hb cdv A outer s H E hr
    exact ⟨t, p, bodyX q h⟩
  · unfold guardX at h
    cases q : Nat.beq as.length ps.length with
    | true => exact Nat.eq_of_beq_eq_true q
    | false => rw [q] at h; exact absurd rfl h
end HB
namespace HB
open PySem L2
abbrev FnN := List D → Option (Except Exn (List D))
def PostFN (K : PySem.W.Frag) (G H : Hp) (Q : VK) : Option (Except Exn (List D)) → Prop
  | some (.ok ds) => ∀ G' a vs H', PX G H G' H' → H a = none → G' a = none → H' a = some (.lst vs) → RpAll K G' vs ds → Q (.ref a) H'
  | _ => False
def spN (K : PySem.W.Frag) (n : Nat) (F : FnN) : Sp := fun vs H Q _ => ∃ G ds, Same G H ∧ RpAll K G vs ds ∧ ds.length = n ∧ PostFN K G H Q (F ds)
structure FnNE (P : Program) (w : World) (K : PySem.W.Frag) (mg : Str → Option Value) (base : Heap) (k : Nat) (x : Str) (n : Nat) (F : FnN) : Prop where
  ex : ∃ fd ps, FnOk P w K mg base (L2.CX P w) k (He.ga K x) fd ps (spN K n F) ∧ Binds K fd ps []
  kp : PySem.W.keepIn K (.ref (He.ga K x)) = true
  gl : mg x = some (.ref (He.ga K x))
  ln : ∀ ds, F ds ≠ none → ds.length = n
def mCallN (F : FnN) (a : Mo (List D)) : Mo (List D) := mBind a fun ds ρ => match F ds with
  | some (.ok es) => some (.ok (ρ, es))
  | _ => none
section
variable {X : Cx} {E : XK}
theorem en_call {k n : Nat} {x : Str} {F : FnN} {p pos : Pos} {e : Expr} {es : List Expr} {f : Mo (List D)} (hF : FnNE X.prog X.w X.K X.mg X.base k x n F) (hr : Room k X.A) (hx : Passes (L2.CX X.prog X.w) X E)
    (ha : EA X E (e :: es) f) (hg : Gl X x := by rfl) (hdb : (x == ("__debug__" : Str)) = false := by decide) (he : starEach (e :: es) X.env = (false, eval e X.env) :: starEach es X.env := by rfl)
    (hpl : (backTo pos (starEach es X.env)).any (·.1) = false := by rfl) : EN X E (.Call (.Name x p) (e :: es) [] pos) (mCallN F f) := by
  obtain ⟨⟨fd, ps, h1, h2⟩, kp, gl, hl⟩ := hF
  obtain ⟨t, pt, q⟩ := ha
  refine ⟨_, pe_call h1 hr hg gl kp h2 .nil hx pt hdb he hpl, fun G ρ σ H Q j h => ?_⟩
  refine q G ρ σ H _ j (Post.impN h fun G1 ρ1 vs H1 ds e1 r1 h1 => ?_)
  show spN X.K n F (vs ++ []) H1 Q E
  rw [List.append_nil]
  have h1' : PostN X.K E G1 ρ1 σ H1 Q (match F ds with
    | some (.ok es) => some (.ok (ρ1, es))
    | _ => none) := h1
  match hf : F ds, h1' with
  | none, h1' => simp only [hf] at h1'; exact h1'.elim
  | some (.error _), h1' => simp only [hf] at h1'; exact h1'.elim
  | some (.ok es2), h1' =>
    simp only [hf] at h1'
    refine ⟨G1, ds, e1.j.sub, r1, hl ds (by rw [hf]; simp), ?_⟩
    rw [hf]
    intro G' a ws H' px z1 z2 z3 z4
    exact h1' G' (.ref a) H' (e1.j.ex px) ⟨a, ws, rfl, z1, z2, z3, e1.j.nown z1, z4⟩
/-- a body that ends with: return a new list -/
def PostR (K : PySem.W.Frag) (E : XK) (G : Hp) (ρ : En) (σ : St) (H : Hp) (De : Ends) : Option (Except Exn (En × List D)) → Prop
  | some (.ok (ρ', ds)) => ∀ G' σ' a vs H', Ex K G ρ σ H G' ρ' σ' H' → H a = none → G' a = none → H' a = some (.lst vs) → RpAll K G' vs ds → De.rt (.ref a) H'
  | _ => False
def SVN (X : Cx) (E : XK) (s : List Stmt) (g : Mo (List D)) : Prop := ∃ t, PSs X s t ∧ ∀ G ρ σ H De, J X.K G ρ σ H → PostR X.K E G ρ σ H De (g ρ) → t De σ H
def rRet (f : Mo (List D)) : Mo (List D) := fun ρ => match f ρ with
  | some (.ok r) => some (.ok r)
  | _ => none
theorem svn_ret {e : Expr} {f : Mo (List D)} {pos : Pos} (h : EN X E e f) : SVN X E [.Return (some e) pos] (rRet f) := by
  obtain ⟨t, p, q⟩ := h
  refine ⟨_, pss_one (ps_ret p), fun G ρ σ H De j h => q G ρ σ H _ j ?_⟩
  unfold rRet at h
  match hf : f ρ, h with
  | none, h => exact h.elim
  | some (.error _), h => exact h.elim
  | some (.ok (ρ', ds)), h =>
    intro G' v H' e r
    obtain ⟨a, vs, rfl, z1, z2, z3, no, z4⟩ := r
    exact h G' σ a vs H' e z1 z2 z3 z4
def rSeq (a : Mo Fl) (g : Mo (List D)) : Mo (List D) := fun ρ => match a ρ with
  | some (.ok (ρ1, .nx)) => g ρ1
  | _ => none
theorem svn_cons {s : Stmt} {rest : List Stmt} {a : Mo Fl} {g : Mo (List D)} (h1 : SV X E s a) (h2 : SVN X E rest g) : SVN X E (s :: rest) (rSeq a g) := by
  obtain ⟨t, p, q⟩ := h1
  obtain ⟨t2, p2, q2⟩ := h2
  refine ⟨_, pss_cons p p2, fun G ρ σ H De j h => q G ρ σ H _ j ?_⟩
  unfold rSeq at h
  match ha : a ρ, h with
  | none, h => exact h.elim
  | some (.error _), h => exact h.elim
  | some (.ok (ρ1, .nx)), h =>
    intro G1 σ1 H1 e1
    refine q2 G1 ρ1 σ1 H1 De e1.j ?_
    match hg : g ρ1, h with
    | none, h => simp only [hg] at h; exact h.elim
    | some (.error _), h => simp only [hg] at h; exact h.elim
    | some (.ok (ρ2, ds)), h =>
      simp only [hg] at h
      exact fun G' σ' a vs H' e2 z1 z2 z3 z4 => h G' σ' a vs H' (e1.trans e2) (e1.dom a z1) z2 z3 z4
  | some (.ok (ρ1, .rt _)), h => exact h.elim
  | some (.ok (ρ1, .bk)), h => exact h.elim
  | some (.ok (ρ1, .ct)), h => exact h.elim
end
def runN (n : Nat) (g : Mo (List D)) : FnN := fun ds => match g (ds.map Sl.pur ++ List.replicate (n - ds.length) Sl.no) with
  | some (.ok (_, es)) => some (.ok es)
  | _ => none
def guardN (n : Nat) (F : FnN) : FnN := fun ds => match Nat.beq ds.length n with
  | true => F ds
  | false => none
theorem fn_okN {P : Program} {w : World} {K : PySem.W.Frag} {mg : Str → Option Value} {base : Heap} {x : Str} {st : Stmt} {fd : FuncData} {N ps : List Str} {k : Nat} {g : Mo (List D)} (F : FunD K x x (defArgs st) (defBody st) (defScope st) [] [] (He.ga K x) fd) (S : FnScope N ps (defScope st)) (gl : mg x = some (.ref (He.ga K x)))
    (b : ∀ (kV doc pm : Value) (an : Option Addr) (cdv ct : Value) (us : List Value), us.length = ps.length → bindArgs (PySem.W.fnOf x x (defArgs st) (defBody st) (defScope st) .none kV doc pm an cdv ct) ⟨us, []⟩ = pure (ps.zip us))
    (hb : ∀ (cdv : Value) (A : Around) (outer : List PySem.Env) (s : Shared) (H : Hp) (E : XK), Room k (A.deeper (PyProof.Rows.envOfC x (defScope st) s.heap.objs.size (He.ga K x) cdv)) → SVN (cxOf (L2.CX P w) P w K mg base N x (defScope st) (He.ga K x) cdv A outer s H E) E (defBody st) g) :
    FnNE P w K mg base (k + 1) x ps.length (guardN ps.length (runN N.length g)) := by
  refine ⟨⟨fd, ps, F.ok S (fun vs H Q E h => ?_) fun cdv A outer s H vs Q E hr h => ?_, F.bindsN b⟩, F.kp, gl, fun ds h => ?_⟩
  · obtain ⟨G, ds, _, r, hl, _⟩ := h
    rw [r.length, hl]
  · obtain ⟨t, p, q⟩ := hb cdv A outer s H E hr
    refine ⟨t, p, ?_⟩
    obtain ⟨G, ds, sb, r, hl, k⟩ := h
    have e0 : guardN ps.length (runN N.length g) ds = runN N.length g ds := by
      unfold guardN
      have e : Nat.beq ds.length ps.length = true := by rw [hl]; exact Nat.beq_refl _
      rw [e]
    rw [e0] at k
    refine q G _ _ H _ (start_j sb r) ?_
    have no : ∀ b, ¬ Ownd (ds.map Sl.pur ++ List.replicate (N.length - ds.length) Sl.no) (start N vs) b := fun b => start_no
    unfold runN at k
    match hg : g (ds.map Sl.pur ++ List.replicate (N.length - ds.length) Sl.no), k with
    | none, k => simp only [hg] at k; exact k.elim
    | some (.error _), k => simp only [hg] at k; exact k.elim
    | some (.ok (ρ', es)), k =>
      simp only [hg] at k
      exact fun G' σ' a ws H' z z1 z2 z3 z4 => k G' a ws H' (z.px no) z1 z2 z3 z4
  · unfold guardN at h
    cases q : Nat.beq ds.length ps.length with
    | true => exact Nat.eq_of_beq_eq_true q
    | false => rw [q] at h; exact absurd rfl h
end HB
namespace HB
open PySem L2
theorem FnXE.by {P : Program} {w : World} {K : PySem.W.Frag} {mg : Str → Option Value} {base : Heap} {k n : Nat} {x : Str} {F F' : FnX} (h : FnXE P w K mg base k x n F) (e : ∀ ds as r, F' ds as = some r → F ds as = some r) : FnXE P w K mg base k x n F' := by
  obtain ⟨⟨fd, ps, h1, h2⟩, kp, gl, hl⟩ := h
  refine ⟨⟨fd, ps, h1.imp fun vs H Q E q => ?_, h2⟩, kp, gl, fun ds as q => ?_⟩
  · obtain ⟨a, us, us', ds, as, G, z1, z2, z3, z4, z5, z6, z7, z8⟩ := q
    refine ⟨a, us, us', ds, as, G, z1, z2, z3, z4, z5, z6, z7, ?_⟩
    cases e1 : F' ds as with
    | none => rw [e1] at z8; exact z8.elim
    | some o => rw [e ds as o e1]; rw [e1] at z8; exact z8
  · cases e1 : F' ds as with
    | none => exact absurd e1 q
    | some o => exact hl ds as (by rw [e ds as o e1]; simp)
def gTake : Mo Fl := sSeq (sIf (mTest (mOp (cmpD gtI) (mIxB 0 (mRet (.int 0))) (mRet (.int 0)))) (sSeq (sSet 4 (mOp modD (mBuilt intD (mCons (mIxB 0 (mRet (.int 0))) (mNil))) (mVar 1)))
  (sSeq (sPutB 0 (mRet (.int 0)) (mOp fdivD (mIxB 0 (mRet (.int 0))) (mVar 1)))
  (sRet (mVar 4)))) (sNext))
  (sSeq (sPutB 0 (mRet (.int 2)) (mOp addD (mIxB 0 (mRet (.int 2))) (mRet (.int 1))))
  (sSeq (sSet 2 (mOp modD (mBuilt intD (mCons (mOp mulD (mOp addD (mIxB 0 (mRet (.int 1))) (mOp mulD (mRet (.int 104729)) (mIxB 0 (mRet (.int 2))))) (mRet (.int 69623))) (mNil))) (mRet (.int 2147483647))))
  (sSeq (sPutB 0 (mRet (.int 1)) (mOp addD (mOp modD (mBuilt intD (mCons (mOp addD (mOp mulD (mVar 2) (mRet (.int 48271))) (mRet (.int 30103))) (mNil))) (mRet (.int 2147483629))) (mRet (.int 1))))
  (sSeq (sIf (mTest (mOp (cmpD ltI) (mVar 1) (mOp powD (mRet (.int 2)) (mRet (.int 40))))) (sRet (mOp modD (mBuilt intD (mCons (mOp fdivD (mOp addD (mOp mulD (mVar 2) (mRet (.int 2147483647))) (mIxB 0 (mRet (.int 1)))) (mRet (.int 8191))) (mNil))) (mVar 1))) (sNext))
  (sSeq (sSet 3 (mOp mulD (mOp addD (mOp mulD (mVar 2) (mRet (.int 2147483647))) (mIxB 0 (mRet (.int 1)))) (mOp powD (mRet (.int 2147483629)) (mRet (.int 3)))))
  (sRet (mOp modD (mBuilt intD (mCons (mOp addD (mOp addD (mVar 3) (mOp mulD (mOp powD (mIxB 0 (mRet (.int 1))) (mRet (.int 3))) (mRet (.int 8191)))) (mVar 2)) (mNil))) (mVar 1))))))))
def rawV (s c : Int) : Int := ((s + 104729 * (c + 1)) * 69623) % 2147483647
def nextV (r : Int) : Int := (r * 48271 + 30103) % 2147483629 + 1
def takeOk (s c : Int) : Bool := mulFit 104729 (c + 1) && (mulFit (s + 104729 * (c + 1)) 69623 && (mulFit (rawV s c) 48271 && mulFit (rawV s c) 2147483647))
def M_law_take : FnX
  | [.int x, .int s, .int c], [.int n] => (match decide (0 < n) && Nat.blt n.natAbs.log2 9000 with
    | false => none
    | true => match gtI x 0 with
      | true => some (.ok ([.int (x / n), .int s, .int c], .int (x % n)))
      | false => match ltI n 1099511627776 && takeOk s c with
        | true => some (.ok ([.int x, .int (nextV (rawV s c)), .int (c + 1)], .int ((rawV s c * 2147483647 + nextV (rawV s c)) / 8191 % n)))
        | false => none)
  | _, _ => none
theorem fdiv_of {i j : Int} (h1 : 0 < j) (h2 : Nat.blt j.natAbs.log2 9000 = true) : fdivD (.int i) (.int j) = some (.int (i / j)) := by
  unfold fdivD
  simp only
  rw [if_pos ⟨h1, Nat.le_of_ble_eq_true h2⟩]
theorem mod_of {i j : Int} (h1 : 0 < j) : modD (.int i) (.int j) = some (.int (i % j)) := by
  unfold modD
  simp only
  rw [if_pos h1]
theorem mir_law_take (ds as : List D) (r : Except Exn (List D × D)) (h : M_law_take ds as = some r) : guardX 1 (runX 4 gTake) ds as = some r := by
  unfold M_law_take at h
  split at h
  · rename_i x s c n
    cases hc : decide (0 < n) && Nat.blt n.natAbs.log2 9000 with
    | false => rw [hc] at h; cases h
    | true =>
      rw [hc] at h
      obtain ⟨c1, c2⟩ := Bool.and_eq_true_iff.mp hc
      have hn : 0 < n := of_decide_eq_true c1
      have fd : ∀ i, fdivD (.int i) (.int n) = some (.int (i / n)) := fun i => fdiv_of hn c2
      have md : ∀ i, modD (.int i) (.int n) = some (.int (i % n)) := fun i => mod_of hn
      have md1 : ∀ i, modD (.int i) (.int 2147483647) = some (.int (i % 2147483647)) := fun i => mod_of (by decide)
      have md2 : ∀ i, modD (.int i) (.int 2147483629) = some (.int (i % 2147483629)) := fun i => mod_of (by decide)
      have fd8 : ∀ i, fdivD (.int i) (.int 8191) = some (.int (i / 8191)) := fun i => fdiv_of (by decide) (by decide)
      have pw : powD (.int 2) (.int 40) = some (.int 1099511627776) := rfl
      have i0 : ∀ a b c : D, ixD (.list [a, b, c]) (.int 0) = some a := fun _ _ _ => rfl
      have i1 : ∀ a b c : D, ixD (.list [a, b, c]) (.int 1) = some b := fun _ _ _ => rfl
      have i2 : ∀ a b c : D, ixD (.list [a, b, c]) (.int 2) = some c := fun _ _ _ => rfl
      have n0 : ixN 3 0 = some 0 := rfl
      have n1 : ixN 3 1 = some 1 := rfl
      have n2 : ixN 3 2 = some 2 := rfl
      cases hx : gtI x 0 with
      | true =>
        simp only [hx] at h
        rw [← h]
        simp [guardX, runX, gTake, sSeq, sIf, sSet, setSl, sRet, sNext, sPutB, mIxB, atL, Sl.ls, Sl.put, intOf, mTest, mOp, mBuilt, intD, mCons, mNil, mBind, mLift, mVar, mRet, cmpD, boolD, hx, i0, n0, fd, md, box0]
      | false =>
        simp only [hx] at h
        cases ht : ltI n 1099511627776 && takeOk s c with
        | false => rw [ht] at h; cases h
        | true =>
          rw [ht] at h
          obtain ⟨t1, t2⟩ := Bool.and_eq_true_iff.mp ht
          unfold takeOk at t2
          obtain ⟨m1, t2⟩ := Bool.and_eq_true_iff.mp t2
          obtain ⟨m2, t2⟩ := Bool.and_eq_true_iff.mp t2
          obtain ⟨m3, m4⟩ := Bool.and_eq_true_iff.mp t2
          have h : some (Except.ok ([PyData.int x, PyData.int (nextV (rawV s c)), PyData.int (c + 1)], PyData.int ((rawV s c * 2147483647 + nextV (rawV s c)) / 8191 % n))) = some r := h
          rw [← h]
          unfold rawV at m3 m4
          simp [guardX, runX, gTake, sSeq, sIf, sSet, setSl, sRet, sNext, sPutB, mIxB, atL, Sl.ls, Sl.put, intOf, mTest, mOp, mBuilt, intD, mCons, mNil, mBind, mLift, mVar, mRet, cmpD, boolD, hx, i0, i1, i2, n0, n1, n2, fd, md, md1, md2, fd8, pw, addD, mul_of m1, mul_of m2, mul_of m3, mul_of m4, t1, box0, rawV, nextV]
  · cases h
end HB
namespace HB
open PySem L2
theorem log_small {n : Nat} (h : n < 2 ^ 200) : n.log2 < 200 := by
  by_cases e : n = 0
  · subst e; decide
  · exact (Nat.log2_lt e).mpr h
theorem fit_of {i j : Int} (hi : i.natAbs < 2 ^ 200) (hj : j.natAbs < 2 ^ 200) : mulFit i j = true := by
  unfold mulFit
  have h1 := log_small hi
  have h2 := log_small hj
  exact Nat.ble_eq_true_of_le (by omega)
def gBox3 : Mo (List D) := rSeq (sSet 4 (mOp addD (mOp modD (mBuilt intD (mCons (mOp addD (mOp mulD (mOp modD (mBuilt intD (mCons (mVar 3) (mNil))) (mRet (.int 2147483629))) (mRet (.int 48271))) (mOp mulD (mRet (.int 40692)) (mOp addD (mVar 1) (mOp mulD (mRet (.int 11)) (mVar 2))))) (mNil))) (mRet (.int 2147483629))) (mRet (.int 1))))
  (rRet (mSized (mCons (mOp ixD (mList (mSized (mCons (mRet (.int 0)) (mCons (mVar 3) (mNil))))) (mBuilt intD (mCons (mOp (cmpD geI) (mVar 3) (mOp powD (mRet (.int 10)) (mRet (.int 18)))) (mNil)))) (mCons (mVar 4) (mCons (mRet (.int 0)) (mNil))))))
def gBox : Mo (List D) := rSeq (sSet 3 (mOp addD (mOp addD (mOp mulD (mRet (.int 7727)) (mVar 1)) (mOp mulD (mRet (.int 104729)) (mVar 2))) (mRet (.int 43))))
  (rSeq (sIf (mTest (mOp (cmpD ltI) (mVar 1) (mBuilt lenD (mCons (mVar 0) (mNil))))) (sSet 3 (mBuilt absD (mCons (mOp ixD (mVar 0) (mVar 1)) (mNil)))) (sIf (mTest (mOp (cmpD gtI) (mBuilt lenD (mCons (mVar 0) (mNil))) (mRet (.int 0)))) (sSet 3 (mOp addD (mVar 3) (mOp mulD (mOp modD (mBuilt intD (mCons (mBuilt absD (mCons (mOp ixD (mVar 0) (mOp modD (mBuilt intD (mCons (mVar 1) (mNil))) (mBuilt lenD (mCons (mVar 0) (mNil))))) (mNil))) (mNil))) (mRet (.int 2147483629))) (mRet (.int 69623))))) (sNext)))
  gBox3)
def seedV (cell k o : Int) : Int := (cell % 2147483629 * 48271 + 40692 * (k + 11 * o)) % 2147483629 + 1
theorem scr_len (ns : List Int) : lenD [scr ns] = some (.int ns.length) := by
  simp [scr, lenD]
theorem scr_ix (ns : List Int) (k : Int) (h0 : 0 ≤ k) (h1 : k < ns.length) : ixD (scr ns) (.int k) = some (.int (ns.getD k.toNat 0)) := by
  have hk : k.toNat < ns.length := by have := h0; have := h1; omega
  have e : L2.atI (ns.map PyData.int) k = some (.int (ns.getD k.toNat 0)) := by
    have e1 : ixN (ns.map PyData.int).length k = some k.toNat := by
      unfold ixN
      rw [if_pos h0, List.length_map, if_pos h1]
    unfold L2.atI
    rw [e1]
    simp [hk, List.getD_eq_getElem?_getD]
  exact e
theorem box3 (d : D) (k o cell : Int) (hk : 0 ≤ k) (hk2 : k < 1000000) (ho : 0 ≤ o) (ho2 : o < 1000000) : ∃ ρ, gBox3 [.pur d, .pur (.int k), .pur (.int o), .pur (.int cell), .no] = some (.ok (ρ, [.int (if 1000000000000000000 ≤ cell then cell else 0), .int (seedV cell k o), .int 0])) := by
  have f3 : mulFit 11 o = true := fit_of (by decide) (by omega)
  have f4 : mulFit 40692 (k + 11 * o) = true := fit_of (by decide) (by omega)
  have f5 : mulFit (cell % 2147483629) 48271 = true := fit_of (by omega) (by decide)
  have md2 : ∀ i, modD (.int i) (.int 2147483629) = some (.int (i % 2147483629)) := fun i => mod_of (by decide)
  have pw : powD (.int 10) (.int 18) = some (.int 1000000000000000000) := rfl
  have j0 : ∀ a b : D, ixD (.list [a, b]) (.int 0) = some a := fun _ _ => rfl
  have j1 : ∀ a b : D, ixD (.list [a, b]) (.int 1) = some b := fun _ _ => rfl
  by_cases h2 : 1000000000000000000 ≤ cell
  · have c2 : geI cell 1000000000000000000 = true := decide_eq_true h2
    rw [if_pos h2]
    exact ⟨_, by simp [gBox3, rSeq, rRet, sSet, setSl, mOp, mBuilt, mSized, sizeOk, mList, intD, mCons, mNil, mBind, mLift, mVar, mRet, cmpD, c2, addD, mul_of f3, mul_of f4, mul_of f5, md2, pw, j0, j1, seedV]; rfl⟩
  · have c2 : geI cell 1000000000000000000 = false := decide_eq_false h2
    rw [if_neg h2]
    exact ⟨_, by simp [gBox3, rSeq, rRet, sSet, setSl, mOp, mBuilt, mSized, sizeOk, mList, intD, mCons, mNil, mBind, mLift, mVar, mRet, cmpD, c2, addD, mul_of f3, mul_of f4, mul_of f5, md2, pw, j0, j1, seedV]; rfl⟩
theorem gBox_cell (ns : List Int) (k o : Int) (hk : 0 ≤ k) (hk2 : k < 1000000) (ho : 0 ≤ o) (ho2 : o < 1000000) : ∃ cell : Int, 0 ≤ cell ∧ gBox [.pur (scr ns), .pur (.int k), .pur (.int o), .no, .no] = gBox3 [.pur (scr ns), .pur (.int k), .pur (.int o), .pur (.int cell), .no] := by
  have f1 : mulFit 7727 k = true := fit_of (by decide) (by omega)
  have f2 : mulFit 104729 o = true := fit_of (by decide) (by omega)
  have md2 : ∀ i, modD (.int i) (.int 2147483629) = some (.int (i % 2147483629)) := fun i => mod_of (by decide)
  by_cases h1 : k < ns.length
  · have c1 : ltI k ns.length = true := decide_eq_true h1
    have hx := scr_ix ns k hk h1
    generalize ns.getD k.toNat 0 = v at hx
    refine ⟨(v.natAbs : Int), by omega, ?_⟩
    simp [gBox, rSeq, sIf, sSet, setSl, mTest, mOp, mBuilt, intD, absD, mCons, mNil, mBind, mLift, mVar, mRet, cmpD, boolD, scr_len, hx, c1, addD, mul_of f1, mul_of f2, absI]
  · have c1 : ltI k ns.length = false := decide_eq_false h1
    by_cases h2 : (0 : Int) < ns.length
    · have c2 : gtI ns.length 0 = true := decide_eq_true h2
      have hm := mod_of (i := k) (j := ns.length) h2
      have hx := scr_ix ns (k % ns.length) (Int.emod_nonneg _ (by omega)) (Int.emod_lt_of_pos _ h2)
      generalize ns.getD (k % ns.length).toNat 0 = v at hx
      have f6 : mulFit ((v.natAbs : Int) % 2147483629) 69623 = true := fit_of (by omega) (by decide)
      refine ⟨7727 * k + 104729 * o + 43 + (v.natAbs : Int) % 2147483629 * 69623, by omega, ?_⟩
      simp [gBox, rSeq, sIf, sSet, setSl, mTest, mOp, mBuilt, intD, absD, mCons, mNil, mBind, mLift, mVar, mRet, cmpD, boolD, scr_len, hx, hm, c1, c2, addD, mul_of f1, mul_of f2, mul_of f6, md2, absI]
    · have c2 : gtI ns.length 0 = false := decide_eq_false h2
      refine ⟨7727 * k + 104729 * o + 43, by omega, ?_⟩
      simp [gBox, rSeq, sIf, sSet, setSl, sNext, mTest, mOp, mBuilt, intD, absD, mCons, mNil, mBind, mLift, mVar, mRet, cmpD, boolD, scr_len, c1, c2, addD, mul_of f1, mul_of f2]
theorem box_run (ns : List Int) (k o : Int) (hk : 0 ≤ k) (hk2 : k < 1000000) (ho : 0 ≤ o) (ho2 : o < 1000000) : ∃ x s : Int, guardN 3 (runN 5 gBox) [scr ns, .int k, .int o] = some (.ok [.int x, .int s, .int 0]) ∧ 0 ≤ x ∧ 0 < s ∧ s ≤ 2147483629 := by
  obtain ⟨cell, h0, h1⟩ := gBox_cell ns k o hk hk2 ho ho2
  obtain ⟨ρ, h2⟩ := box3 (scr ns) k o cell hk hk2 ho ho2
  refine ⟨if 1000000000000000000 ≤ cell then cell else 0, seedV cell k o, ?_, ?_, ?_, ?_⟩
  · show (match gBox [.pur (scr ns), .pur (.int k), .pur (.int o), .no, .no] with
      | some (.ok (_, es)) => some (.ok es)
      | _ => none : Option (Except Exn (List D))) = _
    rw [h1, h2]
  · split <;> omega
  · unfold seedV
    omega
  · unfold seedV
    omega
end HB
namespace HB
open PySem L2
def Bx (b : List D) (m : Int) : Prop := ∃ x s c : Int, b = [.int x, .int s, .int c] ∧ 0 ≤ x ∧ 0 < s ∧ s ≤ 2147483629 ∧ 0 ≤ c ∧ c ≤ m
theorem Bx.mono {b : List D} {m m' : Int} (h : Bx b m) (e : m ≤ m') : Bx b m' := by
  obtain ⟨x, s, c, h1, h2, h3, h4, h5, h6⟩ := h
  exact ⟨x, s, c, h1, h2, h3, h4, h5, by omega⟩
theorem box_bx (ns : List Int) (k o : Int) (hk : 0 ≤ k) (hk2 : k < 1000000) (ho : 0 ≤ o) (ho2 : o < 1000000) : ∃ b, guardN 3 (runN 5 gBox) [scr ns, .int k, .int o] = some (.ok b) ∧ Bx b 0 := by
  obtain ⟨x, s, h1, h2, h3, h4⟩ := box_run ns k o hk hk2 ho ho2
  exact ⟨_, h1, x, s, 0, rfl, h2, h3, h4, by omega, by omega⟩
theorem take_run {b : List D} {m n : Int} (hb : Bx b m) (hm : m < 1000000000000) (h0 : 0 < n) (hn : n < 1099511627776) : ∃ b' r, M_law_take b [.int n] = some (.ok (b', .int r)) ∧ Bx b' (m + 1) ∧ 0 ≤ r ∧ r < n := by
  obtain ⟨x, s, c, rfl, h2, h3, h4, h5, h6⟩ := hb
  have hl : Nat.blt n.natAbs.log2 9000 = true := by
    have : n.natAbs.log2 < 200 := log_small (by omega)
    exact Nat.ble_eq_true_of_le (by omega)
  have hg : (decide (0 < n) && Nat.blt n.natAbs.log2 9000) = true := by rw [hl, decide_eq_true h0]; rfl
  unfold M_law_take
  simp only [hg]
  cases hx : gtI x 0 with
  | true => exact ⟨_, _, rfl, ⟨x / n, s, c, rfl, Int.ediv_nonneg h2 (by omega), h3, h4, h5, by omega⟩, Int.emod_nonneg _ (by omega), Int.emod_lt_of_pos _ h0⟩
  | false =>
    have ht : (ltI n 1099511627776 && takeOk s c) = true := by
      have e1 : ltI n 1099511627776 = true := decide_eq_true hn
      have e2 : takeOk s c = true := by
        unfold takeOk
        rw [fit_of (i := 104729) (j := c + 1) (by decide) (by omega), fit_of (i := s + 104729 * (c + 1)) (j := 69623) (by omega) (by decide), fit_of (i := rawV s c) (j := 48271) (by unfold rawV; omega) (by decide), fit_of (i := rawV s c) (j := 2147483647) (by unfold rawV; omega) (by decide)]
        rfl
      rw [e1, e2]
      rfl
    simp only [ht]
    exact ⟨_, _, rfl, ⟨x, nextV (rawV s c), c + 1, rfl, h2, by unfold nextV; omega, by unfold nextV; omega, by omega, by omega⟩, Int.emod_nonneg _ (by omega), Int.emod_lt_of_pos _ h0⟩
def gPick : Mo Fl := sRet (mOp ixD (mVar 1) (mCallX M_law_take 0 (mCons (mBuilt lenD (mCons (mVar 1) (mNil))) (mNil))))
theorem pick_run {b : List D} {m : Int} {items : List D} (hb : Bx b m) (hm : m < 1000000000000) (h0 : 0 < items.length) (hn : items.length < 1000000) : ∃ b' d, guardX 1 (runX 1 gPick) b [.list items] = some (.ok (b', d)) ∧ Bx b' (m + 1) ∧ d ∈ items := by
  obtain ⟨b', r, h1, h2, h3, h4⟩ := take_run (n := items.length) hb hm (by omega) (by omega)
  have hr : r.toNat < items.length := by omega
  have e : ixD (.list items) (.int r) = some items[r.toNat] := by
    have e1 : ixN items.length r = some r.toNat := by
      unfold ixN
      rw [if_pos h3, if_pos h4]
    have e2 : L2.atI items r = some items[r.toNat] := by
      unfold L2.atI
      rw [e1]
      simp [hr]
    exact e2
  refine ⟨b', items[r.toNat], ?_, h2, List.getElem_mem hr⟩
  simp [guardX, runX, gPick, sRet, mOp, mBind, mLift, mVar, mCallX, atL, Sl.ls, Sl.put, mCons, mNil, mBuilt, lenD, mRet, h1, e, box0]
end HB
namespace HB
open PySem L2
theorem own_box {i : Nat} {F : FnN} {args : Mo (List D)} {ρ : En} {as b : List D} (ha : args ρ = some (.ok (ρ, as))) (hF : F as = some (.ok b)) : sOwn i (mCallN F args) ρ = some (.ok (ρ.set i (.own b), .nx)) := by
  unfold sOwn mCallN mBind
  rw [ha]
  simp only [hF]
  rfl
end HB
namespace HB
open PySem L2
section
variable {X : Cx} {E : XK}
def fnD (x : Str) : D := .dict [(.none, .str x)]
structure MeE (P : Program) (w : World) (K : PySem.W.Frag) (mg : Str → Option Value) (base : Heap) (k : Nat) (c m : Str) (n : Nat) (F : Fn) : Prop where
  cls : Cls K (He.ga K c)
  me : Meth K (He.ga K c) m (He.ma K (He.ga K c) m)
  ex : ∃ fd ps, FnOk P w K mg base (L2.CX P w) k (He.ma K (He.ga K c) m) fd ps (spP K n F) ∧ Binds K fd ps []
  ln : ∀ ds, F ds ≠ none → ds.length = n
def noKey (f : Str) : List (D × D) → Bool
  | [] => true
  | (.str g, _) :: r => if g = f then false else noKey f r
  | _ :: _ => false
theorem RpF.noLook {K : PySem.W.Frag} {G : Hp} {f : Str} : ∀ {fs : List (Str × V)} {kvs : List (D × D)}, RpF K G fs kvs → noKey f kvs = true → fs.lookup f = none
  | _, _, .nil, _ => rfl
  | _, _, @RpF.cons _ _ g v fs e kvs _ t, q => by
    have q' : (if g = f then false else noKey f kvs) = true := q
    by_cases z : g = f
    · rw [if_pos z] at q'; cases q'
    · rw [if_neg z] at q'
      have e1 : (f == g) = false := beq_eq_false_iff_ne.mpr (Ne.symm z)
      simp only [List.lookup, e1]
      exact t.noLook q'
/-- an object of the class, and the method is not hidden by a field -/
def isObj (c m : Str) : D → Bool
  | .dict ((.str c', .none) :: kvs) => if c' = c then noKey m kvs else false
  | _ => false
theorem Rp.isObj {K : PySem.W.Frag} {G : Hp} {v : V} {d : D} {c m : Str} (r : Rp K G v d) (h : HB.isObj c m d = true) : ∃ a dx fs, v = .ref a ∧ G a = some (.ins (He.ga K c) dx fs) ∧ fs.lookup m = none := by
  cases r with
  | @obj a dx c' fs kvs h1 h2 =>
    have h' : (if c' = c then noKey m kvs else false) = true := h
    split at h'
    · rename_i e
      subst e
      exact ⟨a, dx, fs, rfl, h1, h2.noLook h'⟩
    · cases h'
  | frz h1 h2 => cases h
  | fn _ => cases h
  | adr _ => cases h
  | _ => cases h
/-- what o.m(..) runs: the receiver, the method, the arguments -/
abbrev byMeth (X : Cx) (o : Expr) (m : Str) (apos pos : Pos) (pl : Sem Bool) (args : List Expr) : Sem Value :=
  eval o X.env >>= fun ov => standAt apos.atName >>= fun _ => holding [ov] (getMethod ov m pl) >>= fun fm => callWith pos fm.1 fm.2 (backTo pos (starEach args X.env)) (backToKw pos (keywordEach [] X.env))
end
theorem meth_ok {P : Program} {w : World} {K : PySem.W.Frag} {mg : Str → Option Value} {base : Heap} {c m qual : Str} {st : Stmt} {fd : FuncData} {N ps : List Str} {k : Nat} {g : Mo Fl} (F : FunD K m qual (defArgs st) (defBody st) (defScope st) [] [] (He.ma K (He.ga K c) m) fd) (S : FnScope N ps (defScope st)) (hc : Cls K (He.ga K c)) (me : Meth K (He.ga K c) m (He.ma K (He.ga K c) m))
    (b : ∀ (kV doc pm : Value) (an : Option Addr) (cdv ct : Value) (us : List Value), us.length = ps.length → bindArgs (PySem.W.fnOf m qual (defArgs st) (defBody st) (defScope st) .none kV doc pm an cdv ct) ⟨us, []⟩ = pure (ps.zip us))
    (hb : ∀ (cdv : Value) (A : Around) (outer : List PySem.Env) (s : Shared) (H : Hp) (E : XK), Room k (A.deeper (PyProof.Rows.envOfC qual (defScope st) s.heap.objs.size (He.ma K (He.ga K c) m) cdv)) → SVs (cxOf (L2.CX P w) P w K mg base N qual (defScope st) (He.ma K (He.ga K c) m) cdv A outer s H E) E (defBody st) g) :
    MeE P w K mg base (k + 1) c m ps.length (guard ps.length (runF N.length g)) := by
  refine ⟨hc, me, ⟨fd, ps, F.ok S (fun vs H Q E h => ?_) fun cdv A outer s H vs Q E hr h => ?_, F.bindsN b⟩, fun ds h => guard_len h⟩
  · obtain ⟨G, ds, _, r, hl, _⟩ := h
    rw [r.length, hl]
  · obtain ⟨t, p, q⟩ := hb cdv A outer s H E hr
    exact ⟨t, p, body_sem q h⟩
end HB
namespace HB
open PySem L2
section
variable {X : Cx} {E : XK}
/-- both are plain data -/
def bothD (a b : D) (r : D) : Option D := if SeqAt.shaped a = true ∧ SeqAt.shaped b = true then some r else none
def inTD : D → D → Option D
  | d, .tuple ds => bothD d (.tuple ds) (.bool (ds.any fun z => PyData.eqv z d))
  | d, e => inD d e
def notInTD : D → D → Option D
  | d, .tuple ds => bothD d (.tuple ds) (.bool (!ds.any fun z => PyData.eqv z d))
  | d, e => notInD d e
/-- a question about plain data and a tuple of such -/
def rAskT (K : PySem.W.Frag) (f : D → List D → Bool) : R2 := fun x y H Q => ∃ d ds, Dp K H x d ∧ Dp K H y (.tuple ds) ∧ SeqAt.shaped d = true ∧ SeqAt.shaped (.tuple ds) = true ∧ Q (.bl (f d ds)) H
theorem op_inT (hu : X.A.units + 65 < cLine) : OpR X (compareOp .In) (rAskT X.K fun d ds => ds.any fun z => PyData.eqv z d) := fun pins s σ H x y v u Q I rx ry ⟨d, ds, hd, he, sd, se, q⟩ =>
  have ⟨_, r1⟩ := Dp.reads I d x v hd rx
  have ⟨_, r2⟩ := Dp.reads I (.tuple ds) y u he ry
  SeqAt.in_tuple_reads r2 r1 (SeqAt.canLay_of_shaped se) (SeqAt.canLay_of_shaped sd) (PyProof.Rows.room_in_shaped sd hu) ⟨.bl _, H, I, rfl, q⟩
theorem op_notInT (hu : X.A.units + 65 < cLine) : OpR X (compareOp .NotIn) (rAskT X.K fun d ds => !ds.any fun z => PyData.eqv z d) := fun pins s σ H x y v u Q I rx ry ⟨d, ds, hd, he, sd, se, q⟩ =>
  have ⟨_, r1⟩ := Dp.reads I d x v hd rx
  have ⟨_, r2⟩ := Dp.reads I (.tuple ds) y u he ry
  SeqAt.notIn_tuple_reads r2 r1 (SeqAt.canLay_of_shaped se) (SeqAt.canLay_of_shaped sd) (PyProof.Rows.room_in_shaped sd hu) ⟨.bl _, H, I, rfl, q⟩
/-- a tuple first, else as before -/
theorem dop_tup {sem : Value → Value → Sem Value} {f : D → List D → Bool} {g g' : D → D → Option D} (o : OpR X sem (rAskT X.K f)) (h0 : DOp X sem g') (e1 : ∀ d ds, g d (.tuple ds) = bothD d (.tuple ds) (.bool (f d ds))) (e2 : ∀ d e, (∀ ds, e ≠ .tuple ds) → g d e = g' d e) : DOp X sem g := by
  obtain ⟨r, o', hr⟩ := h0
  refine ⟨_, o.or o', fun G H x y a b c Q s hx hy h k => ?_⟩
  by_cases hb : ∃ ds, b = .tuple ds
  · obtain ⟨ds, rfl⟩ := hb
    rw [e1] at h
    obtain ⟨⟨h3, h4⟩, rfl⟩ := ite_some h
    exact .inl ⟨a, ds, hx.shaped s h3, hy.shaped s h4, h3, h4, k G _ H (.refl s) (.bl _)⟩
  · rw [e2 a b fun ds z => hb ⟨ds, z⟩] at h
    exact .inr (hr G H x y a b c Q s hx hy h k)
theorem dop_inT (hu : X.A.units + 65 < cLine) : DOp X (compareOp .In) inTD := dop_tup (op_inT hu) (dop_in hu) (fun _ _ => rfl) fun d e ne => by
  cases e with
  | tuple ds => exact absurd rfl (ne ds)
  | _ => rfl
theorem dop_notInT (hu : X.A.units + 65 < cLine) : DOp X (compareOp .NotIn) notInTD := dop_tup (op_notInT hu) (dop_notIn hu) (fun _ _ => rfl) fun d e ne => by
  cases e with
  | tuple ds => exact absurd rfl (ne ds)
  | _ => rfl
/-- o.m(e): the receiver is looked at ahead of the argument -/
def mRecv (p : D → Bool) (f : D → D → Option D) (a b : Mo D) : Mo D := mBind a fun x => match p x with
  | true => mBind b fun y => mLift (f x y)
  | false => fun _ => none
end
end HB
namespace HB
open PySem L2
section
variable {X : Cx} {E : XK}
/-- a def run two built-ins deep -/
theorem fn_in2 {CX : CXT} {k : Nat} {f : Addr} {fd : FuncData} {ps : List Str} {sp : Sp} (F : FnOk X.prog X.w X.K X.mg X.base CX k f fd ps sp) (hr : Room (k + 2) X.A) (hb : Binds X.K fd ps []) (hx : Passes CX X E)
    {pins : List (Addr × Obj)} {σ : St} {H : Hp} {s : Shared} {Q : VK} {us : List Value} {vs : List V} (I : Inv X pins σ H s) (r : Vals vs us) (h : sp vs H Q E) : wpAny (model X.prog X.w) X.A.in1.in1 (call (.ref f) us) (EP X pins σ Q) X.xe s := by
  have bd : BindsTo s fd ⟨us, []⟩ (ps.zip us) := by
    have z := hb s us I.kIn (by rw [List.append_nil, ← r.length]; exact F.len _ _ _ _ h)
    rwa [List.append_nil] at z
  refine wpAny_call (codeAny_mono (F.run _ X.stack s H ⟨us, []⟩ us vs Q E hr.in1.in1 I.env0.in1.in1 bd r h) fun o s2 q => ?_)
  match o, q with
  | .error e, q => exact hx pins σ H s e s2 I q
  | .ok (.ret w), q => exact I.after q
def rStrO (C : Addr) (sp : Sp) (E : XK) : List V → Hp → VK → Prop := fun vs H Q => ∃ a dx fs, vs = [.ref a] ∧ H a = some (.ins C dx fs) ∧ sp [.ref a] H (fun v H2 => (∃ z, v = .str z) ∧ Q v H2) E
theorem call_strO {CX : CXT} {k : Nat} {C f : Addr} {fd : FuncData} {ps : List Str} {sp : Sp} (me : Meth X.K C "__str__" f) (F : FnOk X.prog X.w X.K X.mg X.base CX k f fd ps sp) (hr : Room (k + 2) X.A) (hb : Binds X.K fd ps []) (hx : Passes CX X E) : CallR X (.type "str") (rStrO C sp E) :=
  fun pins s σ H vs us Q I r ⟨a, dx, fs, e, ha, q⟩ => by
    subst e
    match us, r with
    | [_], .cons rfl .nil =>
      have ⟨_, ob, _⟩ := ins_get I.hok ha
      have ⟨od, at_, _⟩ := ob.look
      refine PySem.W.kso_call (Nat.lt_of_le_of_lt ?_ hr.un) I.kIn at_ me.at_ me.fn (wpAny_mono (fn_in2 (vs := [.ref a]) F hr hb hx I (.cons rfl .nil) q) (fun u s2 z => ?_) fun _ _ z => z)
      · show X.A.units + 1 + 1 ≤ _
        omega
      · obtain ⟨v, H2, I2, rv, ⟨w, ew⟩, qv⟩ := z
        subst ew
        obtain ⟨t, et⟩ := rv
        subst et
        exact ⟨.str w, H2, I2, ⟨t, rfl⟩, qv⟩
theorem RT.len {K : PySem.W.Frag} {H0 G H : Hp} {ρ : En} {σ : St} : ∀ {vs : List V} {ts : List Tm}, RT K H0 G H ρ σ vs ts → vs.length = ts.length
  | [], [], _ => rfl
  | _ :: _, .p _ :: _, h => congrArg (· + 1) (RT.len h.2)
  | _ :: _, .o _ :: _, h => congrArg (· + 1) (RT.len h.2)
theorem RT.heap {K : PySem.W.Frag} {H0 G H H2 : Hp} {ρ : En} {σ : St} (s : Same H H2) : ∀ {vs : List V} {ts : List Tm}, RT K H0 G H ρ σ vs ts → RT K H0 G H2 ρ σ vs ts
  | [], [], _ => trivial
  | _ :: _, .p _ :: _, h => ⟨h.1, RT.heap s h.2⟩
  | _ :: _, .o _ :: _, h => let ⟨⟨a, us, h1, h2, h3, h4, h5⟩, h6⟩ := h; ⟨⟨a, us, h1, h2, h3, s _ _ h4, h5⟩, RT.heap s h6⟩
end
end HB
namespace HB
open PySem L2
section
variable {X : Cx} {E : XK}
def rCntO (K : PySem.W.Frag) : V → List V → Hp → VK → Prop := fun x ys H Q => ∃ (a : Addr) (y : V) (d : PyData) (ds : List PyData), x = .ref a ∧ ys = [y] ∧ Dp K H (.ref a) (.list ds) ∧ Dp K H y d ∧
  SeqAt.shaped (.list ds) = true ∧ SeqAt.shaped d = true ∧ Q (.int (ds.countP fun z => PyData.eqv z d : Nat)) H
theorem mt_cntO (hu : X.A.units + 65 < cLine) : MtR X "list.count" (rCntO X.K) := fun pins s σ H x ys v us Q I rx rys ⟨a, y, d, ds, ex, ey, hl, hy, sl, sd, q⟩ => by
  subst ex ey
  match us, rys with
  | [uy], .cons ry .nil =>
    cases rx
    have ⟨bs, rd⟩ := Dp.reads I d y uy hy ry
    have lay := SeqAt.canLay_of_shaped sl
    cases hl with
    | lst hs ha =>
      have ⟨its, rv, pl, _⟩ := I.list hs
      have ⟨⟨c, dd, dt, sls⟩, at_, hc, n, hd⟩ := pl.isList
      dsimp only at hc hd
      subst hc hd
      have ⟨as, rs⟩ := Dp.readsAll I ds _ its ha rv
      have back : its.map (SeqAt.readOf s.heap) = ds := SeqAt.readsAll_map ds its as lay rs
      have eqs := SeqAt.items_eqAt (A := X.A) (vs := its.toArray) (by simpa using rs) rd lay (SeqAt.canLay_of_shaped sd) (PyProof.Rows.room_in_shaped sd hu)
      refine call_meets PySem.F.slot_list_count ⟨_, at_, rfl⟩ PySem.F.entry_list_count (PySem.F.args_list_count_2 _ _) (SeqAt.list_countAt a its.toArray n dd sls uy _) ⟨at_, eqs, .int _, H, I.tok _, ⟨_, rfl⟩, ?_⟩
      rw [← back, List.countP_map] at q
      exact q
def mCntO (i : Nat) (f : Mo D) : Mo D := fun ρ => match ρ[i]? with
  | some (.own _) => mBind f (fun d ρ1 => match ρ1[i]? with
    | some (.own ds) => mLift (bothD d (.list ds) (.int (ds.countP fun z => PyData.eqv z d : Nat))) ρ1
    | _ => none) ρ
  | _ => none
theorem ev_cntO {i : Nat} {x : Str} {e : Expr} {f : Mo D} {p1 apos cpos : Pos} (h : EV X E e f) (hu : X.A.units + 65 < cLine) (hN : X.N[i]? = some x := by rfl) (hv : Vis X.env.scope x := by first | exact Or.inl rfl | exact Or.inr (Or.inl rfl) | exact Or.inr (Or.inr rfl)) (hd : (x == ("__debug__" : Str)) = false := by decide) (hcd : (x == ("__classdict__" : Str)) = false := by decide)
    (base : attributeBase (.Name x p1) "count" X.env (eval (.Name x p1) X.env) = eval (.Name x p1) X.env := by rfl) (few : Few X cpos [e] := by rfl)
    (line : (apos.endLine == cpos.line) = true := by rfl) (st : starEach [e] X.env = (false, eval e X.env) :: starEach [] X.env := by rfl) (pl : (backTo cpos (starEach [] X.env)).any (·.1) = false := by rfl) : EV X E (.Call (.Attribute (.Name x p1) "count" apos) [e] [] cpos) (mCntO i f) := by
  obtain ⟨t, p, q⟩ := h
  refine ⟨_, pe_bm PySem.F.plainAttrs_list PySem.F.slot_list_count PySem.F.type_list_count (mt_cntO hu) (pe_var hN hv hd hcd) (pa_cons p pa_nil st) base few line st pl, fun G ρ σ H Q j h => ?_⟩
  unfold mCntO at h
  cases hs : ρ[i]? with
  | none => rw [hs] at h; exact h.elim
  | some sl =>
    rw [hs] at h
    cases sl with
    | no => exact h.elim
    | box _ => exact h.elim
    | pur d => exact h.elim
    | own ds0 =>
      obtain ⟨a, vs, h1, h2, h3, h4⟩ := j.own i _ ds0 hs rfl
      refine ⟨.ref a, h1, .inl ⟨rfl, vs, .of h2⟩, q G ρ σ H _ j (Post.imp h fun G1 ρ1 y H1 d e1 r1 h5 => ?_)⟩
      cases hs1 : ρ1[i]? with
      | none => simp only [hs1] at h5; exact h5.elim
      | some sl1 =>
        cases sl1 with
        | no => simp only [hs1] at h5; exact h5.elim
        | box _ => simp only [hs1] at h5; exact h5.elim
        | pur d => simp only [hs1] at h5; exact h5.elim
        | own ds =>
          simp only [hs1] at h5
          obtain ⟨a2, ws, g1, g2, g3, g4⟩ := e1.j.own i _ ds hs1 rfl
          rw [h1] at g1
          cases g1
          obtain ⟨c, hc, k2⟩ := Post.lift (ρ' := ρ1) h5
          obtain ⟨⟨h6, h7⟩, rfl⟩ := ite_some (show (if SeqAt.shaped d = true ∧ SeqAt.shaped (.list ds) = true then some (PyData.int (ds.countP fun z => PyData.eqv z d : Nat)) else none) = some c from hc)
          exact ⟨a, y, d, ds, rfl, rfl, .lst (.of g2) (RpAll.dp ds (SeqAt.canLay_of_shaped h7) (g4.mono e1.j.sub)), r1.shaped e1.j.sub h6, h7, h6, k2 G1 _ H1 e1.j.refl (.int _)⟩
end
end HB
namespace HB
open PySem L2
def ItzN (K : PySem.W.Frag) (a b : Addr) : It where
  go := fun i H => ∃ (xs ys : List V) (x y : V), SqL K H a xs ∧ SqL K H b ys ∧ xs[i]? = some x ∧ ys[i]? = some y
  yld := fun i H v H2 => ∃ T x y o, v = .ref T ∧ H T = none ∧ o.dict = none ∧ H2 = upd H T (.frz o (.tup [x, y])) ∧ (∀ xs, SqL K H a xs → xs[i]? = some x) ∧ ∀ ys, SqL K H b ys → ys[i]? = some y
  stop := fun i H => ∃ xs ys : List V, SqL K H a xs ∧ SqL K H b ys ∧ (xs.length ≤ i ∨ ys.length ≤ i)
/-- how such a zip stands ahead of its turn i -/
structure ZNt (a b z TI TO i1 i2 : Addr) (i : Nat) (h : Heap) : Prop where
  zp : IsZip h z TI TO .none
  ti : IsPair h TI (.ref i1) (.ref i2)
  to : ∃ x y, IsPair h TO x y
  l : h.IsListIter i1 a i
  r : h.IsListIter i2 b i
theorem ZNt.all {a b z TI TO i1 i2 : Addr} {i : Nat} {h : Heap} (q : ZNt a b z TI TO i1 i2 i h) : ∀ c ∈ [z, TI, TO, i1, i2], ∃ o, h.get? c = some o ∧ ∀ v, o.data ≠ .cell v := by
  obtain ⟨x, y, q3⟩ := q.to
  obtain ⟨o1, e1, _, d1⟩ := q.l
  obtain ⟨o2, e2, _, d2⟩ := q.r
  simp only [List.mem_cons, List.not_mem_nil, or_false, forall_eq_or_imp, forall_eq]
  exact ⟨⟨_, q.zp, fun v e => nomatch e⟩, ⟨_, q.ti, fun v e => nomatch e⟩, ⟨_, q3, fun v e => nomatch e⟩, ⟨o1, e1, fun v e => nomatch (d1.symm.trans e)⟩, ⟨o2, e2, fun v e => nomatch (d2.symm.trans e)⟩⟩
theorem turn_zipN {P : Program} {w : World} {K : PySem.W.Frag} {elts : List Expr} {kk : Nat} {tpos : Pos} {a b z TI TO i1 i2 : Addr} (Da : ZipApart z TI TO i1 i2 a b) :
    Turn P w K (.Tuple elts kk tpos) (ItzN K a b) [z, TI, TO, i1, i2] z (ZNt a b z TI TO i1 i2) where
  mem := by simp
  obj := fun i h q => q.all
  keep := fun i h h' q k => ⟨k z (by simp) _ q.zp, k TI (by simp) _ q.ti, let ⟨x, y, q3⟩ := q.to; ⟨x, y, k TO (by simp) _ q3⟩, q.l.at fun o e => k i1 (by simp) o e, q.r.at fun o e => k i2 (by simp) o e⟩
  item := by
    intro X hP hw hK hc i pins s σ H E I hf q ⟨xs, ys, x, y, g1, g2, hx, hy⟩
    subst hP hw hK
    obtain ⟨x0, y0, q3⟩ := q.to
    have ⟨its, rv, p, _⟩ := I.list g1
    have ⟨its2, rv2, p2, _⟩ := I.list g2
    have ⟨u, hu, ru⟩ := rv.get hx
    have ⟨u2, hu2, ru2⟩ := rv2.get hy
    have lt : ∀ c ∈ [z, TI, TO, i1, i2], c < s.heap.objs.size := fun c m => let ⟨_, e, _⟩ := q.all c m; Heap.lt_size e
    refine wpAny_pyNext_zip_item Da q.zp q.ti q3 q.l q.r p.isList p2.isList (x := u) (y := u2) (by simpa using hu) (by simpa using hu2) fun h2 b1 b2 b3 b4 hT hsz hk => ⟨_, rfl, ?_⟩
    refine wpAny_letOwnedTupleGo_zip (s := { s with heap := h2 }) b1 fun g b5 sb => ?_
    have same : ∀ c o, c ∉ [z, TI, TO, i1, i2] → s.heap.get? c = some o → g.get? c = some o := fun c o hb e => by
      simp only [List.mem_cons, List.not_mem_nil, or_false, not_or] at hb
      exact (sb.2 c hb.1).trans (hk c o hb.1 hb.2.2.1 hb.2.2.2.1 hb.2.2.2.2 e)
    have pr : IsPair g s.heap.objs.size u u2 := (sb.2 _ (Nat.ne_of_gt (lt z (by simp)))).trans hT
    have nw : ObjOk X.prog X.w (upd H s.heap.objs.size (.frz (tupO [u, u2]) (.tup [x, y]))) g s.heap.objs.size (.frz (tupO [u, u2]) (.tup [x, y])) := ⟨pr, by show 2 ≤ sizeLine; decide, [u, u2], .cons ru (.cons ru2 .nil), ⟨_, pr, rfl, _, rfl⟩⟩
    refine ⟨.ref s.heap.objs.size, _, I.turnedNew (t' := s.toks) (ch := [z, TI, TO, i1, i2]) same hf (Nat.le_refl _) nw, rfl, ⟨_, x, y, _, rfl, I.hok.fresh (Nat.le_refl _), rfl, rfl, fun l hl => by rw [I.list_inj hl g1]; exact hx, fun l hl => by rw [I.list_inj hl g2]; exact hy⟩,
      ⟨b5, (sb.2 _ Da.TIz).trans (hk _ _ Da.TIz Da.TITO Da.TIi1 Da.TIi2 q.ti), ⟨u, u2, (sb.2 _ Da.TOz).trans b2⟩, b3.at fun o e => (sb.2 _ Da.i1z).trans e, b4.at fun o e => (sb.2 _ Da.i2z).trans e⟩, fun c hcm => ?_⟩
    exact (upd_ne (Nat.ne_of_lt (lt c hcm))).trans (hf c hcm).1
  done := by
    intro X hP hw hK hc i pins s σ H E I hf q ⟨xs, ys, g1, g2, e1⟩
    subst hP hw hK
    obtain ⟨x0, y0, q3⟩ := q.to
    have ⟨its, rv, p, _⟩ := I.list g1
    have ⟨its2, rv2, p2, _⟩ := I.list g2
    have l1 := rv.length
    have l2 := rv2.length
    refine wpAny_pyNext_zip_end (I.ok.hd hc) Da q.zp q.ti q3 q.l q.r p.isList p2.isList (e1.imp (fun z => by simp; omega) fun z => by simp; omega) fun h2 hk => ⟨rfl, I.turnedL (t' := s.toks) (ch := [z, TI, TO, i1, i2]) (fun c o hb e => ?_) hf⟩
    simp only [List.mem_cons, List.not_mem_nil, or_false, not_or] at hb
    exact hk c o hb.1 hb.2.2.1 hb.2.2.2.1 hb.2.2.2.2 e
  self := fun A i s Q E st h => wpAny_pyIter_zip st.zp h
section
variable {X : Cx} {E : XK}
def iZipN (K : PySem.W.Frag) (ta : TA) : TI := fun σ H R => ta σ H fun vs H1 => ∃ a b xs ys, vs = [.ref a, .ref b] ∧ SqL K H1 a xs ∧ SqL K H1 b ys ∧ R (ItzN K a b) H1
theorem pi_zipN {e e2 : Expr} {ta : TA} {p pos tpos : Pos} {elts : List Expr} {kk : Nat} (hg : Gl X "zip") (hm : X.mg "zip" = none) (ha : PA X [e, e2] ta) (hs : starEach [e, e2] X.env = (false, eval e X.env) :: starEach [e2] X.env := by rfl) (hpl : (backTo pos (starEach [e2] X.env)).any (·.1) = false := by rfl) :
    PI X (.Tuple elts kk tpos) (.Call (.Name "zip" p) [e, e2] [] pos) (iZipN X.K ta) := by
  refine PI.mk fun pins s σ H R I h => PyProof.Rows.Call_ (ld_blt I hg hm PyProof.Rows.boot_zip (PyProof.Rows.callWith_type1 (thn (ha.run pos pins s σ H _ I h) ?_) hs hpl))
  rintro us s1 ⟨vs, H1, I1, r1, a, b, xs, ys, rfl, g1, g2, q⟩
  match us, r1 with
  | [_, _], .cons rfl (.cons rfl .nil) =>
    have ⟨its, rv, p1, _⟩ := I1.list g1
    have ⟨its2, rv2, p2, _⟩ := I1.list g2
    refine call_zip_2 p1.isList p2.isList fun h2 hz hTI hTO h1 h2' hsz hk => wpAny_pyIter_zip hz ?_
    refine ⟨s1.heap.objs.size + 4, [s1.heap.objs.size + 4, s1.heap.objs.size + 2, s1.heap.objs.size + 3, s1.heap.objs.size, s1.heap.objs.size + 1], _, _, H1, rfl, I1.kept (t' := s1.toks) hk, turn_zipN (PySem.W.ktu_apart s1.heap.objs.size a b p1.lt p2.lt), ⟨hz, hTI, ⟨_, _, hTO⟩, h1, h2'⟩, fun c hcm => ?_, q⟩
    have up : s1.heap.objs.size ≤ c := by
      simp only [List.mem_cons, List.not_mem_nil, or_false] at hcm
      rcases hcm with e | e | e | e | e <;> subst e <;> first | exact Nat.le_refl _ | exact Nat.le_add_right _ _
    exact I1.fpOk up (I1.hok.fresh up)
def lstOf : D → Option (List D)
  | .list ds => some ds
  | _ => none
def zipN : List D → Option Src
  | [a, b] => match lstOf a, lstOf b with
    | some xs, some ys => some (constS (zipD xs ys))
    | _, _ => none
  | _ => none
def mZip (f : Mo (List D)) : Mo Src := mRange zipN f
theorem Rp.lstOf {K : PySem.W.Frag} {G : Hp} {v : V} {d : D} {ds : List D} (r : Rp K G v d) (h : HB.lstOf d = some ds) : ∃ p xs, v = .ref p ∧ SqL K G p xs ∧ RpAll K G xs ds := by
  cases r with
  | lst h1 h2 => cases h; exact ⟨_, _, rfl, .inl (.inl h1), h2⟩
  | _ => cases h
theorem zipN_ok {K : PySem.W.Frag} {G : Hp} {σ : St} {a b : Addr} {xs ys : List V} {ds es : List D} {js : List Nat} (g1 : SqL K G a xs) (g2 : SqL K G b ys) (r1 : RpAll K G xs ds) (r2 : RpAll K G ys es) : ItOk K G σ (ItzN K a b) (constS (zipD ds es)) js := by
  intro i G2 ρ2 σ2 H2 items sg j _ e
  cases e
  have s1 : SqL K H2 a xs := j.sub.seq (sg.seq g1)
  have s2 : SqL K H2 b ys := j.sub.seq (sg.seq g2)
  have n1 := r1.length
  have n2 := r2.length
  refine ⟨fun d hd => ?_, fun hi => ⟨xs, ys, s1, s2, ?_⟩⟩
  · obtain ⟨x, y, hx, hy, rfl⟩ := zipD_get ds es i d hd
    obtain ⟨v, p1, p2⟩ := r1.get hx
    obtain ⟨u, p3, p4⟩ := r2.get hy
    refine ⟨⟨xs, ys, v, u, s1, s2, p1, p3⟩, fun z H3 yl => ?_⟩
    obtain ⟨T, x', y', o, rfl, hT, nd, rfl, f1, f2⟩ := yl
    have e1 := Option.some.inj ((f1 xs s1).symm.trans p1)
    have e2 := Option.some.inj ((f2 ys s2).symm.trans p3)
    subst e1 e2
    have px : PX G2 H2 _ _ := .alloc j.sub hT (.frz o (.tup [x', y']))
    exact ⟨_, px, .tup (.new nd) (.cons ((p2.mono sg).mono px.g) (.cons ((p4.mono sg).mono px.g) .nil))⟩
  · rw [zipD_len] at hi
    omega
theorem iv_zip {e e2 : Expr} {f : Mo (List D)} {p pos tpos : Pos} {elts : List Expr} {kk : Nat} (hm : X.mg "zip" = none) (ha : EA X E [e, e2] f) (hg : Gl X "zip" := by rfl) (hs : starEach [e, e2] X.env = (false, eval e X.env) :: starEach [e2] X.env := by rfl) (hpl : (backTo pos (starEach [e2] X.env)).any (·.1) = false := by rfl) :
    IV X E (.Tuple elts kk tpos) (.Call (.Name "zip" p) [e, e2] [] pos) (mZip f) [] := by
  obtain ⟨t, pt, q⟩ := ha
  refine ⟨_, pi_zipN hg hm pt hs hpl, fun G ρ σ H R j h => q G ρ σ H _ j (PostI.imp h fun G1 ρ1 vs H1 ds e1 r1 h1 => ?_)⟩
  obtain ⟨src, hsr, k⟩ := PostI.lift h1
  match ds, hsr with
  | [d1, d2], hsr =>
    have hsr2 : (match lstOf d1, lstOf d2 with
      | some xs, some ys => some (constS (zipD xs ys))
      | _, _ => none) = some src := hsr
    cases hi1 : lstOf d1 with
    | none => simp only [hi1] at hsr2; cases hsr2
    | some xs =>
      cases hi2 : lstOf d2 with
      | none => simp only [hi1, hi2] at hsr2; cases hsr2
      | some ys =>
        simp only [hi1, hi2] at hsr2
        cases hsr2
        obtain ⟨x, y, rfl, ra, rb⟩ := r1.two
        obtain ⟨pa, vx, rfl, sa, aa⟩ := ra.lstOf hi1
        obtain ⟨pb, vy, rfl, sb, ab⟩ := rb.lstOf hi2
        exact ⟨pa, pb, vx, vy, rfl, e1.j.sub.seq sa, e1.j.sub.seq sb, k G1 H1 _ e1.j.refl (zipN_ok sa sb aa ab)⟩
theorem const_zip {f : Mo (List D)} : ∀ ρ ρ' s, mZip f ρ = some (.ok (ρ', s)) → Const s := by
  intro ρ ρ' s h
  unfold mZip mRange mBind mLift at h
  cases e : f ρ with
  | none => simp only [e] at h; cases h
  | some o =>
    cases o with
    | error x => simp only [e] at h; cases h
    | ok p =>
      obtain ⟨ρ1, ds⟩ := p
      simp only [e] at h
      cases hi : zipN ds with
      | none => simp only [hi] at h; cases h
      | some src =>
        simp only [hi] at h
        cases h
        unfold zipN at hi
        split at hi
        · split at hi
          · cases hi
            exact fun _ => rfl
          · cases hi
        · cases hi
end
end HB
namespace HB
open PySem L2
theorem oexB_ok {K : PySem.W.Frag} {C : Addr} (h : oexB K C = true) : OexC K C := by
  have ⟨h1, h⟩ := He.ba h
  have ⟨h2, h⟩ := He.ba h
  have ⟨h3, h⟩ := He.ba h
  have ⟨h4, h5⟩ := He.ba h
  refine ⟨?_, He.eqO_ok h2, of_decide_eq_true h3, of_decide_eq_true h4, h5⟩
  split at h1
  · rename_i dd cd sl look
    split at h1
    · rename_i C2 bm k0 k1 k2 k3 n k5 mro slots
      have ⟨e1, h1⟩ := He.ba h1
      have ⟨e2, h1⟩ := He.ba h1
      have ⟨e3, h1⟩ := He.ba h1
      have ⟨e4, e5⟩ := He.ba h1
      obtain ⟨nm, bs, mr, ns, qn, hd, sn, sub, ab, col, del⟩ := cd
      have e6 : sl = #[k0, k1, k2, k3, some (.builtin n), k5] := by
        obtain ⟨l⟩ := sl
        exact congrArg Array.mk slots
      have e1 := of_decide_eq_true e1
      have e2 := of_decide_eq_true e2
      have e3 : del = false := by simpa using e3
      have e4 : hd = true := e4
      have mro : mr = .ref C2 :: bm := mro
      subst e1 e2 e3 e4 mro e6
      exact ⟨nm, qn, ns, bs, bm, sn, sub, ab, col, dd, k0, k1, k2, k3, k5, look, e5⟩
    · cases h1
  · cases h1
structure ExcF (K : PySem.W.Frag) (c f : Str) : Prop where
  o : OexC K (He.ga K c)
  x : XfC K (He.ga K c)
  n : PySem.W.findIn K (.ref (He.ga K c)) f = some none
  i : PySem.W.findIn K (.ref (He.ga K c)) "__init__" = some (some (.ref (He.ma K (He.ga K c) "__init__")))
  t : PySem.W.typeIn K (.ref (He.ma K (He.ga K c) "__init__")) = some (.type "function")
theorem excB_ok {K : PySem.W.Frag} {c f : Str} (h : excB K c f = true) : ExcF K c f := by
  have ⟨h1, h⟩ := He.ba h
  have ⟨h2, h⟩ := He.ba h
  have ⟨h3, h⟩ := He.ba h
  have ⟨h4, h5⟩ := He.ba h
  exact ⟨oexB_ok h1, xfB_ok h2, He.eqO_ok h3, He.eqO_ok h4, of_decide_eq_true h5⟩
structure BotF (K : PySem.W.Frag) (b : Str) : Prop where
  r : PySem.W.readsIn K (He.ga K b) (.type "type") = true
  f : PySem.W.findCls K (.ref (He.ga K b)) (.type "type") "__init__" = some (.val (.builtin "ValueError.__init__"))
  s : PySem.W.specialIn K (.ref (He.ga K b)) "__getattribute__" = some (some (.builtin "type.__getattribute__"))
theorem botB_ok {K : PySem.W.Frag} {b : Str} (h : botB K b = true) : BotF K b := by
  have ⟨h1, h⟩ := He.ba h
  split at h
  · rename_i e
    exact ⟨h1, e, He.eqO_ok h⟩
  · cases h
section
variable {X : Cx} {e : Expr} {es : List Expr} {ta : TA} {b f : Str} {p p1 p2 pos : Pos}
theorem pe_binit {pl : Sem Bool} (hg : Gl X b) (hm : X.mg b = some (.ref (He.ga X.K b))) (B : BotF X.K b) (ha : PA X (e :: es) ta)
    (hc : eval (.Call (.Attribute (.Name b p1) "__init__" p2) (e :: es) [] pos) X.env = (do
      let ow ← eval (.Name b p1) X.env
      standAt p2.atName
      let (fx, fst) ← holding [ow] (getMethod ow "__init__" pl)
      callWith pos fx fst (backTo pos (starEach (e :: es) X.env)) (backToKw pos (keywordEach [] X.env))) := by rfl)
    (hdb : (b == ("__debug__" : Str)) = false := by decide) (he : starEach (e :: es) X.env = (false, eval e X.env) :: starEach es X.env := by rfl) (hpl : (backTo pos (starEach es X.env)).any (·.1) = false := by rfl) :
    PE X (.Call (.Attribute (.Name b p1) "__init__" p2) (e :: es) [] pos) (tVeI X.K ta) := by
  constructor; intro pins s σ H Q I h
  refine PySem.W.methodCall_KW (ld_glob I hg hm (PySem.W.method_cls I.kIn B.s (PySem.W.cls_value I.kIn B.r B.f (by decide +kernel) ?_)) hdb) hc
  show wpAny _ _ (callWith pos (Value.builtin "ValueError.__init__") [] (backTo pos (starEach (e :: es) X.env)) []) _ _ _; refine PyProof.Rows.callWith_method1 (thn (ha.run pos pins _ σ H _ (I.tok _) h) ?_) he hpl
  rintro us s1 ⟨vs, H1, I1, r1, a, C, ws, rfl, hl, T, ea, q⟩
  match us, r1 with
  | _ :: ur, .cons rfl rest =>
    have long : ur.length ≤ sizeLine := by
      have := Paired.length rest
      have : sizeLine = 16777216 := by decide
      omega
    exact oinit_ok T I1 ea long fun s2 J2 => ⟨.non, H1, J2, rfl, q⟩
end
/-- what such an __init__ leaves: the field in a new dict -/
def spExc (K : PySem.W.Frag) (C : Addr) (f : Str) : Sp := fun vs H Q _ => ∃ (a : Addr) (v : V), vs = [.ref a, v] ∧ H a = some (exo a C none) ∧ ∀ d, H d = none → d ≠ a → Q .non (upd (upd H d (exd d [(f, v)])) a (exo a C (some d)))
theorem exc_suite {X : Cx} {b f x : Str} {txt : Str} {ck : Nat} {p1 p2 p3 p4 p5 p6 p7 p8 p9 p10 : Pos} {C : Addr} (hN0 : X.N[0]? = some ("self" : Str)) (hN1 : X.N[1]? = some x) (hv0 : Vis X.env.scope ("self" : Str)) (hv1 : Vis X.env.scope x)
    (hg : Gl X b) (hm : X.mg b = some (.ref (He.ga X.K b))) (B : BotF X.K b) (O : OexC X.K C) (hn : PySem.W.findIn X.K (.ref C) f = some none) (hd1 : (x == ("__debug__" : Str)) = false) (hd2 : (x == ("__classdict__" : Str)) = false) (hdb : (b == ("__debug__" : Str)) = false)
    {pl : Sem Bool} (hc : eval (.Call (.Attribute (.Name b p1) "__init__" p2) [.Name "self" p3, .Constant (.str txt) ck p4] [] p5) X.env = (do
      let ow ← eval (.Name b p1) X.env
      standAt p2.atName
      let (fx, fst) ← holding [ow] (getMethod ow "__init__" pl)
      callWith p5 fx fst (backTo p5 (starEach [.Name "self" p3, .Constant (.str txt) ck p4] X.env)) (backToKw p5 (keywordEach [] X.env)))) 
    (hs1 : swapsWith (.Call (.Attribute (.Name b p1) "__init__" p2) [.Name "self" p3, .Constant (.str txt) ck p4] [] p5) none p6.line X.env = pure false) (hs2 : swapsWith (.Name x p9) (some (.Attribute (.Name "self" p7) f p8)) p10.line X.env = pure false) :
    ∃ t, PSs X [.Expr (.Call (.Attribute (.Name b p1) "__init__" p2) [.Name "self" p3, .Constant (.str txt) ck p4] [] p5) p6, .Assign [.Attribute (.Name "self" p7) f p8] (.Name x p9) p10] t ∧
      ∀ (D : Ends) (σ : St) (H : Hp) (a : Addr) (v : V), σ[0]? = some (some (.ref a)) → σ[1]? = some (some v) → H a = some (exo a C none) → (∀ d, H d = none → d ≠ a → D.nx σ (upd (upd H d (exd d [(f, v)])) a (exo a C (some d)))) → t D σ H := by
  have e0 : PE X (.Name "self" p3) (tVar 0) := pe_var hN0 hv0 (by decide) (by decide)
  have e0' : PE X (.Name "self" p7) (tVar 0) := pe_var hN0 hv0 (by decide) (by decide)
  have e1 : PE X (.Name x p9) (tVar 1) := pe_var hN1 hv1 hd1 hd2
  refine ⟨_, pss_cons (ps_expr (pe_binit hg hm B (pa_cons e0 (pa_cons pe_str pa_nil)) hc hdb) hs1) (pss_one (ps_ost (f := f) e0' e1 hs2)), ?_⟩
  intro D σ H a v s0 s1 ha k
  refine ⟨.ref a, s0, ?_⟩
  refine ⟨a, C, [.str txt], rfl, by simp, O, ha, ?_⟩
  refine ⟨v, s1, .ref a, s0, a, C, rfl, O, hn, .inl ⟨ha, fun d hd ne => k d hd ne⟩⟩
/-- an error class: its facts, what its __init__ promises -/
structure XcE (P : Program) (w : World) (K : PySem.W.Frag) (mg : Str → Option Value) (base : Heap) (k : Nat) (c f : Str) : Prop where
  fc : ExcF K c f
  ex : ∃ fd ps, FnOk P w K mg base (L2.CX P w) k (He.ma K (He.ga K c) "__init__") fd ps (spExc K (He.ga K c) f) ∧ Binds K fd ps []
  gl : mg c = some (.ref (He.ga K c))
theorem exc_ok {P : Program} {w : World} {K : PySem.W.Frag} {mg : Str → Option Value} {base : Heap} {c f x qual : Str} {st : Stmt} {fd : FuncData} (F : FunD K "__init__" qual (defArgs st) (defBody st) (defScope st) [] [] (He.ma K (He.ga K c) "__init__") fd) (S : FnScope [("self" : Str), x] [("self" : Str), x] (defScope st))
    (fc : ExcF K c f) (gl : mg c = some (.ref (He.ga K c)))
    (b : ∀ (kV doc pm : Value) (an : Option Addr) (cdv ct : Value) (us : List Value), us.length = [("self" : Str), x].length → bindArgs (PySem.W.fnOf "__init__" qual (defArgs st) (defBody st) (defScope st) .none kV doc pm an cdv ct) ⟨us, []⟩ = pure ([("self" : Str), x].zip us))
    (hb : ∀ (cdv : Value) (A : Around) (outer : List PySem.Env) (s : Shared) (H : Hp) (E : XK), ∃ t, PSs (cxOf (L2.CX P w) P w K mg base [("self" : Str), x] qual (defScope st) (He.ma K (He.ga K c) "__init__") cdv A outer s H E) (defBody st) t ∧
      ∀ (D : Ends) (σ : St) (H : Hp) (a : Addr) (v : V), σ[0]? = some (some (.ref a)) → σ[1]? = some (some v) → H a = some (exo a (He.ga K c) none) → (∀ d, H d = none → d ≠ a → D.nx σ (upd (upd H d (exd d [(f, v)])) a (exo a (He.ga K c) (some d)))) → t D σ H) :
    XcE P w K mg base 1 c f := by
  refine ⟨fc, ⟨fd, [("self" : Str), x], F.ok S (fun vs H Q E h => ?_) fun cdv A outer s H vs Q E hr h => ?_, F.bindsN b⟩, gl⟩
  · obtain ⟨a, v, rfl, _⟩ := h
    rfl
  · obtain ⟨a, v, rfl, ha, k⟩ := h
    obtain ⟨t, p, q⟩ := hb cdv A outer s H E
    exact ⟨t, p, q _ _ H a v rfl rfl ha k⟩
def sRaise (c f : Str) (a : Mo D) : Mo Fl := mBind a fun d _ => some (.error (c, [(f, d)]))
section
variable {X : Cx} {E : XK}
theorem s_raise {k : Nat} {c f : Str} {e : Expr} {g : Mo D} {p pos pos2 : Pos} (hX : XcE X.prog X.w X.K X.mg X.base k c f) (hr : Room (k + 1) X.A) (calm : X.calm = true) (tk : Takes X (fun cls d _ H => E cls d H)) (h : EV X E e g)
    (hg : Gl X c := by rfl) (hdb : (c == ("__debug__" : Str)) = false := by decide) (he : starEach [e] X.env = (false, eval e X.env) :: starEach [] X.env := by rfl) (hpl : (backTo pos (starEach [] X.env)).any (·.1) = false := by rfl) :
    SV X E (.Raise (some (.Call (.Name c p) [e] [] pos)) none pos2) (sRaise c f g) := by
  obtain ⟨fc, ⟨fd, ps, F1, bnd⟩, gl⟩ := hX
  obtain ⟨t, pt, q⟩ := h
  have no : Passes (L2.CX X.prog X.w) X (fun _ _ _ => False) := passes_call tk fun _ _ _ _ z => z.elim
  refine ⟨_, ps_raise calm tk (pmk_oex fc.o fc.i fc.t F1 hr bnd .nil no hg gl (pa_cons pt pa_nil he) hdb he hpl), fun G ρ σ H De j h => ?_⟩
  refine q G ρ σ H _ j (PostS.imp h fun G1 ρ1 v H1 d e1 r1 h1 => ?_)
  refine ⟨by simp, fun a na => ⟨a, v, rfl, upd_same, fun dd hd ne => ⟨rfl, dd, [(f, v)], upd_same, ?_, ?_, h1 _ _ _ ?_⟩⟩⟩
  · rw [upd_ne ne, upd_same]
  · rwa [upd_ne ne] at hd
  · have hd1 : H1 dd = none := by rwa [upd_ne ne] at hd
    have other : ∀ b, b ≠ dd → b ≠ a → upd (L2.del (upd (upd (upd H1 a (exo a (He.ga X.K c) none)) dd (exd dd [(f, v)])) a (exo a (He.ga X.K c) (some dd))) a) dd (.xd [(f, v)]) b = H1 b := fun b n1 n2 => by
      rw [upd_ne n1, del_ne n2, upd_ne n2, upd_ne n1, upd_ne n2]
    have stays : ∀ b o, H1 b = some o → upd (L2.del (upd (upd (upd H1 a (exo a (He.ga X.K c) none)) dd (exd dd [(f, v)])) a (exo a (He.ga X.K c) (some dd))) a) dd (.xd [(f, v)]) b = some o := fun b o z => by
      rw [other b (fun e => by rw [e, hd1] at z; cases z) (fun e => by rw [e, na] at z; cases z)]
      exact z
    refine ⟨rfl, G1, fun _ _ z => z, fun b o z => stays b o (e1.j.sub b o z), fun b hb => .inl hb, fun b o z _ => stays b o z, fun b hb => ?_, .inr ⟨dd, [(f, v)], rfl, upd_same, .cons r1 .nil⟩⟩
    by_cases n1 : b = dd
    · rw [n1, upd_same] at hb; cases hb
    · by_cases n2 : b = a
      · rw [n2]; exact na
      · rw [other b n1 n2] at hb; exact hb
end
end HB
namespace HB
open PySem L2
abbrev botK : XK := fun _ _ _ => False
def mSafe {α : Type} (f : Mo α) : Mo α := fun ρ => match f ρ with
  | some (.ok p) => some (.ok p)
  | _ => none
theorem passB {X : Cx} {pn : List (Addr × Obj)} {xe : Value → Shared → Prop} : Passes (L2.CX X.prog X.w) (X.tr pn xe) botK := fun _ _ _ _ _ _ _ c => by
  obtain ⟨_, _, _, _, _, _, _, _, _, _, _, _, z⟩ := c
  exact z.elim
/-- the body of a try: an exception that leaves it finds the slots as they are -/
def BX (X : Cx) (body : List Stmt) (g : Mo Fl) : Prop := ∀ (W : WX) (pn : List (Addr × Obj)) (xe : Value → Shared → Prop), Takes (X.tr pn xe) W →
  ∃ t, PSs (X.tr pn xe) body t ∧ ∀ G ρ σ H De, J X.K G ρ σ H → PostS X.K (WE W σ) G ρ σ H De (g ρ) → t De σ H
section
variable {X : Cx}
theorem safe_post {α β : Type} {K : PySem.W.Frag} {E : XK} {G H : Hp} {ρ : En} {σ : St} {De : Ends} {f : Mo α} {k : α → Mo Fl} {R : Hp → β → α → Prop} {Q : β → Hp → Prop} (h : PostS K E G ρ σ H De (mBind (mSafe f) k ρ))
    (go : ∀ G1 ρ1 v H1 a, Ex K G ρ σ H G1 ρ1 σ H1 → R G1 v a → PostS K E G1 ρ1 σ H1 De (k a ρ1) → Q v H1) : Post K botK R G ρ σ H Q (f ρ) := by
  unfold mBind mSafe at h
  cases q : f ρ with
  | none => simp only [q] at h; exact h
  | some r =>
    cases r with
    | error x => simp only [q] at h; exact h.elim
    | ok p =>
      obtain ⟨ρ1, a⟩ := p
      simp only [q] at h
      exact fun G1 v H1 z r => go G1 ρ1 v H1 a z r (PostS.ex z h)
end
end HB
namespace HB
open PySem L2
/-- the caught error lies so -/
structure Held (K : PySem.W.Frag) (a : Addr) (cls : Value) (d : Option Addr) (i : Nat) (G : Hp) (σ : St) (H : Hp) (x : Exn) : Prop where
  s : σ[i]? = some (some (.ref a))
  c : cls = .ref (He.ga K x.1)
  f : ∃ dd fs, d = some dd ∧ H dd = some (.xd fs) ∧ RpF K G fs (x.2.map fun p => (.str p.1, p.2))
  sub : Same G H
theorem Held.px {K : PySem.W.Frag} {a : Addr} {cls : Value} {d : Option Addr} {i : Nat} {G G1 H H1 : Hp} {σ : St} {x : Exn} (h : Held K a cls d i G σ H x) (p : PX G H G1 H1) : Held K a cls d i G1 σ H1 x :=
  ⟨h.s, h.c, let ⟨dd, fs, e1, e2, e3⟩ := h.f; ⟨dd, fs, e1, p.h _ _ e2, e3.mono p.g⟩, p.s⟩
/-- an expression in the suite, a test in it -/
def HV (X : Cx) (i : Nat) (e : Expr) (f : Exn → Option D) : Prop := ∀ (a : Addr) (oe : Obj) (cls : Value) (d : Option Addr) (pn : List (Addr × Obj)), Zc cls d oe → (∃ vs, oe.data = .fields vs) →
  ∃ t, PE (X.suite a ((a, oe) :: pn)) e t ∧ ∀ G σ H Q x y, Held X.K a cls d i G σ H x → f x = some y → (∀ G1 v H1, PX G H G1 H1 → Rp X.K G1 v y → Q v H1) → t σ H Q
def HT (X : Cx) (i : Nat) (e : Expr) (f : Exn → Option Bool) : Prop := ∀ (a : Addr) (oe : Obj) (cls : Value) (d : Option Addr) (pn : List (Addr × Obj)), Zc cls d oe → (∃ vs, oe.data = .fields vs) →
  ∃ t, PT (X.suite a ((a, oe) :: pn)) e t ∧ ∀ G σ H Q x b, Held X.K a cls d i G σ H x → f x = some b → Q b H → t σ H Q
def fldX (c f : Str) (x : Exn) : Option D := match x with
  | (c2, [(g, y)]) => if c2 = c ∧ g = f then some y else none
  | _ => none
section
variable {X : Cx} {i : Nat}
theorem hv_str {z : Str} {k : Nat} {pos : Pos} : HV X i (.Constant (.str z) k pos) fun _ => some (.str z) := fun a oe cls d pn _ _ =>
  ⟨_, pe_str, fun G σ H Q x y h e k => by cases e; exact k G _ H (.refl h.sub) (.str z)⟩
theorem hv_fld {c f n : Str} {p pos : Pos} (fc : ExcF X.K c f) (hN : X.N[i]? = some n) (hv : Vis X.env.scope n := by first | exact Or.inl rfl | exact Or.inr (Or.inl rfl) | exact Or.inr (Or.inr rfl)) (hd : (n == ("__debug__" : Str)) = false := by decide) (hcd : (n == ("__classdict__" : Str)) = false := by decide)
    (hb : attributeBase (.Name n p) f X.env (eval (.Name n p) X.env) = eval (.Name n p) X.env := by rfl) : HV X i (.Attribute (.Name n p) f pos) (fldX c f) := by
  intro a oe cls d pn hz ho
  refine ⟨_, pe_xf fc.x fc.n hz ho (pe_var (X := X.suite a ((a, oe) :: pn)) hN hv hd hcd) hb, ?_⟩
  intro G σ H Q x y h e k
  obtain ⟨c2, l⟩ := x
  match l, e with
  | [(g, z)], e =>
    obtain ⟨⟨e1, e2⟩, e3⟩ := ite_some (show (if c2 = c ∧ g = f then some z else none) = some y from e)
    subst e1 e2 e3
    obtain ⟨dd, fs, r1, r2, r3⟩ := h.f
    match fs, r3 with
    | [(_, v)], .cons rv .nil => exact ⟨_, h.s, rfl, h.c, dd, _, v, r1, r2, by simp [List.lookup], k G v H (.refl h.sub) rv⟩
structure IsxF (K : PySem.W.Frag) (c : Str) : Prop where
  cl : (PySem.W.clsIn K (He.ga K c)).isSome = true
  ha : PySem.W.findIn K (.ref (He.ga K c)) "__class__" = some (some (.builtin "object.__class__"))
  (hn : PySem.W.specialIn K (.builtin "object.__class__") "__get__" = some (some (.builtin "getset_descriptor.__get__"))) (ht : PySem.W.takesIn K (.builtin "object.__class__") = some true)
  hm : PySem.W.mroIn K (He.ga K c) (.type "object") = some true
theorem isxB_ok {K : PySem.W.Frag} {c : Str} (h : isxB K c = true) : IsxF K c := by
  have ⟨h1, h⟩ := He.ba h
  have ⟨h2, h⟩ := He.ba h
  have ⟨h3, h⟩ := He.ba h
  have ⟨h4, h5⟩ := He.ba h
  exact ⟨h1, He.eqO_ok h2, of_decide_eq_true h3, of_decide_eq_true h4, of_decide_eq_true h5⟩
def ifX (c : Exn → Option Bool) (f g : Exn → Option D) (x : Exn) : Option D := match c x with
  | none => none
  | some true => f x
  | some false => g x
theorem hv_if {c e1 e2 : Expr} {pos : Pos} {fc : Exn → Option Bool} {f g : Exn → Option D} (hc : HT X i c fc) (h1 : HV X i e1 f) (h2 : HV X i e2 g) : HV X i (.IfExp c e1 e2 pos) (ifX fc f g) := by
  intro a oe cls d pn hz ho
  obtain ⟨t, p, q⟩ := hc a oe cls d pn hz ho
  obtain ⟨t1, p1, q1⟩ := h1 a oe cls d pn hz ho
  obtain ⟨t2, p2, q2⟩ := h2 a oe cls d pn hz ho
  refine ⟨_, pe_ifExp p p1 p2, fun G σ H Q x y hh e k => ?_⟩
  unfold ifX at e
  cases hf : fc x with
  | none => simp only [hf] at e; cases e
  | some b =>
    cases b with
    | true => simp only [hf] at e; exact q G σ H _ x true hh hf (q1 G σ H _ x y hh e k)
    | false => simp only [hf] at e; exact q G σ H _ x false hh hf (q2 G σ H _ x y hh e k)
end
def calmE : En → Bool
  | [] => true
  | .no :: ρ => calmE ρ
  | .pur _ :: ρ => calmE ρ
  | _ :: _ => false
theorem calmE_get : ∀ {ρ : En} {i : Nat} {s : Sl} {ds : List D}, calmE ρ = true → ρ[i]? = some s → s.ls = some ds → False
  | .no :: ρ, 0, _, _, _, e, h => by cases e; cases h
  | .pur _ :: ρ, 0, _, _, _, e, h => by cases e; cases h
  | .no :: ρ, i + 1, _, _, n, e, h => calmE_get (ρ := ρ) (i := i) n (by simpa using e) h
  | .pur _ :: ρ, i + 1, _, _, n, e, h => calmE_get (ρ := ρ) (i := i) n (by simpa using e) h
  | [], _, _, _, _, e, _ => by simp at e
theorem calmE_d {ρ : En} {σ : St} (n : calmE ρ = true) (b : Addr) : ¬ Ownd ρ σ b := fun ⟨_, _, _, e, h, _⟩ => calmE_get n e h
/-- a slot goes -/
theorem Ex.drop {K : PySem.W.Frag} {G H : Hp} {ρ : En} {σ : St} (j : J K G ρ σ H) (i : Nat) : Ex K G ρ σ H G (ρ.set i .no) (σ.set i none) H := by
  have other : ∀ (k : Nat) (s : Sl), (ρ.set i .no)[k]? = some s → s ≠ .no → k ≠ i ∧ ρ[k]? = some s := fun k s e n => by
    by_cases c : k = i
    · subst c
      rw [List.getElem?_set] at e
      split at e
      · split at e
        · cases e; exact absurd rfl n
        · cases e
      · rename_i c2; exact absurd rfl c2
    · exact ⟨c, by rwa [List.getElem?_set_ne (Ne.symm c)] at e⟩
  have lsne : ∀ (s : Sl) (ds : List D), s.ls = some ds → s ≠ .no := fun s ds h e => by subst e; cases h
  have own2 : ∀ b, Ownd (ρ.set i .no) (σ.set i none) b → Ownd ρ σ b := fun b ⟨k, s, ds, e, h, z⟩ => by
    obtain ⟨n1, n2⟩ := other k s e (lsne s ds h)
    exact ⟨k, s, ds, n2, h, by rwa [List.getElem?_set_ne (Ne.symm n1)] at z⟩
  refine ⟨⟨j.sub, by simp [j.len], fun k d e => ?_, fun k s ds e h => ?_, fun k l s t ds es b e1 h1 e2 h2 z1 z2 => ?_⟩, fun _ _ z => z, fun b h => .inl h, fun b o e _ => e, fun b z => .inl (own2 b z), fun b h => h, fun k ds e => ?_⟩
  · obtain ⟨n1, n2⟩ := other k _ e (fun z => nomatch z)
    obtain ⟨v, q1, q2⟩ := j.pur k d n2
    exact ⟨v, by rw [List.getElem?_set_ne (Ne.symm n1)]; exact q1, q2⟩
  · obtain ⟨n1, n2⟩ := other k s e (lsne s ds h)
    obtain ⟨a, vs, q1, q2⟩ := j.own k s ds n2 h
    exact ⟨a, vs, by rw [List.getElem?_set_ne (Ne.symm n1)]; exact q1, q2⟩
  · obtain ⟨n1, n2⟩ := other k s e1 (lsne s ds h1)
    obtain ⟨m1, m2⟩ := other l t e2 (lsne t es h2)
    exact j.dis k l s t ds es b n2 h1 m2 h2 (by rwa [List.getElem?_set_ne (Ne.symm n1)] at z1) (by rwa [List.getElem?_set_ne (Ne.symm m1)] at z2)
  · obtain ⟨n1, n2⟩ := other k _ e (fun z => nomatch z)
    exact ⟨⟨ds, n2⟩, List.getElem?_set_ne (Ne.symm n1)⟩
end HB
namespace HB
open PySem L2
theorem xs_ok {xs : List (PySem.W.Frag → Bool)} {K : PySem.W.Frag} (c : (xs.all fun p => p K) = true) (i : Nat) {p : PySem.W.Frag → Bool} (h : xs[i]? = some p) : p K = true := List.all_eq_true.mp c p (List.mem_of_getElem? h)
end HB
namespace HB
open PySem L2
section
variable {X : Cx} {E : XK}
/-- two readings of one operator, by the left thing -/
def orD (p : D → Bool) (f g : D → D → Option D) (a b : D) : Option D := bif p a then f a b else g a b
theorem DOp.or {op : Value → Value → Sem Value} {f g : D → D → Option D} (p : D → Bool) (hf : DOp X op f) (hg : DOp X op g) : DOp X op (orD p f g) := by
  obtain ⟨r1, o1, q1⟩ := hf
  obtain ⟨r2, o2, q2⟩ := hg
  refine ⟨fun x y H Q => r1 x y H Q ∨ r2 x y H Q, fun pins s σ H x y v u Q I rx ry h => h.elim (fun z => o1 pins s σ H x y v u Q I rx ry z) fun z => o2 pins s σ H x y v u Q I rx ry z, fun G H x y a b c Q s hx hy h k => ?_⟩
  unfold orD at h
  cases hp : p a with
  | true => rw [hp] at h; exact .inl (q1 G H x y a b c Q s hx hy h k)
  | false => rw [hp] at h; exact .inr (q2 G H x y a b c Q s hx hy h k)
end
end HB
namespace HB
open PySem L2 PySem.Spec PyProof.Rows
def offE (D : Ends) (i : Nat) : Ends := { nx := fun σ H => D.nx (σ.set i none) H, rt := D.rt, bk := fun σ H => D.bk (σ.set i none) H, ct := fun σ H => D.ct (σ.set i none) H }
end HB
namespace HB
open PySem L2
structure CmE (P : Program) (w : World) (K : PySem.W.Frag) (mg : Str → Option Value) (base : Heap) (k : Nat) (c m : Str) (n : Nat) (F : Fn) : Prop where
  rd : ClX.CRead K (He.ga K c) (.type "type")
  cm : ClX.CMet K (He.ga K c) (.type "type") m (He.ma K (He.ga K c) m) (He5.wf K (He.ga K c) "classmethod" m)
  gl : mg c = some (.ref (He.ga K c))
  ex : ∃ fd ps, FnOk P w K mg base (L2.CX P w) k (He5.wf K (He.ga K c) "classmethod" m) fd ps (spP K n F) ∧ Binds K fd ps []
  ln : ∀ ds, F ds ≠ none → ds.length = n
theorem cls_ok {P : Program} {w : World} {K : PySem.W.Frag} {mg : Str → Option Value} {base : Heap} {c m qual : Str} {st : Stmt} {fd : FuncData} {N ps : List Str} {k : Nat} {g : Mo Fl} (F : FunD K m qual (defArgs st) (defBody st) (defScope st) [] [] (He5.wf K (He.ga K c) "classmethod" m) fd) (S : FnScope N ps (defScope st))
    (rd : ClX.CRead K (He.ga K c) (.type "type")) (cm : ClX.CMet K (He.ga K c) (.type "type") m (He.ma K (He.ga K c) m) (He5.wf K (He.ga K c) "classmethod" m)) (gl : mg c = some (.ref (He.ga K c)))
    (b : ∀ (kV doc pm : Value) (an : Option Addr) (cdv ct : Value) (us : List Value), us.length = ps.length → bindArgs (PySem.W.fnOf m qual (defArgs st) (defBody st) (defScope st) .none kV doc pm an cdv ct) ⟨us, []⟩ = pure (ps.zip us))
    (hb : ∀ (cdv : Value) (A : Around) (outer : List PySem.Env) (s : Shared) (H : Hp) (E : XK), Room k (A.deeper (PyProof.Rows.envOfC qual (defScope st) s.heap.objs.size (He5.wf K (He.ga K c) "classmethod" m) cdv)) → SVs (cxOf (L2.CX P w) P w K mg base N qual (defScope st) (He5.wf K (He.ga K c) "classmethod" m) cdv A outer s H E) E (defBody st) g) :
    CmE P w K mg base (k + 1) c m ps.length (guard ps.length (runF N.length g)) := by
  refine ⟨rd, cm, gl, ⟨fd, ps, F.ok S (fun vs H Q E h => ?_) fun cdv A outer s H vs Q E hr h => ?_, F.bindsN b⟩, fun ds h => guard_len h⟩
  · obtain ⟨G, ds, _, r, hl, _⟩ := h
    rw [r.length, hl]
  · obtain ⟨t, p, q⟩ := hb cdv A outer s H E hr
    exact ⟨t, p, body_sem q h⟩
section
variable {X : Cx} {E : XK}
def tMkSl (i : Nat) (C : Addr) (sp : Sp) (E : XK) (t : TA) : TE := fun σ H Q => σ[i]? = some (some (.ref C)) ∧ tMake C sp [] E t σ H Q
theorem pe_mkSl {CX : CXT} {k i : Nat} {f C : Addr} {fd : FuncData} {ps : List Str} {sp : Sp} {x : Str} {np pos : Pos} {e : Expr} {es : List Expr} {t : TA} (M : Mk X.K C f) (F : FnOk X.prog X.w X.K X.mg X.base CX k f fd ps sp) (hr : Room (k + 1) X.A) (hN : X.N[i]? = some x) (hv : Vis X.env.scope x) (hb : Binds X.K fd ps []) (hx : Passes CX X E) (ha : PA X (e :: es) t)
    (nd : (x == ("__debug__" : Str)) = false) (nc : (x == ("__classdict__" : Str)) = false) (st : starEach (e :: es) X.env = (false, eval e X.env) :: starEach es X.env) (nost : (backTo pos (starEach es X.env)).any (·.1) = false) :
    PE X (.Call (.Name x np) (e :: es) [] pos) (tMkSl i C sp E t) :=
  PE.mk fun pins s σ H Q I ⟨inSlot, told⟩ => by
    have looked := (pe_var (pos := np) hN hv nd nc).run pins s σ H (fun z Hz => z = .ref C ∧ Hz = H) I ⟨.ref C, inSlot, rfl, rfl⟩
    refine wpAny_Call_Name_kw (thn looked fun u s1 y => ?_)
    obtain ⟨z, Hz, I1, rz, ez, eH⟩ := y
    subst ez eH
    cases rz
    have args := ha.run pos pins s1 σ Hz _ I1 told
    exact PySem.W.callWith_K (h₀ := X.base) I1.ok.mod.kin M.kp (thn args fun us s2 ⟨vs, H2, I2, rs, fin⟩ => ⟨I2.kIn, run_make M F hr hb .nil hx I2 rs fin⟩) st nost
def mMkSl (i : Nat) (c : Str) (F : FnI) (a : Mo (List D)) : Mo D := fun ρ => match ρ[i]? with
  | some (.pur (.dict [(.none, .str x)])) => (match decide (x = c) with
    | true => mMake c F a ρ
    | false => none)
  | _ => none
theorem ev_mkSl {i k n : Nat} {c x : Str} {F : FnI} {p pos : Pos} {e : Expr} {es : List Expr} {f : Mo (List D)} (hF : MkE X.prog X.w X.K X.mg X.base k c n F) (hr : Room (k + 1) X.A) (hx : Passes (L2.CX X.prog X.w) X E)
    (ha : EA X E (e :: es) f) (hN : X.N[i]? = some x := by rfl) (hv : Vis X.env.scope x := by first | exact Or.inl rfl | exact Or.inr (Or.inl rfl) | exact Or.inr (Or.inr rfl)) (nd : (x == ("__debug__" : Str)) = false := by decide) (nc : (x == ("__classdict__" : Str)) = false := by decide)
    (st : starEach (e :: es) X.env = (false, eval e X.env) :: starEach es X.env := by rfl) (nost : (backTo pos (starEach es X.env)).any (·.1) = false := by rfl) : EV X E (.Call (.Name x p) (e :: es) [] pos) (mMkSl i c F f) := by
  obtain ⟨t, pt, q⟩ := ha
  obtain ⟨M, ⟨fd, ps, h1, h2⟩, _, hl⟩ := hF
  refine ⟨_, pe_mkSl (i := i) M h1 hr hN hv h2 hx pt nd nc st nost, fun G ρ σ H Q j h => ?_⟩
  unfold mMkSl at h
  split at h
  · rename_i y hq
    cases hy : decide (y = c) with
    | false => rw [hy] at h; exact h.elim
    | true =>
      rw [hy] at h
      obtain rfl := of_decide_eq_true hy
      obtain ⟨v, h3, h4⟩ := j.pur i _ hq
      cases h4 with
      | fn _ => exact ⟨h3, make_sem q hl G ρ σ H Q j h⟩
  · exact h.elim
def signsD : D → Option (List D)
  | .str z => some (z.cps.toList.map fun c => .str ⟨#[c]⟩)
  | _ => none
def mSignS (f : Mo D) : Mo Src := mBind f fun d => mLift ((signsD d).map constS)
theorem its_ok {K : PySem.W.Frag} {G : Hp} {σ : St} {z : Str} {js : List Nat} : ItOk K G σ (Its z) (constS (z.cps.toList.map fun c => .str ⟨#[c]⟩)) js := by
  intro i G2 ρ2 σ2 H2 items sg j _ e
  cases e
  refine ⟨fun d hd => ?_, fun hi => by show z.cps.size ≤ i; simpa using hi⟩
  rw [List.getElem?_map] at hd
  cases hc : z.cps.toList[i]? with
  | none => rw [hc] at hd; cases hd
  | some c =>
    rw [hc] at hd
    cases hd
    obtain ⟨lt, ec⟩ := List.getElem?_eq_some_iff.mp hc
    refine ⟨by show i < z.cps.size; simpa using lt, fun x H3 y => ?_⟩
    obtain ⟨rfl, c', h1, rfl⟩ := y
    have h2 : z.cps[i]? = some c := by
      rw [← Array.getElem?_toList]
      exact hc
    rw [h2] at h1
    cases h1
    exact ⟨G2, .refl j.sub, .str _⟩
theorem iv_signs {tg iter : Expr} {f : Mo D} (h : EV X E iter f) : IV X E tg iter (mSignS f) [] := by
  obtain ⟨t, p, q⟩ := h
  refine ⟨_, pi_str p, fun G ρ σ H R j h => q G ρ σ H _ j (PostI.imp h fun G1 ρ1 x H1 d e1 r1 h1 => ?_)⟩
  obtain ⟨src, hs, k⟩ := PostI.lift h1
  cases r1 with
  | str z =>
    cases hs
    exact ⟨z, rfl, k G1 H1 _ e1.j.refl its_ok⟩
  | _ => cases hs
theorem const_signs {f : Mo D} : ∀ ρ ρ' s, mSignS f ρ = some (.ok (ρ', s)) → Const s := by
  intro ρ ρ' s h
  unfold mSignS mBind mLift at h
  split at h
  · cases h
  · cases h
  · rename_i ρ1 d e
    cases hi : signsD d with
    | none => simp only [hi, Option.map] at h; cases h
    | some ds =>
      simp only [hi, Option.map] at h
      cases h
      exact fun _ => rfl
def intSD : List D → Option D
  | [.str z] => if z.length ≤ 640 then (PySem.intText? z).map .int else none
  | _ => none
theorem dc_intS : DCall X (.type "int") intSD := by
  refine ⟨_, call_int_str, fun G H xs ds c Q s hx h k => ?_⟩
  match ds, h with
  | [.str z], h =>
    obtain ⟨x, rfl, r⟩ := hx.one
    cases r
    by_cases hz : z.length ≤ 640
    · have h' : (if z.length ≤ 640 then (PySem.intText? z).map PyData.int else none) = some c := h
      rw [if_pos hz] at h'
      cases hn : PySem.intText? z with
      | none => rw [hn] at h'; cases h'
      | some n =>
        rw [hn] at h'
        cases h'
        exact ⟨z, n, rfl, hn, hz, k G _ H (.refl s) (.int _)⟩
    · have h' : (if z.length ≤ 640 then (PySem.intText? z).map PyData.int else none) = some c := h
      rw [if_neg hz] at h'
      cases h'
def isLstB : D → Bool
  | .list _ => true
  | _ => false
def cntLD : D → D → Option D
  | .list ds, d => if SeqAt.shaped d = true ∧ SeqAt.shaped (.list ds) = true then some (.int (ds.countP fun z => PyData.eqv z d : Nat)) else none
  | _, _ => none
def idxLD : D → D → Option D
  | .list ds, d => if SeqAt.shaped d = true ∧ SeqAt.shaped (.list ds) = true then (match ds.findIdx? (fun z => PyData.eqv z d) with
    | some j => some (.int (j : Nat))
    | none => none) else none
  | _, _ => none
theorem ev_cntL {o e : Expr} {fo fe : Mo D} {apos pos : Pos} (ho : EV X E o fo) (he : EV X E e fe) (hu : X.A.units + 65 < cLine) (base : attributeBase o "count" X.env (eval o X.env) = eval o X.env := by rfl) (few : Few X pos [e] := by rfl)
    (line : (apos.endLine == pos.line) = true := by rfl) (st : starEach [e] X.env = (false, eval e X.env) :: starEach [] X.env := by rfl) (nost : (backTo pos (starEach [] X.env)).any (·.1) = false := by rfl) : EV X E (.Call (.Attribute o "count" apos) [e] [] pos) (mRecv isLstB cntLD fo fe) := by
  obtain ⟨t, p, q⟩ := ho
  obtain ⟨t2, p2, q2⟩ := he
  refine ⟨_, pe_bm PySem.F.plainAttrs_list PySem.F.slot_list_count PySem.F.type_list_count (mt_cntO hu) p (pa_cons p2 pa_nil st) base few line st nost, fun G ρ σ H Q j h => ?_⟩
  refine q G ρ σ H _ j (Post.imp h fun G1 ρ1 v H1 d e1 r1 h1 => ?_)
  cases hp : isLstB d with
  | false => rw [hp] at h1; exact h1.elim
  | true =>
    rw [hp] at h1
    cases r1 with
    | @lst a xs ds z1 z2 =>
      refine ⟨.inl ⟨rfl, xs, .of (e1.j.sub _ _ z1)⟩, q2 G1 ρ1 σ H1 _ e1.j (Post.imp h1 fun G2 ρ2 y H2 d2 e2 r2 h2 => ?_)⟩
      obtain ⟨c, hc, k2⟩ := Post.lift (ρ' := ρ2) h2
      have h5 : (if SeqAt.shaped d2 = true ∧ SeqAt.shaped (.list ds) = true then some (PyData.int (ds.countP fun z => PyData.eqv z d2 : Nat)) else none) = some c := hc
      by_cases h34 : SeqAt.shaped d2 = true ∧ SeqAt.shaped (.list ds) = true
      rotate_left
      · rw [if_neg h34] at h5; cases h5
      rw [if_pos h34] at h5
      obtain ⟨h3, h4⟩ := h34
      cases h5
      have rt : Rp X.K G2 (.ref a) (.list ds) := (Rp.lst z1 z2).mono e2.g
      exact ⟨a, y, d2, ds, rfl, rfl, rt.shaped e2.j.sub h4, r2.shaped e2.j.sub h3, h4, h3, k2 G2 _ H2 e2.j.refl (.int _)⟩
    | _ => cases hp
theorem ev_idxL {o e : Expr} {fo fe : Mo D} {apos pos : Pos} (ho : EV X E o fo) (he : EV X E e fe) (hu : X.A.units + 65 < cLine) (base : attributeBase o "index" X.env (eval o X.env) = eval o X.env := by rfl) (few : Few X pos [e] := by rfl)
    (line : (apos.endLine == pos.line) = true := by rfl) (st : starEach [e] X.env = (false, eval e X.env) :: starEach [] X.env := by rfl) (nost : (backTo pos (starEach [] X.env)).any (·.1) = false := by rfl) : EV X E (.Call (.Attribute o "index" apos) [e] [] pos) (mRecv isLstB idxLD fo fe) := by
  obtain ⟨t, p, q⟩ := ho
  obtain ⟨t2, p2, q2⟩ := he
  refine ⟨_, pe_bm PySem.F.plainAttrs_list PySem.F.slot_list_index PySem.F.type_list_index (mt_indexD hu) p (pa_cons p2 pa_nil st) base few line st nost, fun G ρ σ H Q j h => ?_⟩
  refine q G ρ σ H _ j (Post.imp h fun G1 ρ1 v H1 d e1 r1 h1 => ?_)
  cases hp : isLstB d with
  | false => rw [hp] at h1; exact h1.elim
  | true =>
    rw [hp] at h1
    cases r1 with
    | @lst a xs ds z1 z2 =>
      refine ⟨.inl ⟨rfl, xs, .of (e1.j.sub _ _ z1)⟩, q2 G1 ρ1 σ H1 _ e1.j (Post.imp h1 fun G2 ρ2 y H2 d2 e2 r2 h2 => ?_)⟩
      obtain ⟨c, hc, k2⟩ := Post.lift (ρ' := ρ2) h2
      have h5 : (if SeqAt.shaped d2 = true ∧ SeqAt.shaped (.list ds) = true then (match ds.findIdx? (fun z => PyData.eqv z d2) with
        | some j => some (PyData.int (j : Nat))
        | none => none) else none) = some c := hc
      by_cases h34 : SeqAt.shaped d2 = true ∧ SeqAt.shaped (.list ds) = true
      rotate_left
      · rw [if_neg h34] at h5; cases h5
      rw [if_pos h34] at h5
      obtain ⟨h3, h4⟩ := h34
      have rt : Rp X.K G2 (.ref a) (.list ds) := (Rp.lst z1 z2).mono e2.g
      cases fi : ds.findIdx? (fun z => PyData.eqv z d2) with
      | none => rw [fi] at h5; cases h5
      | some n =>
        rw [fi] at h5
        cases h5
        obtain ⟨lt, hit, no⟩ := List.findIdx?_eq_some_iff_getElem.mp fi
        refine ⟨a, y, d2, ds, n, ds[n], rfl, rfl, rt.shaped e2.j.sub h4, r2.shaped e2.j.sub h3, h4, h3, List.getElem?_eq_getElem lt, hit, fun m z' lm hz => ?_, k2 G2 _ H2 e2.j.refl (.int _)⟩
        obtain ⟨lm2, ez⟩ := List.getElem?_eq_some_iff.mp hz
        rw [← ez]
        simpa using no m lm
    | _ => cases hp
end
theorem crB_ok {K : PySem.W.Frag} {c : Str} (h : crB K c = true) : ClX.CRead K (He.ga K c) (.type "type") := by
  obtain ⟨h1, h2⟩ := Bool.and_eq_true_iff.mp h
  exact ⟨h1, of_decide_eq_true h2⟩
theorem cmB_ok {K : PySem.W.Frag} {c m : Str} (h : cmB K c m = true) : ClX.CMet K (He.ga K c) (.type "type") m (He.ma K (He.ga K c) m) (He5.wf K (He.ga K c) "classmethod" m) := by
  obtain ⟨h1, h2⟩ := Bool.and_eq_true_iff.mp h
  exact He5.cmet_of h1 h2
theorem obsG_eq {as : List Addr} {fa : List He.Fa} {fn : List He.DefD} {fm : List He5.DefA} {tp : List (Str × List He.Dv)} {xs : List (PySem.W.Frag → Bool)} {g : Addr → Option Obj} {s : Shared} (h : ∀ a, g a = s.heap.get? a) : obsG as fa fn fm tp xs g = (hookG as fa fn fm tp xs).obs s := by
  rw [show g = fun a => s.heap.get? a from funext h]
  rfl
end HB
namespace HB
open PySem L2 PySem.Spec PyProof.Rows
section
variable {X : Cx}
theorem fnR_at {CX : CXT} {k : Nat} {f : Addr} {sp : Sp} {E : XK} {pins : List (Addr × Obj)} {σ : L2.St} {H : Hp} {s : Shared} {Q : VK} {us : List Value} {vs : List V} (F : FnR X.prog X.w X.K X.mg X.base CX k f sp) (hr : Room k X.A) (hx : PassesAt CX X σ E) (I : Inv X pins σ H s) (r : Vals vs us) (h : sp vs H Q E) :
    codeAny (model X.prog X.w) X.A (.call (.ref f) ⟨us, []⟩) (fun o s2 => match o with | .ok (.ret u) => EP X pins σ Q u s2 | .ok _ => False | .error e => X.xe e s2) s :=
  codeAny_mono (F X.A X.stack s H us vs Q E hr I.env0 r h) fun o s2 q => by
    match o, q with
    | .error e, q => exact hx pins H s e s2 I q
    | .ok (.ret w), q => exact I.after q
def tCmAt (C : Addr) (sp : Sp) (E : L2.St → XK) (t : TA) : TE := fun σ H Q => t σ H fun vs H1 => sp (.ref C :: vs) H1 Q (E σ)
theorem pe_cmAt {CX : CXT} {k : Nat} {C p g : Addr} {sp : Sp} {E : L2.St → XK} {c m : Str} {np apos pos : Pos} {e : Expr} {es : List Expr} {t : TA} {pl : Sem Bool} (rd : ClX.CRead X.K C (.type "type")) (cm : ClX.CMet X.K C (.type "type") m p g) (F : FnR X.prog X.w X.K X.mg X.base CX k g sp) (hr : Room k X.A) (hx : ∀ σ, PassesAt CX X σ (E σ))
    (ha : PA X (e :: es) t) (hg : Gl X c) (gl : X.mg c = some (.ref C)) (nd : (c == ("__debug__" : Str)) = false) (tr : eval (.Call (.Attribute (.Name c np) m apos) (e :: es) [] pos) X.env = byMeth X (.Name c np) m apos pos pl (e :: es)) (st : starEach (e :: es) X.env = (false, eval e X.env) :: starEach es X.env) (nost : (backTo pos (starEach es X.env)).any (·.1) = false) :
    PE X (.Call (.Attribute (.Name c np) m apos) (e :: es) [] pos) (tCmAt C sp E t) :=
  PE.mk fun pins s σ H Q I told => by
    have recv := (pe_glob (X := X) (v := .ref C) (pos := np) hg gl rfl nd).run pins s σ H (fun z Hz => z = .ref C ∧ Hz = H) I ⟨rfl, rfl⟩
    refine PySem.W.methodCall_KW (pl := pl) (thn recv fun u s1 y => ?_) tr
    obtain ⟨z, Hz, I1, rz, ez, eH⟩ := y
    subst ez eH
    obtain rfl : u = Value.ref C := rz
    refine ClX.getmethcm_ok I1 rd cm fun s2 I2 => ?_
    have args := ha.run pos _ s2 σ Hz _ I2 told
    refine ClX.callwith_cm I2 (ClX.base_none I1 (Nat.le_refl _)) cm.fi (thn args fun us s3 y3 => ?_) st nost
    obtain ⟨vs, H2, I3, rs, fin⟩ := y3
    refine ⟨⟨ClX.pin_at I3, I3.kIn⟩, ?_⟩
    refine thn (wpAny_call (PySem.W.method_call (ClX.pin_at I3) (fnR_at (us := .ref C :: us) (vs := .ref C :: vs) F hr (hx σ) I3 (.cons rfl rs) fin))) fun _ _ y4 => ClX.unpinE y4
def xStrCls (c c2 : Str) (F FS : Fn) (f : Mo (List D)) (i : Nat) : Mo Fl := mBind (mSafe f) fun ds ρ => match F (fnD c :: ds) with
  | none => none
  | some (.error x) => some (.error x)
  | some (.ok d) => (match isObj c2 "__str__" d with
    | false => none
    | true => (match FS [d] with
      | some (.ok (.str z)) => some (.ok (ρ.set i (.pur (.str z)), .nx))
      | _ => none))
theorem bx_strCls {k ks n n2 i : Nat} {c c2 m y : Str} {F FS : Fn} {np apos cpos sp2 p2 pos pos2 : Pos} {e : Expr} {es : List Expr} {f : Mo (List D)} {pl : Sem Bool} (hC : CmE X.prog X.w X.K X.mg X.base k c m n F) (hr : Room k X.A) (hM : MeE X.prog X.w X.K X.mg X.base ks c2 "__str__" n2 FS) (hr2 : Room (ks + 2) X.A) (ha : ∀ pn xe, EA (X.tr pn xe) botK (e :: es) f) (hN : X.N.Nodup) (ms : X.mg "str" = none) (hi : X.N[i]? = some y := by rfl)
    (hx : Loc X.env.scope y := by first | exact Or.inl rfl | exact Or.inr rfl) (hg : Gl X c := by rfl) (nd : (c == ("__debug__" : Str)) = false := by decide) (hgs : Gl X "str" := by rfl)
    (tr : eval (.Call (.Attribute (.Name c np) m apos) (e :: es) [] cpos) X.env = byMeth X (.Name c np) m apos cpos pl (e :: es) := by rfl) (st : starEach (e :: es) X.env = (false, eval e X.env) :: starEach es X.env := by rfl) (nost : (backTo cpos (starEach es X.env)).any (·.1) = false := by rfl)
    (st2 : starEach [.Call (.Attribute (.Name c np) m apos) (e :: es) [] cpos] X.env = (false, eval (.Call (.Attribute (.Name c np) m apos) (e :: es) [] cpos) X.env) :: starEach [] X.env := by rfl)
    (hs : swapsWith (.Call (.Name "str" sp2) [.Call (.Attribute (.Name c np) m apos) (e :: es) [] cpos] [] pos) (some (.Name y p2)) pos2.line X.env = pure false := by rfl) (hf : X.fn y = true ∨ X.env.scope.names.lookup y = some .local := by first | exact .inl rfl | exact .inr rfl | assumption) :
    BX X [.Assign [.Name y p2] (.Call (.Name "str" sp2) [.Call (.Attribute (.Name c np) m apos) (e :: es) [] cpos] [] pos) pos2] (xStrCls c c2 F FS f i) := by
  intro W pn xe tk
  obtain ⟨_, me, ⟨fd2, ps2, g1, g2⟩, hl2⟩ := hM
  obtain ⟨fd, ps, h1, h2⟩ := hC.ex
  obtain ⟨t, pt, q⟩ := ha pn xe
  have inner := pe_cmAt (X := X.tr pn xe) (E := WE W) hC.rd hC.cm (h1.raw h2 .nil) hr (fun σ => passAt tk σ) pt hg hC.gl nd tr st nost
  have outer := pe_callTy (X := X.tr pn xe) (pos := pos) (p := sp2) (call_strO (X := X.tr pn xe) me g1 hr2 g2 passB) hgs ms (by decide +kernel) (pa_cons inner pa_nil st2) (he := st2)
  refine ⟨_, pss_one (ps_set (X := X.tr pn xe) hN hi hx outer hs hf), fun G ρ σ H De j h => ?_⟩
  refine q G ρ σ H _ j (safe_post h fun G1 ρ1 vs H1 ds e1 r1 h3 => ?_)
  show spP X.K n F ((V.ref (He.ga X.K c) :: vs) ++ []) H1 _ (WE W σ)
  rw [List.append_nil]
  cases hF : F (fnD c :: ds) with
  | none => simp only [hF] at h3; exact h3.elim
  | some r =>
    refine ⟨G1, fnD c :: ds, e1.j.sub, .cons (.fn c) r1, hC.ln _ (by rw [hF]; simp), ?_⟩
    rw [hF]
    simp only [hF] at h3
    cases r with
    | error x => exact fun C dx H2 z => h3 C dx H2 z.of0
    | ok d =>
      simp only at h3
      intro G2 v H2 px rv
      have e2 := e1.j.ex px
      cases hb : isObj c2 "__str__" d with
      | false => simp only [hb] at h3; exact h3.elim
      | true =>
        simp only [hb] at h3
        obtain ⟨a, dx, fs, rfl, z1, _⟩ := rv.isObj hb
        match hS : FS [d], h3 with
        | some (.ok (.str z)), h3 =>
          simp only [hS] at h3
          refine ⟨a, dx, fs, rfl, e2.j.sub _ _ z1, G2, [d], e2.j.sub, .cons rv .nil, hl2 _ (by rw [hS]; simp), ?_⟩
          rw [hS]
          intro G3 u H3 px2 ru
          cases ru
          have e3 := e2.j.ex px2
          have told := PostS.ex e3 (PostS.ex e2 h3)
          exact ⟨⟨z, rfl⟩, told G3 _ H3 (Ex.set e3.j i (.str z))⟩
        | none, h3 => simp only [hS] at h3; exact h3.elim
        | some (.error _), h3 => simp only [hS] at h3; exact h3.elim
        | some (.ok .none), h3 => simp only [hS] at h3; exact h3.elim
        | some (.ok (.bool _)), h3 => simp only [hS] at h3; exact h3.elim
        | some (.ok (.int _)), h3 => simp only [hS] at h3; exact h3.elim
        | some (.ok (.list _)), h3 => simp only [hS] at h3; exact h3.elim
        | some (.ok (.tuple _)), h3 => simp only [hS] at h3; exact h3.elim
        | some (.ok (.dict _)), h3 => simp only [hS] at h3; exact h3.elim
end
section
variable {X : Cx} {i : Nat}
/-- such an expression that leaves the heap as it is -/
def HV0 (X : Cx) (i : Nat) (e : Expr) (f : Exn → Option D) : Prop := ∀ (a : Addr) (oe : Obj) (cls : Value) (d : Option Addr) (pn : List (Addr × Obj)), Zc cls d oe → (∃ vs, oe.data = .fields vs) →
  ∃ t, PE (X.suite a ((a, oe) :: pn)) e t ∧ ∀ G σ H Q x y, Held X.K a cls d i G σ H x → f x = some y → (∀ v, Rp X.K G v y → Q v H) → t σ H Q
theorem hv0_str {z : Str} {k : Nat} {pos : Pos} : HV0 X i (.Constant (.str z) k pos) fun _ => some (.str z) := fun a oe cls d pn _ _ =>
  ⟨_, pe_str, fun G σ H Q x y h e k => by cases e; exact k _ (.str z)⟩
theorem hv0_fld {c f n : Str} {p pos : Pos} (fc : ExcF X.K c f) (hN : X.N[i]? = some n) (hv : Vis X.env.scope n := by first | exact Or.inl rfl | exact Or.inr (Or.inl rfl) | exact Or.inr (Or.inr rfl)) (hd : (n == ("__debug__" : Str)) = false := by decide) (hcd : (n == ("__classdict__" : Str)) = false := by decide)
    (hb : attributeBase (.Name n p) f X.env (eval (.Name n p) X.env) = eval (.Name n p) X.env := by rfl) : HV0 X i (.Attribute (.Name n p) f pos) (fldX c f) := by
  intro a oe cls d pn hz ho
  refine ⟨_, pe_xf fc.x fc.n hz ho (pe_var (X := X.suite a ((a, oe) :: pn)) hN hv hd hcd) hb, ?_⟩
  intro G σ H Q x y h e k
  obtain ⟨c2, l⟩ := x
  match l, e with
  | [(g, z)], e =>
    obtain ⟨⟨e1, e2⟩, e3⟩ := ite_some (show (if c2 = c ∧ g = f then some z else none) = some y from e)
    subst e1 e2 e3
    obtain ⟨dd, fs, r1, r2, r3⟩ := h.f
    match fs, r3 with
    | [(_, v)], .cons rv .nil => exact ⟨_, h.s, rfl, h.c, dd, _, v, r1, r2, by simp [List.lookup], k v rv⟩
def reprX (f : Exn → Option D) (x : Exn) : Option D := match f x with
  | some (.int k) => if k.natAbs.log2 < 1920 then some (.str (Str.ofString (toString k))) else none
  | _ => none
theorem hv0_repr {e : Expr} {p pos : Pos} {f : Exn → Option D} (h : HV0 X i e f) (hm : X.mg "repr" = none) (hg : Gl X "repr" := by rfl) (he : starEach [e] X.env = (false, eval e X.env) :: starEach [] X.env := by rfl) : HV0 X i (.Call (.Name "repr" p) [e] [] pos) (reprX f) := by
  intro a oe cls d pn hz ho
  obtain ⟨t, pt, q⟩ := h a oe cls d pn hz ho
  refine ⟨_, pe_callB (X := X.suite a ((a, oe) :: pn)) (SkE.call_repr_int (X := X.suite a ((a, oe) :: pn))) hg hm (by decide +kernel) (pa_cons pt pa_nil he) (he := he), fun G σ H Q x y hh e k => ?_⟩
  unfold reprX at e
  match hf : f x, e with
  | some (.int n), e =>
    simp only [hf] at e
    obtain ⟨h1, rfl⟩ := ite_some e
    refine q G σ H _ x _ hh hf fun v r => ?_
    cases r
    exact ⟨n, rfl, h1, k _ (.str _)⟩
  | none, e => simp only [hf] at e; cases e
  | some .none, e => simp only [hf] at e; cases e
  | some (.bool _), e => simp only [hf] at e; cases e
  | some (.str _), e => simp only [hf] at e; cases e
  | some (.list _), e => simp only [hf] at e; cases e
  | some (.tuple _), e => simp only [hf] at e; cases e
  | some (.dict _), e => simp only [hf] at e; cases e
def eqX (f g : Exn → Option D) (x : Exn) : Option Bool := match f x with
  | none => none
  | some u => (match g x with
    | none => none
    | some v => if SeqAt.shaped u = true ∧ SeqAt.shaped v = true then some (PyData.eqv u v) else none)
theorem ht_eq {a b : Expr} {pos : Pos} {f g : Exn → Option D} (hu : X.A.units + 64 < cLine) (ha : HV0 X i a f) (hb : HV0 X i b g) (hm : behindInMarks .Eq b = false := by rfl) : HT X i (.Compare a [.Eq] [b] pos) (eqX f g) := by
  intro ad oe cls d pn hz ho
  obtain ⟨ta, pa, qa⟩ := ha ad oe cls d pn hz ho
  obtain ⟨tb, pb, qb⟩ := hb ad oe cls d pn hz ho
  refine ⟨_, pt_cmpR (op_eqD (X := X.suite ad ((ad, oe) :: pn)) hu) pa pb hm, fun G σ H Q x y hh e k => ?_⟩
  unfold eqX at e
  cases hf : f x with
  | none => simp only [hf] at e; cases e
  | some u =>
    cases hgx : g x with
    | none => simp only [hf, hgx] at e; cases e
    | some w =>
      simp only [hf, hgx] at e
      obtain ⟨⟨h1, h2⟩, rfl⟩ := ite_some e
      exact qa G σ H _ x u hh hf fun v1 r1 => qb G σ H _ x w hh hgx fun v2 r2 => ⟨u, w, r1.shaped hh.sub h1, r2.shaped hh.sub h2, h1, h2, _, rfl, k⟩
end
def wBoth (K : PySem.W.Frag) (c1 : Value) (i : Nat) (u1 : Addr → Value → Option Addr → TS) (c2 : Value) (u2 : Addr → Value → Option Addr → TS) (D : Ends) : WX := fun cls d σ H =>
  ∃ fits, PySem.W.exmOne K cls c1 = some fits ∧ (fits = true → ∀ a, H a = none → u1 a cls d (offE D i) (σ.set i (some (.ref a))) H) ∧
    (fits = false → PySem.W.exmOne K cls c2 = some true ∧ ∀ a, H a = none → u2 a cls d (offE D i) (σ.set i (some (.ref a))) H)
section
variable {X : Cx} {x1 x2 n : Str} {c1 c2 : Value} {i : Nat} {body s1 s2 : List Stmt} {b1 b2 : Stmt} {q1 q2 pos r1 r2 : Pos} {tb : WX → TS} {u1 u2 : Addr → Value → Option Addr → TS}
theorem ps_try_both (hs : X.stack = X.env :: X.outer) (hf : X.env.frame = some X.env.locals) (hN : X.N.Nodup) (hi : X.N[i]? = some n) (hln : X.env.kindOf n = some .local) (n1 : Names X x1 c1) (n2 : Names X x2 c2)
    (hb : ∀ (W : WX) (news : List (Addr × Obj)) (xe : Value → Shared → Prop), Takes (X.tr news xe) W → PassesOwn (model X.prog X.w) X.A X.env xe → PSs (X.tr news xe) body (tb W))
    (h1 : ∀ (a : Addr) (oe : Obj) (cls : Value) (d : Option Addr) (pn : List (Addr × Obj)), Zc cls d oe → (∃ vs, oe.data = .fields vs) → PSs (X.suite a ((a, oe) :: pn)) (b1 :: s1) (u1 a cls d))
    (h2 : ∀ (a : Addr) (oe : Obj) (cls : Value) (d : Option Addr) (pn : List (Addr × Obj)), Zc cls d oe → (∃ vs, oe.data = .fields vs) → PSs (X.suite a ((a, oe) :: pn)) (b2 :: s2) (u2 a cls d)) :
    PS X (.Try body [.ExceptHandler (some (.Name x1 q1)) (some n) (b1 :: s1) r1, .ExceptHandler (some (.Name x2 q2)) (some n) (b2 :: s2) r2] [] [] pos) (fun D σ H => tb (wBoth X.K c1 i u1 c2 u2 D) D σ H) := by
  constructor
  intro pins s σ H D I h
  have ok := I.ok
  have frames : X.A.frames = some (X.env :: X.outer) := ok.frames.trans (by rw [hs])
  refine wpAny_Try_except (wpAny_mono ((hb (wBoth X.K c1 i u1 c2 u2 D) (X.pn ++ pins) (fun er sa => wpAny (model X.prog X.w) X.A (noteFrame er X.env) (fun _ sb => wpAny (model X.prog X.w) X.A (setFlight er none) (fun _ sc =>
    wpAny (model X.prog X.w) X.A (handleBy er X.env [.ExceptHandler (some (.Name x1 q1)) (some n) (b1 :: s1) r1, .ExceptHandler (some (.Name x2 q2)) (some n) (b2 :: s2) r2]) (SP X pins D) X.xe sc) X.xe sb) X.xe sa) (fun u s' xx => ?_) PassesOwn.looking).run [] s σ H D (I.toTry _) h) (fun f sz done => ?_) (fun _ _ he => he))
  · obtain ⟨a, B, sI, pins', σ', H', cls, d, rfl, Jt, nb, up, sky, na, os, ag, fits, e1, yes1, no1⟩ := xx
    have J : Inv X pins σ' H' sI := Jt.ofTry ok
    have skyX : Sky B (X.env :: X.outer) a (Zc cls d) X.env.locals s'.heap := hs ▸ sky
    change wpAny (model X.prog X.w) X.A (noteFrame (.ref a) X.env) _ _ _
    refine Sky.land Zc.steady frames hf skyX fun h3 fl up3 => ?_
    have J3 : Inv X pins σ' H' { s' with heap := h3 } := J.landed nb fl.1 (up.trans up3) os ag
    obtain ⟨oe, vs, at3, z3, f3⟩ := fl.there
    have off : a ∉ frs (X.env :: X.outer) := fun hm => by
      obtain ⟨_, o, eo, nf⟩ := fl.2.2.1.mem hm
      have same : o = oe := Option.some.inj (eo.symm.trans at3)
      exact nf _ (same ▸ f3)
    have offL : a ≠ X.env.locals := fun z => off (List.mem_filterMap.mpr ⟨X.env, List.mem_cons_self, hf.trans (congrArg some z.symm)⟩)
    have offF : a ∉ X.fs := fun hm => let ⟨e, he, q⟩ := List.mem_filterMap.mp hm; off (List.mem_filterMap.mpr ⟨e, List.mem_cons_of_mem _ he, q⟩)
    have SU := J3.suite at3 f3 na offL offF
    have kind : PySem.W.Looks (model X.prog X.w) h3 (typeOf (.ref a)) cls := fun A Q E s k q => wpAny_typeOf_ref (k _ _ at3) (by rw [z3.1]; exact q)
    have named : ∀ {x : Str} {c : Value} {np : Pos} {Q E : Value → Shared → Prop}, Names X x c → Q c { s' with heap := h3 } → wpAny (model X.prog X.w) (X.A.mark (some (.ref a))) (eval (.Name x np) X.env) Q E { s' with heap := h3 } := fun {x c np Q E} hc q => by
      obtain ⟨g, db, m | ⟨m, v, nn⟩⟩ := hc
      · exact ld_glob (X := X.suite a ((a, oe) :: (X.pn ++ pins))) SU g m q db
      · exact ld_blt (X := X.suite a ((a, oe) :: (X.pn ++ pins))) SU g m v q nn db
    refine wpAny_handleBy_cons (codeAny_handlers_test ?_) (fun q => by cases q)
    refine named n1 ((PySem.W.exm_one (M := model X.prog X.w) J3.kIn kind e1).here ?_)
    cases fits with
    | true =>
      refine codeAny_handlers_suite_as (HandSPX.lands_againZ fl fun h4 fl4 up4 => ?_)
      have J4 : Inv X pins σ' H' { s' with heap := h4 } := by
        have ups := (up.trans up3).trans up4
        exact J.landed nb fl4.1 ups os ag
      obtain ⟨oe4, _, at4, z4, f4⟩ := fl4.there
      have S4 := J4.suite at4 f4 na offL offF
      refine store_ok (X := X.suite a ((a, oe4) :: (X.pn ++ pins))) (v := .ref a) S4 hN hi (.inl hln) rfl (fun s5 S5 => ?_) (.inr hln)
      refine wpAny_mono ((h1 a oe4 cls d (X.pn ++ pins) z4 ⟨_, f4⟩).run [] s5 _ H' _ S5 (yes1 rfl a na)) (fun f s6 done => ?_) (fun _ _ z => z.elim)
      have last : ∀ {σ6 : L2.St} {H6 : L2.Hp} {Q : Shared → Prop}, Inv (X.suite a ((a, oe4) :: (X.pn ++ pins))) [] σ6 H6 s6 → (∀ s7, Inv X pins (σ6.set i none) H6 s7 → Q s7) →
          wpAny (model X.prog X.w) X.A (do bindName X.env n .none; unbindBehindTheSuite X.env n r1) (fun _ s7 => Q s7) X.xe s6 := fun {σ6 H6 Q} S6 then_ => gone_ok (S6.unsuite ok) hN hi hln then_
      cases f with
      | ret u =>
        obtain ⟨v6, _, _, S6, r6, fin⟩ := done
        exact last S6 fun _ J7 => ⟨_, _, _, J7, r6, fin⟩
      | next =>
        obtain ⟨_, _, S6, fin⟩ := done
        exact last S6 fun _ J7 => ⟨_, _, J7, fin⟩
      | brk =>
        obtain ⟨_, _, S6, fin⟩ := done
        exact last S6 fun _ J7 => ⟨_, _, J7, fin⟩
      | cont =>
        obtain ⟨_, _, S6, fin⟩ := done
        exact last S6 fun _ J7 => ⟨_, _, J7, fin⟩
    | false =>
      obtain ⟨e2, yes2⟩ := no1 rfl
      show wpAny _ X.A (handleBy (.ref a) X.env [.ExceptHandler (some (.Name x2 q2)) (some n) (b2 :: s2) r2]) _ _ _
      refine wpAny_handleBy_cons (codeAny_handlers_test ?_) (fun q => by cases q)
      refine named n2 ((PySem.W.exm_one (M := model X.prog X.w) J3.kIn kind e2).here ?_)
      refine codeAny_handlers_suite_as (HandSPX.lands_againZ fl fun h4 fl4 up4 => ?_)
      have J4 : Inv X pins σ' H' { s' with heap := h4 } := by
        have ups := (up.trans up3).trans up4
        exact J.landed nb fl4.1 ups os ag
      obtain ⟨oe4, _, at4, z4, f4⟩ := fl4.there
      have S4 := J4.suite at4 f4 na offL offF
      refine store_ok (X := X.suite a ((a, oe4) :: (X.pn ++ pins))) (v := .ref a) S4 hN hi (.inl hln) rfl (fun s5 S5 => ?_) (.inr hln)
      refine wpAny_mono ((h2 a oe4 cls d (X.pn ++ pins) z4 ⟨_, f4⟩).run [] s5 _ H' _ S5 (yes2 a na)) (fun f s6 done => ?_) (fun _ _ z => z.elim)
      have last : ∀ {σ6 : L2.St} {H6 : L2.Hp} {Q : Shared → Prop}, Inv (X.suite a ((a, oe4) :: (X.pn ++ pins))) [] σ6 H6 s6 → (∀ s7, Inv X pins (σ6.set i none) H6 s7 → Q s7) →
          wpAny (model X.prog X.w) X.A (do bindName X.env n .none; unbindBehindTheSuite X.env n r2) (fun _ s7 => Q s7) X.xe s6 := fun {σ6 H6 Q} S6 then_ => gone_ok (S6.unsuite ok) hN hi hln then_
      cases f with
      | ret u =>
        obtain ⟨v6, _, _, S6, r6, fin⟩ := done
        exact last S6 fun _ J7 => ⟨_, _, _, J7, r6, fin⟩
      | next =>
        obtain ⟨_, _, S6, fin⟩ := done
        exact last S6 fun _ J7 => ⟨_, _, J7, fin⟩
      | brk =>
        obtain ⟨_, _, S6, fin⟩ := done
        exact last S6 fun _ J7 => ⟨_, _, J7, fin⟩
      | cont =>
        obtain ⟨_, _, S6, fin⟩ := done
        exact last S6 fun _ J7 => ⟨_, _, J7, fin⟩
  · cases f with
    | ret u =>
      obtain ⟨v, _, _, Jz, rv, fin⟩ := done
      exact ⟨v, _, _, Jz.ofTry ok, rv, fin⟩
    | next =>
      obtain ⟨_, _, Jz, fin⟩ := done
      exact wpAny_execs_nil ⟨_, _, Jz.ofTry ok, fin⟩
    | brk =>
      obtain ⟨_, _, Jz, fin⟩ := done
      exact ⟨_, _, Jz.ofTry ok, fin⟩
    | cont =>
      obtain ⟨_, _, Jz, fin⟩ := done
      exact ⟨_, _, Jz.ofTry ok, fin⟩
end
def sTryB (c : Str) (i j : Nat) (g : Mo Fl) (f : Exn → Option D) (c2 : Str) (f2 : Exn → Option D) : Mo Fl := fun ρ => match calmE ρ && (Nat.blt i ρ.length && Nat.blt j ρ.length) with
  | false => none
  | true => match g ρ with
    | none => none
    | some (.ok p) => some (.ok p)
    | some (.error x) => if x.1 = c ∧ x.2.isEmpty = false then (match f x with
      | some y => some (.ok ((ρ.set j (.pur y)).set i .no, .nx))
      | none => none) else if x.1 = c2 ∧ x.2.isEmpty = false then (match f2 x with
      | some y => some (.ok ((ρ.set j (.pur y)).set i .no, .nx))
      | none => none) else none
section
variable {X : Cx} {E : XK}
theorem s_tryB {c c2 n y : Str} {i j : Nat} {body : List Stmt} {g : Mo Fl} {e e2 : Expr} {f f2 : Exn → Option D} {np p2 p3 p4 p6 np2 pos pos2 pos3 : Pos} (hs : X.stack = X.env :: X.outer) (hfr : X.env.frame = some X.env.locals) (hN : X.N.Nodup) (hi : X.N[i]? = some n) (hln : X.env.kindOf n = some .local) (hj : X.N[j]? = some y) (hx : Loc X.env.scope y)
    (hfn : X.fn y = true ∨ X.env.scope.names.lookup y = some .local) (ne : i ≠ j) (gl : X.mg c = some (.ref (He.ga X.K c))) (hg : Gl X c) (hdb : (c == ("__debug__" : Str)) = false) (gl2 : X.mg c2 = some (.ref (He.ga X.K c2))) (hg2 : Gl X c2) (hdb2 : (c2 == ("__debug__" : Str)) = false) (hb : BX X body g) (hh : HV X i e f) (hh2 : HV X i e2 f2)
    (ex : PySem.W.exmOne X.K (.ref (He.ga X.K c)) (.ref (He.ga X.K c)) = some true) (ex2 : PySem.W.exmOne X.K (.ref (He.ga X.K c2)) (.ref (He.ga X.K c2)) = some true) (no : PySem.W.exmOne X.K (.ref (He.ga X.K c2)) (.ref (He.ga X.K c)) = some false)
    (hsw : swapsWith e (some (.Name y p2)) p3.line X.env = pure false) (hsw2 : swapsWith e2 (some (.Name y p4)) p6.line X.env = pure false) :
    SV X E (.Try body [.ExceptHandler (some (.Name c np)) (some n) [.Assign [.Name y p2] e p3] pos2, .ExceptHandler (some (.Name c2 np2)) (some n) [.Assign [.Name y p4] e2 p6] pos3] [] [] pos) (sTryB c i j g f c2 f2) := by
  have first : Names X c (.ref (He.ga X.K c)) := ⟨hg, hdb, .inl gl⟩
  have other : Names X c2 (.ref (He.ga X.K c2)) := ⟨hg2, hdb2, .inl gl2⟩
  let tb : WX → TS := fun W De σ H => ∃ G ρ, J X.K G ρ σ H ∧ PostS X.K (WE W σ) G ρ σ H De (g ρ)
  let ts : (Exn → Option D) → Addr → Value → Option Addr → TS := fun f a cls d De σ H => ∃ G x w, Held X.K a cls d i G σ H x ∧ f x = some w ∧ ∀ G1 v H1, PX G H G1 H1 → Rp X.K G1 v w → De.nx (σ.set j (some v)) H1
  have body_ok : ∀ (W : WX) (pn : List (Addr × Obj)) (xe : Value → Shared → Prop), Takes (X.tr pn xe) W → PassesOwn (model X.prog X.w) X.A X.env xe → PSs (X.tr pn xe) body (tb W) := by
    intro W pn xe t _
    obtain ⟨u, p, q⟩ := hb W pn xe t
    exact ⟨fun pins s σ H De I w => let ⟨G, ρ, jj, po⟩ := w; p.run pins s σ H De I (q G ρ σ H De jj po)⟩
  have suite : ∀ {e : Expr} {f : Exn → Option D} {pa pb : Pos}, HV X i e f → swapsWith e (some (.Name y pa)) pb.line X.env = pure false → ∀ (a : Addr) (oe : Obj) (cls : Value) (d : Option Addr) (pn : List (Addr × Obj)), Zc cls d oe → (∃ vs, oe.data = .fields vs) → PSs (X.suite a ((a, oe) :: pn)) [.Assign [.Name y pa] e pb] (ts f a cls d) := by
    intro e f pa pb hv sw a oe cls d pn hz ho
    obtain ⟨u, p, q⟩ := hv a oe cls d pn hz ho
    have st := pss_one (ps_set (X := X.suite a ((a, oe) :: pn)) (pos := pb) (pos' := pa) hN hj hx p sw hfn)
    exact ⟨fun pins s σ H De I w => let ⟨G, x, v, held, fx, k⟩ := w; st.run pins s σ H De I (q G σ H _ x v held fx k)⟩
  refine ⟨_, ps_try_both hs hfr hN hi hln first other body_ok (suite hh hsw) (suite hh2 hsw2), fun G ρ σ H De jj h => ⟨G, ρ, jj, ?_⟩⟩
  unfold sTryB at h
  cases hn : calmE ρ && (Nat.blt i ρ.length && Nat.blt j ρ.length) with
  | false => simp only [hn] at h; exact h.elim
  | true =>
    simp only [hn] at h
    cases hgr : g ρ with
    | none => simp only [hgr] at h; exact h.elim
    | some r =>
      simp only [hgr] at h
      cases r with
      | ok p =>
        obtain ⟨ρ1, fl⟩ := p
        cases fl <;> exact h
      | error x =>
        simp only at h
        obtain ⟨n0, n12⟩ := He.ba hn
        obtain ⟨n1, n2⟩ := He.ba n12
        have li : i < σ.length := by rw [← jj.len]; exact Nat.le_of_ble_eq_true n1
        have fin : ∀ {f : Exn → Option D} {w : D} {C : Value} {dx : Option Addr} {H2 : Hp}, XP X.K G ρ σ H x C dx H2 → x.2.isEmpty = false → f x = some w → PostS X.K E G ρ σ H De (some (.ok ((ρ.set j (.pur w)).set i .no, .nx))) → ∀ a, H2 a = none → ts f a C dx (offE De i) (σ.set i (some (.ref a))) H2 := by
          intro f w C dx H2 xp full hfx told a na
          obtain ⟨xc, G2, m1, m2, new, kept, dom, fl⟩ := xp
          have dict : ∃ dd fs, dx = some dd ∧ H2 dd = some (.xd fs) ∧ RpF X.K G2 fs (x.2.map fun p => (.str p.1, p.2)) := by
            rcases fl with ⟨_, q⟩ | q
            · rw [q] at full
              cases full
            · exact q
          refine ⟨G2, x, w, ⟨List.getElem?_set_self li, xc, dict, m2⟩, hfx, fun G3 v H3 px r => ?_⟩
          have j2 : J X.K G2 ρ σ H2 := ⟨m2, jj.len, fun k d e => let ⟨v, q1, q2⟩ := jj.pur k d e; ⟨v, q1, q2.mono m1⟩, fun k s ds e h => (calmE_get n0 e h).elim, fun k l s t ds es b e1 h1 _ _ _ _ => (calmE_get n0 e1 h1).elim⟩
          have e2 : Ex X.K G ρ σ H G2 ρ σ H2 := ⟨j2, m1, new, kept, fun b q => absurd q (calmE_d n0 b), dom, fun k ds e => (calmE_get (ds := ds) n0 e rfl).elim⟩
          have e5 := ((e2.trans (j2.ex px)).trans (Ex.set (e2.trans (j2.ex px)).j j r))
          have e6 := e5.trans (Ex.drop e5.j i)
          have eq : ((σ.set i (some (V.ref a))).set j (some v)).set i none = (σ.set j (some v)).set i none := by
            rw [List.set_comm _ _ ne, List.set_set]
          show De.nx (((σ.set i (some (V.ref a))).set j (some v)).set i none) H3
          rw [eq]
          exact told G3 _ H3 e6
        by_cases hc : x.1 = c ∧ x.2.isEmpty = false
        · rw [if_pos hc] at h
          cases hfx : f x with
          | none => simp only [hfx] at h; exact h.elim
          | some w =>
            simp only [hfx] at h
            intro C dx H2 xp
            refine ⟨true, by rw [xp.1, hc.1]; exact ex, fun _ => fin xp hc.2 hfx h, fun q => nomatch q⟩
        · rw [if_neg hc] at h
          by_cases hc2 : x.1 = c2 ∧ x.2.isEmpty = false
          · rw [if_pos hc2] at h
            cases hfx : f2 x with
            | none => simp only [hfx] at h; exact h.elim
            | some w =>
              simp only [hfx] at h
              intro C dx H2 xp
              refine ⟨false, by rw [xp.1, hc2.1]; exact no, (fun q => nomatch q), fun _ => ⟨by rw [xp.1, hc2.1]; exact ex2, fin xp hc2.2 hfx h⟩⟩
          · rw [if_neg hc2] at h; exact h.elim
end
end HB
namespace HB
open PySem L2
def C_PAIR : D := .int 2
def g_is_less : Mo Fl := sRet (mOp (cmpD ltI) (mOp mulD (mOp ixD (mVar 0) (mRet (.int 0))) (mOp ixD (mVar 1) (mRet (.int 1)))) (mOp mulD (mOp ixD (mVar 1) (mRet (.int 0))) (mOp ixD (mVar 0) (mRet (.int 1)))))
def F_is_less : Fn := M_is_less
def g_is_sequence : Mo Fl := sRet (mIsi isSeqT (mVar 0))
def F_is_sequence : Fn := guard 1 (runF 1 g_is_sequence)
def g_common_part : Mo Fl := sSeq (sPar2 0 1 (xConsP (mBuilt absD (mCons (mVar 0) (mNil))) (xConsP (mBuilt absD (mCons (mVar 1) (mNil))) (xNil))))
  (sSeq (sWhile (fuelInt 1) (mTest (mOp (cmpD gtI) (mVar 1) (mRet (.int 0)))) (sPar2 0 1 (xConsP (mVar 1) (xConsP (mOp modD (mVar 0) (mVar 1)) (xNil)))))
  (sRet (mVar 0)))
def F_common_part : Fn := M_common_part
def g_is_integer : Mo Fl := sRet (mAndV (mIsi isIntT (mVar 0)) (mNotV (mIsi isBoolT (mVar 0))))
def F_is_integer : Fn := guard 1 (runF 1 g_is_integer)
def g_is_value_1 : Mo Fl := sRet (mAndV (mOp (cmpD gtI) (mOp ixD (mVar 0) (mRet (.int 1))) (mRet (.int 0))) (mOp eqD (mCall F_common_part (mCons (mOp ixD (mVar 0) (mRet (.int 0))) (mCons (mOp ixD (mVar 0) (mRet (.int 1))) (mNil)))) (mRet (.int 1))))
def g_is_value_2 : Mo Fl := sSeq (sIf (mOr (mNot (mTest (mIsi isTupT (mVar 0)))) (mOr (mTest (mOp neD (mBuilt lenD (mCons (mVar 0) (mNil))) (mRet C_PAIR))) (mOr (mNot (mTest (mCall F_is_integer (mCons (mOp ixD (mVar 0) (mRet (.int 0))) (mNil))))) (mNot (mTest (mCall F_is_integer (mCons (mOp ixD (mVar 0) (mRet (.int 1))) (mNil)))))))) (sRet (mRet (.bool false))) (sNext))
  (g_is_value_1)
def g_is_value : Mo Fl := sSeq (sIf (mTest (mCall F_is_integer (mCons (mVar 0) (mNil)))) (sRet (mRet (.bool true))) (sNext))
  (g_is_value_2)
def F_is_value : Fn := guard 1 (runF 1 g_is_value)
def g_value_of : Mo Fl := sRet (mIf (mTest (mCall F_is_integer (mCons (mVar 0) (mNil)))) (mTup (mCons (mVar 0) (mCons (mRet (.int 1)) (mNil)))) (mVar 0))
def F_value_of : Fn := guard 1 (runF 1 g_value_of)
def g_are_marks_1 : Mo Fl := sRet (mAndV (mOp eqD (mOp ixD (mVar 3) (mRet (.int 0))) (mRet (.int 1))) (mAndV (mOp eqD (mOp ixD (mVar 3) (mUn negD (mRet (.int 1)))) (mRet (.int 1))) (mBuilt allD (mCons (mList (mBlk [7] (mSeqS (mSlice (mVar 3) (mPart (mRet (.int 1))) (mPart (mUn negD (mRet (.int 1)))))) (lcBody [7] (gSet 7) (mRet true) (mOp (cmpD leI) (mVar 7) (mVar 0))))) (mNil)))))
def g_are_marks_2 : Mo Fl := sSeq (sSet 3 (mList (mBlk [5] (mSeqS (mVar 2)) (lcBody [5] (gSet 5) (mRet true) (mBuilt lenD (mCons (mList (mBlk [4] (mSeqS (mVar 2)) (lcBody [4] (gSet 4) (mTest (mOp eqD (mVar 4) (mVar 5))) (mVar 4)))) (mNil)))))))
  (g_are_marks_1)
def g_are_marks_3 : Mo Fl := sSeq (sIf (mTest (mBuilt anyD (mCons (mList (mBlk [6] (mRange range1D (mCons (mOp subD (mBuilt lenD (mCons (mVar 2) (mNil))) (mRet (.int 1))) (mNil))) (lcBody [6] (gSet 6) (mRet true) (mCall F_is_less (mCons (mOp ixD (mVar 2) (mOp addD (mVar 6) (mRet (.int 1)))) (mCons (mOp ixD (mVar 2) (mVar 6)) (mNil))))))) (mNil)))) (sRet (mRet (.bool false))) (sNext))
  (g_are_marks_2)
def g_are_marks_4 : Mo Fl := sSeq (sSet 2 (mList (mBlk [4] (mSeqS (mVar 1)) (lcBody [4] (gSet 4) (mRet true) (mCall F_value_of (mCons (mVar 4) (mNil)))))))
  (g_are_marks_3)
def g_are_marks : Mo Fl := sSeq (sIf (mOr (mNot (mTest (mCall F_is_sequence (mCons (mVar 1) (mNil))))) (mOr (mTest (mOp (cmpD leI) (mBuilt lenD (mCons (mVar 1) (mNil))) (mRet (.int 1)))) (mNot (mTest (mBuilt allD (mCons (mList (mBlk [4] (mSeqS (mVar 1)) (lcBody [4] (gSet 4) (mRet true) (mCall F_is_value (mCons (mVar 4) (mNil)))))) (mNil))))))) (sRet (mRet (.bool false))) (sNext))
  (g_are_marks_4)
def F_are_marks : Fn := guard 2 (runF 8 g_are_marks)
def g_text_of : Mo Fl := sRet (mIf (mTest (mOp eqD (mOp ixD (mVar 0) (mRet (.int 1))) (mRet (.int 1)))) (mBuilt strD (mCons (mOp ixD (mVar 0) (mRet (.int 0))) (mNil))) (mJoined (jCons (mUn fmtD (mOp ixD (mVar 0) (mRet (.int 0)))) (jCons (mRet (.str "/")) (jCons (mUn fmtD (mOp ixD (mVar 0) (mRet (.int 1)))) (jNil))))))
def F_text_of : Fn := guard 1 (runF 1 g_text_of)
def g_text_of_bend_1 : Mo Fl := sRet (mM1 joinD (mRet (.str " ")) (mList (mSized (mCons (mRet (.str "bend")) (mCons (mBuilt strD (mCons (mVar 0) (mNil))) (mCons (mRet (.str "marks")) (mStar (mVar 3) (mCons (mRet (.str "handles")) (mStar (mVar 4) (mNil))))))))))
def g_text_of_bend : Mo Fl := sSeq (sPar2 3 4 (xConsP (mList (mBlk [5] (mSeqS (mVar 1)) (lcBody [5] (gSet 5) (mRet true) (mCall F_text_of (mCons (mVar 5) (mNil)))))) (xConsP (mList (mBlk [5] (mSeqS (mVar 2)) (lcBody [5] (gSet 5) (mRet true) (mCall F_text_of (mCons (mVar 5) (mNil)))))) (xNil))))
  (g_text_of_bend_1)
def F_text_of_bend : Fn := guard 3 (runF 6 g_text_of_bend)
def g_Bend_init : MoO := oIf (mOr (mNot (mTest (mCall F_is_integer (mCons (mVar 1) (mNil))))) (mTest (mOp (cmpD ltI) (mVar 1) (mRet (.int 0))))) (sRaise "InvalidBend" "word" (mRet (.str "degree"))) (oIf (mNot (mTest (mCall F_are_marks (mCons (mVar 1) (mCons (mVar 2) (mNil)))))) (sRaise "InvalidBend" "word" (mRet (.str "marks"))) (oIf (mOr (mNot (mTest (mCall F_is_sequence (mCons (mVar 3) (mNil))))) (mNot (mTest (mBuilt allD (mCons (mList (mBlk [4] (mSeqS (mVar 3)) (lcBody [4] (gSet 4) (mRet true) (mCall F_is_value (mCons (mVar 4) (mNil)))))) (mNil)))))) (sRaise "InvalidBend" "word" (mRet (.str "handles"))) (oIf (mTest (mOp neD (mBuilt lenD (mCons (mVar 3) (mNil))) (mOp subD (mOp addD (mVar 1) (mBuilt lenD (mCons (mVar 2) (mNil)))) (mRet (.int 1))))) (sRaise "InvalidBend" "word" (mRet (.str "handles"))) (oPut "degree" (fun _ => mVar 1)
  (oPut "marks" (fun _ => mBuilt tupleD (mCons (mList (mBlk [4] (mSeqS (mVar 2)) (lcBody [4] (gSet 4) (mRet true) (mCall F_value_of (mCons (mVar 4) (mNil)))))) (mNil)))
  (oPut "handles" (fun _ => mBuilt tupleD (mCons (mList (mBlk [4] (mSeqS (mVar 3)) (lcBody [4] (gSet 4) (mRet true) (mCall F_value_of (mCons (mVar 4) (mNil)))))) (mNil)))
  (oPut "text" (oCall F_text_of_bend (oCons (fun _ => mVar 1) (oCons (fun kvs => pureF (fldIn "marks" kvs)) (oCons (fun kvs => pureF (fldIn "handles" kvs)) (fun _ => mNil)))))
  (oEnd))))))))
def I_Bend : FnI := guardI 3 (runI 4 g_Bend_init)
def g_Bend___str__ : Mo Fl := sRet (mUn fmtD (mUn (fldD "Bend" "text") (mVar 0)))
def F_Bend___str__ : Fn := guard 1 (runF 1 g_Bend___str__)
def g_law_box_1 : Mo (List D) := rRet (mSized (mCons (mOp ixD (mList (mSized (mCons (mRet (.int 0)) (mCons (mVar 3) (mNil))))) (mBuilt intD (mCons (mOp (cmpD geI) (mVar 3) (mOp powD (mRet (.int 10)) (mRet (.int 18)))) (mNil)))) (mCons (mVar 4) (mCons (mRet (.int 0)) (mNil)))))
def g_law_box_2 : Mo (List D) := rSeq (sSet 4 (mOp addD (mOp modD (mBuilt intD (mCons (mOp addD (mOp mulD (mOp modD (mBuilt intD (mCons (mVar 3) (mNil))) (mRet (.int 2147483629))) (mRet (.int 48271))) (mOp mulD (mRet (.int 40692)) (mOp addD (mVar 1) (mOp mulD (mRet (.int 11)) (mVar 2))))) (mNil))) (mRet (.int 2147483629))) (mRet (.int 1))))
  (g_law_box_1)
def g_law_box_3 : Mo (List D) := rSeq (sIf (mTest (mOp (cmpD ltI) (mVar 1) (mBuilt lenD (mCons (mVar 0) (mNil))))) (sSet 3 (mBuilt absD (mCons (mOp ixD (mVar 0) (mVar 1)) (mNil)))) (sIf (mTest (mOp (cmpD gtI) (mBuilt lenD (mCons (mVar 0) (mNil))) (mRet (.int 0)))) (sSet 3 (mOp addD (mVar 3) (mOp mulD (mOp modD (mBuilt intD (mCons (mBuilt absD (mCons (mOp ixD (mVar 0) (mOp modD (mBuilt intD (mCons (mVar 1) (mNil))) (mBuilt lenD (mCons (mVar 0) (mNil))))) (mNil))) (mNil))) (mRet (.int 2147483629))) (mRet (.int 69623))))) (sNext)))
  (g_law_box_2)
def g_law_box : Mo (List D) := rSeq (sSet 3 (mOp addD (mOp addD (mOp mulD (mRet (.int 7727)) (mVar 1)) (mOp mulD (mRet (.int 104729)) (mVar 2))) (mRet (.int 43))))
  (g_law_box_3)
def F_law_box : FnN := guardN 3 (runN 5 g_law_box)
def g_law_fr_1 : Mo Fl := sPar2 3 4 (xConsP (mVar 4) (xConsP (mOp modD (mVar 3) (mVar 4)) (xNil)))
def g_law_fr_2 : Mo Fl := sRet (mTup (mCons (mOp fdivD (mBuilt intD (mCons (mOp mulD (mVar 2) (mVar 0)) (mNil))) (mVar 3)) (mCons (mOp fdivD (mBuilt intD (mCons (mOp mulD (mVar 2) (mVar 1)) (mNil))) (mVar 3)) (mNil))))
def g_law_fr_3 : Mo Fl := sSeq (sSet 2 (mIf (mTest (mOp (cmpD gtI) (mVar 1) (mRet (.int 0)))) (mRet (.int 1)) (mOp subD (mRet (.int 0)) (mRet (.int 1)))))
  (g_law_fr_2)
def g_law_fr_4 : Mo Fl := sSeq (sWhile (fuelInt 4) (mTest (mOp (cmpD gtI) (mVar 4) (mRet (.int 0)))) (g_law_fr_1))
  (g_law_fr_3)
def g_law_fr : Mo Fl := sSeq (sPar2 3 4 (xConsP (mBuilt absD (mCons (mBuilt intD (mCons (mVar 0) (mNil))) (mNil))) (xConsP (mBuilt absD (mCons (mBuilt intD (mCons (mVar 1) (mNil))) (mNil))) (xNil))))
  (g_law_fr_4)
def F_law_fr : Fn := guard 2 (runF 5 g_law_fr)
def g_law_add : Mo Fl := sRet (mCall F_law_fr (mCons (mOp addD (mOp mulD (mOp ixD (mVar 0) (mRet (.int 0))) (mOp ixD (mVar 1) (mRet (.int 1)))) (mOp mulD (mOp ixD (mVar 1) (mRet (.int 0))) (mOp ixD (mVar 0) (mRet (.int 1))))) (mCons (mOp mulD (mOp ixD (mVar 0) (mRet (.int 1))) (mOp ixD (mVar 1) (mRet (.int 1)))) (mNil))))
def F_law_add : Fn := guard 2 (runF 2 g_law_add)
def g_law_take : Mo Fl := sSeq (sIf (mTest (mOp (cmpD gtI) (mIxB 0 (mRet (.int 0))) (mRet (.int 0)))) (sSeq (sSet 4 (mOp modD (mBuilt intD (mCons (mIxB 0 (mRet (.int 0))) (mNil))) (mVar 1)))
  (sSeq (sPutB 0 (mRet (.int 0)) (mOp fdivD (mIxB 0 (mRet (.int 0))) (mVar 1)))
  (sRet (mVar 4)))) (sNext))
  (sSeq (sPutB 0 (mRet (.int 2)) (mOp addD (mIxB 0 (mRet (.int 2))) (mRet (.int 1))))
  (sSeq (sSet 2 (mOp modD (mBuilt intD (mCons (mOp mulD (mOp addD (mIxB 0 (mRet (.int 1))) (mOp mulD (mRet (.int 104729)) (mIxB 0 (mRet (.int 2))))) (mRet (.int 69623))) (mNil))) (mRet (.int 2147483647))))
  (sSeq (sPutB 0 (mRet (.int 1)) (mOp addD (mOp modD (mBuilt intD (mCons (mOp addD (mOp mulD (mVar 2) (mRet (.int 48271))) (mRet (.int 30103))) (mNil))) (mRet (.int 2147483629))) (mRet (.int 1))))
  (sSeq (sIf (mTest (mOp (cmpD ltI) (mVar 1) (mOp powD (mRet (.int 2)) (mRet (.int 40))))) (sRet (mOp modD (mBuilt intD (mCons (mOp fdivD (mOp addD (mOp mulD (mVar 2) (mRet (.int 2147483647))) (mIxB 0 (mRet (.int 1)))) (mRet (.int 8191))) (mNil))) (mVar 1))) (sNext))
  (sSeq (sSet 3 (mOp mulD (mOp addD (mOp mulD (mVar 2) (mRet (.int 2147483647))) (mIxB 0 (mRet (.int 1)))) (mOp powD (mRet (.int 2147483629)) (mRet (.int 3)))))
  (sRet (mOp modD (mBuilt intD (mCons (mOp addD (mOp addD (mVar 3) (mOp mulD (mOp powD (mIxB 0 (mRet (.int 1))) (mRet (.int 3))) (mRet (.int 8191)))) (mVar 2)) (mNil))) (mVar 1))))))))
def F_law_take : FnX := M_law_take
def g_law_pick : Mo Fl := sRet (mOp ixD (mVar 1) (mCallX F_law_take 0 (mCons (mBuilt lenD (mCons (mVar 1) (mNil))) (mNil))))
def F_law_pick : FnX := guardX 1 (runX 1 g_law_pick)
def g_law_marks_1 : Mo Fl := sIf (mTest (mOp (cmpD gtI) (mVar 1) (mRet (.int 0)))) (sChg 3 (mCons (mIf (mTest (mVar 6)) (mIxO 3 (mUn negD (mRet (.int 1)))) (mCall F_law_add (mCons (mIxO 3 (mUn negD (mRet (.int 1)))) (mCons (mVar 5) (mNil))))) (mNil)) appC) (sNext)
def g_law_marks_2 : Mo Fl := sSeq (sSet 6 (mAndV (mOp (cmpD gtI) (mLenO 3) (mRet (.int 1))) (mAndV (mOp (cmpD ltI) (mCntO 3 (mIxO 3 (mUn negD (mRet (.int 1))))) (mVar 1)) (mOp eqD (mCallX F_law_take 0 (mCons (mRet (.int 3)) (mNil))) (mRet (.int 0))))))
  (g_law_marks_1)
def g_law_marks_3 : Mo Fl := sSeq (sSet 5 (mCallX F_law_pick 0 (mCons (mList (mSized (mCons (mTup (mCons (mRet (.int 1)) (mCons (mRet (.int 1)) (mNil)))) (mCons (mTup (mCons (mRet (.int 1)) (mCons (mRet (.int 2)) (mNil)))) (mCons (mTup (mCons (mRet (.int 1)) (mCons (mRet (.int 3)) (mNil)))) (mCons (mTup (mCons (mRet (.int 2)) (mCons (mRet (.int 1)) (mNil)))) (mNil))))))) (mNil))))
  (g_law_marks_2)
def g_law_marks_4 : Mo Fl := sRet (mOp addD (mVar 3) (mList (mSized (mCons (mCall F_law_add (mCons (mIxO 3 (mUn negD (mRet (.int 1)))) (mCons (mCallX F_law_pick 0 (mCons (mList (mSized (mCons (mTup (mCons (mRet (.int 1)) (mCons (mRet (.int 1)) (mNil)))) (mCons (mTup (mCons (mRet (.int 1)) (mCons (mRet (.int 2)) (mNil)))) (mCons (mTup (mCons (mRet (.int 2)) (mCons (mRet (.int 1)) (mNil)))) (mNil)))))) (mNil))) (mNil)))) (mNil)))))
def g_law_marks_5 : Mo Fl := sSeq (sFor (mRange range1D (mCons (mCallX F_law_take 0 (mCons (mOp subD (mVar 2) (mRet (.int 1))) (mNil))) (mNil))) (gSet 4) (g_law_marks_3))
  (g_law_marks_4)
def g_law_marks : Mo Fl := sSeq (sOwn 3 (mSized (mCons (mCallX F_law_pick 0 (mCons (mList (mSized (mCons (mTup (mCons (mRet (.int 0)) (mCons (mRet (.int 1)) (mNil)))) (mCons (mTup (mCons (mRet (.int 0)) (mCons (mRet (.int 1)) (mNil)))) (mCons (mTup (mCons (mRet (.int 1)) (mCons (mRet (.int 2)) (mNil)))) (mCons (mTup (mCons (mOp subD (mRet (.int 0)) (mRet (.int 1))) (mCons (mRet (.int 1)) (mNil)))) (mNil))))))) (mNil))) (mNil))))
  (g_law_marks_5)
def F_law_marks : FnX := guardX 2 (runX 6 g_law_marks)
def g_law_small_1 : Mo Fl := sRet (mCall F_law_fr (mCons (mVar 2) (mCons (mCallX F_law_pick 0 (mCons (mList (mSized (mCons (mRet (.int 1)) (mCons (mRet (.int 1)) (mCons (mRet (.int 1)) (mCons (mRet (.int 2)) (mCons (mRet (.int 3)) (mNil)))))))) (mNil))) (mNil))))
def g_law_small : Mo Fl := sSeq (sSet 2 (mOp subD (mCallX F_law_take 0 (mCons (mOp addD (mOp mulD (mRet (.int 2)) (mVar 1)) (mRet (.int 1))) (mNil))) (mVar 1)))
  (g_law_small_1)
def F_law_small : FnX := guardX 1 (runX 2 g_law_small)
def g_law_drawn_1 : Mo Fl := sRet (mTup (mCons (mVar 3) (mCons (mVar 4) (mCons (mList (mBlk [5] (mRange range1D (mCons (mOp subD (mOp addD (mVar 3) (mBuilt lenD (mCons (mVar 4) (mNil)))) (mRet (.int 1))) (mNil))) (lcBody [5] (gSet 5) (mRet true) (mCallX F_law_small 0 (mCons (mRet (.int 4)) (mNil)))))) (mNil)))))
def g_law_drawn_2 : Mo Fl := sSeq (sSet 4 (mCallX F_law_marks 0 (mCons (mVar 3) (mCons (mVar 2) (mNil)))))
  (g_law_drawn_1)
def g_law_drawn : Mo Fl := sSeq (sSet 3 (mCallX F_law_take 0 (mCons (mOp addD (mVar 1) (mRet (.int 1))) (mNil))))
  (g_law_drawn_2)
def F_law_drawn : FnX := guardX 2 (runX 5 g_law_drawn)
def g_law_told_value : Mo Fl := sRet (mIf (mTest (mOp eqD (mOp ixD (mVar 0) (mRet (.int 1))) (mRet (.int 1)))) (mBuilt strD (mCons (mOp ixD (mVar 0) (mRet (.int 0))) (mNil))) (mOp addD (mOp addD (mBuilt strD (mCons (mOp ixD (mVar 0) (mRet (.int 0))) (mNil))) (mRet (.str "/"))) (mBuilt strD (mCons (mOp ixD (mVar 0) (mRet (.int 1))) (mNil)))))
def F_law_told_value : Fn := guard 1 (runF 1 g_law_told_value)
def g_law_text_1 : Mo Fl := sRet (mM1 joinD (mRet (.str " ")) (mOp addD (mOp addD (mVar 1) (mList (mSized (mCons (mRet (.str "handles")) (mNil))))) (mList (mBlk [2] (mSeqS (mOp ixD (mVar 0) (mRet (.int 2)))) (lcBody [2] (gSet 2) (mRet true) (mCall F_law_told_value (mCons (mVar 2) (mNil))))))))
def g_law_text : Mo Fl := sSeq (sSet 1 (mOp addD (mList (mSized (mCons (mRet (.str "bend")) (mCons (mBuilt strD (mCons (mOp ixD (mVar 0) (mRet (.int 0))) (mNil))) (mCons (mRet (.str "marks")) (mNil)))))) (mList (mBlk [2] (mSeqS (mOp ixD (mVar 0) (mRet (.int 1)))) (lcBody [2] (gSet 2) (mRet true) (mCall F_law_told_value (mCons (mVar 2) (mNil))))))))
  (g_law_text_1)
def F_law_text : Fn := guard 1 (runF 3 g_law_text)
def C_DIGITS : D := .str "0123456789"
def C_MOST_DIGITS : D := .int 9
def g_number_in_1 : Mo Fl := sRet (mIf (mOr (mTest (mOp eqD (mVar 0) (mRet (.str "0")))) (mTest (mOp neD (mOp ixD (mVar 0) (mRet (.int 0))) (mRet (.str "0"))))) (mBuilt intSD (mCons (mVar 0) (mNil))) (mRet .none))
def g_number_in : Mo Fl := sSeq (sIf (mOr (mNot (mTest (mChain (cmpD leI) (cmpD leI) (mRet (.int 1)) (mBuilt lenD (mCons (mVar 0) (mNil))) (mRet C_MOST_DIGITS)))) (mNot (mTest (mBuilt allD (mCons (mList (mBlk [1] (mSignS (mVar 0)) (lcBody [1] (gSet 1) (mRet true) (mOp inTD (mVar 1) (mRet C_DIGITS))))) (mNil)))))) (sRet (mRet .none)) (sNext))
  (g_number_in_1)
def F_number_in : Fn := guard 1 (runF 2 g_number_in)
def g_value_in_1 : Mo Fl := sRet (mIf (mTest (mOp eqD (mBuilt lenD (mCons (mVar 2) (mNil))) (mRet C_PAIR))) (mTup (mCons (mVar 4) (mCons (mOp ixD (mVar 3) (mUn negD (mRet (.int 1)))) (mNil)))) (mTup (mCons (mVar 4) (mCons (mRet (.int 1)) (mNil)))))
def g_value_in_2 : Mo Fl := sSeq (sSet 4 (mIf (mTest (mVar 1)) (mUn negD (mOp ixD (mVar 3) (mRet (.int 0)))) (mOp ixD (mVar 3) (mRet (.int 0)))))
  (g_value_in_1)
def g_value_in_3 : Mo Fl := sSeq (sIf (mAnd (mTest (mOp eqD (mBuilt lenD (mCons (mVar 2) (mNil))) (mRet C_PAIR))) (mOr (mTest (mOp (cmpD leI) (mOp ixD (mVar 3) (mRet (.int 1))) (mRet (.int 1)))) (mTest (mOp neD (mCall F_common_part (mCons (mOp ixD (mVar 3) (mRet (.int 0))) (mCons (mOp ixD (mVar 3) (mRet (.int 1))) (mNil)))) (mRet (.int 1)))))) (sRet (mRet .none)) (sNext))
  (g_value_in_2)
def g_value_in_4 : Mo Fl := sSeq (sIf (mOr (mTest (mOp (cmpD gtI) (mBuilt lenD (mCons (mVar 2) (mNil))) (mRet C_PAIR))) (mOr (mTest (mOp inTD (mRet .none) (mVar 3))) (mAnd (mTest (mVar 1)) (mTest (mOp eqD (mOp ixD (mVar 3) (mRet (.int 0))) (mRet (.int 0))))))) (sRet (mRet .none)) (sNext))
  (g_value_in_3)
def g_value_in_5 : Mo Fl := sSeq (sSet 3 (mList (mBlk [5] (mSeqS (mVar 2)) (lcBody [5] (gSet 5) (mRet true) (mCall F_number_in (mCons (mVar 5) (mNil)))))))
  (g_value_in_4)
def g_value_in_6 : Mo Fl := sSeq (sSet 2 (mM1 splitD (mSlice (mVar 0) (mPart (mBuilt intD (mCons (mVar 1) (mNil)))) (mNoPart)) (mRet (.str "/"))))
  (g_value_in_5)
def g_value_in : Mo Fl := sSeq (sSet 1 (mOp eqD (mSlice (mVar 0) (mNoPart) (mPart (mRet (.int 1)))) (mRet (.str "-"))))
  (g_value_in_6)
def F_value_in : Fn := guard 1 (runF 6 g_value_in)
def g_values_in_1 : Mo Fl := sRet (mIf (mTest (mOp inTD (mRet .none) (mVar 1))) (mRet .none) (mVar 1))
def g_values_in : Mo Fl := sSeq (sSet 1 (mList (mBlk [2] (mSeqS (mVar 0)) (lcBody [2] (gSet 2) (mRet true) (mCall F_value_in (mCons (mVar 2) (mNil)))))))
  (g_values_in_1)
def F_values_in : Fn := guard 1 (runF 3 g_values_in)
def g_rows_in_1 : Mo Fl := sRet (mTup (mCons (mOp ixD (mOp ixD (mVar 3) (mRet (.int 0))) (mRet (.int 0))) (mCons (mVar 4) (mCons (mVar 5) (mNil)))))
def g_rows_in_2 : Mo Fl := sSeq (sIf (mOr (mTest (mOp neD (mOp ixD (mOp ixD (mVar 3) (mRet (.int 0))) (mRet (.int 1))) (mRet (.int 1)))) (mTest (mOp (cmpD ltI) (mOp ixD (mOp ixD (mVar 3) (mRet (.int 0))) (mRet (.int 0))) (mRet (.int 0))))) (sRet (mRet .none)) (sNext))
  (g_rows_in_1)
def g_rows_in_3 : Mo Fl := sSeq (sIf (mOr (mTest (mOp isD (mVar 3) (mRet .none))) (mOr (mTest (mOp isD (mVar 4) (mRet .none))) (mOr (mTest (mOp isD (mVar 5) (mRet .none))) (mOr (mTest (mOp eqD (mBuilt lenD (mCons (mVar 4) (mNil))) (mRet (.int 0)))) (mTest (mOp eqD (mBuilt lenD (mCons (mVar 5) (mNil))) (mRet (.int 0)))))))) (sRet (mRet .none)) (sNext))
  (g_rows_in_2)
def g_rows_in_4 : Mo Fl := sSeq (sPar3 3 4 5 (xConsP (mCall F_values_in (mCons (mSlice (mVar 1) (mPart (mRet (.int 1))) (mPart (mRet (.int 2)))) (mNil))) (xConsP (mCall F_values_in (mCons (mSlice (mVar 1) (mPart (mRet (.int 3))) (mPart (mVar 2))) (mNil))) (xConsP (mCall F_values_in (mCons (mSlice (mVar 1) (mPart (mOp addD (mVar 2) (mRet (.int 1)))) (mNoPart)) (mNil))) (xNil)))))
  (g_rows_in_3)
def g_rows_in_5 : Mo Fl := sSeq (sSet 2 (mRecv isLstB idxLD (mVar 1) (mRet (.str "handles"))))
  (g_rows_in_4)
def g_rows_in_6 : Mo Fl := sSeq (sIf (mOr (mTest (mOp neD (mSlice (mVar 1) (mNoPart) (mPart (mRet (.int 1)))) (mList (mSized (mCons (mRet (.str "bend")) (mNil)))))) (mOr (mTest (mOp neD (mSlice (mVar 1) (mPart (mRet (.int 2))) (mPart (mRet (.int 3)))) (mList (mSized (mCons (mRet (.str "marks")) (mNil)))))) (mTest (mOp neD (mRecv isLstB cntLD (mVar 1) (mRet (.str "handles"))) (mRet (.int 1)))))) (sRet (mRet .none)) (sNext))
  (g_rows_in_5)
def g_rows_in : Mo Fl := sSeq (sSet 1 (mIf (mTest (mIsi isStrT (mVar 0))) (mM1 splitD (mVar 0) (mRet (.str " "))) (mList (mSized (mNil)))))
  (g_rows_in_6)
def F_rows_in : Fn := guard 1 (runF 6 g_rows_in)
def g_Bend_read_1 : Mo Fl := sRet (mMkSl 0 "Bend" I_Bend (mCons (mOp ixD (mVar 2) (mRet (.int 0))) (mCons (mOp ixD (mVar 2) (mRet (.int 1))) (mCons (mOp ixD (mVar 2) (mRet (.int 2))) (mNil)))))
def g_Bend_read_2 : Mo Fl := sSeq (sIf (mTest (mOp isD (mVar 2) (mRet .none))) (sRaise "InvalidText" "at" (mRet (.int 0))) (sNext))
  (g_Bend_read_1)
def g_Bend_read : Mo Fl := sSeq (sSet 2 (mCall F_rows_in (mCons (mVar 1) (mNil))))
  (g_Bend_read_2)
def F_Bend_read : Fn := guard 2 (runF 3 g_Bend_read)
def g_law_below : Mo Fl := sRet (mOp (cmpD ltI) (mOp mulD (mOp ixD (mVar 0) (mRet (.int 0))) (mOp ixD (mVar 1) (mRet (.int 1)))) (mOp mulD (mOp ixD (mVar 1) (mRet (.int 0))) (mOp ixD (mVar 0) (mRet (.int 1)))))
def F_law_below : Fn := guard 2 (runF 2 g_law_below)
def g_law_number_v1_1 : Mo Fl := sRet (mIf (mOr (mTest (mOp eqD (mVar 0) (mRet (.str "0")))) (mTest (mOp neD (mOp ixD (mVar 0) (mRet (.int 0))) (mRet (.str "0"))))) (mBuilt intSD (mCons (mVar 0) (mNil))) (mRet .none))
def g_law_number_v1 : Mo Fl := sSeq (sIf (mOr (mNot (mTest (mChain (cmpD ltI) (cmpD ltI) (mRet (.int 0)) (mBuilt lenD (mCons (mVar 0) (mNil))) (mRet (.int 10))))) (mTest (mOp neD (mList (mBlk [1] (mSignS (mVar 0)) (lcBody [1] (gSet 1) (mTest (mOp notInTD (mVar 1) (mRet (.str "0123456789")))) (mVar 1)))) (mList (mSized (mNil)))))) (sRet (mRet .none)) (sNext))
  (g_law_number_v1_1)
def F_law_number_v1 : Fn := guard 1 (runF 2 g_law_number_v1)
def g_law_read_value_1 : Mo Fl := sRet (mIf (mTest (mOp eqD (mSlice (mVar 0) (mNoPart) (mPart (mRet (.int 1)))) (mRet (.str "-")))) (mTup (mCons (mOp subD (mRet (.int 0)) (mOp ixD (mVar 3) (mRet (.int 0)))) (mCons (mOp ixD (mVar 3) (mRet (.int 1))) (mNil)))) (mVar 3))
def g_law_read_value_2 : Mo Fl := sSeq (sIf (mTest (mOp neD (mCall F_law_fr (mCons (mOp ixD (mVar 3) (mRet (.int 0))) (mCons (mOp ixD (mVar 3) (mRet (.int 1))) (mNil)))) (mVar 3))) (sRet (mRet .none)) (sNext))
  (g_law_read_value_1)
def g_law_read_value_3 : Mo Fl := sSeq (sSet 3 (mIf (mTest (mOp eqD (mBuilt lenD (mCons (mVar 2) (mNil))) (mRet (.int 2)))) (mTup (mCons (mOp ixD (mVar 2) (mRet (.int 0))) (mCons (mOp ixD (mVar 2) (mRet (.int 1))) (mNil)))) (mTup (mCons (mOp ixD (mVar 2) (mRet (.int 0))) (mCons (mRet (.int 1)) (mNil))))))
  (g_law_read_value_2)
def g_law_read_value_4 : Mo Fl := sSeq (sIf (mOr (mTest (mOp inTD (mRet .none) (mVar 2))) (mOr (mTest (mOp (cmpD gtI) (mBuilt lenD (mCons (mVar 2) (mNil))) (mRet (.int 2)))) (mOr (mTest (mOp eqD (mVar 0) (mRet (.str "-0")))) (mAnd (mTest (mOp eqD (mBuilt lenD (mCons (mVar 2) (mNil))) (mRet (.int 2)))) (mTest (mOp (cmpD ltI) (mOp ixD (mVar 2) (mRet (.int 1))) (mRet (.int 2)))))))) (sRet (mRet .none)) (sNext))
  (g_law_read_value_3)
def g_law_read_value_5 : Mo Fl := sSeq (sSet 2 (mList (mBlk [4] (mSeqS (mM1 splitD (mVar 1) (mRet (.str "/")))) (lcBody [4] (gSet 4) (mRet true) (mCall F_law_number_v1 (mCons (mVar 4) (mNil)))))))
  (g_law_read_value_4)
def g_law_read_value : Mo Fl := sSeq (sSet 1 (mIf (mTest (mOp eqD (mSlice (mVar 0) (mNoPart) (mPart (mRet (.int 1)))) (mRet (.str "-")))) (mSlice (mVar 0) (mPart (mRet (.int 1))) (mNoPart)) (mVar 0)))
  (g_law_read_value_5)
def F_law_read_value : Fn := guard 1 (runF 5 g_law_read_value)
def g_law_due_1 : Mo Fl := sRet (mIf (mTest (mOp eqD (mBuilt lenD (mCons (mVar 3) (mNil))) (mOp subD (mOp addD (mVar 6) (mBuilt lenD (mCons (mVar 5) (mNil)))) (mRet (.int 1))))) (mTup (mCons (mVar 6) (mCons (mVar 5) (mCons (mVar 3) (mNil))))) (mRet (.str "handles")))
def g_law_due_2 : Mo Fl := sSeq (sIf (mTest (mOp neD (mList (mBlk [9] (mSeqS (mVar 7)) (lcBody [9] (gSet 9) (mTest (mOp (cmpD gtI) (mRecv isLstB cntLD (mVar 7) (mVar 9)) (mVar 6))) (mVar 9)))) (mList (mSized (mNil))))) (sRet (mRet (.str "marks"))) (sNext))
  (g_law_due_1)
def g_law_due_3 : Mo Fl := sSeq (sIf (mOr (mTest (mOp (cmpD gtI) (mRecv isLstB cntLD (mVar 5) (mOp ixD (mVar 5) (mRet (.int 0)))) (mRet (.int 1)))) (mTest (mOp (cmpD gtI) (mRecv isLstB cntLD (mVar 5) (mOp ixD (mVar 5) (mUn negD (mRet (.int 1))))) (mRet (.int 1))))) (sRet (mRet (.str "marks"))) (sNext))
  (g_law_due_2)
def g_law_due_4 : Mo Fl := sSeq (sIf (mTest (mOp neD (mList (mBlk [9, 10] (mZip (mCons (mVar 5) (mCons (mSlice (mVar 5) (mPart (mRet (.int 1))) (mNoPart)) (mNil)))) (lcBody [9, 10] (gTupD 2 (gConsD (gSet 9) (gConsD (gSet 10) (gNilD)))) (mTest (mCall F_law_below (mCons (mVar 10) (mCons (mVar 9) (mNil))))) (mRet (.int 1))))) (mList (mSized (mNil))))) (sRet (mRet (.str "marks"))) (sNext))
  (g_law_due_3)
def g_law_due_5 : Mo Fl := sSeq (sIf (mTest (mOp (cmpD ltI) (mBuilt lenD (mCons (mVar 5) (mNil))) (mRet (.int 2)))) (sRet (mRet (.str "marks"))) (sNext))
  (g_law_due_4)
def g_law_due_6 : Mo Fl := sSeq (sAsg (gTupD 2 (gConsD (gSet 6) (gConsD (gSet 7) (gNilD)))) (mTup (mCons (mOp ixD (mVar 4) (mRet (.int 0))) (mCons (mSlice (mVar 5) (mPart (mRet (.int 1))) (mPart (mUn negD (mRet (.int 1))))) (mNil)))))
  (g_law_due_5)
def g_law_due_7 : Mo Fl := sSeq (sIf (mOr (mTest (mOp inTD (mRet .none) (mOp addD (mOp addD (mVar 4) (mVar 5)) (mVar 3)))) (mOr (mTest (mOp eqD (mVar 5) (mList (mSized (mNil))))) (mTest (mOp eqD (mVar 3) (mList (mSized (mNil))))))) (sRet (mRet (.str "text"))) (sNext))
  (g_law_due_6)
def g_law_due_8 : Mo Fl := sSeq (sSet 3 (mList (mBlk [8] (mSeqS (mSlice (mVar 1) (mPart (mOp addD (mVar 2) (mRet (.int 1)))) (mNoPart))) (lcBody [8] (gSet 8) (mRet true) (mCall F_law_read_value (mCons (mVar 8) (mNil)))))))
  (g_law_due_7)
def g_law_due_9 : Mo Fl := sSeq (sPar2 4 5 (xConsP (mList (mSized (mCons (mCall F_law_number_v1 (mCons (mOp ixD (mVar 1) (mRet (.int 1))) (mNil))) (mNil)))) (xConsP (mList (mBlk [8] (mSeqS (mSlice (mVar 1) (mPart (mRet (.int 3))) (mPart (mVar 2)))) (lcBody [8] (gSet 8) (mRet true) (mCall F_law_read_value (mCons (mVar 8) (mNil)))))) (xNil))))
  (g_law_due_8)
def g_law_due_10 : Mo Fl := sSeq (sSet 2 (mRecv isLstB idxLD (mVar 1) (mRet (.str "handles"))))
  (g_law_due_9)
def g_law_due_11 : Mo Fl := sSeq (sIf (mOr (mTest (mOp neD (mSlice (mVar 1) (mNoPart) (mPart (mRet (.int 1)))) (mList (mSized (mCons (mRet (.str "bend")) (mNil)))))) (mOr (mTest (mOp neD (mSlice (mVar 1) (mPart (mRet (.int 2))) (mPart (mRet (.int 3)))) (mList (mSized (mCons (mRet (.str "marks")) (mNil)))))) (mTest (mOp neD (mRecv isLstB cntLD (mVar 1) (mRet (.str "handles"))) (mRet (.int 1)))))) (sRet (mRet (.str "text"))) (sNext))
  (g_law_due_10)
def g_law_due : Mo Fl := sSeq (sSet 1 (mM1 splitD (mVar 0) (mRet (.str " "))))
  (g_law_due_11)
def F_law_due : Fn := guard 1 (runF 11 g_law_due)
def g_law_heard_v10_1 : Mo Fl := sSeq (sTryB "InvalidText" 2 1 (xStrCls "Bend" "Bend" F_Bend_read F_Bend___str__ (mCons (mVar 0) (mNil)) 1) (ifX (eqX (reprX (fldX "InvalidText" "at")) (fun _ => some (.str "0"))) (fun _ => some (.str "text")) (fun _ => some (.str "odd"))) "InvalidBend" (fldX "InvalidBend" "word"))
  (sRet (mVar 1))
def g_law_heard_v10 : Mo Fl := sSeq (sSet 1 (mRet .none))
  (g_law_heard_v10_1)
def F_law_heard_v10 : Fn := guard 1 (runF 3 g_law_heard_v10)
def g_law_value_1 : Mo Fl := sSet 2 (mIf (mTest (mOp eqD (mOp modD (mVar 3) (mRet (.int 2))) (mRet (.int 0)))) (mList (mSized (mCons (mVar 2) (mCons (mRet (.int 1)) (mNil))))) (mTup (mCons (mVar 2) (mNil))))
def g_law_value_2 : Mo Fl := sRet (mCallX F_law_pick 0 (mCons (mOp addD (mVar 1) (mList (mSized (mCons (mVar 2) (mCons (mTup (mCons (mRet .none) (mCons (mRet (.int 1)) (mNil)))) (mCons (mTup (mCons (mRet (.int 1)) (mCons (mRet (.bool true)) (mNil)))) (mNil))))))) (mNil)))
def g_law_value_3 : Mo Fl := sSeq (sFor (mRange range1D (mCons (mRet (.int 7)) (mNil))) (gSet 3) (g_law_value_1))
  (g_law_value_2)
def g_law_value : Mo Fl := sSeq (sSet 1 (mList (mSized (mCons (mRet .none) (mCons (mRet (.str "")) (mCons (mRet (.str "1")) (mCons (mRet (.bool true)) (mCons (mRet (.bool false)) (mCons (mList (mSized (mNil))) (mCons (mList (mSized (mCons (mRet (.int 1)) (mCons (mRet (.int 2)) (mNil))))) (mCons (mTup (mCons (mRet (.int 2)) (mCons (mRet (.int 4)) (mNil)))) (mCons (mTup (mCons (mRet (.int 1)) (mCons (mRet (.int 0)) (mNil)))) (mCons (mTup (mCons (mRet (.int 1)) (mCons (mOp subD (mRet (.int 0)) (mRet (.int 2))) (mNil)))) (mCons (mTup (mCons (mRet (.int 1)) (mCons (mRet (.int 2)) (mCons (mRet (.int 3)) (mNil))))) (mCons (mRet (.str "bend")) (mCons (mTup (mCons (mTup (mCons (mRet (.int 1)) (mCons (mRet (.int 2)) (mNil)))) (mNil))) (mNil)))))))))))))))))
  (sSeq (sSet 2 (mTup (mNil)))
  (g_law_value_3))
def F_law_value : FnX := guardX 0 (runX 3 g_law_value)
end HB
namespace HB
open PySem L2
structure Say (K : PySem.W.Frag) (mg : Str → Option Value) : Prop where
  m_abs : mg "abs" = none
  m_all : mg "all" = none
  m_any : mg "any" = none
  m_bool : mg "bool" = none
  m_int : mg "int" = none
  m_isinstance : mg "isinstance" = none
  m_len : mg "len" = none
  m_list : mg "list" = none
  m_max : mg "max" = none
  m_min : mg "min" = none
  m_range : mg "range" = none
  m_repr : mg "repr" = none
  m_str : mg "str" = none
  m_tuple : mg "tuple" = none
  m_zip : mg "zip" = none
  c_DIGITS : GlD K mg "DIGITS" C_DIGITS
  c_MOST_DIGITS : GlD K mg "MOST_DIGITS" C_MOST_DIGITS
  c_PAIR : GlD K mg "PAIR" C_PAIR
  cl_Bend : Cls K (He.ga K "Bend")
  mk_Bend : Mk K (He.ga K "Bend") (He.ma K (He.ga K "Bend") "__init__")
  gc_Bend : mg "Bend" = some (.ref (He.ga K "Bend"))
  gc_BendError : mg "BendError" = some (.ref (He.ga K "BendError"))
  gc_InvalidBend : mg "InvalidBend" = some (.ref (He.ga K "InvalidBend"))
  gc_InvalidText : mg "InvalidText" = some (.ref (He.ga K "InvalidText"))
  xf_InvalidBend : ExcF K "InvalidBend" "word"
  xf_InvalidText : ExcF K "InvalidText" "at"
  bot_BendError : BotF K "BendError"
  exn_InvalidBend_InvalidText : PySem.W.exmOne K (.ref (He.ga K "InvalidBend")) (.ref (He.ga K "InvalidText")) = some false
  isx_InvalidBend : IsxF K "InvalidBend"
  exm_InvalidBend : PySem.W.exmOne K (.ref (He.ga K "InvalidBend")) (.ref (He.ga K "InvalidBend")) = some true
  isx_InvalidText : IsxF K "InvalidText"
  exm_InvalidText : PySem.W.exmOne K (.ref (He.ga K "InvalidText")) (.ref (He.ga K "InvalidText")) = some true
  cr_Bend : ClX.CRead K (He.ga K "Bend") (.type "type")
  cm_Bend_read : ClX.CMet K (He.ga K "Bend") (.type "type") "read" (He.ma K (He.ga K "Bend") "read") (He5.wf K (He.ga K "Bend") "classmethod" "read")
  d_Bend_read : ∃ fd, FunD K "read" "Bend.read" (defArgs s_Bend_read) (defBody s_Bend_read) (defScope s_Bend_read) [] [] (He5.wf K (He.ga K "Bend") "classmethod" "read") fd
  me_Bend___str__ : Meth K (He.ga K "Bend") "__str__" (He.ma K (He.ga K "Bend") "__str__")
  na_Bend_degree : NoAttr K (He.ga K "Bend") "degree"
  na_Bend_handles : NoAttr K (He.ga K "Bend") "handles"
  na_Bend_marks : NoAttr K (He.ga K "Bend") "marks"
  na_Bend_text : NoAttr K (He.ga K "Bend") "text"
  d_law_box : ∃ fd, FunD K "_law_box" "_law_box" (defArgs s_law_box) (defBody s_law_box) (defScope s_law_box) [] [] (He.ga K "_law_box") fd
  g_law_box : mg "_law_box" = some (.ref (He.ga K "_law_box"))
  d_law_fr : ∃ fd, FunD K "_law_fr" "_law_fr" (defArgs s_law_fr) (defBody s_law_fr) (defScope s_law_fr) [] [] (He.ga K "_law_fr") fd
  g_law_fr : mg "_law_fr" = some (.ref (He.ga K "_law_fr"))
  d_law_add : ∃ fd, FunD K "_law_add" "_law_add" (defArgs s_law_add) (defBody s_law_add) (defScope s_law_add) [] [] (He.ga K "_law_add") fd
  g_law_add : mg "_law_add" = some (.ref (He.ga K "_law_add"))
  d_law_take : ∃ fd, FunD K "_law_take" "_law_take" (defArgs s_law_take) (defBody s_law_take) (defScope s_law_take) [] [] (He.ga K "_law_take") fd
  g_law_take : mg "_law_take" = some (.ref (He.ga K "_law_take"))
  d_law_pick : ∃ fd, FunD K "_law_pick" "_law_pick" (defArgs s_law_pick) (defBody s_law_pick) (defScope s_law_pick) [] [] (He.ga K "_law_pick") fd
  g_law_pick : mg "_law_pick" = some (.ref (He.ga K "_law_pick"))
  d_law_marks : ∃ fd, FunD K "_law_marks" "_law_marks" (defArgs s_law_marks) (defBody s_law_marks) (defScope s_law_marks) [] [] (He.ga K "_law_marks") fd
  g_law_marks : mg "_law_marks" = some (.ref (He.ga K "_law_marks"))
  d_law_small : ∃ fd, FunD K "_law_small" "_law_small" (defArgs s_law_small) (defBody s_law_small) (defScope s_law_small) [] [] (He.ga K "_law_small") fd
  g_law_small : mg "_law_small" = some (.ref (He.ga K "_law_small"))
  d_law_drawn : ∃ fd, FunD K "_law_drawn" "_law_drawn" (defArgs s_law_drawn) (defBody s_law_drawn) (defScope s_law_drawn) [] [] (He.ga K "_law_drawn") fd
  g_law_drawn : mg "_law_drawn" = some (.ref (He.ga K "_law_drawn"))
  d_law_below : ∃ fd, FunD K "_law_below" "_law_below" (defArgs s_law_below) (defBody s_law_below) (defScope s_law_below) [] [] (He.ga K "_law_below") fd
  g_law_below : mg "_law_below" = some (.ref (He.ga K "_law_below"))
  d_law_number_v1 : ∃ fd, FunD K "_law_number" "_law_number" (defArgs s_law_number_v1) (defBody s_law_number_v1) (defScope s_law_number_v1) [] [] (He.ga K "_law_number") fd
  g_law_number_v1 : mg "_law_number" = some (.ref (He.ga K "_law_number"))
  d_law_read_value : ∃ fd, FunD K "_law_read_value" "_law_read_value" (defArgs s_law_read_value) (defBody s_law_read_value) (defScope s_law_read_value) [] [] (He.ga K "_law_read_value") fd
  g_law_read_value : mg "_law_read_value" = some (.ref (He.ga K "_law_read_value"))
  d_law_due : ∃ fd, FunD K "_law_due" "_law_due" (defArgs s_law_due) (defBody s_law_due) (defScope s_law_due) [] [] (He.ga K "_law_due") fd
  g_law_due : mg "_law_due" = some (.ref (He.ga K "_law_due"))
  d_InvalidBend_init : ∃ fd, FunD K "__init__" "InvalidBend.__init__" (defArgs s_InvalidBend_init) (defBody s_InvalidBend_init) (defScope s_InvalidBend_init) [] [] (He.ma K (He.ga K "InvalidBend") "__init__") fd
  d_is_less : ∃ fd, FunD K "is_less" "is_less" (defArgs s_is_less) (defBody s_is_less) (defScope s_is_less) [] [] (He.ga K "is_less") fd
  g_is_less : mg "is_less" = some (.ref (He.ga K "is_less"))
  d_is_sequence : ∃ fd, FunD K "is_sequence" "is_sequence" (defArgs s_is_sequence) (defBody s_is_sequence) (defScope s_is_sequence) [] [] (He.ga K "is_sequence") fd
  g_is_sequence : mg "is_sequence" = some (.ref (He.ga K "is_sequence"))
  d_common_part : ∃ fd, FunD K "common_part" "common_part" (defArgs s_common_part) (defBody s_common_part) (defScope s_common_part) [] [] (He.ga K "common_part") fd
  g_common_part : mg "common_part" = some (.ref (He.ga K "common_part"))
  d_is_integer : ∃ fd, FunD K "is_integer" "is_integer" (defArgs s_is_integer) (defBody s_is_integer) (defScope s_is_integer) [] [] (He.ga K "is_integer") fd
  g_is_integer : mg "is_integer" = some (.ref (He.ga K "is_integer"))
  d_is_value : ∃ fd, FunD K "is_value" "is_value" (defArgs s_is_value) (defBody s_is_value) (defScope s_is_value) [] [] (He.ga K "is_value") fd
  g_is_value : mg "is_value" = some (.ref (He.ga K "is_value"))
  d_value_of : ∃ fd, FunD K "value_of" "value_of" (defArgs s_value_of) (defBody s_value_of) (defScope s_value_of) [] [] (He.ga K "value_of") fd
  g_value_of : mg "value_of" = some (.ref (He.ga K "value_of"))
  d_are_marks : ∃ fd, FunD K "are_marks" "are_marks" (defArgs s_are_marks) (defBody s_are_marks) (defScope s_are_marks) [] [] (He.ga K "are_marks") fd
  g_are_marks : mg "are_marks" = some (.ref (He.ga K "are_marks"))
  d_text_of : ∃ fd, FunD K "text_of" "text_of" (defArgs s_text_of) (defBody s_text_of) (defScope s_text_of) [] [] (He.ga K "text_of") fd
  g_text_of : mg "text_of" = some (.ref (He.ga K "text_of"))
  d_text_of_bend : ∃ fd, FunD K "text_of_bend" "text_of_bend" (defArgs s_text_of_bend) (defBody s_text_of_bend) (defScope s_text_of_bend) [] [] (He.ga K "text_of_bend") fd
  g_text_of_bend : mg "text_of_bend" = some (.ref (He.ga K "text_of_bend"))
  d_Bend_init : ∃ fd, FunD K "__init__" "Bend.__init__" (defArgs s_Bend_init) (defBody s_Bend_init) (defScope s_Bend_init) [] [] (He.ma K (He.ga K "Bend") "__init__") fd
  d_Bend___str__ : ∃ fd, FunD K "__str__" "Bend.__str__" (defArgs s_Bend___str__) (defBody s_Bend___str__) (defScope s_Bend___str__) [] [] (He.ma K (He.ga K "Bend") "__str__") fd
  d_InvalidText_init : ∃ fd, FunD K "__init__" "InvalidText.__init__" (defArgs s_InvalidText_init) (defBody s_InvalidText_init) (defScope s_InvalidText_init) [] [] (He.ma K (He.ga K "InvalidText") "__init__") fd
  d_number_in : ∃ fd, FunD K "number_in" "number_in" (defArgs s_number_in) (defBody s_number_in) (defScope s_number_in) [] [] (He.ga K "number_in") fd
  g_number_in : mg "number_in" = some (.ref (He.ga K "number_in"))
  d_value_in : ∃ fd, FunD K "value_in" "value_in" (defArgs s_value_in) (defBody s_value_in) (defScope s_value_in) [] [] (He.ga K "value_in") fd
  g_value_in : mg "value_in" = some (.ref (He.ga K "value_in"))
  d_values_in : ∃ fd, FunD K "values_in" "values_in" (defArgs s_values_in) (defBody s_values_in) (defScope s_values_in) [] [] (He.ga K "values_in") fd
  g_values_in : mg "values_in" = some (.ref (He.ga K "values_in"))
  d_rows_in : ∃ fd, FunD K "rows_in" "rows_in" (defArgs s_rows_in) (defBody s_rows_in) (defScope s_rows_in) [] [] (He.ga K "rows_in") fd
  g_rows_in : mg "rows_in" = some (.ref (He.ga K "rows_in"))
  d_law_heard_v10 : ∃ fd, FunD K "_law_heard" "_law_heard" (defArgs s_law_heard_v10) (defBody s_law_heard_v10) (defScope s_law_heard_v10) [] [] (He.ga K "_law_heard") fd
  g_law_heard_v10 : mg "_law_heard" = some (.ref (He.ga K "_law_heard"))
  d_law_told_value : ∃ fd, FunD K "_law_told_value" "_law_told_value" (defArgs s_law_told_value) (defBody s_law_told_value) (defScope s_law_told_value) [] [] (He.ga K "_law_told_value") fd
  g_law_told_value : mg "_law_told_value" = some (.ref (He.ga K "_law_told_value"))
  d_law_text : ∃ fd, FunD K "_law_text" "_law_text" (defArgs s_law_text) (defBody s_law_text) (defScope s_law_text) [] [] (He.ga K "_law_text") fd
  g_law_text : mg "_law_text" = some (.ref (He.ga K "_law_text"))
  d_law_value : ∃ fd, FunD K "_law_value" "_law_value" (defArgs s_law_value) (defBody s_law_value) (defScope s_law_value) [] [] (He.ga K "_law_value") fd
  g_law_value : mg "_law_value" = some (.ref (He.ga K "_law_value"))
  d_law : ∃ fd, FunD K "law" "law" (defArgs s_law) (defBody s_law) (defScope s_law) [] [] (He.ga K "law") fd
  g_law : mg "law" = some (.ref (He.ga K "law"))
end HB
namespace HB
open PySem L2
theorem ob_eq (s : PySem.W.SharedT) : ob s = hk.obs s.abs := obsG_eq (HandSHeadRun.getT_eq s)
theorem say {K : PySem.W.Frag} {h : Heap} {mg : Str → Option Value} (X : K.In h) (G : h.Ns mainGlobals mg) (c : He.SaysD fa fn K) (t : (tp.all fun p => tupN K p.1 p.2) = true) (q : (xs.all fun p => p K) = true) (cm : He5.SaysA [] fm K) : Say K mg where
  m_abs := He.free_ok X G (c.fact 0 (f := .free "abs") rfl)
  m_all := He.free_ok X G (c.fact 1 (f := .free "all") rfl)
  m_any := He.free_ok X G (c.fact 2 (f := .free "any") rfl)
  m_bool := He.free_ok X G (c.fact 3 (f := .free "bool") rfl)
  m_int := He.free_ok X G (c.fact 4 (f := .free "int") rfl)
  m_isinstance := He.free_ok X G (c.fact 5 (f := .free "isinstance") rfl)
  m_len := He.free_ok X G (c.fact 6 (f := .free "len") rfl)
  m_list := He.free_ok X G (c.fact 7 (f := .free "list") rfl)
  m_max := He.free_ok X G (c.fact 8 (f := .free "max") rfl)
  m_min := He.free_ok X G (c.fact 9 (f := .free "min") rfl)
  m_range := He.free_ok X G (c.fact 10 (f := .free "range") rfl)
  m_repr := He.free_ok X G (c.fact 11 (f := .free "repr") rfl)
  m_str := He.free_ok X G (c.fact 12 (f := .free "str") rfl)
  m_tuple := He.free_ok X G (c.fact 13 (f := .free "tuple") rfl)
  m_zip := He.free_ok X G (c.fact 14 (f := .free "zip") rfl)
  c_DIGITS := gl_str X G (c.fact 15 (f := .str "DIGITS" "0123456789") rfl)
  c_MOST_DIGITS := gl_int X G (c.fact 16 (f := .int "MOST_DIGITS" 9) rfl)
  c_PAIR := gl_int X G (c.fact 17 (f := .int "PAIR" 2) rfl)
  cl_Bend := He.cls_ok (c.fact 18 (f := .cls "Bend") rfl)
  mk_Bend := He.mkr_ok (c.fact 19 (f := .mkr "Bend") rfl)
  gc_Bend := He.glo_ok X G (c.fact 20 (f := .glo "Bend") rfl)
  me_Bend___str__ := He.meth_ok (c.fact 21 (f := .meth "Bend" "__str__") rfl)
  gc_BendError := He.glo_ok X G (c.fact 22 (f := .glo "BendError") rfl)
  gc_InvalidBend := He.glo_ok X G (c.fact 23 (f := .glo "InvalidBend") rfl)
  gc_InvalidText := He.glo_ok X G (c.fact 24 (f := .glo "InvalidText") rfl)
  xf_InvalidBend := excB_ok (xs_ok q 0 rfl)
  xf_InvalidText := excB_ok (xs_ok q 1 rfl)
  bot_BendError := botB_ok (xs_ok q 2 rfl)
  exn_InvalidBend_InvalidText := He.exm_ok (c.fact 25 (f := .exm "InvalidBend" "InvalidText" false) rfl)
  isx_InvalidBend := isxB_ok (xs_ok q 3 rfl)
  exm_InvalidBend := He.exm_ok (c.fact 26 (f := .exm "InvalidBend" "InvalidBend" true) rfl)
  isx_InvalidText := isxB_ok (xs_ok q 4 rfl)
  exm_InvalidText := He.exm_ok (c.fact 27 (f := .exm "InvalidText" "InvalidText" true) rfl)
  cr_Bend := crB_ok (xs_ok q 5 rfl)
  cm_Bend_read := cmB_ok (xs_ok q 6 rfl)
  d_Bend_read := cm.def_ 0 rfl
  na_Bend_degree := He.noat_ok (c.fact 28 (f := .noat "Bend" "degree") rfl)
  na_Bend_handles := He.noat_ok (c.fact 29 (f := .noat "Bend" "handles") rfl)
  na_Bend_marks := He.noat_ok (c.fact 30 (f := .noat "Bend" "marks") rfl)
  na_Bend_text := He.noat_ok (c.fact 31 (f := .noat "Bend" "text") rfl)
  d_law_box := c.def_ 0 rfl
  g_law_box := He.glo_ok X G (c.fact 32 (f := .glo "_law_box") rfl)
  d_law_fr := c.def_ 1 rfl
  g_law_fr := He.glo_ok X G (c.fact 33 (f := .glo "_law_fr") rfl)
  d_law_add := c.def_ 2 rfl
  g_law_add := He.glo_ok X G (c.fact 34 (f := .glo "_law_add") rfl)
  d_law_take := c.def_ 3 rfl
  g_law_take := He.glo_ok X G (c.fact 35 (f := .glo "_law_take") rfl)
  d_law_pick := c.def_ 4 rfl
  g_law_pick := He.glo_ok X G (c.fact 36 (f := .glo "_law_pick") rfl)
  d_law_marks := c.def_ 5 rfl
  g_law_marks := He.glo_ok X G (c.fact 37 (f := .glo "_law_marks") rfl)
  d_law_small := c.def_ 6 rfl
  g_law_small := He.glo_ok X G (c.fact 38 (f := .glo "_law_small") rfl)
  d_law_drawn := c.def_ 7 rfl
  g_law_drawn := He.glo_ok X G (c.fact 39 (f := .glo "_law_drawn") rfl)
  d_law_below := c.def_ 8 rfl
  g_law_below := He.glo_ok X G (c.fact 40 (f := .glo "_law_below") rfl)
  d_law_number_v1 := c.def_ 9 rfl
  g_law_number_v1 := He.glo_ok X G (c.fact 41 (f := .glo "_law_number") rfl)
  d_law_read_value := c.def_ 10 rfl
  g_law_read_value := He.glo_ok X G (c.fact 42 (f := .glo "_law_read_value") rfl)
  d_law_due := c.def_ 11 rfl
  g_law_due := He.glo_ok X G (c.fact 43 (f := .glo "_law_due") rfl)
  d_InvalidBend_init := c.def_ 12 rfl
  d_is_less := c.def_ 13 rfl
  g_is_less := He.glo_ok X G (c.fact 44 (f := .glo "is_less") rfl)
  d_is_sequence := c.def_ 14 rfl
  g_is_sequence := He.glo_ok X G (c.fact 45 (f := .glo "is_sequence") rfl)
  d_common_part := c.def_ 15 rfl
  g_common_part := He.glo_ok X G (c.fact 46 (f := .glo "common_part") rfl)
  d_is_integer := c.def_ 16 rfl
  g_is_integer := He.glo_ok X G (c.fact 47 (f := .glo "is_integer") rfl)
  d_is_value := c.def_ 17 rfl
  g_is_value := He.glo_ok X G (c.fact 48 (f := .glo "is_value") rfl)
  d_value_of := c.def_ 18 rfl
  g_value_of := He.glo_ok X G (c.fact 49 (f := .glo "value_of") rfl)
  d_are_marks := c.def_ 19 rfl
  g_are_marks := He.glo_ok X G (c.fact 50 (f := .glo "are_marks") rfl)
  d_text_of := c.def_ 20 rfl
  g_text_of := He.glo_ok X G (c.fact 51 (f := .glo "text_of") rfl)
  d_text_of_bend := c.def_ 21 rfl
  g_text_of_bend := He.glo_ok X G (c.fact 52 (f := .glo "text_of_bend") rfl)
  d_Bend_init := c.def_ 22 rfl
  d_Bend___str__ := c.def_ 23 rfl
  d_InvalidText_init := c.def_ 24 rfl
  d_number_in := c.def_ 25 rfl
  g_number_in := He.glo_ok X G (c.fact 53 (f := .glo "number_in") rfl)
  d_value_in := c.def_ 26 rfl
  g_value_in := He.glo_ok X G (c.fact 54 (f := .glo "value_in") rfl)
  d_values_in := c.def_ 27 rfl
  g_values_in := He.glo_ok X G (c.fact 55 (f := .glo "values_in") rfl)
  d_rows_in := c.def_ 28 rfl
  g_rows_in := He.glo_ok X G (c.fact 56 (f := .glo "rows_in") rfl)
  d_law_heard_v10 := c.def_ 29 rfl
  g_law_heard_v10 := He.glo_ok X G (c.fact 57 (f := .glo "_law_heard") rfl)
  d_law_told_value := c.def_ 30 rfl
  g_law_told_value := He.glo_ok X G (c.fact 58 (f := .glo "_law_told_value") rfl)
  d_law_text := c.def_ 31 rfl
  g_law_text := He.glo_ok X G (c.fact 59 (f := .glo "_law_text") rfl)
  d_law_value := c.def_ 32 rfl
  g_law_value := He.glo_ok X G (c.fact 60 (f := .glo "_law_value") rfl)
  d_law := c.def_ 33 rfl
  g_law := He.glo_ok X G (c.fact 61 (f := .glo "law") rfl)
end HB
namespace HB
open PySem L2
def g_law_1 : Mo Fl := sSet 5 (mIf (mTest (mOp neD (mVar 5) (mList (mSized (mNil))))) (mVar 5) (mList (mSized (mCons (mRet (.str "bend")) (mNil)))))
def g_law_2 : Mo Fl := sSeq (sSet 5 (mOp addD (mOp addD (mSlice (mVar 5) (mNoPart) (mPart (mVar 9))) (mIf (mTest (mOp (cmpD gtI) (mVar 10) (mRet (.int 0)))) (mList (mSized (mCons (mVar 8) (mNil)))) (mList (mSized (mNil))))) (mSlice (mVar 5) (mPart (mOp addD (mVar 9) (mBuilt intD (mCons (mOp (cmpD ltI) (mVar 10) (mRet (.int 2))) (mNil))))) (mNoPart))))
  (g_law_1)
def g_law_3 : Mo Fl := sSeq (sSet 8 (mCallX F_law_pick 2 (mCons (mOp addD (mVar 8) (mList (mSized (mCons (mRet (.str "1234567890")) (mCons (mRet (.str "--1")) (mCons (mRet (.str "1/2/3")) (mNil))))))) (mNil))))
  (g_law_2)
def g_law_4 : Mo Fl := sSeq (sSet 8 (mOp addD (mVar 8) (mList (mSized (mCons (mRet (.str "2")) (mCons (mRet (.str "-0")) (mCons (mRet (.str "01")) (mCons (mRet (.str "2/4")) (mCons (mRet (.str "3/1")) (mCons (mRet (.str "1/0")) (mCons (mRet (.str "-1/2")) (mCons (mRet (.str "5")) (mCons (mRet (.str "marks")) (mCons (mRet (.str "handles")) (mCons (mRet (.str "+1")) (mCons (mRet (.str "x")) (mNil)))))))))))))))))
  (g_law_3)
def g_law_5 : Mo Fl := sSeq (sSet 8 (mList (mSized (mCons (mRet (.str "0/5")) (mCons (mRet (.str "")) (mCons (mRet (.str "0")) (mCons (mRet (.str "1")) (mNil))))))))
  (g_law_4)
def g_law_6 : Mo Fl := sSeq (sPar2 9 10 (xConsP (mCallX F_law_take 2 (mCons (mBuilt lenD (mCons (mVar 5) (mNil))) (mNil))) (xConsP (mCallX F_law_take 2 (mCons (mRet (.int 3)) (mNil))) (xNil))))
  (g_law_5)
def g_law_7 : Mo Fl := sIf (mTest (mOp neD (mCall F_law_heard_v10 (mCons (mM1 joinD (mRet (.str " ")) (mVar 5)) (mNil))) (mVar 7))) (sRet (mRet (.bool false))) (sNext)
def g_law_8 : Mo Fl := sSeq (sSet 7 (mIf (mTest (mIsi isStrT (mVar 7))) (mVar 7) (mCall F_law_text (mCons (mVar 7) (mNil)))))
  (g_law_7)
def g_law_9 : Mo Fl := sSeq (sSet 7 (mCall F_law_due (mCons (mM1 joinD (mRet (.str " ")) (mVar 5)) (mNil))))
  (g_law_8)
def g_law_10 : Mo Fl := sSeq (sFor (mRange range1D (mCons (mOp addD (mRet (.int 1)) (mCallX F_law_take 2 (mCons (mRet (.int 2)) (mNil)))) (mNil))) (gSet 6) (g_law_6))
  (g_law_9)
def g_law_11 : Mo Fl := sSeq (sSet 5 (mM1 splitD (mCall F_law_text (mCons (mCallX F_law_drawn 2 (mCons (mRet (.int 3)) (mCons (mRet (.int 3)) (mNil)))) (mNil))) (mRet (.str " "))))
  (g_law_10)
def g_law_12 : Mo Fl := sIf (mAnd (mNot (mTest (mIsi isStrT (mVar 4)))) (mTest (mOp neD (mCall F_law_heard_v10 (mCons (mVar 4) (mNil))) (mRet (.str "text"))))) (sRet (mRet (.bool false))) (sNext)
def g_law_13 : Mo Fl := sSeq (sFor (mRange range1D (mCons (mRet (.int 12)) (mNil))) (gSet 3) (g_law_11))
  (sSeq (sSet 4 (mCallX F_law_value 2 (mNil)))
  (g_law_12))
def g_law_14 : Mo Fl := sSeq (sOwn 2 (mCallN F_law_box (mCons (mVar 0) (mCons (mVar 1) (mCons (mRet (.int 5)) (mNil))))))
  (g_law_13)
def g_law_15 : Mo Fl := sRet (mAndV (mOp eqD (mCall F_law_heard_v10 (mCons (mRet (.str "")) (mNil))) (mRet (.str "text"))) (mOp eqD (mCall F_law_heard_v10 (mCons (mRet (.str "bend 0 marks 0 1 handles 1\n")) (mNil))) (mRet (.str "text"))))
def g_law : Mo Fl := sSeq (sFor (mRange range1D (mCons (mBuilt maxD (mCons (mRet (.int 1)) (mCons (mBuilt minD (mCons (mRet (.int 3)) (mCons (mBuilt lenD (mCons (mVar 0) (mNil))) (mNil)))) (mNil)))) (mNil))) (gSet 1) (g_law_14))
  (g_law_15)
def F_law : Fn := guard 1 (runF 11 g_law)
end HB
namespace HB
open PySem L2
def enc (q : Rat) : D := .tuple [.int q.num, .int q.den]
/-- top and bottom below 2 ^ B -/
def Ht (B : Nat) (q : Rat) : Prop := q.num.natAbs < 2 ^ B ∧ q.den < 2 ^ B
theorem Ht.mono {A B : Nat} {q : Rat} (h : Ht A q) (e : A ≤ B) : Ht B q := ⟨Nat.lt_of_lt_of_le h.1 (Nat.pow_le_pow_right (by decide) e), Nat.lt_of_lt_of_le h.2 (Nat.pow_le_pow_right (by decide) e)⟩
theorem Ht.pos {B : Nat} {q : Rat} (h : Ht B q) : 0 < B := by
  cases B with
  | zero => have := h.2; have := q.den_pos; omega
  | succ n => exact Nat.succ_pos n
theorem log_lt {n B : Nat} (h : n < 2 ^ B) (hB : 0 < B) : n.log2 < B := by
  by_cases e : n = 0
  · subst e
    exact hB
  · exact (Nat.log2_lt e).mpr h
theorem fit_by {i j : Int} {A B : Nat} (hi : i.natAbs < 2 ^ A) (hj : j.natAbs < 2 ^ B) (pA : 0 < A) (pB : 0 < B) (h : A + B ≤ 1000000) : mulFit i j = true := by
  have h1 := log_lt hi pA
  have h2 := log_lt hj pB
  unfold mulFit
  exact Nat.ble_eq_true_of_le (by omega)
theorem lowD_enc (t b : Int) (hb : b ≠ 0) (hs : b.natAbs < 2 ^ 9000) : lowD t b = some (.ok (enc (Rat.divInt t b))) := by
  have gp : 0 < Nat.gcd t.natAbs b.natAbs := Nat.gcd_pos_of_pos_right _ (by omega)
  have gl : (Nat.gcd t.natAbs b.natAbs).log2 < 9000 := log_lt (Nat.lt_of_le_of_lt (Nat.gcd_le_right _ (by omega)) hs) (by decide)
  have ok : (Nat.blt 0 (Nat.gcd t.natAbs b.natAbs) && Nat.blt (Nat.gcd t.natAbs b.natAbs).log2 9000) = true := by
    rw [show Nat.blt 0 (Nat.gcd t.natAbs b.natAbs) = true from Nat.ble_eq_true_of_le gp, show Nat.blt (Nat.gcd t.natAbs b.natAbs).log2 9000 = true from Nat.ble_eq_true_of_le gl]
    rfl
  have gg : b.gcd t = Nat.gcd t.natAbs b.natAbs := Nat.gcd_comm _ _
  unfold lowD enc
  rw [ok, Rat.num_divInt, Rat.den_divInt, if_neg hb, gg]
  by_cases pos : 0 < b
  · have e1 : gtI b 0 = true := decide_eq_true pos
    have e2 : ((b.natAbs / Nat.gcd t.natAbs b.natAbs : Nat) : Int) = b / (Nat.gcd t.natAbs b.natAbs : Nat) := by
      rw [Int.natCast_ediv, Int.natAbs_of_nonneg (by omega)]
    simp only [e1, e2, Int.sign_eq_one_of_pos pos, Int.one_mul]
  · have neg : b < 0 := by omega
    have e1 : gtI b 0 = false := decide_eq_false pos
    have e2 : ((b.natAbs / Nat.gcd t.natAbs b.natAbs : Nat) : Int) = -b / (Nat.gcd t.natAbs b.natAbs : Nat) := by
      rw [Int.natCast_ediv, show (b.natAbs : Int) = -b by omega]
    simp only [e1, e2, Int.sign_eq_neg_one_of_neg neg, Int.neg_mul, Int.one_mul]
theorem den_abs (q : Rat) : ((q.den : Int)).natAbs = q.den := Int.natAbs_natCast _
theorem prod_lt {m n A B : Nat} (h1 : m < 2 ^ A) (h2 : n < 2 ^ B) : m * n < 2 ^ (A + B) := by
  rw [Nat.pow_add]
  exact Nat.mul_lt_mul'' h1 h2
section
variable {a b : Rat} {A B : Nat}
theorem is_less_enc (ha : Ht A a) (hb : Ht B b) (h : A + B ≤ 9000) : M_is_less [enc a, enc b] = some (.ok (.bool (decide (a < b)))) := by
  have f1 : mulFit a.num b.den = true := fit_by ha.1 (by simpa using hb.2) ha.pos hb.pos (by omega)
  have f2 : mulFit b.num a.den = true := fit_by hb.1 (by simpa using ha.2) hb.pos ha.pos (by omega)
  show (match mulFit a.num b.den && mulFit b.num a.den with
    | true => some (.ok (.bool (ltI (a.num * b.den) (b.num * a.den))))
    | false => none : Option (Except Exn D)) = _
  rw [f1, f2]
  simp only [ltI, Rat.lt_iff, Bool.and_self]
end
theorem ht_divInt {t b : Int} {C : Nat} (hb : b ≠ 0) (h1 : t.natAbs < 2 ^ C) (h2 : b.natAbs < 2 ^ C) : Ht C (Rat.divInt t b) := by
  refine ⟨?_, ?_⟩
  · rw [Rat.num_divInt]
    refine Nat.lt_of_le_of_lt (Int.natAbs_ediv_le_natAbs _ _) ?_
    rw [Int.natAbs_mul, Int.natAbs_sign_of_ne_zero hb, Nat.one_mul]
    exact h1
  · rw [Rat.den_divInt, if_neg hb]
    exact Nat.lt_of_le_of_lt (Nat.div_le_self _ _) h2
section
variable {a b : Rat} {A B : Nat}
theorem den_ne (q : Rat) : (q.den : Int) ≠ 0 := by have := q.den_pos; omega
theorem add_divInt (a b : Rat) : a + b = Rat.divInt (a.num * b.den + b.num * a.den) (a.den * b.den) := by
  rw [← Rat.divInt_add_divInt _ _ (den_ne a) (den_ne b), Rat.num_divInt_den, Rat.num_divInt_den]
theorem dens_lt (ha : Ht A a) (hb : Ht B b) : ((a.den : Int) * b.den).natAbs < 2 ^ (A + B) := by
  rw [Int.natAbs_mul, den_abs, den_abs]
  exact prod_lt ha.2 hb.2
theorem Ht.add (ha : Ht A a) (hb : Ht B b) : Ht (A + B + 1) (a + b) := by
  rw [add_divInt]
  have e : 2 ^ (A + B + 1) = 2 ^ (A + B) + 2 ^ (A + B) := by rw [Nat.pow_succ]; omega
  have x : (a.num * b.den).natAbs < 2 ^ (A + B) := by rw [Int.natAbs_mul, den_abs]; exact prod_lt ha.1 hb.2
  have y : (b.num * a.den).natAbs < 2 ^ (A + B) := by rw [Int.natAbs_mul, den_abs, Nat.add_comm]; exact prod_lt hb.1 ha.2
  refine ht_divInt (Int.mul_ne_zero (den_ne a) (den_ne b)) ?_ (Nat.lt_of_lt_of_le (dens_lt ha hb) (by omega))
  have := Int.natAbs_add_le (a.num * b.den) (b.num * a.den)
  omega
theorem Ht.neg (ha : Ht A a) : Ht A (-a) := ⟨by rw [Rat.neg_num, Int.natAbs_neg]; exact ha.1, by rw [Rat.neg_den]; exact ha.2⟩
theorem Ht.sub (ha : Ht A a) (hb : Ht B b) : Ht (A + B + 1) (a - b) := by
  rw [Rat.sub_eq_add_neg]
  exact ha.add hb.neg
theorem rat_eq (a b : Rat) : a = b ↔ a.num = b.num ∧ a.den = b.den := ⟨fun e => e ▸ ⟨rfl, rfl⟩, fun ⟨e1, e2⟩ => Rat.ext e1 e2⟩
theorem eq_enc (a b : Rat) : eqD (enc a) (enc b) = some (.bool (decide (a = b))) := by
  have s : ∀ q : Rat, SeqAt.shaped (enc q) = true := fun q => by simp [enc, SeqAt.shaped, PyData.canLay0, PyData.canLayAll0, PyData.depth, PyData.depthAll]
  have e : eqD (enc a) (enc b) = if SeqAt.shaped (enc a) = true ∧ SeqAt.shaped (enc b) = true then some (.bool (PyData.eqv (enc a) (enc b))) else none := rfl
  rw [e, if_pos ⟨s a, s b⟩]
  have v : PyData.eqv (enc a) (enc b) = decide (a = b) := by
    simp only [enc, PyData.eqv, PyData.eqvAll, rat_eq, Bool.and_true, Bool.decide_and]
    rw [Bool.eq_iff_iff]
    simp only [Bool.and_eq_true, beq_iff_eq, decide_eq_true_eq, Int.natCast_inj]
  rw [v]
end
end HB
namespace HB
open PySem L2
/-- q = n / N with n of size at most M -/
def Bd (N M : Nat) (q : Rat) : Prop := 0 < N ∧ ∃ n : Int, q = Rat.divInt n N ∧ n.natAbs ≤ M
section
variable {a b q : Rat} {N M N1 M1 N2 M2 B k : Nat}
theorem Bd.ne (h : Bd N M q) : (N : Int) ≠ 0 := by have := h.1; omega
theorem Bd.mono (h : Bd N M1 q) (e : M1 ≤ M2) : Bd N M2 q := let ⟨p, n, e1, e2⟩ := h; ⟨p, n, e1, Nat.le_trans e2 e⟩
theorem Bd.ht (h : Bd N M q) (hN : N < 2 ^ B) (hM : M < 2 ^ B) : Ht B q := by
  obtain ⟨_, n, rfl, e⟩ := id h
  exact ht_divInt h.ne (Nat.lt_of_le_of_lt e hM) (by rw [Int.natAbs_natCast]; exact hN)
theorem Bd.add (ha : Bd N M1 a) (hb : Bd N M2 b) : Bd N (M1 + M2) (a + b) := by
  obtain ⟨p, n, rfl, e1⟩ := id ha
  obtain ⟨_, m, rfl, e2⟩ := hb
  refine ⟨p, n + m, ?_, Nat.le_trans (Int.natAbs_add_le _ _) (Nat.add_le_add e1 e2)⟩
  rw [Rat.divInt_add_divInt _ _ ha.ne ha.ne, ← Int.add_mul, Rat.divInt_mul_right ha.ne]
theorem Bd.neg (ha : Bd N M a) : Bd N M (-a) := by
  obtain ⟨p, n, rfl, e⟩ := ha
  exact ⟨p, -n, by rw [Rat.neg_divInt], by rw [Int.natAbs_neg]; exact e⟩
theorem Bd.sub (ha : Bd N M1 a) (hb : Bd N M2 b) : Bd N (M1 + M2) (a - b) := by
  rw [Rat.sub_eq_add_neg]
  exact ha.add hb.neg
end
end HB
namespace HB
open PySem L2
theorem set_set (ρ : En) (v : Nat) (a b : Sl) : (ρ.set v a).set v b = ρ.set v b := List.set_set _
theorem rest1 (ρ : En) (v : Nat) : restE ρ (ρ.set v .no) [v] = ρ := by
  show (ρ.set v .no).set v (ρ.getD v .no) = ρ
  rw [set_set]
  apply List.ext_getElem?
  intro i
  by_cases e : v = i
  · subst e
    by_cases h : v < ρ.length
    · rw [List.getElem?_set_self h, List.getD_eq_getElem?_getD, List.getElem?_eq_getElem h]
      rfl
    · rw [List.getElem?_eq_none (by rw [List.length_set]; omega), List.getElem?_eq_none (by omega)]
  · rw [List.getElem?_set_ne e]
section
variable {α : Type}
theorem lc_sel {v : Nat} {test : Mo Bool} {elt : Mo D} {ρ : En} (c : α → D) (P : α → Bool) (F : α → D) : ∀ (L : List α), (∀ a ∈ L, test (ρ.set v (.pur (c a))) = some (.ok (ρ.set v (.pur (c a)), P a))) → (∀ a ∈ L, P a = true → elt (ρ.set v (.pur (c a))) = some (.ok (ρ.set v (.pur (c a)), F a))) →
    lcL [v] (gSet v) test elt (L.map c) (ρ.set v .no) = some (ρ.set v .no, (L.filter P).map F)
  | [], _, _ => rfl
  | a :: L, ht, he => by
    have ih := lc_sel c P F L (fun b hb => ht b (List.mem_cons_of_mem _ hb)) (fun b hb => he b (List.mem_cons_of_mem _ hb))
    have t1 := ht a List.mem_cons_self
    have w : wipeE (ρ.set v (.pur (c a))) [v] = ρ.set v .no := set_set _ _ _ _
    simp only [List.map_cons, lcL, gSet, set_set, t1]
    cases hP : P a with
    | false => rw [List.filter_cons_of_neg (by simp [hP])]; simp only [w, ih]
    | true =>
      rw [List.filter_cons_of_pos hP]
      simp only [he a List.mem_cons_self hP, w, ih, List.map_cons]
theorem blk_sel {v : Nat} {src : Mo Src} {test : Mo Bool} {elt : Mo D} {ρ : En} (L : List α) (c : α → D) (P : α → Bool) (F : α → D) (hs : src ρ = some (.ok (ρ, constS (L.map c)))) (hl : L.length < 1000000) (ho : noOwn ρ [v] = true)
    (ht : ∀ a ∈ L, test (ρ.set v (.pur (c a))) = some (.ok (ρ.set v (.pur (c a)), P a))) (he : ∀ a ∈ L, P a = true → elt (ρ.set v (.pur (c a))) = some (.ok (ρ.set v (.pur (c a)), F a))) :
    mBlk [v] src (lcBody [v] (gSet v) test elt) ρ = some (.ok (ρ, (L.filter P).map F)) := by
  have hb : Nat.blt (L.map c).length 1000000 = true := Nat.ble_eq_true_of_le (by rw [List.length_map]; exact hl)
  unfold mBlk mBind
  simp only [hs, ho, lcBody, constS, hb]
  rw [show wipeE ρ [v] = ρ.set v .no from rfl, lc_sel c P F L ht he]
  simp only [rest1]
theorem blk_map {v : Nat} {src : Mo Src} {elt : Mo D} {ρ : En} (L : List α) (c : α → D) (F : α → D) (hs : src ρ = some (.ok (ρ, constS (L.map c)))) (hl : L.length < 1000000) (ho : noOwn ρ [v] = true)
    (he : ∀ a ∈ L, elt (ρ.set v (.pur (c a))) = some (.ok (ρ.set v (.pur (c a)), F a))) :
    mBlk [v] src (lcBody [v] (gSet v) (mRet true) elt) ρ = some (.ok (ρ, L.map F)) := by
  have h := blk_sel (test := mRet true) L c (fun _ => true) F hs hl ho (fun a _ => rfl) fun a ha _ => he a ha
  rwa [List.filter_eq_self.mpr (fun _ _ => Eq.refl true)] at h
theorem for_pre {v : Nat} {body : Mo Fl} (c : α → D) (I : List α → En → Prop) : ∀ (L d : List α) (ρ : En), (∀ d1 a r ρ, d ++ L = d1 ++ a :: r → I d1 ρ → ∃ ρ' f, body (ρ.set v (.pur (c a))) = some (.ok (ρ', f)) ∧ (f = .nx ∨ f = .ct) ∧ I (d1 ++ [a]) ρ') → I d ρ →
    ∃ ρ', forL (gSet v) body (L.map c) ρ = some (.ok (ρ', .nx)) ∧ I (d ++ L) ρ'
  | [], d, ρ, _, h0 => ⟨ρ, rfl, by rwa [List.append_nil]⟩
  | a :: L, d, ρ, h, h0 => by
    obtain ⟨ρ1, f, e1, e2, e3⟩ := h d a L ρ rfl h0
    obtain ⟨ρ', e4, e5⟩ := for_pre c I L (d ++ [a]) ρ1 (fun d1 b r ρ2 e => h d1 b r ρ2 (by rw [← e]; simp)) e3
    refine ⟨ρ', ?_, by rwa [List.append_assoc] at e5⟩
    rcases e2 with rfl | rfl
    · simp only [List.map_cons, forL, gSet, e1]; exact e4
    · simp only [List.map_cons, forL, gSet, e1]; exact e4
theorem for_ok {v : Nat} {src : Mo Src} {body : Mo Fl} {ρ ρ0 : En} (L : List α) (c : α → D) (I : List α → En → Prop) (hs : src ρ0 = some (.ok (ρ, constS (L.map c)))) (h0 : I [] ρ)
    (h : ∀ d a r ρ, L = d ++ a :: r → I d ρ → ∃ ρ' f, body (ρ.set v (.pur (c a))) = some (.ok (ρ', f)) ∧ (f = .nx ∨ f = .ct) ∧ I (d ++ [a]) ρ') : ∃ ρ', sFor src (gSet v) body ρ0 = some (.ok (ρ', .nx)) ∧ I L ρ' := by
  obtain ⟨ρ', e1, e2⟩ := for_pre (v := v) (body := body) c I L [] ρ (fun d a r ρ e => h d a r ρ e) h0
  refine ⟨ρ', ?_, e2⟩
  unfold sFor mBind
  simp only [hs, constS]
  exact e1
end
def natD (i : Nat) : D := .int (i : Int)
theorem rangeD_map : ∀ (n lo : Nat), rangeD (lo : Int) n = (List.range' lo n).map natD
  | 0, _ => rfl
  | n + 1, lo => by
    rw [rangeD, show ((lo : Int) + 1) = ((lo + 1 : Nat) : Int) by omega, rangeD_map n (lo + 1), List.range'_succ]
    rfl
theorem rangeD0 (n : Nat) : rangeD 0 n = (List.range n).map natD := by
  rw [List.range_eq_range']
  exact rangeD_map n 0
theorem range1_of {z : Int} (n : Nat) (h : z = n) (hn : n ≤ 1000000) : range1D [.int z] = some (constS ((List.range n).map natD)) := by
  subst h
  show (if -1000000000 ≤ (n : Int) ∧ (n : Int) ≤ 1000000000 then some (constS (rangeD 0 (n : Int).toNat)) else none) = _
  rw [if_pos ⟨by omega, by omega⟩, Int.toNat_natCast, rangeD0]
theorem for_range {v : Nat} {src : Mo Src} {body : Mo Fl} {ρ ρ0 : En} (m n : Nat) (I : Nat → En → Prop) (hs : src ρ0 = some (.ok (ρ, constS ((List.range' m n).map natD)))) (h0 : I m ρ)
    (h : ∀ i ρ, m ≤ i → i < m + n → I i ρ → ∃ ρ' f, body (ρ.set v (.pur (natD i))) = some (.ok (ρ', f)) ∧ (f = .nx ∨ f = .ct) ∧ I (i + 1) ρ') : ∃ ρ', sFor src (gSet v) body ρ0 = some (.ok (ρ', .nx)) ∧ I (m + n) ρ' := by
  obtain ⟨ρ', e1, e2⟩ := for_ok (v := v) (body := body) (List.range' m n) natD (fun d ρ => I (m + d.length) ρ) hs h0 fun d a r ρ e hI => by
    have hl : d.length < n := by have := congrArg List.length e; simp at this; omega
    have ha : a = m + d.length := by
      have := congrArg (fun l => l[d.length]?) e
      simp [hl] at this
      omega
    obtain ⟨ρ', f, h1, h2, h3⟩ := h (m + d.length) ρ (by omega) (by omega) hI
    refine ⟨ρ', f, by rw [ha]; exact h1, h2, ?_⟩
    rw [List.length_append]; rw [List.length_singleton]
    exact h3
  exact ⟨ρ', e1, by rw [List.length_range'] at e2; exact e2⟩
theorem atI_nat {α : Type} {xs : List α} {z : Int} {i : Nat} (h : z = i) (hi : i < xs.length) : L2.atI xs z = some xs[i] := by
  subst h
  unfold L2.atI ixN
  rw [if_pos (by omega), if_pos (by omega), Int.toNat_natCast]
  simp [hi]
theorem atI_last {α : Type} {xs : List α} (h : xs ≠ []) : L2.atI xs (-1) = some (xs.getLast h) := by
  have hp := List.length_pos_iff.mpr h
  unfold L2.atI ixN
  rw [if_neg (by omega), if_pos (by omega), show (-1 + (xs.length : Int)).toNat = xs.length - 1 by omega]
  simp [List.getLast_eq_getElem, hp]
theorem ix_lst {xs : List D} {z : Int} {i : Nat} (h : z = i) (hi : i < xs.length) : ixD (.list xs) (.int z) = some xs[i] := atI_nat h hi
/-- the i-th of some fractions, nought beyond -/
def at0 (ks : List Rat) (i : Nat) : Rat := ks.getD i 0
theorem at0_lt {ks : List Rat} {i : Nat} (h : i < ks.length) : at0 ks i = ks[i] := by
  unfold at0
  rw [List.getD_eq_getElem?_getD, List.getElem?_eq_getElem h]
  rfl
def encL (ks : List Rat) : List D := ks.map enc
theorem len_encL (ks : List Rat) : (encL ks).length = ks.length := by unfold encL; exact List.length_map _
theorem ixL {ks : List Rat} {z : Int} {i : Nat} (h : z = i) (hi : i < ks.length) : ixD (.list (encL ks)) (.int z) = some (enc (at0 ks i)) := by
  unfold encL
  rw [ix_lst h (by simpa using hi), at0_lt hi]
  simp
theorem ixT_last {ks : List Rat} (h : 0 < ks.length) : ixD (.tuple (encL ks)) (.int (-1)) = some (enc (at0 ks (ks.length - 1))) := by
  have e := atI_last (xs := encL ks) (by intro z; have := congrArg List.length z; rw [len_encL, List.length_nil] at this; omega)
  rw [show ixD (.tuple (encL ks)) (.int (-1)) = L2.atI (encL ks) (-1) from rfl, e, at0_lt (by omega), List.getLast_eq_getElem]
  simp [encL]
theorem ixL_last {ks : List Rat} (h : 0 < ks.length) : ixD (.list (encL ks)) (.int (-1)) = some (enc (at0 ks (ks.length - 1))) := ixT_last h
theorem boolsD_map {α : Type} (p : α → Bool) : ∀ L : List α, boolsD (L.map fun a => .bool (p a)) = some (L.map p)
  | [] => rfl
  | a :: L => by
    simp only [List.map_cons, boolsD, boolsD_map p L]
    rfl
theorem all_map {α : Type} (p : α → Bool) (L : List α) : allD [.list (L.map fun a => .bool (p a))] = some (.bool (L.all p)) := by
  simp only [allD, boolsD_map p L, Option.map_some, List.all_map, Function.comp_def, id_eq]
theorem any_map {α : Type} (p : α → Bool) (L : List α) : anyD [.list (L.map fun a => .bool (p a))] = some (.bool (L.any p)) := by
  simp only [anyD, boolsD_map p L, Option.map_some, List.any_map, Function.comp_def, id_eq]
def bd {α β : Type} (o : Option (Except Exn (En × α))) (f : En → α → Option (Except Exn (En × β))) : Option (Except Exn (En × β)) := match o with
  | none => none
  | some (.error x) => some (.error x)
  | some (.ok (ρ, a)) => f ρ a
theorem bd_ok {α β : Type} (ρ : En) (a : α) (f : En → α → Option (Except Exn (En × β))) : bd (some (.ok (ρ, a))) f = f ρ a := id rfl
def lf {α : Type} (ρ : En) (o : Option α) : Option (Except Exn (En × α)) := match o with
  | none => none
  | some a => some (.ok (ρ, a))
theorem lf_some {α : Type} (ρ : En) (a : α) : lf ρ (some a) = some (.ok (ρ, a)) := id rfl
def cl {α : Type} (ρ : En) (o : Option (Except Exn α)) : Option (Except Exn (En × α)) := match o with
  | none => none
  | some (.error x) => some (.error x)
  | some (.ok a) => some (.ok (ρ, a))
theorem cl_ok {α : Type} (ρ : En) (a : α) : cl ρ (some (.ok a)) = some (.ok (ρ, a)) := id rfl
section
variable {ρ : En}
theorem a_ret {α : Type} (a : α) : mRet a ρ = some (.ok (ρ, a)) := id rfl
theorem a_op (f : D → D → Option D) (a b : Mo D) : mOp f a b ρ = bd (a ρ) fun ρ1 x => bd (b ρ1) fun ρ2 y => lf ρ2 (f x y) := id rfl
theorem a_un (f : D → Option D) (a : Mo D) : mUn f a ρ = bd (a ρ) fun ρ1 x => lf ρ1 (f x) := id rfl
theorem a_test (a : Mo D) : mTest a ρ = bd (a ρ) fun ρ1 x => lf ρ1 (boolD x) := id rfl
theorem a_and (a b : Mo Bool) : mAnd a b ρ = bd (a ρ) fun ρ1 c => bif c then b ρ1 else some (.ok (ρ1, false)) := by
  unfold mAnd mBind bd
  split <;> rename_i h <;> simp only [h]
  rename_i c; cases c <;> rfl
theorem a_or (a b : Mo Bool) : mOr a b ρ = bd (a ρ) fun ρ1 c => bif c then some (.ok (ρ1, true)) else b ρ1 := by
  unfold mOr mBind bd
  split <;> rename_i h <;> simp only [h]
  rename_i c; cases c <;> rfl
theorem a_not (a : Mo Bool) : mNot a ρ = bd (a ρ) fun ρ1 c => some (.ok (ρ1, !c)) := id rfl
theorem a_andV (a b : Mo D) : mAndV a b ρ = bd (mTest a ρ) fun ρ1 c => bif c then b ρ1 else some (.ok (ρ1, .bool false)) := by
  unfold mAndV mBind bd
  split <;> rename_i h <;> simp only [h]
  rename_i c; cases c <;> rfl
theorem a_orV (a b : Mo D) : mOrV a b ρ = bd (mTest a ρ) fun ρ1 c => bif c then some (.ok (ρ1, .bool true)) else b ρ1 := by
  unfold mOrV mBind bd
  split <;> rename_i h <;> simp only [h]
  rename_i c; cases c <;> rfl
theorem a_notV (a : Mo D) : mNotV a ρ = bd (mTest a ρ) fun ρ1 c => some (.ok (ρ1, .bool (!c))) := id rfl
theorem a_if (c : Mo Bool) (a b : Mo D) : mIf c a b ρ = bd (c ρ) fun ρ1 c => bif c then a ρ1 else b ρ1 := by
  unfold mIf mBind bd
  split <;> rename_i h <;> simp only [h]
  rename_i c; cases c <;> rfl
theorem a_sif (c : Mo Bool) (a b : Mo Fl) : sIf c a b ρ = bd (c ρ) fun ρ1 c => bif c then a ρ1 else b ρ1 := by
  unfold sIf mBind bd
  split <;> rename_i h <;> simp only [h]
  rename_i c; cases c <;> rfl
theorem a_nil : mNil ρ = some (.ok (ρ, [])) := id rfl
theorem a_cons (a : Mo D) (r : Mo (List D)) : mCons a r ρ = bd (a ρ) fun ρ1 x => bd (r ρ1) fun ρ2 xs => some (.ok (ρ2, x :: xs)) := id rfl
theorem a_star (a : Mo D) (r : Mo (List D)) : mStar a r ρ = bd (a ρ) fun ρ1 x => bd (lf ρ1 (itemsD x)) fun ρ1 ys => bd (r ρ1) fun ρ2 xs => some (.ok (ρ2, ys ++ xs)) := id rfl
theorem a_list (a : Mo (List D)) : mList a ρ = bd (a ρ) fun ρ1 x => some (.ok (ρ1, .list x)) := id rfl
theorem a_tup (a : Mo (List D)) : mTup a ρ = bd (a ρ) fun ρ1 ds => lf ρ1 (if sizeOk ds = true then some (.tuple ds) else none) := id rfl
theorem a_sized (a : Mo (List D)) : mSized a ρ = bd (a ρ) fun ρ1 ds => lf ρ1 (if sizeOk ds = true then some ds else none) := id rfl
theorem a_call (F : Fn) (a : Mo (List D)) : mCall F a ρ = bd (a ρ) fun ρ1 ds => cl ρ1 (F ds) := by
  unfold mCall mBind bd
  cases h : a ρ with
  | none => rfl
  | some r =>
    cases r with
    | error x => rfl
    | ok pr =>
      obtain ⟨ρ1, ds⟩ := pr
      simp only
      unfold cl
      cases F ds with
      | none => rfl
      | some q => cases q <;> rfl
theorem a_built (f : List D → Option D) (a : Mo (List D)) : mBuilt f a ρ = bd (a ρ) fun ρ1 ds => lf ρ1 (f ds) := id rfl
theorem a_seq (a b : Mo Fl) : sSeq a b ρ = bd (a ρ) fun ρ1 f => match f with
  | .nx => b ρ1
  | .rt d => some (.ok (ρ1, .rt d))
  | .bk => some (.ok (ρ1, .bk))
  | .ct => some (.ok (ρ1, .ct)) := by
  unfold sSeq mBind bd
  split <;> rename_i h <;> simp only [h]
  rename_i c; cases c <;> rfl
theorem a_set (i : Nat) (f : Mo D) : sSet i f ρ = bd (f ρ) fun ρ1 d => some (.ok (ρ1.set i (.pur d), .nx)) := id rfl
theorem a_own (i : Nat) (f : Mo (List D)) : sOwn i f ρ = bd (f ρ) fun ρ1 d => some (.ok (ρ1.set i (.own d), .nx)) := id rfl
theorem a_sret (f : Mo D) : sRet f ρ = bd (f ρ) fun ρ1 d => some (.ok (ρ1, .rt d)) := id rfl
theorem a_next : sNext ρ = some (.ok (ρ, .nx)) := id rfl
theorem a_isi (tb : D → Option Bool) (f : Mo D) : mIsi tb f ρ = bd (f ρ) fun ρ1 d => lf ρ1 ((tb d).map .bool) := id rfl
theorem a_slice (f : Mo D) (lo hi : Mo (Option Int)) : mSlice f lo hi ρ = bd (f ρ) fun ρ1 d => bd (lo ρ1) fun ρ2 l => bd (hi ρ2) fun ρ3 h => lf ρ3 (slD l h d) := id rfl
theorem a_part (f : Mo D) : mPart f ρ = bd (f ρ) fun ρ1 d => lf ρ1 ((intOf d).map some) := id rfl
theorem a_nopart : mNoPart ρ = some (.ok (ρ, none)) := id rfl
theorem a_range (f : List D → Option Src) (a : Mo (List D)) : mRange f a ρ = bd (a ρ) fun ρ1 ds => lf ρ1 (f ds) := id rfl
theorem a_seqS (f : Mo D) : mSeqS f ρ = bd (f ρ) fun ρ1 d => lf ρ1 ((itemsD d).map constS) := id rfl
theorem a_varP {i : Nat} : mVar i ρ = match ρ[i]? with
  | some (.pur d) => some (.ok (ρ, d))
  | some (.own ds) => some (.ok (ρ.set i (.pur (.list ds)), .list ds))
  | _ => none := id rfl
theorem a_par2 (i j : Nat) (f : Mo (List Tm)) : sPar2 i j f ρ = bd (f ρ) fun ρ1 ts => match ts with
  | [x, y] => some (.ok ((ρ1.set i (slOf x)).set j (slOf y), .nx))
  | _ => none := id rfl
theorem a_xp (a : Mo D) (r : Mo (List Tm)) : xConsP a r ρ = bd (a ρ) fun ρ1 d => bd (r ρ1) fun ρ2 ts => some (.ok (ρ2, .p d :: ts)) := id rfl
theorem a_xo (a : Mo (List D)) (r : Mo (List Tm)) : xConsO a r ρ = bd (a ρ) fun ρ1 d => bd (r ρ1) fun ρ2 ts => some (.ok (ρ2, .o d :: ts)) := id rfl
theorem a_xn : xNil ρ = some (.ok (ρ, [])) := id rfl
theorem a_asg (g : D → En → Option En) (f : Mo D) : sAsg g f ρ = bd (f ρ) fun ρ1 d => match g d ρ1 with
  | some ρ2 => some (.ok (ρ2, .nx))
  | none => none := id rfl
theorem a_make (c : Str) (F : FnI) (a : Mo (List D)) : mMake c F a ρ = bd (a ρ) fun ρ1 ds => match F ds with
  | none => none
  | some (.error x) => some (.error x)
  | some (.ok kvs) => some (.ok (ρ1, .dict ((.str c, .none) :: kvs))) := id rfl
theorem a_chg (i : Nat) (f : Mo (List D)) (c : List D → List D → Option (List D)) : sChg i f c ρ = match ρ[i]? with
  | some (.own _) => bd (f ρ) fun ρ1 as => (match ρ1[i]? with
    | some (.own ds) => match c ds as with
      | some es => some (.ok (ρ1.set i (.own es), .nx))
      | none => none
    | _ => none)
  | _ => none := id rfl
theorem a_ixO (i : Nat) (f : Mo D) : mIxO i f ρ = match ρ[i]? with
  | some (.own _) => bd (f ρ) fun ρ1 k => (match ρ1[i]? with
    | some (.own ds) => lf ρ1 (ixD (.list ds) k)
    | _ => none)
  | some (.pur d) => bd (f ρ) fun ρ1 k => lf ρ1 (ixD d k)
  | _ => none := id rfl
theorem a_lenO (i : Nat) : mLenO i ρ = match ρ[i]? with
  | some (.own ds) => some (.ok (ρ, .int ds.length))
  | some (.pur d) => lf ρ (lenD [d])
  | _ => none := id rfl
theorem a_cntO (i : Nat) (f : Mo D) : mCntO i f ρ = match ρ[i]? with
  | some (.own _) => bd (f ρ) fun ρ1 d => (match ρ1[i]? with
    | some (.own ds) => lf ρ1 (bothD d (.list ds) (.int (ds.countP fun z => PyData.eqv z d : Nat)))
    | _ => none)
  | _ => none := id rfl
theorem a_callX (F : FnX) (i : Nat) (f : Mo (List D)) : mCallX F i f ρ = match atL ρ i with
  | none => none
  | some _ => bd (f ρ) fun ρ1 as => (match atL ρ1 i with
    | none => none
    | some (s, ds) => match F ds as with
      | some (.ok (es, d)) => some (.ok (ρ1.set i (s.put es), d))
      | _ => none) := id rfl
theorem items_lst (ds : List D) : itemsD (.list ds) = some ds := id rfl
theorem items_tup (ds : List D) : itemsD (.tuple ds) = some ds := id rfl
end
theorem intOf_int (i : Int) : intOf (.int i) = some i := id rfl
/-- a def's end -/
def ans : Option (Except Exn (En × Fl)) → Option (Except Exn D)
  | none => none
  | some (.error x) => some (.error x)
  | some (.ok (_, .nx)) => some (.ok .none)
  | some (.ok (_, .rt d)) => some (.ok d)
  | some (.ok (_, _)) => none
theorem ans_rt (ρ : En) (d : D) : ans (some (.ok (ρ, .rt d))) = some (.ok d) := id rfl
theorem a_fn {n m : Nat} {g : Mo Fl} {ds : List D} (h : ds.length = n) : guard n (runF m g) ds = ans (g (ds.map Sl.pur ++ List.replicate (m - ds.length) .no)) := by
  unfold guard
  rw [show Nat.beq ds.length n = true by rw [h]; exact Nat.beq_refl n]
  rfl
end HB
namespace HB
open PySem L2
theorem fr_loop (x y z : Sl) : ∀ (m n k : Nat), m < k → whileL (mTest (mOp (cmpD gtI) (mVar 4) (mRet (.int 0)))) g_law_fr_1 k [x, y, z, .pur (.int n), .pur (.int m)] = some (.ok ([x, y, z, .pur (.int (Nat.gcd n m : Nat)), .pur (.int 0)], .nx)) := by
  refine fun m => Nat.strongRecOn m fun m ih => ?_
  · intro n k hk
    cases k with
    | zero => omega
    | succ k =>
      cases m with
      | zero => simp [bd_ok, lf_some, cl_ok, a_ret, a_op, a_un, a_test, a_and, a_or, a_not, a_andV, a_orV, a_notV, a_if, a_sif, a_nil, a_cons, a_star, a_list, a_tup, a_sized, a_call, a_built, a_seq, a_set, a_own, a_sret, a_next, a_isi, a_slice, a_part, a_nopart, a_range, a_seqS, a_varP, a_par2, a_xp, a_xo, a_xn, a_asg, a_make, a_chg, a_ixO, a_lenO, a_cntO, items_lst, items_tup, sizeOk, boolD, cmpD, slOf, intOf_int, len_encL, ans_rt, a_fn, List.replicate, whileL, gtI]
      | succ m =>
        have h1 : gtI ((m : Int) + 1) 0 = true := by unfold gtI; exact decide_eq_true (by omega)
        have h2 : (0 : Int) < ((m : Int) + 1) := by omega
        have e : whileL (mTest (mOp (cmpD gtI) (mVar 4) (mRet (.int 0)))) g_law_fr_1 (k + 1) [x, y, z, .pur (.int n), .pur (.int ((m + 1 : Nat) : Int))] =
            whileL (mTest (mOp (cmpD gtI) (mVar 4) (mRet (.int 0)))) g_law_fr_1 k [x, y, z, .pur (.int ((m + 1 : Nat) : Int)), .pur (.int ((n % (m + 1) : Nat) : Int))] := by
          conv => lhs; unfold whileL
          simp [bd_ok, lf_some, cl_ok, a_ret, a_op, a_un, a_test, a_and, a_or, a_not, a_andV, a_orV, a_notV, a_if, a_sif, a_nil, a_cons, a_star, a_list, a_tup, a_sized, a_call, a_built, a_seq, a_set, a_own, a_sret, a_next, a_isi, a_slice, a_part, a_nopart, a_range, a_seqS, a_varP, a_par2, a_xp, a_xo, a_xn, a_asg, a_make, a_chg, a_ixO, a_lenO, a_cntO, items_lst, items_tup, sizeOk, boolD, cmpD, slOf, intOf_int, len_encL, ans_rt, a_fn, List.replicate, g_law_fr_1, modD, h1, h2]
        rw [e, ih (n % (m + 1)) (Nat.mod_lt _ (Nat.succ_pos m)) (m + 1) k (Nat.lt_of_lt_of_le (Nat.mod_lt n (Nat.succ_pos m)) (by omega))]
        rw [Nat.gcd_comm (m + 1), ← Nat.gcd_rec (m + 1) n, Nat.gcd_comm]
theorem law_fr_low {t b : Int} (ht : t.natAbs < 2 ^ 900000) (hb : b ≠ 0) (hs : b.natAbs < 2 ^ 9000) : F_law_fr [.int t, .int b] = lowD t b := by
  have gp : 0 < Nat.gcd t.natAbs b.natAbs := Nat.gcd_pos_of_pos_right _ (by omega)
  have gl : (Nat.gcd t.natAbs b.natAbs).log2 < 9000 := log_lt (Nat.lt_of_le_of_lt (Nat.gcd_le_right _ (by omega)) hs) (by decide)
  have ok : (Nat.blt 0 (Nat.gcd t.natAbs b.natAbs) && Nat.blt (Nat.gcd t.natAbs b.natAbs).log2 9000) = true := by
    rw [show Nat.blt 0 (Nat.gcd t.natAbs b.natAbs) = true from Nat.ble_eq_true_of_le gp, show Nat.blt (Nat.gcd t.natAbs b.natAbs).log2 9000 = true from Nat.ble_eq_true_of_le gl]
    rfl
  have f1 : ∀ i : Int, fdivD (.int i) (.int (Nat.gcd t.natAbs b.natAbs : Nat)) = some (.int (i / (Nat.gcd t.natAbs b.natAbs : Nat))) := fun i => fdiv_nat gp gl
  have m1 : mulFit 1 t = true := fit_by (A := 1) (B := 900000) (by decide) ht (by decide) (by decide) (by decide)
  have m2 : mulFit (-1) t = true := fit_by (A := 1) (B := 900000) (by decide) ht (by decide) (by decide) (by decide)
  have m3 : mulFit 1 b = true := fit_by (A := 1) (B := 9000) (by decide) hs (by decide) (by decide) (by decide)
  have m4 : mulFit (-1) b = true := fit_by (A := 1) (B := 9000) (by decide) hs (by decide) (by decide) (by decide)
  have e1 : g_law_fr [.pur (.int t), .pur (.int b), .no, .no, .no] = g_law_fr_4 [.pur (.int t), .pur (.int b), .no, .pur (.int (t.natAbs : Int)), .pur (.int (b.natAbs : Int))] := by
    simp [bd_ok, lf_some, cl_ok, a_ret, a_op, a_un, a_test, a_and, a_or, a_not, a_andV, a_orV, a_notV, a_if, a_sif, a_nil, a_cons, a_star, a_list, a_tup, a_sized, a_call, a_built, a_seq, a_set, a_own, a_sret, a_next, a_isi, a_slice, a_part, a_nopart, a_range, a_seqS, a_varP, a_par2, a_xp, a_xo, a_xn, a_asg, a_make, a_chg, a_ixO, a_lenO, a_cntO, items_lst, items_tup, sizeOk, boolD, cmpD, slOf, intOf_int, len_encL, ans_rt, a_fn, List.replicate, g_law_fr, absD, intD, absI]
  have e2 : g_law_fr_4 [.pur (.int t), .pur (.int b), .no, .pur (.int (t.natAbs : Int)), .pur (.int (b.natAbs : Int))] = g_law_fr_3 [.pur (.int t), .pur (.int b), .no, .pur (.int (Nat.gcd t.natAbs b.natAbs : Nat)), .pur (.int 0)] := by
    unfold g_law_fr_4 sSeq mBind sWhile
    rw [show fuelInt 4 [Sl.pur (.int t), .pur (.int b), .no, .pur (.int (t.natAbs : Int)), .pur (.int (b.natAbs : Int))] = b.natAbs + 1 from rfl, fr_loop _ _ _ b.natAbs t.natAbs (b.natAbs + 1) (Nat.lt_succ_self _)]
  unfold lowD
  rw [ok]
  have e0 : F_law_fr [.int t, .int b] = ans (g_law_fr [.pur (.int t), .pur (.int b), .no, .no, .no]) := rfl
  rw [e0, e1, e2]
  cases hg : gtI b 0 with
  | true => simp [bd_ok, lf_some, cl_ok, a_ret, a_op, a_un, a_test, a_and, a_or, a_not, a_andV, a_orV, a_notV, a_if, a_sif, a_nil, a_cons, a_star, a_list, a_tup, a_sized, a_call, a_built, a_seq, a_set, a_own, a_sret, a_next, a_isi, a_slice, a_part, a_nopart, a_range, a_seqS, a_varP, a_par2, a_xp, a_xo, a_xn, a_asg, a_make, a_chg, a_ixO, a_lenO, a_cntO, items_lst, items_tup, sizeOk, boolD, cmpD, slOf, intOf_int, len_encL, ans_rt, a_fn, List.replicate, g_law_fr_3, g_law_fr_2, hg, mul_of m1, mul_of m3, intD, f1]
  | false => simp [bd_ok, lf_some, cl_ok, a_ret, a_op, a_un, a_test, a_and, a_or, a_not, a_andV, a_orV, a_notV, a_if, a_sif, a_nil, a_cons, a_star, a_list, a_tup, a_sized, a_call, a_built, a_seq, a_set, a_own, a_sret, a_next, a_isi, a_slice, a_part, a_nopart, a_range, a_seqS, a_varP, a_par2, a_xp, a_xo, a_xn, a_asg, a_make, a_chg, a_ixO, a_lenO, a_cntO, items_lst, items_tup, sizeOk, boolD, cmpD, slOf, intOf_int, len_encL, ans_rt, a_fn, List.replicate, g_law_fr_3, g_law_fr_2, hg, subD, mul_of m2, mul_of m4, intD, f1]
theorem law_fr_enc {t b : Int} (ht : t.natAbs < 2 ^ 900000) (hb : b ≠ 0) (hs : b.natAbs < 2 ^ 9000) : F_law_fr [.int t, .int b] = some (.ok (enc (Rat.divInt t b))) := (law_fr_low ht hb hs).trans (lowD_enc t b hb hs)
end HB
namespace HB
open PySem L2
theorem is_integer_int (i : Int) : F_is_integer [.int i] = some (.ok (.bool true)) := rfl
theorem value_of_enc (q : Rat) : F_value_of [enc q] = some (.ok (enc q)) := rfl
theorem is_value_enc (q : Rat) : F_is_value [enc q] = some (.ok (.bool true)) := by
  have h1 : gtI (q.den : Int) 0 = true := decide_eq_true (by have := q.den_pos; omega)
  have h2 : Nat.gcd q.num.natAbs q.den = 1 := q.reduced
  have c : neD (.int 2) C_PAIR = some (.bool false) := rfl
  have e0 : F_is_value [enc q] = ans (g_is_value_1 [.pur (enc q)]) := rfl
  rw [e0]
  simp [bd_ok, lf_some, cl_ok, a_ret, a_op, a_un, a_test, a_and, a_or, a_not, a_andV, a_orV, a_notV, a_if, a_sif, a_nil, a_cons, a_star, a_list, a_tup, a_sized, a_call, a_built, a_seq, a_set, a_own, a_sret, a_next, a_isi, a_slice, a_part, a_nopart, a_range, a_seqS, a_varP, a_par2, a_xp, a_xo, a_xn, a_asg, a_make, a_chg, a_ixO, a_lenO, a_cntO, items_lst, items_tup, sizeOk, boolD, cmpD, slOf, intOf_int, len_encL, ans_rt, a_fn, List.replicate, g_is_value_1, enc, ix0, ix1, h1, F_common_part, M_common_part, h2, eqD]
def knots (n : Nat) (ks : List Rat) : List Rat := List.replicate n (at0 ks 0) ++ (ks ++ List.replicate n (at0 ks (ks.length - 1)))
theorem knots_len (n : Nat) (ks : List Rat) : (knots n ks).length = 2 * n + ks.length := by simp [knots]; omega
end HB
namespace HB
open PySem L2
def full (k : Nat → Rat) (L : Nat) : List Nat := (List.range L).filter fun i => decide (k i < k (i + 1))
section
variable {ks : List Rat} {t : Rat} {S : Nat}
theorem at0_ht (hk : ∀ q ∈ ks, Ht S q) {i : Nat} (h : i < ks.length) : Ht S (at0 ks i) := by
  rw [at0_lt h]
  exact hk _ (List.getElem_mem h)
theorem nat_add1 (a : Nat) : addD (natD a) (.int 1) = some (natD (a + 1)) := by simp [addD, natD]
theorem ixLn {i : Nat} (hi : i < ks.length) : ixD (.list (encL ks)) (natD i) = some (enc (at0 ks i)) := ixL rfl hi
end
end HB
namespace HB
open PySem L2
def bendD (n : Nat) (ks hs : List Rat) (z : Str) : D := .dict [(.str "Bend", .none), (.str "degree", .int n), (.str "marks", .tuple (encL ks)), (.str "handles", .tuple (encL hs)), (.str "text", .str z)]
end HB
namespace HB
open PySem L2
theorem nat_len {n B : Nat} (h : n < 2 ^ B) (hB : 1 ≤ B) : (Nat.repr n).length ≤ B := by
  have h1 : n < 10 ^ B := Nat.lt_of_lt_of_le h (Nat.pow_le_pow_left (by decide) B)
  have h2 := PySem.digitsCore_len_pow 10 (by decide) B (n + 1) n [] hB h1
  simpa [Nat.repr, Nat.toDigits] using h2
theorem int_len {i : Int} {B : Nat} (h : i.natAbs < 2 ^ B) (hB : 1 ≤ B) : (toString i).length ≤ B + 1 := by
  cases i with
  | ofNat n =>
    have := nat_len (n := n) (by simpa using h) hB
    show (Nat.repr n).length ≤ B + 1
    omega
  | negSucc n =>
    have := nat_len (n := n + 1) (by simpa using h) hB
    show ("-" ++ Nat.repr (n + 1)).length ≤ B + 1
    rw [String.length_append]
    have : "-".length = 1 := rfl
    omega
abbrev iS (i : Int) : Str := Str.ofString (toString i)
theorem iS_len {i : Int} {B : Nat} (h : i.natAbs < 2 ^ B) (hB : 1 ≤ B) : (iS i).length ≤ B + 1 := by
  exact (PyProof.Rows.ofString_len (toString i)).symm ▸ int_len h hB
def textR (q : Rat) : Str := if q.den = 1 then iS q.num else Str.empty ++ iS q.num ++ "/" ++ iS (q.den : Int)
theorem str_app (a b : Str) : (a ++ b).length = a.length + b.length := Str.length_append a b
theorem text_len {q : Rat} {B : Nat} (h : Ht B q) : (textR q).length ≤ 2 * B + 3 := by
  have h1 := iS_len h.1 h.pos
  have h2 := iS_len (i := (q.den : Int)) (by simpa using h.2) h.pos
  have e0 : Str.empty.length = 0 := rfl
  have e1 : ("/" : Str).length = 1 := rfl
  unfold textR
  split
  · omega
  · rw [str_app, str_app, str_app]
    omega
theorem text_enc {q : Rat} {B : Nat} (h : Ht B q) (hB : B ≤ 1900) : F_text_of [enc q] = some (.ok (.str (textR q))) := by
  have l1 : q.num.natAbs.log2 < 1920 := Nat.lt_of_lt_of_le (log_lt h.1 h.pos) (by omega)
  have l2 : (q.den : Int).natAbs.log2 < 1920 := Nat.lt_of_lt_of_le (log_lt (by simpa using h.2) h.pos) (by omega)
  have s1 : strD [.int q.num] = some (.str (iS q.num)) := if_pos l1
  have s2 : fmtD (.int q.num) = some (.str (iS q.num)) := if_pos l1
  have s3 : fmtD (.int (q.den : Int)) = some (.str (iS (q.den : Int))) := if_pos l2
  have n1 := iS_len h.1 h.pos
  have n2 := iS_len (i := (q.den : Int)) (by simpa using h.2) h.pos
  have e0 : Str.empty.length = 0 := rfl
  have e1 : ("/" : Str).length = 1 := rfl
  have a1 : strApp Str.empty (.str (iS q.num)) = some (Str.empty ++ iS q.num) := if_pos (by rw [str_app]; omega)
  have a2 : strApp (Str.empty ++ iS q.num) (.str "/") = some (Str.empty ++ iS q.num ++ "/") := if_pos (by rw [str_app, str_app]; omega)
  have a3 : strApp (Str.empty ++ iS q.num ++ "/") (.str (iS (q.den : Int))) = some (Str.empty ++ iS q.num ++ "/" ++ iS (q.den : Int)) := if_pos (by rw [str_app, str_app, str_app]; omega)
  have x0 : ixD (enc q) (.int 0) = some (.int q.num) := ix0 _ _
  have x1 : ixD (enc q) (.int 1) = some (.int (q.den : Int)) := ix1 _ _
  have aj : ∀ (ρ : En), mJoined (jCons (mUn fmtD (mOp ixD (mVar 0) (mRet (.int 0)))) (jCons (mRet (.str "/")) (jCons (mUn fmtD (mOp ixD (mVar 0) (mRet (.int 1)))) (jNil)))) [.pur (enc q)] = some (.ok ([.pur (enc q)], .str (Str.empty ++ iS q.num ++ "/" ++ iS (q.den : Int)))) := fun _ => by
    simp only [mJoined, jCons, jNil, mBind, mLift, mUn, mOp, mVar, mRet, List.getElem?_cons_zero, x0, x1, s2, s3, a1, a2, a3]
  unfold textR
  by_cases hd : q.den = 1
  · have e : eqD (.int (q.den : Int)) (.int 1) = some (.bool true) := by simp [eqD, hd]
    rw [if_pos hd]
    simp [bd_ok, lf_some, cl_ok, a_ret, a_op, a_un, a_test, a_and, a_or, a_not, a_andV, a_orV, a_notV, a_if, a_sif, a_nil, a_cons, a_star, a_list, a_tup, a_sized, a_call, a_built, a_seq, a_set, a_own, a_sret, a_next, a_isi, a_slice, a_part, a_nopart, a_range, a_seqS, a_varP, a_par2, a_xp, a_xo, a_xn, a_asg, a_make, a_chg, a_ixO, a_lenO, a_cntO, items_lst, items_tup, sizeOk, boolD, cmpD, slOf, intOf_int, len_encL, ans_rt, a_fn, List.replicate, F_text_of, g_text_of, x0, x1, e, s1]
  · have e : eqD (.int (q.den : Int)) (.int 1) = some (.bool false) := by simp [eqD]; omega
    rw [if_neg hd]
    simp [bd_ok, lf_some, cl_ok, a_ret, a_op, a_un, a_test, a_and, a_or, a_not, a_andV, a_orV, a_notV, a_if, a_sif, a_nil, a_cons, a_star, a_list, a_tup, a_sized, a_call, a_built, a_seq, a_set, a_own, a_sret, a_next, a_isi, a_slice, a_part, a_nopart, a_range, a_seqS, a_varP, a_par2, a_xp, a_xo, a_xn, a_asg, a_make, a_chg, a_ixO, a_lenO, a_cntO, items_lst, items_tup, sizeOk, boolD, cmpD, slOf, intOf_int, len_encL, ans_rt, a_fn, List.replicate, F_text_of, g_text_of, x0, x1, e, aj []]
theorem a_m1 {ρ : En} (f : Str → D → Option D) (s : Str) (b : Mo D) : mM1 f (mRet (.str s)) b ρ = bd (b ρ) fun ρ1 y => lf ρ1 (f s y) := id rfl
def textB (n : Nat) (ks hs : List Rat) : Str := Txt.join " " ([("bend" : Str), iS n, ("marks" : Str)] ++ (ks.map textR ++ ([("handles" : Str)] ++ hs.map textR)))
theorem strs_map : ∀ L : List Str, strsD (L.map .str) = some L
  | [] => rfl
  | a :: L => by
    simp only [List.map_cons, strsD, strs_map L]
    rfl
theorem sum_len {B : Nat} : ∀ L : List Rat, (∀ q ∈ L, Ht B q) → ((L.map textR).map (·.length)).sum ≤ L.length * (2 * B + 3)
  | [], _ => by simp
  | q :: L, h => by
    have ih := sum_len L fun x hx => h x (List.mem_cons_of_mem _ hx)
    have := text_len (h q List.mem_cons_self)
    simp only [List.map_cons, List.sum_cons, List.length_cons, Nat.add_mul] at ih ⊢
    omega
theorem text_bend_enc {n : Nat} {ks hs : List Rat} {B : Nat} (hk : ∀ q ∈ ks, Ht B q) (hh : ∀ q ∈ hs, Ht B q) (hB : B ≤ 1900) (hn : n < 1000) (lk : ks.length ≤ 200) (lh : hs.length ≤ 200) : F_text_of_bend [.int n, .tuple (encL ks), .tuple (encL hs)] = some (.ok (.str (textB n ks hs))) := by
  have b1 : mBlk [5] (mSeqS (mVar 1)) (lcBody [5] (gSet 5) (mRet true) (mCall F_text_of (mCons (mVar 5) (mNil)))) [.pur (.int n), .pur (.tuple (encL ks)), .pur (.tuple (encL hs)), .no, .no, .no] = some (.ok ([.pur (.int n), .pur (.tuple (encL ks)), .pur (.tuple (encL hs)), .no, .no, .no], ks.map fun q => .str (textR q))) :=
    blk_map ks enc _ (by simp [bd_ok, lf_some, cl_ok, a_ret, a_op, a_un, a_test, a_and, a_or, a_not, a_andV, a_orV, a_notV, a_if, a_sif, a_nil, a_cons, a_star, a_list, a_tup, a_sized, a_call, a_built, a_seq, a_set, a_own, a_sret, a_next, a_isi, a_slice, a_part, a_nopart, a_range, a_seqS, a_varP, a_par2, a_xp, a_xo, a_xn, a_asg, a_make, a_chg, a_ixO, a_lenO, a_cntO, items_lst, items_tup, sizeOk, boolD, cmpD, slOf, intOf_int, len_encL, ans_rt, a_fn, List.replicate]; rfl) (by omega) rfl fun q hq => by simp [bd_ok, lf_some, cl_ok, a_ret, a_op, a_un, a_test, a_and, a_or, a_not, a_andV, a_orV, a_notV, a_if, a_sif, a_nil, a_cons, a_star, a_list, a_tup, a_sized, a_call, a_built, a_seq, a_set, a_own, a_sret, a_next, a_isi, a_slice, a_part, a_nopart, a_range, a_seqS, a_varP, a_par2, a_xp, a_xo, a_xn, a_asg, a_make, a_chg, a_ixO, a_lenO, a_cntO, items_lst, items_tup, sizeOk, boolD, cmpD, slOf, intOf_int, len_encL, ans_rt, a_fn, List.replicate, text_enc (hk q hq) hB]
  have b2 : mBlk [5] (mSeqS (mVar 2)) (lcBody [5] (gSet 5) (mRet true) (mCall F_text_of (mCons (mVar 5) (mNil)))) [.pur (.int n), .pur (.tuple (encL ks)), .pur (.tuple (encL hs)), .no, .no, .no] = some (.ok ([.pur (.int n), .pur (.tuple (encL ks)), .pur (.tuple (encL hs)), .no, .no, .no], hs.map fun q => .str (textR q))) :=
    blk_map hs enc _ (by simp [bd_ok, lf_some, cl_ok, a_ret, a_op, a_un, a_test, a_and, a_or, a_not, a_andV, a_orV, a_notV, a_if, a_sif, a_nil, a_cons, a_star, a_list, a_tup, a_sized, a_call, a_built, a_seq, a_set, a_own, a_sret, a_next, a_isi, a_slice, a_part, a_nopart, a_range, a_seqS, a_varP, a_par2, a_xp, a_xo, a_xn, a_asg, a_make, a_chg, a_ixO, a_lenO, a_cntO, items_lst, items_tup, sizeOk, boolD, cmpD, slOf, intOf_int, len_encL, ans_rt, a_fn, List.replicate]; rfl) (by omega) rfl fun q hq => by simp [bd_ok, lf_some, cl_ok, a_ret, a_op, a_un, a_test, a_and, a_or, a_not, a_andV, a_orV, a_notV, a_if, a_sif, a_nil, a_cons, a_star, a_list, a_tup, a_sized, a_call, a_built, a_seq, a_set, a_own, a_sret, a_next, a_isi, a_slice, a_part, a_nopart, a_range, a_seqS, a_varP, a_par2, a_xp, a_xo, a_xn, a_asg, a_make, a_chg, a_ixO, a_lenO, a_cntO, items_lst, items_tup, sizeOk, boolD, cmpD, slOf, intOf_int, len_encL, ans_rt, a_fn, List.replicate, text_enc (hh q hq) hB]
  have nB : (n : Int).natAbs < 2 ^ 10 := by
    rw [Int.natAbs_natCast]
    exact Nat.lt_of_lt_of_le hn (by decide)
  have s1 : strD [.int (n : Int)] = some (.str (iS n)) := if_pos (Nat.lt_of_lt_of_le (log_lt nB (by decide)) (by decide))
  have nl := iS_len nB (by decide)
  have m1 := sum_len ks hk
  have m2 := sum_len hs hh
  have q1 : ks.length * (2 * B + 3) ≤ 200 * 3803 := Nat.mul_le_mul lk (by omega)
  have q2 : hs.length * (2 * B + 3) ≤ 200 * 3803 := Nat.mul_le_mul lh (by omega)
  have c1 : ("bend" : Str).length = 4 := rfl
  have c2 : ("marks" : Str).length = 5 := rfl
  have c3 : ("handles" : Str).length = 7 := rfl
  have c4 : (" " : Str).length = 1 := rfl
  have jn : joinD " " (.list (PyData.str "bend" :: PyData.str (iS n) :: PyData.str "marks" :: ((ks.map fun q => PyData.str (textR q)) ++ PyData.str "handles" :: hs.map fun q => PyData.str (textR q)))) = some (.str (textB n ks hs)) := by
    have e : (PyData.str "bend" :: PyData.str (iS n) :: PyData.str "marks" :: ((ks.map fun q => PyData.str (textR q)) ++ PyData.str "handles" :: hs.map fun q => PyData.str (textR q))) = ([("bend" : Str), iS n, ("marks" : Str)] ++ (ks.map textR ++ ([("handles" : Str)] ++ hs.map textR))).map PyData.str := by
      simp [Function.comp_def]
    unfold joinD
    rw [e]
    simp only [items_lst, strs_map]
    refine if_pos ?_
    simp only [List.map_append, List.map_cons, List.map_nil, List.sum_append, List.sum_cons, List.sum_nil, List.length_append, List.length_cons, List.length_nil, List.length_map, c1, c2, c3, c4]
    omega
  have sz : (ks.length + (hs.length + 1)) + 1 + 1 + 1 ≤ 1000000 := by omega
  have sz2 : ((ks.map fun q => PyData.str (textR q)) ++ PyData.str "handles" :: hs.map fun q => PyData.str (textR q)).length + 1 + 1 + 1 ≤ 1000000 := by simp; omega
  simp [bd_ok, lf_some, cl_ok, a_ret, a_op, a_un, a_test, a_and, a_or, a_not, a_andV, a_orV, a_notV, a_if, a_sif, a_nil, a_cons, a_star, a_list, a_tup, a_sized, a_call, a_built, a_seq, a_set, a_own, a_sret, a_next, a_isi, a_slice, a_part, a_nopart, a_range, a_seqS, a_varP, a_par2, a_xp, a_xo, a_xn, a_asg, a_make, a_chg, a_ixO, a_lenO, a_cntO, items_lst, items_tup, sizeOk, boolD, cmpD, slOf, intOf_int, len_encL, ans_rt, a_fn, List.replicate, F_text_of_bend, g_text_of_bend, b1, b2, g_text_of_bend_1, s1, a_m1]
  rw [if_pos (by simp at sz2; omega)]
  simp only [lf_some, bd_ok, jn, ans_rt]
end HB
namespace HB
open PySem L2
def cntR (ks : List Rat) (q : Rat) : Nat := (ks.filter fun x => decide (x = q)).length
structure GoodM (n : Nat) (ks : List Rat) : Prop where
  len : 2 ≤ ks.length
  asc : ∀ i, i + 1 < ks.length → at0 ks i ≤ at0 ks (i + 1)
  c0 : cntR ks (at0 ks 0) = 1
  cl : cntR ks (at0 ks (ks.length - 1)) = 1
  ci : ∀ i, 0 < i → i + 1 < ks.length → cntR ks (at0 ks i) ≤ n
/-- a list or a tuple of such values -/
def SeqOf (d : D) (ks : List Rat) : Prop := d = .list (encL ks) ∨ d = .tuple (encL ks)
theorem SeqOf.items {d : D} {ks : List Rat} (h : SeqOf d ks) : itemsD d = some (encL ks) := by rcases h with rfl | rfl <;> rfl
theorem SeqOf.isSeq {d : D} {ks : List Rat} (h : SeqOf d ks) : F_is_sequence [d] = some (.ok (.bool true)) := by rcases h with rfl | rfl <;> rfl
theorem SeqOf.len {d : D} {ks : List Rat} (h : SeqOf d ks) : lenD [d] = some (.int ks.length) := by
  rcases h with rfl | rfl <;> simp [lenD, len_encL]
section
variable {n : Nat} {ks hs : List Rat} {d e : D} {B : Nat}
theorem all_rep (m : Nat) : allD [.list (List.replicate m (.bool true))] = some (.bool true) := by
  have a := all_map (fun _ : Nat => true) (List.range m)
  rw [List.all_eq_true.mpr (fun _ _ => rfl), List.map_const', List.length_range] at a
  exact a
theorem values_blk {v : Nat} {ρ : En} {i : Nat} (hd : itemsD d = some (encL ks)) (hi : ρ[i]? = some (.pur d)) (hl : ks.length < 1000000) (ho : noOwn ρ [v] = true) (hv : v < ρ.length) : mBlk [v] (mSeqS (mVar i)) (lcBody [v] (gSet v) (mRet true) (mCall F_is_value (mCons (mVar v) (mNil)))) ρ = some (.ok (ρ, List.replicate ks.length (.bool true))) := by
  have b := blk_map (v := v) (src := mSeqS (mVar i)) (elt := mCall F_is_value (mCons (mVar v) (mNil))) (ρ := ρ) ks enc (fun _ => .bool true) (by simp [bd_ok, lf_some, cl_ok, a_ret, a_op, a_un, a_test, a_and, a_or, a_not, a_andV, a_orV, a_notV, a_if, a_sif, a_nil, a_cons, a_star, a_list, a_tup, a_sized, a_call, a_built, a_seq, a_set, a_own, a_sret, a_next, a_isi, a_slice, a_part, a_nopart, a_range, a_seqS, a_varP, a_par2, a_xp, a_xo, a_xn, a_asg, a_make, a_chg, a_ixO, a_lenO, a_cntO, items_lst, items_tup, sizeOk, boolD, cmpD, slOf, intOf_int, len_encL, ans_rt, a_fn, List.replicate, hi, hd]; rfl) hl ho fun q _ => by simp [bd_ok, lf_some, cl_ok, a_ret, a_op, a_un, a_test, a_and, a_or, a_not, a_andV, a_orV, a_notV, a_if, a_sif, a_nil, a_cons, a_star, a_list, a_tup, a_sized, a_call, a_built, a_seq, a_set, a_own, a_sret, a_next, a_isi, a_slice, a_part, a_nopart, a_range, a_seqS, a_varP, a_par2, a_xp, a_xo, a_xn, a_asg, a_make, a_chg, a_ixO, a_lenO, a_cntO, items_lst, items_tup, sizeOk, boolD, cmpD, slOf, intOf_int, len_encL, ans_rt, a_fn, List.replicate, hv, is_value_enc]
  rwa [List.map_const'] at b
theorem of_blk {v : Nat} {ρ : En} {i : Nat} (hd : itemsD d = some (encL ks)) (hi : ρ[i]? = some (.pur d)) (hl : ks.length < 1000000) (ho : noOwn ρ [v] = true) (hv : v < ρ.length) : mBlk [v] (mSeqS (mVar i)) (lcBody [v] (gSet v) (mRet true) (mCall F_value_of (mCons (mVar v) (mNil)))) ρ = some (.ok (ρ, encL ks)) :=
  blk_map ks enc enc (by simp [bd_ok, lf_some, cl_ok, a_ret, a_op, a_un, a_test, a_and, a_or, a_not, a_andV, a_orV, a_notV, a_if, a_sif, a_nil, a_cons, a_star, a_list, a_tup, a_sized, a_call, a_built, a_seq, a_set, a_own, a_sret, a_next, a_isi, a_slice, a_part, a_nopart, a_range, a_seqS, a_varP, a_par2, a_xp, a_xo, a_xn, a_asg, a_make, a_chg, a_ixO, a_lenO, a_cntO, items_lst, items_tup, sizeOk, boolD, cmpD, slOf, intOf_int, len_encL, ans_rt, a_fn, List.replicate, hi, hd]; rfl) hl ho fun q _ => by simp [bd_ok, lf_some, cl_ok, a_ret, a_op, a_un, a_test, a_and, a_or, a_not, a_andV, a_orV, a_notV, a_if, a_sif, a_nil, a_cons, a_star, a_list, a_tup, a_sized, a_call, a_built, a_seq, a_set, a_own, a_sret, a_next, a_isi, a_slice, a_part, a_nopart, a_range, a_seqS, a_varP, a_par2, a_xp, a_xo, a_xn, a_asg, a_make, a_chg, a_ixO, a_lenO, a_cntO, items_lst, items_tup, sizeOk, boolD, cmpD, slOf, intOf_int, len_encL, ans_rt, a_fn, List.replicate, hv, value_of_enc]
theorem are_marks_enc (g : GoodM n ks) (hd : SeqOf d ks) (hk : ∀ q ∈ ks, Ht B q) (hB : 2 * B ≤ 9000) (hl : ks.length ≤ 1000) : F_are_marks [.int n, d] = some (.ok (.bool true)) := by
  have h2 := g.len
  have l1 : leI (ks.length : Int) 1 = false := decide_eq_false (by omega)
  have av := values_blk (v := 4) (i := 1) (ρ := [.pur (.int n), .pur d, .no, .no, .no, .no, .no, .no]) hd.items rfl (by omega) rfl (by simp)
  have b1 : mBlk [4] (mSeqS (mVar 1)) (lcBody [4] (gSet 4) (mRet true) (mCall F_value_of (mCons (mVar 4) (mNil)))) [.pur (.int n), .pur d, .no, .no, .no, .no, .no, .no] = some (.ok ([.pur (.int n), .pur d, .no, .no, .no, .no, .no, .no], encL ks)) :=
    blk_map ks enc enc (by simp [bd_ok, lf_some, cl_ok, a_ret, a_op, a_un, a_test, a_and, a_or, a_not, a_andV, a_orV, a_notV, a_if, a_sif, a_nil, a_cons, a_star, a_list, a_tup, a_sized, a_call, a_built, a_seq, a_set, a_own, a_sret, a_next, a_isi, a_slice, a_part, a_nopart, a_range, a_seqS, a_varP, a_par2, a_xp, a_xo, a_xn, a_asg, a_make, a_chg, a_ixO, a_lenO, a_cntO, items_lst, items_tup, sizeOk, boolD, cmpD, slOf, intOf_int, len_encL, ans_rt, a_fn, List.replicate, hd.items]; rfl) (by omega) rfl fun q _ => by simp [bd_ok, lf_some, cl_ok, a_ret, a_op, a_un, a_test, a_and, a_or, a_not, a_andV, a_orV, a_notV, a_if, a_sif, a_nil, a_cons, a_star, a_list, a_tup, a_sized, a_call, a_built, a_seq, a_set, a_own, a_sret, a_next, a_isi, a_slice, a_part, a_nopart, a_range, a_seqS, a_varP, a_par2, a_xp, a_xo, a_xn, a_asg, a_make, a_chg, a_ixO, a_lenO, a_cntO, items_lst, items_tup, sizeOk, boolD, cmpD, slOf, intOf_int, len_encL, ans_rt, a_fn, List.replicate, value_of_enc]
  have r1 : range1D [.int ((ks.length : Int) - 1)] = _ := range1_of (ks.length - 1) (by omega) (by omega)
  have b2 : mBlk [6] (mRange range1D (mCons (mOp subD (mBuilt lenD (mCons (mVar 2) (mNil))) (mRet (.int 1))) (mNil))) (lcBody [6] (gSet 6) (mRet true) (mCall F_is_less (mCons (mOp ixD (mVar 2) (mOp addD (mVar 6) (mRet (.int 1)))) (mCons (mOp ixD (mVar 2) (mVar 6)) (mNil))))) [.pur (.int n), .pur d, .pur (.list (encL ks)), .no, .no, .no, .no, .no] = some (.ok ([.pur (.int n), .pur d, .pur (.list (encL ks)), .no, .no, .no, .no, .no], (List.range (ks.length - 1)).map fun i => .bool (decide (at0 ks (i + 1) < at0 ks i)))) :=
    blk_map (List.range (ks.length - 1)) natD _ (by simp [bd_ok, lf_some, cl_ok, a_ret, a_op, a_un, a_test, a_and, a_or, a_not, a_andV, a_orV, a_notV, a_if, a_sif, a_nil, a_cons, a_star, a_list, a_tup, a_sized, a_call, a_built, a_seq, a_set, a_own, a_sret, a_next, a_isi, a_slice, a_part, a_nopart, a_range, a_seqS, a_varP, a_par2, a_xp, a_xo, a_xn, a_asg, a_make, a_chg, a_ixO, a_lenO, a_cntO, items_lst, items_tup, sizeOk, boolD, cmpD, slOf, intOf_int, len_encL, ans_rt, a_fn, List.replicate, lenD, subD, r1]) (by simp; omega) rfl fun i hi => by
      have hi := List.mem_range.mp hi
      have e1 : F_is_less [enc (at0 ks (i + 1)), enc (at0 ks i)] = _ := is_less_enc (at0_ht hk (by omega)) (at0_ht hk (by omega)) (by omega)
      simp [bd_ok, lf_some, cl_ok, a_ret, a_op, a_un, a_test, a_and, a_or, a_not, a_andV, a_orV, a_notV, a_if, a_sif, a_nil, a_cons, a_star, a_list, a_tup, a_sized, a_call, a_built, a_seq, a_set, a_own, a_sret, a_next, a_isi, a_slice, a_part, a_nopart, a_range, a_seqS, a_varP, a_par2, a_xp, a_xo, a_xn, a_asg, a_make, a_chg, a_ixO, a_lenO, a_cntO, items_lst, items_tup, sizeOk, boolD, cmpD, slOf, intOf_int, len_encL, ans_rt, a_fn, List.replicate, nat_add1, ixLn (ks := ks) (i := i) (by omega), ixLn (ks := ks) (i := i + 1) (by omega), e1]
  have an := any_map (fun i => decide (at0 ks (i + 1) < at0 ks i)) (List.range (ks.length - 1))
  rw [List.any_eq_false.mpr (fun i hi => by have := g.asc i (by have := List.mem_range.mp hi; omega); simp; grind)] at an
  have b3 : mBlk [5] (mSeqS (mVar 2)) (lcBody [5] (gSet 5) (mRet true) (mBuilt lenD (mCons (mList (mBlk [4] (mSeqS (mVar 2)) (lcBody [4] (gSet 4) (mTest (mOp eqD (mVar 4) (mVar 5))) (mVar 4)))) (mNil)))) [.pur (.int n), .pur d, .pur (.list (encL ks)), .no, .no, .no, .no, .no] = some (.ok ([.pur (.int n), .pur d, .pur (.list (encL ks)), .no, .no, .no, .no, .no], ks.map fun q => natD (cntR ks q))) :=
    blk_map ks enc _ (by simp [bd_ok, lf_some, cl_ok, a_ret, a_op, a_un, a_test, a_and, a_or, a_not, a_andV, a_orV, a_notV, a_if, a_sif, a_nil, a_cons, a_star, a_list, a_tup, a_sized, a_call, a_built, a_seq, a_set, a_own, a_sret, a_next, a_isi, a_slice, a_part, a_nopart, a_range, a_seqS, a_varP, a_par2, a_xp, a_xo, a_xn, a_asg, a_make, a_chg, a_ixO, a_lenO, a_cntO, items_lst, items_tup, sizeOk, boolD, cmpD, slOf, intOf_int, len_encL, ans_rt, a_fn, List.replicate]; rfl) (by omega) rfl fun q _ => by
      have b := blk_sel (v := 4) (src := mSeqS (mVar 2)) (test := mTest (mOp eqD (mVar 4) (mVar 5))) (elt := mVar 4) (ρ := [.pur (.int n), .pur d, .pur (.list (encL ks)), .no, .no, .pur (enc q), .no, .no]) ks enc (fun x => decide (x = q)) enc (by simp [bd_ok, lf_some, cl_ok, a_ret, a_op, a_un, a_test, a_and, a_or, a_not, a_andV, a_orV, a_notV, a_if, a_sif, a_nil, a_cons, a_star, a_list, a_tup, a_sized, a_call, a_built, a_seq, a_set, a_own, a_sret, a_next, a_isi, a_slice, a_part, a_nopart, a_range, a_seqS, a_varP, a_par2, a_xp, a_xo, a_xn, a_asg, a_make, a_chg, a_ixO, a_lenO, a_cntO, items_lst, items_tup, sizeOk, boolD, cmpD, slOf, intOf_int, len_encL, ans_rt, a_fn, List.replicate]; rfl) (by omega) rfl (fun x _ => by simp [bd_ok, lf_some, cl_ok, a_ret, a_op, a_un, a_test, a_and, a_or, a_not, a_andV, a_orV, a_notV, a_if, a_sif, a_nil, a_cons, a_star, a_list, a_tup, a_sized, a_call, a_built, a_seq, a_set, a_own, a_sret, a_next, a_isi, a_slice, a_part, a_nopart, a_range, a_seqS, a_varP, a_par2, a_xp, a_xo, a_xn, a_asg, a_make, a_chg, a_ixO, a_lenO, a_cntO, items_lst, items_tup, sizeOk, boolD, cmpD, slOf, intOf_int, len_encL, ans_rt, a_fn, List.replicate, eq_enc]) fun x _ _ => by simp [bd_ok, lf_some, cl_ok, a_ret, a_op, a_un, a_test, a_and, a_or, a_not, a_andV, a_orV, a_notV, a_if, a_sif, a_nil, a_cons, a_star, a_list, a_tup, a_sized, a_call, a_built, a_seq, a_set, a_own, a_sret, a_next, a_isi, a_slice, a_part, a_nopart, a_range, a_seqS, a_varP, a_par2, a_xp, a_xo, a_xn, a_asg, a_make, a_chg, a_ixO, a_lenO, a_cntO, items_lst, items_tup, sizeOk, boolD, cmpD, slOf, intOf_int, len_encL, ans_rt, a_fn, List.replicate]
      simp [bd_ok, lf_some, cl_ok, a_ret, a_op, a_un, a_test, a_and, a_or, a_not, a_andV, a_orV, a_notV, a_if, a_sif, a_nil, a_cons, a_star, a_list, a_tup, a_sized, a_call, a_built, a_seq, a_set, a_own, a_sret, a_next, a_isi, a_slice, a_part, a_nopart, a_range, a_seqS, a_varP, a_par2, a_xp, a_xo, a_xn, a_asg, a_make, a_chg, a_ixO, a_lenO, a_cntO, items_lst, items_tup, sizeOk, boolD, cmpD, slOf, intOf_int, len_encL, ans_rt, a_fn, List.replicate, b, lenD, natD, cntR]
  have j0 : ixD (.list (ks.map fun q => natD (cntR ks q))) (.int 0) = some (.int 1) := by
    refine (ix_lst (z := 0) (i := 0) rfl (by simp; omega)).trans ?_
    have := g.c0
    rw [at0_lt (by omega)] at this
    simp [natD, this]
  have jl : ixD (.list (ks.map fun q => natD (cntR ks q))) (.int (-1)) = some (.int 1) := by
    have ne : (ks.map fun q => natD (cntR ks q)) ≠ [] := fun z => by have := congrArg List.length z; simp at this; subst this; simp at h2
    have e := atI_last ne
    refine Eq.trans (show _ = L2.atI (ks.map fun q => natD (cntR ks q)) (-1) from rfl) (e.trans ?_)
    have := g.cl
    rw [at0_lt (by omega)] at this
    simp [List.getLast_eq_getElem, natD, this]
  have sl : slD (some 1) (some (-1)) (.list (ks.map fun q => natD (cntR ks q))) = some (.list (((ks.drop 1).take (ks.length - 2)).map fun q => natD (cntR ks q))) := by
    have s1 : HT.sIx ks.length 0 (some 1) = 1 := by rw [show (1 : Int) = ((1 : Nat) : Int) from rfl, HT.sIx_nat]; omega
    have s2 : HT.sIx ks.length ks.length (some (-1)) = ks.length - 1 := by
      show (if (-1 : Int) < 0 then (-1 + (ks.length : Int)).toNat else min (-1 : Int).toNat ks.length) = _
      rw [if_pos (by decide)]
      omega
    simp only [slD, cutD, List.length_map, s1, s2, List.map_take, List.map_drop]
    rw [show ks.length - 1 - 1 = ks.length - 2 by omega]
  have b4 : mBlk [7] (mSeqS (mSlice (mVar 3) (mPart (mRet (.int 1))) (mPart (mUn negD (mRet (.int 1)))))) (lcBody [7] (gSet 7) (mRet true) (mOp (cmpD leI) (mVar 7) (mVar 0))) [.pur (.int n), .pur d, .pur (.list (encL ks)), .pur (.list (ks.map fun q => natD (cntR ks q))), .no, .no, .no, .no] = some (.ok ([.pur (.int n), .pur d, .pur (.list (encL ks)), .pur (.list (ks.map fun q => natD (cntR ks q))), .no, .no, .no, .no], ((ks.drop 1).take (ks.length - 2)).map fun q => .bool (leI (cntR ks q : Nat) n))) :=
    blk_map ((ks.drop 1).take (ks.length - 2)) (fun q => natD (cntR ks q)) _ (by simp [bd_ok, lf_some, cl_ok, a_ret, a_op, a_un, a_test, a_and, a_or, a_not, a_andV, a_orV, a_notV, a_if, a_sif, a_nil, a_cons, a_star, a_list, a_tup, a_sized, a_call, a_built, a_seq, a_set, a_own, a_sret, a_next, a_isi, a_slice, a_part, a_nopart, a_range, a_seqS, a_varP, a_par2, a_xp, a_xo, a_xn, a_asg, a_make, a_chg, a_ixO, a_lenO, a_cntO, items_lst, items_tup, sizeOk, boolD, cmpD, slOf, intOf_int, len_encL, ans_rt, a_fn, List.replicate, negD, sl]) (by simp; omega) rfl fun q hq => by simp [bd_ok, lf_some, cl_ok, a_ret, a_op, a_un, a_test, a_and, a_or, a_not, a_andV, a_orV, a_notV, a_if, a_sif, a_nil, a_cons, a_star, a_list, a_tup, a_sized, a_call, a_built, a_seq, a_set, a_own, a_sret, a_next, a_isi, a_slice, a_part, a_nopart, a_range, a_seqS, a_varP, a_par2, a_xp, a_xo, a_xn, a_asg, a_make, a_chg, a_ixO, a_lenO, a_cntO, items_lst, items_tup, sizeOk, boolD, cmpD, slOf, intOf_int, len_encL, ans_rt, a_fn, List.replicate, natD]
  have al := all_map (fun q => leI (cntR ks q : Nat) n) ((ks.drop 1).take (ks.length - 2))
  rw [List.all_eq_true.mpr (fun q hq => by
    obtain ⟨i, hi, rfl⟩ := List.getElem_of_mem hq
    simp at hi
    have c := g.ci (i + 1) (by omega) (by omega)
    rw [at0_lt (by omega)] at c
    rw [List.getElem_take, List.getElem_drop]
    simp only [Nat.add_comm 1 i]
    exact decide_eq_true (by omega))] at al
  generalize (ks.drop 1).take (ks.length - 2) = inn at b4 al
  have q1 : eqD (.int 1) (.int 1) = some (.bool true) := rfl
  simp [bd_ok, lf_some, cl_ok, a_ret, a_op, a_un, a_test, a_and, a_or, a_not, a_andV, a_orV, a_notV, a_if, a_sif, a_nil, a_cons, a_star, a_list, a_tup, a_sized, a_call, a_built, a_seq, a_set, a_own, a_sret, a_next, a_isi, a_slice, a_part, a_nopart, a_range, a_seqS, a_varP, a_par2, a_xp, a_xo, a_xn, a_asg, a_make, a_chg, a_ixO, a_lenO, a_cntO, items_lst, items_tup, sizeOk, boolD, cmpD, slOf, intOf_int, len_encL, ans_rt, a_fn, List.replicate, F_are_marks, g_are_marks, hd.isSeq, hd.len, l1, av, all_rep, g_are_marks_4, b1, g_are_marks_3, b2, an, g_are_marks_2, b3, g_are_marks_1, j0, q1, negD, jl, b4, al]
theorem bend_init (g : GoodM n ks) (hd : SeqOf d ks) (he : SeqOf e hs) (hk : ∀ q ∈ ks, Ht B q) (hh : ∀ q ∈ hs, Ht B q) (hB : B ≤ 1900) (hn : n < 1000) (lk : ks.length ≤ 200) (lh : hs.length ≤ 200) (hc : hs.length + 1 = n + ks.length) :
    I_Bend [.int n, d, e] = some (.ok [(.str "degree", .int n), (.str "marks", .tuple (encL ks)), (.str "handles", .tuple (encL hs)), (.str "text", .str (textB n ks hs))]) := by
  have l1 : ltI (n : Int) 0 = false := decide_eq_false (by omega)
  have am := are_marks_enc g hd hk (by omega) (by omega)
  have b1 := values_blk (v := 4) (i := 3) (ρ := [.no, .pur (.int n), .pur d, .pur e, .no]) he.items rfl (by omega) rfl (by simp)
  have b2 := of_blk (v := 4) (i := 2) (ρ := [.no, .pur (.int n), .pur d, .pur e, .no]) hd.items rfl (by omega) rfl (by simp)
  have b3 := of_blk (v := 4) (i := 3) (ρ := [.no, .pur (.int n), .pur d, .pur e, .no]) he.items rfl (by omega) rfl (by simp)
  have ne : neD (.int (hs.length : Int)) (.int ((n : Int) + ks.length - 1)) = some (.bool false) := by
    simp [neD]
    omega
  have tx := text_bend_enc hk hh hB hn lk lh
  have t1 : mOr (mNot (mTest (mCall F_is_integer (mCons (mVar 1) (mNil))))) (mTest (mOp (cmpD ltI) (mVar 1) (mRet (.int 0)))) [.no, .pur (.int n), .pur d, .pur e, .no] = some (.ok ([.no, .pur (.int n), .pur d, .pur e, .no], false)) := by
    simp [bd_ok, lf_some, cl_ok, a_ret, a_op, a_un, a_test, a_and, a_or, a_not, a_andV, a_orV, a_notV, a_if, a_sif, a_nil, a_cons, a_star, a_list, a_tup, a_sized, a_call, a_built, a_seq, a_set, a_own, a_sret, a_next, a_isi, a_slice, a_part, a_nopart, a_range, a_seqS, a_varP, a_par2, a_xp, a_xo, a_xn, a_asg, a_make, a_chg, a_ixO, a_lenO, a_cntO, items_lst, items_tup, sizeOk, boolD, cmpD, slOf, intOf_int, len_encL, ans_rt, a_fn, List.replicate, is_integer_int, l1]
  have t2 : mNot (mTest (mCall F_are_marks (mCons (mVar 1) (mCons (mVar 2) (mNil))))) [.no, .pur (.int n), .pur d, .pur e, .no] = some (.ok ([.no, .pur (.int n), .pur d, .pur e, .no], false)) := by
    simp [bd_ok, lf_some, cl_ok, a_ret, a_op, a_un, a_test, a_and, a_or, a_not, a_andV, a_orV, a_notV, a_if, a_sif, a_nil, a_cons, a_star, a_list, a_tup, a_sized, a_call, a_built, a_seq, a_set, a_own, a_sret, a_next, a_isi, a_slice, a_part, a_nopart, a_range, a_seqS, a_varP, a_par2, a_xp, a_xo, a_xn, a_asg, a_make, a_chg, a_ixO, a_lenO, a_cntO, items_lst, items_tup, sizeOk, boolD, cmpD, slOf, intOf_int, len_encL, ans_rt, a_fn, List.replicate, am]
  have t3 : mOr (mNot (mTest (mCall F_is_sequence (mCons (mVar 3) (mNil))))) (mNot (mTest (mBuilt allD (mCons (mList (mBlk [4] (mSeqS (mVar 3)) (lcBody [4] (gSet 4) (mRet true) (mCall F_is_value (mCons (mVar 4) (mNil)))))) (mNil))))) [.no, .pur (.int n), .pur d, .pur e, .no] = some (.ok ([.no, .pur (.int n), .pur d, .pur e, .no], false)) := by
    simp [bd_ok, lf_some, cl_ok, a_ret, a_op, a_un, a_test, a_and, a_or, a_not, a_andV, a_orV, a_notV, a_if, a_sif, a_nil, a_cons, a_star, a_list, a_tup, a_sized, a_call, a_built, a_seq, a_set, a_own, a_sret, a_next, a_isi, a_slice, a_part, a_nopart, a_range, a_seqS, a_varP, a_par2, a_xp, a_xo, a_xn, a_asg, a_make, a_chg, a_ixO, a_lenO, a_cntO, items_lst, items_tup, sizeOk, boolD, cmpD, slOf, intOf_int, len_encL, ans_rt, a_fn, List.replicate, he.isSeq, b1, all_rep]
  have t4 : mTest (mOp neD (mBuilt lenD (mCons (mVar 3) (mNil))) (mOp subD (mOp addD (mVar 1) (mBuilt lenD (mCons (mVar 2) (mNil)))) (mRet (.int 1)))) [.no, .pur (.int n), .pur d, .pur e, .no] = some (.ok ([.no, .pur (.int n), .pur d, .pur e, .no], false)) := by
    simp [bd_ok, lf_some, cl_ok, a_ret, a_op, a_un, a_test, a_and, a_or, a_not, a_andV, a_orV, a_notV, a_if, a_sif, a_nil, a_cons, a_star, a_list, a_tup, a_sized, a_call, a_built, a_seq, a_set, a_own, a_sret, a_next, a_isi, a_slice, a_part, a_nopart, a_range, a_seqS, a_varP, a_par2, a_xp, a_xo, a_xn, a_asg, a_make, a_chg, a_ixO, a_lenO, a_cntO, items_lst, items_tup, sizeOk, boolD, cmpD, slOf, intOf_int, len_encL, ans_rt, a_fn, List.replicate, he.len, hd.len, addD, subD, ne]
  have m2 : mBuilt tupleD (mCons (mList (mBlk [4] (mSeqS (mVar 2)) (lcBody [4] (gSet 4) (mRet true) (mCall F_value_of (mCons (mVar 4) (mNil)))))) (mNil)) [.no, .pur (.int n), .pur d, .pur e, .no] = some (.ok ([.no, .pur (.int n), .pur d, .pur e, .no], .tuple (encL ks))) := by
    simp [bd_ok, lf_some, cl_ok, a_ret, a_op, a_un, a_test, a_and, a_or, a_not, a_andV, a_orV, a_notV, a_if, a_sif, a_nil, a_cons, a_star, a_list, a_tup, a_sized, a_call, a_built, a_seq, a_set, a_own, a_sret, a_next, a_isi, a_slice, a_part, a_nopart, a_range, a_seqS, a_varP, a_par2, a_xp, a_xo, a_xn, a_asg, a_make, a_chg, a_ixO, a_lenO, a_cntO, items_lst, items_tup, sizeOk, boolD, cmpD, slOf, intOf_int, len_encL, ans_rt, a_fn, List.replicate, b2, tupleD]
  have m3 : mBuilt tupleD (mCons (mList (mBlk [4] (mSeqS (mVar 3)) (lcBody [4] (gSet 4) (mRet true) (mCall F_value_of (mCons (mVar 4) (mNil)))))) (mNil)) [.no, .pur (.int n), .pur d, .pur e, .no] = some (.ok ([.no, .pur (.int n), .pur d, .pur e, .no], .tuple (encL hs))) := by
    simp [bd_ok, lf_some, cl_ok, a_ret, a_op, a_un, a_test, a_and, a_or, a_not, a_andV, a_orV, a_notV, a_if, a_sif, a_nil, a_cons, a_star, a_list, a_tup, a_sized, a_call, a_built, a_seq, a_set, a_own, a_sret, a_next, a_isi, a_slice, a_part, a_nopart, a_range, a_seqS, a_varP, a_par2, a_xp, a_xo, a_xn, a_asg, a_make, a_chg, a_ixO, a_lenO, a_cntO, items_lst, items_tup, sizeOk, boolD, cmpD, slOf, intOf_int, len_encL, ans_rt, a_fn, List.replicate, b3, tupleD]
  have p1 : ∀ a : D, putK "degree" a [] = [(.str "degree", a)] := fun _ => rfl
  have p2 : ∀ a b : D, putK "marks" b [(.str "degree", a)] = [(.str "degree", a), (.str "marks", b)] := fun _ _ => rfl
  have p3 : ∀ a b c : D, putK "handles" c [(.str "degree", a), (.str "marks", b)] = [(.str "degree", a), (.str "marks", b), (.str "handles", c)] := fun _ _ _ => rfl
  have p4 : ∀ a b c f : D, putK "text" f [(.str "degree", a), (.str "marks", b), (.str "handles", c)] = [(.str "degree", a), (.str "marks", b), (.str "handles", c), (.str "text", f)] := fun _ _ _ _ => rfl
  have fm : ∀ a b c : D, fldIn "marks" [(.str "degree", a), (.str "marks", b), (.str "handles", c)] = some b := fun _ _ _ => rfl
  have fh : ∀ a b c : D, fldIn "handles" [(.str "degree", a), (.str "marks", b), (.str "handles", c)] = some c := fun _ _ _ => rfl
  have tc : oCall F_text_of_bend (oCons (fun _ => mVar 1) (oCons (fun kvs => pureF (fldIn "marks" kvs)) (oCons (fun kvs => pureF (fldIn "handles" kvs)) (fun _ => mNil)))) [(.str "degree", .int n), (.str "marks", .tuple (encL ks)), (.str "handles", .tuple (encL hs))] [.no, .pur (.int n), .pur d, .pur e, .no] = some (.ok ([.no, .pur (.int n), .pur d, .pur e, .no], .str (textB n ks hs))) := by
    simp only [oCall, a_call, oCons, mBind, mVar, pureF, mLift, mNil, mRet, List.getElem?_cons_succ, List.getElem?_cons_zero, fm, fh, bd_ok, tx, cl_ok]
  have n0 : Nat.blt ([] : List (D × D)).length 1000 = true := rfl
  have n1 : ∀ x : D × D, Nat.blt [x].length 1000 = true := fun _ => rfl
  have n2 : ∀ x y : D × D, Nat.blt [x, y].length 1000 = true := fun _ _ => rfl
  have n3 : ∀ x y z : D × D, Nat.blt [x, y, z].length 1000 = true := fun _ _ _ => rfl
  have e0 : I_Bend [.int n, d, e] = (match g_Bend_init [] [.no, .pur (.int n), .pur d, .pur e, .no] with
    | none => none
    | some (.error y) => some (.error y)
    | some (.ok (_, kvs)) => some (.ok kvs) : Option (Except Exn (List (D × D)))) := rfl
  rw [e0]
  unfold g_Bend_init
  simp only [oIf, t1, t2, t3, t4, oPut, m2, m3, mVar, List.getElem?_cons_succ, List.getElem?_cons_zero, p1, p2, p3, p4, n0, n1, n2, n3, tc, oEnd]
end
end HB
namespace HB
open PySem L2
section
variable {a b : Rat} {A B : Nat}
theorem pow_le9 {k : Nat} (h : k ≤ 900000) {n : Nat} (hn : n < 2 ^ k) : n < 2 ^ 900000 := Nat.lt_of_lt_of_le hn (Nat.pow_le_pow_right (by decide) h)
theorem law_add_enc (ha : Ht A a) (hb : Ht B b) (h : A + B ≤ 9000) : F_law_add [enc a, enc b] = some (.ok (enc (a + b))) := by
  have f1 : mulFit a.num b.den = true := fit_by ha.1 (by simpa using hb.2) ha.pos hb.pos (by omega)
  have f2 : mulFit b.num a.den = true := fit_by hb.1 (by simpa using ha.2) hb.pos ha.pos (by omega)
  have f3 : mulFit a.den b.den = true := fit_by (by simpa using ha.2) (by simpa using hb.2) ha.pos hb.pos (by omega)
  have x : (a.num * b.den).natAbs < 2 ^ (A + B) := by rw [Int.natAbs_mul, den_abs]; exact prod_lt ha.1 hb.2
  have y : (b.num * a.den).natAbs < 2 ^ (A + B) := by rw [Int.natAbs_mul, den_abs, Nat.add_comm]; exact prod_lt hb.1 ha.2
  have e : 2 ^ (A + B + 1) = 2 ^ (A + B) + 2 ^ (A + B) := by rw [Nat.pow_succ]; omega
  have z : (a.num * b.den + b.num * a.den).natAbs < 2 ^ (A + B + 1) := by
    have := Int.natAbs_add_le (a.num * b.den) (b.num * a.den)
    omega
  have l := law_fr_enc (t := a.num * b.den + b.num * a.den) (b := (a.den : Int) * b.den) (pow_le9 (by omega) z) (Int.mul_ne_zero (den_ne a) (den_ne b)) (Nat.lt_of_lt_of_le (dens_lt ha hb) (Nat.pow_le_pow_right (by decide) h))
  rw [← add_divInt] at l
  rw [← l]
  simp [bd_ok, lf_some, cl_ok, a_ret, a_op, a_un, a_test, a_and, a_or, a_not, a_andV, a_orV, a_notV, a_if, a_sif, a_nil, a_cons, a_star, a_list, a_tup, a_sized, a_call, a_built, a_seq, a_set, a_own, a_sret, a_next, a_isi, a_slice, a_part, a_nopart, a_range, a_seqS, a_varP, a_par2, a_xp, a_xo, a_xn, a_asg, a_make, a_chg, a_ixO, a_lenO, a_cntO, items_lst, items_tup, sizeOk, boolD, cmpD, slOf, intOf_int, len_encL, ans_rt, a_fn, List.replicate, F_law_add, g_law_add, enc, ix0, ix1, mul_of f1, mul_of f2, mul_of f3, addD, l]
theorem law_below_enc (ha : Ht A a) (hb : Ht B b) (h : A + B ≤ 9000) : F_law_below [enc a, enc b] = some (.ok (.bool (decide (a < b)))) := by
  have f1 : mulFit a.num b.den = true := fit_by ha.1 (by simpa using hb.2) ha.pos hb.pos (by omega)
  have f2 : mulFit b.num a.den = true := fit_by hb.1 (by simpa using ha.2) hb.pos ha.pos (by omega)
  simp [bd_ok, lf_some, cl_ok, a_ret, a_op, a_un, a_test, a_and, a_or, a_not, a_andV, a_orV, a_notV, a_if, a_sif, a_nil, a_cons, a_star, a_list, a_tup, a_sized, a_call, a_built, a_seq, a_set, a_own, a_sret, a_next, a_isi, a_slice, a_part, a_nopart, a_range, a_seqS, a_varP, a_par2, a_xp, a_xo, a_xn, a_asg, a_make, a_chg, a_ixO, a_lenO, a_cntO, items_lst, items_tup, sizeOk, boolD, cmpD, slOf, intOf_int, len_encL, ans_rt, a_fn, List.replicate, F_law_below, g_law_below, enc, ix0, ix1, mul_of f1, mul_of f2, ltI, Rat.lt_iff]
end
def ansX : Option (Except Exn (En × Fl)) → Option (Except Exn (List D × D))
  | some (.ok (ρ', .rt d)) => (match box0 ρ' with
    | some es => some (.ok (es, d))
    | none => none)
  | some (.ok (ρ', .nx)) => (match box0 ρ' with
    | some es => some (.ok (es, .none))
    | none => none)
  | _ => none
theorem ansX_rt (es : List D) (ρ : En) (d : D) : ansX (some (.ok (.box es :: ρ, .rt d))) = some (.ok (es, d)) := id rfl
theorem a_fnX {n m : Nat} {g : Mo Fl} {ds as : List D} (h : as.length = n) : guardX n (runX m g) ds as = ansX (g (.box ds :: (as.map Sl.pur ++ List.replicate (m - as.length) .no))) := by
  unfold guardX
  rw [show Nat.beq as.length n = true by rw [h]; exact Nat.beq_refl n]
  rfl
def Small (m : Nat) (q : Rat) : Prop := ∃ t d : Int, (d = 1 ∨ d = 2 ∨ d = 3) ∧ -(m : Int) ≤ t ∧ t ≤ m ∧ q = Rat.divInt t d
theorem small_run {b : List D} {m : Int} {most : Nat} (hb : Bx b m) (hm : m < 100000000000) (h : most ≤ 1000) : ∃ b' q, F_law_small b [.int most] = some (.ok (b', enc q)) ∧ Bx b' (m + 2) ∧ Small most q := by
  obtain ⟨b1, r, h1, x1, r0, r1⟩ := take_run (n := 2 * (most : Int) + 1) hb (by omega) (by omega) (by omega)
  have h1' : F_law_take b [.int (2 * (most : Int) + 1)] = some (.ok (b1, .int r)) := h1
  obtain ⟨b2, d, h2, x2, hd⟩ := pick_run (items := [.int 1, .int 1, .int 1, .int 2, .int 3]) x1 (by omega) (by decide) (by decide)
  have h2' : F_law_pick b1 [.list [.int 1, .int 1, .int 1, .int 2, .int 3]] = some (.ok (b2, d)) := h2
  have hd' : ∃ z : Int, d = .int z ∧ (z = 1 ∨ z = 2 ∨ z = 3) := by
    simp only [List.mem_cons, List.not_mem_nil, or_false] at hd
    rcases hd with rfl | rfl | rfl | rfl | rfl
    · exact ⟨_, rfl, .inl rfl⟩
    · exact ⟨_, rfl, .inl rfl⟩
    · exact ⟨_, rfl, .inl rfl⟩
    · exact ⟨_, rfl, .inr (.inl rfl)⟩
    · exact ⟨_, rfl, .inr (.inr rfl)⟩
  obtain ⟨z, rfl, hz⟩ := hd'
  have hf : F_law_fr [.int (r - most), .int z] = _ := law_fr_enc (pow_le9 (k := 20) (by decide) (by omega)) (by omega) (Nat.lt_of_lt_of_le (show z.natAbs < 2 ^ 2 by omega) (Nat.pow_le_pow_right (by decide) (by decide)))
  have mf : mulD (.int 2) (.int (most : Int)) = some (.int (2 * (most : Int))) := mul_of (fit_of (by decide) (by omega))
  refine ⟨b2, _, ?_, x2.mono (by omega), r - most, z, hz, by omega, by omega, rfl⟩
  unfold F_law_small
  rw [a_fnX (by rfl)]
  simp [bd_ok, lf_some, cl_ok, a_ret, a_op, a_un, a_test, a_and, a_or, a_not, a_andV, a_orV, a_notV, a_if, a_sif, a_nil, a_cons, a_star, a_list, a_tup, a_sized, a_call, a_built, a_seq, a_set, a_own, a_sret, a_next, a_isi, a_slice, a_part, a_nopart, a_range, a_seqS, a_varP, a_par2, a_xp, a_xo, a_xn, a_asg, a_make, a_chg, a_ixO, a_lenO, a_cntO, items_lst, items_tup, sizeOk, boolD, cmpD, slOf, intOf_int, len_encL, ans_rt, a_fn, List.replicate, g_law_small, mf, addD, a_callX, atL, Sl.ls, Sl.put, h1', subD, g_law_small_1, h2', hf, ansX_rt]
end HB
namespace HB
open PySem L2
theorem cntR_snoc (fs : List Rat) (x q : Rat) : cntR (fs ++ [x]) q = cntR fs q + if x = q then 1 else 0 := by
  unfold cntR
  rw [List.filter_append, List.length_append]
  by_cases h : x = q <;> simp [h]
theorem at0_app {fs : List Rat} {x : Rat} {i : Nat} (h : i < fs.length) : at0 (fs ++ [x]) i = at0 fs i := by
  rw [at0_lt h, at0_lt (by simp; omega), List.getElem_append_left h]
theorem at0_new (fs : List Rat) (x : Rat) : at0 (fs ++ [x]) fs.length = x := by
  rw [at0_lt (by simp)]
  simp
theorem mem_at0 {fs : List Rat} {q : Rat} (h : q ∈ fs) : ∃ i, i < fs.length ∧ at0 fs i = q := by
  obtain ⟨i, hi, e⟩ := List.getElem_of_mem h
  exact ⟨i, hi, by rw [at0_lt hi, e]⟩
theorem at0_mem {fs : List Rat} {i : Nat} (h : i < fs.length) : at0 fs i ∈ fs := by
  rw [at0_lt h]
  exact List.getElem_mem h
abbrev lastR (fs : List Rat) : Rat := at0 fs (fs.length - 1)
structure MI (n : Nat) (fs : List Rat) : Prop where
  ne : 0 < fs.length
  asc : ∀ i, i + 1 < fs.length → at0 fs i ≤ at0 fs (i + 1)
  c0 : cntR fs (at0 fs 0) = 1
  st : 1 < fs.length → at0 fs 0 < at0 fs 1
  ci : ∀ i, 0 < i → i < fs.length → cntR fs (at0 fs i) ≤ n
theorem mono_of {fs : List Rat} (asc : ∀ i, i + 1 < fs.length → at0 fs i ≤ at0 fs (i + 1)) : ∀ i j, i ≤ j → j < fs.length → at0 fs i ≤ at0 fs j := by
  intro i j h
  induction h with
  | refl => intro _; exact Rat.le_refl
  | step _ ih =>
    intro hj
    exact Rat.le_trans (ih (by omega)) (asc _ hj)
theorem MI.le {n : Nat} {fs : List Rat} (h : MI n fs) {q : Rat} (hq : q ∈ fs) : q ≤ lastR fs := by
  obtain ⟨i, hi, rfl⟩ := mem_at0 hq
  exact mono_of h.asc i _ (by omega) (by omega)
theorem cnt_zero {fs : List Rat} {x : Rat} (h : ∀ q ∈ fs, q < x) : cntR fs x = 0 := by
  unfold cntR
  rw [List.length_eq_zero_iff, List.filter_eq_nil_iff]
  intro q hq
  have := h q hq
  simp
  grind
theorem MI.new {n : Nat} {fs : List Rat} {x : Rat} (h : MI n fs) (hx : lastR fs < x) (hn : 1 ≤ n) : MI n (fs ++ [x]) := by
  have lt : ∀ q ∈ fs, q < x := fun q hq => by have := h.le hq; grind
  have p := h.ne
  refine ⟨by simp, fun i hi => ?_, ?_, ?_, fun i h0 hi => ?_⟩
  · simp at hi
    rw [at0_app (by omega)]
    by_cases e : i + 1 < fs.length
    · rw [at0_app e]; exact h.asc i e
    · rw [show i + 1 = fs.length by omega, at0_new]
      have := lt _ (at0_mem (fs := fs) (i := i) (by omega))
      grind
  · rw [at0_app p, cntR_snoc, h.c0, if_neg (by have := lt _ (at0_mem p); grind)]
  · intro _
    rw [at0_app p]
    by_cases e : 1 < fs.length
    · rw [at0_app e]; exact h.st e
    · rw [show 1 = fs.length by omega, at0_new]; exact lt _ (at0_mem p)
  · simp at hi
    by_cases e : i < fs.length
    · rw [at0_app e, cntR_snoc, if_neg (by have := lt _ (at0_mem e); grind)]
      exact h.ci i h0 e
    · rw [show i = fs.length by omega, at0_new, cntR_snoc, cnt_zero lt, if_pos rfl]
      omega
theorem MI.again {n : Nat} {fs : List Rat} (h : MI n fs) (h1 : 1 < fs.length) (hc : cntR fs (lastR fs) < n) : MI n (fs ++ [lastR fs]) := by
  have p := h.ne
  have ne0 : lastR fs ≠ at0 fs 0 := by
    have s1 := h.st h1
    have s2 := mono_of h.asc 1 (fs.length - 1) (by omega) (by omega)
    grind
  refine ⟨by simp, fun i hi => ?_, ?_, ?_, fun i h0 hi => ?_⟩
  · simp at hi
    rw [at0_app (by omega)]
    by_cases e : i + 1 < fs.length
    · rw [at0_app e]; exact h.asc i e
    · rw [show i + 1 = fs.length by omega, at0_new]
      exact h.le (at0_mem (by omega))
  · rw [at0_app p, cntR_snoc, h.c0, if_neg ne0]
  · intro _
    rw [at0_app p, at0_app h1]
    exact h.st h1
  · simp at hi
    have key : ∀ q, q = lastR fs ∨ cntR fs q ≤ n → cntR (fs ++ [lastR fs]) q ≤ n := fun q hq => by
      rw [cntR_snoc]
      split
      · rename_i e; subst e; omega
      · rcases hq with rfl | hq
        · rename_i e; exact absurd rfl e
        · omega
    by_cases e : i < fs.length
    · rw [at0_app e]; exact key _ (.inr (h.ci i h0 e))
    · rw [show i = fs.length by omega, at0_new]; exact key _ (.inl rfl)
theorem MI.good {n : Nat} {fs : List Rat} {x : Rat} (h : MI n fs) (hx : lastR fs < x) : GoodM n (fs ++ [x]) := by
  have lt : ∀ q ∈ fs, q < x := fun q hq => by have := h.le hq; grind
  have p := h.ne
  refine ⟨by simp; omega, fun i hi => ?_, ?_, ?_, fun i h0 hi => ?_⟩
  · simp at hi
    rw [at0_app (by omega)]
    by_cases e : i + 1 < fs.length
    · rw [at0_app e]; exact h.asc i e
    · rw [show i + 1 = fs.length by omega, at0_new]
      have := lt _ (at0_mem (fs := fs) (i := i) (by omega))
      grind
  · rw [at0_app p, cntR_snoc, h.c0, if_neg (by have := lt _ (at0_mem p); grind)]
  · rw [List.length_append, List.length_singleton, Nat.add_sub_cancel, at0_new, cntR_snoc, cnt_zero lt, if_pos rfl]
  · simp at hi
    rw [at0_app (by omega), cntR_snoc, if_neg (by have := lt _ (at0_mem (fs := fs) (i := i) (by omega)); grind)]
    exact h.ci i h0 (by omega)
end HB
namespace HB
open PySem L2
theorem canLay_encL : ∀ fs : List Rat, PyData.canLayAll0 (encL fs) = true
  | [] => rfl
  | q :: fs => by
    have ih := canLay_encL fs
    unfold encL at ih ⊢
    simp [PyData.canLayAll0, enc, PyData.canLay0, ih]
theorem depth_encL : ∀ fs : List Rat, PyData.depthAll (encL fs) ≤ 1
  | [] => by simp [encL, PyData.depthAll]
  | q :: fs => by
    have ih := depth_encL fs
    unfold encL at ih ⊢
    simp [PyData.depthAll, enc, PyData.depth]
    exact Nat.max_le.mpr ⟨Nat.le_refl _, ih⟩
theorem shaped_encL (fs : List Rat) : SeqAt.shaped (.list (encL fs)) = true := by
  have h1 := canLay_encL fs
  have h2 := depth_encL fs
  have e1 : PyData.canLay0 (.list (encL fs)) = true := by simp [PyData.canLay0, h1]
  have e2 : PyData.depth (.list (encL fs)) = PyData.depthAll (encL fs) + 1 := by simp [PyData.depth]
  unfold SeqAt.shaped
  rw [e1, e2, decide_eq_true (by omega)]
  rfl
theorem shaped_enc (q : Rat) : SeqAt.shaped (enc q) = true := by simp [enc, SeqAt.shaped, PyData.canLay0, PyData.canLayAll0, PyData.depth, PyData.depthAll]
theorem eqv_enc (a b : Rat) : PyData.eqv (enc a) (enc b) = decide (a = b) := by
  simp only [enc, PyData.eqv, PyData.eqvAll, rat_eq, Bool.and_true, Bool.decide_and]
  rw [Bool.eq_iff_iff]
  simp only [Bool.and_eq_true, beq_iff_eq, decide_eq_true_eq, Int.natCast_inj]
theorem cnt_enc (fs : List Rat) (q : Rat) : (encL fs).countP (fun z => PyData.eqv z (enc q)) = cntR fs q := by
  unfold encL cntR
  rw [List.countP_map, List.countP_eq_length_filter]
  congr 1
  apply List.filter_congr
  intro x _
  exact eqv_enc x q
theorem both_cnt (fs : List Rat) (q : Rat) : bothD (enc q) (.list (encL fs)) (.int ((encL fs).countP (fun z => PyData.eqv z (enc q)) : Nat)) = some (.int (cntR fs q : Nat)) := by
  unfold bothD
  rw [if_pos ⟨shaped_enc q, shaped_encL fs⟩, cnt_enc]
abbrev EnM (b : List D) (n most : Nat) (fs : List Rat) (x4 x5 x6 : Sl) : En := [.box b, .pur (.int n), .pur (.int most), .own (encL fs), x4, x5, x6]
def Stp (s : Rat) : Prop := 0 < s ∧ Bd 6 12 s
theorem stp_of {d : D} (h : d ∈ [PyData.tuple [.int 1, .int 1], .tuple [.int 1, .int 2], .tuple [.int 1, .int 3], .tuple [.int 2, .int 1]]) : ∃ s, d = enc s ∧ Stp s := by
  simp only [List.mem_cons, List.not_mem_nil, or_false] at h
  rcases h with rfl | rfl | rfl | rfl
  · exact ⟨1, rfl, by decide, by decide, 6, rfl, by decide⟩
  · exact ⟨Rat.divInt 1 2, rfl, by decide, by decide, 3, rfl, by decide⟩
  · exact ⟨Rat.divInt 1 3, rfl, by decide, by decide, 2, rfl, by decide⟩
  · exact ⟨2, rfl, by decide, by decide, 12, rfl, by decide⟩
theorem encL_snoc (fs : List Rat) (x : Rat) : encL (fs ++ [x]) = encL fs ++ [enc x] := by simp [encL]
theorem ix_last_own {fs : List Rat} (h : 0 < fs.length) : ixD (.list (encL fs)) (.int (-1)) = some (enc (lastR fs)) := ixL_last h
theorem app_ok {fs : List Rat} {x : D} (h : fs.length < 1000000) : appC (encL fs) [x] = some (encL fs ++ [x]) := by
  have sz : Nat.blt (encL fs).length 1000000 = true := Nat.ble_eq_true_of_le (by rw [len_encL]; exact h)
  simp [appC, sz]
theorem marks_end {b : List D} {n most M : Nat} {fs : List Rat} {s : Rat} {same : Bool} {x4 : Sl} (hI : MI n fs) (hg : ∀ q ∈ fs, Bd 6 M q) (hM : M < 100000) (hl : fs.length < 1000) (hs : Stp s) (hsame : same = true → 1 < fs.length ∧ cntR fs (lastR fs) < n) :
    ∃ fs', g_law_marks_1 (EnM b n most fs x4 (.pur (enc s)) (.pur (.bool same))) = some (.ok (EnM b n most fs' x4 (.pur (enc s)) (.pur (.bool same)), .nx)) ∧ MI n fs' ∧ (∀ q ∈ fs', Bd 6 (M + 12) q) ∧ fs'.length ≤ fs.length + 1 := by
  have p := hI.ne
  have hlast : Bd 6 M (lastR fs) := hg _ (at0_mem (by omega))
  have mono : ∀ q ∈ fs, Bd 6 (M + 12) q := fun q hq => (hg q hq).mono (by omega)
  by_cases h0 : n = 0
  · subst h0
    have g0 : gtI 0 0 = false := rfl
    refine ⟨fs, ?_, hI, mono, by omega⟩
    simp [bd_ok, lf_some, cl_ok, a_ret, a_op, a_un, a_test, a_and, a_or, a_not, a_andV, a_orV, a_notV, a_if, a_sif, a_nil, a_cons, a_star, a_list, a_tup, a_sized, a_call, a_built, a_seq, a_set, a_own, a_sret, a_next, a_isi, a_slice, a_part, a_nopart, a_range, a_seqS, a_varP, a_par2, a_xp, a_xo, a_xn, a_asg, a_make, a_chg, a_ixO, a_lenO, a_cntO, items_lst, items_tup, sizeOk, boolD, cmpD, slOf, intOf_int, len_encL, ans_rt, a_fn, List.replicate, g_law_marks_1, g0]
  · have g1 : gtI (n : Int) 0 = true := decide_eq_true (by omega)
    have h1 := ix_last_own p
    cases same with
    | true =>
      obtain ⟨y1, y2⟩ := hsame rfl
      refine ⟨fs ++ [lastR fs], ?_, hI.again y1 y2, fun q hq => ?_, by simp⟩
      · simp [bd_ok, lf_some, cl_ok, a_ret, a_op, a_un, a_test, a_and, a_or, a_not, a_andV, a_orV, a_notV, a_if, a_sif, a_nil, a_cons, a_star, a_list, a_tup, a_sized, a_call, a_built, a_seq, a_set, a_own, a_sret, a_next, a_isi, a_slice, a_part, a_nopart, a_range, a_seqS, a_varP, a_par2, a_xp, a_xo, a_xn, a_asg, a_make, a_chg, a_ixO, a_lenO, a_cntO, items_lst, items_tup, sizeOk, boolD, cmpD, slOf, intOf_int, len_encL, ans_rt, a_fn, List.replicate, encL_snoc, g_law_marks_1, g1, negD, h1, app_ok (fs := fs) (by omega)]
      · rcases (List.mem_append.mp hq : _ ∨ _) with hq | hq
        · exact mono q hq
        · rw [List.mem_singleton.mp hq]; exact hlast.mono (by omega)
    | false =>
      have ea := law_add_enc (hlast.ht (B := 20) (by decide) (by omega)) (hs.2.ht (B := 20) (by decide) (by decide)) (by decide)
      refine ⟨fs ++ [lastR fs + s], ?_, hI.new (by have := hs.1; grind) (by omega), fun q hq => ?_, by simp⟩
      · simp [bd_ok, lf_some, cl_ok, a_ret, a_op, a_un, a_test, a_and, a_or, a_not, a_andV, a_orV, a_notV, a_if, a_sif, a_nil, a_cons, a_star, a_list, a_tup, a_sized, a_call, a_built, a_seq, a_set, a_own, a_sret, a_next, a_isi, a_slice, a_part, a_nopart, a_range, a_seqS, a_varP, a_par2, a_xp, a_xo, a_xn, a_asg, a_make, a_chg, a_ixO, a_lenO, a_cntO, items_lst, items_tup, sizeOk, boolD, cmpD, slOf, intOf_int, len_encL, ans_rt, a_fn, List.replicate, encL_snoc, g_law_marks_1, g1, negD, h1, ea, app_ok (fs := fs) (by omega)]
      · rcases (List.mem_append.mp hq : _ ∨ _) with hq | hq
        · exact mono q hq
        · rw [List.mem_singleton.mp hq]; exact hlast.add hs.2
theorem marks_turn {b : List D} {m : Int} {n most M : Nat} {fs : List Rat} {x4 x5 x6 : Sl} (hb : Bx b m) (hm : m < 100000000000) (hI : MI n fs) (hg : ∀ q ∈ fs, Bd 6 M q) (hM : M < 100000) (hl : fs.length < 1000) :
    ∃ b' fs' y5 y6, g_law_marks_3 (EnM b n most fs x4 x5 x6) = some (.ok (EnM b' n most fs' x4 y5 y6, .nx)) ∧ Bx b' (m + 2) ∧ MI n fs' ∧ (∀ q ∈ fs', Bd 6 (M + 12) q) ∧ fs'.length ≤ fs.length + 1 := by
  have p := hI.ne
  obtain ⟨b1, d, h1, x1, hd⟩ := pick_run (items := [PyData.tuple [.int 1, .int 1], .tuple [.int 1, .int 2], .tuple [.int 1, .int 3], .tuple [.int 2, .int 1]]) hb (by omega) (by decide) (by decide)
  have h1' : F_law_pick b [.list [PyData.tuple [.int 1, .int 1], .tuple [.int 1, .int 2], .tuple [.int 1, .int 3], .tuple [.int 2, .int 1]]] = some (.ok (b1, d)) := h1
  obtain ⟨s, rfl, hs⟩ := stp_of hd
  have e1 : g_law_marks_3 (EnM b n most fs x4 x5 x6) = g_law_marks_2 (EnM b1 n most fs x4 (.pur (enc s)) x6) := by
    simp [bd_ok, lf_some, cl_ok, a_ret, a_op, a_un, a_test, a_and, a_or, a_not, a_andV, a_orV, a_notV, a_if, a_sif, a_nil, a_cons, a_star, a_list, a_tup, a_sized, a_call, a_built, a_seq, a_set, a_own, a_sret, a_next, a_isi, a_slice, a_part, a_nopart, a_range, a_seqS, a_varP, a_par2, a_xp, a_xo, a_xn, a_asg, a_make, a_chg, a_ixO, a_lenO, a_cntO, items_lst, items_tup, sizeOk, boolD, cmpD, slOf, intOf_int, len_encL, ans_rt, a_fn, List.replicate, g_law_marks_3, a_callX, atL, Sl.ls, Sl.put, h1']
  rw [e1]
  have il := ix_last_own p
  have bc := both_cnt fs (lastR fs)
  by_cases c1 : 1 < fs.length
  · have g1 : gtI (fs.length : Int) 1 = true := decide_eq_true (by omega)
    by_cases c2 : cntR fs (lastR fs) < n
    · have g2 : ltI (cntR fs (lastR fs) : Nat) (n : Int) = true := decide_eq_true (by omega)
      obtain ⟨b2, r, h2, x2, r0, r1⟩ := take_run (n := 3) x1 (by omega) (by decide) (by decide)
      have h2' : F_law_take b1 [.int 3] = some (.ok (b2, .int r)) := h2
      obtain ⟨fs', k1, k2, k3, k4⟩ := marks_end (b := b2) (most := most) (x4 := x4) (same := r == 0) hI hg hM hl hs fun _ => ⟨c1, c2⟩
      refine ⟨b2, fs', .pur (enc s), .pur (.bool (r == 0)), ?_, x2.mono (by omega), k2, k3, k4⟩
      rw [← k1]
      simp [bd_ok, lf_some, cl_ok, a_ret, a_op, a_un, a_test, a_and, a_or, a_not, a_andV, a_orV, a_notV, a_if, a_sif, a_nil, a_cons, a_star, a_list, a_tup, a_sized, a_call, a_built, a_seq, a_set, a_own, a_sret, a_next, a_isi, a_slice, a_part, a_nopart, a_range, a_seqS, a_varP, a_par2, a_xp, a_xo, a_xn, a_asg, a_make, a_chg, a_ixO, a_lenO, a_cntO, items_lst, items_tup, sizeOk, boolD, cmpD, slOf, intOf_int, len_encL, ans_rt, a_fn, List.replicate, g_law_marks_2, g1, negD, il, bc, g2, a_callX, atL, Sl.ls, Sl.put, h2', eqD]
    · have g2 : ltI (cntR fs (lastR fs) : Nat) (n : Int) = false := decide_eq_false (by omega)
      obtain ⟨fs', k1, k2, k3, k4⟩ := marks_end (b := b1) (most := most) (x4 := x4) (same := false) hI hg hM hl hs (by simp)
      refine ⟨b1, fs', .pur (enc s), .pur (.bool false), ?_, x1.mono (by omega), k2, k3, k4⟩
      rw [← k1]
      simp [bd_ok, lf_some, cl_ok, a_ret, a_op, a_un, a_test, a_and, a_or, a_not, a_andV, a_orV, a_notV, a_if, a_sif, a_nil, a_cons, a_star, a_list, a_tup, a_sized, a_call, a_built, a_seq, a_set, a_own, a_sret, a_next, a_isi, a_slice, a_part, a_nopart, a_range, a_seqS, a_varP, a_par2, a_xp, a_xo, a_xn, a_asg, a_make, a_chg, a_ixO, a_lenO, a_cntO, items_lst, items_tup, sizeOk, boolD, cmpD, slOf, intOf_int, len_encL, ans_rt, a_fn, List.replicate, g_law_marks_2, g1, negD, il, bc, g2]
  · have g1 : gtI (fs.length : Int) 1 = false := decide_eq_false (by omega)
    obtain ⟨fs', k1, k2, k3, k4⟩ := marks_end (b := b1) (most := most) (x4 := x4) (same := false) hI hg hM hl hs (by simp)
    refine ⟨b1, fs', .pur (enc s), .pur (.bool false), ?_, x1.mono (by omega), k2, k3, k4⟩
    rw [← k1]
    simp [bd_ok, lf_some, cl_ok, a_ret, a_op, a_un, a_test, a_and, a_or, a_not, a_andV, a_orV, a_notV, a_if, a_sif, a_nil, a_cons, a_star, a_list, a_tup, a_sized, a_call, a_built, a_seq, a_set, a_own, a_sret, a_next, a_isi, a_slice, a_part, a_nopart, a_range, a_seqS, a_varP, a_par2, a_xp, a_xo, a_xn, a_asg, a_make, a_chg, a_ixO, a_lenO, a_cntO, items_lst, items_tup, sizeOk, boolD, cmpD, slOf, intOf_int, len_encL, ans_rt, a_fn, List.replicate, g_law_marks_2, g1]
theorem first_of {d : D} (h : d ∈ [PyData.tuple [.int 0, .int 1], .tuple [.int 0, .int 1], .tuple [.int 1, .int 2], .tuple [.int (-1), .int 1]]) : ∃ s, d = enc s ∧ Bd 6 6 s := by
  simp only [List.mem_cons, List.not_mem_nil, or_false] at h
  rcases h with rfl | rfl | rfl | rfl
  · exact ⟨0, rfl, by decide, 0, rfl, by decide⟩
  · exact ⟨0, rfl, by decide, 0, rfl, by decide⟩
  · exact ⟨Rat.divInt 1 2, rfl, by decide, 3, rfl, by decide⟩
  · exact ⟨-1, rfl, by decide, -6, rfl, by decide⟩
theorem end_of {d : D} (h : d ∈ [PyData.tuple [.int 1, .int 1], .tuple [.int 1, .int 2], .tuple [.int 2, .int 1]]) : ∃ s, d = enc s ∧ Stp s := by
  simp only [List.mem_cons, List.not_mem_nil, or_false] at h
  rcases h with rfl | rfl | rfl
  · exact ⟨1, rfl, by decide, by decide, 6, rfl, by decide⟩
  · exact ⟨Rat.divInt 1 2, rfl, by decide, by decide, 3, rfl, by decide⟩
  · exact ⟨2, rfl, by decide, by decide, 12, rfl, by decide⟩
theorem MI.one (n : Nat) (q : Rat) : MI n [q] := ⟨by simp, fun i hi => by simp at hi, by simp [cntR, at0], fun h => by simp at h, fun i h0 hi => by simp at hi; omega⟩
theorem marks_run {b : List D} {m : Int} {n most : Nat} (hb : Bx b m) (hm : m < 10000000000) (h2 : 2 ≤ most) (h3 : most ≤ 100) : ∃ b' ks, F_law_marks b [.int n, .int most] = some (.ok (b', .list (encL ks))) ∧ Bx b' (m + 2 * most + 3) ∧ GoodM n ks ∧ (∀ q ∈ ks, Bd 6 (12 * most + 6) q) ∧ ks.length ≤ most := by
  obtain ⟨b1, d, h1, x1, hd⟩ := pick_run (items := [PyData.tuple [.int 0, .int 1], .tuple [.int 0, .int 1], .tuple [.int 1, .int 2], .tuple [.int (-1), .int 1]]) hb (by omega) (by decide) (by decide)
  have h1' : F_law_pick b [.list [PyData.tuple [.int 0, .int 1], .tuple [.int 0, .int 1], .tuple [.int 1, .int 2], .tuple [.int (-1), .int 1]]] = some (.ok (b1, d)) := h1
  obtain ⟨q0, rfl, hq0⟩ := first_of hd
  have e1 : g_law_marks [.box b, .pur (.int n), .pur (.int most), .no, .no, .no, .no] = g_law_marks_5 (EnM b1 n most [q0] .no .no .no) := by
    simp [bd_ok, lf_some, cl_ok, a_ret, a_op, a_un, a_test, a_and, a_or, a_not, a_andV, a_orV, a_notV, a_if, a_sif, a_nil, a_cons, a_star, a_list, a_tup, a_sized, a_call, a_built, a_seq, a_set, a_own, a_sret, a_next, a_isi, a_slice, a_part, a_nopart, a_range, a_seqS, a_varP, a_par2, a_xp, a_xo, a_xn, a_asg, a_make, a_chg, a_ixO, a_lenO, a_cntO, items_lst, items_tup, sizeOk, boolD, cmpD, slOf, intOf_int, len_encL, ans_rt, a_fn, List.replicate, g_law_marks, a_callX, atL, Sl.ls, Sl.put, subD, h1', encL]
    rfl
  obtain ⟨b2, r, t1, x2, r0, r1⟩ := take_run (n := (most : Int) - 1) x1 (by omega) (by omega) (by omega)
  have t1' : F_law_take b1 [.int ((most : Int) - 1)] = some (.ok (b2, .int r)) := t1
  have rg : range1D [.int r] = _ := range1_of r.toNat (by omega) (by omega)
  have src : mRange range1D (mCons (mCallX F_law_take 0 (mCons (mOp subD (mVar 2) (mRet (.int 1))) (mNil))) (mNil)) (EnM b1 n most [q0] .no .no .no) = some (.ok (EnM b2 n most [q0] .no .no .no, constS ((List.range' 0 r.toNat).map natD))) := by
    rw [← List.range_eq_range']
    simp [bd_ok, lf_some, cl_ok, a_ret, a_op, a_un, a_test, a_and, a_or, a_not, a_andV, a_orV, a_notV, a_if, a_sif, a_nil, a_cons, a_star, a_list, a_tup, a_sized, a_call, a_built, a_seq, a_set, a_own, a_sret, a_next, a_isi, a_slice, a_part, a_nopart, a_range, a_seqS, a_varP, a_par2, a_xp, a_xo, a_xn, a_asg, a_make, a_chg, a_ixO, a_lenO, a_cntO, items_lst, items_tup, sizeOk, boolD, cmpD, slOf, intOf_int, len_encL, ans_rt, a_fn, List.replicate, a_callX, atL, Sl.ls, Sl.put, subD, t1', rg]
  obtain ⟨ρ', l1, b3, fs, z4, z5, z6, l2, x3, hI, hg, hl⟩ := for_range (v := 4) (body := g_law_marks_3) 0 r.toNat (fun i ρ => ∃ b fs x4 x5 x6, ρ = EnM b n most fs x4 x5 x6 ∧ Bx b (m + 2 + 2 * i) ∧ MI n fs ∧ (∀ q ∈ fs, Bd 6 (6 + 12 * i) q) ∧ fs.length ≤ 1 + i) src ⟨_, _, _, _, _, rfl, x2.mono (by omega), .one n q0, by simpa using hq0, by simp⟩ fun i ρ _ hi ⟨b, fs, x4, x5, x6, hρ, hB, hI, hg, hl⟩ => by
    subst hρ
    obtain ⟨b', fs', y5, y6, k1, k2, k3, k4, k5⟩ := marks_turn (most := most) (x4 := .pur (natD i)) (x5 := x5) (x6 := x6) hB (by omega) hI hg (by omega) (by omega)
    exact ⟨_, .nx, k1, .inl rfl, b', fs', _, _, _, rfl, k2.mono (by omega), k3, fun q hq => (k4 q hq).mono (by omega), by omega⟩
  subst l2
  obtain ⟨b4, d4, p1, x4, hd4⟩ := pick_run (items := [PyData.tuple [.int 1, .int 1], .tuple [.int 1, .int 2], .tuple [.int 2, .int 1]]) x3 (by omega) (by decide) (by decide)
  have p1' : F_law_pick b3 [.list [PyData.tuple [.int 1, .int 1], .tuple [.int 1, .int 2], .tuple [.int 2, .int 1]]] = some (.ok (b4, d4)) := p1
  obtain ⟨s, rfl, hs⟩ := end_of hd4
  have hlast : Bd 6 (6 + 12 * (0 + r.toNat)) (lastR fs) := hg _ (at0_mem (by have := hI.ne; omega))
  have ea := law_add_enc (hlast.ht (B := 20) (by decide) (by omega)) (hs.2.ht (B := 20) (by decide) (by decide)) (by decide)
  have il := ix_last_own hI.ne
  have al : addD (.list (encL fs)) (.list [enc (lastR fs + s)]) = some (.list (encL (fs ++ [lastR fs + s]))) := by
    rw [encL_snoc]
    exact if_pos (by rw [len_encL]; simp; omega)
  refine ⟨b4, fs ++ [lastR fs + s], ?_, x4.mono (by omega), hI.good (by have := hs.1; grind), fun q hq => ?_, by simp; omega⟩
  · unfold F_law_marks
    rw [a_fnX (by rfl)]
    rw [show (PyData.int (n : Int) :: [PyData.int (most : Int)]).map Sl.pur ++ List.replicate (6 - [PyData.int (n : Int), .int (most : Int)].length) Sl.no = [.pur (.int n), .pur (.int most), .no, .no, .no, .no] from rfl, e1]
    unfold g_law_marks_5
    rw [a_seq, l1, bd_ok]
    simp [bd_ok, lf_some, cl_ok, a_ret, a_op, a_un, a_test, a_and, a_or, a_not, a_andV, a_orV, a_notV, a_if, a_sif, a_nil, a_cons, a_star, a_list, a_tup, a_sized, a_call, a_built, a_seq, a_set, a_own, a_sret, a_next, a_isi, a_slice, a_part, a_nopart, a_range, a_seqS, a_varP, a_par2, a_xp, a_xo, a_xn, a_asg, a_make, a_chg, a_ixO, a_lenO, a_cntO, items_lst, items_tup, sizeOk, boolD, cmpD, slOf, intOf_int, len_encL, ans_rt, a_fn, List.replicate, g_law_marks_4, negD, il, a_callX, atL, Sl.ls, Sl.put, p1', ea, al, ansX_rt]
  · rcases (List.mem_append.mp hq : _ ∨ _) with hq | hq
    · exact (hg q hq).mono (by omega)
    · rw [List.mem_singleton.mp hq]; exact (hlast.add hs.2).mono (by omega)
end HB
namespace HB
open PySem L2
theorem ok_app (a b : Str) : PyData.strOk (a ++ b) = (PyData.strOk a && PyData.strOk b) := by
  show (a.cps ++ b.cps).all _ = (a.cps.all _ && b.cps.all _)
  exact Array.all_append
theorem ok_of (s : String) : PyData.strOk (Str.ofString s) = true := by
  rw [Str.ofString_eq_toList]
  unfold PyData.strOk
  simp only [List.all_toArray, List.all_map, List.all_eq_true, Function.comp_apply, decide_eq_true_eq]
  intro c _
  have := c.valid
  have e : c.toNat = c.val.toNat := rfl
  unfold UInt32.isValidChar Nat.isValidChar at this
  omega
theorem ok_join {sep : Str} (hs : PyData.strOk sep = true) : ∀ ts : List Str, (∀ t ∈ ts, PyData.strOk t = true) → PyData.strOk (Str.join sep ts) = true
  | [], _ => by show PyData.strOk Str.empty = true; decide +kernel
  | [t], h => h t List.mem_cons_self
  | t :: u :: ts, h => by
    have ih := ok_join hs (u :: ts) fun x hx => h x (List.mem_cons_of_mem _ hx)
    have e : Str.join sep (t :: u :: ts) = t ++ sep ++ Str.join sep (u :: ts) := id rfl
    rw [e, ok_app, ok_app, h t List.mem_cons_self, hs, ih]
    rfl
theorem ne_str {x : Str} (h : PyData.strOk x = true) : neD (.str x) (.str x) = some (.bool false) := by simp [neD, SeqAt.shaped, PyData.canLay0, PyData.depth, PyData.eqv, h]
end HB
namespace HB
open PySem L2
theorem small_list {x1 x2 x3 x4 : Sl} : ∀ (items : List D) (b : List D) (m : Int), Bx b m → m + 2 * items.length < 100000000000 → ∃ b' qs, lcL [5] (gSet 5) (mRet true) (mCallX F_law_small 0 (mCons (mRet (.int 4)) (mNil))) items [.box b, x1, x2, x3, x4, .no] = some ([.box b', x1, x2, x3, x4, .no], encL qs) ∧ Bx b' (m + 2 * items.length) ∧ qs.length = items.length ∧ ∀ q ∈ qs, Small 4 q
  | [], b, m, hb, _ => ⟨b, [], rfl, by simpa using hb, rfl, by simp⟩
  | d :: items, b, m, hb, hm => by
    simp only [List.length_cons, Int.natCast_add, Int.natCast_one] at hm ⊢
    obtain ⟨b1, q, h1, h2, h3⟩ := small_run (most := 4) hb (by omega) (by decide)
    have h1' : F_law_small b [.int 4] = some (.ok (b1, enc q)) := h1
    obtain ⟨b', qs, k1, k2, k3, k4⟩ := small_list (x1 := x1) (x2 := x2) (x3 := x3) (x4 := x4) items b1 (m + 2) h2 (by omega)
    have e : mCallX F_law_small 0 (mCons (mRet (.int 4)) (mNil)) [.box b, x1, x2, x3, x4, .pur d] = some (.ok ([.box b1, x1, x2, x3, x4, .pur d], enc q)) := by
      simp [bd_ok, lf_some, cl_ok, a_ret, a_op, a_un, a_test, a_and, a_or, a_not, a_andV, a_orV, a_notV, a_if, a_sif, a_nil, a_cons, a_star, a_list, a_tup, a_sized, a_call, a_built, a_seq, a_set, a_own, a_sret, a_next, a_isi, a_slice, a_part, a_nopart, a_range, a_seqS, a_varP, a_par2, a_xp, a_xo, a_xn, a_asg, a_make, a_chg, a_ixO, a_lenO, a_cntO, items_lst, items_tup, sizeOk, boolD, cmpD, slOf, intOf_int, len_encL, ans_rt, a_fn, List.replicate, a_callX, atL, Sl.ls, Sl.put, h1']
    refine ⟨b', q :: qs, ?_, k2.mono (by omega), by simp [k3], fun x hx => ?_⟩
    · simp only [lcL, gSet, List.set, mRet, e, wipeE]
      rw [k1]
      rfl
    · rcases List.mem_cons.mp hx with rfl | hx
      · exact h3
      · exact k4 x hx
theorem drawn_run {b : List D} {m : Int} {dg most : Nat} (hb : Bx b m) (hm : m < 1000000000) (h2 : 2 ≤ most) (h3 : most ≤ 100) (hdg : dg ≤ 100) : ∃ b' n ks hs, F_law_drawn b [.int dg, .int most] = some (.ok (b', .tuple [.int (n : Nat), .list (encL ks), .list (encL hs)])) ∧ Bx b' (m + 1000) ∧ n ≤ dg ∧ GoodM n ks ∧ (∀ q ∈ ks, Bd 6 (12 * most + 6) q) ∧ ks.length ≤ most ∧ hs.length + 1 = n + ks.length ∧ ∀ q ∈ hs, Small 4 q := by
  obtain ⟨b1, r, h1, x1, r0, r1⟩ := take_run (n := (dg : Int) + 1) hb (by omega) (by omega) (by omega)
  obtain ⟨n, rfl⟩ : ∃ n : Nat, r = n := ⟨r.toNat, by omega⟩
  have h1' : F_law_take b [.int ((dg : Int) + 1)] = some (.ok (b1, .int n)) := h1
  obtain ⟨b2, ks, k1, x2, k2, k3, k4⟩ := marks_run (n := n) (most := most) x1 (by omega) h2 h3
  have kl := k2.len
  have rg : range1D [.int ((n : Int) + ks.length - 1)] = _ := range1_of (n + ks.length - 1) (by omega) (by omega)
  obtain ⟨b3, hs, l1, x3, l2, l3⟩ := small_list (x1 := .pur (.int dg)) (x2 := .pur (.int most)) (x3 := .pur (.int n)) (x4 := .pur (.list (encL ks))) ((List.range (n + ks.length - 1)).map natD) b2 _ x2 (by simp; omega)
  have bl : Nat.blt ((List.range (n + ks.length - 1)).map natD).length 1000000 = true := Nat.ble_eq_true_of_le (by simp; omega)
  have bk : mBlk [5] (mRange range1D (mCons (mOp subD (mOp addD (mVar 3) (mBuilt lenD (mCons (mVar 4) (mNil)))) (mRet (.int 1))) (mNil))) (lcBody [5] (gSet 5) (mRet true) (mCallX F_law_small 0 (mCons (mRet (.int 4)) (mNil)))) [.box b2, .pur (.int dg), .pur (.int most), .pur (.int n), .pur (.list (encL ks)), .no] = some (.ok ([.box b3, .pur (.int dg), .pur (.int most), .pur (.int n), .pur (.list (encL ks)), .no], encL hs)) := by
    have src : mRange range1D (mCons (mOp subD (mOp addD (mVar 3) (mBuilt lenD (mCons (mVar 4) (mNil)))) (mRet (.int 1))) (mNil)) [.box b2, .pur (.int dg), .pur (.int most), .pur (.int n), .pur (.list (encL ks)), .no] = some (.ok ([.box b2, .pur (.int dg), .pur (.int most), .pur (.int n), .pur (.list (encL ks)), .no], constS ((List.range (n + ks.length - 1)).map natD))) := by
      simp [bd_ok, lf_some, cl_ok, a_ret, a_op, a_un, a_test, a_and, a_or, a_not, a_andV, a_orV, a_notV, a_if, a_sif, a_nil, a_cons, a_star, a_list, a_tup, a_sized, a_call, a_built, a_seq, a_set, a_own, a_sret, a_next, a_isi, a_slice, a_part, a_nopart, a_range, a_seqS, a_varP, a_par2, a_xp, a_xo, a_xn, a_asg, a_make, a_chg, a_ixO, a_lenO, a_cntO, items_lst, items_tup, sizeOk, boolD, cmpD, slOf, intOf_int, len_encL, ans_rt, a_fn, List.replicate, lenD, addD, subD, rg]
    unfold mBlk mBind
    simp only [src, noOwn, lcBody, constS, bl]
    rw [show wipeE [Sl.box b2, .pur (.int dg), .pur (.int most), .pur (.int n), .pur (.list (encL ks)), .no] [5] = [.box b2, .pur (.int dg), .pur (.int most), .pur (.int n), .pur (.list (encL ks)), .no] from rfl, l1]
    rfl
  refine ⟨b3, n, ks, hs, ?_, x3.mono (by simp; omega), by omega, k2, k3, k4, by rw [l2]; simp; omega, l3⟩
  unfold F_law_drawn
  rw [a_fnX (by rfl)]
  simp [bd_ok, lf_some, cl_ok, a_ret, a_op, a_un, a_test, a_and, a_or, a_not, a_andV, a_orV, a_notV, a_if, a_sif, a_nil, a_cons, a_star, a_list, a_tup, a_sized, a_call, a_built, a_seq, a_set, a_own, a_sret, a_next, a_isi, a_slice, a_part, a_nopart, a_range, a_seqS, a_varP, a_par2, a_xp, a_xo, a_xn, a_asg, a_make, a_chg, a_ixO, a_lenO, a_cntO, items_lst, items_tup, sizeOk, boolD, cmpD, slOf, intOf_int, len_encL, ans_rt, a_fn, List.replicate, g_law_drawn, addD, a_callX, atL, Sl.ls, Sl.put, h1', g_law_drawn_2, k1, g_law_drawn_1, bk, ansX_rt]
end HB
namespace HB
section
variable {k : Nat → Rat} {t : Rat} {s : Nat}
/-- sums of the first n -/
def sm (n : Nat) (f : Nat → Rat) : Rat := match n with
  | 0 => 0
  | n + 1 => sm n f + f n
end
end HB
namespace HB
/-- knots with a full piece -/
structure Kn (p L : Nat) (k : Nat → Rat) : Prop where
  mono : ∀ i j, i ≤ j → j < L → k i ≤ k j
  lo : ∀ i, i ≤ p → k i = k 0
  hi : ∀ i, L ≤ i + p + 1 → i < L → k i = k (L - 1)
  big : 2 * p + 2 ≤ L
  mu : ∀ j, j + p < L → k 0 < k j → k j < k (L - 1) → k j < k (j + p)
section
variable {p L : Nat} {k : Nat → Rat} {t : Rat} {s : Nat}
/-- k (i + 1) + .. + k (i + d) -/
def inner (k : Nat → Rat) (i d : Nat) : Rat := sm d fun j => k (i + 1 + j)
end
end HB
namespace HB
section
variable {p L : Nat} {k : Nat → Rat} {t : Rat}
theorem ivt (h0 : k 0 ≤ t) : ∀ n, t < k n → ∃ i, i < n ∧ k i ≤ t ∧ t < k (i + 1)
  | 0, h => by grind
  | n + 1, h => by
    by_cases c : t < k n
    · obtain ⟨i, h1, h2⟩ := ivt h0 n c
      exact ⟨i, by omega, h2⟩
    · exact ⟨n, by omega, by grind, h⟩
theorem full_mem {i : Nat} : i ∈ full k (L - 1) ↔ i < L - 1 ∧ k i < k (i + 1) := by
  unfold full
  rw [List.mem_filter, List.mem_range, decide_eq_true_eq]
theorem full_ne (h : k 0 < k (L - 1)) : full k (L - 1) ≠ [] := by
  obtain ⟨i, h1, h2, h3⟩ := ivt (t := k 0) Rat.le_refl (L - 1) h
  exact List.ne_nil_of_mem (full_mem.mpr ⟨h1, by grind⟩)
end
section
variable {n : Nat} {ks : List Rat}
theorem kn_at {i : Nat} (h0 : 0 < ks.length) (hi : i < 2 * n + ks.length) : at0 (knots n ks) i = if i < n then at0 ks 0 else if i < n + ks.length then at0 ks (i - n) else lastR ks := by
  rw [at0_lt (by rw [knots_len]; exact hi)]
  unfold knots
  by_cases c1 : i < n
  · rw [if_pos c1, List.getElem_append_left (by simpa using c1), List.getElem_replicate]
  · rw [if_neg c1, List.getElem_append_right (by simpa using c1)]
    by_cases c2 : i < n + ks.length
    · rw [if_pos c2, List.getElem_append_left (by simp; omega)]
      simp [at0_lt (show i - n < ks.length by omega)]
    · rw [if_neg c2, List.getElem_append_right (by simp; omega), List.getElem_replicate]
theorem cnt_ge {a r : Nat} {q : Rat} (h : a + r < ks.length) (he : ∀ j, a ≤ j → j ≤ a + r → at0 ks j = q) : r + 1 ≤ cntR ks q := by
  have sl : ((ks.drop a).take (r + 1)).Sublist ks := (List.take_sublist _ _).trans (List.drop_sublist _ _)
  have fl : ((ks.drop a).take (r + 1)).filter (fun x => decide (x = q)) = (ks.drop a).take (r + 1) := by
    rw [List.filter_eq_self]
    intro x hx
    obtain ⟨i, hi, e⟩ := List.getElem_of_mem hx
    simp at hi
    rw [List.getElem_take, List.getElem_drop] at e
    have := he (a + i) (by omega) (by omega)
    rw [at0_lt (by omega), e] at this
    simp [this]
  have ln : ((ks.drop a).take (r + 1)).length = r + 1 := by simp; omega
  have := (sl.filter fun x => decide (x = q)).length_le
  rw [fl, ln] at this
  exact this
theorem GoodM.ends (g : GoodM n ks) : at0 ks 0 < lastR ks := by
  have l := g.len
  have m := mono_of g.asc 0 (ks.length - 1) (by omega) (by omega)
  apply Decidable.byContradiction
  intro c
  have e : lastR ks = at0 ks 0 := by grind
  have := cnt_ge (ks := ks) (a := 0) (r := ks.length - 1) (q := at0 ks 0) (by omega) fun j h1 h2 => by
    have m1 := mono_of g.asc 0 j (by omega) (by omega)
    have m2 := mono_of g.asc j (ks.length - 1) (by omega) (by omega)
    grind
  have := g.c0
  omega
theorem GoodM.kn (g : GoodM n ks) : Kn n (2 * n + ks.length) (at0 (knots n ks)) := by
  have l := g.len
  have mo := mono_of g.asc
  have e : ∀ i, i < 2 * n + ks.length → at0 (knots n ks) i = if i < n then at0 ks 0 else if i < n + ks.length then at0 ks (i - n) else lastR ks := fun i hi => kn_at (by omega) hi
  have z : at0 (knots n ks) 0 = at0 ks 0 := by
    rw [e 0 (by omega)]
    split
    · rfl
    · rw [if_pos (by omega)]; congr 1; (omega)
  have y : at0 (knots n ks) (2 * n + ks.length - 1) = lastR ks := by
    rw [e _ (by omega), if_neg (by omega)]
    split
    · congr 1; omega
    · rfl
  refine ⟨fun i j h1 h2 => ?_, fun i hi => ?_, fun i h1 h2 => ?_, by omega, fun j hj h1 h2 => ?_⟩
  · rw [e i (by omega), e j h2]
    have a1 := mo 0 (ks.length - 1) (by omega) (by omega)
    by_cases c1 : i < n
    · rw [if_pos c1]
      by_cases c2 : j < n
      · rw [if_pos c2]; exact Rat.le_refl
      · rw [if_neg c2]
        by_cases c3 : j < n + ks.length
        · rw [if_pos c3]; exact mo 0 _ (by omega) (by omega)
        · rw [if_neg c3]; exact a1
    · rw [if_neg c1, if_neg (show ¬ j < n by omega)]
      by_cases c2 : i < n + ks.length
      · rw [if_pos c2]
        by_cases c3 : j < n + ks.length
        · rw [if_pos c3]; exact mo _ _ (by omega) (by omega)
        · rw [if_neg c3]; exact mo _ _ (by omega) (by omega)
      · rw [if_neg c2, if_neg (show ¬ j < n + ks.length by omega)]; exact Rat.le_refl
  · rw [z, e i (by omega)]
    by_cases c1 : i < n
    · rw [if_pos c1]
    · rw [if_neg c1, if_pos (by omega)]; congr 1; omega
  · rw [y, e i h2, if_neg (by omega)]
    by_cases c1 : i < n + ks.length
    · rw [if_pos c1]; congr 1; omega
    · rw [if_neg c1]
  · rw [z] at h1
    rw [y] at h2
    have c1 : n < j := by
      apply Decidable.byContradiction
      intro c
      rw [e j (by omega)] at h1
      split at h1
      · grind
      · rw [if_pos (by omega), show j - n = 0 by omega] at h1
        grind
    have c2 : j + 1 < n + ks.length := by
      apply Decidable.byContradiction
      intro c
      rw [e j (by omega), if_neg (by omega)] at h2
      split at h2
      · rw [show j - n = ks.length - 1 by omega] at h2
        grind
      · grind
    rw [e j (by omega), if_neg (by omega), if_pos (by omega)] at h1 h2 ⊢
    rw [e (j + n) (by omega), if_neg (by omega)]
    split
    · rename_i c3
      apply Decidable.byContradiction
      intro c4
      have := cnt_ge (ks := ks) (a := j - n) (r := n) (q := at0 ks (j - n)) (by omega) fun i q1 q2 => by
        have m1 := mo (j - n) i (by omega) (by omega)
        have m2 := mo i (j + n - n) (by omega) (by omega)
        grind
      have := g.ci (j - n) (by omega) (by omega)
      omega
    · exact h2
theorem GoodM.full (g : GoodM n ks) : full (at0 (knots n ks)) (2 * n + ks.length - 1) ≠ [] := by
  have l := g.len
  apply full_ne
  have z : at0 (knots n ks) 0 = at0 ks 0 := by
    rw [kn_at (by omega) (by omega)]
    split
    · rfl
    · rw [if_pos (by omega)]; congr 1; (omega)
  have y : at0 (knots n ks) (2 * n + ks.length - 1) = lastR ks := by
    rw [kn_at (by omega) (by omega), if_neg (by omega)]
    split
    · congr 1; omega
    · rfl
  rw [z, y]
  exact g.ends
end
end HB
namespace HB
theorem at0_map {f : Rat → Rat} {ks : List Rat} {i : Nat} (h : i < ks.length) : at0 (ks.map f) i = f (at0 ks i) := by
  rw [at0_lt (by simpa using h), at0_lt h]
  simp
theorem cnt_map {f : Rat → Rat} (hf : ∀ a b, f a = f b → a = b) (ks : List Rat) (q : Rat) : cntR (ks.map f) (f q) = cntR ks q := by
  unfold cntR
  rw [List.filter_map, List.length_map]
  congr 1
  apply List.filter_congr
  intro x _
  simp only [Function.comp_apply, decide_eq_decide]
  exact ⟨hf x q, fun e => by rw [e]⟩
section
variable {n : Nat} {ks hs : List Rat} {t : Rat}
theorem GoodM.map {f : Rat → Rat} (g : GoodM n ks) (hf : ∀ a b, a < b → f a < f b) : GoodM n (ks.map f) := by
  have l := g.len
  have inj : ∀ a b, f a = f b → a = b := fun a b e => by
    by_cases h : a < b
    · have := hf a b h; grind
    · by_cases h' : b < a
      · have := hf b a h'; grind
      · grind
  have le : ∀ a b, a ≤ b → f a ≤ f b := fun a b h => by
    by_cases e : a = b
    · rw [e]; exact Rat.le_refl
    · have := hf a b (by grind); grind
  refine ⟨by simpa using l, fun i hi => ?_, ?_, ?_, fun i h0 hi => ?_⟩
  · simp at hi
    rw [at0_map (by omega), at0_map (by omega)]
    exact le _ _ (g.asc i hi)
  · rw [at0_map (by omega), cnt_map inj]; exact g.c0
  · rw [List.length_map, at0_map (by omega), cnt_map inj]; exact g.cl
  · simp at hi
    rw [at0_map (by omega), cnt_map inj]; exact g.ci i h0 hi
end
end HB
namespace HB
open PySem L2
theorem Small.bd {m : Nat} {q : Rat} (h : Small m q) : Bd 6 (6 * m) q := by
  obtain ⟨t, d, hd, h1, h2, rfl⟩ := h
  refine ⟨by decide, t * (6 / d), ?_, ?_⟩
  · rcases hd with rfl | rfl | rfl
    · rw [show (6 : Int) / 1 = 6 from rfl, show Rat.divInt t 1 = Rat.divInt (t * 6) (1 * 6) from (Rat.divInt_mul_right (by decide)).symm]; rfl
    · rw [show (6 : Int) / 2 = 3 from rfl, show Rat.divInt t 2 = Rat.divInt (t * 3) (2 * 3) from (Rat.divInt_mul_right (by decide)).symm]; rfl
    · rw [show (6 : Int) / 3 = 2 from rfl, show Rat.divInt t 3 = Rat.divInt (t * 2) (3 * 2) from (Rat.divInt_mul_right (by decide)).symm]; rfl
  · rcases hd with rfl | rfl | rfl
    · rw [show (6 : Int) / 1 = 6 from rfl]; omega
    · rw [show (6 : Int) / 2 = 3 from rfl]; omega
    · rw [show (6 : Int) / 3 = 2 from rfl]; omega
section
variable {n N M : Nat} {ks hs : List Rat} {t : Rat} {z : Str}
theorem ne_enc (a b : Rat) : neD (enc a) (enc b) = some (.bool (!decide (a = b))) := by
  have e : neD (enc a) (enc b) = if SeqAt.shaped (enc a) = true ∧ SeqAt.shaped (enc b) = true then some (.bool (!PyData.eqv (enc a) (enc b))) else none := rfl
  rw [e, if_pos ⟨shaped_enc a, shaped_enc b⟩, eqv_enc]
end
end HB
namespace HB
open PySem L2
structure Vl (x : D) (q : Rat) : Prop where
  v : F_is_value [x] = some (.ok (.bool true))
  o : F_value_of [x] = some (.ok (enc q))
theorem vl_enc (q : Rat) : Vl (enc q) q := ⟨is_value_enc q, value_of_enc q⟩
def amB (n : Nat) (ks : List Rat) : Bool := !((List.range (ks.length - 1)).any fun i => decide (at0 ks (i + 1) < at0 ks i)) && (decide (cntR ks (at0 ks 0) = 1) && (decide (cntR ks (lastR ks) = 1) && ((ks.drop 1).take (ks.length - 2)).all fun q => decide (cntR ks q ≤ n)))
theorem seq_lst (xs : List D) : F_is_sequence [.list xs] = some (.ok (.bool true)) := id rfl
theorem am_short {n : Nat} {xs : List D} (h : xs.length ≤ 1) : F_are_marks [.int n, .list xs] = some (.ok (.bool false)) := by
  have l1 : leI (xs.length : Int) 1 = true := decide_eq_true (by omega)
  have ln : lenD [.list xs] = some (.int xs.length) := id rfl
  simp [bd_ok, lf_some, cl_ok, a_ret, a_op, a_un, a_test, a_and, a_or, a_not, a_andV, a_orV, a_notV, a_if, a_sif, a_nil, a_cons, a_star, a_list, a_tup, a_sized, a_call, a_built, a_seq, a_set, a_own, a_sret, a_next, a_isi, a_slice, a_part, a_nopart, a_range, a_seqS, a_varP, a_par2, a_xp, a_xo, a_xn, a_asg, a_make, a_chg, a_ixO, a_lenO, a_cntO, items_lst, items_tup, sizeOk, boolD, cmpD, slOf, intOf_int, len_encL, ans_rt, a_fn, List.replicate, F_are_marks, g_are_marks, seq_lst, ln, l1]
theorem vals_blk {v : Nat} {ρ : En} {i : Nat} {d : D} {xs : List D} (p : D → Bool) (hd : itemsD d = some xs) (hi : ρ[i]? = some (.pur d)) (hl : xs.length < 1000000) (ho : noOwn ρ [v] = true) (hv : v < ρ.length) (hp : ∀ x ∈ xs, F_is_value [x] = some (.ok (.bool (p x)))) : mBlk [v] (mSeqS (mVar i)) (lcBody [v] (gSet v) (mRet true) (mCall F_is_value (mCons (mVar v) (mNil)))) ρ = some (.ok (ρ, xs.map fun x => .bool (p x))) :=
  blk_map xs id _ (by simp [bd_ok, lf_some, cl_ok, a_ret, a_op, a_un, a_test, a_and, a_or, a_not, a_andV, a_orV, a_notV, a_if, a_sif, a_nil, a_cons, a_star, a_list, a_tup, a_sized, a_call, a_built, a_seq, a_set, a_own, a_sret, a_next, a_isi, a_slice, a_part, a_nopart, a_range, a_seqS, a_varP, a_par2, a_xp, a_xo, a_xn, a_asg, a_make, a_chg, a_ixO, a_lenO, a_cntO, items_lst, items_tup, sizeOk, boolD, cmpD, slOf, intOf_int, len_encL, ans_rt, a_fn, List.replicate, hi, hd]) hl ho fun x hx => by simp [bd_ok, lf_some, cl_ok, a_ret, a_op, a_un, a_test, a_and, a_or, a_not, a_andV, a_orV, a_notV, a_if, a_sif, a_nil, a_cons, a_star, a_list, a_tup, a_sized, a_call, a_built, a_seq, a_set, a_own, a_sret, a_next, a_isi, a_slice, a_part, a_nopart, a_range, a_seqS, a_varP, a_par2, a_xp, a_xo, a_xn, a_asg, a_make, a_chg, a_ixO, a_lenO, a_cntO, items_lst, items_tup, sizeOk, boolD, cmpD, slOf, intOf_int, len_encL, ans_rt, a_fn, List.replicate, hv, hp x hx]
theorem am_gen {n B : Nat} {L : List (D × Rat)} (hv : ∀ p ∈ L, Vl p.1 p.2) (hk : ∀ p ∈ L, Ht B p.2) (hB : 2 * B ≤ 9000) (h2 : 2 ≤ L.length) (hl : L.length ≤ 1000) : F_are_marks [.int n, .list (L.map (·.1))] = some (.ok (.bool (amB n (L.map (·.2))))) := by
  obtain ⟨ks, ek⟩ : ∃ ks, ks = L.map (·.2) := ⟨_, rfl⟩
  obtain ⟨xs, ex⟩ : ∃ xs, xs = L.map (·.1) := ⟨_, rfl⟩
  have lk : ks.length = L.length := by rw [ek]; simp
  have lx : xs.length = L.length := by rw [ex]; simp
  have hkk : ∀ q ∈ ks, Ht B q := fun q hq => by rw [ek] at hq; obtain ⟨p, hp, rfl⟩ := List.mem_map.mp hq; exact hk p hp
  rw [← ek, ← ex]
  have l1 : leI (xs.length : Int) 1 = false := decide_eq_false (by omega)
  have ln : lenD [.list xs] = some (.int xs.length) := id rfl
  have av := vals_blk (v := 4) (i := 1) (d := .list xs) (xs := xs) (ρ := [.pur (.int n), .pur (.list xs), .no, .no, .no, .no, .no, .no]) (fun _ => true) rfl rfl (by omega) rfl (by simp) fun x hx => by
    rw [ex] at hx
    obtain ⟨p, hp, rfl⟩ := List.mem_map.mp hx
    exact (hv p hp).v
  have alv := all_map (fun _ : D => true) xs
  rw [List.all_eq_true.mpr (fun _ _ => rfl)] at alv
  have b1 : mBlk [4] (mSeqS (mVar 1)) (lcBody [4] (gSet 4) (mRet true) (mCall F_value_of (mCons (mVar 4) (mNil)))) [.pur (.int n), .pur (.list xs), .no, .no, .no, .no, .no, .no] = some (.ok ([.pur (.int n), .pur (.list xs), .no, .no, .no, .no, .no, .no], encL ks)) := by
    have b := blk_map (v := 4) (src := mSeqS (mVar 1)) (elt := mCall F_value_of (mCons (mVar 4) (mNil))) (ρ := [.pur (.int n), .pur (.list xs), .no, .no, .no, .no, .no, .no]) L (·.1) (fun p => enc p.2) (by simp [bd_ok, lf_some, cl_ok, a_ret, a_op, a_un, a_test, a_and, a_or, a_not, a_andV, a_orV, a_notV, a_if, a_sif, a_nil, a_cons, a_star, a_list, a_tup, a_sized, a_call, a_built, a_seq, a_set, a_own, a_sret, a_next, a_isi, a_slice, a_part, a_nopart, a_range, a_seqS, a_varP, a_par2, a_xp, a_xo, a_xn, a_asg, a_make, a_chg, a_ixO, a_lenO, a_cntO, items_lst, items_tup, sizeOk, boolD, cmpD, slOf, intOf_int, len_encL, ans_rt, a_fn, List.replicate, ex]) (by omega) rfl fun p hp => by
      have := (hv p hp).o
      simp [bd_ok, lf_some, cl_ok, a_ret, a_op, a_un, a_test, a_and, a_or, a_not, a_andV, a_orV, a_notV, a_if, a_sif, a_nil, a_cons, a_star, a_list, a_tup, a_sized, a_call, a_built, a_seq, a_set, a_own, a_sret, a_next, a_isi, a_slice, a_part, a_nopart, a_range, a_seqS, a_varP, a_par2, a_xp, a_xo, a_xn, a_asg, a_make, a_chg, a_ixO, a_lenO, a_cntO, items_lst, items_tup, sizeOk, boolD, cmpD, slOf, intOf_int, len_encL, ans_rt, a_fn, List.replicate, this]
    rw [b, ek]
    simp [encL]
  have r1 : range1D [.int ((ks.length : Int) - 1)] = _ := range1_of (ks.length - 1) (by omega) (by omega)
  have b2 : mBlk [6] (mRange range1D (mCons (mOp subD (mBuilt lenD (mCons (mVar 2) (mNil))) (mRet (.int 1))) (mNil))) (lcBody [6] (gSet 6) (mRet true) (mCall F_is_less (mCons (mOp ixD (mVar 2) (mOp addD (mVar 6) (mRet (.int 1)))) (mCons (mOp ixD (mVar 2) (mVar 6)) (mNil))))) [.pur (.int n), .pur (.list xs), .pur (.list (encL ks)), .no, .no, .no, .no, .no] = some (.ok ([.pur (.int n), .pur (.list xs), .pur (.list (encL ks)), .no, .no, .no, .no, .no], (List.range (ks.length - 1)).map fun i => .bool (decide (at0 ks (i + 1) < at0 ks i)))) :=
    blk_map (List.range (ks.length - 1)) natD _ (by simp [bd_ok, lf_some, cl_ok, a_ret, a_op, a_un, a_test, a_and, a_or, a_not, a_andV, a_orV, a_notV, a_if, a_sif, a_nil, a_cons, a_star, a_list, a_tup, a_sized, a_call, a_built, a_seq, a_set, a_own, a_sret, a_next, a_isi, a_slice, a_part, a_nopart, a_range, a_seqS, a_varP, a_par2, a_xp, a_xo, a_xn, a_asg, a_make, a_chg, a_ixO, a_lenO, a_cntO, items_lst, items_tup, sizeOk, boolD, cmpD, slOf, intOf_int, len_encL, ans_rt, a_fn, List.replicate, lenD, subD, r1]) (by simp; omega) rfl fun i hi => by
      have hi := List.mem_range.mp hi
      have e1 : F_is_less [enc (at0 ks (i + 1)), enc (at0 ks i)] = _ := is_less_enc (at0_ht hkk (by omega)) (at0_ht hkk (by omega)) (by omega)
      simp [bd_ok, lf_some, cl_ok, a_ret, a_op, a_un, a_test, a_and, a_or, a_not, a_andV, a_orV, a_notV, a_if, a_sif, a_nil, a_cons, a_star, a_list, a_tup, a_sized, a_call, a_built, a_seq, a_set, a_own, a_sret, a_next, a_isi, a_slice, a_part, a_nopart, a_range, a_seqS, a_varP, a_par2, a_xp, a_xo, a_xn, a_asg, a_make, a_chg, a_ixO, a_lenO, a_cntO, items_lst, items_tup, sizeOk, boolD, cmpD, slOf, intOf_int, len_encL, ans_rt, a_fn, List.replicate, nat_add1, ixLn (ks := ks) (i := i) (by omega), ixLn (ks := ks) (i := i + 1) (by omega), e1]
  have an := any_map (fun i => decide (at0 ks (i + 1) < at0 ks i)) (List.range (ks.length - 1))
  unfold amB
  cases hd : (List.range (ks.length - 1)).any fun i => decide (at0 ks (i + 1) < at0 ks i) with
  | true =>
    rw [hd] at an
    simp [bd_ok, lf_some, cl_ok, a_ret, a_op, a_un, a_test, a_and, a_or, a_not, a_andV, a_orV, a_notV, a_if, a_sif, a_nil, a_cons, a_star, a_list, a_tup, a_sized, a_call, a_built, a_seq, a_set, a_own, a_sret, a_next, a_isi, a_slice, a_part, a_nopart, a_range, a_seqS, a_varP, a_par2, a_xp, a_xo, a_xn, a_asg, a_make, a_chg, a_ixO, a_lenO, a_cntO, items_lst, items_tup, sizeOk, boolD, cmpD, slOf, intOf_int, len_encL, ans_rt, a_fn, List.replicate, F_are_marks, g_are_marks, seq_lst, ln, l1, av, alv, g_are_marks_4, b1, g_are_marks_3, b2, an]
  | false =>
    rw [hd] at an
    have b3 : mBlk [5] (mSeqS (mVar 2)) (lcBody [5] (gSet 5) (mRet true) (mBuilt lenD (mCons (mList (mBlk [4] (mSeqS (mVar 2)) (lcBody [4] (gSet 4) (mTest (mOp eqD (mVar 4) (mVar 5))) (mVar 4)))) (mNil)))) [.pur (.int n), .pur (.list xs), .pur (.list (encL ks)), .no, .no, .no, .no, .no] = some (.ok ([.pur (.int n), .pur (.list xs), .pur (.list (encL ks)), .no, .no, .no, .no, .no], ks.map fun q => natD (cntR ks q))) :=
      blk_map ks enc _ (by simp [bd_ok, lf_some, cl_ok, a_ret, a_op, a_un, a_test, a_and, a_or, a_not, a_andV, a_orV, a_notV, a_if, a_sif, a_nil, a_cons, a_star, a_list, a_tup, a_sized, a_call, a_built, a_seq, a_set, a_own, a_sret, a_next, a_isi, a_slice, a_part, a_nopart, a_range, a_seqS, a_varP, a_par2, a_xp, a_xo, a_xn, a_asg, a_make, a_chg, a_ixO, a_lenO, a_cntO, items_lst, items_tup, sizeOk, boolD, cmpD, slOf, intOf_int, len_encL, ans_rt, a_fn, List.replicate]; rfl) (by omega) rfl fun q _ => by
        have b := blk_sel (v := 4) (src := mSeqS (mVar 2)) (test := mTest (mOp eqD (mVar 4) (mVar 5))) (elt := mVar 4) (ρ := [.pur (.int n), .pur (.list xs), .pur (.list (encL ks)), .no, .no, .pur (enc q), .no, .no]) ks enc (fun x => decide (x = q)) enc (by simp [bd_ok, lf_some, cl_ok, a_ret, a_op, a_un, a_test, a_and, a_or, a_not, a_andV, a_orV, a_notV, a_if, a_sif, a_nil, a_cons, a_star, a_list, a_tup, a_sized, a_call, a_built, a_seq, a_set, a_own, a_sret, a_next, a_isi, a_slice, a_part, a_nopart, a_range, a_seqS, a_varP, a_par2, a_xp, a_xo, a_xn, a_asg, a_make, a_chg, a_ixO, a_lenO, a_cntO, items_lst, items_tup, sizeOk, boolD, cmpD, slOf, intOf_int, len_encL, ans_rt, a_fn, List.replicate]; rfl) (by omega) rfl (fun x _ => by simp [bd_ok, lf_some, cl_ok, a_ret, a_op, a_un, a_test, a_and, a_or, a_not, a_andV, a_orV, a_notV, a_if, a_sif, a_nil, a_cons, a_star, a_list, a_tup, a_sized, a_call, a_built, a_seq, a_set, a_own, a_sret, a_next, a_isi, a_slice, a_part, a_nopart, a_range, a_seqS, a_varP, a_par2, a_xp, a_xo, a_xn, a_asg, a_make, a_chg, a_ixO, a_lenO, a_cntO, items_lst, items_tup, sizeOk, boolD, cmpD, slOf, intOf_int, len_encL, ans_rt, a_fn, List.replicate, eq_enc]) fun x _ _ => by simp [bd_ok, lf_some, cl_ok, a_ret, a_op, a_un, a_test, a_and, a_or, a_not, a_andV, a_orV, a_notV, a_if, a_sif, a_nil, a_cons, a_star, a_list, a_tup, a_sized, a_call, a_built, a_seq, a_set, a_own, a_sret, a_next, a_isi, a_slice, a_part, a_nopart, a_range, a_seqS, a_varP, a_par2, a_xp, a_xo, a_xn, a_asg, a_make, a_chg, a_ixO, a_lenO, a_cntO, items_lst, items_tup, sizeOk, boolD, cmpD, slOf, intOf_int, len_encL, ans_rt, a_fn, List.replicate]
        simp [bd_ok, lf_some, cl_ok, a_ret, a_op, a_un, a_test, a_and, a_or, a_not, a_andV, a_orV, a_notV, a_if, a_sif, a_nil, a_cons, a_star, a_list, a_tup, a_sized, a_call, a_built, a_seq, a_set, a_own, a_sret, a_next, a_isi, a_slice, a_part, a_nopart, a_range, a_seqS, a_varP, a_par2, a_xp, a_xo, a_xn, a_asg, a_make, a_chg, a_ixO, a_lenO, a_cntO, items_lst, items_tup, sizeOk, boolD, cmpD, slOf, intOf_int, len_encL, ans_rt, a_fn, List.replicate, b, lenD, natD, cntR]
    have j0 : ixD (.list (ks.map fun q => natD (cntR ks q))) (.int 0) = some (natD (cntR ks (at0 ks 0))) := by
      refine (ix_lst (z := 0) (i := 0) rfl (by simp; omega)).trans ?_
      rw [at0_lt (by omega)]
      simp
    have jl : ixD (.list (ks.map fun q => natD (cntR ks q))) (.int (-1)) = some (natD (cntR ks (lastR ks))) := by
      have ne : (ks.map fun q => natD (cntR ks q)) ≠ [] := fun z => by have := congrArg List.length z; simp at this; subst this; simp at lk; omega
      have e := atI_last ne
      refine Eq.trans (show _ = L2.atI (ks.map fun q => natD (cntR ks q)) (-1) from rfl) (e.trans ?_)
      show _ = some (natD (cntR ks (at0 ks (ks.length - 1))))
      rw [at0_lt (by omega)]
      simp [List.getLast_eq_getElem]
    have sl : slD (some 1) (some (-1)) (.list (ks.map fun q => natD (cntR ks q))) = some (.list (((ks.drop 1).take (ks.length - 2)).map fun q => natD (cntR ks q))) := by
      have s1 : HT.sIx ks.length 0 (some 1) = 1 := by rw [show (1 : Int) = ((1 : Nat) : Int) from rfl, HT.sIx_nat]; omega
      have s2 : HT.sIx ks.length ks.length (some (-1)) = ks.length - 1 := by
        show (if (-1 : Int) < 0 then (-1 + (ks.length : Int)).toNat else min (-1 : Int).toNat ks.length) = _
        rw [if_pos (by decide)]
        omega
      simp only [slD, cutD, List.length_map, s1, s2, List.map_take, List.map_drop]
      rw [show ks.length - 1 - 1 = ks.length - 2 by omega]
    have b4 : mBlk [7] (mSeqS (mSlice (mVar 3) (mPart (mRet (.int 1))) (mPart (mUn negD (mRet (.int 1)))))) (lcBody [7] (gSet 7) (mRet true) (mOp (cmpD leI) (mVar 7) (mVar 0))) [.pur (.int n), .pur (.list xs), .pur (.list (encL ks)), .pur (.list (ks.map fun q => natD (cntR ks q))), .no, .no, .no, .no] = some (.ok ([.pur (.int n), .pur (.list xs), .pur (.list (encL ks)), .pur (.list (ks.map fun q => natD (cntR ks q))), .no, .no, .no, .no], ((ks.drop 1).take (ks.length - 2)).map fun q => .bool (decide (cntR ks q ≤ n)))) :=
      blk_map ((ks.drop 1).take (ks.length - 2)) (fun q => natD (cntR ks q)) _ (by simp [bd_ok, lf_some, cl_ok, a_ret, a_op, a_un, a_test, a_and, a_or, a_not, a_andV, a_orV, a_notV, a_if, a_sif, a_nil, a_cons, a_star, a_list, a_tup, a_sized, a_call, a_built, a_seq, a_set, a_own, a_sret, a_next, a_isi, a_slice, a_part, a_nopart, a_range, a_seqS, a_varP, a_par2, a_xp, a_xo, a_xn, a_asg, a_make, a_chg, a_ixO, a_lenO, a_cntO, items_lst, items_tup, sizeOk, boolD, cmpD, slOf, intOf_int, len_encL, ans_rt, a_fn, List.replicate, negD, sl]) (by simp; omega) rfl fun q hq => by
        have : leI (cntR ks q : Nat) n = decide (cntR ks q ≤ n) := by
          unfold leI
          rw [decide_eq_decide]
          omega
        simp [bd_ok, lf_some, cl_ok, a_ret, a_op, a_un, a_test, a_and, a_or, a_not, a_andV, a_orV, a_notV, a_if, a_sif, a_nil, a_cons, a_star, a_list, a_tup, a_sized, a_call, a_built, a_seq, a_set, a_own, a_sret, a_next, a_isi, a_slice, a_part, a_nopart, a_range, a_seqS, a_varP, a_par2, a_xp, a_xo, a_xn, a_asg, a_make, a_chg, a_ixO, a_lenO, a_cntO, items_lst, items_tup, sizeOk, boolD, cmpD, slOf, intOf_int, len_encL, ans_rt, a_fn, List.replicate, natD, this]
    have al := all_map (fun q => decide (cntR ks q ≤ n)) ((ks.drop 1).take (ks.length - 2))
    generalize ((ks.drop 1).take (ks.length - 2)) = inn at b4 al
    generalize (inn.all fun q => decide (cntR ks q ≤ n)) = z at al
    have q1 : ∀ c : Nat, eqD (natD c) (.int 1) = some (.bool (decide (c = 1))) := fun c => by
      show some (PyData.bool ((c : Int) == 1)) = _
      by_cases h : c = 1
      · subst h; rfl
      · have : ((c : Int) == 1) = false := by rw [beq_eq_false_iff_ne]; omega
        rw [this, decide_eq_false h]
    by_cases c0 : cntR ks (at0 ks 0) = 1
    · by_cases c1 : cntR ks (lastR ks) = 1
      · simp [bd_ok, lf_some, cl_ok, a_ret, a_op, a_un, a_test, a_and, a_or, a_not, a_andV, a_orV, a_notV, a_if, a_sif, a_nil, a_cons, a_star, a_list, a_tup, a_sized, a_call, a_built, a_seq, a_set, a_own, a_sret, a_next, a_isi, a_slice, a_part, a_nopart, a_range, a_seqS, a_varP, a_par2, a_xp, a_xo, a_xn, a_asg, a_make, a_chg, a_ixO, a_lenO, a_cntO, items_lst, items_tup, sizeOk, boolD, cmpD, slOf, intOf_int, len_encL, ans_rt, a_fn, List.replicate, F_are_marks, g_are_marks, seq_lst, ln, l1, av, alv, g_are_marks_4, b1, g_are_marks_3, b2, an, g_are_marks_2, b3, g_are_marks_1, j0, q1, c0, negD, jl, c1, b4, al]
      · simp [bd_ok, lf_some, cl_ok, a_ret, a_op, a_un, a_test, a_and, a_or, a_not, a_andV, a_orV, a_notV, a_if, a_sif, a_nil, a_cons, a_star, a_list, a_tup, a_sized, a_call, a_built, a_seq, a_set, a_own, a_sret, a_next, a_isi, a_slice, a_part, a_nopart, a_range, a_seqS, a_varP, a_par2, a_xp, a_xo, a_xn, a_asg, a_make, a_chg, a_ixO, a_lenO, a_cntO, items_lst, items_tup, sizeOk, boolD, cmpD, slOf, intOf_int, len_encL, ans_rt, a_fn, List.replicate, F_are_marks, g_are_marks, seq_lst, ln, l1, av, alv, g_are_marks_4, b1, g_are_marks_3, b2, an, g_are_marks_2, b3, g_are_marks_1, j0, q1, c0, negD, jl, c1]
    · simp [bd_ok, lf_some, cl_ok, a_ret, a_op, a_un, a_test, a_and, a_or, a_not, a_andV, a_orV, a_notV, a_if, a_sif, a_nil, a_cons, a_star, a_list, a_tup, a_sized, a_call, a_built, a_seq, a_set, a_own, a_sret, a_next, a_isi, a_slice, a_part, a_nopart, a_range, a_seqS, a_varP, a_par2, a_xp, a_xo, a_xn, a_asg, a_make, a_chg, a_ixO, a_lenO, a_cntO, items_lst, items_tup, sizeOk, boolD, cmpD, slOf, intOf_int, len_encL, ans_rt, a_fn, List.replicate, F_are_marks, g_are_marks, seq_lst, ln, l1, av, alv, g_are_marks_4, b1, g_are_marks_3, b2, an, g_are_marks_2, b3, g_are_marks_1, j0, q1, c0]
end HB
namespace HB
open PySem L2
theorem textR_ok (q : Rat) : PyData.strOk (textR q) = true := by
  unfold textR
  split
  · exact ok_of _
  · rw [ok_app, ok_app, ok_app, show PyData.strOk (iS q.num) = true from ok_of _, show PyData.strOk (iS (q.den : Int)) = true from ok_of _]
    decide +kernel
theorem textB_ok (n : Nat) (ks hs : List Rat) : PyData.strOk (textB n ks hs) = true := by
  unfold textB
  rw [show ∀ (a : Str) (l : List Str), Txt.join a l = Str.join a l from fun a l => StrLaws.glued_eq_join a l]
  refine ok_join (by decide +kernel) _ fun t ht => ?_
  simp only [List.cons_append, List.nil_append, List.mem_cons, List.mem_append, List.mem_map] at ht
  rcases ht with e | e | e | ⟨q, _, e⟩ | e | ⟨q, _, e⟩
  · rw [e]; decide +kernel
  · rw [e]; exact ok_of _
  · rw [e]; decide +kernel
  · rw [← e]; exact textR_ok q
  · rw [e]; decide +kernel
  · rw [← e]; exact textR_ok q
theorem glue_len (sep : Str) : ∀ ts : List Str, (Str.join sep ts).length ≤ (ts.map (·.length)).sum + ts.length * sep.length
  | [] => by
    have e : Str.join sep [] = Str.empty := id rfl
    rw [e]
    exact Nat.zero_le _
  | [t] => by
    have e : Str.join sep [t] = t := id rfl
    rw [e]
    simp
  | t :: u :: ts => by
    have ih := glue_len sep (u :: ts)
    have e : Str.join sep (t :: u :: ts) = t ++ sep ++ Str.join sep (u :: ts) := id rfl
    rw [e, str_app, str_app]
    simp only [List.map_cons, List.sum_cons, List.length_cons, Nat.add_mul] at ih ⊢
    omega
theorem textB_len {n : Nat} {ks hs : List Rat} (hn : n < 1000) (hk : ∀ q ∈ ks, Ht 13 q) (hh : ∀ q ∈ hs, Ht 13 q) (lk : ks.length ≤ 200) (lh : hs.length ≤ 200) : (textB n ks hs).length ≤ 1000000 := by
  unfold textB
  rw [show ∀ (a : Str) (l : List Str), Txt.join a l = Str.join a l from fun a l => StrLaws.glued_eq_join a l]
  have nB : (n : Int).natAbs < 2 ^ 10 := by
    rw [Int.natAbs_natCast]
    exact Nat.lt_of_lt_of_le hn (by decide)
  have nl := iS_len nB (by decide)
  have m1 := sum_len ks hk
  have m2 := sum_len hs hh
  have q1 : ks.length * (2 * 13 + 3) ≤ 200 * 29 := Nat.mul_le_mul lk (by omega)
  have q2 : hs.length * (2 * 13 + 3) ≤ 200 * 29 := Nat.mul_le_mul lh (by omega)
  have c1 : ("bend" : Str).length = 4 := rfl
  have c2 : ("marks" : Str).length = 5 := rfl
  have c3 : ("handles" : Str).length = 7 := rfl
  have c4 : (" " : Str).length = 1 := rfl
  refine Nat.le_trans (glue_len _ _) ?_
  simp only [List.map_append, List.map_cons, List.map_nil, List.sum_append, List.sum_cons, List.sum_nil, List.length_append, List.length_cons, List.length_nil, List.length_map, c1, c2, c3, c4]
  omega
def stO (c : Str) (F : Fn) (ρ : En) (d : D) : Option (Except Exn (En × D)) := match isObj c "__str__" d with
  | true => (match F [d] with
    | some (.ok (.str z)) => some (.ok (ρ, .str z))
    | some (.error x) => some (.error x)
    | _ => none)
  | false => none
section
variable {n m : Nat} {ks hs ls gs : List Rat} {z y : Str}
theorem f_text : fldD "Bend" "text" (bendD n ks hs z) = some (.str z) := id rfl
theorem st_bend (hz : z.length ≤ 1000000) (ρ : En) : stO "Bend" F_Bend___str__ ρ (bendD n ks hs z) = some (.ok (ρ, .str z)) := by
  have e : isObj "Bend" "__str__" (bendD n ks hs z) = true := id rfl
  have f : fmtD (.str z) = some (.str z) := if_pos hz
  have g : F_Bend___str__ [bendD n ks hs z] = some (.ok (.str z)) := by
    simp [bd_ok, lf_some, cl_ok, a_ret, a_op, a_un, a_test, a_and, a_or, a_not, a_andV, a_orV, a_notV, a_if, a_sif, a_nil, a_cons, a_star, a_list, a_tup, a_sized, a_call, a_built, a_seq, a_set, a_own, a_sret, a_next, a_isi, a_slice, a_part, a_nopart, a_range, a_seqS, a_varP, a_par2, a_xp, a_xo, a_xn, a_asg, a_make, a_chg, a_ixO, a_lenO, a_cntO, items_lst, items_tup, sizeOk, boolD, cmpD, slOf, intOf_int, len_encL, ans_rt, a_fn, List.replicate, F_Bend___str__, g_Bend___str__, f_text, f]
  unfold stO
  simp only [e, g]
theorem eq_strs {x y : Str} (hx : PyData.strOk x = true) (hy : PyData.strOk y = true) : eqD (.str x) (.str y) = some (.bool (decide (x = y))) := by
  have e : (x == y) = decide (x = y) := by
    by_cases c : x = y
    · subst c; simp
    · simp [c]
  simp [eqD, SeqAt.shaped, PyData.canLay0, PyData.depth, PyData.eqv, hx, hy, e]
theorem ne_strs {x y : Str} (hx : PyData.strOk x = true) (hy : PyData.strOk y = true) : neD (.str x) (.str y) = some (.bool (!decide (x = y))) := by
  have e : (x == y) = decide (x = y) := by
    by_cases c : x = y
    · subst c; simp
    · simp [c]
  simp [neD, SeqAt.shaped, PyData.canLay0, PyData.depth, PyData.eqv, hx, hy, e]
end
end HB
namespace HB
open PySem L2
open TL (tl numL)
theorem iS_nat (n : Nat) : tl (iS (n : Int)) = numL n := TL.tl_num n
theorem iS_neg (n : Nat) : tl (iS (Int.negSucc n)) = 45 :: numL (n + 1) := by
  show tl (Str.ofString ("-" ++ Nat.repr (n + 1))) = _
  rw [show tl (Str.ofString ("-" ++ Nat.repr (n + 1))) = ("-" ++ Nat.repr (n + 1)).toList.map Char.toNat from PyProof.Rows.signs_ofString _, String.toList_append, List.map_append]
  have e := TL.tl_num (n + 1)
  rw [show tl (Str.ofString (toString (((n + 1 : Nat) : Int)))) = (toString (((n + 1 : Nat) : Int))).toList.map Char.toNat from PyProof.Rows.signs_ofString _] at e
  rw [show (Nat.repr (n + 1)).toList.map Char.toNat = numL (n + 1) from e]
  rfl
theorem iS_free {i : Int} {s : Nat} (h : s < 45 ∨ 57 < s ∨ s = 46 ∨ s = 47) : s ∉ tl (iS i) := by
  cases i with
  | ofNat n =>
    rw [show iS (Int.ofNat n) = iS (n : Int) from rfl, iS_nat]
    exact TL.numL_free (by omega)
  | negSucc n =>
    rw [iS_neg]
    intro m
    rcases (List.mem_cons.mp m) with e | e
    · omega
    · exact TL.numL_free (by omega) e
theorem textR_tl (q : Rat) : tl (textR q) = if q.den = 1 then tl (iS q.num) else tl (iS q.num) ++ 47 :: tl (iS (q.den : Int)) := by
  unfold textR
  split
  · rfl
  · rw [TL.tl_append, TL.tl_append, TL.tl_append]
    simp only [List.append_assoc]
    rfl
theorem textR_free {q : Rat} {s : Nat} (h : s < 45 ∨ 57 < s ∨ s = 46) : s ∉ tl (textR q) := by
  rw [textR_tl]
  split
  · exact iS_free (by omega)
  · rw [List.mem_append, List.mem_cons]
    rintro (e | e | e)
    · exact iS_free (by omega) e
    · omega
    · exact iS_free (by omega) e
/-- the words of a bend's text -/
def wordsB (n : Nat) (ks hs : List Rat) : List Str := [("bend" : Str), iS n, ("marks" : Str)] ++ (ks.map textR ++ ([("handles" : Str)] ++ hs.map textR))
theorem wordsB_free {n : Nat} {ks hs : List Rat} : ∀ w ∈ wordsB n ks hs, 32 ∉ tl w := by
  intro w hw
  unfold wordsB at hw
  simp only [List.mem_append, List.mem_cons, List.mem_map, List.not_mem_nil, or_false] at hw
  rcases hw with (rfl | rfl | rfl) | ⟨q, _, rfl⟩ | rfl | ⟨q, _, rfl⟩
  · decide +kernel
  · exact iS_free (by omega)
  · decide +kernel
  · exact textR_free (by omega)
  · decide +kernel
  · exact textR_free (by omega)
theorem split_textB (n : Nat) (ks hs : List Rat) : Txt.split (textB n ks hs) " " = wordsB n ks hs :=
  TL.split_join (y := " ") (s := 32) (S := []) (by decide +kernel) (by decide +kernel) (by simp [wordsB]) wordsB_free
end HB
namespace HB
open PySem L2
open TL (tl numL)
theorem sign_in {c : Nat} (h : 48 ≤ c ∧ c ≤ 57) : inTD (.str ⟨#[c]⟩) C_DIGITS = some (.bool true) := by
  have : c = 48 ∨ c = 49 ∨ c = 50 ∨ c = 51 ∨ c = 52 ∨ c = 53 ∨ c = 54 ∨ c = 55 ∨ c = 56 ∨ c = 57 := by omega
  rcases this with rfl | rfl | rfl | rfl | rfl | rfl | rfl | rfl | rfl | rfl
  all_goals kernel_rfl
theorem numL_first : ∀ {n : Nat}, 0 < n → ∃ c r, numL n = c :: r ∧ c ≠ 48 := by
  intro m
  refine Nat.strongRecOn m fun n ih h => ?_
  by_cases c : n < 10
  · exact ⟨48 + n, [], TL.numL_lt c, by omega⟩
  · obtain ⟨x, r, e, ne⟩ := ih (n / 10) (by omega) (by omega)
    exact ⟨x, r ++ [48 + n % 10], by rw [TL.numL_step (by omega), e]; rfl, ne⟩
theorem chain_is {f g : D → D → Option D} {a b c : Mo D} {ρ : En} {x y z : D} (ha : a ρ = some (.ok (ρ, x))) (hb : b ρ = some (.ok (ρ, y))) (hc : c ρ = some (.ok (ρ, z))) (hf : f x y = some (.bool true)) (hg : g y z = some (.bool true)) : mChain f g a b c ρ = some (.ok (ρ, .bool true)) := by
  unfold mChain mTest mLift mBind
  simp only [ha, hb, hf, boolD, hc, hg]
theorem a_signs (f : Mo D) {ρ : En} : mSignS f ρ = bd (f ρ) fun ρ1 d => lf ρ1 ((signsD d).map constS) := id rfl
theorem a_m1g {ρ : En} (f : Str → D → Option D) (a b : Mo D) : mM1 f a b ρ = bd (a ρ) fun ρ1 x => match x with
  | .str s => bd (b ρ1) fun ρ2 y => lf ρ2 (f s y)
  | _ => none := by
  unfold mM1 mBind bd
  cases a ρ with
  | none => rfl
  | some r =>
    cases r with
    | error x => rfl
    | ok p => obtain ⟨ρ1, d⟩ := p; cases d <;> rfl
theorem iS_tl (n : Nat) : tl (iS (n : Int)) = numL n := iS_nat n
theorem number_back {n : Nat} (h : n < 10 ^ 9) : F_number_in [.str (iS (n : Int))] = some (.ok (.int (n : Int))) := by
  rcases Nat.eq_zero_or_pos n with rfl | pos
  · kernel_rfl
  have e0 := iS_tl n
  have ln : (iS (n : Int)).length = (numL n).length := by rw [TL.len_tl, e0]
  have l9 : (numL n).length ≤ 9 := TL.numL_len (by decide) h
  have l1 : 0 < (numL n).length := List.length_pos_iff.mpr (TL.numL_ne n)
  have dg := TL.numL_digits n
  obtain ⟨c, r, ec, nc⟩ := numL_first pos
  have sg : signsD (.str (iS (n : Int))) = some ((numL n).map fun c => .str ⟨#[c]⟩) := by
    rw [← e0]
    rfl
  have bl : mBlk [1] (mSignS (mVar 0)) (lcBody [1] (gSet 1) (mRet true) (mOp inTD (mVar 1) (mRet C_DIGITS))) [.pur (.str (iS (n : Int))), .no] = some (.ok ([.pur (.str (iS (n : Int))), .no], (numL n).map fun _ => .bool true)) :=
    blk_map (numL n) (fun c => .str ⟨#[c]⟩) (fun _ => .bool true) (by simp [bd_ok, lf_some, cl_ok, a_ret, a_op, a_un, a_test, a_and, a_or, a_not, a_andV, a_orV, a_notV, a_if, a_sif, a_nil, a_cons, a_star, a_list, a_tup, a_sized, a_call, a_built, a_seq, a_set, a_own, a_sret, a_next, a_isi, a_slice, a_part, a_nopart, a_range, a_seqS, a_varP, a_par2, a_xp, a_xo, a_xn, a_asg, a_make, a_chg, a_ixO, a_lenO, a_cntO, items_lst, items_tup, sizeOk, boolD, cmpD, slOf, intOf_int, len_encL, ans_rt, a_fn, List.replicate, a_signs, sg]) (by omega) rfl fun c hc => by
      have s := sign_in (dg c hc)
      simp [bd_ok, lf_some, cl_ok, a_ret, a_op, a_un, a_test, a_and, a_or, a_not, a_andV, a_orV, a_notV, a_if, a_sif, a_nil, a_cons, a_star, a_list, a_tup, a_sized, a_call, a_built, a_seq, a_set, a_own, a_sret, a_next, a_isi, a_slice, a_part, a_nopart, a_range, a_seqS, a_varP, a_par2, a_xp, a_xo, a_xn, a_asg, a_make, a_chg, a_ixO, a_lenO, a_cntO, items_lst, items_tup, sizeOk, boolD, cmpD, slOf, intOf_int, len_encL, ans_rt, a_fn, List.replicate, s]
  have al := all_map (fun _ : Nat => true) (numL n)
  rw [List.all_eq_true.mpr (fun _ _ => rfl)] at al
  have len : lenD [.str (iS (n : Int))] = some (.int (iS (n : Int)).length) := if_pos (by omega)
  have ch : mChain (cmpD leI) (cmpD leI) (mRet (.int 1)) (mBuilt lenD (mCons (mVar 0) (mNil))) (mRet C_MOST_DIGITS) [.pur (.str (iS (n : Int))), .no] = some (.ok ([.pur (.str (iS (n : Int))), .no], .bool true)) :=
    chain_is (x := .int 1) (y := .int (iS (n : Int)).length) (z := .int 9) rfl (by simp [bd_ok, lf_some, cl_ok, a_ret, a_op, a_un, a_test, a_and, a_or, a_not, a_andV, a_orV, a_notV, a_if, a_sif, a_nil, a_cons, a_star, a_list, a_tup, a_sized, a_call, a_built, a_seq, a_set, a_own, a_sret, a_next, a_isi, a_slice, a_part, a_nopart, a_range, a_seqS, a_varP, a_par2, a_xp, a_xo, a_xn, a_asg, a_make, a_chg, a_ixO, a_lenO, a_cntO, items_lst, items_tup, sizeOk, boolD, cmpD, slOf, intOf_int, len_encL, ans_rt, a_fn, List.replicate, len]) rfl (by
      show some (PyData.bool (decide ((1 : Int) ≤ ((iS (n : Int)).length : Int)))) = _
      rw [decide_eq_true (by omega)]) (by
      show some (PyData.bool (decide (((iS (n : Int)).length : Int) ≤ (9 : Int)))) = _
      rw [decide_eq_true (by omega)])
  have z0 : PyData.strOk ("0" : Str) = true := by decide +kernel
  have eq := eq_strs (x := iS (n : Int)) (y := "0") (ok_of _) z0
  have ix : ixD (.str (iS (n : Int))) (.int 0) = some (.str ⟨#[c]⟩) := by
    show (if (iS (n : Int)).length ≤ 1000000 then (L2.atI (iS (n : Int)).cps.toList 0).map fun c => PyData.str ⟨#[c]⟩ else none) = _
    rw [if_pos (by omega), show (iS (n : Int)).cps.toList = c :: r from e0.trans ec, atI_nat (z := 0) (i := 0) rfl (by simp)]
    rfl
  have c57 := dg c (by rw [ec]; exact List.mem_cons_self)
  have ne : neD (.str ⟨#[c]⟩) (.str "0") = some (.bool true) := by
    rw [ne_strs (by simp [PyData.strOk]; omega) z0, decide_eq_false fun e => nc ?_]
    · rfl
    · have := congrArg tl e
      rw [show tl ("0" : Str) = [48] by decide +kernel] at this
      exact (List.cons.inj this).1
  have it : intSD [.str (iS (n : Int))] = some (.int (n : Int)) := by
    show (if (iS (n : Int)).length ≤ 640 then (PySem.intText? (iS (n : Int))).map PyData.int else none) = _
    rw [if_pos (by omega), TL.int_num (by omega)]
    rfl
  have e1 : F_number_in [.str (iS (n : Int))] = ans (g_number_in [.pur (.str (iS (n : Int))), .no]) := rfl
  rw [e1]
  generalize iS (n : Int) = w at *
  generalize decide (w = ("0" : Str)) = b0 at *
  generalize hL : (numL n).map (fun _ => PyData.bool true) = L at *
  unfold g_number_in
  have t1 : mOr (mNot (mTest (mChain (cmpD leI) (cmpD leI) (mRet (.int 1)) (mBuilt lenD (mCons (mVar 0) (mNil))) (mRet C_MOST_DIGITS)))) (mNot (mTest (mBuilt allD (mCons (mList (mBlk [1] (mSignS (mVar 0)) (lcBody [1] (gSet 1) (mRet true) (mOp inTD (mVar 1) (mRet C_DIGITS))))) (mNil))))) [.pur (.str w), .no] = some (.ok ([.pur (.str w), .no], false)) := by
    rw [a_or, a_not, a_test, ch]
    simp [bd_ok, lf_some, cl_ok, a_ret, a_op, a_un, a_test, a_and, a_or, a_not, a_andV, a_orV, a_notV, a_if, a_sif, a_nil, a_cons, a_star, a_list, a_tup, a_sized, a_call, a_built, a_seq, a_set, a_own, a_sret, a_next, a_isi, a_slice, a_part, a_nopart, a_range, a_seqS, a_varP, a_par2, a_xp, a_xo, a_xn, a_asg, a_make, a_chg, a_ixO, a_lenO, a_cntO, items_lst, items_tup, sizeOk, boolD, cmpD, slOf, intOf_int, len_encL, ans_rt, a_fn, List.replicate, bl, al]
  rw [a_seq, a_sif, t1, bd_ok]
  simp only [cond_false, a_next, bd_ok]
  cases b0 <;> simp [bd_ok, lf_some, cl_ok, a_ret, a_op, a_un, a_test, a_and, a_or, a_not, a_andV, a_orV, a_notV, a_if, a_sif, a_nil, a_cons, a_star, a_list, a_tup, a_sized, a_call, a_built, a_seq, a_set, a_own, a_sret, a_next, a_isi, a_slice, a_part, a_nopart, a_range, a_seqS, a_varP, a_par2, a_xp, a_xo, a_xn, a_asg, a_make, a_chg, a_ixO, a_lenO, a_cntO, items_lst, items_tup, sizeOk, boolD, cmpD, slOf, intOf_int, len_encL, ans_rt, a_fn, List.replicate, g_number_in_1, eq, ix, ne, it]
theorem tl_cut (z : Str) (lo hi : Option Int) : tl (cutS z lo hi) = ((tl z).drop (HT.sIx z.length 0 lo)).take (HT.sIx z.length z.length hi - HT.sIx z.length 0 lo) := rfl
theorem sl_str {z : Str} {lo hi : Option Int} (h : z.length ≤ 1000000) : slD lo hi (.str z) = some (.str (cutS z lo hi)) := if_pos h
def numS (n : Nat) : D := .str (iS (n : Int))
/-- the word behind its sign, as its numbers -/
theorem value_parts {w : Str} {neg : Bool} {N : List Nat} (hw : w.length ≤ 1000000) (h1 : eqD (.str (cutS w none (some 1))) (.str "-") = some (.bool neg)) (h2 : splitD (cutS w (some (if neg then 1 else 0)) none) (.str "/") = some (.list (N.map numS))) (h3 : ∀ n ∈ N, n < 10 ^ 9) (h4 : N.length ≤ 2) :
    F_value_in [.str w] = ans (g_value_in_4 [.pur (.str w), .pur (.bool neg), .pur (.list (N.map numS)), .pur (.list (N.map natD)), .no, .no]) := by
  have e1 : F_value_in [.str w] = ans (g_value_in [.pur (.str w), .no, .no, .no, .no, .no]) := rfl
  have s1 := sl_str (z := w) (lo := none) (hi := some 1) hw
  have s2 := sl_str (z := w) (lo := some (if neg then 1 else 0)) (hi := none) hw
  have i1 : intD [.bool neg] = some (.int (if neg then 1 else 0)) := rfl
  have bl : mBlk [5] (mSeqS (mVar 2)) (lcBody [5] (gSet 5) (mRet true) (mCall F_number_in (mCons (mVar 5) (mNil)))) [.pur (.str w), .pur (.bool neg), .pur (.list (N.map numS)), .no, .no, .no] = some (.ok ([.pur (.str w), .pur (.bool neg), .pur (.list (N.map numS)), .no, .no, .no], N.map natD)) :=
    blk_map N numS natD (by simp [bd_ok, lf_some, cl_ok, a_ret, a_op, a_un, a_test, a_and, a_or, a_not, a_andV, a_orV, a_notV, a_if, a_sif, a_nil, a_cons, a_star, a_list, a_tup, a_sized, a_call, a_built, a_seq, a_set, a_own, a_sret, a_next, a_isi, a_slice, a_part, a_nopart, a_range, a_seqS, a_varP, a_par2, a_xp, a_xo, a_xn, a_asg, a_make, a_chg, a_ixO, a_lenO, a_cntO, items_lst, items_tup, sizeOk, boolD, cmpD, slOf, intOf_int, len_encL, ans_rt, a_fn, List.replicate]) (by omega) rfl fun n hn => by
      have b := number_back (h3 n hn)
      simp [bd_ok, lf_some, cl_ok, a_ret, a_op, a_un, a_test, a_and, a_or, a_not, a_andV, a_orV, a_notV, a_if, a_sif, a_nil, a_cons, a_star, a_list, a_tup, a_sized, a_call, a_built, a_seq, a_set, a_own, a_sret, a_next, a_isi, a_slice, a_part, a_nopart, a_range, a_seqS, a_varP, a_par2, a_xp, a_xo, a_xn, a_asg, a_make, a_chg, a_ixO, a_lenO, a_cntO, items_lst, items_tup, sizeOk, boolD, cmpD, slOf, intOf_int, len_encL, ans_rt, a_fn, List.replicate, b, numS, natD]
  rw [e1]
  generalize (N.map numS) = P at *
  generalize N.map natD = M at *
  generalize (if neg then 1 else 0 : Int) = k at *
  generalize cutS w none (some 1) = c1 at *
  generalize cutS w (some k) none = c2 at *
  have q : g_value_in [.pur (.str w), .no, .no, .no, .no, .no] = g_value_in_5 [.pur (.str w), .pur (.bool neg), .pur (.list P), .no, .no, .no] := by
    simp [bd_ok, lf_some, cl_ok, a_ret, a_op, a_un, a_test, a_and, a_or, a_not, a_andV, a_orV, a_notV, a_if, a_sif, a_nil, a_cons, a_star, a_list, a_tup, a_sized, a_call, a_built, a_seq, a_set, a_own, a_sret, a_next, a_isi, a_slice, a_part, a_nopart, a_range, a_seqS, a_varP, a_par2, a_xp, a_xo, a_xn, a_asg, a_make, a_chg, a_ixO, a_lenO, a_cntO, items_lst, items_tup, sizeOk, boolD, cmpD, slOf, intOf_int, len_encL, ans_rt, a_fn, List.replicate, g_value_in, g_value_in_6, a_m1g, s1, h1, i1, s2, h2]
  rw [q]
  simp [bd_ok, lf_some, cl_ok, a_ret, a_op, a_un, a_test, a_and, a_or, a_not, a_andV, a_orV, a_notV, a_if, a_sif, a_nil, a_cons, a_star, a_list, a_tup, a_sized, a_call, a_built, a_seq, a_set, a_own, a_sret, a_next, a_isi, a_slice, a_part, a_nopart, a_range, a_seqS, a_varP, a_par2, a_xp, a_xo, a_xn, a_asg, a_make, a_chg, a_ixO, a_lenO, a_cntO, items_lst, items_tup, sizeOk, boolD, cmpD, slOf, intOf_int, len_encL, ans_rt, a_fn, List.replicate, g_value_in_5, bl]
theorem split_slash {w : Str} {N : List Nat} (hw : w.length ≤ 1000000) (h : tl w = TL.joinL [47] (N.map numL)) (ne : N ≠ []) : splitD w (.str "/") = some (.list (N.map numS)) := by
  have sp : Txt.split w "/" = N.map fun n : Nat => iS (n : Int) := by
    refine TL.map_tl_inj ?_
    rw [TL.split_spl w "/" (by decide +kernel) (TL.kind_ok (by decide +kernel)), h, show tl ("/" : Str) = [47] by decide +kernel, TL.spl_join (by simpa using ne) fun p hp => ?_, List.map_map]
    · refine List.map_congr_left fun n _ => ?_
      exact (iS_tl n).symm
    · obtain ⟨n, _, rfl⟩ := List.mem_map.mp hp
      exact TL.numL_free (by omega)
  unfold splitD
  have b : Nat.beq ("/" : Str).length 0 = false := by decide +kernel
  simp only [b, if_pos hw, sp, List.map_map]
  rfl
/-- the text of a fraction, by its sign -/
def bareL (q : Rat) : List Nat := TL.joinL [47] ((if q.den = 1 then [q.num.natAbs] else [q.num.natAbs, q.den]).map numL)
theorem textR_sign (q : Rat) : tl (textR q) = (if q.num < 0 then [45] else []) ++ bareL q := by
  have hn : tl (iS q.num) = (if q.num < 0 then [45] else []) ++ numL q.num.natAbs := by
    cases h : q.num with
    | ofNat n =>
      rw [if_neg (by show ¬ ((n : Int) < 0); omega)]
      exact iS_nat n
    | negSucc n =>
      rw [if_pos (Int.negSucc_lt_zero n)]
      exact iS_neg n
  rw [textR_tl]
  unfold bareL
  split
  · exact hn
  · rw [hn, List.append_assoc]
    have e : tl (iS (q.den : Int)) = numL q.den := iS_nat q.den
    rw [e]
    rfl
theorem bare_first (q : Rat) : ∃ c r, bareL q = c :: r ∧ 48 ≤ c ∧ c ≤ 57 := by
  have h := TL.numL_ne q.num.natAbs
  have d := TL.numL_digits q.num.natAbs
  cases hN : numL q.num.natAbs with
  | nil => exact absurd hN h
  | cons c r =>
    have dc := d c (by rw [hN]; exact List.mem_cons_self)
    unfold bareL
    split
    · exact ⟨c, r, by show numL _ = _; exact hN, dc.1, dc.2⟩
    · refine ⟨c, r ++ ([47] ++ numL q.den), ?_, dc.1, dc.2⟩
      show numL q.num.natAbs ++ ([47] ++ numL q.den) = _
      rw [hN]
      rfl
theorem gcd_one (q : Rat) : Nat.gcd q.num.natAbs q.den = 1 := q.reduced
theorem value_back {q : Rat} (h1 : q.num.natAbs < 10 ^ 9) (h2 : q.den < 10 ^ 9) (hl : (textR q).length ≤ 1000000) : F_value_in [.str (textR q)] = some (.ok (enc q)) := by
  have pos := q.den_pos
  have ts := textR_sign q
  obtain ⟨c, r, b1, b2, b3⟩ := bare_first q
  have len : (textR q).length = (tl (textR q)).length := TL.len_tl _
  have lpos : 1 ≤ (textR q).length := by rw [len, ts, b1, List.length_append, List.length_cons]; omega
  have c1 : tl (cutS (textR q) none (some 1)) = (tl (textR q)).take 1 := by
    rw [tl_cut, show HT.sIx (textR q).length 0 none = 0 from rfl, show (some (1 : Int)) = some ((1 : Nat) : Int) from rfl, HT.sIx_nat, Nat.min_eq_left lpos]
    rfl
  have c2 : ∀ k : Nat, k ≤ 1 → tl (cutS (textR q) (some (k : Int)) none) = (tl (textR q)).drop k := fun k hk => by
    rw [tl_cut, HT.sIx_nat, Nat.min_eq_left (by omega), show HT.sIx (textR q).length (textR q).length none = (textR q).length from rfl, len, ← List.length_drop, List.take_length]
  have neg : eqD (.str (cutS (textR q) none (some 1))) (.str "-") = some (.bool (decide (q.num < 0))) := by
    have one : cutS (textR q) none (some 1) = ⟨#[if q.num < 0 then 45 else c]⟩ := by
      refine TL.ext_tl ?_
      rw [c1, ts, b1]
      split <;> rfl
    rw [one, eq_strs (by simp [PyData.strOk]; split <;> omega) (by decide +kernel)]
    by_cases hn : q.num < 0
    · rw [if_pos hn, decide_eq_true hn, decide_eq_true (by kernel_rfl)]
    · rw [if_neg hn, decide_eq_false hn, decide_eq_false fun e => ?_]
      have := congrArg tl e
      rw [show tl ("-" : Str) = [45] by decide +kernel] at this
      have := (List.cons.inj this).1
      omega
  have bare : tl (cutS (textR q) (some (if decide (q.num < 0) then 1 else 0)) none) = bareL q := by
    by_cases hn : q.num < 0
    · rw [decide_eq_true hn, show (some (if true = true then (1 : Int) else 0)) = some ((1 : Nat) : Int) from rfl, c2 1 (by decide), ts, if_pos hn]
      rfl
    · rw [decide_eq_false hn, show (some (if false = true then (1 : Int) else 0)) = some ((0 : Nat) : Int) from rfl, c2 0 (by decide), ts, if_neg hn]
      rfl
  have cl : (cutS (textR q) (some (if decide (q.num < 0) then 1 else 0)) none).length ≤ 1000000 := by
    rw [TL.len_tl, bare]
    have := congrArg List.length ts
    rw [List.length_append] at this
    omega
  have sp := split_slash cl (N := if q.den = 1 then [q.num.natAbs] else [q.num.natAbs, q.den]) bare (by split <;> simp)
  have vp := value_parts hl neg sp (fun n hn => by
    split at hn
    · rw [List.mem_singleton.mp hn]; exact h1
    · rcases (List.mem_cons.mp hn) with e | e
      · rw [e]; exact h1
      · rw [List.mem_singleton.mp e]; exact h2) (by split <;> simp)
  rw [vp]
  generalize textR q = w
  have pr : C_PAIR = .int 2 := rfl
  have cp : F_common_part [natD q.num.natAbs, natD q.den] = some (.ok (.int 1)) := by
    show some (Except.ok (PyData.int ((Nat.gcd (q.num.natAbs : Int).natAbs (q.den : Int).natAbs : Nat) : Int))) = _
    rw [Int.natAbs_natCast, Int.natAbs_natCast, gcd_one]
    rfl
  have ng : negD (natD q.num.natAbs) = some (.int (-(q.num.natAbs : Int))) := rfl
  have n1 : negD (.int 1) = some (.int (-1)) := rfl
  by_cases hd : q.den = 1
  · rw [if_pos hd]
    simp only [List.map_cons, List.map_nil]
    have l1 : lenD [.list [numS q.num.natAbs]] = some (.int 1) := rfl
    have i0 : ixD (.list [natD q.num.natAbs]) (.int 0) = some (natD q.num.natAbs) := rfl
    have no : inTD .none (.list [natD q.num.natAbs]) = some (.bool false) := rfl
    have g2 : gtI 1 2 = false := rfl
    have e2 : eqD (.int 1) (.int 2) = some (.bool false) := rfl
    by_cases hn : q.num < 0
    · rw [decide_eq_true hn]
      have z : eqD (natD q.num.natAbs) (.int 0) = some (.bool false) := by
        show some (PyData.bool (((q.num.natAbs : Int)) == 0)) = _
        rw [beq_eq_false_iff_ne.mpr (by omega)]
      have en : enc q = .tuple [.int (-(q.num.natAbs : Int)), .int 1] := by
        unfold enc
        rw [hd, show -(q.num.natAbs : Int) = q.num by omega]
        rfl
      rw [en]
      generalize natD q.num.natAbs = a at *
      generalize numS q.num.natAbs = s1 at *
      simp [bd_ok, lf_some, cl_ok, a_ret, a_op, a_un, a_test, a_and, a_or, a_not, a_andV, a_orV, a_notV, a_if, a_sif, a_nil, a_cons, a_star, a_list, a_tup, a_sized, a_call, a_built, a_seq, a_set, a_own, a_sret, a_next, a_isi, a_slice, a_part, a_nopart, a_range, a_seqS, a_varP, a_par2, a_xp, a_xo, a_xn, a_asg, a_make, a_chg, a_ixO, a_lenO, a_cntO, items_lst, items_tup, sizeOk, boolD, cmpD, slOf, intOf_int, len_encL, ans_rt, a_fn, List.replicate, g_value_in_4, g_value_in_3, g_value_in_2, g_value_in_1, pr, l1, i0, no, g2, e2, z, ng]
    · rw [decide_eq_false hn]
      have en : enc q = .tuple [natD q.num.natAbs, .int 1] := by
        unfold enc natD
        rw [hd, show (q.num.natAbs : Int) = q.num by omega]
        rfl
      rw [en]
      generalize natD q.num.natAbs = a at *
      generalize numS q.num.natAbs = s1 at *
      simp [bd_ok, lf_some, cl_ok, a_ret, a_op, a_un, a_test, a_and, a_or, a_not, a_andV, a_orV, a_notV, a_if, a_sif, a_nil, a_cons, a_star, a_list, a_tup, a_sized, a_call, a_built, a_seq, a_set, a_own, a_sret, a_next, a_isi, a_slice, a_part, a_nopart, a_range, a_seqS, a_varP, a_par2, a_xp, a_xo, a_xn, a_asg, a_make, a_chg, a_ixO, a_lenO, a_cntO, items_lst, items_tup, sizeOk, boolD, cmpD, slOf, intOf_int, len_encL, ans_rt, a_fn, List.replicate, g_value_in_4, g_value_in_3, g_value_in_2, g_value_in_1, pr, l1, i0, no, g2, e2]
  · rw [if_neg hd]
    simp only [List.map_cons, List.map_nil]
    have l1 : lenD [.list [numS q.num.natAbs, numS q.den]] = some (.int 2) := rfl
    have i0 : ixD (.list [natD q.num.natAbs, natD q.den]) (.int 0) = some (natD q.num.natAbs) := rfl
    have i1 : ixD (.list [natD q.num.natAbs, natD q.den]) (.int 1) = some (natD q.den) := rfl
    have il : ixD (.list [natD q.num.natAbs, natD q.den]) (.int (-1)) = some (natD q.den) := rfl
    have no : inTD .none (.list [natD q.num.natAbs, natD q.den]) = some (.bool false) := rfl
    have g2 : gtI 2 2 = false := rfl
    have e2 : eqD (.int 2) (.int 2) = some (.bool true) := rfl
    have le : cmpD leI (natD q.den) (.int 1) = some (.bool false) := by
      show some (PyData.bool (decide ((q.den : Int) ≤ 1))) = _
      rw [decide_eq_false (by have := pos; omega)]
    have ne : neD (.int 1) (.int 1) = some (.bool false) := rfl
    have leT : ∀ ρ : En, mOp (cmpD leI) (mRet (natD q.den)) (mRet (.int 1)) ρ = some (.ok (ρ, .bool false)) := fun ρ => by
      rw [a_op, a_ret, bd_ok, a_ret, bd_ok, le, lf_some]
    by_cases hn : q.num < 0
    · rw [decide_eq_true hn]
      have z : eqD (natD q.num.natAbs) (.int 0) = some (.bool false) := by
        show some (PyData.bool (((q.num.natAbs : Int)) == 0)) = _
        rw [beq_eq_false_iff_ne.mpr (by omega)]
      have en : enc q = .tuple [.int (-(q.num.natAbs : Int)), natD q.den] := by
        unfold enc natD
        rw [show -(q.num.natAbs : Int) = q.num by omega]
      rw [en]
      clear leT
      unfold natD at *
      generalize (q.num.natAbs : Int) = a at *
      generalize (q.den : Int) = b at *
      have lb : leI b 1 = false := by
        have h := (Option.some.inj le)
        exact PyData.bool.inj h
      generalize numS q.num.natAbs = s1 at *
      generalize numS q.den = s2 at *
      simp [bd_ok, lf_some, cl_ok, a_ret, a_op, a_un, a_test, a_and, a_or, a_not, a_andV, a_orV, a_notV, a_if, a_sif, a_nil, a_cons, a_star, a_list, a_tup, a_sized, a_call, a_built, a_seq, a_set, a_own, a_sret, a_next, a_isi, a_slice, a_part, a_nopart, a_range, a_seqS, a_varP, a_par2, a_xp, a_xo, a_xn, a_asg, a_make, a_chg, a_ixO, a_lenO, a_cntO, items_lst, items_tup, sizeOk, boolD, cmpD, slOf, intOf_int, len_encL, ans_rt, a_fn, List.replicate, g_value_in_4, g_value_in_3, g_value_in_2, g_value_in_1, pr, l1, i0, i1, il, no, g2, e2, lb, ne, cp, z, ng, n1]
    · rw [decide_eq_false hn]
      have en : enc q = .tuple [natD q.num.natAbs, natD q.den] := by
        unfold enc natD
        rw [show (q.num.natAbs : Int) = q.num by omega]
      rw [en]
      clear leT
      unfold natD at *
      generalize (q.num.natAbs : Int) = a at *
      generalize (q.den : Int) = b at *
      have lb : leI b 1 = false := by
        have h := (Option.some.inj le)
        exact PyData.bool.inj h
      generalize numS q.num.natAbs = s1 at *
      generalize numS q.den = s2 at *
      simp [bd_ok, lf_some, cl_ok, a_ret, a_op, a_un, a_test, a_and, a_or, a_not, a_andV, a_orV, a_notV, a_if, a_sif, a_nil, a_cons, a_star, a_list, a_tup, a_sized, a_call, a_built, a_seq, a_set, a_own, a_sret, a_next, a_isi, a_slice, a_part, a_nopart, a_range, a_seqS, a_varP, a_par2, a_xp, a_xo, a_xn, a_asg, a_make, a_chg, a_ixO, a_lenO, a_cntO, items_lst, items_tup, sizeOk, boolD, cmpD, slOf, intOf_int, len_encL, ans_rt, a_fn, List.replicate, g_value_in_4, g_value_in_3, g_value_in_2, g_value_in_1, pr, l1, i0, i1, il, no, g2, e2, lb, ne, cp, n1]
end HB
namespace HB
open PySem L2
abbrev toldD (n : Nat) (ks hs : List Rat) : D := .tuple [.int n, .list (encL ks), .list (encL hs)]
theorem told0 {n : Nat} {ks hs : List Rat} : ixD (toldD n ks hs) (.int 0) = some (.int n) := id rfl
theorem told1 {n : Nat} {ks hs : List Rat} : ixD (toldD n ks hs) (.int 1) = some (.list (encL ks)) := id rfl
theorem told2 {n : Nat} {ks hs : List Rat} : ixD (toldD n ks hs) (.int 2) = some (.list (encL hs)) := id rfl
end HB
namespace HB
open PySem L2
abbrev badB (w : Str) : Exn := ("InvalidBend", [("word", .str w)])
theorem init_eq (a b c : D) : I_Bend [a, b, c] = (match g_Bend_init [] [.no, .pur a, .pur b, .pur c, .no] with
    | none => none
    | some (.error y) => some (.error y)
    | some (.ok (_, kvs)) => some (.ok kvs) : Option (Except Exn (List (D × D)))) := id rfl
theorem o_if_t {c : Mo Bool} {w : Str} {g : MoO} {kvs : List (D × D)} {ρ : En} (h : c ρ = some (.ok (ρ, true))) : oIf c (sRaise "InvalidBend" "word" (mRet (.str w))) g kvs ρ = some (.error (badB w)) := by
  unfold oIf
  rw [h]
  rfl
theorem o_if_f {c : Mo Bool} {a : Mo Fl} {g : MoO} {kvs : List (D × D)} {ρ : En} (h : c ρ = some (.ok (ρ, false))) : oIf c a g kvs ρ = g kvs ρ := by
  unfold oIf
  rw [h]
section
variable {a b c : D} {n : Nat}
theorem deg_ok : mOr (mNot (mTest (mCall F_is_integer (mCons (mVar 1) (mNil))))) (mTest (mOp (cmpD ltI) (mVar 1) (mRet (.int 0)))) [.no, .pur (.int n), .pur b, .pur c, .no] = some (.ok ([.no, .pur (.int n), .pur b, .pur c, .no], false)) := by
  have l1 : ltI (n : Int) 0 = false := decide_eq_false (by omega)
  simp [bd_ok, lf_some, cl_ok, a_ret, a_op, a_un, a_test, a_and, a_or, a_not, a_andV, a_orV, a_notV, a_if, a_sif, a_nil, a_cons, a_star, a_list, a_tup, a_sized, a_call, a_built, a_seq, a_set, a_own, a_sret, a_next, a_isi, a_slice, a_part, a_nopart, a_range, a_seqS, a_varP, a_par2, a_xp, a_xo, a_xn, a_asg, a_make, a_chg, a_ixO, a_lenO, a_cntO, items_lst, items_tup, sizeOk, boolD, cmpD, slOf, intOf_int, len_encL, ans_rt, a_fn, List.replicate, is_integer_int, l1]
theorem bad_marks (h : F_are_marks [.int n, b] = some (.ok (.bool false))) : I_Bend [.int n, b, c] = some (.error (badB "marks")) := by
  have t2 : mNot (mTest (mCall F_are_marks (mCons (mVar 1) (mCons (mVar 2) (mNil))))) [.no, .pur (.int n), .pur b, .pur c, .no] = some (.ok ([.no, .pur (.int n), .pur b, .pur c, .no], true)) := by
    simp [bd_ok, lf_some, cl_ok, a_ret, a_op, a_un, a_test, a_and, a_or, a_not, a_andV, a_orV, a_notV, a_if, a_sif, a_nil, a_cons, a_star, a_list, a_tup, a_sized, a_call, a_built, a_seq, a_set, a_own, a_sret, a_next, a_isi, a_slice, a_part, a_nopart, a_range, a_seqS, a_varP, a_par2, a_xp, a_xo, a_xn, a_asg, a_make, a_chg, a_ixO, a_lenO, a_cntO, items_lst, items_tup, sizeOk, boolD, cmpD, slOf, intOf_int, len_encL, ans_rt, a_fn, List.replicate, h]
  rw [init_eq]
  unfold g_Bend_init
  rw [o_if_f deg_ok, o_if_t t2]
theorem mk_true (h : F_are_marks [.int n, b] = some (.ok (.bool true))) : mNot (mTest (mCall F_are_marks (mCons (mVar 1) (mCons (mVar 2) (mNil))))) [.no, .pur (.int n), .pur b, .pur c, .no] = some (.ok ([.no, .pur (.int n), .pur b, .pur c, .no], false)) := by
  simp [bd_ok, lf_some, cl_ok, a_ret, a_op, a_un, a_test, a_and, a_or, a_not, a_andV, a_orV, a_notV, a_if, a_sif, a_nil, a_cons, a_star, a_list, a_tup, a_sized, a_call, a_built, a_seq, a_set, a_own, a_sret, a_next, a_isi, a_slice, a_part, a_nopart, a_range, a_seqS, a_varP, a_par2, a_xp, a_xo, a_xn, a_asg, a_make, a_chg, a_ixO, a_lenO, a_cntO, items_lst, items_tup, sizeOk, boolD, cmpD, slOf, intOf_int, len_encL, ans_rt, a_fn, List.replicate, h]
theorem bad_many {m : Nat} {xs : List D} (h : F_are_marks [.int n, b] = some (.ok (.bool true))) (hb : lenD [b] = some (.int m)) (hl : xs.length ≤ 1000) (hp : ∀ x ∈ xs, F_is_value [x] = some (.ok (.bool true))) (ne : xs.length + 1 ≠ n + m) : I_Bend [.int n, b, .list xs] = some (.error (badB "handles")) := by
  have bl := vals_blk (v := 4) (i := 3) (d := .list xs) (ρ := [.no, .pur (.int n), .pur b, .pur (.list xs), .no]) (fun _ => true) rfl rfl (by omega) rfl (by simp) hp
  have al := all_map (fun _ : D => true) xs
  rw [List.all_eq_true.mpr (fun _ _ => rfl)] at al
  have t3 : mOr (mNot (mTest (mCall F_is_sequence (mCons (mVar 3) (mNil))))) (mNot (mTest (mBuilt allD (mCons (mList (mBlk [4] (mSeqS (mVar 3)) (lcBody [4] (gSet 4) (mRet true) (mCall F_is_value (mCons (mVar 4) (mNil)))))) (mNil))))) [.no, .pur (.int n), .pur b, .pur (.list xs), .no] = some (.ok ([.no, .pur (.int n), .pur b, .pur (.list xs), .no], false)) := by
    simp [bd_ok, lf_some, cl_ok, a_ret, a_op, a_un, a_test, a_and, a_or, a_not, a_andV, a_orV, a_notV, a_if, a_sif, a_nil, a_cons, a_star, a_list, a_tup, a_sized, a_call, a_built, a_seq, a_set, a_own, a_sret, a_next, a_isi, a_slice, a_part, a_nopart, a_range, a_seqS, a_varP, a_par2, a_xp, a_xo, a_xn, a_asg, a_make, a_chg, a_ixO, a_lenO, a_cntO, items_lst, items_tup, sizeOk, boolD, cmpD, slOf, intOf_int, len_encL, ans_rt, a_fn, List.replicate, seq_lst, bl, al]
  have n2 : neD (.int (xs.length : Int)) (.int ((n : Int) + m - 1)) = some (.bool true) := by
    have : ((xs.length : Int) == (n : Int) + m - 1) = false := by rw [beq_eq_false_iff_ne]; omega
    show some (PyData.bool (!((xs.length : Int) == (n : Int) + m - 1))) = _
    rw [this]
    rfl
  have ln : lenD [.list xs] = some (.int xs.length) := id rfl
  have t4 : mTest (mOp neD (mBuilt lenD (mCons (mVar 3) (mNil))) (mOp subD (mOp addD (mVar 1) (mBuilt lenD (mCons (mVar 2) (mNil)))) (mRet (.int 1)))) [.no, .pur (.int n), .pur b, .pur (.list xs), .no] = some (.ok ([.no, .pur (.int n), .pur b, .pur (.list xs), .no], true)) := by
    simp [bd_ok, lf_some, cl_ok, a_ret, a_op, a_un, a_test, a_and, a_or, a_not, a_andV, a_orV, a_notV, a_if, a_sif, a_nil, a_cons, a_star, a_list, a_tup, a_sized, a_call, a_built, a_seq, a_set, a_own, a_sret, a_next, a_isi, a_slice, a_part, a_nopart, a_range, a_seqS, a_varP, a_par2, a_xp, a_xo, a_xn, a_asg, a_make, a_chg, a_ixO, a_lenO, a_cntO, items_lst, items_tup, sizeOk, boolD, cmpD, slOf, intOf_int, len_encL, ans_rt, a_fn, List.replicate, ln, hb, addD, subD, n2]
  rw [init_eq]
  unfold g_Bend_init
  rw [o_if_f deg_ok, o_if_f (mk_true h), o_if_f t3, o_if_t t4]
end
end HB
namespace HB
open PySem L2
theorem sl_take {xs : List D} {z : Int} {n : Nat} (h : z = n) : slD none (some z) (.list xs) = some (.list (xs.take n)) ∧ slD none (some z) (.tuple xs) = some (.tuple (xs.take n)) := by
  subst h
  have s0 : HT.sIx xs.length 0 none = 0 := rfl
  have s1 : HT.sIx xs.length xs.length (some ((n : Nat) : Int)) = min n xs.length := HT.sIx_nat _ _ _
  have e : cutD xs none (some (n : Int)) = xs.take n := by
    unfold cutD
    rw [s0, s1]
    simp
  exact ⟨congrArg (fun l => some (PyData.list l)) e, congrArg (fun l => some (PyData.tuple l)) e⟩
end HB
namespace HB
open PySem L2
open TL (tl numL)
theorem told_value {q : Rat} {B : Nat} (h : Ht B q) (hB : B ≤ 1900) : F_law_told_value [enc q] = some (.ok (.str (textR q))) := by
  have p := h.pos
  have x1 : ixD (enc q) (.int 1) = some (.int (q.den : Int)) := ix1 _ _
  have x0 : ixD (enc q) (.int 0) = some (.int q.num) := ix0 _ _
  have dn : ((q.den : Int)).natAbs < 2 ^ B := by rw [Int.natAbs_natCast]; exact h.2
  have l1 := log_lt h.1 p
  have l2 := log_lt dn p
  have s1 : strD [.int q.num] = some (.str (iS q.num)) := if_pos (by omega)
  have s2 : strD [.int (q.den : Int)] = some (.str (iS (q.den : Int))) := if_pos (by omega)
  have n1 := iS_len h.1 p
  have n2 := iS_len dn p
  unfold textR
  by_cases hd : q.den = 1
  · have e : eqD (.int (q.den : Int)) (.int 1) = some (.bool true) := by simp [eqD, hd]
    rw [if_pos hd]
    simp [bd_ok, lf_some, cl_ok, a_ret, a_op, a_un, a_test, a_and, a_or, a_not, a_andV, a_orV, a_notV, a_if, a_sif, a_nil, a_cons, a_star, a_list, a_tup, a_sized, a_call, a_built, a_seq, a_set, a_own, a_sret, a_next, a_isi, a_slice, a_part, a_nopart, a_range, a_seqS, a_varP, a_par2, a_xp, a_xo, a_xn, a_asg, a_make, a_chg, a_ixO, a_lenO, a_cntO, items_lst, items_tup, sizeOk, boolD, cmpD, slOf, intOf_int, len_encL, ans_rt, a_fn, List.replicate, F_law_told_value, g_law_told_value, x0, x1, e, s1]
  · have e : eqD (.int (q.den : Int)) (.int 1) = some (.bool false) := by simp [eqD]; omega
    have a1 : addD (.str (iS q.num)) (.str "/") = some (.str (iS q.num ++ "/")) := if_pos (by rw [show ("/" : Str).length = 1 from rfl]; omega)
    have a2 : addD (.str (iS q.num ++ "/")) (.str (iS (q.den : Int))) = some (.str (iS q.num ++ "/" ++ iS (q.den : Int))) := if_pos (by rw [str_app, show ("/" : Str).length = 1 from rfl]; omega)
    rw [if_neg hd, Str.empty_append]
    simp [bd_ok, lf_some, cl_ok, a_ret, a_op, a_un, a_test, a_and, a_or, a_not, a_andV, a_orV, a_notV, a_if, a_sif, a_nil, a_cons, a_star, a_list, a_tup, a_sized, a_call, a_built, a_seq, a_set, a_own, a_sret, a_next, a_isi, a_slice, a_part, a_nopart, a_range, a_seqS, a_varP, a_par2, a_xp, a_xo, a_xn, a_asg, a_make, a_chg, a_ixO, a_lenO, a_cntO, items_lst, items_tup, sizeOk, boolD, cmpD, slOf, intOf_int, len_encL, ans_rt, a_fn, List.replicate, F_law_told_value, g_law_told_value, x0, x1, e, s1, s2, a1, a2]
theorem law_text {n : Nat} {ks hs : List Rat} (hk : ∀ q ∈ ks, Ht 13 q) (hh : ∀ q ∈ hs, Ht 13 q) (hn : n < 1000) (lk : ks.length ≤ 200) (lh : hs.length ≤ 200) : F_law_text [toldD n ks hs] = some (.ok (.str (textB n ks hs))) := by
  have b1 : mBlk [2] (mSeqS (mOp ixD (mVar 0) (mRet (.int 1)))) (lcBody [2] (gSet 2) (mRet true) (mCall F_law_told_value (mCons (mVar 2) (mNil)))) [.pur (toldD n ks hs), .no, .no] = some (.ok ([.pur (toldD n ks hs), .no, .no], ks.map fun q => .str (textR q))) :=
    blk_map ks enc _ (by simp [bd_ok, lf_some, cl_ok, a_ret, a_op, a_un, a_test, a_and, a_or, a_not, a_andV, a_orV, a_notV, a_if, a_sif, a_nil, a_cons, a_star, a_list, a_tup, a_sized, a_call, a_built, a_seq, a_set, a_own, a_sret, a_next, a_isi, a_slice, a_part, a_nopart, a_range, a_seqS, a_varP, a_par2, a_xp, a_xo, a_xn, a_asg, a_make, a_chg, a_ixO, a_lenO, a_cntO, items_lst, items_tup, sizeOk, boolD, cmpD, slOf, intOf_int, len_encL, ans_rt, a_fn, List.replicate, told1]; rfl) (by omega) rfl fun q hq => by simp [bd_ok, lf_some, cl_ok, a_ret, a_op, a_un, a_test, a_and, a_or, a_not, a_andV, a_orV, a_notV, a_if, a_sif, a_nil, a_cons, a_star, a_list, a_tup, a_sized, a_call, a_built, a_seq, a_set, a_own, a_sret, a_next, a_isi, a_slice, a_part, a_nopart, a_range, a_seqS, a_varP, a_par2, a_xp, a_xo, a_xn, a_asg, a_make, a_chg, a_ixO, a_lenO, a_cntO, items_lst, items_tup, sizeOk, boolD, cmpD, slOf, intOf_int, len_encL, ans_rt, a_fn, List.replicate, told_value (hk q hq) (by decide)]
  have b2 : ∀ x : D, mBlk [2] (mSeqS (mOp ixD (mVar 0) (mRet (.int 2)))) (lcBody [2] (gSet 2) (mRet true) (mCall F_law_told_value (mCons (mVar 2) (mNil)))) [.pur (toldD n ks hs), .pur x, .no] = some (.ok ([.pur (toldD n ks hs), .pur x, .no], hs.map fun q => .str (textR q))) := fun x =>
    blk_map hs enc _ (by simp [bd_ok, lf_some, cl_ok, a_ret, a_op, a_un, a_test, a_and, a_or, a_not, a_andV, a_orV, a_notV, a_if, a_sif, a_nil, a_cons, a_star, a_list, a_tup, a_sized, a_call, a_built, a_seq, a_set, a_own, a_sret, a_next, a_isi, a_slice, a_part, a_nopart, a_range, a_seqS, a_varP, a_par2, a_xp, a_xo, a_xn, a_asg, a_make, a_chg, a_ixO, a_lenO, a_cntO, items_lst, items_tup, sizeOk, boolD, cmpD, slOf, intOf_int, len_encL, ans_rt, a_fn, List.replicate, told2]; rfl) (by omega) rfl fun q hq => by simp [bd_ok, lf_some, cl_ok, a_ret, a_op, a_un, a_test, a_and, a_or, a_not, a_andV, a_orV, a_notV, a_if, a_sif, a_nil, a_cons, a_star, a_list, a_tup, a_sized, a_call, a_built, a_seq, a_set, a_own, a_sret, a_next, a_isi, a_slice, a_part, a_nopart, a_range, a_seqS, a_varP, a_par2, a_xp, a_xo, a_xn, a_asg, a_make, a_chg, a_ixO, a_lenO, a_cntO, items_lst, items_tup, sizeOk, boolD, cmpD, slOf, intOf_int, len_encL, ans_rt, a_fn, List.replicate, told_value (hh q hq) (by decide)]
  have nB : (n : Int).natAbs < 2 ^ 10 := by
    rw [Int.natAbs_natCast]
    exact Nat.lt_of_lt_of_le hn (by decide)
  have s1 : strD [.int (n : Int)] = some (.str (iS n)) := if_pos (Nat.lt_of_lt_of_le (log_lt nB (by decide)) (by decide))
  have nl := iS_len nB (by decide)
  have m1 := sum_len ks hk
  have m2 := sum_len hs hh
  have q1 : ks.length * (2 * 13 + 3) ≤ 200 * 29 := Nat.mul_le_mul lk (by omega)
  have q2 : hs.length * (2 * 13 + 3) ≤ 200 * 29 := Nat.mul_le_mul lh (by omega)
  have c1 : ("bend" : Str).length = 4 := rfl
  have c2 : ("marks" : Str).length = 5 := rfl
  have c3 : ("handles" : Str).length = 7 := rfl
  have c4 : (" " : Str).length = 1 := rfl
  obtain ⟨A, eA⟩ : ∃ A, A = ([("bend" : Str), iS n, ("marks" : Str)] ++ ks.map textR).map PyData.str := ⟨_, rfl⟩
  have lA : A.length = ks.length + 3 := by rw [eA]; simp
  have a1 : addD (.list [.str "bend", .str (iS n), .str "marks"]) (.list (ks.map fun q => PyData.str (textR q))) = some (.list A) := by
    rw [eA]
    refine (if_pos (by simp; omega)).trans ?_
    simp [Function.comp_def]
  have a2 : addD (.list A) (.list [.str "handles"]) = some (.list (A ++ [.str "handles"])) := if_pos (by simp; omega)
  have a3 : addD (.list (A ++ [.str "handles"])) (.list (hs.map fun q => PyData.str (textR q))) = some (.list (A ++ PyData.str "handles" :: hs.map fun q => PyData.str (textR q))) := (if_pos (by simp; omega)).trans (by simp)
  have jn : joinD " " (.list (A ++ PyData.str "handles" :: hs.map fun q => PyData.str (textR q))) = some (.str (textB n ks hs)) := by
    have e : (A ++ PyData.str "handles" :: hs.map fun q => PyData.str (textR q)) = ([("bend" : Str), iS n, ("marks" : Str)] ++ (ks.map textR ++ ([("handles" : Str)] ++ hs.map textR))).map PyData.str := by
      rw [eA]
      simp [Function.comp_def]
    unfold joinD
    rw [e]
    simp only [items_lst, strs_map]
    refine if_pos ?_
    simp only [List.map_append, List.map_cons, List.map_nil, List.sum_append, List.sum_cons, List.sum_nil, List.length_append, List.length_cons, List.length_nil, List.length_map, c1, c2, c3, c4]
    omega
  have e0 : ∀ x : D, g_law_text_1 [.pur (toldD n ks hs), .pur (.list A), .no] = some (.ok ([.pur (toldD n ks hs), .pur (.list A), .no], .rt (.str (textB n ks hs)))) := fun x => by
    simp [bd_ok, lf_some, cl_ok, a_ret, a_op, a_un, a_test, a_and, a_or, a_not, a_andV, a_orV, a_notV, a_if, a_sif, a_nil, a_cons, a_star, a_list, a_tup, a_sized, a_call, a_built, a_seq, a_set, a_own, a_sret, a_next, a_isi, a_slice, a_part, a_nopart, a_range, a_seqS, a_varP, a_par2, a_xp, a_xo, a_xn, a_asg, a_make, a_chg, a_ixO, a_lenO, a_cntO, items_lst, items_tup, sizeOk, boolD, cmpD, slOf, intOf_int, len_encL, ans_rt, a_fn, List.replicate, g_law_text_1, a_m1, a2, b2, a3, jn]
  simp [bd_ok, lf_some, cl_ok, a_ret, a_op, a_un, a_test, a_and, a_or, a_not, a_andV, a_orV, a_notV, a_if, a_sif, a_nil, a_cons, a_star, a_list, a_tup, a_sized, a_call, a_built, a_seq, a_set, a_own, a_sret, a_next, a_isi, a_slice, a_part, a_nopart, a_range, a_seqS, a_varP, a_par2, a_xp, a_xo, a_xn, a_asg, a_make, a_chg, a_ixO, a_lenO, a_cntO, items_lst, items_tup, sizeOk, boolD, cmpD, slOf, intOf_int, len_encL, ans_rt, a_fn, List.replicate, F_law_text, g_law_text, told0, s1, b1, a1, e0 .none]
theorem lay_strs : ∀ {L : List Str}, (∀ x ∈ L, PyData.strOk x = true) → PyData.canLayAll0 (L.map .str) = true ∧ PyData.depthAll (L.map .str) ≤ 1
  | [], _ => ⟨rfl, by simp [PyData.depthAll]⟩
  | x :: L, h => by
    obtain ⟨h1, h2⟩ := lay_strs (L := L) fun y hy => h y (List.mem_cons_of_mem _ hy)
    have hx := h x List.mem_cons_self
    refine ⟨by simp [PyData.canLayAll0, PyData.canLay0, hx, h1], ?_⟩
    simp only [PyData.depth, PyData.depthAll, List.map_cons]
    omega
theorem shaped_strs {L : List Str} (h : ∀ x ∈ L, PyData.strOk x = true) : SeqAt.shaped (.list (L.map .str)) = true := by
  obtain ⟨h1, h2⟩ := lay_strs h
  have e1 : PyData.canLay0 (.list (L.map .str)) = true := by simp [PyData.canLay0, h1]
  have e2 : PyData.depth (.list (L.map .str)) ≤ 64 := by
    simp only [PyData.depth]
    omega
  unfold SeqAt.shaped
  rw [e1, decide_eq_true e2]
  rfl
theorem eqv_str (x y : Str) : PyData.eqv (.str x) (.str y) = decide (x = y) := by
  by_cases c : x = y
  · subst c; simp [PyData.eqv]
  · simp [PyData.eqv, c]
section
variable {n : Nat} {ks hs : List Rat}
theorem sl_rest {xs : List D} {a : Nat} : slD (some (a : Int)) none (.list xs) = some (.list (xs.drop a)) := by
  have e : cutD xs (some (a : Int)) none = xs.drop a := by
    unfold cutD
    rw [HT.sIx_nat, show HT.sIx xs.length xs.length none = xs.length from rfl]
    by_cases h : a ≤ xs.length
    · rw [Nat.min_eq_left h, List.take_of_length_le (by rw [List.length_drop]; omega)]
    · rw [Nat.min_eq_right (by omega), List.drop_eq_nil_of_le (show xs.length ≤ a by omega), List.drop_eq_nil_of_le (Nat.le_refl _)]
      simp
  exact congrArg (fun l => some (PyData.list l)) e
theorem textR_nat (n : Nat) : textR (n : Rat) = iS (n : Int) := by
  unfold textR
  rw [if_pos (by simp)]
  simp
theorem mk_slot {c : Str} {F : FnI} {a : Mo (List D)} {ρ : En} : mMkSl 0 c F a (.pur (fnD c) :: ρ) = mMake c F a (.pur (fnD c) :: ρ) := by
  unfold mMkSl
  simp [fnD]
end
end HB
namespace HB
open PySem L2
open TL (tl numL)
theorem sign_no {c : Nat} (h : (48 ≤ c ∧ c ≤ 57) ∨ c = 45 ∨ c = 47) : notInTD (.str ⟨#[c]⟩) (.str "0123456789") = some (.bool (!decide (48 ≤ c ∧ c ≤ 57))) := by
  have : c = 48 ∨ c = 49 ∨ c = 50 ∨ c = 51 ∨ c = 52 ∨ c = 53 ∨ c = 54 ∨ c = 55 ∨ c = 56 ∨ c = 57 ∨ c = 45 ∨ c = 47 := by omega
  rcases this with rfl | rfl | rfl | rfl | rfl | rfl | rfl | rfl | rfl | rfl | rfl | rfl
  all_goals kernel_rfl
theorem signs_of {w : Str} : signsD (.str w) = some ((tl w).map fun c => .str ⟨#[c]⟩) := rfl
/-- the signs of a word that are no digits -/
theorem no_digits {w : Str} (hs : ∀ c ∈ tl w, (48 ≤ c ∧ c ≤ 57) ∨ c = 45 ∨ c = 47) (hl : w.length ≤ 1000) : mBlk [1] (mSignS (mVar 0)) (lcBody [1] (gSet 1) (mTest (mOp notInTD (mVar 1) (mRet (.str "0123456789")))) (mVar 1)) [.pur (.str w), .no] = some (.ok ([.pur (.str w), .no], ((tl w).filter fun c => !decide (48 ≤ c ∧ c ≤ 57)).map fun c => .str ⟨#[c]⟩)) := by
  have sg := signs_of (w := w)
  refine blk_sel (tl w) (fun c => .str ⟨#[c]⟩) (fun c => !decide (48 ≤ c ∧ c ≤ 57)) (fun c => .str ⟨#[c]⟩) (by simp [bd_ok, lf_some, cl_ok, a_ret, a_op, a_un, a_test, a_and, a_or, a_not, a_andV, a_orV, a_notV, a_if, a_sif, a_nil, a_cons, a_star, a_list, a_tup, a_sized, a_call, a_built, a_seq, a_set, a_own, a_sret, a_next, a_isi, a_slice, a_part, a_nopart, a_range, a_seqS, a_varP, a_par2, a_xp, a_xo, a_xn, a_asg, a_make, a_chg, a_ixO, a_lenO, a_cntO, items_lst, items_tup, sizeOk, boolD, cmpD, slOf, intOf_int, len_encL, ans_rt, a_fn, List.replicate, a_signs, sg]) (by rw [← TL.len_tl]; omega) rfl (fun c hc => ?_) fun c _ _ => by simp [bd_ok, lf_some, cl_ok, a_ret, a_op, a_un, a_test, a_and, a_or, a_not, a_andV, a_orV, a_notV, a_if, a_sif, a_nil, a_cons, a_star, a_list, a_tup, a_sized, a_call, a_built, a_seq, a_set, a_own, a_sret, a_next, a_isi, a_slice, a_part, a_nopart, a_range, a_seqS, a_varP, a_par2, a_xp, a_xo, a_xn, a_asg, a_make, a_chg, a_ixO, a_lenO, a_cntO, items_lst, items_tup, sizeOk, boolD, cmpD, slOf, intOf_int, len_encL, ans_rt, a_fn, List.replicate]
  have s := sign_no (hs c hc)
  generalize (!decide (48 ≤ c ∧ c ≤ 57)) = t at *
  simp [bd_ok, lf_some, cl_ok, a_ret, a_op, a_un, a_test, a_and, a_or, a_not, a_andV, a_orV, a_notV, a_if, a_sif, a_nil, a_cons, a_star, a_list, a_tup, a_sized, a_call, a_built, a_seq, a_set, a_own, a_sret, a_next, a_isi, a_slice, a_part, a_nopart, a_range, a_seqS, a_varP, a_par2, a_xp, a_xo, a_xn, a_asg, a_make, a_chg, a_ixO, a_lenO, a_cntO, items_lst, items_tup, sizeOk, boolD, cmpD, slOf, intOf_int, len_encL, ans_rt, a_fn, List.replicate, s]
theorem lnum_back {n : Nat} (h : n < 10 ^ 9) : F_law_number_v1 [.str (iS (n : Int))] = some (.ok (.int (n : Int))) := by
  rcases Nat.eq_zero_or_pos n with rfl | pos
  · kernel_rfl
  have e0 := iS_tl n
  have ln : (iS (n : Int)).length = (numL n).length := by rw [TL.len_tl, e0]
  have l9 : (numL n).length ≤ 9 := TL.numL_len (by decide) h
  have l1 : 0 < (numL n).length := List.length_pos_iff.mpr (TL.numL_ne n)
  have dg := TL.numL_digits n
  obtain ⟨c, r, ec, nc⟩ := numL_first pos
  have bl := no_digits (w := iS (n : Int)) (fun c hc => .inl (dg c (by rwa [e0] at hc))) (by omega)
  have fz : (tl (iS (n : Int))).filter (fun c => !decide (48 ≤ c ∧ c ≤ 57)) = [] := by
    refine List.filter_eq_nil_iff.mpr fun c hc => ?_
    rw [e0] at hc
    have := dg c hc
    simp only [Bool.not_eq_true', decide_eq_false_iff_not, Classical.not_not]
    exact ⟨this.1, this.2⟩
  rw [fz, List.map_nil] at bl
  have len : lenD [.str (iS (n : Int))] = some (.int (iS (n : Int)).length) := if_pos (by omega)
  have ch : mChain (cmpD ltI) (cmpD ltI) (mRet (.int 0)) (mBuilt lenD (mCons (mVar 0) (mNil))) (mRet (.int 10)) [.pur (.str (iS (n : Int))), .no] = some (.ok ([.pur (.str (iS (n : Int))), .no], .bool true)) :=
    chain_is (x := .int 0) (y := .int (iS (n : Int)).length) (z := .int 10) rfl (by simp [bd_ok, lf_some, cl_ok, a_ret, a_op, a_un, a_test, a_and, a_or, a_not, a_andV, a_orV, a_notV, a_if, a_sif, a_nil, a_cons, a_star, a_list, a_tup, a_sized, a_call, a_built, a_seq, a_set, a_own, a_sret, a_next, a_isi, a_slice, a_part, a_nopart, a_range, a_seqS, a_varP, a_par2, a_xp, a_xo, a_xn, a_asg, a_make, a_chg, a_ixO, a_lenO, a_cntO, items_lst, items_tup, sizeOk, boolD, cmpD, slOf, intOf_int, len_encL, ans_rt, a_fn, List.replicate, len]) rfl (by
      show some (PyData.bool (decide ((0 : Int) < ((iS (n : Int)).length : Int)))) = _
      rw [decide_eq_true (by omega)]) (by
      show some (PyData.bool (decide (((iS (n : Int)).length : Int) < (10 : Int)))) = _
      rw [decide_eq_true (by omega)])
  have z0 : PyData.strOk ("0" : Str) = true := by decide +kernel
  have eq := eq_strs (x := iS (n : Int)) (y := "0") (ok_of _) z0
  have ix : ixD (.str (iS (n : Int))) (.int 0) = some (.str ⟨#[c]⟩) := by
    show (if (iS (n : Int)).length ≤ 1000000 then (L2.atI (iS (n : Int)).cps.toList 0).map fun c => PyData.str ⟨#[c]⟩ else none) = _
    rw [if_pos (by omega), show (iS (n : Int)).cps.toList = c :: r from e0.trans ec, atI_nat (z := 0) (i := 0) rfl (by simp)]
    rfl
  have c57 := dg c (by rw [ec]; exact List.mem_cons_self)
  have ne : neD (.str ⟨#[c]⟩) (.str "0") = some (.bool true) := by
    rw [ne_strs (by simp [PyData.strOk]; omega) z0, decide_eq_false fun e => nc ?_]
    · rfl
    · have := congrArg tl e
      rw [show tl ("0" : Str) = [48] by decide +kernel] at this
      exact (List.cons.inj this).1
  have it : intSD [.str (iS (n : Int))] = some (.int (n : Int)) := by
    show (if (iS (n : Int)).length ≤ 640 then (PySem.intText? (iS (n : Int))).map PyData.int else none) = _
    rw [if_pos (by omega), TL.int_num (by omega)]
    rfl
  have nn : neD (.list []) (.list []) = some (.bool false) := rfl
  have e1 : F_law_number_v1 [.str (iS (n : Int))] = ans (g_law_number_v1 [.pur (.str (iS (n : Int))), .no]) := rfl
  rw [e1]
  generalize iS (n : Int) = w at *
  generalize decide (w = ("0" : Str)) = b0 at *
  unfold g_law_number_v1
  have t1 : mOr (mNot (mTest (mChain (cmpD ltI) (cmpD ltI) (mRet (.int 0)) (mBuilt lenD (mCons (mVar 0) (mNil))) (mRet (.int 10))))) (mTest (mOp neD (mList (mBlk [1] (mSignS (mVar 0)) (lcBody [1] (gSet 1) (mTest (mOp notInTD (mVar 1) (mRet (.str "0123456789")))) (mVar 1)))) (mList (mSized (mNil))))) [.pur (.str w), .no] = some (.ok ([.pur (.str w), .no], false)) := by
    rw [a_or, a_not, a_test, ch]
    simp [bd_ok, lf_some, cl_ok, a_ret, a_op, a_un, a_test, a_and, a_or, a_not, a_andV, a_orV, a_notV, a_if, a_sif, a_nil, a_cons, a_star, a_list, a_tup, a_sized, a_call, a_built, a_seq, a_set, a_own, a_sret, a_next, a_isi, a_slice, a_part, a_nopart, a_range, a_seqS, a_varP, a_par2, a_xp, a_xo, a_xn, a_asg, a_make, a_chg, a_ixO, a_lenO, a_cntO, items_lst, items_tup, sizeOk, boolD, cmpD, slOf, intOf_int, len_encL, ans_rt, a_fn, List.replicate, bl, nn]
  rw [a_seq, a_sif, t1, bd_ok]
  simp only [cond_false, a_next, bd_ok]
  cases b0 <;> simp [bd_ok, lf_some, cl_ok, a_ret, a_op, a_un, a_test, a_and, a_or, a_not, a_andV, a_orV, a_notV, a_if, a_sif, a_nil, a_cons, a_star, a_list, a_tup, a_sized, a_call, a_built, a_seq, a_set, a_own, a_sret, a_next, a_isi, a_slice, a_part, a_nopart, a_range, a_seqS, a_varP, a_par2, a_xp, a_xo, a_xn, a_asg, a_make, a_chg, a_ixO, a_lenO, a_cntO, items_lst, items_tup, sizeOk, boolD, cmpD, slOf, intOf_int, len_encL, ans_rt, a_fn, List.replicate, g_law_number_v1_1, eq, ix, ne, it]
/-- a word with a sign that is no digit is no number -/
theorem lnum_none {w : Str} (hs : ∀ c ∈ tl w, (48 ≤ c ∧ c ≤ 57) ∨ c = 45 ∨ c = 47) (hl : w.length ≤ 1000) (he : ∃ c ∈ tl w, c = 45 ∨ c = 47) : F_law_number_v1 [.str w] = some (.ok .none) := by
  obtain ⟨c0, m0, q0⟩ := he
  have bl := no_digits hs hl
  have lpos : 0 < w.length := by rw [TL.len_tl]; exact List.length_pos_of_mem m0
  obtain ⟨x, xs, ex⟩ : ∃ x xs, (tl w).filter (fun c => !decide (48 ≤ c ∧ c ≤ 57)) = x :: xs := by
    have mem : c0 ∈ (tl w).filter (fun c => !decide (48 ≤ c ∧ c ≤ 57)) := List.mem_filter.mpr ⟨m0, by rw [decide_eq_false (by omega)]; rfl⟩
    cases h : (tl w).filter (fun c => !decide (48 ≤ c ∧ c ≤ 57)) with
    | nil => rw [h] at mem; cases mem
    | cons x xs => exact ⟨x, xs, rfl⟩
  have sub : ∀ c ∈ x :: xs, c < 58 := fun c hc => by
    have := hs c (List.mem_filter.mp (by rw [ex]; exact hc)).1
    omega
  have sh : SeqAt.shaped (.list ((x :: xs).map fun c => PyData.str ⟨#[c]⟩)) = true := by
    have e : ((x :: xs).map fun c => PyData.str ⟨#[c]⟩) = ((x :: xs).map fun c => (⟨#[c]⟩ : Str)).map PyData.str := by rw [List.map_map]; rfl
    rw [e]
    refine shaped_strs fun y hy => ?_
    obtain ⟨c, hc, rfl⟩ := List.mem_map.mp hy
    have := sub c hc
    simp [PyData.strOk]
    omega
  have ne : neD (.list ((x :: xs).map fun c => PyData.str ⟨#[c]⟩)) (.list []) = some (.bool true) := by
    have s2 : SeqAt.shaped (.list []) = true := rfl
    show (if SeqAt.shaped (.list ((x :: xs).map fun c => PyData.str ⟨#[c]⟩)) = true ∧ SeqAt.shaped (.list []) = true then some (PyData.bool (!PyData.eqv (.list ((x :: xs).map fun c => PyData.str ⟨#[c]⟩)) (.list []))) else none) = _
    rw [if_pos ⟨sh, s2⟩]
    simp [PyData.eqv, PyData.eqvAll]
  rw [ex] at bl
  have len : lenD [.str w] = some (.int w.length) := if_pos (by omega)
  have e1 : F_law_number_v1 [.str w] = ans (g_law_number_v1 [.pur (.str w), .no]) := rfl
  rw [e1]
  generalize ((x :: xs).map fun c => PyData.str ⟨#[c]⟩) = L at *
  have ch : ∃ t, mTest (mChain (cmpD ltI) (cmpD ltI) (mRet (.int 0)) (mBuilt lenD (mCons (mVar 0) (mNil))) (mRet (.int 10))) [.pur (.str w), .no] = some (.ok ([.pur (.str w), .no], t)) := by
    have l0 : cmpD ltI (.int 0) (.int (w.length : Int)) = some (.bool true) := by
      show some (PyData.bool (decide ((0 : Int) < (w.length : Int)))) = _
      rw [decide_eq_true (by have := lpos; omega)]
    have l1 : ltI 0 (w.length : Int) = true := decide_eq_true (by omega)
    refine ⟨ltI (w.length : Int) 10, ?_⟩
    have hb : mBuilt lenD (mCons (mVar 0) (mNil)) [.pur (.str w), .no] = some (.ok ([.pur (.str w), .no], .int w.length)) := by simp [bd_ok, lf_some, cl_ok, a_ret, a_op, a_un, a_test, a_and, a_or, a_not, a_andV, a_orV, a_notV, a_if, a_sif, a_nil, a_cons, a_star, a_list, a_tup, a_sized, a_call, a_built, a_seq, a_set, a_own, a_sret, a_next, a_isi, a_slice, a_part, a_nopart, a_range, a_seqS, a_varP, a_par2, a_xp, a_xo, a_xn, a_asg, a_make, a_chg, a_ixO, a_lenO, a_cntO, items_lst, items_tup, sizeOk, boolD, cmpD, slOf, intOf_int, len_encL, ans_rt, a_fn, List.replicate, len]
    unfold mTest mChain mTest mLift mBind mRet
    simp only [hb, l1, boolD, cmpD]
  obtain ⟨t, ht⟩ := ch
  have t1 : mOr (mNot (mTest (mChain (cmpD ltI) (cmpD ltI) (mRet (.int 0)) (mBuilt lenD (mCons (mVar 0) (mNil))) (mRet (.int 10))))) (mTest (mOp neD (mList (mBlk [1] (mSignS (mVar 0)) (lcBody [1] (gSet 1) (mTest (mOp notInTD (mVar 1) (mRet (.str "0123456789")))) (mVar 1)))) (mList (mSized (mNil))))) [.pur (.str w), .no] = some (.ok ([.pur (.str w), .no], true)) := by
    rw [a_or, a_not, ht]
    cases t <;> simp [bd_ok, lf_some, cl_ok, a_ret, a_op, a_un, a_test, a_and, a_or, a_not, a_andV, a_orV, a_notV, a_if, a_sif, a_nil, a_cons, a_star, a_list, a_tup, a_sized, a_call, a_built, a_seq, a_set, a_own, a_sret, a_next, a_isi, a_slice, a_part, a_nopart, a_range, a_seqS, a_varP, a_par2, a_xp, a_xo, a_xn, a_asg, a_make, a_chg, a_ixO, a_lenO, a_cntO, items_lst, items_tup, sizeOk, boolD, cmpD, slOf, intOf_int, len_encL, ans_rt, a_fn, List.replicate, bl, ne]
  unfold g_law_number_v1
  rw [a_seq, a_sif, t1, bd_ok]
  rfl
theorem lval_parts {w bare : Str} {neg : Bool} {N : List Nat} (hw : w.length ≤ 1000000) (h1 : eqD (.str (cutS w none (some 1))) (.str "-") = some (.bool neg)) (hb : bare = if neg then cutS w (some 1) none else w) (h2 : splitD bare (.str "/") = some (.list (N.map numS))) (h3 : ∀ n ∈ N, n < 10 ^ 9) (h4 : N.length ≤ 2) :
    F_law_read_value [.str w] = ans (g_law_read_value_4 [.pur (.str w), .pur (.str bare), .pur (.list (N.map natD)), .no, .no]) := by
  have e1 : F_law_read_value [.str w] = ans (g_law_read_value [.pur (.str w), .no, .no, .no, .no]) := rfl
  have s1 := sl_str (z := w) (lo := none) (hi := some 1) hw
  have s2 := sl_str (z := w) (lo := some 1) (hi := none) hw
  have bl : mBlk [4] (mSeqS (mM1 splitD (mVar 1) (mRet (.str "/")))) (lcBody [4] (gSet 4) (mRet true) (mCall F_law_number_v1 (mCons (mVar 4) (mNil)))) [.pur (.str w), .pur (.str bare), .no, .no, .no] = some (.ok ([.pur (.str w), .pur (.str bare), .no, .no, .no], N.map natD)) :=
    blk_map N numS natD (by
      generalize N.map numS = P at *
      simp [bd_ok, lf_some, cl_ok, a_ret, a_op, a_un, a_test, a_and, a_or, a_not, a_andV, a_orV, a_notV, a_if, a_sif, a_nil, a_cons, a_star, a_list, a_tup, a_sized, a_call, a_built, a_seq, a_set, a_own, a_sret, a_next, a_isi, a_slice, a_part, a_nopart, a_range, a_seqS, a_varP, a_par2, a_xp, a_xo, a_xn, a_asg, a_make, a_chg, a_ixO, a_lenO, a_cntO, items_lst, items_tup, sizeOk, boolD, cmpD, slOf, intOf_int, len_encL, ans_rt, a_fn, List.replicate, a_m1g, h2]) (by omega) rfl fun n hn => by
      have b := lnum_back (h3 n hn)
      simp [bd_ok, lf_some, cl_ok, a_ret, a_op, a_un, a_test, a_and, a_or, a_not, a_andV, a_orV, a_notV, a_if, a_sif, a_nil, a_cons, a_star, a_list, a_tup, a_sized, a_call, a_built, a_seq, a_set, a_own, a_sret, a_next, a_isi, a_slice, a_part, a_nopart, a_range, a_seqS, a_varP, a_par2, a_xp, a_xo, a_xn, a_asg, a_make, a_chg, a_ixO, a_lenO, a_cntO, items_lst, items_tup, sizeOk, boolD, cmpD, slOf, intOf_int, len_encL, ans_rt, a_fn, List.replicate, b, numS, natD]
  rw [e1]
  generalize N.map natD = M at *
  have q : g_law_read_value [.pur (.str w), .no, .no, .no, .no] = g_law_read_value_5 [.pur (.str w), .pur (.str bare), .no, .no, .no] := by
    subst hb
    cases neg
    · generalize cutS w none (some 1) = c1 at *
      simp [bd_ok, lf_some, cl_ok, a_ret, a_op, a_un, a_test, a_and, a_or, a_not, a_andV, a_orV, a_notV, a_if, a_sif, a_nil, a_cons, a_star, a_list, a_tup, a_sized, a_call, a_built, a_seq, a_set, a_own, a_sret, a_next, a_isi, a_slice, a_part, a_nopart, a_range, a_seqS, a_varP, a_par2, a_xp, a_xo, a_xn, a_asg, a_make, a_chg, a_ixO, a_lenO, a_cntO, items_lst, items_tup, sizeOk, boolD, cmpD, slOf, intOf_int, len_encL, ans_rt, a_fn, List.replicate, g_law_read_value, s1, h1]
    · generalize cutS w none (some 1) = c1 at *
      generalize cutS w (some 1) none = c2 at *
      simp [bd_ok, lf_some, cl_ok, a_ret, a_op, a_un, a_test, a_and, a_or, a_not, a_andV, a_orV, a_notV, a_if, a_sif, a_nil, a_cons, a_star, a_list, a_tup, a_sized, a_call, a_built, a_seq, a_set, a_own, a_sret, a_next, a_isi, a_slice, a_part, a_nopart, a_range, a_seqS, a_varP, a_par2, a_xp, a_xo, a_xn, a_asg, a_make, a_chg, a_ixO, a_lenO, a_cntO, items_lst, items_tup, sizeOk, boolD, cmpD, slOf, intOf_int, len_encL, ans_rt, a_fn, List.replicate, g_law_read_value, s1, h1, s2]
  rw [q]
  simp [bd_ok, lf_some, cl_ok, a_ret, a_op, a_un, a_test, a_and, a_or, a_not, a_andV, a_orV, a_notV, a_if, a_sif, a_nil, a_cons, a_star, a_list, a_tup, a_sized, a_call, a_built, a_seq, a_set, a_own, a_sret, a_next, a_isi, a_slice, a_part, a_nopart, a_range, a_seqS, a_varP, a_par2, a_xp, a_xo, a_xn, a_asg, a_make, a_chg, a_ixO, a_lenO, a_cntO, items_lst, items_tup, sizeOk, boolD, cmpD, slOf, intOf_int, len_encL, ans_rt, a_fn, List.replicate, g_law_read_value_5, bl]
theorem sign_word {q : Rat} : eqD (.str (cutS (textR q) none (some 1))) (.str "-") = some (.bool (decide (q.num < 0))) := by
  have ts := textR_sign q
  obtain ⟨c, r, b1, b2, b3⟩ := bare_first q
  have len : (textR q).length = (tl (textR q)).length := TL.len_tl _
  have lpos : 1 ≤ (textR q).length := by rw [len, ts, b1, List.length_append, List.length_cons]; omega
  have c1 : tl (cutS (textR q) none (some 1)) = (tl (textR q)).take 1 := by
    rw [tl_cut, show HT.sIx (textR q).length 0 none = 0 from rfl, show (some (1 : Int)) = some ((1 : Nat) : Int) from rfl, HT.sIx_nat, Nat.min_eq_left lpos]
    rfl
  have one : cutS (textR q) none (some 1) = ⟨#[if q.num < 0 then 45 else c]⟩ := by
    refine TL.ext_tl ?_
    rw [c1, ts, b1]
    split <;> rfl
  rw [one, eq_strs (by simp [PyData.strOk]; split <;> omega) (by decide +kernel)]
  by_cases hn : q.num < 0
  · rw [if_pos hn, decide_eq_true hn, decide_eq_true (by kernel_rfl)]
  · rw [if_neg hn, decide_eq_false hn, decide_eq_false fun e => ?_]
    have := congrArg tl e
    rw [show tl ("-" : Str) = [45] by decide +kernel] at this
    have := (List.cons.inj this).1
    omega
theorem not_minus0 {q : Rat} : textR q ≠ ("-0" : Str) := fun e => by
  have h := congrArg tl e
  rw [textR_sign, show tl ("-0" : Str) = [45, 48] by decide +kernel] at h
  obtain ⟨c, r, b1, b2, b3⟩ := bare_first q
  by_cases hn : q.num < 0
  · obtain ⟨x, xs, ex, nx⟩ := numL_first (n := q.num.natAbs) (by omega)
    rw [if_pos hn] at h
    have h2 : bareL q = [48] := (List.cons.inj h).2
    have : ∃ ys, bareL q = x :: ys := by
      unfold bareL
      split
      · exact ⟨xs, by show numL _ = _; exact ex⟩
      · refine ⟨xs ++ ([47] ++ numL q.den), ?_⟩
        show numL q.num.natAbs ++ ([47] ++ numL q.den) = _
        rw [ex]
        rfl
    obtain ⟨ys, ey⟩ := this
    rw [ey] at h2
    exact nx (List.cons.inj h2).1
  · rw [if_neg hn, b1] at h
    have : c = 45 := (List.cons.inj h).1
    omega
theorem lval_back {q : Rat} (h1 : q.num.natAbs < 10 ^ 9) (h2 : q.den < 10 ^ 9) (hl : (textR q).length ≤ 1000) : F_law_read_value [.str (textR q)] = some (.ok (enc q)) := by
  have pos := q.den_pos
  have ts := textR_sign q
  have neg := sign_word (q := q)
  have len : (textR q).length = (tl (textR q)).length := TL.len_tl _
  obtain ⟨bare, hb⟩ : ∃ bare, bare = if decide (q.num < 0) then cutS (textR q) (some 1) none else textR q := ⟨_, rfl⟩
  have tb : tl bare = bareL q := by
    rw [hb]
    by_cases hn : q.num < 0
    · rw [decide_eq_true hn, if_pos rfl, tl_cut, show (some (1 : Int)) = some ((1 : Nat) : Int) from rfl, HT.sIx_nat, show HT.sIx (textR q).length (textR q).length none = (textR q).length from rfl]
      rw [if_pos hn] at ts
      have l1 : 1 ≤ (textR q).length := by rw [len, ts]; simp
      rw [Nat.min_eq_left l1, len, ← List.length_drop, List.take_length, ts]
      rfl
    · rw [decide_eq_false hn, if_neg (by decide), ts, if_neg hn]
      rfl
  have bl : bare.length ≤ 1000000 := by
    rw [TL.len_tl, tb]
    have := congrArg List.length ts
    rw [List.length_append] at this
    omega
  have sp := split_slash bl (N := if q.den = 1 then [q.num.natAbs] else [q.num.natAbs, q.den]) tb (by split <;> simp)
  have vp := lval_parts (w := textR q) (by omega) neg hb sp (fun n hn => by
    split at hn
    · rw [List.mem_singleton.mp hn]; exact h1
    · rcases (List.mem_cons.mp hn) with e | e
      · rw [e]; exact h1
      · rw [List.mem_singleton.mp e]; exact h2) (by split <;> simp)
  rw [vp]
  have m0 := eq_strs (x := textR q) (y := "-0") (textR_ok q) (by decide +kernel)
  rw [decide_eq_false not_minus0] at m0
  have s1 := sl_str (z := textR q) (lo := none) (hi := some 1) (by omega)
  obtain ⟨qa, qa1, qa2⟩ : ∃ qa : Rat, qa.num = (q.num.natAbs : Int) ∧ qa.den = q.den := by
    by_cases hn : q.num < 0
    · exact ⟨-q, by rw [show (-q).num = -q.num from rfl]; omega, rfl⟩
    · exact ⟨q, by omega, rfl⟩
  have eqa : enc qa = .tuple [natD q.num.natAbs, natD q.den] := by unfold enc natD; rw [qa1, qa2]
  have fr : F_law_fr [natD q.num.natAbs, natD q.den] = some (.ok (.tuple [natD q.num.natAbs, natD q.den])) := by
    have e := law_fr_enc (t := (q.num.natAbs : Int)) (b := (q.den : Int)) (by rw [Int.natAbs_natCast]; exact Nat.lt_of_lt_of_le h1 (by exact Nat.le_trans (show 10 ^ 9 ≤ 2 ^ 30 by decide) (Nat.pow_le_pow_right (by decide) (by decide)))) (by omega) (by rw [Int.natAbs_natCast]; exact Nat.lt_of_lt_of_le h2 (by exact Nat.le_trans (show 10 ^ 9 ≤ 2 ^ 30 by decide) (Nat.pow_le_pow_right (by decide) (by decide))))
    rw [← qa1, ← qa2, Rat.num_divInt_den, eqa, qa1, qa2] at e
    exact e
  have nf : neD (.tuple [natD q.num.natAbs, natD q.den]) (.tuple [natD q.num.natAbs, natD q.den]) = some (.bool false) := by
    rw [← eqa, ne_enc]
    simp
  generalize textR q = w at *
  generalize cutS w none (some 1) = c1 at *
  clear sp vp hb tb
  have sb : subD (.int 0) (natD q.num.natAbs) = some (.int (0 - (q.num.natAbs : Int))) := rfl
  by_cases hd : q.den = 1
  · rw [if_pos hd]
    simp only [List.map_cons, List.map_nil]
    rw [hd] at fr nf
    have l1 : lenD [.list [natD q.num.natAbs]] = some (.int 1) := rfl
    have i0 : ixD (.list [natD q.num.natAbs]) (.int 0) = some (natD q.num.natAbs) := rfl
    have no : inTD .none (.list [natD q.num.natAbs]) = some (.bool false) := rfl
    have g2 : gtI 1 2 = false := rfl
    have e2 : eqD (.int 1) (.int 2) = some (.bool false) := rfl
    have t0 : ixD (.tuple [natD q.num.natAbs, .int 1]) (.int 0) = some (natD q.num.natAbs) := rfl
    have t1 : ixD (.tuple [natD q.num.natAbs, .int 1]) (.int 1) = some (.int 1) := rfl
    have fr' : F_law_fr [natD q.num.natAbs, .int 1] = some (.ok (.tuple [natD q.num.natAbs, .int 1])) := fr
    have nf' : neD (.tuple [natD q.num.natAbs, .int 1]) (.tuple [natD q.num.natAbs, .int 1]) = some (.bool false) := nf
    clear fr nf
    by_cases hn : q.num < 0
    · rw [decide_eq_true hn] at neg
      have en : enc q = .tuple [.int (0 - (q.num.natAbs : Int)), .int 1] := by
        unfold enc
        rw [hd, show (0 - (q.num.natAbs : Int)) = q.num by omega]
        rfl
      rw [en]
      clear en eqa
      generalize natD q.num.natAbs = a at *
      simp [bd_ok, lf_some, cl_ok, a_ret, a_op, a_un, a_test, a_and, a_or, a_not, a_andV, a_orV, a_notV, a_if, a_sif, a_nil, a_cons, a_star, a_list, a_tup, a_sized, a_call, a_built, a_seq, a_set, a_own, a_sret, a_next, a_isi, a_slice, a_part, a_nopart, a_range, a_seqS, a_varP, a_par2, a_xp, a_xo, a_xn, a_asg, a_make, a_chg, a_ixO, a_lenO, a_cntO, items_lst, items_tup, sizeOk, boolD, cmpD, slOf, intOf_int, len_encL, ans_rt, a_fn, List.replicate, g_law_read_value_4, g_law_read_value_3, g_law_read_value_2, g_law_read_value_1, l1, i0, no, g2, e2, m0, t0, t1, fr', nf', s1, neg, sb]
    · rw [decide_eq_false hn] at neg
      have en : enc q = .tuple [natD q.num.natAbs, .int 1] := by
        unfold enc natD
        rw [hd, show (q.num.natAbs : Int) = q.num by omega]
        rfl
      rw [en]
      clear en eqa
      generalize natD q.num.natAbs = a at *
      simp [bd_ok, lf_some, cl_ok, a_ret, a_op, a_un, a_test, a_and, a_or, a_not, a_andV, a_orV, a_notV, a_if, a_sif, a_nil, a_cons, a_star, a_list, a_tup, a_sized, a_call, a_built, a_seq, a_set, a_own, a_sret, a_next, a_isi, a_slice, a_part, a_nopart, a_range, a_seqS, a_varP, a_par2, a_xp, a_xo, a_xn, a_asg, a_make, a_chg, a_ixO, a_lenO, a_cntO, items_lst, items_tup, sizeOk, boolD, cmpD, slOf, intOf_int, len_encL, ans_rt, a_fn, List.replicate, g_law_read_value_4, g_law_read_value_3, g_law_read_value_2, g_law_read_value_1, l1, i0, no, g2, e2, m0, t0, t1, fr', nf', s1, neg]
  · rw [if_neg hd]
    simp only [List.map_cons, List.map_nil]
    have l1 : lenD [.list [natD q.num.natAbs, natD q.den]] = some (.int 2) := rfl
    have i0 : ixD (.list [natD q.num.natAbs, natD q.den]) (.int 0) = some (natD q.num.natAbs) := rfl
    have i1 : ixD (.list [natD q.num.natAbs, natD q.den]) (.int 1) = some (natD q.den) := rfl
    have no : inTD .none (.list [natD q.num.natAbs, natD q.den]) = some (.bool false) := rfl
    have g2 : gtI 2 2 = false := rfl
    have e2 : eqD (.int 2) (.int 2) = some (.bool true) := rfl
    have lb : ltI (q.den : Int) 2 = false := decide_eq_false (by omega)
    have t0 : ixD (.tuple [natD q.num.natAbs, natD q.den]) (.int 0) = some (natD q.num.natAbs) := rfl
    have t1 : ixD (.tuple [natD q.num.natAbs, natD q.den]) (.int 1) = some (natD q.den) := rfl
    by_cases hn : q.num < 0
    · rw [decide_eq_true hn] at neg
      have en : enc q = .tuple [.int (0 - (q.num.natAbs : Int)), natD q.den] := by
        unfold enc natD
        rw [show (0 - (q.num.natAbs : Int)) = q.num by omega]
      rw [en]
      clear en eqa
      unfold natD at *
      generalize (q.num.natAbs : Int) = a at *
      generalize (q.den : Int) = b at *
      simp [bd_ok, lf_some, cl_ok, a_ret, a_op, a_un, a_test, a_and, a_or, a_not, a_andV, a_orV, a_notV, a_if, a_sif, a_nil, a_cons, a_star, a_list, a_tup, a_sized, a_call, a_built, a_seq, a_set, a_own, a_sret, a_next, a_isi, a_slice, a_part, a_nopart, a_range, a_seqS, a_varP, a_par2, a_xp, a_xo, a_xn, a_asg, a_make, a_chg, a_ixO, a_lenO, a_cntO, items_lst, items_tup, sizeOk, boolD, cmpD, slOf, intOf_int, len_encL, ans_rt, a_fn, List.replicate, g_law_read_value_4, g_law_read_value_3, g_law_read_value_2, g_law_read_value_1, l1, i0, i1, no, g2, e2, lb, m0, t0, t1, fr, nf, s1, neg, sb]
    · rw [decide_eq_false hn] at neg
      have en : enc q = .tuple [natD q.num.natAbs, natD q.den] := by
        unfold enc natD
        rw [show (q.num.natAbs : Int) = q.num by omega]
      rw [en]
      clear en eqa
      unfold natD at *
      generalize (q.num.natAbs : Int) = a at *
      generalize (q.den : Int) = b at *
      simp [bd_ok, lf_some, cl_ok, a_ret, a_op, a_un, a_test, a_and, a_or, a_not, a_andV, a_orV, a_notV, a_if, a_sif, a_nil, a_cons, a_star, a_list, a_tup, a_sized, a_call, a_built, a_seq, a_set, a_own, a_sret, a_next, a_isi, a_slice, a_part, a_nopart, a_range, a_seqS, a_varP, a_par2, a_xp, a_xo, a_xn, a_asg, a_make, a_chg, a_ixO, a_lenO, a_cntO, items_lst, items_tup, sizeOk, boolD, cmpD, slOf, intOf_int, len_encL, ans_rt, a_fn, List.replicate, g_law_read_value_4, g_law_read_value_3, g_law_read_value_2, g_law_read_value_1, l1, i0, i1, no, g2, e2, lb, m0, t0, t1, fr, nf, s1, neg]
def vD : Option Rat → D
  | none => .none
  | some q => enc q
def nD : Option Rat → D
  | some q => if q.den = 1 ∧ 0 ≤ q.num then .int q.num else .none
  | none => .none
structure Wrd (w : Str) (v : Option Rat) : Prop where
  ok : PyData.strOk w = true
  fr : 32 ∉ tl w
  ln : w.length ≤ 100
  f1 : F_value_in [.str w] = some (.ok (vD v))
  f2 : F_law_read_value [.str w] = some (.ok (vD v))
  f3 : F_law_number_v1 [.str w] = some (.ok (nD v))
  bd : ∀ q, v = some q → Ht 9 q
theorem textR_signs {q : Rat} : ∀ c ∈ tl (textR q), (48 ≤ c ∧ c ≤ 57) ∨ c = 45 ∨ c = 47 := by
  intro c hc
  rw [textR_sign, List.mem_append] at hc
  rcases hc with h | h
  · split at h
    · exact .inr (.inl (List.mem_singleton.mp h))
    · cases h
  · unfold bareL at h
    split at h
    · exact .inl (TL.numL_digits _ c h)
    · have h' : c ∈ numL q.num.natAbs ++ ([47] ++ numL q.den) := h
      rw [List.mem_append, List.mem_append] at h'
      rcases h' with h' | h' | h'
      · exact .inl (TL.numL_digits _ c h')
      · exact .inr (.inr (List.mem_singleton.mp h'))
      · exact .inl (TL.numL_digits _ c h')
theorem wrd_text {q : Rat} (h : Ht 9 q) : Wrd (textR q) (some q) := by
  have h1 : q.num.natAbs < 10 ^ 9 := Nat.lt_of_lt_of_le h.1 (by decide)
  have h2 : q.den < 10 ^ 9 := Nat.lt_of_lt_of_le h.2 (by decide)
  have l := text_len h
  refine ⟨textR_ok q, textR_free (by omega), by omega, value_back h1 h2 (by omega), lval_back h1 h2 (by omega), ?_, fun p e => by cases e; exact h⟩
  show F_law_number_v1 [.str (textR q)] = some (.ok (if q.den = 1 ∧ 0 ≤ q.num then .int q.num else .none))
  by_cases c : q.den = 1 ∧ 0 ≤ q.num
  · rw [if_pos c]
    have e : textR q = iS (q.num.toNat : Int) := by
      unfold textR
      rw [if_pos c.1, show ((q.num.toNat : Nat) : Int) = q.num by omega]
    rw [e, lnum_back (by omega), show ((q.num.toNat : Nat) : Int) = q.num by omega]
  · rw [if_neg c]
    refine lnum_none textR_signs (by omega) ?_
    by_cases hd : q.den = 1
    · refine ⟨45, ?_, .inl rfl⟩
      rw [textR_sign, if_pos (by omega)]
      simp
    · refine ⟨47, ?_, .inr rfl⟩
      rw [textR_sign, List.mem_append]
      right
      unfold bareL
      rw [if_neg hd]
      show 47 ∈ numL q.num.natAbs ++ ([47] ++ numL q.den)
      simp
end HB
namespace HB
open PySem L2
structure Pc where
  a : Rat
  b : Rat
  p : List Rat
end HB
namespace HB
open PySem L2
def mg : Pc → List Pc → Pc × List Pc
  | l, [] => (l, [])
  | l, r :: rs => if r.p = l.p then mg ⟨l.a, r.b, r.p⟩ rs else (l, (mg r rs).1 :: (mg r rs).2)
end HB
namespace HB
open PySem L2
def descB (ks : List Rat) : Bool := (ks.zip (ks.drop 1)).any fun p => decide (p.2 < p.1)
def endsB (ks : List Rat) : Bool := decide (1 < cntR ks (at0 ks 0)) || decide (1 < cntR ks (lastR ks))
def inR (ks : List Rat) : List Rat := (ks.drop 1).take (ks.length - 2)
def innB (n : Nat) (ks : List Rat) : Bool := (inR ks).any fun q => decide (n < cntR (inR ks) q)
section
variable {n : Nat} {ks : List Rat}
theorem desc_is : (List.range (ks.length - 1)).any (fun i => decide (at0 ks (i + 1) < at0 ks i)) = descB ks := by
  rw [Bool.eq_iff_iff]
  unfold descB
  rw [List.any_eq_true, List.any_eq_true]
  constructor
  · rintro ⟨i, hi, h⟩
    have hi := List.mem_range.mp hi
    have h := of_decide_eq_true h
    rw [at0_lt (by omega), at0_lt (by omega)] at h
    refine ⟨(ks[i], ks[i + 1]), ?_, decide_eq_true h⟩
    refine List.mem_iff_getElem.mpr ⟨i, by rw [List.length_zip, List.length_drop]; omega, ?_⟩
    rw [List.getElem_zip, List.getElem_drop]
    congr 2
    omega
  · rintro ⟨p, hp, h⟩
    obtain ⟨i, hi, e⟩ := List.mem_iff_getElem.mp hp
    rw [List.length_zip, List.length_drop] at hi
    rw [List.getElem_zip, List.getElem_drop] at e
    have h := of_decide_eq_true h
    refine ⟨i, List.mem_range.mpr (by omega), decide_eq_true ?_⟩
    rw [at0_lt (by omega), at0_lt (by omega)]
    rw [← e] at h
    have e2 : ks[1 + i]'(by omega) = ks[i + 1]'(by omega) := by congr 1; omega
    rwa [e2] at h
theorem split_ends (h : 2 ≤ ks.length) : ks = at0 ks 0 :: (inR ks ++ [lastR ks]) := by
  show ks = at0 ks 0 :: ((ks.drop 1).take (ks.length - 2) ++ [lastR ks])
  refine List.ext_getElem (by simp; omega) fun i h1 h2 => ?_
  cases i with
  | zero => rw [List.getElem_cons_zero, at0_lt (by omega)]
  | succ i =>
    rw [List.getElem_cons_succ, List.getElem_append]
    have li : ((ks.drop 1).take (ks.length - 2)).length = ks.length - 2 := by simp; omega
    split
    · rename_i c
      rw [List.getElem_take, List.getElem_drop]
      congr 1
      omega
    · rename_i c
      rw [List.getElem_singleton]
      show _ = at0 ks (ks.length - 1)
      rw [at0_lt (by omega)]
      congr 1
      omega
theorem cnt_parts (h : 2 ≤ ks.length) (q : Rat) : cntR ks q = (if at0 ks 0 = q then 1 else 0) + cntR (inR ks) q + (if lastR ks = q then 1 else 0) := by
  have e := split_ends h
  generalize at0 ks 0 = a at *
  generalize lastR ks = z at *
  generalize inR ks = I at *
  subst e
  unfold cntR
  rw [List.filter_cons, List.filter_append, List.filter_cons, List.filter_nil]
  by_cases c1 : a = q <;> by_cases c2 : z = q <;> simp [c1, c2] <;> omega
theorem am_law (h : 2 ≤ ks.length) : amB n ks = (!descB ks && (!endsB ks && !innB n ks)) := by
  unfold amB
  rw [desc_is]
  cases descB ks with
  | true => rfl
  | false =>
    simp only [Bool.not_false, Bool.true_and]
    have p0 := cnt_parts h (at0 ks 0)
    have pz := cnt_parts h (lastR ks)
    rw [if_pos rfl] at p0
    rw [if_pos (show lastR ks = lastR ks from rfl)] at pz
    have g0 : 1 ≤ cntR ks (at0 ks 0) := by omega
    have gz : 1 ≤ cntR ks (lastR ks) := by omega
    by_cases c0 : cntR ks (at0 ks 0) = 1
    · by_cases cz : cntR ks (lastR ks) = 1
      · have ne : endsB ks = false := by
          unfold endsB
          rw [decide_eq_false (by omega), decide_eq_false (by omega)]
          rfl
        rw [ne, decide_eq_true c0, decide_eq_true cz]
        simp only [Bool.true_and, Bool.not_false]
        have same : ∀ q ∈ inR ks, cntR ks q = cntR (inR ks) q := fun q hq => by
          have pos : 1 ≤ cntR (inR ks) q := List.length_pos_of_mem (List.mem_filter.mpr ⟨hq, decide_eq_true rfl⟩)
          have p := cnt_parts h q
          have n1 : at0 ks 0 ≠ q := fun e => by
            subst e
            omega
          have n2 : lastR ks ≠ q := fun e => by
            subst e
            omega
          rw [if_neg n1, if_neg n2] at p
          omega
        show (inR ks).all _ = !(inR ks).any _
        rw [List.not_any_eq_all_not]
        rw [Bool.eq_iff_iff]; rw [List.all_eq_true]; rw [List.all_eq_true]
        constructor
        · intro h q hq
          have := of_decide_eq_true (h q hq)
          rw [same q hq] at this
          rw [decide_eq_false (show ¬ _ by omega)]
          rfl
        · intro h q hq
          have := h q hq
          rw [Bool.not_eq_true', decide_eq_false_iff_not] at this
          refine decide_eq_true ?_
          rw [same q hq]
          omega
      · have ne : endsB ks = true := by
          unfold endsB
          rw [decide_eq_true (show 1 < cntR ks (lastR ks) by omega), Bool.or_true]
        rw [ne, decide_eq_false cz]
        simp
    · have ne : endsB ks = true := by
        unfold endsB
        rw [decide_eq_true (show 1 < cntR ks (at0 ks 0) by omega), Bool.true_or]
      rw [ne, decide_eq_false c0]
      simp
theorem am_good (h : 2 ≤ ks.length) (am : amB n ks = true) : GoodM n ks := by
  unfold amB at am
  obtain ⟨h1, h2⟩ := Bool.and_eq_true_iff.mp am
  obtain ⟨h2, h3⟩ := Bool.and_eq_true_iff.mp h2
  obtain ⟨h3, h4⟩ := Bool.and_eq_true_iff.mp h3
  rw [Bool.not_eq_true'] at h1
  refine ⟨h, fun i hi => ?_, of_decide_eq_true h2, of_decide_eq_true h3, fun i i0 hi => ?_⟩
  · have := List.any_eq_false.mp h1 i (List.mem_range.mpr (by omega))
    simp only [decide_eq_true_eq] at this
    grind
  · have m : at0 ks i ∈ (ks.drop 1).take (ks.length - 2) := by
      rw [at0_lt (by omega)]
      refine List.mem_iff_getElem.mpr ⟨i - 1, by simp; omega, ?_⟩
      rw [List.getElem_take, List.getElem_drop]
      congr 1
      omega
    exact of_decide_eq_true (List.all_eq_true.mp h4 _ m)
end
end HB
namespace HB
open PySem L2
open TL (tl numL)
def wS (L : List Str) : List D := L.map .str
theorem eqvAll_strs : ∀ A B : List Str, PyData.eqvAll (wS A) (wS B) = decide (A = B)
  | [], [] => rfl
  | [], _ :: _ => by simp [wS, PyData.eqvAll]
  | _ :: _, [] => by simp [wS, PyData.eqvAll]
  | a :: A, b :: B => by
    have ih := eqvAll_strs A B
    unfold wS at ih ⊢
    simp only [List.map_cons, PyData.eqvAll, ih, eqv_str]
    by_cases h1 : a = b
    · by_cases h2 : A = B
      · simp [h1, h2]
      · simp [h1, h2]
    · simp [h1]
theorem ne_strsL {A B : List Str} (hA : ∀ x ∈ A, PyData.strOk x = true) (hB : ∀ x ∈ B, PyData.strOk x = true) : neD (.list (wS A)) (.list (wS B)) = some (.bool (!decide (A = B))) := by
  have s1 : SeqAt.shaped (.list (wS A)) = true := shaped_strs hA
  have s2 : SeqAt.shaped (.list (wS B)) = true := shaped_strs hB
  show (if SeqAt.shaped (.list (wS A)) = true ∧ SeqAt.shaped (.list (wS B)) = true then some (PyData.bool (!PyData.eqv (.list (wS A)) (.list (wS B)))) else none) = _
  rw [if_pos ⟨s1, s2⟩]
  simp only [PyData.eqv, eqvAll_strs]
theorem sl_any {xs : List D} {a b : Nat} (h : a ≤ b) : slD (some (a : Int)) (some (b : Int)) (.list xs) = some (.list ((xs.drop a).take (b - a))) := by
  have e : cutD xs (some (a : Int)) (some (b : Int)) = (xs.drop a).take (b - a) := by
    unfold cutD
    rw [HT.sIx_nat, HT.sIx_nat]
    by_cases h1 : a ≤ xs.length
    · rw [Nat.min_eq_left h1]
      by_cases h2 : b ≤ xs.length
      · rw [Nat.min_eq_left h2]
      · rw [Nat.min_eq_right (by omega), List.take_of_length_le (by rw [List.length_drop]; omega), List.take_of_length_le (by rw [List.length_drop]; omega)]
    · have m : min a xs.length = xs.length := Nat.min_eq_right (by omega)
      rw [m, List.drop_eq_nil_of_le (show xs.length ≤ a by omega), List.drop_eq_nil_of_le (Nat.le_refl _)]
      simp
  exact congrArg (fun l => some (PyData.list l)) e
theorem sl_less {xs : List D} {a b : Nat} (h : b ≤ a) : slD (some (a : Int)) (some (b : Int)) (.list xs) = some (.list []) := by
  have e : cutD xs (some (a : Int)) (some (b : Int)) = [] := by
    unfold cutD
    rw [HT.sIx_nat, HT.sIx_nat, show min b xs.length - min a xs.length = 0 by omega, List.take_zero]
  exact congrArg (fun l => some (PyData.list l)) e
/-- all words are known -/
structure Ws (L : List Str) (v : Str → Option Rat) : Prop where
  w : ∀ x ∈ L, Wrd x (v x)
  ne : L ≠ []
  le : L.length ≤ 100
def cH (L : List Str) : Nat := L.countP fun w => decide (w = ("handles" : Str))
section
variable {L : List Str} {v : Str → Option Rat}
theorem Ws.ok (W : Ws L v) : ∀ x ∈ L, PyData.strOk x = true := fun x hx => (W.w x hx).ok
theorem sum_le {B : Nat} : ∀ {L : List Str}, (∀ x ∈ L, x.length ≤ B) → (L.map (·.length)).sum ≤ L.length * B
  | [], _ => by simp
  | x :: L, h => by
    have ih := sum_le (L := L) fun y hy => h y (List.mem_cons_of_mem _ hy)
    have := h x List.mem_cons_self
    simp only [List.map_cons, List.sum_cons, List.length_cons, Nat.add_mul]
    omega
theorem Ws.sum (W : Ws L v) : (L.map (·.length)).sum ≤ 100000 := by
  have h := sum_le (B := 100) fun x hx => (W.w x hx).ln
  have := W.le
  omega
theorem Ws.len (W : Ws L v) : (Txt.join " " L).length ≤ 1000000 := by
  rw [show Txt.join " " L = Str.join " " L from StrLaws.glued_eq_join _ _]
  have h := glue_len " " L
  have c : (" " : Str).length = 1 := rfl
  have s := W.sum
  have := W.le
  rw [c] at h
  omega
theorem Ws.joined (W : Ws L v) : joinD " " (.list (wS L)) = some (.str (Txt.join " " L)) := by
  have c : (" " : Str).length = 1 := rfl
  have s := W.sum
  have := W.le
  unfold joinD
  simp only [items_lst]
  rw [show strsD (wS L) = some L from strs_map L]
  simp only
  rw [if_pos (by rw [c]; omega)]
theorem Ws.parts (W : Ws L v) : splitD (Txt.join " " L) (.str " ") = some (.list (wS L)) := by
  have b : Nat.beq (" " : Str).length 0 = false := by decide +kernel
  have sp : Txt.split (Txt.join " " L) " " = L := TL.split_join (y := " ") (s := 32) (S := []) (by decide +kernel) (by decide +kernel) W.ne fun x hx => (W.w x hx).fr
  unfold splitD
  simp only [b, if_pos W.len, sp]
  rfl
theorem Ws.txt (W : Ws L v) : PyData.strOk (Txt.join " " L) = true := by
  rw [show Txt.join " " L = Str.join " " L from StrLaws.glued_eq_join _ _]
  exact ok_join (by decide +kernel) _ W.ok
theorem cnt_list (W : Ws L v) : cntLD (.list (wS L)) (.str "handles") = some (.int (cH L : Nat)) := by
  have h1 : SeqAt.shaped (PyData.str "handles") = true := by decide +kernel
  have h2 : SeqAt.shaped (.list (wS L)) = true := shaped_strs W.ok
  show (if SeqAt.shaped (PyData.str "handles") = true ∧ SeqAt.shaped (.list (wS L)) = true then some (PyData.int ((wS L).countP fun z => PyData.eqv z (.str "handles") : Nat)) else none) = _
  rw [if_pos ⟨h1, h2⟩]
  unfold wS cH
  rw [List.countP_map]
  have e : ((fun z => PyData.eqv z (.str "handles")) ∘ PyData.str) = fun w => decide (w = ("handles" : Str)) := by
    funext w
    exact eqv_str _ _
  rw [e]
theorem idx_list (W : Ws L v) (h : 0 < cH L) : ∃ k, k < L.length ∧ idxLD (.list (wS L)) (.str "handles") = some (.int (k : Nat)) := by
  have h1 : SeqAt.shaped (PyData.str "handles") = true := by decide +kernel
  have h2 : SeqAt.shaped (.list (wS L)) = true := shaped_strs W.ok
  cases e : (wS L).findIdx? (fun z => PyData.eqv z (.str "handles")) with
  | none =>
    exfalso
    have no := List.findIdx?_eq_none_iff.mp e
    have : cH L = 0 := List.countP_eq_zero.mpr fun w hw => by
      have := no (.str w) (List.mem_map.mpr ⟨w, hw, rfl⟩)
      rw [eqv_str] at this
      simp only [this]
      decide
    omega
  | some k =>
    obtain ⟨lt, _⟩ := List.findIdx?_eq_some_iff_getElem.mp e
    refine ⟨k, by simpa [wS] using lt, ?_⟩
    show (if SeqAt.shaped (PyData.str "handles") = true ∧ SeqAt.shaped (.list (wS L)) = true then (match (wS L).findIdx? (fun z => PyData.eqv z (.str "handles")) with
      | some j => some (PyData.int (j : Nat))
      | none => none) else none) = _
    rw [if_pos ⟨h1, h2⟩, e]
end
/-- a datum that is none, a whole number or a fraction -/
def Sm (d : D) : Prop := d = .none ∨ (∃ i, d = .int i) ∨ ∃ q, d = enc q
theorem sm_v (o : Option Rat) : Sm (vD o) := by
  cases o with
  | none => exact .inl rfl
  | some q => exact .inr (.inr ⟨q, rfl⟩)
theorem sm_n (o : Option Rat) : Sm (nD o) := by
  cases o with
  | none => exact .inl rfl
  | some q =>
    by_cases c : q.den = 1 ∧ 0 ≤ q.num
    · exact .inr (.inl ⟨q.num, if_pos c⟩)
    · exact .inl (if_neg c)
theorem lay_sm : ∀ {L : List D}, (∀ d ∈ L, Sm d) → PyData.canLayAll0 L = true ∧ PyData.depthAll L ≤ 2
  | [], _ => ⟨rfl, by simp [PyData.depthAll]⟩
  | d :: L, h => by
    obtain ⟨h1, h2⟩ := lay_sm (L := L) fun y hy => h y (List.mem_cons_of_mem _ hy)
    have one : PyData.canLay0 d = true ∧ PyData.depth d ≤ 2 := by
      rcases h d List.mem_cons_self with rfl | ⟨i, rfl⟩ | ⟨q, rfl⟩
      · exact ⟨rfl, by simp [PyData.depth]⟩
      · exact ⟨rfl, by simp [PyData.depth]⟩
      · refine ⟨by simp [enc, PyData.canLay0, PyData.canLayAll0], by simp [enc, PyData.depth, PyData.depthAll]⟩
    refine ⟨by simp [PyData.canLayAll0, one.1, h1], ?_⟩
    simp only [PyData.depthAll]
    have := one.2
    omega
theorem shaped_sm {L : List D} (h : ∀ d ∈ L, Sm d) : SeqAt.shaped (.list L) = true := by
  obtain ⟨h1, h2⟩ := lay_sm h
  have e1 : PyData.canLay0 (.list L) = true := by simp [PyData.canLay0, h1]
  have e2 : PyData.depth (.list L) ≤ 64 := by
    simp only [PyData.depth]
    omega
  unfold SeqAt.shaped
  rw [e1, decide_eq_true e2]
  rfl
def isNo : D → Bool
  | .none => true
  | _ => false
theorem none_in {L : List D} (h : ∀ d ∈ L, Sm d) : inTD .none (.list L) = some (.bool (L.any isNo)) := by
  have h1 : SeqAt.shaped PyData.none = true := rfl
  have h2 := shaped_sm h
  show (if SeqAt.shaped PyData.none = true ∧ SeqAt.shaped (.list L) = true then some (PyData.bool (L.any fun z => PyData.eqv z .none)) else none) = _
  rw [if_pos ⟨h1, h2⟩]
  congr 2
  rw [Bool.eq_iff_iff]; rw [List.any_eq_true]; rw [List.any_eq_true]
  refine exists_congr fun d => and_congr_right fun hd => ?_
  rcases h d hd with rfl | ⟨i, rfl⟩ | ⟨q, rfl⟩
  · simp [PyData.eqv, isNo]
  · simp [PyData.eqv, isNo]
  · simp [enc, PyData.eqv, isNo]
theorem eq_nil {L : List D} (h : ∀ d ∈ L, Sm d) : eqD (.list L) (.list []) = some (.bool (decide (L = []))) := by
  have h2 := shaped_sm h
  have h3 : SeqAt.shaped (.list []) = true := rfl
  show (if SeqAt.shaped (.list L) = true ∧ SeqAt.shaped (.list []) = true then some (PyData.bool (PyData.eqv (.list L) (.list []))) else none) = _
  rw [if_pos ⟨h2, h3⟩]
  cases L with
  | nil => rfl
  | cons d L => simp [PyData.eqv, PyData.eqvAll]
theorem isNo_v (o : Option Rat) : isNo (vD o) = o.isNone := by
  cases o <;> rfl
section
variable {v : Str → Option Rat}
/-- what is read of words -/
def rdD (v : Str → Option Rat) (ws : List Str) : List D := ws.map fun w => vD (v w)
theorem rd_sm (ws : List Str) : ∀ d ∈ rdD v ws, Sm d := fun d hd => by
  obtain ⟨w, _, rfl⟩ := List.mem_map.mp hd
  exact sm_v _
theorem rd_any (ws : List Str) : (rdD v ws).any isNo = ws.any fun w => (v w).isNone := by
  unfold rdD
  rw [List.any_map]
  congr 1
  funext w
  exact isNo_v _
theorem values_list {ws : List Str} (h : ∀ w ∈ ws, Wrd w (v w)) (hl : ws.length < 1000000) : F_values_in [.list (wS ws)] = some (.ok (bif ws.any fun w => (v w).isNone then .none else .list (rdD v ws))) := by
  have e0 : F_values_in [.list (wS ws)] = ans (g_values_in [.pur (.list (wS ws)), .no, .no]) := rfl
  have bl : mBlk [2] (mSeqS (mVar 0)) (lcBody [2] (gSet 2) (mRet true) (mCall F_value_in (mCons (mVar 2) (mNil)))) [.pur (.list (wS ws)), .no, .no] = some (.ok ([.pur (.list (wS ws)), .no, .no], rdD v ws)) :=
    blk_map ws .str (fun w => vD (v w)) (by simp [bd_ok, lf_some, cl_ok, a_ret, a_op, a_un, a_test, a_and, a_or, a_not, a_andV, a_orV, a_notV, a_if, a_sif, a_nil, a_cons, a_star, a_list, a_tup, a_sized, a_call, a_built, a_seq, a_set, a_own, a_sret, a_next, a_isi, a_slice, a_part, a_nopart, a_range, a_seqS, a_varP, a_par2, a_xp, a_xo, a_xn, a_asg, a_make, a_chg, a_ixO, a_lenO, a_cntO, items_lst, items_tup, sizeOk, boolD, cmpD, slOf, intOf_int, len_encL, ans_rt, a_fn, List.replicate, wS]) hl rfl fun w hw => by
      have f := (h w hw).f1
      simp [bd_ok, lf_some, cl_ok, a_ret, a_op, a_un, a_test, a_and, a_or, a_not, a_andV, a_orV, a_notV, a_if, a_sif, a_nil, a_cons, a_star, a_list, a_tup, a_sized, a_call, a_built, a_seq, a_set, a_own, a_sret, a_next, a_isi, a_slice, a_part, a_nopart, a_range, a_seqS, a_varP, a_par2, a_xp, a_xo, a_xn, a_asg, a_make, a_chg, a_ixO, a_lenO, a_cntO, items_lst, items_tup, sizeOk, boolD, cmpD, slOf, intOf_int, len_encL, ans_rt, a_fn, List.replicate, f]
  have no := none_in (rd_sm (v := v) ws)
  rw [rd_any] at no
  rw [e0]
  generalize wS ws = T at *
  generalize rdD v ws = R at *
  generalize (ws.any fun w => (v w).isNone) = b at *
  cases b <;> simp [bd_ok, lf_some, cl_ok, a_ret, a_op, a_un, a_test, a_and, a_or, a_not, a_andV, a_orV, a_notV, a_if, a_sif, a_nil, a_cons, a_star, a_list, a_tup, a_sized, a_call, a_built, a_seq, a_set, a_own, a_sret, a_next, a_isi, a_slice, a_part, a_nopart, a_range, a_seqS, a_varP, a_par2, a_xp, a_xo, a_xn, a_asg, a_make, a_chg, a_ixO, a_lenO, a_cntO, items_lst, items_tup, sizeOk, boolD, cmpD, slOf, intOf_int, len_encL, ans_rt, a_fn, List.replicate, g_values_in, g_values_in_1, bl, no]
end
end HB
namespace HB
open PySem L2
open TL (tl numL)
theorem a_rcv (p : D → Bool) (f : D → D → Option D) (a b : Mo D) (ρ : En) : mRecv p f a b ρ = bd (a ρ) fun ρ1 x => match p x with
  | true => bd (b ρ1) fun ρ2 y => lf ρ2 (f x y)
  | false => none := by
  unfold mRecv mBind bd
  cases a ρ with
  | none => rfl
  | some r =>
    cases r with
    | error x => rfl
    | ok q =>
      obtain ⟨ρ1, x⟩ := q
      simp only
      cases p x with
      | false => rfl
      | true => rfl
def fB (L : List Str) : Bool := decide (L.take 1 = [("bend" : Str)]) && (decide ((L.drop 2).take 1 = [("marks" : Str)]) && decide (cH L = 1))
theorem or_at {a b : Mo Bool} {ρ : En} {x y : Bool} (ha : a ρ = some (.ok (ρ, x))) (hb : b ρ = some (.ok (ρ, y))) : mOr a b ρ = some (.ok (ρ, x || y)) := by
  rw [a_or, ha, bd_ok]
  cases x
  · exact hb
  · rfl
section
variable {L : List Str} {v : Str → Option Rat}
theorem fmt_ok (W : Ws L v) {ρ : En} (h : ρ[1]? = some (.pur (.list (wS L)))) : mOr (mTest (mOp neD (mSlice (mVar 1) (mNoPart) (mPart (mRet (.int 1)))) (mList (mSized (mCons (mRet (.str "bend")) (mNil)))))) (mOr (mTest (mOp neD (mSlice (mVar 1) (mPart (mRet (.int 2))) (mPart (mRet (.int 3)))) (mList (mSized (mCons (mRet (.str "marks")) (mNil)))))) (mTest (mOp neD (mRecv isLstB cntLD (mVar 1) (mRet (.str "handles"))) (mRet (.int 1))))) ρ =
    some (.ok (ρ, !fB L)) := by
  have o1 : ∀ x ∈ L.take 1, PyData.strOk x = true := fun x hx => W.ok x (List.mem_of_mem_take hx)
  have o2 : ∀ x ∈ (L.drop 2).take 1, PyData.strOk x = true := fun x hx => W.ok x (List.mem_of_mem_drop (List.mem_of_mem_take hx))
  have n1 := ne_strsL (B := [("bend" : Str)]) o1 (by intro x hx; rw [List.mem_singleton.mp hx]; decide +kernel)
  have n2 := ne_strsL (B := [("marks" : Str)]) o2 (by intro x hx; rw [List.mem_singleton.mp hx]; decide +kernel)
  have s1 : slD none (some 1) (.list (wS L)) = some (.list (wS (L.take 1))) := by
    rw [(sl_take (xs := wS L) (z := 1) (n := 1) rfl).1]
    unfold wS
    rw [List.map_take]
  have s2 : slD (some 2) (some 3) (.list (wS L)) = some (.list (wS ((L.drop 2).take 1))) := by
    rw [show (some (2 : Int)) = some ((2 : Nat) : Int) from rfl, show (some (3 : Int)) = some ((3 : Nat) : Int) from rfl, sl_any (by decide)]
    unfold wS
    rw [List.map_take]; rw [List.map_drop]
  have cn := cnt_list W
  have n3 : neD (.int (cH L : Nat)) (.int 1) = some (.bool (!decide (cH L = 1))) := by
    show some (PyData.bool (!((cH L : Int) == 1))) = _
    congr 3
    by_cases c : cH L = 1
    · rw [c]
      rfl
    · rw [decide_eq_false c]
      exact beq_eq_false_iff_ne.mpr fun e => by omega
  have ib : isLstB (.list (wS L)) = true := rfl
  have m1 : mTest (mOp neD (mSlice (mVar 1) (mNoPart) (mPart (mRet (.int 1)))) (mList (mSized (mCons (mRet (.str "bend")) (mNil))))) ρ = some (.ok (ρ, !decide (L.take 1 = [("bend" : Str)]))) := by
    have n1' : neD (.list (wS (L.take 1))) (.list [.str "bend"]) = some (.bool (!decide (L.take 1 = [("bend" : Str)]))) := n1
    generalize (!decide (L.take 1 = [("bend" : Str)])) = b at *
    generalize wS (L.take 1) = A at *
    simp [bd_ok, lf_some, cl_ok, a_ret, a_op, a_un, a_test, a_and, a_or, a_not, a_andV, a_orV, a_notV, a_if, a_sif, a_nil, a_cons, a_star, a_list, a_tup, a_sized, a_call, a_built, a_seq, a_set, a_own, a_sret, a_next, a_isi, a_slice, a_part, a_nopart, a_range, a_seqS, a_varP, a_par2, a_xp, a_xo, a_xn, a_asg, a_make, a_chg, a_ixO, a_lenO, a_cntO, items_lst, items_tup, sizeOk, boolD, cmpD, slOf, intOf_int, len_encL, ans_rt, a_fn, List.replicate, h, s1, n1']
  have m2 : mTest (mOp neD (mSlice (mVar 1) (mPart (mRet (.int 2))) (mPart (mRet (.int 3)))) (mList (mSized (mCons (mRet (.str "marks")) (mNil))))) ρ = some (.ok (ρ, !decide ((L.drop 2).take 1 = [("marks" : Str)]))) := by
    have n2' : neD (.list (wS ((L.drop 2).take 1))) (.list [.str "marks"]) = some (.bool (!decide ((L.drop 2).take 1 = [("marks" : Str)]))) := n2
    generalize (!decide ((L.drop 2).take 1 = [("marks" : Str)])) = b at *
    generalize wS ((L.drop 2).take 1) = A at *
    simp [bd_ok, lf_some, cl_ok, a_ret, a_op, a_un, a_test, a_and, a_or, a_not, a_andV, a_orV, a_notV, a_if, a_sif, a_nil, a_cons, a_star, a_list, a_tup, a_sized, a_call, a_built, a_seq, a_set, a_own, a_sret, a_next, a_isi, a_slice, a_part, a_nopart, a_range, a_seqS, a_varP, a_par2, a_xp, a_xo, a_xn, a_asg, a_make, a_chg, a_ixO, a_lenO, a_cntO, items_lst, items_tup, sizeOk, boolD, cmpD, slOf, intOf_int, len_encL, ans_rt, a_fn, List.replicate, h, s2, n2']
  have m3 : mTest (mOp neD (mRecv isLstB cntLD (mVar 1) (mRet (.str "handles"))) (mRet (.int 1))) ρ = some (.ok (ρ, !decide (cH L = 1))) := by
    generalize (!decide (cH L = 1)) = b at *
    generalize ((cH L : Nat) : Int) = z at *
    generalize wS L = A at *
    simp [bd_ok, lf_some, cl_ok, a_ret, a_op, a_un, a_test, a_and, a_or, a_not, a_andV, a_orV, a_notV, a_if, a_sif, a_nil, a_cons, a_star, a_list, a_tup, a_sized, a_call, a_built, a_seq, a_set, a_own, a_sret, a_next, a_isi, a_slice, a_part, a_nopart, a_range, a_seqS, a_varP, a_par2, a_xp, a_xo, a_xn, a_asg, a_make, a_chg, a_ixO, a_lenO, a_cntO, items_lst, items_tup, sizeOk, boolD, cmpD, slOf, intOf_int, len_encL, ans_rt, a_fn, List.replicate, a_rcv, h, ib, cn, n3]
  rw [or_at m1 (or_at m2 m3)]
  unfold fB
  cases decide (L.take 1 = [("bend" : Str)]) <;> cases decide ((L.drop 2).take 1 = [("marks" : Str)]) <;> cases decide (cH L = 1) <;> rfl
theorem rows_begin (W : Ws L v) : F_rows_in [.str (Txt.join " " L)] = bif fB L then ans (g_rows_in_5 [.pur (.str (Txt.join " " L)), .pur (.list (wS L)), .no, .no, .no, .no]) else some (.ok .none) := by
  have sp := W.parts
  have st : isStrT (.str (Txt.join " " L)) = some true := rfl
  have e0 : F_rows_in [.str (Txt.join " " L)] = ans (g_rows_in [.pur (.str (Txt.join " " L)), .no, .no, .no, .no, .no]) := rfl
  have t := fmt_ok W (ρ := [.pur (.str (Txt.join " " L)), .pur (.list (wS L)), .no, .no, .no, .no]) rfl
  rw [e0]
  generalize Txt.join " " L = T at *
  generalize wS L = A at *
  have q : g_rows_in [.pur (.str T), .no, .no, .no, .no, .no] = g_rows_in_6 [.pur (.str T), .pur (.list A), .no, .no, .no, .no] := by
    simp [bd_ok, lf_some, cl_ok, a_ret, a_op, a_un, a_test, a_and, a_or, a_not, a_andV, a_orV, a_notV, a_if, a_sif, a_nil, a_cons, a_star, a_list, a_tup, a_sized, a_call, a_built, a_seq, a_set, a_own, a_sret, a_next, a_isi, a_slice, a_part, a_nopart, a_range, a_seqS, a_varP, a_par2, a_xp, a_xo, a_xn, a_asg, a_make, a_chg, a_ixO, a_lenO, a_cntO, items_lst, items_tup, sizeOk, boolD, cmpD, slOf, intOf_int, len_encL, ans_rt, a_fn, List.replicate, g_rows_in, st, a_m1g, sp]
  rw [q]
  unfold g_rows_in_6
  rw [a_seq, a_sif, t, bd_ok]
  cases fB L
  · rfl
  · rfl
theorem due_begin (W : Ws L v) : F_law_due [.str (Txt.join " " L)] = bif fB L then ans (g_law_due_10 [.pur (.str (Txt.join " " L)), .pur (.list (wS L)), .no, .no, .no, .no, .no, .no, .no, .no, .no]) else some (.ok (.str "text")) := by
  have sp := W.parts
  have e0 : F_law_due [.str (Txt.join " " L)] = ans (g_law_due [.pur (.str (Txt.join " " L)), .no, .no, .no, .no, .no, .no, .no, .no, .no, .no]) := rfl
  have t := fmt_ok W (ρ := [.pur (.str (Txt.join " " L)), .pur (.list (wS L)), .no, .no, .no, .no, .no, .no, .no, .no, .no]) rfl
  rw [e0]
  generalize Txt.join " " L = T at *
  generalize wS L = A at *
  have q : g_law_due [.pur (.str T), .no, .no, .no, .no, .no, .no, .no, .no, .no, .no] = g_law_due_11 [.pur (.str T), .pur (.list A), .no, .no, .no, .no, .no, .no, .no, .no, .no] := by
    simp [bd_ok, lf_some, cl_ok, a_ret, a_op, a_un, a_test, a_and, a_or, a_not, a_andV, a_orV, a_notV, a_if, a_sif, a_nil, a_cons, a_star, a_list, a_tup, a_sized, a_call, a_built, a_seq, a_set, a_own, a_sret, a_next, a_isi, a_slice, a_part, a_nopart, a_range, a_seqS, a_varP, a_par2, a_xp, a_xo, a_xn, a_asg, a_make, a_chg, a_ixO, a_lenO, a_cntO, items_lst, items_tup, sizeOk, boolD, cmpD, slOf, intOf_int, len_encL, ans_rt, a_fn, List.replicate, g_law_due, a_m1g, sp]
  rw [q]
  unfold g_law_due_11
  rw [a_seq, a_sif, t, bd_ok]
  cases fB L
  · rfl
  · rfl
/-- the words of the marks, of the handles -/
def mkW (L : List Str) (k : Nat) : List Str := (L.drop 3).take (k - 3)
def hdW (L : List Str) (k : Nat) : List Str := L.drop (k + 1)
theorem sl_mk (L : List Str) (k : Nat) : slD (some 3) (some (k : Int)) (.list (wS L)) = some (.list (wS (mkW L k))) := by
  rw [show (some (3 : Int)) = some ((3 : Nat) : Int) from rfl]
  unfold mkW
  by_cases h : 3 ≤ k
  · rw [sl_any h]
    unfold wS
    rw [List.map_take]; rw [List.map_drop]
  · rw [sl_less (by omega), show k - 3 = 0 by omega, List.take_zero]
    rfl
theorem sl_hd (L : List Str) (k : Nat) : slD (some ((k : Int) + 1)) none (.list (wS L)) = some (.list (wS (hdW L k))) := by
  rw [show ((k : Int) + 1) = ((k + 1 : Nat) : Int) by omega, sl_rest]
  unfold hdW wS
  rw [List.map_drop]
abbrev vR (v : Str → Option Rat) (ws : List Str) : D := bif ws.any fun w => (v w).isNone then .none else .list (rdD v ws)
theorem rows_values (W : Ws L v) (f : fB L = true) : ∃ w1 R k, L = ("bend" : Str) :: w1 :: ("marks" : Str) :: R ∧ k < L.length ∧
    F_rows_in [.str (Txt.join " " L)] = ans (g_rows_in_3 [.pur (.str (Txt.join " " L)), .pur (.list (wS L)), .pur (natD k), .pur (vR v [w1]), .pur (vR v (mkW L k)), .pur (vR v (hdW L k))]) ∧
    F_law_due [.str (Txt.join " " L)] = ans (g_law_due_7 [.pur (.str (Txt.join " " L)), .pur (.list (wS L)), .pur (natD k), .pur (.list (rdD v (hdW L k))), .pur (.list [nD (v w1)]), .pur (.list (rdD v (mkW L k))), .no, .no, .no, .no, .no]) := by
  have rb := rows_begin W
  have db := due_begin W
  rw [f] at rb db
  simp only [cond_true] at rb db
  unfold fB at f
  obtain ⟨f1, f2⟩ := Bool.and_eq_true_iff.mp f
  obtain ⟨f2, f3⟩ := Bool.and_eq_true_iff.mp f2
  have f1 := of_decide_eq_true f1
  have f2 := of_decide_eq_true f2
  have f3 := of_decide_eq_true f3
  obtain ⟨w1, R, eL⟩ : ∃ w1 R, L = ("bend" : Str) :: w1 :: ("marks" : Str) :: R := by
    match L, f1, f2 with
    | [], f1, _ => simp at f1
    | [a], _, f2 => simp at f2
    | [a, b], _, f2 => simp at f2
    | a :: b :: c :: R, f1, f2 =>
      have h1 : a = ("bend" : Str) := by simpa using f1
      have h2 : c = ("marks" : Str) := by simpa using f2
      exact ⟨b, R, by rw [h1, h2]⟩
  obtain ⟨k, lt, ix⟩ := idx_list W (by omega)
  have m1 : w1 ∈ L := by rw [eL]; simp
  have le := W.le
  have x1 : ixD (.list (wS L)) (.int 1) = some (.str w1) := by
    rw [eL, ix_lst (xs := wS (_ :: w1 :: _)) (z := 1) (i := 1) rfl (by simp [wS])]
    rfl
  have a3 : slD (some 1) (some 2) (.list (wS L)) = some (.list (wS [w1])) := by
    rw [show (some (1 : Int)) = some ((1 : Nat) : Int) from rfl, show (some (2 : Int)) = some ((2 : Nat) : Int) from rfl, sl_any (by decide), eL]
    rfl
  have a4 := sl_mk L k
  have a5 := sl_hd L k
  have inM : ∀ w ∈ mkW L k, Wrd w (v w) := fun w hw => W.w w (List.mem_of_mem_drop (List.mem_of_mem_take hw))
  have inH : ∀ w ∈ hdW L k, Wrd w (v w) := fun w hw => W.w w (List.mem_of_mem_drop hw)
  have lM : (mkW L k).length < 1000000 := by unfold mkW; rw [List.length_take, List.length_drop]; omega
  have lH : (hdW L k).length < 1000000 := by unfold hdW; rw [List.length_drop]; omega
  have v1 := values_list (v := v) (ws := [w1]) (fun w hw => by rw [List.mem_singleton.mp hw]; exact W.w _ m1) (by simp)
  have v2 := values_list inM lM
  have v3 := values_list inH lH
  have ad : addD (.int (k : Int)) (.int 1) = some (.int ((k : Int) + 1)) := rfl
  have ib : isLstB (.list (wS L)) = true := rfl
  have par3 : ∀ (i j k : Nat) (f : Mo (List Tm)) (ρ : En), sPar3 i j k f ρ = bd (f ρ) fun ρ1 ts => match ts with
    | [x, y, z] => some (.ok (((ρ1.set i (slOf x)).set j (slOf y)).set k (slOf z), .nx))
    | _ => none := fun _ _ _ _ _ => id rfl
  have ln := (W.w _ m1).f3
  refine ⟨w1, R, k, eL, lt, ?_, ?_⟩
  · rw [rb]
    show _ = ans (g_rows_in_3 [.pur (.str (Txt.join " " L)), .pur (.list (wS L)), .pur (.int (k : Int)), .pur (vR v [w1]), .pur (vR v (mkW L k)), .pur (vR v (hdW L k))])
    clear ln db rb
    generalize Txt.join " " L = T at *
    have v1' : F_values_in [.list (wS [w1])] = some (.ok (vR v [w1])) := v1
    have v2' : F_values_in [.list (wS (mkW L k))] = some (.ok (vR v (mkW L k))) := v2
    have v3' : F_values_in [.list (wS (hdW L k))] = some (.ok (vR v (hdW L k))) := v3
    generalize vR v [w1] = E1 at *
    generalize vR v (mkW L k) = E2 at *
    generalize vR v (hdW L k) = E3 at *
    generalize wS [w1] = A1 at *
    generalize wS (mkW L k) = A2 at *
    generalize wS (hdW L k) = A3 at *
    generalize wS L = A at *
    generalize (k : Int) = z at *
    have q4 : g_rows_in_5 [.pur (.str T), .pur (.list A), .no, .no, .no, .no] = g_rows_in_4 [.pur (.str T), .pur (.list A), .pur (.int z), .no, .no, .no] := by
      simp [bd_ok, lf_some, cl_ok, a_ret, a_op, a_un, a_test, a_and, a_or, a_not, a_andV, a_orV, a_notV, a_if, a_sif, a_nil, a_cons, a_star, a_list, a_tup, a_sized, a_call, a_built, a_seq, a_set, a_own, a_sret, a_next, a_isi, a_slice, a_part, a_nopart, a_range, a_seqS, a_varP, a_par2, a_xp, a_xo, a_xn, a_asg, a_make, a_chg, a_ixO, a_lenO, a_cntO, items_lst, items_tup, sizeOk, boolD, cmpD, slOf, intOf_int, len_encL, ans_rt, a_fn, List.replicate, g_rows_in_5, a_rcv, ib, ix]
    rw [q4]
    simp [bd_ok, lf_some, cl_ok, a_ret, a_op, a_un, a_test, a_and, a_or, a_not, a_andV, a_orV, a_notV, a_if, a_sif, a_nil, a_cons, a_star, a_list, a_tup, a_sized, a_call, a_built, a_seq, a_set, a_own, a_sret, a_next, a_isi, a_slice, a_part, a_nopart, a_range, a_seqS, a_varP, a_par2, a_xp, a_xo, a_xn, a_asg, a_make, a_chg, a_ixO, a_lenO, a_cntO, items_lst, items_tup, sizeOk, boolD, cmpD, slOf, intOf_int, len_encL, ans_rt, a_fn, List.replicate, g_rows_in_4, par3, a3, v1', a4, v2', ad, a5, v3']
  · rw [db]
    have bM : mBlk [8] (mSeqS (mSlice (mVar 1) (mPart (mRet (.int 3))) (mPart (mVar 2)))) (lcBody [8] (gSet 8) (mRet true) (mCall F_law_read_value (mCons (mVar 8) (mNil)))) [.pur (.str (Txt.join " " L)), .pur (.list (wS L)), .pur (.int (k : Int)), .no, .no, .no, .no, .no, .no, .no, .no] =
        some (.ok ([.pur (.str (Txt.join " " L)), .pur (.list (wS L)), .pur (.int (k : Int)), .no, .no, .no, .no, .no, .no, .no, .no], rdD v (mkW L k))) :=
      blk_map (mkW L k) .str (fun w => vD (v w)) (by
        have e : (mkW L k).map PyData.str = wS (mkW L k) := rfl
        rw [e]
        simp [bd_ok, lf_some, cl_ok, a_ret, a_op, a_un, a_test, a_and, a_or, a_not, a_andV, a_orV, a_notV, a_if, a_sif, a_nil, a_cons, a_star, a_list, a_tup, a_sized, a_call, a_built, a_seq, a_set, a_own, a_sret, a_next, a_isi, a_slice, a_part, a_nopart, a_range, a_seqS, a_varP, a_par2, a_xp, a_xo, a_xn, a_asg, a_make, a_chg, a_ixO, a_lenO, a_cntO, items_lst, items_tup, sizeOk, boolD, cmpD, slOf, intOf_int, len_encL, ans_rt, a_fn, List.replicate, a4]) lM rfl fun w hw => by
          have g := (inM w hw).f2
          simp [bd_ok, lf_some, cl_ok, a_ret, a_op, a_un, a_test, a_and, a_or, a_not, a_andV, a_orV, a_notV, a_if, a_sif, a_nil, a_cons, a_star, a_list, a_tup, a_sized, a_call, a_built, a_seq, a_set, a_own, a_sret, a_next, a_isi, a_slice, a_part, a_nopart, a_range, a_seqS, a_varP, a_par2, a_xp, a_xo, a_xn, a_asg, a_make, a_chg, a_ixO, a_lenO, a_cntO, items_lst, items_tup, sizeOk, boolD, cmpD, slOf, intOf_int, len_encL, ans_rt, a_fn, List.replicate, g]
    have bH : mBlk [8] (mSeqS (mSlice (mVar 1) (mPart (mOp addD (mVar 2) (mRet (.int 1)))) (mNoPart))) (lcBody [8] (gSet 8) (mRet true) (mCall F_law_read_value (mCons (mVar 8) (mNil)))) [.pur (.str (Txt.join " " L)), .pur (.list (wS L)), .pur (.int (k : Int)), .no, .pur (.list [nD (v w1)]), .pur (.list (rdD v (mkW L k))), .no, .no, .no, .no, .no] =
        some (.ok ([.pur (.str (Txt.join " " L)), .pur (.list (wS L)), .pur (.int (k : Int)), .no, .pur (.list [nD (v w1)]), .pur (.list (rdD v (mkW L k))), .no, .no, .no, .no, .no], rdD v (hdW L k))) :=
      blk_map (hdW L k) .str (fun w => vD (v w)) (by
        have e : (hdW L k).map PyData.str = wS (hdW L k) := rfl
        rw [e]
        simp [bd_ok, lf_some, cl_ok, a_ret, a_op, a_un, a_test, a_and, a_or, a_not, a_andV, a_orV, a_notV, a_if, a_sif, a_nil, a_cons, a_star, a_list, a_tup, a_sized, a_call, a_built, a_seq, a_set, a_own, a_sret, a_next, a_isi, a_slice, a_part, a_nopart, a_range, a_seqS, a_varP, a_par2, a_xp, a_xo, a_xn, a_asg, a_make, a_chg, a_ixO, a_lenO, a_cntO, items_lst, items_tup, sizeOk, boolD, cmpD, slOf, intOf_int, len_encL, ans_rt, a_fn, List.replicate, ad, a5]) lH rfl fun w hw => by
          have g := (inH w hw).f2
          simp [bd_ok, lf_some, cl_ok, a_ret, a_op, a_un, a_test, a_and, a_or, a_not, a_andV, a_orV, a_notV, a_if, a_sif, a_nil, a_cons, a_star, a_list, a_tup, a_sized, a_call, a_built, a_seq, a_set, a_own, a_sret, a_next, a_isi, a_slice, a_part, a_nopart, a_range, a_seqS, a_varP, a_par2, a_xp, a_xo, a_xn, a_asg, a_make, a_chg, a_ixO, a_lenO, a_cntO, items_lst, items_tup, sizeOk, boolD, cmpD, slOf, intOf_int, len_encL, ans_rt, a_fn, List.replicate, g]
    show _ = ans (g_law_due_7 [.pur (.str (Txt.join " " L)), .pur (.list (wS L)), .pur (.int (k : Int)), .pur (.list (rdD v (hdW L k))), .pur (.list [nD (v w1)]), .pur (.list (rdD v (mkW L k))), .no, .no, .no, .no, .no])
    clear rb db v1 v2 v3
    generalize Txt.join " " L = T at *
    generalize rdD v (hdW L k) = HD at *
    generalize rdD v (mkW L k) = MD at *
    generalize nD (v w1) = N1 at *
    clear a3 a4 a5
    generalize wS L = A at *
    generalize (k : Int) = z at *
    have q9 : g_law_due_10 [.pur (.str T), .pur (.list A), .no, .no, .no, .no, .no, .no, .no, .no, .no] = g_law_due_9 [.pur (.str T), .pur (.list A), .pur (.int z), .no, .no, .no, .no, .no, .no, .no, .no] := by
      simp [bd_ok, lf_some, cl_ok, a_ret, a_op, a_un, a_test, a_and, a_or, a_not, a_andV, a_orV, a_notV, a_if, a_sif, a_nil, a_cons, a_star, a_list, a_tup, a_sized, a_call, a_built, a_seq, a_set, a_own, a_sret, a_next, a_isi, a_slice, a_part, a_nopart, a_range, a_seqS, a_varP, a_par2, a_xp, a_xo, a_xn, a_asg, a_make, a_chg, a_ixO, a_lenO, a_cntO, items_lst, items_tup, sizeOk, boolD, cmpD, slOf, intOf_int, len_encL, ans_rt, a_fn, List.replicate, g_law_due_10, a_rcv, ib, ix]
    have q8 : g_law_due_9 [.pur (.str T), .pur (.list A), .pur (.int z), .no, .no, .no, .no, .no, .no, .no, .no] = g_law_due_8 [.pur (.str T), .pur (.list A), .pur (.int z), .no, .pur (.list [N1]), .pur (.list MD), .no, .no, .no, .no, .no] := by
      simp [bd_ok, lf_some, cl_ok, a_ret, a_op, a_un, a_test, a_and, a_or, a_not, a_andV, a_orV, a_notV, a_if, a_sif, a_nil, a_cons, a_star, a_list, a_tup, a_sized, a_call, a_built, a_seq, a_set, a_own, a_sret, a_next, a_isi, a_slice, a_part, a_nopart, a_range, a_seqS, a_varP, a_par2, a_xp, a_xo, a_xn, a_asg, a_make, a_chg, a_ixO, a_lenO, a_cntO, items_lst, items_tup, sizeOk, boolD, cmpD, slOf, intOf_int, len_encL, ans_rt, a_fn, List.replicate, g_law_due_9, x1, ln, bM]
    rw [q9, q8]
    simp [bd_ok, lf_some, cl_ok, a_ret, a_op, a_un, a_test, a_and, a_or, a_not, a_andV, a_orV, a_notV, a_if, a_sif, a_nil, a_cons, a_star, a_list, a_tup, a_sized, a_call, a_built, a_seq, a_set, a_own, a_sret, a_next, a_isi, a_slice, a_part, a_nopart, a_range, a_seqS, a_varP, a_par2, a_xp, a_xo, a_xn, a_asg, a_make, a_chg, a_ixO, a_lenO, a_cntO, items_lst, items_tup, sizeOk, boolD, cmpD, slOf, intOf_int, len_encL, ans_rt, a_fn, List.replicate, g_law_due_8, bH]
end
end HB
namespace HB
open PySem L2
open TL (tl numL)
section
variable {n : Nat} {ks hs : List Rat} {d : D}
theorem read_none (hr : F_rows_in [d] = some (.ok .none)) : F_Bend_read [fnD "Bend", d] = some (.error ("InvalidText", [("at", .int 0)])) := by
  have e0 : F_Bend_read [fnD "Bend", d] = ans (g_Bend_read [.pur (fnD "Bend"), .pur d, .no]) := rfl
  have is0 : isD .none .none = some (.bool true) := rfl
  have ra : ∀ ρ : En, sRaise "InvalidText" "at" (mRet (.int 0)) ρ = some (.error ("InvalidText", [("at", .int 0)])) := fun _ => rfl
  have t : mTest (mOp isD (mVar 2) (mRet .none)) [.pur (fnD "Bend"), .pur d, .pur .none] = some (.ok ([.pur (fnD "Bend"), .pur d, .pur .none], true)) := by
    simp [bd_ok, lf_some, cl_ok, a_ret, a_op, a_un, a_test, a_and, a_or, a_not, a_andV, a_orV, a_notV, a_if, a_sif, a_nil, a_cons, a_star, a_list, a_tup, a_sized, a_call, a_built, a_seq, a_set, a_own, a_sret, a_next, a_isi, a_slice, a_part, a_nopart, a_range, a_seqS, a_varP, a_par2, a_xp, a_xo, a_xn, a_asg, a_make, a_chg, a_ixO, a_lenO, a_cntO, items_lst, items_tup, sizeOk, boolD, cmpD, slOf, intOf_int, len_encL, ans_rt, a_fn, List.replicate, is0]
  have q : g_Bend_read [.pur (fnD "Bend"), .pur d, .no] = g_Bend_read_2 [.pur (fnD "Bend"), .pur d, .pur .none] := by
    generalize fnD "Bend" = FB
    simp [bd_ok, lf_some, cl_ok, a_ret, a_op, a_un, a_test, a_and, a_or, a_not, a_andV, a_orV, a_notV, a_if, a_sif, a_nil, a_cons, a_star, a_list, a_tup, a_sized, a_call, a_built, a_seq, a_set, a_own, a_sret, a_next, a_isi, a_slice, a_part, a_nopart, a_range, a_seqS, a_varP, a_par2, a_xp, a_xo, a_xn, a_asg, a_make, a_chg, a_ixO, a_lenO, a_cntO, items_lst, items_tup, sizeOk, boolD, cmpD, slOf, intOf_int, len_encL, ans_rt, a_fn, List.replicate, g_Bend_read, hr]
  rw [e0, q]
  unfold g_Bend_read_2
  rw [a_seq, a_sif, t, bd_ok]
  simp only [cond_true, ra]
  rfl
theorem read_rows (hr : F_rows_in [d] = some (.ok (toldD n ks hs))) : F_Bend_read [fnD "Bend", d] = (match I_Bend [.int n, .list (encL ks), .list (encL hs)] with
    | none => none
    | some (.error x) => some (.error x)
    | some (.ok kvs) => some (.ok (.dict ((.str "Bend", .none) :: kvs)))) := by
  have e0 : F_Bend_read [fnD "Bend", d] = ans (g_Bend_read [.pur (fnD "Bend"), .pur d, .no]) := rfl
  have is0 : isD (toldD n ks hs) .none = some (.bool false) := rfl
  have t0 := told0 (n := n) (ks := ks) (hs := hs)
  have t1 := told1 (n := n) (ks := ks) (hs := hs)
  have t2 := told2 (n := n) (ks := ks) (hs := hs)
  rw [e0]
  generalize toldD n ks hs = T at *
  have q1 : g_Bend_read [.pur (fnD "Bend"), .pur d, .no] = g_Bend_read_1 [.pur (fnD "Bend"), .pur d, .pur T] := by
    simp [bd_ok, lf_some, cl_ok, a_ret, a_op, a_un, a_test, a_and, a_or, a_not, a_andV, a_orV, a_notV, a_if, a_sif, a_nil, a_cons, a_star, a_list, a_tup, a_sized, a_call, a_built, a_seq, a_set, a_own, a_sret, a_next, a_isi, a_slice, a_part, a_nopart, a_range, a_seqS, a_varP, a_par2, a_xp, a_xo, a_xn, a_asg, a_make, a_chg, a_ixO, a_lenO, a_cntO, items_lst, items_tup, sizeOk, boolD, cmpD, slOf, intOf_int, len_encL, ans_rt, a_fn, List.replicate, g_Bend_read, g_Bend_read_2, hr, is0]
  rw [q1]
  have ar : mCons (mOp ixD (mVar 2) (mRet (.int 0))) (mCons (mOp ixD (mVar 2) (mRet (.int 1))) (mCons (mOp ixD (mVar 2) (mRet (.int 2))) (mNil))) [.pur (fnD "Bend"), .pur d, .pur T] = some (.ok ([.pur (fnD "Bend"), .pur d, .pur T], [.int n, .list (encL ks), .list (encL hs)])) := by
    simp [bd_ok, lf_some, cl_ok, a_ret, a_op, a_un, a_test, a_and, a_or, a_not, a_andV, a_orV, a_notV, a_if, a_sif, a_nil, a_cons, a_star, a_list, a_tup, a_sized, a_call, a_built, a_seq, a_set, a_own, a_sret, a_next, a_isi, a_slice, a_part, a_nopart, a_range, a_seqS, a_varP, a_par2, a_xp, a_xo, a_xn, a_asg, a_make, a_chg, a_ixO, a_lenO, a_cntO, items_lst, items_tup, sizeOk, boolD, cmpD, slOf, intOf_int, len_encL, ans_rt, a_fn, List.replicate, t0, t1, t2]
  unfold g_Bend_read_1
  rw [a_sret, mk_slot, a_make, ar, bd_ok]
  generalize I_Bend [.int n, .list (encL ks), .list (encL hs)] = r
  cases r with
  | none => rfl
  | some r => cases r <;> rfl
end
section
variable {d B : D} {z w : Str}
abbrev bod5 : Mo Fl := xStrCls "Bend" "Bend" F_Bend_read F_Bend___str__ (mCons (mVar 0) (mNil)) 1
theorem bod5_is (d : D) : bod5 [.pur d, .pur .none, .no] = (match F_Bend_read [fnD "Bend", d] with
    | none => none
    | some (.error x) => some (.error x)
    | some (.ok d2) => (match isObj "Bend" "__str__" d2 with
      | false => none
      | true => (match F_Bend___str__ [d2] with
        | some (.ok (.str z)) => some (.ok ([.pur d, .pur (.str z), .no], .nx))
        | _ => none))) := rfl
theorem heard_is (d : D) : F_law_heard_v10 [d] = ans (sSeq (sTryB "InvalidText" 2 1 bod5 (ifX (eqX (reprX (fldX "InvalidText" "at")) (fun _ => some (.str "0"))) (fun _ => some (.str "text")) (fun _ => some (.str "odd"))) "InvalidBend" (fldX "InvalidBend" "word")) (sRet (mVar 1)) [.pur d, .pur .none, .no]) := rfl
theorem hears_bend (h : F_Bend_read [fnD "Bend", d] = some (.ok B)) (ho : isObj "Bend" "__str__" B = true) (hz : F_Bend___str__ [B] = some (.ok (.str z))) : F_law_heard_v10 [d] = some (.ok (.str z)) := by
  have bo : bod5 [.pur d, .pur .none, .no] = some (.ok ([.pur d, .pur (.str z), .no], .nx)) := by
    rw [bod5_is]
    simp only [h, ho, hz]
  have g0 : (calmE [.pur d, .pur .none, .no] && (Nat.blt 2 [Sl.pur d, .pur .none, .no].length && Nat.blt 1 [Sl.pur d, .pur .none, .no].length)) = true := id rfl
  have tr : ∀ f f2, sTryB "InvalidText" 2 1 bod5 f "InvalidBend" f2 [.pur d, .pur .none, .no] = some (.ok ([.pur d, .pur (.str z), .no], .nx)) := fun f f2 => by
    unfold sTryB
    simp only [g0, bo]
  rw [heard_is, a_seq, tr, bd_ok]
  rfl
theorem hears_word (h : F_Bend_read [fnD "Bend", d] = some (.error (badB w))) : F_law_heard_v10 [d] = some (.ok (.str w)) := by
  have bo : bod5 [.pur d, .pur .none, .no] = some (.error (badB w)) := by
    rw [bod5_is]
    simp only [h]
  have g0 : (calmE [.pur d, .pur .none, .no] && (Nat.blt 2 [Sl.pur d, .pur .none, .no].length && Nat.blt 1 [Sl.pur d, .pur .none, .no].length)) = true := id rfl
  have fx : fldX "InvalidBend" "word" (badB w) = some (.str w) := by
    simp [fldX, badB]
  have n1 : ¬ ((badB w).1 = ("InvalidText" : Str) ∧ (badB w).2.isEmpty = false) := fun h => by
    have : ("InvalidBend" : Str) = ("InvalidText" : Str) := h.1
    exact absurd this (by decide +kernel)
  have n2 : (badB w).1 = ("InvalidBend" : Str) ∧ (badB w).2.isEmpty = false := ⟨rfl, rfl⟩
  have tr : ∀ f, sTryB "InvalidText" 2 1 bod5 f "InvalidBend" (fldX "InvalidBend" "word") [.pur d, .pur .none, .no] = some (.ok ([.pur d, .pur (.str w), .no], .nx)) := fun f => by
    unfold sTryB
    simp only [g0, bo]
    rw [if_neg n1, if_pos ⟨trivial, rfl⟩, fx]
    rfl
  rw [heard_is, a_seq, tr, bd_ok]
  rfl
theorem hears_text (h : F_Bend_read [fnD "Bend", d] = some (.error ("InvalidText", [("at", .int 0)]))) : F_law_heard_v10 [d] = some (.ok (.str "text")) := by
  have bo : bod5 [.pur d, .pur .none, .no] = some (.error ("InvalidText", [("at", .int 0)])) := by
    rw [bod5_is]
    simp only [h]
  have g0 : (calmE [.pur d, .pur .none, .no] && (Nat.blt 2 [Sl.pur d, .pur .none, .no].length && Nat.blt 1 [Sl.pur d, .pur .none, .no].length)) = true := id rfl
  have fx : (ifX (eqX (reprX (fldX "InvalidText" "at")) (fun _ => some (.str "0"))) (fun _ => some (.str "text")) (fun _ => some (.str "odd")) : Exn → Option D) ("InvalidText", [("at", .int 0)]) = some (.str "text") := by
    kernel_rfl
  have n2 : (("InvalidText", [("at", PyData.int 0)]) : Exn).1 = ("InvalidText" : Str) ∧ (("InvalidText", [("at", PyData.int 0)]) : Exn).2.isEmpty = false := ⟨rfl, rfl⟩
  have tr : ∀ c2 f2, sTryB "InvalidText" 2 1 bod5 (ifX (eqX (reprX (fldX "InvalidText" "at")) (fun _ => some (.str "0"))) (fun _ => some (.str "text")) (fun _ => some (.str "odd"))) c2 f2 [.pur d, .pur .none, .no] = some (.ok ([.pur d, .pur (.str "text"), .no], .nx)) := fun c2 f2 => by
    unfold sTryB
    simp only [g0, bo]
    rw [if_pos ⟨trivial, rfl⟩, fx]
    rfl
  rw [heard_is, a_seq, tr, bd_ok]
  rfl
end
section
variable {L : List Str} {v : Str → Option Rat}
theorem all_some {M : List Str} (h : (M.any fun w => (v w).isNone) = false) : ∃ ks : List Rat, rdD v M = encL ks ∧ (∀ q ∈ ks, ∃ w ∈ M, v w = some q) ∧ ks.length = M.length := by
  refine ⟨M.map fun w => (v w).getD 0, ?_, fun q hq => ?_, by simp⟩
  · unfold rdD encL
    rw [List.map_map]
    refine List.map_congr_left fun w hw => ?_
    have := List.any_eq_false.mp h w hw
    show vD (v w) = enc ((v w).getD 0)
    cases e : v w with
    | none => rw [e] at this; simp at this
    | some q => rfl
  · obtain ⟨w, hw, e⟩ := List.mem_map.mp hq
    have := List.any_eq_false.mp h w hw
    cases e2 : v w with
    | none => rw [e2] at this; simp at this
    | some p =>
      rw [e2] at e
      refine ⟨w, hw, ?_⟩
      rw [e2, ← e]
      rfl
theorem encL_ne {ks hs : List Rat} (h : (decide (encL ks = []) || decide (encL hs = [])) = false) : ks ≠ [] ∧ hs ≠ [] := by
  obtain ⟨h1, h2⟩ := Bool.or_eq_false_iff.mp h
  exact ⟨fun e => by rw [e] at h1; exact absurd h1 (by decide), fun e => by rw [e] at h2; exact absurd h2 (by decide)⟩
theorem or_t {a b : Mo Bool} {ρ : En} (ha : a ρ = some (.ok (ρ, true))) : mOr a b ρ = some (.ok (ρ, true)) := by
  rw [a_or, ha, bd_ok]
  rfl
theorem or_f {a b : Mo Bool} {ρ : En} (ha : a ρ = some (.ok (ρ, false))) : mOr a b ρ = b ρ := by
  rw [a_or, ha, bd_ok]
  rfl
abbrev t3 : Mo Bool := mOr (mTest (mOp isD (mVar 3) (mRet .none))) (mOr (mTest (mOp isD (mVar 4) (mRet .none))) (mOr (mTest (mOp isD (mVar 5) (mRet .none))) (mOr (mTest (mOp eqD (mBuilt lenD (mCons (mVar 4) (mNil))) (mRet (.int 0)))) (mTest (mOp eqD (mBuilt lenD (mCons (mVar 5) (mNil))) (mRet (.int 0)))))))
theorem rows3_none {ρ : En} (t : t3 ρ = some (.ok (ρ, true))) : ans (g_rows_in_3 ρ) = some (.ok .none) := by
  unfold t3 at t
  unfold g_rows_in_3
  rw [a_seq, a_sif, t, bd_ok]
  rfl
theorem rows3_go {ρ : En} (t : t3 ρ = some (.ok (ρ, false))) : ans (g_rows_in_3 ρ) = ans (g_rows_in_2 ρ) := by
  unfold t3 at t
  unfold g_rows_in_3
  rw [a_seq, a_sif, t, bd_ok]
  rfl
theorem isd_v (b : Bool) (X : List D) : isD (bif b then .none else .list X) .none = some (.bool b) := by
  cases b <;> rfl
/-- both readings of the values -/
theorem values_both (W : Ws L v) (f : fB L = true) :
    (F_rows_in [.str (Txt.join " " L)] = some (.ok .none) ∧ F_law_due [.str (Txt.join " " L)] = some (.ok (.str "text"))) ∨
    ∃ (n : Nat) (ks hs : List Rat) (A k : D), (∀ q ∈ (n : Rat) :: (ks ++ hs), Ht 9 q) ∧ ks ≠ [] ∧ hs ≠ [] ∧ ks.length ≤ 100 ∧ hs.length ≤ 100 ∧ F_rows_in [.str (Txt.join " " L)] = some (.ok (toldD n ks hs)) ∧
      F_law_due [.str (Txt.join " " L)] = ans (g_law_due_6 [.pur (.str (Txt.join " " L)), .pur A, .pur k, .pur (.list (encL hs)), .pur (.list [.int (n : Int)]), .pur (.list (encL ks)), .no, .no, .no, .no, .no]) := by
  obtain ⟨w1, R, k, eL, lt, hp, hl⟩ := rows_values W f
  have le := W.le
  have m1 : w1 ∈ L := by rw [eL]; simp
  have W1 := W.w w1 m1
  generalize hM : mkW L k = M at *
  generalize hH : hdW L k = H at *
  have inM : ∀ w ∈ M, Wrd w (v w) := fun w hw => W.w w (by rw [← hM] at hw; exact List.mem_of_mem_drop (List.mem_of_mem_take hw))
  have inH : ∀ w ∈ H, Wrd w (v w) := fun w hw => W.w w (by rw [← hH] at hw; exact List.mem_of_mem_drop hw)
  have lM : M.length ≤ 100 := by rw [← hM]; unfold mkW; rw [List.length_take, List.length_drop]; omega
  have lH : H.length ≤ 100 := by rw [← hH]; unfold hdW; rw [List.length_drop]; omega
  -- the law's test
  have sm : ∀ d ∈ [nD (v w1)] ++ rdD v M ++ rdD v H, Sm d := fun d hd => by
    rcases List.mem_append.mp hd with hd | hd
    · rcases List.mem_append.mp hd with hd | hd
      · rw [List.mem_singleton.mp hd]; exact sm_n _
      · exact rd_sm M d hd
    · exact rd_sm H d hd
  have no := none_in sm
  have z1 := eq_nil (rd_sm (v := v) M)
  have z2 := eq_nil (rd_sm (v := v) H)
  have a1 : addD (.list [nD (v w1)]) (.list (rdD v M)) = some (.list ([nD (v w1)] ++ rdD v M)) := if_pos (by simp [rdD]; omega)
  have a2 : addD (.list ([nD (v w1)] ++ rdD v M)) (.list (rdD v H)) = some (.list ([nD (v w1)] ++ rdD v M ++ rdD v H)) := if_pos (by simp [rdD]; omega)
  have test : mOr (mTest (mOp inTD (mRet .none) (mOp addD (mOp addD (mVar 4) (mVar 5)) (mVar 3)))) (mOr (mTest (mOp eqD (mVar 5) (mList (mSized (mNil))))) (mTest (mOp eqD (mVar 3) (mList (mSized (mNil)))))) [.pur (.str (Txt.join " " L)), .pur (.list (wS L)), .pur (natD k), .pur (.list (rdD v H)), .pur (.list [nD (v w1)]), .pur (.list (rdD v M)), .no, .no, .no, .no, .no] =
      some (.ok ([.pur (.str (Txt.join " " L)), .pur (.list (wS L)), .pur (natD k), .pur (.list (rdD v H)), .pur (.list [nD (v w1)]), .pur (.list (rdD v M)), .no, .no, .no, .no, .no], ([nD (v w1)] ++ rdD v M ++ rdD v H).any isNo || (decide (rdD v M = []) || decide (rdD v H = [])))) := by
    generalize ([nD (v w1)] ++ rdD v M ++ rdD v H).any isNo = b1 at *
    generalize decide (rdD v M = []) = b2 at *
    generalize decide (rdD v H = []) = b3 at *
    clear hp hl sm
    generalize [nD (v w1)] ++ rdD v M ++ rdD v H = L3 at *
    generalize [nD (v w1)] ++ rdD v M = L2' at *
    generalize rdD v M = MD at *
    generalize rdD v H = HD at *
    generalize nD (v w1) = N1 at *
    refine or_at ?_ (or_at ?_ ?_)
    · simp [bd_ok, lf_some, cl_ok, a_ret, a_op, a_un, a_test, a_and, a_or, a_not, a_andV, a_orV, a_notV, a_if, a_sif, a_nil, a_cons, a_star, a_list, a_tup, a_sized, a_call, a_built, a_seq, a_set, a_own, a_sret, a_next, a_isi, a_slice, a_part, a_nopart, a_range, a_seqS, a_varP, a_par2, a_xp, a_xo, a_xn, a_asg, a_make, a_chg, a_ixO, a_lenO, a_cntO, items_lst, items_tup, sizeOk, boolD, cmpD, slOf, intOf_int, len_encL, ans_rt, a_fn, List.replicate, a1, a2, no]
    · simp [bd_ok, lf_some, cl_ok, a_ret, a_op, a_un, a_test, a_and, a_or, a_not, a_andV, a_orV, a_notV, a_if, a_sif, a_nil, a_cons, a_star, a_list, a_tup, a_sized, a_call, a_built, a_seq, a_set, a_own, a_sret, a_next, a_isi, a_slice, a_part, a_nopart, a_range, a_seqS, a_varP, a_par2, a_xp, a_xo, a_xn, a_asg, a_make, a_chg, a_ixO, a_lenO, a_cntO, items_lst, items_tup, sizeOk, boolD, cmpD, slOf, intOf_int, len_encL, ans_rt, a_fn, List.replicate, z1]
    · simp [bd_ok, lf_some, cl_ok, a_ret, a_op, a_un, a_test, a_and, a_or, a_not, a_andV, a_orV, a_notV, a_if, a_sif, a_nil, a_cons, a_star, a_list, a_tup, a_sized, a_call, a_built, a_seq, a_set, a_own, a_sret, a_next, a_isi, a_slice, a_part, a_nopart, a_range, a_seqS, a_varP, a_par2, a_xp, a_xo, a_xn, a_asg, a_make, a_chg, a_ixO, a_lenO, a_cntO, items_lst, items_tup, sizeOk, boolD, cmpD, slOf, intOf_int, len_encL, ans_rt, a_fn, List.replicate, z2]
  have due : F_law_due [.str (Txt.join " " L)] = bif (([nD (v w1)] ++ rdD v M ++ rdD v H).any isNo || (decide (rdD v M = []) || decide (rdD v H = []))) then some (.ok (.str "text")) else ans (g_law_due_6 [.pur (.str (Txt.join " " L)), .pur (.list (wS L)), .pur (natD k), .pur (.list (rdD v H)), .pur (.list [nD (v w1)]), .pur (.list (rdD v M)), .no, .no, .no, .no, .no]) := by
    rw [hl]
    unfold g_law_due_7
    rw [a_seq, a_sif, test, bd_ok]
    cases (([nD (v w1)] ++ rdD v M ++ rdD v H).any isNo || (decide (rdD v M = []) || decide (rdD v H = []))) <;> rfl
  rw [List.any_append, List.any_append, rd_any, rd_any, List.any_cons, List.any_nil, Bool.or_false] at due
  clear test no z1 z2 a1 a2 sm hl
  -- the program's tests
  generalize hT : Txt.join " " L = T at *
  have i1 : ∀ E2 E3 : D, mTest (mOp isD (mVar 3) (mRet .none)) [.pur (.str T), .pur (.list (wS L)), .pur (natD k), .pur (vR v [w1]), .pur E2, .pur E3] = some (.ok ([.pur (.str T), .pur (.list (wS L)), .pur (natD k), .pur (vR v [w1]), .pur E2, .pur E3], [w1].any fun w => (v w).isNone)) := fun E2 E3 => by
    have h : isD (vR v [w1]) .none = _ := isd_v _ _
    generalize ([w1].any fun w => (v w).isNone) = b at *
    generalize vR v [w1] = E at *
    simp [bd_ok, lf_some, cl_ok, a_ret, a_op, a_un, a_test, a_and, a_or, a_not, a_andV, a_orV, a_notV, a_if, a_sif, a_nil, a_cons, a_star, a_list, a_tup, a_sized, a_call, a_built, a_seq, a_set, a_own, a_sret, a_next, a_isi, a_slice, a_part, a_nopart, a_range, a_seqS, a_varP, a_par2, a_xp, a_xo, a_xn, a_asg, a_make, a_chg, a_ixO, a_lenO, a_cntO, items_lst, items_tup, sizeOk, boolD, cmpD, slOf, intOf_int, len_encL, ans_rt, a_fn, List.replicate, h]
  have i2 : ∀ E1 E3 : D, mTest (mOp isD (mVar 4) (mRet .none)) [.pur (.str T), .pur (.list (wS L)), .pur (natD k), .pur E1, .pur (vR v M), .pur E3] = some (.ok ([.pur (.str T), .pur (.list (wS L)), .pur (natD k), .pur E1, .pur (vR v M), .pur E3], M.any fun w => (v w).isNone)) := fun E1 E3 => by
    have h : isD (vR v M) .none = _ := isd_v _ _
    generalize (M.any fun w => (v w).isNone) = b at *
    generalize vR v M = E at *
    simp [bd_ok, lf_some, cl_ok, a_ret, a_op, a_un, a_test, a_and, a_or, a_not, a_andV, a_orV, a_notV, a_if, a_sif, a_nil, a_cons, a_star, a_list, a_tup, a_sized, a_call, a_built, a_seq, a_set, a_own, a_sret, a_next, a_isi, a_slice, a_part, a_nopart, a_range, a_seqS, a_varP, a_par2, a_xp, a_xo, a_xn, a_asg, a_make, a_chg, a_ixO, a_lenO, a_cntO, items_lst, items_tup, sizeOk, boolD, cmpD, slOf, intOf_int, len_encL, ans_rt, a_fn, List.replicate, h]
  have i3 : ∀ E1 E2 : D, mTest (mOp isD (mVar 5) (mRet .none)) [.pur (.str T), .pur (.list (wS L)), .pur (natD k), .pur E1, .pur E2, .pur (vR v H)] = some (.ok ([.pur (.str T), .pur (.list (wS L)), .pur (natD k), .pur E1, .pur E2, .pur (vR v H)], H.any fun w => (v w).isNone)) := fun E1 E2 => by
    have h : isD (vR v H) .none = _ := isd_v _ _
    generalize (H.any fun w => (v w).isNone) = b at *
    generalize vR v H = E at *
    simp [bd_ok, lf_some, cl_ok, a_ret, a_op, a_un, a_test, a_and, a_or, a_not, a_andV, a_orV, a_notV, a_if, a_sif, a_nil, a_cons, a_star, a_list, a_tup, a_sized, a_call, a_built, a_seq, a_set, a_own, a_sret, a_next, a_isi, a_slice, a_part, a_nopart, a_range, a_seqS, a_varP, a_par2, a_xp, a_xo, a_xn, a_asg, a_make, a_chg, a_ixO, a_lenO, a_cntO, items_lst, items_tup, sizeOk, boolD, cmpD, slOf, intOf_int, len_encL, ans_rt, a_fn, List.replicate, h]
  have j1 := i1 (vR v M) (vR v H)
  have j2 := i2 (vR v [w1]) (vR v H)
  have j3 := i3 (vR v [w1]) (vR v M)
  clear i1 i2 i3
  have one : ([w1].any fun w => (v w).isNone) = (v w1).isNone := by simp
  rw [one] at j1
  cases hv : v w1 with
  | none =>
    rw [hv] at j1
    left
    refine ⟨by rw [hp]; exact rows3_none (or_t j1), ?_⟩
    rw [due, hv]
    rfl
  | some q =>
    rw [hv] at j1
    cases g2 : (M.any fun w => (v w).isNone) with
    | true =>
      rw [g2] at j2 due
      left
      refine ⟨by rw [hp]; exact rows3_none ((or_f j1).trans (or_t j2)), ?_⟩
      rw [due]
      cases isNo (nD (v w1)) <;> rfl
    | false =>
      rw [g2] at j2 due
      cases g3 : (H.any fun w => (v w).isNone) with
      | true =>
        rw [g3] at j3 due
        left
        refine ⟨by rw [hp]; exact rows3_none ((or_f j1).trans ((or_f j2).trans (or_t j3))), ?_⟩
        rw [due]
        cases isNo (nD (v w1)) <;> rfl
      | false =>
        rw [g3] at j3 due
        obtain ⟨ks, r1, r2, r3⟩ := all_some g2
        obtain ⟨hs, r4, r5, r6⟩ := all_some g3
        have eM : vR v M = .list (encL ks) := by unfold vR; rw [g2, r1]; rfl
        have eH : vR v H = .list (encL hs) := by unfold vR; rw [g3, r4]; rfl
        have e1 : vR v [w1] = .list [enc q] := by
          unfold vR
          rw [one, hv]
          show PyData.list [vD (v w1)] = _
          rw [hv]
          rfl
        rw [e1, eM, eH] at j1 j2 j3 hp
        rw [r1, r4] at due
        have lk : lenD [.list (encL ks)] = some (.int (ks.length : Int)) := by simp [lenD, len_encL]
        have lh : lenD [.list (encL hs)] = some (.int (hs.length : Int)) := by simp [lenD, len_encL]
        have zz : ∀ xs : List Rat, eqD (.int (xs.length : Int)) (.int 0) = some (.bool (decide (encL xs = []))) := fun xs => by
          show some (PyData.bool ((xs.length : Int) == 0)) = _
          cases xs with
          | nil => rfl
          | cons x xs =>
            rw [decide_eq_false (by simp [encL]), beq_eq_false_iff_ne.mpr (by simp; omega)]
        have j4 : mTest (mOp eqD (mBuilt lenD (mCons (mVar 4) (mNil))) (mRet (.int 0))) [.pur (.str T), .pur (.list (wS L)), .pur (natD k), .pur (.list [enc q]), .pur (.list (encL ks)), .pur (.list (encL hs))] = some (.ok ([.pur (.str T), .pur (.list (wS L)), .pur (natD k), .pur (.list [enc q]), .pur (.list (encL ks)), .pur (.list (encL hs))], decide (encL ks = []))) := by
          have z := zz ks
          generalize decide (encL ks = []) = b at *
          generalize (ks.length : Int) = l at *
          generalize encL ks = K at *
          simp [bd_ok, lf_some, cl_ok, a_ret, a_op, a_un, a_test, a_and, a_or, a_not, a_andV, a_orV, a_notV, a_if, a_sif, a_nil, a_cons, a_star, a_list, a_tup, a_sized, a_call, a_built, a_seq, a_set, a_own, a_sret, a_next, a_isi, a_slice, a_part, a_nopart, a_range, a_seqS, a_varP, a_par2, a_xp, a_xo, a_xn, a_asg, a_make, a_chg, a_ixO, a_lenO, a_cntO, items_lst, items_tup, sizeOk, boolD, cmpD, slOf, intOf_int, len_encL, ans_rt, a_fn, List.replicate, lk, z]
        have j5 : mTest (mOp eqD (mBuilt lenD (mCons (mVar 5) (mNil))) (mRet (.int 0))) [.pur (.str T), .pur (.list (wS L)), .pur (natD k), .pur (.list [enc q]), .pur (.list (encL ks)), .pur (.list (encL hs))] = some (.ok ([.pur (.str T), .pur (.list (wS L)), .pur (natD k), .pur (.list [enc q]), .pur (.list (encL ks)), .pur (.list (encL hs))], decide (encL hs = []))) := by
          have z := zz hs
          generalize decide (encL hs = []) = b at *
          generalize (hs.length : Int) = l at *
          generalize encL hs = K at *
          simp [bd_ok, lf_some, cl_ok, a_ret, a_op, a_un, a_test, a_and, a_or, a_not, a_andV, a_orV, a_notV, a_if, a_sif, a_nil, a_cons, a_star, a_list, a_tup, a_sized, a_call, a_built, a_seq, a_set, a_own, a_sret, a_next, a_isi, a_slice, a_part, a_nopart, a_range, a_seqS, a_varP, a_par2, a_xp, a_xo, a_xn, a_asg, a_make, a_chg, a_ixO, a_lenO, a_cntO, items_lst, items_tup, sizeOk, boolD, cmpD, slOf, intOf_int, len_encL, ans_rt, a_fn, List.replicate, lh, z]
        have tt := (or_f j1).trans ((or_f j2).trans ((or_f j3).trans (or_at j4 j5)))
        by_cases em : (decide (encL ks = []) || decide (encL hs = [])) = true
        · rw [em] at tt due
          left
          refine ⟨by rw [hp]; exact rows3_none tt, ?_⟩
          rw [due]
          cases isNo (nD (v w1)) <;> rfl
        · have em : (decide (encL ks = []) || decide (encL hs = [])) = false := by simpa using em
          rw [em] at tt due
          have x0 : ixD (.list [enc q]) (.int 0) = some (enc q) := rfl
          have x1 : ixD (enc q) (.int 1) = some (.int (q.den : Int)) := ix1 _ _
          have x2 : ixD (enc q) (.int 0) = some (.int q.num) := ix0 _ _
          have nd : neD (.int (q.den : Int)) (.int 1) = some (.bool (!decide (q.den = 1))) := by
            show some (PyData.bool (!((q.den : Int) == 1))) = _
            congr 3
            by_cases c : q.den = 1
            · rw [c]; rfl
            · rw [decide_eq_false c]
              exact beq_eq_false_iff_ne.mpr fun e => by omega
          have go := rows3_go tt
          rw [go] at hp
          by_cases c : q.den = 1 ∧ 0 ≤ q.num
          · right
            rw [decide_eq_true c.1] at nd
            have ltn : ltI q.num 0 = false := decide_eq_false (by omega)
            have eq : q = ((q.num.toNat : Nat) : Rat) := by
              refine Rat.ext ?_ ?_
              · rw [Rat.num_natCast]; omega
              · rw [Rat.den_natCast]; exact c.1
            have nn : nD (v w1) = .int ((q.num.toNat : Nat) : Int) := by
              rw [hv]
              show (if q.den = 1 ∧ 0 ≤ q.num then PyData.int q.num else .none) = _
              rw [if_pos c, show ((q.num.toNat : Nat) : Int) = q.num by omega]
            have Bq : Ht 9 q := W1.bd q hv
            have nb := encL_ne em
            refine ⟨q.num.toNat, ks, hs, .list (wS L), natD k, fun x hx => ?_, nb.1, nb.2, by omega, by omega, ?_, ?_⟩
            · rcases (List.mem_cons.mp hx) with e | hx
              · rw [e, ← eq]; exact Bq
              · rcases (List.mem_append.mp hx) with h | h
                · obtain ⟨w, hw, e⟩ := r2 x h
                  exact (inM w hw).bd x e
                · obtain ⟨w, hw, e⟩ := r5 x h
                  exact (inH w hw).bd x e
            · rw [hp]
              show _ = some (Except.ok (PyData.tuple [.int ((q.num.toNat : Nat) : Int), .list (encL ks), .list (encL hs)]))
              rw [show ((q.num.toNat : Nat) : Int) = q.num by omega]
              generalize encL ks = K at *
              generalize encL hs = H2 at *
              generalize enc q = Q at *
              generalize (q.den : Int) = z at *
              simp [bd_ok, lf_some, cl_ok, a_ret, a_op, a_un, a_test, a_and, a_or, a_not, a_andV, a_orV, a_notV, a_if, a_sif, a_nil, a_cons, a_star, a_list, a_tup, a_sized, a_call, a_built, a_seq, a_set, a_own, a_sret, a_next, a_isi, a_slice, a_part, a_nopart, a_range, a_seqS, a_varP, a_par2, a_xp, a_xo, a_xn, a_asg, a_make, a_chg, a_ixO, a_lenO, a_cntO, items_lst, items_tup, sizeOk, boolD, cmpD, slOf, intOf_int, len_encL, ans_rt, a_fn, List.replicate, g_rows_in_2, g_rows_in_1, x0, x1, x2, nd, ltn]
            · rw [due, nn]
              rfl
          · left
            constructor
            · rw [hp]
              by_cases cd : q.den = 1
              · rw [decide_eq_true cd] at nd
                have ltn : ltI q.num 0 = true := decide_eq_true (by omega)
                generalize encL ks = K at *
                generalize encL hs = H2 at *
                generalize enc q = Q at *
                generalize (q.den : Int) = z at *
                simp [bd_ok, lf_some, cl_ok, a_ret, a_op, a_un, a_test, a_and, a_or, a_not, a_andV, a_orV, a_notV, a_if, a_sif, a_nil, a_cons, a_star, a_list, a_tup, a_sized, a_call, a_built, a_seq, a_set, a_own, a_sret, a_next, a_isi, a_slice, a_part, a_nopart, a_range, a_seqS, a_varP, a_par2, a_xp, a_xo, a_xn, a_asg, a_make, a_chg, a_ixO, a_lenO, a_cntO, items_lst, items_tup, sizeOk, boolD, cmpD, slOf, intOf_int, len_encL, ans_rt, a_fn, List.replicate, g_rows_in_2, x0, x1, x2, nd, ltn]
              · rw [decide_eq_false cd] at nd
                generalize encL ks = K at *
                generalize encL hs = H2 at *
                generalize enc q = Q at *
                generalize (q.den : Int) = z at *
                simp [bd_ok, lf_some, cl_ok, a_ret, a_op, a_un, a_test, a_and, a_or, a_not, a_andV, a_orV, a_notV, a_if, a_sif, a_nil, a_cons, a_star, a_list, a_tup, a_sized, a_call, a_built, a_seq, a_set, a_own, a_sret, a_next, a_isi, a_slice, a_part, a_nopart, a_range, a_seqS, a_varP, a_par2, a_xp, a_xo, a_xn, a_asg, a_make, a_chg, a_ixO, a_lenO, a_cntO, items_lst, items_tup, sizeOk, boolD, cmpD, slOf, intOf_int, len_encL, ans_rt, a_fn, List.replicate, g_rows_in_2, x0, x1, x2, nd]
            · have nn : nD (v w1) = .none := by
                rw [hv]
                show (if q.den = 1 ∧ 0 ≤ q.num then PyData.int q.num else .none) = _
                rw [if_neg c]
              rw [due, nn]
              rfl
end
end HB
namespace HB
open PySem L2
open TL (tl numL)
theorem lc_gen2 {α : Type} {vs : List Nat} {g : D → En → Option En} {test : Mo Bool} {elt : Mo D} {ρ0 : En} (c : α → D) (P : α → Bool) (F : α → D) (st : α → En) : ∀ (L : List α), (∀ a ∈ L, g (c a) ρ0 = some (st a)) → (∀ a ∈ L, test (st a) = some (.ok (st a, P a))) →
    (∀ a ∈ L, P a = true → elt (st a) = some (.ok (st a, F a))) → (∀ a ∈ L, wipeE (st a) vs = ρ0) → lcL vs g test elt (L.map c) ρ0 = some (ρ0, (L.filter P).map F)
  | [], _, _, _, _ => rfl
  | a :: L, hg, ht, he, hw => by
    have ih := lc_gen2 c P F st L (fun b hb => hg b (List.mem_cons_of_mem _ hb)) (fun b hb => ht b (List.mem_cons_of_mem _ hb)) (fun b hb => he b (List.mem_cons_of_mem _ hb)) (fun b hb => hw b (List.mem_cons_of_mem _ hb))
    simp only [List.map_cons, lcL, hg a List.mem_cons_self, ht a List.mem_cons_self]
    cases hP : P a with
    | false => rw [List.filter_cons_of_neg (by simp [hP])]; simp only [hw a List.mem_cons_self, ih]
    | true =>
      rw [List.filter_cons_of_pos hP]
      simp only [he a List.mem_cons_self hP, hw a List.mem_cons_self, ih, List.map_cons]
theorem blk_gen2 {α : Type} {vs : List Nat} {g : D → En → Option En} {src : Mo Src} {test : Mo Bool} {elt : Mo D} {ρ : En} (L : List α) (c : α → D) (P : α → Bool) (F : α → D) (st : α → En) (hs : src ρ = some (.ok (ρ, constS (L.map c)))) (hl : L.length < 1000000) (ho : noOwn ρ vs = true)
    (hg : ∀ a ∈ L, g (c a) (wipeE ρ vs) = some (st a)) (ht : ∀ a ∈ L, test (st a) = some (.ok (st a, P a))) (he : ∀ a ∈ L, P a = true → elt (st a) = some (.ok (st a, F a))) (hw : ∀ a ∈ L, wipeE (st a) vs = wipeE ρ vs) (hr : restE ρ (wipeE ρ vs) vs = ρ) :
    mBlk vs src (lcBody vs g test elt) ρ = some (.ok (ρ, (L.filter P).map F)) := by
  have hb : Nat.blt (L.map c).length 1000000 = true := Nat.ble_eq_true_of_le (by rw [List.length_map]; exact hl)
  unfold mBlk mBind
  simp only [hs, ho, lcBody, constS, hb]
  rw [lc_gen2 c P F st L hg ht he hw]
  simp only [hr]
theorem ne_nilS {L : List D} (h : ∀ d ∈ L, Sm d) : neD (.list L) (.list []) = some (.bool (!decide (L = []))) := by
  have h2 := shaped_sm h
  have h3 : SeqAt.shaped (.list []) = true := rfl
  show (if SeqAt.shaped (.list L) = true ∧ SeqAt.shaped (.list []) = true then some (PyData.bool (!PyData.eqv (.list L) (.list []))) else none) = _
  rw [if_pos ⟨h2, h3⟩]
  cases L with
  | nil => rfl
  | cons d L => simp [PyData.eqv, PyData.eqvAll]
theorem cnt_encL (xs : List Rat) (q : Rat) : cntLD (.list (encL xs)) (enc q) = some (.int (cntR xs q : Nat)) := by
  have h1 := shaped_enc q
  have h2 := shaped_encL xs
  show (if SeqAt.shaped (enc q) = true ∧ SeqAt.shaped (.list (encL xs)) = true then some (PyData.int ((encL xs).countP fun z => PyData.eqv z (enc q) : Nat)) else none) = _
  rw [if_pos ⟨h1, h2⟩]
  unfold encL cntR
  rw [List.countP_map, List.countP_eq_length_filter]
  have e : ((fun z => PyData.eqv z (enc q)) ∘ enc) = fun x => decide (x = q) := by
    funext x
    exact eqv_enc x q
  rw [e]
theorem sl_inner (ks : List Rat) : slD (some 1) (some (-1)) (.list (encL ks)) = some (.list (encL (inR ks))) := by
  have e : cutD (encL ks) (some 1) (some (-1)) = encL (inR ks) := by
    unfold cutD inR
    have l : (encL ks).length = ks.length := by simp [encL]
    have h1 : HT.sIx (encL ks).length 0 (some 1) = min 1 ks.length := by rw [show (1 : Int) = ((1 : Nat) : Int) from rfl, HT.sIx_nat, l]
    have h2 : HT.sIx (encL ks).length (encL ks).length (some (-1)) = ks.length - 1 := by
      simp [HT.sIx, l]
      omega
    rw [h1, h2]
    unfold encL
    rw [← List.map_drop, ← List.map_take]
    congr 1
    by_cases c : 1 ≤ ks.length
    · rw [Nat.min_eq_left c, show ks.length - 1 - 1 = ks.length - 2 by omega]
    · rw [show ks = [] from List.eq_nil_of_length_eq_zero (by omega)]
      rfl
  exact congrArg (fun l => some (PyData.list l)) e
section
variable {n : Nat} {ks hs : List Rat} {T A k : D}
abbrev E5 (T A k : D) (n : Nat) (ks hs : List Rat) : En := [.pur T, .pur A, .pur k, .pur (.list (encL hs)), .pur (.list [.int (n : Int)]), .pur (.list (encL ks)), .pur (.int (n : Int)), .pur (.list (encL (inR ks))), .no, .no, .no]
theorem zip_ok2 : zipN [.list (encL ks), .list (encL (ks.drop 1))] = some (constS ((ks.zip (ks.drop 1)).map fun p => .tuple [enc p.1, enc p.2])) := by
  have e : ∀ xs ys : List Rat, zipD (encL xs) (encL ys) = (xs.zip ys).map fun p => .tuple [enc p.1, enc p.2] := by
    intro xs
    induction xs with
    | nil => intro ys; rfl
    | cons x xs ih =>
      intro ys
      cases ys with
      | nil => rfl
      | cons y ys =>
        show PyData.tuple [enc x, enc y] :: zipD (encL xs) (encL ys) = _
        rw [ih ys]
        rfl
  simp only [zipN, lstOf, e]
theorem desc_test (hk : ∀ q ∈ ks, Ht 9 q) (lk : ks.length ≤ 100) : mTest (mOp neD (mList (mBlk [9, 10] (mZip (mCons (mVar 5) (mCons (mSlice (mVar 5) (mPart (mRet (.int 1))) (mNoPart)) (mNil)))) (lcBody [9, 10] (gTupD 2 (gConsD (gSet 9) (gConsD (gSet 10) (gNilD)))) (mTest (mCall F_law_below (mCons (mVar 10) (mCons (mVar 9) (mNil))))) (mRet (.int 1))))) (mList (mSized (mNil)))) (E5 T A k n ks hs) =
    some (.ok (E5 T A k n ks hs, descB ks)) := by
  have zs := zip_ok2 (ks := ks)
  have sl : slD (some 1) none (.list (encL ks)) = some (.list (encL (ks.drop 1))) := by
    rw [show (some (1 : Int)) = some ((1 : Nat) : Int) from rfl, sl_rest]
    unfold encL
    rw [List.map_drop]
  have bl := blk_gen2 (vs := [9, 10]) (g := gTupD 2 (gConsD (gSet 9) (gConsD (gSet 10) (gNilD)))) (src := mZip (mCons (mVar 5) (mCons (mSlice (mVar 5) (mPart (mRet (.int 1))) (mNoPart)) (mNil)))) (test := mTest (mCall F_law_below (mCons (mVar 10) (mCons (mVar 9) (mNil))))) (elt := mRet (.int 1)) (ρ := E5 T A k n ks hs)
    (ks.zip (ks.drop 1)) (fun p => .tuple [enc p.1, enc p.2]) (fun p => decide (p.2 < p.1)) (fun _ => .int 1) (fun p => [.pur T, .pur A, .pur k, .pur (.list (encL hs)), .pur (.list [.int (n : Int)]), .pur (.list (encL ks)), .pur (.int (n : Int)), .pur (.list (encL (inR ks))), .no, .pur (enc p.1), .pur (enc p.2)])
    (by
      generalize (ks.zip (ks.drop 1)).map (fun p => PyData.tuple [enc p.1, enc p.2]) = Z at *
      generalize encL (ks.drop 1) = K1 at *
      simp [bd_ok, lf_some, cl_ok, a_ret, a_op, a_un, a_test, a_and, a_or, a_not, a_andV, a_orV, a_notV, a_if, a_sif, a_nil, a_cons, a_star, a_list, a_tup, a_sized, a_call, a_built, a_seq, a_set, a_own, a_sret, a_next, a_isi, a_slice, a_part, a_nopart, a_range, a_seqS, a_varP, a_par2, a_xp, a_xo, a_xn, a_asg, a_make, a_chg, a_ixO, a_lenO, a_cntO, items_lst, items_tup, sizeOk, boolD, cmpD, slOf, intOf_int, len_encL, ans_rt, a_fn, List.replicate, mZip, sl, zs]) (by rw [List.length_zip]; omega) rfl (fun _ _ => rfl) (fun p hp => by
      have m := List.of_mem_zip (a := p.1) (b := p.2) hp
      have e := law_below_enc (hk _ (List.mem_of_mem_drop m.2)) (hk _ m.1) (by decide)
      generalize decide (p.2 < p.1) = b at *
      simp [bd_ok, lf_some, cl_ok, a_ret, a_op, a_un, a_test, a_and, a_or, a_not, a_andV, a_orV, a_notV, a_if, a_sif, a_nil, a_cons, a_star, a_list, a_tup, a_sized, a_call, a_built, a_seq, a_set, a_own, a_sret, a_next, a_isi, a_slice, a_part, a_nopart, a_range, a_seqS, a_varP, a_par2, a_xp, a_xo, a_xn, a_asg, a_make, a_chg, a_ixO, a_lenO, a_cntO, items_lst, items_tup, sizeOk, boolD, cmpD, slOf, intOf_int, len_encL, ans_rt, a_fn, List.replicate, e]) (fun _ _ _ => rfl) (fun _ _ => rfl) rfl
  have sm : ∀ d ∈ ((ks.zip (ks.drop 1)).filter fun p => decide (p.2 < p.1)).map (fun _ => PyData.int 1), Sm d := fun d hd => by
    obtain ⟨_, _, rfl⟩ := List.mem_map.mp hd
    exact .inr (.inl ⟨1, rfl⟩)
  have ne := ne_nilS sm
  have eb : (!decide (((ks.zip (ks.drop 1)).filter fun p => decide (p.2 < p.1)).map (fun _ => PyData.int 1) = [])) = descB ks := by
    unfold descB
    cases h : (ks.zip (ks.drop 1)).any fun p => decide (p.2 < p.1) with
    | false =>
      have : (ks.zip (ks.drop 1)).filter (fun p => decide (p.2 < p.1)) = [] := List.filter_eq_nil_iff.mpr fun p hp => by
        have := List.any_eq_false.mp h p hp
        exact this
      rw [this]
      rfl
    | true =>
      obtain ⟨p, hp, h2⟩ := List.any_eq_true.mp h
      rw [decide_eq_false]
      · rfl
      · intro e
        have := List.map_eq_nil_iff.mp e
        have m : p ∈ (ks.zip (ks.drop 1)).filter fun p => decide (p.2 < p.1) := List.mem_filter.mpr ⟨hp, h2⟩
        rw [this] at m
        cases m
  rw [eb] at ne
  generalize ((ks.zip (ks.drop 1)).filter fun p => decide (p.2 < p.1)).map (fun _ => PyData.int 1) = X at *
  rw [a_test, a_op, a_list, bl, bd_ok]
  generalize descB ks = b at *
  simp [bd_ok, lf_some, cl_ok, a_ret, a_op, a_un, a_test, a_and, a_or, a_not, a_andV, a_orV, a_notV, a_if, a_sif, a_nil, a_cons, a_star, a_list, a_tup, a_sized, a_call, a_built, a_seq, a_set, a_own, a_sret, a_next, a_isi, a_slice, a_part, a_nopart, a_range, a_seqS, a_varP, a_par2, a_xp, a_xo, a_xn, a_asg, a_make, a_chg, a_ixO, a_lenO, a_cntO, items_lst, items_tup, sizeOk, boolD, cmpD, slOf, intOf_int, len_encL, ans_rt, a_fn, List.replicate, ne]
theorem ends_test (k0 : 0 < ks.length) : mOr (mTest (mOp (cmpD gtI) (mRecv isLstB cntLD (mVar 5) (mOp ixD (mVar 5) (mRet (.int 0)))) (mRet (.int 1)))) (mTest (mOp (cmpD gtI) (mRecv isLstB cntLD (mVar 5) (mOp ixD (mVar 5) (mUn negD (mRet (.int 1))))) (mRet (.int 1)))) (E5 T A k n ks hs) =
    some (.ok (E5 T A k n ks hs, endsB ks)) := by
  have x0 : ixD (.list (encL ks)) (.int 0) = some (enc (at0 ks 0)) := ixL (i := 0) rfl k0
  have x1 : ixD (.list (encL ks)) (.int (-1)) = some (enc (lastR ks)) := ixL_last k0
  have c0 := cnt_encL ks (at0 ks 0)
  have c1 := cnt_encL ks (lastR ks)
  have ng : negD (.int 1) = some (.int (-1)) := rfl
  have ib : isLstB (.list (encL ks)) = true := rfl
  have g0 : gtI (cntR ks (at0 ks 0) : Nat) 1 = decide (1 < cntR ks (at0 ks 0)) := by
    unfold gtI
    rw [Bool.eq_iff_iff, decide_eq_true_iff, decide_eq_true_iff]
    omega
  have g1 : gtI (cntR ks (lastR ks) : Nat) 1 = decide (1 < cntR ks (lastR ks)) := by
    unfold gtI
    rw [Bool.eq_iff_iff, decide_eq_true_iff, decide_eq_true_iff]
    omega
  unfold endsB
  rw [← g0, ← g1]
  generalize ((cntR ks (at0 ks 0) : Nat) : Int) = z0 at *
  generalize ((cntR ks (lastR ks) : Nat) : Int) = z1 at *
  generalize enc (at0 ks 0) = e0 at *
  generalize enc (lastR ks) = e1 at *
  clear g0 g1
  generalize h0 : gtI z0 1 = b0 at *
  generalize h1 : gtI z1 1 = b1 at *
  refine or_at ?_ ?_
  · simp [bd_ok, lf_some, cl_ok, a_ret, a_op, a_un, a_test, a_and, a_or, a_not, a_andV, a_orV, a_notV, a_if, a_sif, a_nil, a_cons, a_star, a_list, a_tup, a_sized, a_call, a_built, a_seq, a_set, a_own, a_sret, a_next, a_isi, a_slice, a_part, a_nopart, a_range, a_seqS, a_varP, a_par2, a_xp, a_xo, a_xn, a_asg, a_make, a_chg, a_ixO, a_lenO, a_cntO, items_lst, items_tup, sizeOk, boolD, cmpD, slOf, intOf_int, len_encL, ans_rt, a_fn, List.replicate, a_rcv, ib, x0, c0, h0]
  · simp [bd_ok, lf_some, cl_ok, a_ret, a_op, a_un, a_test, a_and, a_or, a_not, a_andV, a_orV, a_notV, a_if, a_sif, a_nil, a_cons, a_star, a_list, a_tup, a_sized, a_call, a_built, a_seq, a_set, a_own, a_sret, a_next, a_isi, a_slice, a_part, a_nopart, a_range, a_seqS, a_varP, a_par2, a_xp, a_xo, a_xn, a_asg, a_make, a_chg, a_ixO, a_lenO, a_cntO, items_lst, items_tup, sizeOk, boolD, cmpD, slOf, intOf_int, len_encL, ans_rt, a_fn, List.replicate, a_rcv, ib, x1, c1, ng, h1]
theorem inner_test (lk : ks.length ≤ 100) : mTest (mOp neD (mList (mBlk [9] (mSeqS (mVar 7)) (lcBody [9] (gSet 9) (mTest (mOp (cmpD gtI) (mRecv isLstB cntLD (mVar 7) (mVar 9)) (mVar 6))) (mVar 9)))) (mList (mSized (mNil)))) (E5 T A k n ks hs) =
    some (.ok (E5 T A k n ks hs, innB n ks)) := by
  have li : (inR ks).length ≤ 100 := by unfold inR; rw [List.length_take, List.length_drop]; omega
  have ib : isLstB (.list (encL (inR ks))) = true := rfl
  have bl := blk_sel (v := 9) (src := mSeqS (mVar 7)) (test := mTest (mOp (cmpD gtI) (mRecv isLstB cntLD (mVar 7) (mVar 9)) (mVar 6))) (elt := mVar 9) (ρ := E5 T A k n ks hs) (inR ks) enc (fun q => decide (n < cntR (inR ks) q)) enc (by
      have e : (inR ks).map enc = encL (inR ks) := rfl
      rw [e]
      simp [bd_ok, lf_some, cl_ok, a_ret, a_op, a_un, a_test, a_and, a_or, a_not, a_andV, a_orV, a_notV, a_if, a_sif, a_nil, a_cons, a_star, a_list, a_tup, a_sized, a_call, a_built, a_seq, a_set, a_own, a_sret, a_next, a_isi, a_slice, a_part, a_nopart, a_range, a_seqS, a_varP, a_par2, a_xp, a_xo, a_xn, a_asg, a_make, a_chg, a_ixO, a_lenO, a_cntO, items_lst, items_tup, sizeOk, boolD, cmpD, slOf, intOf_int, len_encL, ans_rt, a_fn, List.replicate]) (by omega) rfl (fun q hq => by
      have c := cnt_encL (inR ks) q
      have g : gtI (cntR (inR ks) q : Nat) (n : Int) = decide (n < cntR (inR ks) q) := by
        unfold gtI
        rw [Bool.eq_iff_iff, decide_eq_true_iff, decide_eq_true_iff]
        omega
      generalize decide (n < cntR (inR ks) q) = b at *
      generalize ((cntR (inR ks) q : Nat) : Int) = z at *
      generalize enc q = Q at *
      simp [bd_ok, lf_some, cl_ok, a_ret, a_op, a_un, a_test, a_and, a_or, a_not, a_andV, a_orV, a_notV, a_if, a_sif, a_nil, a_cons, a_star, a_list, a_tup, a_sized, a_call, a_built, a_seq, a_set, a_own, a_sret, a_next, a_isi, a_slice, a_part, a_nopart, a_range, a_seqS, a_varP, a_par2, a_xp, a_xo, a_xn, a_asg, a_make, a_chg, a_ixO, a_lenO, a_cntO, items_lst, items_tup, sizeOk, boolD, cmpD, slOf, intOf_int, len_encL, ans_rt, a_fn, List.replicate, a_rcv, ib, c, g]) fun q _ _ => by
        simp [bd_ok, lf_some, cl_ok, a_ret, a_op, a_un, a_test, a_and, a_or, a_not, a_andV, a_orV, a_notV, a_if, a_sif, a_nil, a_cons, a_star, a_list, a_tup, a_sized, a_call, a_built, a_seq, a_set, a_own, a_sret, a_next, a_isi, a_slice, a_part, a_nopart, a_range, a_seqS, a_varP, a_par2, a_xp, a_xo, a_xn, a_asg, a_make, a_chg, a_ixO, a_lenO, a_cntO, items_lst, items_tup, sizeOk, boolD, cmpD, slOf, intOf_int, len_encL, ans_rt, a_fn, List.replicate]
  have sm : ∀ d ∈ ((inR ks).filter fun q => decide (n < cntR (inR ks) q)).map enc, Sm d := fun d hd => by
    obtain ⟨q, _, rfl⟩ := List.mem_map.mp hd
    exact .inr (.inr ⟨q, rfl⟩)
  have ne := ne_nilS sm
  have eb : (!decide (((inR ks).filter fun q => decide (n < cntR (inR ks) q)).map enc = [])) = innB n ks := by
    unfold innB
    cases h : (inR ks).any fun q => decide (n < cntR (inR ks) q) with
    | false =>
      have : (inR ks).filter (fun q => decide (n < cntR (inR ks) q)) = [] := List.filter_eq_nil_iff.mpr fun p hp => List.any_eq_false.mp h p hp
      rw [this]
      rfl
    | true =>
      obtain ⟨p, hp, h2⟩ := List.any_eq_true.mp h
      rw [decide_eq_false]
      · rfl
      · intro e
        have := List.map_eq_nil_iff.mp e
        have m : p ∈ (inR ks).filter fun q => decide (n < cntR (inR ks) q) := List.mem_filter.mpr ⟨hp, h2⟩
        rw [this] at m
        cases m
  rw [eb] at ne
  generalize ((inR ks).filter fun q => decide (n < cntR (inR ks) q)).map enc = X at *
  rw [a_test, a_op, a_list, bl, bd_ok]
  generalize innB n ks = b at *
  simp [bd_ok, lf_some, cl_ok, a_ret, a_op, a_un, a_test, a_and, a_or, a_not, a_andV, a_orV, a_notV, a_if, a_sif, a_nil, a_cons, a_star, a_list, a_tup, a_sized, a_call, a_built, a_seq, a_set, a_own, a_sret, a_next, a_isi, a_slice, a_part, a_nopart, a_range, a_seqS, a_varP, a_par2, a_xp, a_xo, a_xn, a_asg, a_make, a_chg, a_ixO, a_lenO, a_cntO, items_lst, items_tup, sizeOk, boolD, cmpD, slOf, intOf_int, len_encL, ans_rt, a_fn, List.replicate, ne]
theorem seq_ifb {t : Mo Bool} {d : D} {b : Mo Fl} {ρ : En} {x : Bool} (h : t ρ = some (.ok (ρ, x))) : ans (sSeq (sIf t (sRet (mRet d)) sNext) b ρ) = bif x then some (.ok d) else ans (b ρ) := by
  rw [a_seq, a_sif, h, bd_ok]
  cases x <;> rfl
theorem due_out (hk : ∀ q ∈ ks, Ht 9 q) (k0 : ks ≠ []) (lk : ks.length ≤ 100) (lh : hs.length ≤ 100) (hn : n < 1000) : ans (g_law_due_6 [.pur T, .pur A, .pur k, .pur (.list (encL hs)), .pur (.list [.int (n : Int)]), .pur (.list (encL ks)), .no, .no, .no, .no, .no]) =
    bif decide (ks.length < 2) then some (.ok (.str "marks")) else bif descB ks then some (.ok (.str "marks")) else bif endsB ks then some (.ok (.str "marks")) else bif innB n ks then some (.ok (.str "marks")) else bif decide (hs.length + 1 = n + ks.length) then some (.ok (toldD n ks hs)) else some (.ok (.str "handles")) := by
  have kp : 0 < ks.length := List.length_pos_iff.mpr k0
  have q6 : g_law_due_6 [.pur T, .pur A, .pur k, .pur (.list (encL hs)), .pur (.list [.int (n : Int)]), .pur (.list (encL ks)), .no, .no, .no, .no, .no] = g_law_due_5 (E5 T A k n ks hs) := by
    have si := sl_inner ks
    have ng : negD (.int 1) = some (.int (-1)) := rfl
    have x0 : ixD (.list [.int (n : Int)]) (.int 0) = some (.int (n : Int)) := rfl
    unfold g_law_due_6
    have h : mTup (mCons (mOp ixD (mVar 4) (mRet (.int 0))) (mCons (mSlice (mVar 5) (mPart (mRet (.int 1))) (mPart (mUn negD (mRet (.int 1))))) (mNil))) [.pur T, .pur A, .pur k, .pur (.list (encL hs)), .pur (.list [.int (n : Int)]), .pur (.list (encL ks)), .no, .no, .no, .no, .no] =
        some (.ok ([.pur T, .pur A, .pur k, .pur (.list (encL hs)), .pur (.list [.int (n : Int)]), .pur (.list (encL ks)), .no, .no, .no, .no, .no], .tuple [.int (n : Int), .list (encL (inR ks))])) := by
      generalize encL (inR ks) = I at *
      generalize encL ks = K at *
      generalize encL hs = H at *
      generalize (n : Int) = nn at *
      simp [bd_ok, lf_some, cl_ok, a_ret, a_op, a_un, a_test, a_and, a_or, a_not, a_andV, a_orV, a_notV, a_if, a_sif, a_nil, a_cons, a_star, a_list, a_tup, a_sized, a_call, a_built, a_seq, a_set, a_own, a_sret, a_next, a_isi, a_slice, a_part, a_nopart, a_range, a_seqS, a_varP, a_par2, a_xp, a_xo, a_xn, a_asg, a_make, a_chg, a_ixO, a_lenO, a_cntO, items_lst, items_tup, sizeOk, boolD, cmpD, slOf, intOf_int, len_encL, ans_rt, a_fn, List.replicate, x0, si, ng]
    rw [a_seq, a_asg, h, bd_ok]
    rfl
  rw [q6]
  have t5 : mTest (mOp (cmpD ltI) (mBuilt lenD (mCons (mVar 5) (mNil))) (mRet (.int 2))) (E5 T A k n ks hs) = some (.ok (E5 T A k n ks hs, decide (ks.length < 2))) := by
    have l : lenD [.list (encL ks)] = some (.int (ks.length : Int)) := by simp [lenD, len_encL]
    have g : ltI (ks.length : Int) 2 = decide (ks.length < 2) := by
      unfold ltI
      rw [Bool.eq_iff_iff, decide_eq_true_iff, decide_eq_true_iff]
      omega
    generalize decide (ks.length < 2) = b at *
    generalize (ks.length : Int) = z at *
    simp [bd_ok, lf_some, cl_ok, a_ret, a_op, a_un, a_test, a_and, a_or, a_not, a_andV, a_orV, a_notV, a_if, a_sif, a_nil, a_cons, a_star, a_list, a_tup, a_sized, a_call, a_built, a_seq, a_set, a_own, a_sret, a_next, a_isi, a_slice, a_part, a_nopart, a_range, a_seqS, a_varP, a_par2, a_xp, a_xo, a_xn, a_asg, a_make, a_chg, a_ixO, a_lenO, a_cntO, items_lst, items_tup, sizeOk, boolD, cmpD, slOf, intOf_int, len_encL, ans_rt, a_fn, List.replicate, l, g]
  unfold g_law_due_5
  rw [seq_ifb t5]
  congr 1
  unfold g_law_due_4
  rw [seq_ifb (desc_test hk lk)]
  congr 1
  unfold g_law_due_3
  rw [seq_ifb (ends_test kp)]
  congr 1
  unfold g_law_due_2
  rw [seq_ifb (inner_test lk)]
  congr 1
  have l2 : lenD [.list (encL ks)] = some (.int (ks.length : Int)) := by simp [lenD, len_encL]
  have l3 : lenD [.list (encL hs)] = some (.int (hs.length : Int)) := by simp [lenD, len_encL]
  have ad : addD (.int (n : Int)) (.int (ks.length : Int)) = some (.int ((n : Int) + ks.length)) := rfl
  have sb : subD (.int ((n : Int) + ks.length)) (.int 1) = some (.int ((n : Int) + ks.length - 1)) := rfl
  have ee : eqD (.int (hs.length : Int)) (.int ((n : Int) + ks.length - 1)) = some (.bool (decide (hs.length + 1 = n + ks.length))) := by
    show some (PyData.bool ((hs.length : Int) == ((n : Int) + ks.length - 1))) = _
    congr 2
    rw [Bool.eq_iff_iff, beq_iff_eq, decide_eq_true_iff]
    omega
  show _ = bif decide (hs.length + 1 = n + ks.length) then some (Except.ok (PyData.tuple [.int (n : Int), .list (encL ks), .list (encL hs)])) else some (.ok (.str "handles"))
  generalize decide (hs.length + 1 = n + ks.length) = b at *
  generalize (n : Int) + ks.length - 1 = y2 at *
  generalize (n : Int) + ks.length = y1 at *
  generalize (ks.length : Int) = z1 at *
  generalize (hs.length : Int) = z2 at *
  cases b <;> simp [bd_ok, lf_some, cl_ok, a_ret, a_op, a_un, a_test, a_and, a_or, a_not, a_andV, a_orV, a_notV, a_if, a_sif, a_nil, a_cons, a_star, a_list, a_tup, a_sized, a_call, a_built, a_seq, a_set, a_own, a_sret, a_next, a_isi, a_slice, a_part, a_nopart, a_range, a_seqS, a_varP, a_par2, a_xp, a_xo, a_xn, a_asg, a_make, a_chg, a_ixO, a_lenO, a_cntO, items_lst, items_tup, sizeOk, boolD, cmpD, slOf, intOf_int, len_encL, ans_rt, a_fn, List.replicate, g_law_due_1, l2, l3, ad, sb, ee]
end
end HB
namespace HB
open PySem L2
open TL (tl numL)
section
variable {n : Nat} {ks hs : List Rat}
theorem am_encL {B : Nat} {qs : List Rat} (hk : ∀ q ∈ qs, Ht B q) (hB : 2 * B ≤ 9000) (h2 : 2 ≤ qs.length) (hl : qs.length ≤ 1000) : F_are_marks [.int n, .list (encL qs)] = some (.ok (.bool (amB n qs))) := by
  have h := am_gen (n := n) (B := B) (L := qs.map fun q => (enc q, q)) (fun p hp => by obtain ⟨q, _, rfl⟩ := List.mem_map.mp hp; exact vl_enc q) (fun p hp => by obtain ⟨q, hq, rfl⟩ := List.mem_map.mp hp; exact hk q hq) hB (by simpa using h2) (by simpa using hl)
  simp only [List.map_map, Function.comp_def, List.map_id'] at h
  exact h
/-- what Bend makes of the values -/
theorem init_out (hk : ∀ q ∈ ks, Ht 9 q) (hh : ∀ q ∈ hs, Ht 9 q) (hn : n < 1000) (lk : ks.length ≤ 100) (lh : hs.length ≤ 100) :
    (ks.length < 2 ∨ amB n ks = false → I_Bend [.int n, .list (encL ks), .list (encL hs)] = some (.error (badB "marks"))) ∧
    (2 ≤ ks.length → amB n ks = true → hs.length + 1 ≠ n + ks.length → I_Bend [.int n, .list (encL ks), .list (encL hs)] = some (.error (badB "handles"))) ∧
    (2 ≤ ks.length → amB n ks = true → hs.length + 1 = n + ks.length → I_Bend [.int n, .list (encL ks), .list (encL hs)] = some (.ok [(.str "degree", .int n), (.str "marks", .tuple (encL ks)), (.str "handles", .tuple (encL hs)), (.str "text", .str (textB n ks hs))])) := by
  refine ⟨fun h => ?_, fun h2 am ne => ?_, fun h2 am e => ?_⟩
  · by_cases l2 : ks.length < 2
    · exact bad_marks (am_short (by simp [encL]; omega))
    · rcases h with h | h
      · exact absurd h l2
      · refine bad_marks ?_
        rw [am_encL hk (by decide) (by omega) (by omega), h]
  · have a := am_encL (n := n) hk (by decide) h2 (by omega)
    rw [am] at a
    refine bad_many (m := ks.length) a (by simp [lenD, len_encL]) (by simp [encL]; omega) (fun x hx => ?_) (by simpa [encL] using ne)
    obtain ⟨q, _, rfl⟩ := List.mem_map.mp hx
    exact is_value_enc q
  · exact bend_init (am_good h2 am) (.inl rfl) (.inl rfl) hk hh (by decide) hn (by omega) (by omega) e
end
theorem Ht.up {A B : Nat} {q : Rat} (h : Ht A q) (le : A ≤ B) : Ht B q := ⟨Nat.lt_of_lt_of_le h.1 (Nat.pow_le_pow_right (by decide) le), Nat.lt_of_lt_of_le h.2 (Nat.pow_le_pow_right (by decide) le)⟩
section
variable {L : List Str} {v : Str → Option Rat}
theorem heard_due (W : Ws L v) : ∃ z : Str, PyData.strOk z = true ∧ F_law_heard_v10 [.str (Txt.join " " L)] = some (.ok (.str z)) ∧
    (F_law_due [.str (Txt.join " " L)] = some (.ok (.str z)) ∨ ∃ n ks hs, F_law_due [.str (Txt.join " " L)] = some (.ok (toldD n ks hs)) ∧ F_law_text [toldD n ks hs] = some (.ok (.str z))) := by
  have txt : F_rows_in [.str (Txt.join " " L)] = some (.ok .none) → F_law_due [.str (Txt.join " " L)] = some (.ok (.str "text")) → ∃ z : Str, PyData.strOk z = true ∧ F_law_heard_v10 [.str (Txt.join " " L)] = some (.ok (.str z)) ∧
      (F_law_due [.str (Txt.join " " L)] = some (.ok (.str z)) ∨ ∃ n ks hs, F_law_due [.str (Txt.join " " L)] = some (.ok (toldD n ks hs)) ∧ F_law_text [toldD n ks hs] = some (.ok (.str z))) := fun h1 h2 =>
    ⟨"text", by decide +kernel, hears_text (read_none h1), .inl h2⟩
  cases f : fB L with
  | false =>
    have rb := rows_begin W
    have db := due_begin W
    rw [f] at rb db
    exact txt rb db
  | true =>
    rcases values_both W f with ⟨h1, h2⟩ | ⟨n, ks, hs, A, k, bd, k0, h0, lk, lh, hr, hd⟩
    · exact txt h1 h2
    · have hn : n < 1000 := by
        have h := (bd (n : Rat) List.mem_cons_self).1
        rw [Rat.num_natCast, Int.natAbs_natCast] at h
        exact Nat.lt_of_lt_of_le h (by decide)
      have hk : ∀ q ∈ ks, Ht 9 q := fun q hq => bd q (List.mem_cons_of_mem _ (List.mem_append_left _ hq))
      have hh : ∀ q ∈ hs, Ht 9 q := fun q hq => bd q (List.mem_cons_of_mem _ (List.mem_append_right _ hq))
      have rr := read_rows hr
      rw [due_out hk k0 lk lh hn] at hd
      obtain ⟨o1, o2, o3⟩ := init_out (n := n) hk hh hn lk lh
      have marks : (ks.length < 2 ∨ amB n ks = false) → F_law_due [.str (Txt.join " " L)] = some (.ok (.str "marks")) → ∃ z : Str, PyData.strOk z = true ∧ F_law_heard_v10 [.str (Txt.join " " L)] = some (.ok (.str z)) ∧
          (F_law_due [.str (Txt.join " " L)] = some (.ok (.str z)) ∨ ∃ n ks hs, F_law_due [.str (Txt.join " " L)] = some (.ok (toldD n ks hs)) ∧ F_law_text [toldD n ks hs] = some (.ok (.str z))) := fun h1 h2 => by
        rw [o1 h1] at rr
        exact ⟨"marks", by decide +kernel, hears_word rr, .inl h2⟩
      by_cases l2 : ks.length < 2
      · rw [decide_eq_true l2] at hd
        exact marks (.inl l2) hd
      · rw [decide_eq_false l2] at hd
        have am := am_law (n := n) (ks := ks) (by omega)
        cases b1 : descB ks with
        | true =>
          rw [b1] at am hd
          exact marks (.inr am) hd
        | false =>
          rw [b1] at am hd
          cases b2 : endsB ks with
          | true =>
            rw [b2] at am hd
            exact marks (.inr am) hd
          | false =>
            rw [b2] at am hd
            cases b3 : innB n ks with
            | true =>
              rw [b3] at am hd
              exact marks (.inr am) hd
            | false =>
              rw [b3] at am hd
              have am : amB n ks = true := am
              by_cases e : hs.length + 1 = n + ks.length
              · rw [decide_eq_true e] at hd
                rw [o3 (by omega) am e] at rr
                have rr' : F_Bend_read [fnD "Bend", .str (Txt.join " " L)] = some (.ok (bendD n ks hs (textB n ks hs))) := rr
                have k13 : ∀ q ∈ ks, Ht 13 q := fun q hq => (hk q hq).up (by decide)
                have h13 : ∀ q ∈ hs, Ht 13 q := fun q hq => (hh q hq).up (by decide)
                have so : F_Bend___str__ [bendD n ks hs (textB n ks hs)] = some (.ok (.str (textB n ks hs))) := by
                  have st := st_bend (n := n) (ks := ks) (hs := hs) (textB_len hn k13 h13 (by omega) (by omega)) []
                  have ob : isObj "Bend" "__str__" (bendD n ks hs (textB n ks hs)) = true := id rfl
                  unfold stO at st
                  rw [ob] at st
                  simp only at st
                  revert st
                  cases F_Bend___str__ [bendD n ks hs (textB n ks hs)] with
                  | none => intro st; cases st
                  | some r =>
                    cases r with
                    | error x => intro st; cases st
                    | ok d =>
                      cases d with
                      | str z =>
                        intro st
                        cases st
                        rfl
                      | _ => intro st; cases st
                exact ⟨textB n ks hs, textB_ok n ks hs, hears_bend rr' (id rfl) so, .inr ⟨n, ks, hs, hd, law_text k13 h13 hn (by omega) (by omega)⟩⟩
              · rw [decide_eq_false e] at hd
                rw [o2 (by omega) am e] at rr
                exact ⟨"handles", by decide +kernel, hears_word rr, .inl hd⟩
end
/-- what is no text is none -/
theorem rows_other {d : D} (h : isStrT d = some false) : F_rows_in [d] = some (.ok .none) := by
  have e0 : F_rows_in [d] = ans (g_rows_in [.pur d, .no, .no, .no, .no, .no]) := rfl
  have s1 : slD none (some 1) (.list []) = some (.list []) := rfl
  have ne : neD (.list []) (.list [.str "bend"]) = some (.bool true) := by kernel_rfl
  have q : g_rows_in [.pur d, .no, .no, .no, .no, .no] = g_rows_in_6 [.pur d, .pur (.list []), .no, .no, .no, .no] := by
    simp [bd_ok, lf_some, cl_ok, a_ret, a_op, a_un, a_test, a_and, a_or, a_not, a_andV, a_orV, a_notV, a_if, a_sif, a_nil, a_cons, a_star, a_list, a_tup, a_sized, a_call, a_built, a_seq, a_set, a_own, a_sret, a_next, a_isi, a_slice, a_part, a_nopart, a_range, a_seqS, a_varP, a_par2, a_xp, a_xo, a_xn, a_asg, a_make, a_chg, a_ixO, a_lenO, a_cntO, items_lst, items_tup, sizeOk, boolD, cmpD, slOf, intOf_int, len_encL, ans_rt, a_fn, List.replicate, g_rows_in, h]
  rw [e0, q]
  simp [bd_ok, lf_some, cl_ok, a_ret, a_op, a_un, a_test, a_and, a_or, a_not, a_andV, a_orV, a_notV, a_if, a_sif, a_nil, a_cons, a_star, a_list, a_tup, a_sized, a_call, a_built, a_seq, a_set, a_own, a_sret, a_next, a_isi, a_slice, a_part, a_nopart, a_range, a_seqS, a_varP, a_par2, a_xp, a_xo, a_xn, a_asg, a_make, a_chg, a_ixO, a_lenO, a_cntO, items_lst, items_tup, sizeOk, boolD, cmpD, slOf, intOf_int, len_encL, ans_rt, a_fn, List.replicate, g_rows_in_6, s1, ne]
def Wk (w : Str) : Prop := ∃ o, Wrd w o
theorem ws_of {L : List Str} (h : ∀ w ∈ L, Wk w) (ne : L ≠ []) (le : L.length ≤ 100) : ∃ v, Ws L v := by
  obtain ⟨v, hv⟩ := Classical.axiomOfChoice (r := fun (w : Str) (o : Option Rat) => w ∈ L → Wrd w o) fun w => by
    rcases Classical.em (w ∈ L) with c | c
    · obtain ⟨o, ho⟩ := h w c
      exact ⟨o, fun _ => ho⟩
    · exact ⟨none, fun c2 => absurd c2 c⟩
  exact ⟨v, hv, ne, le⟩
theorem kn_none {w : Str} (ok : PyData.strOk w = true) (fr : 32 ∉ tl w) (ln : w.length ≤ 100) (f1 : F_value_in [.str w] = some (.ok .none)) (f2 : F_law_read_value [.str w] = some (.ok .none)) (f3 : F_law_number_v1 [.str w] = some (.ok .none)) : Wk w :=
  ⟨none, ok, fr, ln, f1, f2, f3, fun q e => by cases e⟩
theorem kn_text {q : Rat} {w : Str} (h : Ht 9 q) (e : textR q = w) : Wk w := ⟨some q, e ▸ wrd_text h⟩
theorem kn_bend : Wk "bend" := kn_none (by decide +kernel) (by decide +kernel) (by decide +kernel) (by kernel_rfl) (by kernel_rfl) (by kernel_rfl)
theorem kn_marks : Wk "marks" := kn_none (by decide +kernel) (by decide +kernel) (by decide +kernel) (by kernel_rfl) (by kernel_rfl) (by kernel_rfl)
theorem kn_handles : Wk "handles" := kn_none (by decide +kernel) (by decide +kernel) (by decide +kernel) (by kernel_rfl) (by kernel_rfl) (by kernel_rfl)
def oddW : List Str := ["0/5", "", "0", "1", "2", "-0", "01", "2/4", "3/1", "1/0", "-1/2", "5", "marks", "handles", "+1", "x", "1234567890", "--1", "1/2/3"]
theorem kn_odd : ∀ w ∈ oddW, Wk w := by
  intro w hw
  simp only [oddW, List.mem_cons, List.not_mem_nil, or_false] at hw
  rcases hw with e | e | e | e | e | e | e | e | e | e | e | e | e | e | e | e | e | e | e <;> subst e
  · exact kn_none (by decide +kernel) (by decide +kernel) (by decide +kernel) (by kernel_rfl) (by kernel_rfl) (by kernel_rfl)
  · exact kn_none (by decide +kernel) (by decide +kernel) (by decide +kernel) (by kernel_rfl) (by kernel_rfl) (by kernel_rfl)
  · exact kn_text (q := 0) ⟨by decide, by decide⟩ (by kernel_rfl)
  · exact kn_text (q := 1) ⟨by decide, by decide⟩ (by kernel_rfl)
  · exact kn_text (q := 2) ⟨by decide, by decide⟩ (by kernel_rfl)
  · exact kn_none (by decide +kernel) (by decide +kernel) (by decide +kernel) (by kernel_rfl) (by kernel_rfl) (by kernel_rfl)
  · exact kn_none (by decide +kernel) (by decide +kernel) (by decide +kernel) (by kernel_rfl) (by kernel_rfl) (by kernel_rfl)
  · exact kn_none (by decide +kernel) (by decide +kernel) (by decide +kernel) (by kernel_rfl) (by kernel_rfl) (by kernel_rfl)
  · exact kn_none (by decide +kernel) (by decide +kernel) (by decide +kernel) (by kernel_rfl) (by kernel_rfl) (by kernel_rfl)
  · exact kn_none (by decide +kernel) (by decide +kernel) (by decide +kernel) (by kernel_rfl) (by kernel_rfl) (by kernel_rfl)
  · exact kn_text (q := mkRat (-1) 2) ⟨by decide +kernel, by decide +kernel⟩ (by kernel_rfl)
  · exact kn_text (q := 5) ⟨by decide, by decide⟩ (by kernel_rfl)
  · exact kn_marks
  · exact kn_handles
  · exact kn_none (by decide +kernel) (by decide +kernel) (by decide +kernel) (by kernel_rfl) (by kernel_rfl) (by kernel_rfl)
  · exact kn_none (by decide +kernel) (by decide +kernel) (by decide +kernel) (by kernel_rfl) (by kernel_rfl) (by kernel_rfl)
  · exact kn_none (by decide +kernel) (by decide +kernel) (by decide +kernel) (by kernel_rfl) (by kernel_rfl) (by kernel_rfl)
  · exact kn_none (by decide +kernel) (by decide +kernel) (by decide +kernel) (by kernel_rfl) (by kernel_rfl) (by kernel_rfl)
  · exact kn_none (by decide +kernel) (by decide +kernel) (by decide +kernel) (by kernel_rfl) (by kernel_rfl) (by kernel_rfl)
end HB
namespace HB
open PySem L2
abbrev E05 (s0 s1 : Sl) (b : List D) (s3 s4 s5 s6 s7 s8 s9 s10 : Sl) : En := [s0, s1, .own b, s3, s4, s5, s6, s7, s8, s9, s10]
theorem seq_do {s b : Mo Fl} {ρ ρ1 : En} (h : s ρ = some (.ok (ρ1, .nx))) : sSeq s b ρ = b ρ1 := by
  rw [a_seq, h, bd_ok]
theorem and_f {a b : Mo Bool} {ρ : En} (h : a ρ = some (.ok (ρ, false))) : mAnd a b ρ = some (.ok (ρ, false)) := by
  rw [a_and, h, bd_ok]
  rfl
theorem and_t {a b : Mo Bool} {ρ : En} (h : a ρ = some (.ok (ρ, true))) : mAnd a b ρ = b ρ := by
  rw [a_and, h, bd_ok]
  rfl
theorem wS_app (A B : List Str) : wS (A ++ B) = wS A ++ wS B := by unfold wS; rw [List.map_append]
theorem wS_len (A : List Str) : (wS A).length = A.length := by unfold wS; rw [List.length_map]
/-- one change of the words -/
theorem more_ok {b : List D} {mm : Int} {L : List Str} (hb : Bx b mm) (hm : mm < 100000000) (kn : ∀ w ∈ L, Wk w) (ne : L ≠ []) (le : L.length ≤ 90) (x0 x1 x3 x4 x6 x7 x8 x9 x10 : Sl) :
    ∃ b' L' y8 y9 y10, g_law_6 (E05 x0 x1 b x3 x4 (.pur (.list (wS L))) x6 x7 x8 x9 x10) = some (.ok (E05 x0 x1 b' x3 x4 (.pur (.list (wS L'))) x6 x7 y8 y9 y10, .nx)) ∧ Bx b' (mm + 10) ∧ (∀ w ∈ L', Wk w) ∧ L' ≠ [] ∧ L'.length ≤ L.length + 1 := by
  have lp : 0 < L.length := List.length_pos_iff.mpr ne
  obtain ⟨b1, at_, h1, h2, h3, h4⟩ := take_run (n := (L.length : Int)) hb (by omega) (by omega) (by omega)
  obtain ⟨i, rfl⟩ : ∃ i : Nat, at_ = i := ⟨at_.toNat, by omega⟩
  have h1' : F_law_take b [.int (L.length : Int)] = some (.ok (b1, .int (i : Int))) := h1
  obtain ⟨b2, fo, k1, k2, k3, k4⟩ := take_run (n := 3) h2 (by omega) (by decide) (by decide)
  obtain ⟨f, rfl⟩ : ∃ f : Nat, fo = f := ⟨fo.toNat, by omega⟩
  have k1' : F_law_take b1 [.int 3] = some (.ok (b2, .int (f : Int))) := k1
  obtain ⟨b3, it, p1, p2, p3⟩ := pick_run (items := wS oddW) k2 (by omega) (by decide) (by decide)
  have p1' : F_law_pick b2 [.list (wS oddW)] = some (.ok (b3, it)) := p1
  obtain ⟨w, ow, rfl⟩ : ∃ w ∈ oddW, it = .str w := by
    obtain ⟨w, h1, h2⟩ := List.mem_map.mp p3
    exact ⟨w, h1, h2.symm⟩
  have kw := kn_odd w ow
  obtain ⟨L1, hL1⟩ : ∃ L1, L1 = L.take i := ⟨_, rfl⟩
  obtain ⟨md, hmd⟩ : ∃ md, md = if 0 < f then [w] else [] := ⟨_, rfl⟩
  obtain ⟨L2, hL2⟩ : ∃ L2, L2 = L.drop (i + if f < 2 then 1 else 0) := ⟨_, rfl⟩
  obtain ⟨X, hX⟩ : ∃ X, X = L1 ++ md ++ L2 := ⟨_, rfl⟩
  have knX : ∀ x ∈ X, Wk x := fun x hx => by
    rw [hX] at hx
    rcases List.mem_append.mp hx with hy | hx
    · rcases List.mem_append.mp hy with hx | hx
      · rw [hL1] at hx
        exact kn x (List.mem_of_mem_take hx)
      · rw [hmd] at hx
        split at hx
        · rw [List.mem_singleton.mp hx]; exact kw
        · cases hx
    · rw [hL2] at hx
      exact kn x (List.mem_of_mem_drop hx)
  have l1 : L1.length ≤ i := by rw [hL1, List.length_take]; omega
  have lm : md.length ≤ 1 := by rw [hmd]; split <;> simp
  have l2 : L2.length ≤ L.length - i := by rw [hL2, List.length_drop]; omega
  have lX : X.length ≤ L.length + 1 := by rw [hX, List.length_append, List.length_append]; omega
  refine ⟨b3, if X = [] then ["bend"] else X, .pur (.str w), .pur (.int (i : Int)), .pur (.int (f : Int)), ?_, p2.mono (by omega), ?_, ?_, ?_⟩
  · have len : lenD [.list (wS L)] = some (.int (L.length : Int)) := by
      show some (PyData.int ((wS L).length : Int)) = _
      rw [wS_len]
    have q6 : g_law_6 (E05 x0 x1 b x3 x4 (.pur (.list (wS L))) x6 x7 x8 x9 x10) = g_law_5 (E05 x0 x1 b2 x3 x4 (.pur (.list (wS L))) x6 x7 x8 (.pur (.int (i : Int))) (.pur (.int (f : Int)))) := by
      unfold g_law_6
      refine seq_do ?_
      generalize wS L = A at *
      generalize (L.length : Int) = z at *
      generalize (i : Int) = ii at *
      generalize (f : Int) = ff at *
      simp [bd_ok, lf_some, cl_ok, a_ret, a_op, a_un, a_test, a_and, a_or, a_not, a_andV, a_orV, a_notV, a_if, a_sif, a_nil, a_cons, a_star, a_list, a_tup, a_sized, a_call, a_built, a_seq, a_set, a_own, a_sret, a_next, a_isi, a_slice, a_part, a_nopart, a_range, a_seqS, a_varP, a_par2, a_xp, a_xo, a_xn, a_asg, a_make, a_chg, a_ixO, a_lenO, a_cntO, items_lst, items_tup, sizeOk, boolD, cmpD, slOf, intOf_int, len_encL, ans_rt, a_fn, List.replicate, a_callX, atL, Sl.ls, Sl.put, len, h1', k1']
    have q5 : g_law_5 (E05 x0 x1 b2 x3 x4 (.pur (.list (wS L))) x6 x7 x8 (.pur (.int (i : Int))) (.pur (.int (f : Int)))) = g_law_4 (E05 x0 x1 b2 x3 x4 (.pur (.list (wS L))) x6 x7 (.pur (.list (wS (oddW.take 4)))) (.pur (.int (i : Int))) (.pur (.int (f : Int)))) := by
      have e : wS (oddW.take 4) = [.str "0/5", .str "", .str "0", .str "1"] := rfl
      rw [e]
      unfold g_law_5
      refine seq_do ?_
      simp [bd_ok, lf_some, cl_ok, a_ret, a_op, a_un, a_test, a_and, a_or, a_not, a_andV, a_orV, a_notV, a_if, a_sif, a_nil, a_cons, a_star, a_list, a_tup, a_sized, a_call, a_built, a_seq, a_set, a_own, a_sret, a_next, a_isi, a_slice, a_part, a_nopart, a_range, a_seqS, a_varP, a_par2, a_xp, a_xo, a_xn, a_asg, a_make, a_chg, a_ixO, a_lenO, a_cntO, items_lst, items_tup, sizeOk, boolD, cmpD, slOf, intOf_int, len_encL, ans_rt, a_fn, List.replicate]
    have q4 : g_law_4 (E05 x0 x1 b2 x3 x4 (.pur (.list (wS L))) x6 x7 (.pur (.list (wS (oddW.take 4)))) (.pur (.int (i : Int))) (.pur (.int (f : Int)))) = g_law_3 (E05 x0 x1 b2 x3 x4 (.pur (.list (wS L))) x6 x7 (.pur (.list (wS (oddW.take 16)))) (.pur (.int (i : Int))) (.pur (.int (f : Int)))) := by
      have ad : addD (.list (wS (oddW.take 4))) (.list [.str "2", .str "-0", .str "01", .str "2/4", .str "3/1", .str "1/0", .str "-1/2", .str "5", .str "marks", .str "handles", .str "+1", .str "x"]) = some (.list (wS (oddW.take 16))) := by kernel_rfl
      unfold g_law_4
      refine seq_do ?_
      generalize wS (oddW.take 4) = A4 at *
      generalize wS (oddW.take 16) = A16 at *
      simp [bd_ok, lf_some, cl_ok, a_ret, a_op, a_un, a_test, a_and, a_or, a_not, a_andV, a_orV, a_notV, a_if, a_sif, a_nil, a_cons, a_star, a_list, a_tup, a_sized, a_call, a_built, a_seq, a_set, a_own, a_sret, a_next, a_isi, a_slice, a_part, a_nopart, a_range, a_seqS, a_varP, a_par2, a_xp, a_xo, a_xn, a_asg, a_make, a_chg, a_ixO, a_lenO, a_cntO, items_lst, items_tup, sizeOk, boolD, cmpD, slOf, intOf_int, len_encL, ans_rt, a_fn, List.replicate, ad]
    have q3 : g_law_3 (E05 x0 x1 b2 x3 x4 (.pur (.list (wS L))) x6 x7 (.pur (.list (wS (oddW.take 16)))) (.pur (.int (i : Int))) (.pur (.int (f : Int)))) = g_law_2 (E05 x0 x1 b3 x3 x4 (.pur (.list (wS L))) x6 x7 (.pur (.str w)) (.pur (.int (i : Int))) (.pur (.int (f : Int)))) := by
      have ad : addD (.list (wS (oddW.take 16))) (.list [.str "1234567890", .str "--1", .str "1/2/3"]) = some (.list (wS oddW)) := by kernel_rfl
      unfold g_law_3
      refine seq_do ?_
      generalize wS (oddW.take 16) = A16 at *
      generalize wS oddW = A at *
      simp [bd_ok, lf_some, cl_ok, a_ret, a_op, a_un, a_test, a_and, a_or, a_not, a_andV, a_orV, a_notV, a_if, a_sif, a_nil, a_cons, a_star, a_list, a_tup, a_sized, a_call, a_built, a_seq, a_set, a_own, a_sret, a_next, a_isi, a_slice, a_part, a_nopart, a_range, a_seqS, a_varP, a_par2, a_xp, a_xo, a_xn, a_asg, a_make, a_chg, a_ixO, a_lenO, a_cntO, items_lst, items_tup, sizeOk, boolD, cmpD, slOf, intOf_int, len_encL, ans_rt, a_fn, List.replicate, a_callX, atL, Sl.ls, Sl.put, ad, p1']
    have q2 : g_law_2 (E05 x0 x1 b3 x3 x4 (.pur (.list (wS L))) x6 x7 (.pur (.str w)) (.pur (.int (i : Int))) (.pur (.int (f : Int)))) = g_law_1 (E05 x0 x1 b3 x3 x4 (.pur (.list (wS X))) x6 x7 (.pur (.str w)) (.pur (.int (i : Int))) (.pur (.int (f : Int)))) := by
      have s1 : slD none (some (i : Int)) (.list (wS L)) = some (.list (wS L1)) := by
        rw [(sl_take (xs := wS L) (z := (i : Int)) (n := i) rfl).1, hL1]
        unfold wS
        rw [List.map_take]
      have gf : gtI (f : Int) 0 = decide (0 < f) := by
        unfold gtI
        rw [Bool.eq_iff_iff, decide_eq_true_iff, decide_eq_true_iff]
        omega
      have lf : ltI (f : Int) 2 = decide (f < 2) := by
        unfold ltI
        rw [Bool.eq_iff_iff, decide_eq_true_iff, decide_eq_true_iff]
        omega
      have it : intD [.bool (decide (f < 2))] = some (.int (if decide (f < 2) then 1 else 0)) := rfl
      have ai : addD (.int (i : Int)) (.int (if decide (f < 2) then 1 else 0)) = some (.int ((i + if f < 2 then 1 else 0 : Nat) : Int)) := by
        show some (PyData.int ((i : Int) + (if decide (f < 2) then 1 else 0))) = _
        congr 2
        by_cases c : f < 2 <;> simp [c]
      have s2 : slD (some ((i + if f < 2 then 1 else 0 : Nat) : Int)) none (.list (wS L)) = some (.list (wS L2)) := by
        rw [sl_rest, hL2]
        unfold wS
        rw [List.map_drop]
      have mid : mIf (mTest (mOp (cmpD gtI) (mVar 10) (mRet (.int 0)))) (mList (mSized (mCons (mVar 8) (mNil)))) (mList (mSized (mNil))) (E05 x0 x1 b3 x3 x4 (.pur (.list (wS L))) x6 x7 (.pur (.str w)) (.pur (.int (i : Int))) (.pur (.int (f : Int)))) =
          some (.ok (E05 x0 x1 b3 x3 x4 (.pur (.list (wS L))) x6 x7 (.pur (.str w)) (.pur (.int (i : Int))) (.pur (.int (f : Int))), .list (wS md))) := by
        rw [hmd]
        by_cases c : 0 < f
        · rw [if_pos c]
          rw [decide_eq_true c] at gf
          show _ = some (Except.ok (_, PyData.list [.str w]))
          simp [bd_ok, lf_some, cl_ok, a_ret, a_op, a_un, a_test, a_and, a_or, a_not, a_andV, a_orV, a_notV, a_if, a_sif, a_nil, a_cons, a_star, a_list, a_tup, a_sized, a_call, a_built, a_seq, a_set, a_own, a_sret, a_next, a_isi, a_slice, a_part, a_nopart, a_range, a_seqS, a_varP, a_par2, a_xp, a_xo, a_xn, a_asg, a_make, a_chg, a_ixO, a_lenO, a_cntO, items_lst, items_tup, sizeOk, boolD, cmpD, slOf, intOf_int, len_encL, ans_rt, a_fn, List.replicate, gf]
        · rw [if_neg c]
          rw [decide_eq_false c] at gf
          show _ = some (Except.ok (_, PyData.list []))
          simp [bd_ok, lf_some, cl_ok, a_ret, a_op, a_un, a_test, a_and, a_or, a_not, a_andV, a_orV, a_notV, a_if, a_sif, a_nil, a_cons, a_star, a_list, a_tup, a_sized, a_call, a_built, a_seq, a_set, a_own, a_sret, a_next, a_isi, a_slice, a_part, a_nopart, a_range, a_seqS, a_varP, a_par2, a_xp, a_xo, a_xn, a_asg, a_make, a_chg, a_ixO, a_lenO, a_cntO, items_lst, items_tup, sizeOk, boolD, cmpD, slOf, intOf_int, len_encL, ans_rt, a_fn, List.replicate, gf]
      have a1 : addD (.list (wS L1)) (.list (wS md)) = some (.list (wS (L1 ++ md))) := by
        rw [wS_app]
        exact if_pos (by rw [wS_len, wS_len]; omega)
      have a2 : addD (.list (wS (L1 ++ md))) (.list (wS L2)) = some (.list (wS X)) := by
        rw [hX, wS_app (L1 ++ md)]
        exact if_pos (by rw [wS_len, wS_len, List.length_append]; omega)
      have first : mOp addD (mSlice (mVar 5) (mNoPart) (mPart (mVar 9))) (mIf (mTest (mOp (cmpD gtI) (mVar 10) (mRet (.int 0)))) (mList (mSized (mCons (mVar 8) (mNil)))) (mList (mSized (mNil)))) (E05 x0 x1 b3 x3 x4 (.pur (.list (wS L))) x6 x7 (.pur (.str w)) (.pur (.int (i : Int))) (.pur (.int (f : Int)))) =
          some (.ok (E05 x0 x1 b3 x3 x4 (.pur (.list (wS L))) x6 x7 (.pur (.str w)) (.pur (.int (i : Int))) (.pur (.int (f : Int))), .list (wS (L1 ++ md)))) := by
        have sl : mSlice (mVar 5) (mNoPart) (mPart (mVar 9)) (E05 x0 x1 b3 x3 x4 (.pur (.list (wS L))) x6 x7 (.pur (.str w)) (.pur (.int (i : Int))) (.pur (.int (f : Int)))) = some (.ok (E05 x0 x1 b3 x3 x4 (.pur (.list (wS L))) x6 x7 (.pur (.str w)) (.pur (.int (i : Int))) (.pur (.int (f : Int))), .list (wS L1))) := by
          simp [bd_ok, lf_some, cl_ok, a_ret, a_op, a_un, a_test, a_and, a_or, a_not, a_andV, a_orV, a_notV, a_if, a_sif, a_nil, a_cons, a_star, a_list, a_tup, a_sized, a_call, a_built, a_seq, a_set, a_own, a_sret, a_next, a_isi, a_slice, a_part, a_nopart, a_range, a_seqS, a_varP, a_par2, a_xp, a_xo, a_xn, a_asg, a_make, a_chg, a_ixO, a_lenO, a_cntO, items_lst, items_tup, sizeOk, boolD, cmpD, slOf, intOf_int, len_encL, ans_rt, a_fn, List.replicate, s1]
        rw [a_op, sl, bd_ok, mid, bd_ok, a1, lf_some]
      have last : mSlice (mVar 5) (mPart (mOp addD (mVar 9) (mBuilt intD (mCons (mOp (cmpD ltI) (mVar 10) (mRet (.int 2))) (mNil))))) (mNoPart) (E05 x0 x1 b3 x3 x4 (.pur (.list (wS L))) x6 x7 (.pur (.str w)) (.pur (.int (i : Int))) (.pur (.int (f : Int)))) =
          some (.ok (E05 x0 x1 b3 x3 x4 (.pur (.list (wS L))) x6 x7 (.pur (.str w)) (.pur (.int (i : Int))) (.pur (.int (f : Int))), .list (wS L2))) := by
        generalize hk : (i + if f < 2 then 1 else 0 : Nat) = kk at *
        generalize hb2 : decide (f < 2) = b2' at *
        have ai2 : ∀ y : D, intD [.bool b2'] = some y → addD (.int (i : Int)) y = some (.int (kk : Int)) := fun y hy => by
          rw [it] at hy
          cases hy
          exact ai
        cases b2'
        · have i0 : intD [.bool false] = some (.int 0) := rfl
          have aj := ai2 _ i0
          simp [bd_ok, lf_some, cl_ok, a_ret, a_op, a_un, a_test, a_and, a_or, a_not, a_andV, a_orV, a_notV, a_if, a_sif, a_nil, a_cons, a_star, a_list, a_tup, a_sized, a_call, a_built, a_seq, a_set, a_own, a_sret, a_next, a_isi, a_slice, a_part, a_nopart, a_range, a_seqS, a_varP, a_par2, a_xp, a_xo, a_xn, a_asg, a_make, a_chg, a_ixO, a_lenO, a_cntO, items_lst, items_tup, sizeOk, boolD, cmpD, slOf, intOf_int, len_encL, ans_rt, a_fn, List.replicate, lf, i0, aj, s2]
        · have i0 : intD [.bool true] = some (.int 1) := rfl
          have aj := ai2 _ i0
          simp [bd_ok, lf_some, cl_ok, a_ret, a_op, a_un, a_test, a_and, a_or, a_not, a_andV, a_orV, a_notV, a_if, a_sif, a_nil, a_cons, a_star, a_list, a_tup, a_sized, a_call, a_built, a_seq, a_set, a_own, a_sret, a_next, a_isi, a_slice, a_part, a_nopart, a_range, a_seqS, a_varP, a_par2, a_xp, a_xo, a_xn, a_asg, a_make, a_chg, a_ixO, a_lenO, a_cntO, items_lst, items_tup, sizeOk, boolD, cmpD, slOf, intOf_int, len_encL, ans_rt, a_fn, List.replicate, lf, i0, aj, s2]
      unfold g_law_2
      refine seq_do ?_
      rw [a_set, a_op, first, bd_ok, last, bd_ok, a2, lf_some, bd_ok]
      rfl
    have q1 : g_law_1 (E05 x0 x1 b3 x3 x4 (.pur (.list (wS X))) x6 x7 (.pur (.str w)) (.pur (.int (i : Int))) (.pur (.int (f : Int)))) = some (.ok (E05 x0 x1 b3 x3 x4 (.pur (.list (wS (if X = [] then ["bend"] else X)))) x6 x7 (.pur (.str w)) (.pur (.int (i : Int))) (.pur (.int (f : Int))), .nx)) := by
      have okX : ∀ x ∈ X, PyData.strOk x = true := fun x hx => let ⟨_, W⟩ := knX x hx; W.ok
      have nX := ne_strsL (A := X) (B := []) okX (fun x hx => by cases hx)
      have nX' : neD (.list (wS X)) (.list []) = some (.bool (!decide (X = []))) := nX
      by_cases c : X = []
      · rw [if_pos c]
        rw [decide_eq_true c] at nX'
        show _ = some (Except.ok (E05 x0 x1 b3 x3 x4 (.pur (.list [.str "bend"])) x6 x7 (.pur (.str w)) (.pur (.int (i : Int))) (.pur (.int (f : Int))), Fl.nx))
        generalize wS X = A at *
        simp [bd_ok, lf_some, cl_ok, a_ret, a_op, a_un, a_test, a_and, a_or, a_not, a_andV, a_orV, a_notV, a_if, a_sif, a_nil, a_cons, a_star, a_list, a_tup, a_sized, a_call, a_built, a_seq, a_set, a_own, a_sret, a_next, a_isi, a_slice, a_part, a_nopart, a_range, a_seqS, a_varP, a_par2, a_xp, a_xo, a_xn, a_asg, a_make, a_chg, a_ixO, a_lenO, a_cntO, items_lst, items_tup, sizeOk, boolD, cmpD, slOf, intOf_int, len_encL, ans_rt, a_fn, List.replicate, g_law_1, nX']
      · rw [if_neg c]
        rw [decide_eq_false c] at nX'
        generalize wS X = A at *
        simp [bd_ok, lf_some, cl_ok, a_ret, a_op, a_un, a_test, a_and, a_or, a_not, a_andV, a_orV, a_notV, a_if, a_sif, a_nil, a_cons, a_star, a_list, a_tup, a_sized, a_call, a_built, a_seq, a_set, a_own, a_sret, a_next, a_isi, a_slice, a_part, a_nopart, a_range, a_seqS, a_varP, a_par2, a_xp, a_xo, a_xn, a_asg, a_make, a_chg, a_ixO, a_lenO, a_cntO, items_lst, items_tup, sizeOk, boolD, cmpD, slOf, intOf_int, len_encL, ans_rt, a_fn, List.replicate, g_law_1, nX']
    rw [q6, q5, q4, q3, q2, q1]
  · split
    · intro x hx
      rw [List.mem_singleton.mp hx]
      exact kn_bend
    · exact knX
  · split
    · simp
    · assumption
  · split
    · simp
    · exact lX
theorem turn_ok {ns : List Int} {b : List D} {mm : Int} {x1 x3 x4 x5 x6 x7 x8 x9 x10 : Sl} (hb : Bx b mm) (hm : mm < 10000000) :
    ∃ b' y5 y6 y7 y8 y9 y10, g_law_11 (E05 (.pur (scr ns)) x1 b x3 x4 x5 x6 x7 x8 x9 x10) = some (.ok (E05 (.pur (scr ns)) x1 b' x3 x4 y5 y6 y7 y8 y9 y10, .nx)) ∧ Bx b' (mm + 2000) := by
  obtain ⟨b1, n, ks, hs, d1, c1, hn, g, hk, hl, hc, hh⟩ := drawn_run (dg := 3) (most := 3) hb (by omega) (by decide) (by decide) (by decide)
  have d1' : F_law_drawn b [.int 3, .int 3] = some (.ok (b1, toldD n ks hs)) := d1
  have k9 : ∀ q ∈ ks, Ht 9 q := fun q hq => (hk q hq).ht (by decide) (by decide)
  have h9 : ∀ q ∈ hs, Ht 9 q := fun q hq => (hh q hq).bd.ht (by decide) (by decide)
  have l2 := g.len
  have tx := law_text (n := n) (fun q hq => (k9 q hq).up (by decide)) (fun q hq => (h9 q hq).up (by decide)) (by omega) (by omega) (by omega)
  have tl := textB_len (n := n) (by omega) (fun q hq => (k9 q hq).up (B := 13) (by decide)) (fun q hq => (h9 q hq).up (B := 13) (by decide)) (by omega) (by omega)
  have sp : splitD (textB n ks hs) (.str " ") = some (.list (wS (wordsB n ks hs))) := by
    have bl : Nat.beq (" " : Str).length 0 = false := by decide +kernel
    unfold splitD
    simp only [bl, if_pos tl, split_textB]
    rfl
  have kn : ∀ w ∈ wordsB n ks hs, Wk w := by
    intro w hw
    unfold wordsB at hw
    simp only [List.mem_append, List.mem_cons, List.mem_map, List.not_mem_nil, or_false] at hw
    rcases hw with (rfl | rfl | rfl) | ⟨q, hq, rfl⟩ | rfl | ⟨q, hq, rfl⟩
    · exact kn_bend
    · exact kn_text (q := (n : Rat)) ⟨by rw [Rat.num_natCast, Int.natAbs_natCast]; exact Nat.lt_of_le_of_lt hn (by decide), by rw [Rat.den_natCast]; decide⟩ (textR_nat n)
    · exact kn_marks
    · exact ⟨_, wrd_text (k9 q hq)⟩
    · exact kn_handles
    · exact ⟨_, wrd_text (h9 q hq)⟩
  have wl : (wordsB n ks hs).length ≤ 30 := by
    unfold wordsB
    simp
    omega
  have wn : wordsB n ks hs ≠ [] := by unfold wordsB; simp
  obtain ⟨b2, rr, k1, k2, k3, k4⟩ := take_run (n := 2) c1 (by omega) (by decide) (by decide)
  obtain ⟨m, rfl⟩ : ∃ m : Nat, rr = m := ⟨rr.toNat, by omega⟩
  have k1' : F_law_take b1 [.int 2] = some (.ok (b2, .int (m : Int))) := k1
  have q11 : g_law_11 (E05 (.pur (scr ns)) x1 b x3 x4 x5 x6 x7 x8 x9 x10) = g_law_10 (E05 (.pur (scr ns)) x1 b1 x3 x4 (.pur (.list (wS (wordsB n ks hs)))) x6 x7 x8 x9 x10) := by
    unfold g_law_11
    refine seq_do ?_
    generalize wS (wordsB n ks hs) = A at *
    generalize toldD n ks hs = T0 at *
    generalize textB n ks hs = z at *
    simp [bd_ok, lf_some, cl_ok, a_ret, a_op, a_un, a_test, a_and, a_or, a_not, a_andV, a_orV, a_notV, a_if, a_sif, a_nil, a_cons, a_star, a_list, a_tup, a_sized, a_call, a_built, a_seq, a_set, a_own, a_sret, a_next, a_isi, a_slice, a_part, a_nopart, a_range, a_seqS, a_varP, a_par2, a_xp, a_xo, a_xn, a_asg, a_make, a_chg, a_ixO, a_lenO, a_cntO, items_lst, items_tup, sizeOk, boolD, cmpD, slOf, intOf_int, len_encL, ans_rt, a_fn, List.replicate, a_m1g, a_callX, atL, Sl.ls, Sl.put, d1', tx, sp]
  have a1 : addD (.int 1) (.int (m : Int)) = some (.int ((m + 1 : Nat) : Int)) := by
    show some (PyData.int (1 + (m : Int))) = _
    congr 2
    omega
  have rg : range1D [.int ((m + 1 : Nat) : Int)] = _ := range1_of (z := ((m + 1 : Nat) : Int)) (m + 1) rfl (by omega)
  have src : mRange range1D (mCons (mOp addD (mRet (.int 1)) (mCallX F_law_take 2 (mCons (mRet (.int 2)) (mNil)))) (mNil)) (E05 (.pur (scr ns)) x1 b1 x3 x4 (.pur (.list (wS (wordsB n ks hs)))) x6 x7 x8 x9 x10) = some (.ok (E05 (.pur (scr ns)) x1 b2 x3 x4 (.pur (.list (wS (wordsB n ks hs)))) x6 x7 x8 x9 x10, constS ((List.range' 0 (m + 1)).map natD))) := by
    rw [← List.range_eq_range']
    have h : mOp addD (mRet (.int 1)) (mCallX F_law_take 2 (mCons (mRet (.int 2)) (mNil))) (E05 (.pur (scr ns)) x1 b1 x3 x4 (.pur (.list (wS (wordsB n ks hs)))) x6 x7 x8 x9 x10) = some (.ok (E05 (.pur (scr ns)) x1 b2 x3 x4 (.pur (.list (wS (wordsB n ks hs)))) x6 x7 x8 x9 x10, .int ((m + 1 : Nat) : Int))) := by
      generalize ((m + 1 : Nat) : Int) = z at *
      simp [bd_ok, lf_some, cl_ok, a_ret, a_op, a_un, a_test, a_and, a_or, a_not, a_andV, a_orV, a_notV, a_if, a_sif, a_nil, a_cons, a_star, a_list, a_tup, a_sized, a_call, a_built, a_seq, a_set, a_own, a_sret, a_next, a_isi, a_slice, a_part, a_nopart, a_range, a_seqS, a_varP, a_par2, a_xp, a_xo, a_xn, a_asg, a_make, a_chg, a_ixO, a_lenO, a_cntO, items_lst, items_tup, sizeOk, boolD, cmpD, slOf, intOf_int, len_encL, ans_rt, a_fn, List.replicate, a_callX, atL, Sl.ls, Sl.put, k1', a1]
    rw [a_range, a_cons, h, bd_ok, a_nil, bd_ok, bd_ok, rg]
    rfl
  obtain ⟨ρ', f1, b3, L, y6, y8, y9, y10, f2, f3, f4, f5, f6⟩ := for_range (v := 6) (body := g_law_6) 0 (m + 1) (fun i ρ => ∃ b L y6 y8 y9 y10, ρ = E05 (.pur (scr ns)) x1 b x3 x4 (.pur (.list (wS L))) y6 x7 y8 y9 y10 ∧ Bx b (mm + 1001 + 10 * i) ∧ (∀ w ∈ L, Wk w) ∧ L ≠ [] ∧ L.length ≤ 30 + i) src ⟨b2, _, _, _, _, _, rfl, k2.mono (by omega), kn, wn, by omega⟩ fun i ρ _ hi ⟨b, L, y6, y8, y9, y10, hρ, hB, hK, hN, hL⟩ => by
    subst hρ
    obtain ⟨b', L', z8, z9, z10, t1, t2, t3, t4, t5⟩ := more_ok hB (by omega) hK hN (by omega) (.pur (scr ns)) x1 x3 x4 (.pur (natD i)) x7 y8 y9 y10
    exact ⟨_, .nx, t1, .inl rfl, b', L', _, z8, z9, z10, rfl, t2.mono (by omega), t3, t4, by omega⟩
  subst f2
  obtain ⟨v, W⟩ := ws_of f4 f5 (by omega)
  obtain ⟨z, zo, hz, hd⟩ := heard_due W
  have jn := W.joined
  have nz := ne_str zo
  have st : isStrT (.str z) = some true := rfl
  refine ⟨b3, .pur (.list (wS L)), y6, .pur (.str z), y8, y9, y10, ?_, f3.mono (by omega)⟩
  rw [q11]
  unfold g_law_10
  rw [seq_do f1]
  generalize Txt.join " " L = T at *
  generalize wS L = A at *
  have q7 : g_law_7 (E05 (.pur (scr ns)) x1 b3 x3 x4 (.pur (.list A)) y6 (.pur (.str z)) y8 y9 y10) = some (.ok (E05 (.pur (scr ns)) x1 b3 x3 x4 (.pur (.list A)) y6 (.pur (.str z)) y8 y9 y10, .nx)) := by
    simp [bd_ok, lf_some, cl_ok, a_ret, a_op, a_un, a_test, a_and, a_or, a_not, a_andV, a_orV, a_notV, a_if, a_sif, a_nil, a_cons, a_star, a_list, a_tup, a_sized, a_call, a_built, a_seq, a_set, a_own, a_sret, a_next, a_isi, a_slice, a_part, a_nopart, a_range, a_seqS, a_varP, a_par2, a_xp, a_xo, a_xn, a_asg, a_make, a_chg, a_ixO, a_lenO, a_cntO, items_lst, items_tup, sizeOk, boolD, cmpD, slOf, intOf_int, len_encL, ans_rt, a_fn, List.replicate, g_law_7, a_m1g, jn, hz, nz]
  rcases hd with hd | ⟨n', ks', hs', hd, ht⟩
  · have q9 : g_law_9 (E05 (.pur (scr ns)) x1 b3 x3 x4 (.pur (.list A)) y6 x7 y8 y9 y10) = g_law_8 (E05 (.pur (scr ns)) x1 b3 x3 x4 (.pur (.list A)) y6 (.pur (.str z)) y8 y9 y10) := by
      unfold g_law_9
      refine seq_do ?_
      simp [bd_ok, lf_some, cl_ok, a_ret, a_op, a_un, a_test, a_and, a_or, a_not, a_andV, a_orV, a_notV, a_if, a_sif, a_nil, a_cons, a_star, a_list, a_tup, a_sized, a_call, a_built, a_seq, a_set, a_own, a_sret, a_next, a_isi, a_slice, a_part, a_nopart, a_range, a_seqS, a_varP, a_par2, a_xp, a_xo, a_xn, a_asg, a_make, a_chg, a_ixO, a_lenO, a_cntO, items_lst, items_tup, sizeOk, boolD, cmpD, slOf, intOf_int, len_encL, ans_rt, a_fn, List.replicate, a_m1g, jn, hd]
    have q8 : g_law_8 (E05 (.pur (scr ns)) x1 b3 x3 x4 (.pur (.list A)) y6 (.pur (.str z)) y8 y9 y10) = g_law_7 (E05 (.pur (scr ns)) x1 b3 x3 x4 (.pur (.list A)) y6 (.pur (.str z)) y8 y9 y10) := by
      unfold g_law_8
      refine seq_do ?_
      simp [bd_ok, lf_some, cl_ok, a_ret, a_op, a_un, a_test, a_and, a_or, a_not, a_andV, a_orV, a_notV, a_if, a_sif, a_nil, a_cons, a_star, a_list, a_tup, a_sized, a_call, a_built, a_seq, a_set, a_own, a_sret, a_next, a_isi, a_slice, a_part, a_nopart, a_range, a_seqS, a_varP, a_par2, a_xp, a_xo, a_xn, a_asg, a_make, a_chg, a_ixO, a_lenO, a_cntO, items_lst, items_tup, sizeOk, boolD, cmpD, slOf, intOf_int, len_encL, ans_rt, a_fn, List.replicate, st]
    rw [q9, q8, q7]
  · have st2 : isStrT (toldD n' ks' hs') = some false := rfl
    generalize toldD n' ks' hs' = T0 at *
    have q9 : g_law_9 (E05 (.pur (scr ns)) x1 b3 x3 x4 (.pur (.list A)) y6 x7 y8 y9 y10) = g_law_8 (E05 (.pur (scr ns)) x1 b3 x3 x4 (.pur (.list A)) y6 (.pur T0) y8 y9 y10) := by
      unfold g_law_9
      refine seq_do ?_
      simp [bd_ok, lf_some, cl_ok, a_ret, a_op, a_un, a_test, a_and, a_or, a_not, a_andV, a_orV, a_notV, a_if, a_sif, a_nil, a_cons, a_star, a_list, a_tup, a_sized, a_call, a_built, a_seq, a_set, a_own, a_sret, a_next, a_isi, a_slice, a_part, a_nopart, a_range, a_seqS, a_varP, a_par2, a_xp, a_xo, a_xn, a_asg, a_make, a_chg, a_ixO, a_lenO, a_cntO, items_lst, items_tup, sizeOk, boolD, cmpD, slOf, intOf_int, len_encL, ans_rt, a_fn, List.replicate, a_m1g, jn, hd]
    have q8 : g_law_8 (E05 (.pur (scr ns)) x1 b3 x3 x4 (.pur (.list A)) y6 (.pur T0) y8 y9 y10) = g_law_7 (E05 (.pur (scr ns)) x1 b3 x3 x4 (.pur (.list A)) y6 (.pur (.str z)) y8 y9 y10) := by
      unfold g_law_8
      refine seq_do ?_
      simp [bd_ok, lf_some, cl_ok, a_ret, a_op, a_un, a_test, a_and, a_or, a_not, a_andV, a_orV, a_notV, a_if, a_sif, a_nil, a_cons, a_star, a_list, a_tup, a_sized, a_call, a_built, a_seq, a_set, a_own, a_sret, a_next, a_isi, a_slice, a_part, a_nopart, a_range, a_seqS, a_varP, a_par2, a_xp, a_xo, a_xn, a_asg, a_make, a_chg, a_ixO, a_lenO, a_cntO, items_lst, items_tup, sizeOk, boolD, cmpD, slOf, intOf_int, len_encL, ans_rt, a_fn, List.replicate, st2, ht]
    rw [q9, q8, q7]
def some5 : List D := [.none, .str "", .str "1", .bool true, .bool false, .list [], .list [.int 1, .int 2], .tuple [.int 2, .int 4], .tuple [.int 1, .int 0], .tuple [.int 1, .int (-2)], .tuple [.int 1, .int 2, .int 3], .str "bend", .tuple [.tuple [.int 1, .int 2]]]
def deep5 : D := .list [.tuple [.list [.tuple [.list [.tuple [.list [.tuple [], .int 1]], .int 1]], .int 1]], .int 1]
def any5 : List D := some5 ++ [deep5, .tuple [.none, .int 1], .tuple [.int 1, .bool true]]
theorem any_run {b : List D} {m : Int} (hb : Bx b m) (hm : m < 1000000000) : ∃ b' d, F_law_value b [] = some (.ok (b', d)) ∧ Bx b' (m + 1) ∧ d ∈ any5 := by
  obtain ⟨b', d, pk, hb', dm⟩ := pick_run (items := any5) hb (by omega) (by decide) (by decide)
  have pk' : F_law_pick b [.list any5] = some (.ok (b', d)) := pk
  refine ⟨b', d, ?_, hb', dm⟩
  have e0 : ∀ b : List D, g_law_value [.box b, .no, .no, .no] = g_law_value_2 [.box b, .pur (.list some5), .pur deep5, .pur (.int 6)] := fun b => by kernel_rfl
  have ad : addD (.list some5) (.list [deep5, .tuple [.none, .int 1], .tuple [.int 1, .bool true]]) = some (.list any5) := by kernel_rfl
  have e1 : g_law_value_2 [.box b, .pur (.list some5), .pur deep5, .pur (.int 6)] = some (.ok ([.box b', .pur (.list some5), .pur deep5, .pur (.int 6)], .rt d)) := by
    simp [bd_ok, lf_some, cl_ok, a_ret, a_op, a_un, a_test, a_and, a_or, a_not, a_andV, a_orV, a_notV, a_if, a_sif, a_nil, a_cons, a_star, a_list, a_tup, a_sized, a_call, a_built, a_seq, a_set, a_own, a_sret, a_next, a_isi, a_slice, a_part, a_nopart, a_range, a_seqS, a_varP, a_par2, a_xp, a_xo, a_xn, a_asg, a_make, a_chg, a_ixO, a_lenO, a_cntO, items_lst, items_tup, sizeOk, boolD, cmpD, slOf, intOf_int, len_encL, ans_rt, a_fn, List.replicate, g_law_value_2, a_callX, atL, Sl.ls, Sl.put, ad, pk']
  have e2 : F_law_value b [] = runX 3 g_law_value b [] := rfl
  rw [e2]
  unfold runX
  rw [show (Sl.box b :: (([] : List D).map Sl.pur ++ List.replicate (3 - ([] : List D).length) Sl.no)) = [.box b, .no, .no, .no] from rfl, e0, e1]
  rfl
theorem any_kind : ∀ d ∈ any5, isStrT d = some true ∨ isStrT d = some false := by
  intro d hd
  simp only [any5, some5, List.cons_append, List.nil_append, List.mem_cons, List.not_mem_nil, or_false] at hd
  rcases hd with e | e | e | e | e | e | e | e | e | e | e | e | e | e | e | e <;> subst e <;> first | exact .inl rfl | exact .inr rfl
theorem thing_ok {d : D} {s0 s1 s3 s5 s6 s7 s8 s9 s10 : Sl} {b : List D} (hd : d ∈ any5) : g_law_12 (E05 s0 s1 b s3 (.pur d) s5 s6 s7 s8 s9 s10) = some (.ok (E05 s0 s1 b s3 (.pur d) s5 s6 s7 s8 s9 s10, .nx)) := by
  unfold g_law_12
  rcases any_kind d hd with k | k
  · have t : mNot (mTest (mIsi isStrT (mVar 4))) (E05 s0 s1 b s3 (.pur d) s5 s6 s7 s8 s9 s10) = some (.ok (E05 s0 s1 b s3 (.pur d) s5 s6 s7 s8 s9 s10, false)) := by
      simp [bd_ok, lf_some, cl_ok, a_ret, a_op, a_un, a_test, a_and, a_or, a_not, a_andV, a_orV, a_notV, a_if, a_sif, a_nil, a_cons, a_star, a_list, a_tup, a_sized, a_call, a_built, a_seq, a_set, a_own, a_sret, a_next, a_isi, a_slice, a_part, a_nopart, a_range, a_seqS, a_varP, a_par2, a_xp, a_xo, a_xn, a_asg, a_make, a_chg, a_ixO, a_lenO, a_cntO, items_lst, items_tup, sizeOk, boolD, cmpD, slOf, intOf_int, len_encL, ans_rt, a_fn, List.replicate, k]
    rw [a_sif, and_f t, bd_ok]
    simp only [cond_false, a_next]
  · have t : mNot (mTest (mIsi isStrT (mVar 4))) (E05 s0 s1 b s3 (.pur d) s5 s6 s7 s8 s9 s10) = some (.ok (E05 s0 s1 b s3 (.pur d) s5 s6 s7 s8 s9 s10, true)) := by
      simp [bd_ok, lf_some, cl_ok, a_ret, a_op, a_un, a_test, a_and, a_or, a_not, a_andV, a_orV, a_notV, a_if, a_sif, a_nil, a_cons, a_star, a_list, a_tup, a_sized, a_call, a_built, a_seq, a_set, a_own, a_sret, a_next, a_isi, a_slice, a_part, a_nopart, a_range, a_seqS, a_varP, a_par2, a_xp, a_xo, a_xn, a_asg, a_make, a_chg, a_ixO, a_lenO, a_cntO, items_lst, items_tup, sizeOk, boolD, cmpD, slOf, intOf_int, len_encL, ans_rt, a_fn, List.replicate, k]
    have h := hears_text (read_none (rows_other k))
    have ne : neD (.str "text") (.str "text") = some (.bool false) := by kernel_rfl
    have t2 : mTest (mOp neD (mCall F_law_heard_v10 (mCons (mVar 4) (mNil))) (mRet (.str "text"))) (E05 s0 s1 b s3 (.pur d) s5 s6 s7 s8 s9 s10) = some (.ok (E05 s0 s1 b s3 (.pur d) s5 s6 s7 s8 s9 s10, false)) := by
      simp [bd_ok, lf_some, cl_ok, a_ret, a_op, a_un, a_test, a_and, a_or, a_not, a_andV, a_orV, a_notV, a_if, a_sif, a_nil, a_cons, a_star, a_list, a_tup, a_sized, a_call, a_built, a_seq, a_set, a_own, a_sret, a_next, a_isi, a_slice, a_part, a_nopart, a_range, a_seqS, a_varP, a_par2, a_xp, a_xo, a_xn, a_asg, a_make, a_chg, a_ixO, a_lenO, a_cntO, items_lst, items_tup, sizeOk, boolD, cmpD, slOf, intOf_int, len_encL, ans_rt, a_fn, List.replicate, h, ne]
    rw [a_sif, and_t t, t2, bd_ok]
    simp only [cond_false, a_next]
theorem cell_ok {ns : List Int} {k : Nat} (hk : k < 1000) {x2 x3 x4 x5 x6 x7 x8 x9 x10 : Sl} :
    ∃ y2 y3 y4 y5 y6 y7 y8 y9 y10, g_law_14 [.pur (scr ns), .pur (natD k), x2, x3, x4, x5, x6, x7, x8, x9, x10] = some (.ok ([.pur (scr ns), .pur (natD k), y2, y3, y4, y5, y6, y7, y8, y9, y10], .nx)) := by
  obtain ⟨b0, h0, q0⟩ := box_bx ns k 5 (by omega) (by omega) (by decide) (by decide)
  have h0' : F_law_box [scr ns, natD k, .int 5] = some (.ok b0) := h0
  have rg : range1D [.int 12] = _ := range1_of (z := 12) 12 rfl (by decide)
  have src : mRange range1D (mCons (mRet (.int 12)) (mNil)) (E05 (.pur (scr ns)) (.pur (natD k)) b0 x3 x4 x5 x6 x7 x8 x9 x10) = some (.ok (E05 (.pur (scr ns)) (.pur (natD k)) b0 x3 x4 x5 x6 x7 x8 x9 x10, constS ((List.range' 0 12).map natD))) := by
    rw [← List.range_eq_range', a_range, a_cons, a_ret, bd_ok, a_nil, bd_ok, bd_ok, rg]
    rfl
  obtain ⟨ρ', e1, b, y3, y5, y6, y7, y8, y9, y10, e2, e3⟩ := for_range (v := 3) (body := g_law_11) 0 12 (fun i ρ => ∃ b y3 y5 y6 y7 y8 y9 y10, ρ = E05 (.pur (scr ns)) (.pur (natD k)) b y3 x4 y5 y6 y7 y8 y9 y10 ∧ Bx b (2000 * i)) src ⟨b0, _, _, _, _, _, _, _, rfl, q0.mono (by omega)⟩ fun i ρ _ hi ⟨b, y3, y5, y6, y7, y8, y9, y10, hρ, hb⟩ => by
    subst hρ
    obtain ⟨b', z5, z6, z7, z8, z9, z10, t1, t3⟩ := turn_ok (ns := ns) (x1 := .pur (natD k)) (x3 := .pur (natD i)) (x4 := x4) (x5 := y5) (x6 := y6) (x7 := y7) (x8 := y8) (x9 := y9) (x10 := y10) hb (by omega)
    exact ⟨_, .nx, t1, .inl rfl, b', _, z5, z6, z7, z8, z9, z10, rfl, t3.mono (by omega)⟩
  subst e2
  obtain ⟨b', d, v1, v2, v3⟩ := any_run e3 (by omega)
  have q : sSet 4 (mCallX F_law_value 2 (mNil)) (E05 (.pur (scr ns)) (.pur (natD k)) b y3 x4 y5 y6 y7 y8 y9 y10) = some (.ok (E05 (.pur (scr ns)) (.pur (natD k)) b' y3 (.pur d) y5 y6 y7 y8 y9 y10, .nx)) := by
    simp [bd_ok, lf_some, cl_ok, a_ret, a_op, a_un, a_test, a_and, a_or, a_not, a_andV, a_orV, a_notV, a_if, a_sif, a_nil, a_cons, a_star, a_list, a_tup, a_sized, a_call, a_built, a_seq, a_set, a_own, a_sret, a_next, a_isi, a_slice, a_part, a_nopart, a_range, a_seqS, a_varP, a_par2, a_xp, a_xo, a_xn, a_asg, a_make, a_chg, a_ixO, a_lenO, a_cntO, items_lst, items_tup, sizeOk, boolD, cmpD, slOf, intOf_int, len_encL, ans_rt, a_fn, List.replicate, a_callX, atL, Sl.ls, Sl.put, v1]
  refine ⟨.own b', y3, .pur d, y5, y6, y7, y8, y9, y10, ?_⟩
  unfold g_law_14
  rw [a_seq, own_box (as := [scr ns, natD k, .int 5]) rfl h0', bd_ok]
  unfold g_law_13
  exact ((seq_do e1).trans (seq_do q)).trans (thing_ok v3)
theorem end_ok {ρ : En} : g_law_15 ρ = some (.ok (ρ, .rt (.bool true))) := by
  have h1 : F_law_heard_v10 [.str ""] = some (.ok (.str "text")) := by kernel_rfl
  have h2 : F_law_heard_v10 [.str "bend 0 marks 0 1 handles 1\n"] = some (.ok (.str "text")) := by kernel_rfl
  have e : eqD (.str "text") (.str "text") = some (.bool true) := by kernel_rfl
  simp [bd_ok, lf_some, cl_ok, a_ret, a_op, a_un, a_test, a_and, a_or, a_not, a_andV, a_orV, a_notV, a_if, a_sif, a_nil, a_cons, a_star, a_list, a_tup, a_sized, a_call, a_built, a_seq, a_set, a_own, a_sret, a_next, a_isi, a_slice, a_part, a_nopart, a_range, a_seqS, a_varP, a_par2, a_xp, a_xo, a_xn, a_asg, a_make, a_chg, a_ixO, a_lenO, a_cntO, items_lst, items_tup, sizeOk, boolD, cmpD, slOf, intOf_int, len_encL, ans_rt, a_fn, List.replicate, g_law_15, h1, h2, e]
theorem law_true (ns : List Int) (_ : ns.length ≤ 63) : isT (F_law [scr ns]) = true := by
  have hl := scr_len ns
  obtain ⟨K, hK, eK⟩ : ∃ K : Nat, K ≤ 3 ∧ mBuilt maxD (mCons (mRet (.int 1)) (mCons (mBuilt minD (mCons (mRet (.int 3)) (mCons (mBuilt lenD (mCons (mVar 0) (mNil))) (mNil)))) (mNil))) [.pur (scr ns), .no, .no, .no, .no, .no, .no, .no, .no, .no, .no] = some (.ok ([.pur (scr ns), .no, .no, .no, .no, .no, .no, .no, .no, .no, .no], .int K)) := by
    by_cases c1 : (ns.length : Int) < 3
    · by_cases c2 : (ns.length : Int) > 1
      · exact ⟨ns.length, by omega, by simp [bd_ok, lf_some, cl_ok, a_ret, a_op, a_un, a_test, a_and, a_or, a_not, a_andV, a_orV, a_notV, a_if, a_sif, a_nil, a_cons, a_star, a_list, a_tup, a_sized, a_call, a_built, a_seq, a_set, a_own, a_sret, a_next, a_isi, a_slice, a_part, a_nopart, a_range, a_seqS, a_varP, a_par2, a_xp, a_xo, a_xn, a_asg, a_make, a_chg, a_ixO, a_lenO, a_cntO, items_lst, items_tup, sizeOk, boolD, cmpD, slOf, intOf_int, len_encL, ans_rt, a_fn, List.replicate, hl, minD, maxD, c1, c2]⟩
      · exact ⟨1, by omega, by simp [bd_ok, lf_some, cl_ok, a_ret, a_op, a_un, a_test, a_and, a_or, a_not, a_andV, a_orV, a_notV, a_if, a_sif, a_nil, a_cons, a_star, a_list, a_tup, a_sized, a_call, a_built, a_seq, a_set, a_own, a_sret, a_next, a_isi, a_slice, a_part, a_nopart, a_range, a_seqS, a_varP, a_par2, a_xp, a_xo, a_xn, a_asg, a_make, a_chg, a_ixO, a_lenO, a_cntO, items_lst, items_tup, sizeOk, boolD, cmpD, slOf, intOf_int, len_encL, ans_rt, a_fn, List.replicate, hl, minD, maxD, c1, c2]⟩
    · exact ⟨3, by omega, by simp [bd_ok, lf_some, cl_ok, a_ret, a_op, a_un, a_test, a_and, a_or, a_not, a_andV, a_orV, a_notV, a_if, a_sif, a_nil, a_cons, a_star, a_list, a_tup, a_sized, a_call, a_built, a_seq, a_set, a_own, a_sret, a_next, a_isi, a_slice, a_part, a_nopart, a_range, a_seqS, a_varP, a_par2, a_xp, a_xo, a_xn, a_asg, a_make, a_chg, a_ixO, a_lenO, a_cntO, items_lst, items_tup, sizeOk, boolD, cmpD, slOf, intOf_int, len_encL, ans_rt, a_fn, List.replicate, hl, minD, maxD, c1]⟩
  have rg : range1D [.int (K : Int)] = _ := range1_of (z := K) K rfl (by omega)
  have src : mRange range1D (mCons (mBuilt maxD (mCons (mRet (.int 1)) (mCons (mBuilt minD (mCons (mRet (.int 3)) (mCons (mBuilt lenD (mCons (mVar 0) (mNil))) (mNil)))) (mNil)))) (mNil)) [.pur (scr ns), .no, .no, .no, .no, .no, .no, .no, .no, .no, .no] = some (.ok ([.pur (scr ns), .no, .no, .no, .no, .no, .no, .no, .no, .no, .no], constS ((List.range' 0 K).map natD))) := by
    rw [← List.range_eq_range', a_range, a_cons, eK, bd_ok, a_nil, bd_ok, bd_ok, rg]
    rfl
  obtain ⟨ρ', e1, y1, y2, y3, y4, y5, y6, y7, y8, y9, y10, e2⟩ := for_range (v := 1) (body := g_law_14) 0 K (fun i ρ => ∃ y1 y2 y3 y4 y5 y6 y7 y8 y9 y10, ρ = [.pur (scr ns), y1, y2, y3, y4, y5, y6, y7, y8, y9, y10]) src ⟨_, _, _, _, _, _, _, _, _, _, rfl⟩ fun i ρ _ hi ⟨y1, y2, y3, y4, y5, y6, y7, y8, y9, y10, hρ⟩ => by
    subst hρ
    obtain ⟨z2, z3, z4, z5, z6, z7, z8, z9, z10, t1⟩ := cell_ok (ns := ns) (k := i) (by omega) (x2 := y2) (x3 := y3) (x4 := y4) (x5 := y5) (x6 := y6) (x7 := y7) (x8 := y8) (x9 := y9) (x10 := y10)
    exact ⟨_, .nx, t1, .inl rfl, _, z2, z3, z4, z5, z6, z7, z8, z9, z10, rfl⟩
  subst e2
  have e0 : F_law [scr ns] = ans (g_law [.pur (scr ns), .no, .no, .no, .no, .no, .no, .no, .no, .no, .no]) := rfl
  rw [e0]
  unfold g_law
  rw [a_seq, e1, bd_ok]
  simp only [end_ok, ans_rt]
  rfl
end HB
namespace HB
open PySem L2
theorem sc_law_box : FnScope ["_law_script", "_law_k", "_law_own", "_law_cell", "_law_seed"] ["_law_script", "_law_k", "_law_own"] (defScope s_law_box) := ⟨rfl, rfl, rfl, by decide +kernel, rfl, by decide +kernel, by decide +kernel⟩
theorem ok_law_box {P : Program} {w : World} {K : PySem.W.Frag} {mg : Str → Option Value} {base : Heap} (T : Say K mg) : FnNE P w K mg base 1 "_law_box" 3 F_law_box := by
  obtain ⟨fd, F⟩ := T.d_law_box
  exact fn_okN F sc_law_box T.g_law_box (fun _ _ _ _ _ _ us hl => match us, hl with | [_, _, _], _ => rfl) fun cdv A outer s H E hr =>
    svn_cons (s_set (i := 3) (ev_op dop_add (ev_op dop_add (ev_op dop_mul (ev_int) (ev_var 1)) (ev_op dop_mul (ev_int) (ev_var 2))) (ev_int)) sc_law_box.nd)
    (svn_cons (s_if (et_cmp dop_lt (ev_var 1) (ev_callB dc_len (T.m_len) (by decide +kernel) (ea_cons (ev_var 0) (ea_nil))) (nomark _)) (ss_one (s_set (i := 3) (ev_callB dc_abs (T.m_abs) (by decide +kernel) (ea_cons (ev_ix (ev_var 0) (ev_var 1)) (ea_nil))) sc_law_box.nd)) (ss_one (s_if (et_cmp dop_gt (ev_callB dc_len (T.m_len) (by decide +kernel) (ea_cons (ev_var 0) (ea_nil))) (ev_int) (nomark _)) (ss_one (s_set (i := 3) (ev_op dop_add (ev_var 3) (ev_op dop_mul (ev_op dop_mod (ev_callTy dc_int (T.m_int) (by decide +kernel) (ea_cons (ev_callB dc_abs (T.m_abs) (by decide +kernel) (ea_cons (ev_ix (ev_var 0) (ev_op dop_mod (ev_callTy dc_int (T.m_int) (by decide +kernel) (ea_cons (ev_var 1) (ea_nil))) (ev_callB dc_len (T.m_len) (by decide +kernel) (ea_cons (ev_var 0) (ea_nil))))) (ea_nil))) (ea_nil))) (ev_int)) (ev_int))) sc_law_box.nd)) (ss_nil))))
    (svn_cons (s_set (i := 4) (ev_op dop_add (ev_op dop_mod (ev_callTy dc_int (T.m_int) (by decide +kernel) (ea_cons (ev_op dop_add (ev_op dop_mul (ev_op dop_mod (ev_callTy dc_int (T.m_int) (by decide +kernel) (ea_cons (ev_var 3) (ea_nil))) (ev_int)) (ev_int)) (ev_op dop_mul (ev_int) (ev_op dop_add (ev_var 1) (ev_op dop_mul (ev_int) (ev_var 2))))) (ea_nil))) (ev_int)) (ev_int)) sc_law_box.nd)
    (svn_ret (en_lst (ea_cons (ev_ix ((en_lst (ea_cons (ev_int) (ea_cons (ev_var 3) (ea_nil)))).ev) (ev_callTy dc_int (T.m_int) (by decide +kernel) (ea_cons (ev_cmp dop_ge (ev_var 3) (ev_op dop_pow (ev_int) (ev_int)) (nomark _)) (ea_nil)))) (ea_cons (ev_var 4) (ea_cons (ev_int) (ea_nil))))))))
theorem sc_law_fr : FnScope ["_law_top", "_law_bottom", "_law_sign", "_law_one", "_law_second"] ["_law_top", "_law_bottom"] (defScope s_law_fr) := ⟨rfl, rfl, rfl, by decide +kernel, rfl, by decide +kernel, by decide +kernel⟩
theorem ok_law_fr {P : Program} {w : World} {K : PySem.W.Frag} {mg : Str → Option Value} {base : Heap} (T : Say K mg) : FnE P w K mg base 1 "_law_fr" ["_law_top", "_law_bottom"] F_law_fr := by
  obtain ⟨fd, F⟩ := T.d_law_fr
  exact fn_ok F sc_law_fr T.g_law_fr (fun _ _ _ _ _ _ us hl => match us, hl with | [_, _], _ => rfl) fun cdv A outer s H E hr =>
    ss_cons (s_par2 (i := 3) (j := 4) rfl sc_law_fr.nd (ex_consP (ev_callB dc_abs (T.m_abs) (by decide +kernel) (ea_cons (ev_callTy dc_int (T.m_int) (by decide +kernel) (ea_cons (ev_var 0) (ea_nil))) (ea_nil))) (ex_consP (ev_callB dc_abs (T.m_abs) (by decide +kernel) (ea_cons (ev_callTy dc_int (T.m_int) (by decide +kernel) (ea_cons (ev_var 1) (ea_nil))) (ea_nil))) (ex_nil))))
    (ss_cons (s_while (fuelInt 4) pass_own (et_cmp dop_gt (ev_var 4) (ev_int) (nomark _)) (ss_one (s_par2 (i := 3) (j := 4) rfl sc_law_fr.nd (ex_consP (ev_var 4) (ex_consP (ev_op dop_mod (ev_var 3) (ev_var 4)) (ex_nil))))))
    (ss_cons (s_set (i := 2) (ev_if (et_cmp dop_gt (ev_var 1) (ev_int) (nomark _)) (ev_int) (ev_op dop_sub (ev_int) (ev_int))) sc_law_fr.nd)
    (ss_one (s_ret (ev_tup (ea_cons (ev_op dop_fdiv (ev_callTy dc_int (T.m_int) (by decide +kernel) (ea_cons (ev_op dop_mul (ev_var 2) (ev_var 0)) (ea_nil))) (ev_var 3)) (ea_cons (ev_op dop_fdiv (ev_callTy dc_int (T.m_int) (by decide +kernel) (ea_cons (ev_op dop_mul (ev_var 2) (ev_var 1)) (ea_nil))) (ev_var 3)) (ea_nil))))))))
theorem sc_law_add : FnScope ["_law_one", "_law_second"] ["_law_one", "_law_second"] (defScope s_law_add) := ⟨rfl, rfl, rfl, by decide +kernel, rfl, by decide +kernel, by decide +kernel⟩
theorem ok_law_add {P : Program} {w : World} {K : PySem.W.Frag} {mg : Str → Option Value} {base : Heap} (T : Say K mg) : FnE P w K mg base 2 "_law_add" ["_law_one", "_law_second"] F_law_add := by
  obtain ⟨fd, F⟩ := T.d_law_add
  exact fn_ok F sc_law_add T.g_law_add (fun _ _ _ _ _ _ us hl => match us, hl with | [_, _], _ => rfl) fun cdv A outer s H E hr =>
    ss_one (s_ret (ev_call (ok_law_fr T) (hr.mono (by decide)) pass_cx (ea_cons (ev_op dop_add (ev_op dop_mul (ev_ix (ev_var 0) (ev_int)) (ev_ix (ev_var 1) (ev_int))) (ev_op dop_mul (ev_ix (ev_var 1) (ev_int)) (ev_ix (ev_var 0) (ev_int)))) (ea_cons (ev_op dop_mul (ev_ix (ev_var 0) (ev_int)) (ev_ix (ev_var 1) (ev_int))) (ea_nil)))))
theorem sc_law_take : FnScope ["_law_box_here", "_law_bound", "_law_raw", "_law_wide", "_law_digit"] ["_law_box_here", "_law_bound"] (defScope s_law_take) := ⟨rfl, rfl, rfl, by decide +kernel, rfl, by decide +kernel, by decide +kernel⟩
theorem ok_law_take {P : Program} {w : World} {K : PySem.W.Frag} {mg : Str → Option Value} {base : Heap} (T : Say K mg) : FnXE P w K mg base 1 "_law_take" 1 F_law_take := by
  obtain ⟨fd, F⟩ := T.d_law_take
  exact FnXE.by (F := guardX 1 (runX 4 g_law_take)) (fn_okX F sc_law_take T.g_law_take (fun _ _ _ _ _ _ us hl => match us, hl with | [_, _], _ => rfl) fun cdv A outer s H E hr =>
    ss_cons (s_if (et_cmp dop_gt (ev_ixB (i := 0) (ev_int)) (ev_int) (nomark _)) (ss_cons (s_set (i := 4) (ev_op dop_mod (ev_callTy dc_int (T.m_int) (by decide +kernel) (ea_cons (ev_ixB (i := 0) (ev_int)) (ea_nil))) (ev_var 1)) sc_law_take.nd)
    (ss_cons (s_putB (i := 0) (ev_op dop_fdiv (ev_ixB (i := 0) (ev_int)) (ev_var 1)) (ev_int))
    (ss_one (s_ret (ev_var 4))))) (ss_nil))
    (ss_cons (s_putB (i := 0) (ev_op dop_add (ev_ixB (i := 0) (ev_int)) (ev_int)) (ev_int))
    (ss_cons (s_set (i := 2) (ev_op dop_mod (ev_callTy dc_int (T.m_int) (by decide +kernel) (ea_cons (ev_op dop_mul (ev_op dop_add (ev_ixB (i := 0) (ev_int)) (ev_op dop_mul (ev_int) (ev_ixB (i := 0) (ev_int)))) (ev_int)) (ea_nil))) (ev_int)) sc_law_take.nd)
    (ss_cons (s_putB (i := 0) (ev_op dop_add (ev_op dop_mod (ev_callTy dc_int (T.m_int) (by decide +kernel) (ea_cons (ev_op dop_add (ev_op dop_mul (ev_var 2) (ev_int)) (ev_int)) (ea_nil))) (ev_int)) (ev_int)) (ev_int))
    (ss_cons (s_if (et_cmp dop_lt (ev_var 1) (ev_op dop_pow (ev_int) (ev_int)) (nomark _)) (ss_one (s_ret (ev_op dop_mod (ev_callTy dc_int (T.m_int) (by decide +kernel) (ea_cons (ev_op dop_fdiv (ev_op dop_add (ev_op dop_mul (ev_var 2) (ev_int)) (ev_ixB (i := 0) (ev_int))) (ev_int)) (ea_nil))) (ev_var 1)))) (ss_nil))
    (ss_cons (s_set (i := 3) (ev_op dop_mul (ev_op dop_add (ev_op dop_mul (ev_var 2) (ev_int)) (ev_ixB (i := 0) (ev_int))) (ev_op dop_pow (ev_int) (ev_int))) sc_law_take.nd)
    (ss_one (s_ret (ev_op dop_mod (ev_callTy dc_int (T.m_int) (by decide +kernel) (ea_cons (ev_op dop_add (ev_op dop_add (ev_var 3) (ev_op dop_mul (ev_op dop_pow (ev_ixB (i := 0) (ev_int)) (ev_int)) (ev_int))) (ev_var 2)) (ea_nil))) (ev_var 1)))))))))) mir_law_take
theorem sc_law_pick : FnScope ["_law_box_here", "_law_items"] ["_law_box_here", "_law_items"] (defScope s_law_pick) := ⟨rfl, rfl, rfl, by decide +kernel, rfl, by decide +kernel, by decide +kernel⟩
theorem ok_law_pick {P : Program} {w : World} {K : PySem.W.Frag} {mg : Str → Option Value} {base : Heap} (T : Say K mg) : FnXE P w K mg base 2 "_law_pick" 1 F_law_pick := by
  obtain ⟨fd, F⟩ := T.d_law_pick
  exact fn_okX F sc_law_pick T.g_law_pick (fun _ _ _ _ _ _ us hl => match us, hl with | [_, _], _ => rfl) fun cdv A outer s H E hr =>
    ss_one (s_ret (ev_ix (ev_var 1) (ev_callX (i := 0) (ok_law_take T) (hr.mono (by decide)) pass_cx (ea_cons (ev_callB dc_len (T.m_len) (by decide +kernel) (ea_cons (ev_var 1) (ea_nil))) (ea_nil)))))
theorem sc_law_marks : FnScope ["_law_box_here", "_law_degree", "_law_most", "_law_found", "_law_turn", "_law_step", "_law_same_one"] ["_law_box_here", "_law_degree", "_law_most"] (defScope s_law_marks) := ⟨rfl, rfl, rfl, by decide +kernel, rfl, by decide +kernel, by decide +kernel⟩
theorem ok_law_marks {P : Program} {w : World} {K : PySem.W.Frag} {mg : Str → Option Value} {base : Heap} (T : Say K mg) : FnXE P w K mg base 3 "_law_marks" 2 F_law_marks := by
  obtain ⟨fd, F⟩ := T.d_law_marks
  exact fn_okX F sc_law_marks T.g_law_marks (fun _ _ _ _ _ _ us hl => match us, hl with | [_, _, _], _ => rfl) fun cdv A outer s H E hr =>
    ss_cons (s_own (i := 3) (en_lst (ea_cons (ev_callX (i := 0) (ok_law_pick T) (hr.mono (by decide)) pass_cx (ea_cons ((en_lst (ea_cons (ev_tup (ea_cons (ev_int) (ea_cons (ev_int) (ea_nil)))) (ea_cons (ev_tup (ea_cons (ev_int) (ea_cons (ev_int) (ea_nil)))) (ea_cons (ev_tup (ea_cons (ev_int) (ea_cons (ev_int) (ea_nil)))) (ea_cons (ev_tup (ea_cons (ev_op dop_sub (ev_int) (ev_int)) (ea_cons (ev_int) (ea_nil)))) (ea_nil)))))).ev) (ea_nil))) (ea_nil))) sc_law_marks.nd)
    (ss_cons (s_for pass_own rfl (iv_range1 (T.m_range) (ea_cons (ev_callX (i := 0) (ok_law_take T) (hr.mono (by decide)) pass_cx (ea_cons (ev_op dop_sub (ev_var 2) (ev_int)) (ea_nil))) (ea_nil))) const_range1 (gv_name (i := 4) sc_law_marks.nd) (ss_cons (s_set (i := 5) (ev_callX (i := 0) (ok_law_pick T) (hr.mono (by decide)) pass_cx (ea_cons ((en_lst (ea_cons (ev_tup (ea_cons (ev_int) (ea_cons (ev_int) (ea_nil)))) (ea_cons (ev_tup (ea_cons (ev_int) (ea_cons (ev_int) (ea_nil)))) (ea_cons (ev_tup (ea_cons (ev_int) (ea_cons (ev_int) (ea_nil)))) (ea_cons (ev_tup (ea_cons (ev_int) (ea_cons (ev_int) (ea_nil)))) (ea_nil)))))).ev) (ea_nil))) sc_law_marks.nd)
    (ss_cons (s_set (i := 6) (ev_and (ev_cmp dop_gt (ev_lenO (i := 3) (T.m_len)) (ev_int) (nomark _)) (ev_and (ev_cmp dop_lt (ev_cntO (i := 3) (ev_ixO (i := 3) (ev_neg (ev_int))) (hu65 hr)) (ev_var 1) (nomark _)) (ev_one (ev_cmp (dop_eq hr.units) (ev_callX (i := 0) (ok_law_take T) (hr.mono (by decide)) pass_cx (ea_cons (ev_int) (ea_nil))) (ev_int) (nomark _))))) sc_law_marks.nd)
    (ss_one (s_if (et_cmp dop_gt (ev_var 1) (ev_int) (nomark _)) (ss_one (s_app (i := 3) (ea_cons (ev_if (et_val (ev_var 6)) (ev_ixO (i := 3) (ev_neg (ev_int))) (ev_call (ok_law_add T) (hr.mono (by decide)) pass_cx (ea_cons (ev_ixO (i := 3) (ev_neg (ev_int))) (ea_cons (ev_var 5) (ea_nil))))) (ea_nil)))) (ss_nil))))))
    (ss_one (s_ret (ev_op dop_add (ev_var 3) ((en_lst (ea_cons (ev_call (ok_law_add T) (hr.mono (by decide)) pass_cx (ea_cons (ev_ixO (i := 3) (ev_neg (ev_int))) (ea_cons (ev_callX (i := 0) (ok_law_pick T) (hr.mono (by decide)) pass_cx (ea_cons ((en_lst (ea_cons (ev_tup (ea_cons (ev_int) (ea_cons (ev_int) (ea_nil)))) (ea_cons (ev_tup (ea_cons (ev_int) (ea_cons (ev_int) (ea_nil)))) (ea_cons (ev_tup (ea_cons (ev_int) (ea_cons (ev_int) (ea_nil)))) (ea_nil))))).ev) (ea_nil))) (ea_nil)))) (ea_nil))).ev)))))
theorem sc_law_small : FnScope ["_law_box_here", "_law_most", "_law_top"] ["_law_box_here", "_law_most"] (defScope s_law_small) := ⟨rfl, rfl, rfl, by decide +kernel, rfl, by decide +kernel, by decide +kernel⟩
theorem ok_law_small {P : Program} {w : World} {K : PySem.W.Frag} {mg : Str → Option Value} {base : Heap} (T : Say K mg) : FnXE P w K mg base 3 "_law_small" 1 F_law_small := by
  obtain ⟨fd, F⟩ := T.d_law_small
  exact fn_okX F sc_law_small T.g_law_small (fun _ _ _ _ _ _ us hl => match us, hl with | [_, _], _ => rfl) fun cdv A outer s H E hr =>
    ss_cons (s_set (i := 2) (ev_op dop_sub (ev_callX (i := 0) (ok_law_take T) (hr.mono (by decide)) pass_cx (ea_cons (ev_op dop_add (ev_op dop_mul (ev_int) (ev_var 1)) (ev_int)) (ea_nil))) (ev_var 1)) sc_law_small.nd)
    (ss_one (s_ret (ev_call (ok_law_fr T) (hr.mono (by decide)) pass_cx (ea_cons (ev_var 2) (ea_cons (ev_callX (i := 0) (ok_law_pick T) (hr.mono (by decide)) pass_cx (ea_cons ((en_lst (ea_cons (ev_int) (ea_cons (ev_int) (ea_cons (ev_int) (ea_cons (ev_int) (ea_cons (ev_int) (ea_nil))))))).ev) (ea_nil))) (ea_nil))))))
theorem sc_law_drawn : FnScope ["_law_box_here", "_law_degree", "_law_most", "_law_size", "_law_marks_here", "_law_turn"] ["_law_box_here", "_law_degree", "_law_most"] (defScope s_law_drawn) := ⟨rfl, rfl, rfl, by decide +kernel, rfl, by decide +kernel, by decide +kernel⟩
theorem ok_law_drawn {P : Program} {w : World} {K : PySem.W.Frag} {mg : Str → Option Value} {base : Heap} (T : Say K mg) : FnXE P w K mg base 4 "_law_drawn" 2 F_law_drawn := by
  obtain ⟨fd, F⟩ := T.d_law_drawn
  exact fn_okX F sc_law_drawn T.g_law_drawn (fun _ _ _ _ _ _ us hl => match us, hl with | [_, _, _], _ => rfl) fun cdv A outer s H E hr =>
    ss_cons (s_set (i := 3) (ev_callX (i := 0) (ok_law_take T) (hr.mono (by decide)) pass_cx (ea_cons (ev_op dop_add (ev_var 1) (ev_int)) (ea_nil))) sc_law_drawn.nd)
    (ss_cons (s_set (i := 4) (ev_callX (i := 0) (ok_law_marks T) (hr.mono (by decide)) pass_cx (ea_cons (ev_var 3) (ea_cons (ev_var 2) (ea_nil)))) sc_law_drawn.nd)
    (ss_one (s_ret (ev_tup (ea_cons (ev_var 3) (ea_cons (ev_var 4) (ea_cons (((lc_c (own := [("_law_turn", 5)]) (iv_range1 (T.m_range) (ea_cons (ev_op dop_sub (ev_op dop_add (ev_var 3) (ev_callB dc_len (T.m_len) (by decide +kernel) (ea_cons (ev_var 4) (ea_nil)))) (ev_int)) (ea_nil))) const_range1 (blkOk_by (own := [("_law_turn", 5)]) (by kernel_rfl)) (fun _ _ _ _ _ => gv_name (i := 5) sc_law_drawn.nd) (fun _ _ _ _ _ => eif_nil) (fun _ _ _ _ _ => ev_callX (i := 0) (ok_law_small T) (hr.mono (by decide)) passL (ea_cons (ev_int) (ea_nil)))).en rfl sc_law_drawn.nd).ev) (ea_nil))))))))
theorem sc_law_below : FnScope ["_law_one", "_law_second"] ["_law_one", "_law_second"] (defScope s_law_below) := ⟨rfl, rfl, rfl, by decide +kernel, rfl, by decide +kernel, by decide +kernel⟩
theorem ok_law_below {P : Program} {w : World} {K : PySem.W.Frag} {mg : Str → Option Value} {base : Heap} (T : Say K mg) : FnE P w K mg base 1 "_law_below" ["_law_one", "_law_second"] F_law_below := by
  obtain ⟨fd, F⟩ := T.d_law_below
  exact fn_ok F sc_law_below T.g_law_below (fun _ _ _ _ _ _ us hl => match us, hl with | [_, _], _ => rfl) fun cdv A outer s H E hr =>
    ss_one (s_ret (ev_cmp dop_lt (ev_op dop_mul (ev_ix (ev_var 0) (ev_int)) (ev_ix (ev_var 1) (ev_int))) (ev_op dop_mul (ev_ix (ev_var 1) (ev_int)) (ev_ix (ev_var 0) (ev_int))) (nomark _)))
theorem sc_law_number_v1 : FnScope ["_law_word", "_law_sign"] ["_law_word"] (defScope s_law_number_v1) := ⟨rfl, rfl, rfl, by decide +kernel, rfl, by decide +kernel, by decide +kernel⟩
theorem ok_law_number_v1 {P : Program} {w : World} {K : PySem.W.Frag} {mg : Str → Option Value} {base : Heap} (T : Say K mg) : FnE P w K mg base 1 "_law_number" ["_law_word"] F_law_number_v1 := by
  obtain ⟨fd, F⟩ := T.d_law_number_v1
  exact fn_ok F sc_law_number_v1 T.g_law_number_v1 (fun _ _ _ _ _ _ us hl => match us, hl with | [_], _ => rfl) fun cdv A outer s H E hr =>
    ss_cons (s_if ((ew_or (et_not (et_chain dop_lt dop_lt (ev_int) (ev_callB dc_len (T.m_len) (by decide +kernel) (ea_cons (ev_var 0) (ea_nil))) (ev_int))) (ew_or1 (et_cmp (dop_ne hr.units) (((lc_c (own := [("_law_sign", 1)]) (iv_signs (ev_var 0)) const_signs (blkOk_by (own := [("_law_sign", 1)]) (by kernel_rfl)) (fun _ _ _ _ _ => gv_name (i := 1) sc_law_number_v1.nd) (fun _ _ _ _ _ => eif_one (et_cmp (dop_notInT (hu65 hr)) (ev_var 1) (ev_str) (by rfl))) (fun _ _ _ _ _ => ev_var 1)).en rfl sc_law_number_v1.nd).ev) ((en_lst (ea_nil)).ev) (nomark _)))).et) (ss_one (s_ret (ev_non))) (ss_nil))
    (ss_one (s_ret (ev_if ((ew_or (et_cmp (dop_eq hr.units) (ev_var 0) (ev_str) (nomark _)) (ew_or1 (et_cmp (dop_ne hr.units) (ev_ix (ev_var 0) (ev_int)) (ev_str) (nomark _)))).et) (ev_callTy dc_intS (T.m_int) (by decide +kernel) (ea_cons (ev_var 0) (ea_nil))) (ev_non))))
theorem sc_law_read_value : FnScope ["_law_word", "_law_bare", "_law_parts", "_law_found", "_law_part"] ["_law_word"] (defScope s_law_read_value) := ⟨rfl, rfl, rfl, by decide +kernel, rfl, by decide +kernel, by decide +kernel⟩
theorem ok_law_read_value {P : Program} {w : World} {K : PySem.W.Frag} {mg : Str → Option Value} {base : Heap} (T : Say K mg) : FnE P w K mg base 2 "_law_read_value" ["_law_word"] F_law_read_value := by
  obtain ⟨fd, F⟩ := T.d_law_read_value
  exact fn_ok F sc_law_read_value T.g_law_read_value (fun _ _ _ _ _ _ us hl => match us, hl with | [_], _ => rfl) fun cdv A outer s H E hr =>
    ss_cons (s_set (i := 1) (ev_if (et_cmp (dop_eq hr.units) (ev_slice (ev_var 0) (eo_none) (eo_some (ev_int))) (ev_str) (nomark _)) (ev_slice (ev_var 0) (eo_some (ev_int)) (eo_none)) (ev_var 0)) sc_law_read_value.nd)
    (ss_cons ((lc_c (own := [("_law_part", 4)]) (iv_seq (ev_split (ev_var 1) (ev_str))) const_seq (blkOk_by (own := [("_law_part", 4)]) (by kernel_rfl)) (fun _ _ _ _ _ => gv_name (i := 4) sc_law_read_value.nd) (fun _ _ _ _ _ => eif_nil) (fun _ _ _ _ _ => ev_call (ok_law_number_v1 T) (hr.mono (by decide)) passL (ea_cons (ev_var 4) (ea_nil)))).set (i := 2) rfl sc_law_read_value.nd (sw_true rfl rfl rfl (by kernel_rfl)))
    (ss_cons (s_if ((ew_or (et_cmp (dop_inT (hu65 hr)) (ev_non) (ev_var 2) (by rfl)) (ew_or (et_cmp dop_gt (ev_callB dc_len (T.m_len) (by decide +kernel) (ea_cons (ev_var 2) (ea_nil))) (ev_int) (nomark _)) (ew_or (et_cmp (dop_eq hr.units) (ev_var 0) (ev_str) (nomark _)) (ew_or1 ((ew_and (et_cmp (dop_eq hr.units) (ev_callB dc_len (T.m_len) (by decide +kernel) (ea_cons (ev_var 2) (ea_nil))) (ev_int) (nomark _)) (ew_and1 (et_cmp dop_lt (ev_ix (ev_var 2) (ev_int)) (ev_int) (nomark _)))).et))))).et) (ss_one (s_ret (ev_non))) (ss_nil))
    (ss_cons (s_set (i := 3) (ev_if (et_cmp (dop_eq hr.units) (ev_callB dc_len (T.m_len) (by decide +kernel) (ea_cons (ev_var 2) (ea_nil))) (ev_int) (nomark _)) (ev_tup (ea_cons (ev_ix (ev_var 2) (ev_int)) (ea_cons (ev_ix (ev_var 2) (ev_int)) (ea_nil)))) (ev_tup (ea_cons (ev_ix (ev_var 2) (ev_int)) (ea_cons (ev_int) (ea_nil))))) sc_law_read_value.nd)
    (ss_cons (s_if (et_cmp (dop_ne hr.units) (ev_call (ok_law_fr T) (hr.mono (by decide)) pass_cx (ea_cons (ev_ix (ev_var 3) (ev_int)) (ea_cons (ev_ix (ev_var 3) (ev_int)) (ea_nil)))) (ev_var 3) (nomark _)) (ss_one (s_ret (ev_non))) (ss_nil))
    (ss_one (s_ret (ev_if (et_cmp (dop_eq hr.units) (ev_slice (ev_var 0) (eo_none) (eo_some (ev_int))) (ev_str) (nomark _)) (ev_tup (ea_cons (ev_op dop_sub (ev_int) (ev_ix (ev_var 3) (ev_int))) (ea_cons (ev_ix (ev_var 3) (ev_int)) (ea_nil)))) (ev_var 3))))))))
theorem sc_law_due : FnScope ["_law_text_here", "_law_words", "_law_at", "_law_handles", "_law_degrees", "_law_marks_here", "_law_degree", "_law_inner", "_law_word", "_law_one", "_law_other"] ["_law_text_here"] (defScope s_law_due) := ⟨rfl, rfl, rfl, by decide +kernel, rfl, by decide +kernel, by decide +kernel⟩
theorem ok_law_due {P : Program} {w : World} {K : PySem.W.Frag} {mg : Str → Option Value} {base : Heap} (T : Say K mg) : FnE P w K mg base 3 "_law_due" ["_law_text_here"] F_law_due := by
  obtain ⟨fd, F⟩ := T.d_law_due
  exact fn_ok F sc_law_due T.g_law_due (fun _ _ _ _ _ _ us hl => match us, hl with | [_], _ => rfl) fun cdv A outer s H E hr =>
    ss_cons (s_set (i := 1) (ev_split (ev_var 0) (ev_str)) sc_law_due.nd)
    (ss_cons (s_if ((ew_or (et_cmp (dop_ne hr.units) (ev_slice (ev_var 1) (eo_none) (eo_some (ev_int))) ((en_lst (ea_cons (ev_str) (ea_nil))).ev) (nomark _)) (ew_or (et_cmp (dop_ne hr.units) (ev_slice (ev_var 1) (eo_some (ev_int)) (eo_some (ev_int))) ((en_lst (ea_cons (ev_str) (ea_nil))).ev) (nomark _)) (ew_or1 (et_cmp (dop_ne hr.units) (ev_cntL (ev_var 1) (ev_str) (hu65 hr)) (ev_int) (nomark _))))).et) (ss_one (s_ret (ev_str))) (ss_nil))
    (ss_cons (s_set (i := 2) (ev_idxL (ev_var 1) (ev_str) (hu65 hr)) sc_law_due.nd)
    (ss_cons (s_par2 (i := 4) (j := 5) rfl sc_law_due.nd (ex_consP ((en_lst (ea_cons (ev_call (ok_law_number_v1 T) (hr.mono (by decide)) pass_cx (ea_cons (ev_ix (ev_var 1) (ev_int)) (ea_nil))) (ea_nil))).ev) (ex_consP (((lc_c (own := [("_law_word", 8)]) (iv_seq (ev_slice (ev_var 1) (eo_some (ev_int)) (eo_some (ev_var 2)))) const_seq (blkOk_by (own := [("_law_word", 8)]) (by kernel_rfl)) (fun _ _ _ _ _ => gv_name (i := 8) sc_law_due.nd) (fun _ _ _ _ _ => eif_nil) (fun _ _ _ _ _ => ev_call (ok_law_read_value T) (hr.mono (by decide)) passL (ea_cons (ev_var 8) (ea_nil)))).en rfl sc_law_due.nd).ev) (ex_nil))))
    (ss_cons ((lc_c (own := [("_law_word", 8)]) (iv_seq (ev_slice (ev_var 1) (eo_some (ev_op dop_add (ev_var 2) (ev_int))) (eo_none))) const_seq (blkOk_by (own := [("_law_word", 8)]) (by kernel_rfl)) (fun _ _ _ _ _ => gv_name (i := 8) sc_law_due.nd) (fun _ _ _ _ _ => eif_nil) (fun _ _ _ _ _ => ev_call (ok_law_read_value T) (hr.mono (by decide)) passL (ea_cons (ev_var 8) (ea_nil)))).set (i := 3) rfl sc_law_due.nd (sw_true rfl rfl rfl (by kernel_rfl)))
    (ss_cons (s_if ((ew_or (et_cmp (dop_inT (hu65 hr)) (ev_non) (ev_op dop_add (ev_op dop_add (ev_var 4) (ev_var 5)) (ev_var 3)) (by rfl)) (ew_or (et_cmp (dop_eq hr.units) (ev_var 5) ((en_lst (ea_nil)).ev) (nomark _)) (ew_or1 (et_cmp (dop_eq hr.units) (ev_var 3) ((en_lst (ea_nil)).ev) (nomark _))))).et) (ss_one (s_ret (ev_str))) (ss_nil))
    (ss_cons (s_asg (ev_tup (ea_cons (ev_ix (ev_var 4) (ev_int)) (ea_cons (ev_slice (ev_var 5) (eo_some (ev_int)) (eo_some (ev_neg (ev_int)))) (ea_nil)))) (gv_tup rfl (gvs_cons (gv_name (i := 6) sc_law_due.nd) (gvs_cons (gv_name (i := 7) sc_law_due.nd) (gvs_nil)))))
    (ss_cons (s_if (et_cmp dop_lt (ev_callB dc_len (T.m_len) (by decide +kernel) (ea_cons (ev_var 5) (ea_nil))) (ev_int) (nomark _)) (ss_one (s_ret (ev_str))) (ss_nil))
    (ss_cons (s_if (et_cmp (dop_ne hr.units) (((lc_c (own := [("_law_one", 9), ("_law_other", 10)]) (iv_zip (T.m_zip) (ea_cons (ev_var 5) (ea_cons (ev_slice (ev_var 5) (eo_some (ev_int)) (eo_none)) (ea_nil)))) const_zip (blkOk_by (own := [("_law_one", 9), ("_law_other", 10)]) (by kernel_rfl)) (fun _ _ _ _ _ => gv_tup rfl (gvs_cons (gv_name (i := 9) sc_law_due.nd) (gvs_cons (gv_name (i := 10) sc_law_due.nd) (gvs_nil)))) (fun _ _ _ _ _ => eif_one (et_val (ev_call (ok_law_below T) (hr.mono (by decide)) passL (ea_cons (ev_var 10) (ea_cons (ev_var 9) (ea_nil)))))) (fun _ _ _ _ _ => ev_int)).en rfl sc_law_due.nd).ev) ((en_lst (ea_nil)).ev) (nomark _)) (ss_one (s_ret (ev_str))) (ss_nil))
    (ss_cons (s_if ((ew_or (et_cmp dop_gt (ev_cntL (ev_var 5) (ev_ix (ev_var 5) (ev_int)) (hu65 hr)) (ev_int) (nomark _)) (ew_or1 (et_cmp dop_gt (ev_cntL (ev_var 5) (ev_ix (ev_var 5) (ev_neg (ev_int))) (hu65 hr)) (ev_int) (nomark _)))).et) (ss_one (s_ret (ev_str))) (ss_nil))
    (ss_cons (s_if (et_cmp (dop_ne hr.units) (((lc_c (own := [("_law_one", 9)]) (iv_seq (ev_var 7)) const_seq (blkOk_by (own := [("_law_one", 9)]) (by kernel_rfl)) (fun _ _ _ _ _ => gv_name (i := 9) sc_law_due.nd) (fun _ _ _ _ _ => eif_one (et_cmp dop_gt (ev_cntL (ev_var 7) (ev_var 9) (hu65 hr)) (ev_var 6) (nomark _))) (fun _ _ _ _ _ => ev_var 9)).en rfl sc_law_due.nd).ev) ((en_lst (ea_nil)).ev) (nomark _)) (ss_one (s_ret (ev_str))) (ss_nil))
    (ss_one (s_ret (ev_if (et_cmp (dop_eq hr.units) (ev_callB dc_len (T.m_len) (by decide +kernel) (ea_cons (ev_var 3) (ea_nil))) (ev_op dop_sub (ev_op dop_add (ev_var 6) (ev_callB dc_len (T.m_len) (by decide +kernel) (ea_cons (ev_var 5) (ea_nil)))) (ev_int)) (nomark _)) (ev_tup (ea_cons (ev_var 6) (ea_cons (ev_var 5) (ea_cons (ev_var 3) (ea_nil))))) (ev_str))))))))))))))
theorem sc_InvalidBend_init : FnScope ["self", "word"] ["self", "word"] (defScope s_InvalidBend_init) := ⟨rfl, rfl, rfl, by decide +kernel, rfl, by decide +kernel, by decide +kernel⟩
theorem xc_InvalidBend {P : Program} {w : World} {K : PySem.W.Frag} {mg : Str → Option Value} {base : Heap} (T : Say K mg) : XcE P w K mg base 1 "InvalidBend" "word" := by
  obtain ⟨fd, F⟩ := T.d_InvalidBend_init
  exact exc_ok F sc_InvalidBend_init T.xf_InvalidBend T.gc_InvalidBend (fun _ _ _ _ _ _ us hl => match us, hl with | [_, _], _ => rfl) fun cdv A outer s H E => exc_suite rfl rfl (by first | exact Or.inl rfl | exact Or.inr (Or.inl rfl) | exact Or.inr (Or.inr rfl)) (by first | exact Or.inl rfl | exact Or.inr (Or.inl rfl) | exact Or.inr (Or.inr rfl)) rfl T.gc_BendError T.bot_BendError T.xf_InvalidBend.o T.xf_InvalidBend.n (by decide) (by decide) (by decide) rfl rfl rfl
theorem sc_is_less : FnScope ["one", "other"] ["one", "other"] (defScope s_is_less) := ⟨rfl, rfl, rfl, by decide +kernel, rfl, by decide +kernel, by decide +kernel⟩
theorem ok_is_less {P : Program} {w : World} {K : PySem.W.Frag} {mg : Str → Option Value} {base : Heap} (T : Say K mg) : FnE P w K mg base 1 "is_less" ["one", "other"] F_is_less := by
  obtain ⟨fd, F⟩ := T.d_is_less
  exact FnE.by (F := guard 2 (runF 2 g_is_less)) (fn_ok F sc_is_less T.g_is_less (fun _ _ _ _ _ _ us hl => match us, hl with | [_, _], _ => rfl) fun cdv A outer s H E hr =>
    ss_one (s_ret (ev_cmp dop_lt (ev_op dop_mul (ev_ix (ev_var 0) (ev_int)) (ev_ix (ev_var 1) (ev_int))) (ev_op dop_mul (ev_ix (ev_var 1) (ev_int)) (ev_ix (ev_var 0) (ev_int))) (nomark _)))) mir_is_less
theorem sc_is_sequence : FnScope ["value"] ["value"] (defScope s_is_sequence) := ⟨rfl, rfl, rfl, by decide +kernel, rfl, by decide +kernel, by decide +kernel⟩
theorem ok_is_sequence {P : Program} {w : World} {K : PySem.W.Frag} {mg : Str → Option Value} {base : Heap} (T : Say K mg) : FnE P w K mg base 1 "is_sequence" ["value"] F_is_sequence := by
  obtain ⟨fd, F⟩ := T.d_is_sequence
  exact fn_ok F sc_is_sequence T.g_is_sequence (fun _ _ _ _ _ _ us hl => match us, hl with | [_], _ => rfl) fun cdv A outer s H E hr =>
    ss_one (s_ret (ev_isiLT (ev_var 0) (T.m_isinstance) (T.m_list) (T.m_tuple)))
theorem sc_common_part : FnScope ["one", "other"] ["one", "other"] (defScope s_common_part) := ⟨rfl, rfl, rfl, by decide +kernel, rfl, by decide +kernel, by decide +kernel⟩
theorem ok_common_part {P : Program} {w : World} {K : PySem.W.Frag} {mg : Str → Option Value} {base : Heap} (T : Say K mg) : FnE P w K mg base 1 "common_part" ["one", "other"] F_common_part := by
  obtain ⟨fd, F⟩ := T.d_common_part
  exact FnE.by (F := guard 2 (runF 2 g_common_part)) (fn_ok F sc_common_part T.g_common_part (fun _ _ _ _ _ _ us hl => match us, hl with | [_, _], _ => rfl) fun cdv A outer s H E hr =>
    ss_cons (s_par2 (i := 0) (j := 1) rfl sc_common_part.nd (ex_consP (ev_callB dc_abs (T.m_abs) (by decide +kernel) (ea_cons (ev_var 0) (ea_nil))) (ex_consP (ev_callB dc_abs (T.m_abs) (by decide +kernel) (ea_cons (ev_var 1) (ea_nil))) (ex_nil))))
    (ss_cons (s_while (fuelInt 1) pass_own (et_cmp dop_gt (ev_var 1) (ev_int) (nomark _)) (ss_one (s_par2 (i := 0) (j := 1) rfl sc_common_part.nd (ex_consP (ev_var 1) (ex_consP (ev_op dop_mod (ev_var 0) (ev_var 1)) (ex_nil))))))
    (ss_one (s_ret (ev_var 0))))) mir_common_part
theorem sc_is_integer : FnScope ["value"] ["value"] (defScope s_is_integer) := ⟨rfl, rfl, rfl, by decide +kernel, rfl, by decide +kernel, by decide +kernel⟩
theorem ok_is_integer {P : Program} {w : World} {K : PySem.W.Frag} {mg : Str → Option Value} {base : Heap} (T : Say K mg) : FnE P w K mg base 1 "is_integer" ["value"] F_is_integer := by
  obtain ⟨fd, F⟩ := T.d_is_integer
  exact fn_ok F sc_is_integer T.g_is_integer (fun _ _ _ _ _ _ us hl => match us, hl with | [_], _ => rfl) fun cdv A outer s H E hr =>
    ss_one (s_ret (ev_and (ev_isi tab_int (ev_var 0) (T.m_isinstance) (T.m_int) (by decide +kernel)) (ev_one (ev_not (ev_isi tab_bool (ev_var 0) (T.m_isinstance) (T.m_bool) (by decide +kernel))))))
theorem sc_is_value : FnScope ["value"] ["value"] (defScope s_is_value) := ⟨rfl, rfl, rfl, by decide +kernel, rfl, by decide +kernel, by decide +kernel⟩
theorem ok_is_value {P : Program} {w : World} {K : PySem.W.Frag} {mg : Str → Option Value} {base : Heap} (T : Say K mg) : FnE P w K mg base 2 "is_value" ["value"] F_is_value := by
  obtain ⟨fd, F⟩ := T.d_is_value
  exact fn_ok F sc_is_value T.g_is_value (fun _ _ _ _ _ _ us hl => match us, hl with | [_], _ => rfl) fun cdv A outer s H E hr =>
    ss_cons (s_if (et_val (ev_call (ok_is_integer T) (hr.mono (by decide)) pass_cx (ea_cons (ev_var 0) (ea_nil)))) (ss_one (s_ret (ev_bl))) (ss_nil))
    (ss_cons (s_if ((ew_or (et_not (et_val (ev_isi tab_tup (ev_var 0) (T.m_isinstance) (T.m_tuple) (by decide +kernel)))) (ew_or (et_cmp (dop_ne hr.units) (ev_callB dc_len (T.m_len) (by decide +kernel) (ea_cons (ev_var 0) (ea_nil))) (ev_glob T.c_PAIR) (nomark _)) (ew_or (et_not (et_val (ev_call (ok_is_integer T) (hr.mono (by decide)) pass_cx (ea_cons (ev_ix (ev_var 0) (ev_int)) (ea_nil))))) (ew_or1 (et_not (et_val (ev_call (ok_is_integer T) (hr.mono (by decide)) pass_cx (ea_cons (ev_ix (ev_var 0) (ev_int)) (ea_nil))))))))).et) (ss_one (s_ret (ev_bl))) (ss_nil))
    (ss_one (s_ret (ev_and (ev_cmp dop_gt (ev_ix (ev_var 0) (ev_int)) (ev_int) (nomark _)) (ev_one (ev_cmp (dop_eq hr.units) (ev_call (ok_common_part T) (hr.mono (by decide)) pass_cx (ea_cons (ev_ix (ev_var 0) (ev_int)) (ea_cons (ev_ix (ev_var 0) (ev_int)) (ea_nil)))) (ev_int) (nomark _)))))))
theorem sc_value_of : FnScope ["value"] ["value"] (defScope s_value_of) := ⟨rfl, rfl, rfl, by decide +kernel, rfl, by decide +kernel, by decide +kernel⟩
theorem ok_value_of {P : Program} {w : World} {K : PySem.W.Frag} {mg : Str → Option Value} {base : Heap} (T : Say K mg) : FnE P w K mg base 2 "value_of" ["value"] F_value_of := by
  obtain ⟨fd, F⟩ := T.d_value_of
  exact fn_ok F sc_value_of T.g_value_of (fun _ _ _ _ _ _ us hl => match us, hl with | [_], _ => rfl) fun cdv A outer s H E hr =>
    ss_one (s_ret (ev_if (et_val (ev_call (ok_is_integer T) (hr.mono (by decide)) pass_cx (ea_cons (ev_var 0) (ea_nil)))) (ev_tup (ea_cons (ev_var 0) (ea_cons (ev_int) (ea_nil)))) (ev_var 0)))
theorem sc_are_marks : FnScope ["degree", "marks", "rows", "counts", "one", "row", "at", "many"] ["degree", "marks"] (defScope s_are_marks) := ⟨rfl, rfl, rfl, by decide +kernel, rfl, by decide +kernel, by decide +kernel⟩
theorem ok_are_marks {P : Program} {w : World} {K : PySem.W.Frag} {mg : Str → Option Value} {base : Heap} (T : Say K mg) : FnE P w K mg base 3 "are_marks" ["degree", "marks"] F_are_marks := by
  obtain ⟨fd, F⟩ := T.d_are_marks
  exact fn_ok F sc_are_marks T.g_are_marks (fun _ _ _ _ _ _ us hl => match us, hl with | [_, _], _ => rfl) fun cdv A outer s H E hr =>
    ss_cons (s_if ((ew_or (et_not (et_val (ev_call (ok_is_sequence T) (hr.mono (by decide)) pass_cx (ea_cons (ev_var 1) (ea_nil))))) (ew_or (et_cmp dop_le (ev_callB dc_len (T.m_len) (by decide +kernel) (ea_cons (ev_var 1) (ea_nil))) (ev_int) (nomark _)) (ew_or1 (et_not (et_val (ev_callB (dc_all rfl) (T.m_all) (by decide +kernel) (ea_cons (((lc_c (own := [("one", 4)]) (iv_seq (ev_var 1)) const_seq (blkOk_by (own := [("one", 4)]) (by kernel_rfl)) (fun _ _ _ _ _ => gv_name (i := 4) sc_are_marks.nd) (fun _ _ _ _ _ => eif_nil) (fun _ _ _ _ _ => ev_call (ok_is_value T) (hr.mono (by decide)) passL (ea_cons (ev_var 4) (ea_nil)))).en rfl sc_are_marks.nd).ev) (ea_nil)))))))).et) (ss_one (s_ret (ev_bl))) (ss_nil))
    (ss_cons (s_set (i := 2) (((lc_c (own := [("one", 4)]) (iv_seq (ev_var 1)) const_seq (blkOk_by (own := [("one", 4)]) (by kernel_rfl)) (fun _ _ _ _ _ => gv_name (i := 4) sc_are_marks.nd) (fun _ _ _ _ _ => eif_nil) (fun _ _ _ _ _ => ev_call (ok_value_of T) (hr.mono (by decide)) passL (ea_cons (ev_var 4) (ea_nil)))).en rfl sc_are_marks.nd).ev) sc_are_marks.nd)
    (ss_cons (s_if (et_val (ev_callB (dc_any rfl) (T.m_any) (by decide +kernel) (ea_cons (((lc_c (own := [("at", 6)]) (iv_range1 (T.m_range) (ea_cons (ev_op dop_sub (ev_callB dc_len (T.m_len) (by decide +kernel) (ea_cons (ev_var 2) (ea_nil))) (ev_int)) (ea_nil))) const_range1 (blkOk_by (own := [("at", 6)]) (by kernel_rfl)) (fun _ _ _ _ _ => gv_name (i := 6) sc_are_marks.nd) (fun _ _ _ _ _ => eif_nil) (fun _ _ _ _ _ => ev_call (ok_is_less T) (hr.mono (by decide)) passL (ea_cons (ev_ix (ev_var 2) (ev_op dop_add (ev_var 6) (ev_int))) (ea_cons (ev_ix (ev_var 2) (ev_var 6)) (ea_nil))))).en rfl sc_are_marks.nd).ev) (ea_nil)))) (ss_one (s_ret (ev_bl))) (ss_nil))
    (ss_cons ((lc_c (own := [("row", 5)]) (iv_seq (ev_var 2)) const_seq (blkOk_by (own := [("row", 5)]) (by kernel_rfl)) (fun _ _ _ _ _ => gv_name (i := 5) sc_are_marks.nd) (fun _ _ _ _ _ => eif_nil) (fun _ _ _ _ _ => ev_callB dc_len (T.m_len) (by decide +kernel) (ea_cons (((lc_c (own := [("one", 4)]) (iv_seq (ev_var 2)) const_seq (blkOk_by (own := [("one", 4)]) (by kernel_rfl)) (fun _ _ _ _ _ => gv_name (i := 4) sc_are_marks.nd) (fun _ _ _ _ _ => eif_one (et_cmp (dop_eq hr.units) (ev_var 4) (ev_var 5) (nomark _))) (fun _ _ _ _ _ => ev_var 4)).en rfl sc_are_marks.nd).ev) (ea_nil)))).set (i := 3) rfl sc_are_marks.nd (sw_true rfl rfl rfl (by kernel_rfl)))
    (ss_one (s_ret (ev_and (ev_cmp (dop_eq hr.units) (ev_ix (ev_var 3) (ev_int)) (ev_int) (nomark _)) (ev_and (ev_cmp (dop_eq hr.units) (ev_ix (ev_var 3) (ev_neg (ev_int))) (ev_int) (nomark _)) (ev_one (ev_callB (dc_all rfl) (T.m_all) (by decide +kernel) (ea_cons (((lc_c (own := [("many", 7)]) (iv_seq (ev_slice (ev_var 3) (eo_some (ev_int)) (eo_some (ev_neg (ev_int))))) const_seq (blkOk_by (own := [("many", 7)]) (by kernel_rfl)) (fun _ _ _ _ _ => gv_name (i := 7) sc_are_marks.nd) (fun _ _ _ _ _ => eif_nil) (fun _ _ _ _ _ => ev_cmp dop_le (ev_var 7) (ev_var 0) (nomark _))).en rfl sc_are_marks.nd).ev) (ea_nil)))))))))))
theorem sc_text_of : FnScope ["value"] ["value"] (defScope s_text_of) := ⟨rfl, rfl, rfl, by decide +kernel, rfl, by decide +kernel, by decide +kernel⟩
theorem ok_text_of {P : Program} {w : World} {K : PySem.W.Frag} {mg : Str → Option Value} {base : Heap} (T : Say K mg) : FnE P w K mg base 1 "text_of" ["value"] F_text_of := by
  obtain ⟨fd, F⟩ := T.d_text_of
  exact fn_ok F sc_text_of T.g_text_of (fun _ _ _ _ _ _ us hl => match us, hl with | [_], _ => rfl) fun cdv A outer s H E hr =>
    ss_one (s_ret (ev_if (et_cmp (dop_eq hr.units) (ev_ix (ev_var 0) (ev_int)) (ev_int) (nomark _)) (ev_callTy dc_str (T.m_str) (by decide +kernel) (ea_cons (ev_ix (ev_var 0) (ev_int)) (ea_nil))) (ev_joined (ej_cons (ev_fmt (ev_ix (ev_var 0) (ev_int))) (ej_cons (ev_str) (ej_cons (ev_fmt (ev_ix (ev_var 0) (ev_int))) (ej_nil)))))))
theorem sc_text_of_bend : FnScope ["degree", "marks", "handles", "here", "there", "one"] ["degree", "marks", "handles"] (defScope s_text_of_bend) := ⟨rfl, rfl, rfl, by decide +kernel, rfl, by decide +kernel, by decide +kernel⟩
theorem ok_text_of_bend {P : Program} {w : World} {K : PySem.W.Frag} {mg : Str → Option Value} {base : Heap} (T : Say K mg) : FnE P w K mg base 2 "text_of_bend" ["degree", "marks", "handles"] F_text_of_bend := by
  obtain ⟨fd, F⟩ := T.d_text_of_bend
  exact fn_ok F sc_text_of_bend T.g_text_of_bend (fun _ _ _ _ _ _ us hl => match us, hl with | [_, _, _], _ => rfl) fun cdv A outer s H E hr =>
    ss_cons (s_par2 (i := 3) (j := 4) rfl sc_text_of_bend.nd (ex_consP (((lc_c (own := [("one", 5)]) (iv_seq (ev_var 1)) const_seq (blkOk_by (own := [("one", 5)]) (by kernel_rfl)) (fun _ _ _ _ _ => gv_name (i := 5) sc_text_of_bend.nd) (fun _ _ _ _ _ => eif_nil) (fun _ _ _ _ _ => ev_call (ok_text_of T) (hr.mono (by decide)) passL (ea_cons (ev_var 5) (ea_nil)))).en rfl sc_text_of_bend.nd).ev) (ex_consP (((lc_c (own := [("one", 5)]) (iv_seq (ev_var 2)) const_seq (blkOk_by (own := [("one", 5)]) (by kernel_rfl)) (fun _ _ _ _ _ => gv_name (i := 5) sc_text_of_bend.nd) (fun _ _ _ _ _ => eif_nil) (fun _ _ _ _ _ => ev_call (ok_text_of T) (hr.mono (by decide)) passL (ea_cons (ev_var 5) (ea_nil)))).en rfl sc_text_of_bend.nd).ev) (ex_nil))))
    (ss_one (s_ret (ev_join (ev_str) ((en_lst (ea_cons (ev_str) (ea_cons (ev_callTy dc_str (T.m_str) (by decide +kernel) (ea_cons (ev_var 0) (ea_nil))) (ea_cons (ev_str) (ea_star (ev_var 3) (ea_cons (ev_str) (ea_star (ev_var 4) (ea_nil)))))))).ev))))
theorem sc_Bend_init : FnScope ["self", "degree", "marks", "handles", "one"] ["self", "degree", "marks", "handles"] (defScope s_Bend_init) := ⟨rfl, rfl, rfl, by decide +kernel, rfl, by decide +kernel, by decide +kernel⟩
theorem mk_Bend {P : Program} {w : World} {K : PySem.W.Frag} {mg : Str → Option Value} {base : Heap} (T : Say K mg) : MkE P w K mg base 4 "Bend" 3 I_Bend := by
  obtain ⟨fd, F⟩ := T.d_Bend_init
  exact init_ok F sc_Bend_init T.mk_Bend T.gc_Bend (fun _ _ _ _ _ _ us hl => match us, hl with | [_, _, _, _], _ => rfl) fun cdv A outer s H E hr =>
    so_if ((ew_or (et_not (et_val (ev_call (ok_is_integer T) (hr.mono (by decide)) pass_cx (ea_cons (ev_var 1) (ea_nil))))) (ew_or1 (et_cmp dop_lt (ev_var 1) (ev_int) (nomark _)))).et) (ss_one (s_raise (xc_InvalidBend T) (hr.mono (by decide)) rfl (takes_of rfl rfl rfl rfl) (ev_str))) (so_if (et_not (et_val (ev_call (ok_are_marks T) (hr.mono (by decide)) pass_cx (ea_cons (ev_var 1) (ea_cons (ev_var 2) (ea_nil)))))) (ss_one (s_raise (xc_InvalidBend T) (hr.mono (by decide)) rfl (takes_of rfl rfl rfl rfl) (ev_str))) (so_if ((ew_or (et_not (et_val (ev_call (ok_is_sequence T) (hr.mono (by decide)) pass_cx (ea_cons (ev_var 3) (ea_nil))))) (ew_or1 (et_not (et_val (ev_callB (dc_all rfl) (T.m_all) (by decide +kernel) (ea_cons (((lc_c (own := [("one", 4)]) (iv_seq (ev_var 3)) const_seq (blkOk_by (own := [("one", 4)]) (by kernel_rfl)) (fun _ _ _ _ _ => gv_name (i := 4) sc_Bend_init.nd) (fun _ _ _ _ _ => eif_nil) (fun _ _ _ _ _ => ev_call (ok_is_value T) (hr.mono (by decide)) passL (ea_cons (ev_var 4) (ea_nil)))).en rfl sc_Bend_init.nd).ev) (ea_nil))))))).et) (ss_one (s_raise (xc_InvalidBend T) (hr.mono (by decide)) rfl (takes_of rfl rfl rfl rfl) (ev_str))) (so_if (et_cmp (dop_ne hr.units) (ev_callB dc_len (T.m_len) (by decide +kernel) (ea_cons (ev_var 3) (ea_nil))) (ev_op dop_sub (ev_op dop_add (ev_var 1) (ev_callB dc_len (T.m_len) (by decide +kernel) (ea_cons (ev_var 2) (ea_nil)))) (ev_int)) (nomark _)) (ss_one (s_raise (xc_InvalidBend T) (hr.mono (by decide)) rfl (takes_of rfl rfl rfl rfl) (ev_str))) (so_put (evo_of (ev_var 1))
    (so_put (evo_of (ev_callTy dc_tuple (T.m_tuple) (by decide +kernel) (ea_cons (((lc_c (own := [("one", 4)]) (iv_seq (ev_var 2)) const_seq (blkOk_by (own := [("one", 4)]) (by kernel_rfl)) (fun _ _ _ _ _ => gv_name (i := 4) sc_Bend_init.nd) (fun _ _ _ _ _ => eif_nil) (fun _ _ _ _ _ => ev_call (ok_value_of T) (hr.mono (by decide)) passL (ea_cons (ev_var 4) (ea_nil)))).en rfl sc_Bend_init.nd).ev) (ea_nil))))
    (so_put (evo_of (ev_callTy dc_tuple (T.m_tuple) (by decide +kernel) (ea_cons (((lc_c (own := [("one", 4)]) (iv_seq (ev_var 3)) const_seq (blkOk_by (own := [("one", 4)]) (by kernel_rfl)) (fun _ _ _ _ _ => gv_name (i := 4) sc_Bend_init.nd) (fun _ _ _ _ _ => eif_nil) (fun _ _ _ _ _ => ev_call (ok_value_of T) (hr.mono (by decide)) passL (ea_cons (ev_var 4) (ea_nil)))).en rfl sc_Bend_init.nd).ev) (ea_nil))))
    (so_put (evo_call (ok_text_of_bend T) (hr.mono (by decide)) pass_cx (eao_cons (evo_of (ev_var 1)) (eao_cons (evo_fld (hc := T.cl_Bend) (hn := T.na_Bend_marks)) (eao_cons (evo_fld (hc := T.cl_Bend) (hn := T.na_Bend_handles)) (eao_nil)))))
    (so_nil) T.cl_Bend T.na_Bend_text) T.cl_Bend T.na_Bend_handles) T.cl_Bend T.na_Bend_marks) T.cl_Bend T.na_Bend_degree))))
theorem sc_Bend___str__ : FnScope ["self"] ["self"] (defScope s_Bend___str__) := ⟨rfl, rfl, rfl, by decide +kernel, rfl, by decide +kernel, by decide +kernel⟩
theorem me_Bend___str__ {P : Program} {w : World} {K : PySem.W.Frag} {mg : Str → Option Value} {base : Heap} (T : Say K mg) : MeE P w K mg base 1 "Bend" "__str__" 1 F_Bend___str__ := by
  obtain ⟨fd, F⟩ := T.d_Bend___str__
  exact meth_ok F sc_Bend___str__ T.cl_Bend T.me_Bend___str__ (fun _ _ _ _ _ _ us hl => match us, hl with | [_], _ => rfl) fun cdv A outer s H E hr =>
    ss_one (s_ret (ev_joined1 (ev_fmt (ev_fld (ev_var 0) T.cl_Bend T.na_Bend_text))))
theorem sc_InvalidText_init : FnScope ["self", "at"] ["self", "at"] (defScope s_InvalidText_init) := ⟨rfl, rfl, rfl, by decide +kernel, rfl, by decide +kernel, by decide +kernel⟩
theorem xc_InvalidText {P : Program} {w : World} {K : PySem.W.Frag} {mg : Str → Option Value} {base : Heap} (T : Say K mg) : XcE P w K mg base 1 "InvalidText" "at" := by
  obtain ⟨fd, F⟩ := T.d_InvalidText_init
  exact exc_ok F sc_InvalidText_init T.xf_InvalidText T.gc_InvalidText (fun _ _ _ _ _ _ us hl => match us, hl with | [_, _], _ => rfl) fun cdv A outer s H E => exc_suite rfl rfl (by first | exact Or.inl rfl | exact Or.inr (Or.inl rfl) | exact Or.inr (Or.inr rfl)) (by first | exact Or.inl rfl | exact Or.inr (Or.inl rfl) | exact Or.inr (Or.inr rfl)) rfl T.gc_BendError T.bot_BendError T.xf_InvalidText.o T.xf_InvalidText.n (by decide) (by decide) (by decide) rfl rfl rfl
theorem sc_number_in : FnScope ["word", "sign"] ["word"] (defScope s_number_in) := ⟨rfl, rfl, rfl, by decide +kernel, rfl, by decide +kernel, by decide +kernel⟩
theorem ok_number_in {P : Program} {w : World} {K : PySem.W.Frag} {mg : Str → Option Value} {base : Heap} (T : Say K mg) : FnE P w K mg base 1 "number_in" ["word"] F_number_in := by
  obtain ⟨fd, F⟩ := T.d_number_in
  exact fn_ok F sc_number_in T.g_number_in (fun _ _ _ _ _ _ us hl => match us, hl with | [_], _ => rfl) fun cdv A outer s H E hr =>
    ss_cons (s_if ((ew_or (et_not (et_chain dop_le dop_le (ev_int) (ev_callB dc_len (T.m_len) (by decide +kernel) (ea_cons (ev_var 0) (ea_nil))) (ev_glob T.c_MOST_DIGITS))) (ew_or1 (et_not (et_val (ev_callB (dc_all rfl) (T.m_all) (by decide +kernel) (ea_cons (((lc_c (own := [("sign", 1)]) (iv_signs (ev_var 0)) const_signs (blkOk_by (own := [("sign", 1)]) (by kernel_rfl)) (fun _ _ _ _ _ => gv_name (i := 1) sc_number_in.nd) (fun _ _ _ _ _ => eif_nil) (fun _ _ _ _ _ => ev_cmp (dop_inT (hu65 hr)) (ev_var 1) (ev_glob T.c_DIGITS) (by rfl))).en rfl sc_number_in.nd).ev) (ea_nil))))))).et) (ss_one (s_ret (ev_non))) (ss_nil))
    (ss_one (s_ret (ev_if ((ew_or (et_cmp (dop_eq hr.units) (ev_var 0) (ev_str) (nomark _)) (ew_or1 (et_cmp (dop_ne hr.units) (ev_ix (ev_var 0) (ev_int)) (ev_str) (nomark _)))).et) (ev_callTy dc_intS (T.m_int) (by decide +kernel) (ea_cons (ev_var 0) (ea_nil))) (ev_non))))
theorem sc_value_in : FnScope ["word", "is_below", "parts", "numbers", "top", "part"] ["word"] (defScope s_value_in) := ⟨rfl, rfl, rfl, by decide +kernel, rfl, by decide +kernel, by decide +kernel⟩
theorem ok_value_in {P : Program} {w : World} {K : PySem.W.Frag} {mg : Str → Option Value} {base : Heap} (T : Say K mg) : FnE P w K mg base 2 "value_in" ["word"] F_value_in := by
  obtain ⟨fd, F⟩ := T.d_value_in
  exact fn_ok F sc_value_in T.g_value_in (fun _ _ _ _ _ _ us hl => match us, hl with | [_], _ => rfl) fun cdv A outer s H E hr =>
    ss_cons (s_set (i := 1) (ev_cmp (dop_eq hr.units) (ev_slice (ev_var 0) (eo_none) (eo_some (ev_int))) (ev_str) (nomark _)) sc_value_in.nd)
    (ss_cons (s_set (i := 2) (ev_split (ev_slice (ev_var 0) (eo_some (ev_callTy dc_int (T.m_int) (by decide +kernel) (ea_cons (ev_var 1) (ea_nil)))) (eo_none)) (ev_str)) sc_value_in.nd)
    (ss_cons ((lc_c (own := [("part", 5)]) (iv_seq (ev_var 2)) const_seq (blkOk_by (own := [("part", 5)]) (by kernel_rfl)) (fun _ _ _ _ _ => gv_name (i := 5) sc_value_in.nd) (fun _ _ _ _ _ => eif_nil) (fun _ _ _ _ _ => ev_call (ok_number_in T) (hr.mono (by decide)) passL (ea_cons (ev_var 5) (ea_nil)))).set (i := 3) rfl sc_value_in.nd (sw_true rfl rfl rfl (by kernel_rfl)))
    (ss_cons (s_if ((ew_or (et_cmp dop_gt (ev_callB dc_len (T.m_len) (by decide +kernel) (ea_cons (ev_var 2) (ea_nil))) (ev_glob T.c_PAIR) (nomark _)) (ew_or (et_cmp (dop_inT (hu65 hr)) (ev_non) (ev_var 3) (by rfl)) (ew_or1 ((ew_and (et_val (ev_var 1)) (ew_and1 (et_cmp (dop_eq hr.units) (ev_ix (ev_var 3) (ev_int)) (ev_int) (nomark _)))).et)))).et) (ss_one (s_ret (ev_non))) (ss_nil))
    (ss_cons (s_if ((ew_and (et_cmp (dop_eq hr.units) (ev_callB dc_len (T.m_len) (by decide +kernel) (ea_cons (ev_var 2) (ea_nil))) (ev_glob T.c_PAIR) (nomark _)) (ew_and1 ((ew_or (et_cmp dop_le (ev_ix (ev_var 3) (ev_int)) (ev_int) (nomark _)) (ew_or1 (et_cmp (dop_ne hr.units) (ev_call (ok_common_part T) (hr.mono (by decide)) pass_cx (ea_cons (ev_ix (ev_var 3) (ev_int)) (ea_cons (ev_ix (ev_var 3) (ev_int)) (ea_nil)))) (ev_int) (nomark _)))).et))).et) (ss_one (s_ret (ev_non))) (ss_nil))
    (ss_cons (s_set (i := 4) (ev_if (et_val (ev_var 1)) (ev_neg (ev_ix (ev_var 3) (ev_int))) (ev_ix (ev_var 3) (ev_int))) sc_value_in.nd)
    (ss_one (s_ret (ev_if (et_cmp (dop_eq hr.units) (ev_callB dc_len (T.m_len) (by decide +kernel) (ea_cons (ev_var 2) (ea_nil))) (ev_glob T.c_PAIR) (nomark _)) (ev_tup (ea_cons (ev_var 4) (ea_cons (ev_ix (ev_var 3) (ev_neg (ev_int))) (ea_nil)))) (ev_tup (ea_cons (ev_var 4) (ea_cons (ev_int) (ea_nil))))))))))))
theorem sc_values_in : FnScope ["words", "found", "word"] ["words"] (defScope s_values_in) := ⟨rfl, rfl, rfl, by decide +kernel, rfl, by decide +kernel, by decide +kernel⟩
theorem ok_values_in {P : Program} {w : World} {K : PySem.W.Frag} {mg : Str → Option Value} {base : Heap} (T : Say K mg) : FnE P w K mg base 3 "values_in" ["words"] F_values_in := by
  obtain ⟨fd, F⟩ := T.d_values_in
  exact fn_ok F sc_values_in T.g_values_in (fun _ _ _ _ _ _ us hl => match us, hl with | [_], _ => rfl) fun cdv A outer s H E hr =>
    ss_cons ((lc_c (own := [("word", 2)]) (iv_seq (ev_var 0)) const_seq (blkOk_by (own := [("word", 2)]) (by kernel_rfl)) (fun _ _ _ _ _ => gv_name (i := 2) sc_values_in.nd) (fun _ _ _ _ _ => eif_nil) (fun _ _ _ _ _ => ev_call (ok_value_in T) (hr.mono (by decide)) passL (ea_cons (ev_var 2) (ea_nil)))).set (i := 1) rfl sc_values_in.nd (sw_true rfl rfl rfl (by kernel_rfl)))
    (ss_one (s_ret (ev_if (et_cmp (dop_inT (hu65 hr)) (ev_non) (ev_var 1) (by rfl)) (ev_non) (ev_var 1))))
theorem sc_rows_in : FnScope ["text", "words", "at", "degrees", "marks", "handles"] ["text"] (defScope s_rows_in) := ⟨rfl, rfl, rfl, by decide +kernel, rfl, by decide +kernel, by decide +kernel⟩
theorem ok_rows_in {P : Program} {w : World} {K : PySem.W.Frag} {mg : Str → Option Value} {base : Heap} (T : Say K mg) : FnE P w K mg base 4 "rows_in" ["text"] F_rows_in := by
  obtain ⟨fd, F⟩ := T.d_rows_in
  exact fn_ok F sc_rows_in T.g_rows_in (fun _ _ _ _ _ _ us hl => match us, hl with | [_], _ => rfl) fun cdv A outer s H E hr =>
    ss_cons (s_set (i := 1) (ev_if (et_val (ev_isi tab_str (ev_var 0) (T.m_isinstance) (T.m_str) (by decide +kernel))) (ev_split (ev_var 0) (ev_str)) ((en_lst (ea_nil)).ev)) sc_rows_in.nd)
    (ss_cons (s_if ((ew_or (et_cmp (dop_ne hr.units) (ev_slice (ev_var 1) (eo_none) (eo_some (ev_int))) ((en_lst (ea_cons (ev_str) (ea_nil))).ev) (nomark _)) (ew_or (et_cmp (dop_ne hr.units) (ev_slice (ev_var 1) (eo_some (ev_int)) (eo_some (ev_int))) ((en_lst (ea_cons (ev_str) (ea_nil))).ev) (nomark _)) (ew_or1 (et_cmp (dop_ne hr.units) (ev_cntL (ev_var 1) (ev_str) (hu65 hr)) (ev_int) (nomark _))))).et) (ss_one (s_ret (ev_non))) (ss_nil))
    (ss_cons (s_set (i := 2) (ev_idxL (ev_var 1) (ev_str) (hu65 hr)) sc_rows_in.nd)
    (ss_cons (s_par3 (i := 3) (j := 4) (l := 5) rfl sc_rows_in.nd (ex_consP (ev_call (ok_values_in T) (hr.mono (by decide)) pass_cx (ea_cons (ev_slice (ev_var 1) (eo_some (ev_int)) (eo_some (ev_int))) (ea_nil))) (ex_consP (ev_call (ok_values_in T) (hr.mono (by decide)) pass_cx (ea_cons (ev_slice (ev_var 1) (eo_some (ev_int)) (eo_some (ev_var 2))) (ea_nil))) (ex_consP (ev_call (ok_values_in T) (hr.mono (by decide)) pass_cx (ea_cons (ev_slice (ev_var 1) (eo_some (ev_op dop_add (ev_var 2) (ev_int))) (eo_none)) (ea_nil))) (ex_nil)))))
    (ss_cons (s_if ((ew_or (et_cmp dop_is (ev_var 3) (ev_non) (nomark _)) (ew_or (et_cmp dop_is (ev_var 4) (ev_non) (nomark _)) (ew_or (et_cmp dop_is (ev_var 5) (ev_non) (nomark _)) (ew_or (et_cmp (dop_eq hr.units) (ev_callB dc_len (T.m_len) (by decide +kernel) (ea_cons (ev_var 4) (ea_nil))) (ev_int) (nomark _)) (ew_or1 (et_cmp (dop_eq hr.units) (ev_callB dc_len (T.m_len) (by decide +kernel) (ea_cons (ev_var 5) (ea_nil))) (ev_int) (nomark _))))))).et) (ss_one (s_ret (ev_non))) (ss_nil))
    (ss_cons (s_if ((ew_or (et_cmp (dop_ne hr.units) (ev_ix (ev_ix (ev_var 3) (ev_int)) (ev_int)) (ev_int) (nomark _)) (ew_or1 (et_cmp dop_lt (ev_ix (ev_ix (ev_var 3) (ev_int)) (ev_int)) (ev_int) (nomark _)))).et) (ss_one (s_ret (ev_non))) (ss_nil))
    (ss_one (s_ret (ev_tup (ea_cons (ev_ix (ev_ix (ev_var 3) (ev_int)) (ev_int)) (ea_cons (ev_var 4) (ea_cons (ev_var 5) (ea_nil))))))))))))
theorem sc_Bend_read : FnScope ["cls", "text", "rows"] ["cls", "text"] (defScope s_Bend_read) := ⟨rfl, rfl, rfl, by decide +kernel, rfl, by decide +kernel, by decide +kernel⟩
theorem cme_Bend_read {P : Program} {w : World} {K : PySem.W.Frag} {mg : Str → Option Value} {base : Heap} (T : Say K mg) : CmE P w K mg base 6 "Bend" "read" 2 F_Bend_read := by
  obtain ⟨fd, F⟩ := T.d_Bend_read
  exact cls_ok F sc_Bend_read T.cr_Bend T.cm_Bend_read T.gc_Bend (fun _ _ _ _ _ _ us hl => match us, hl with | [_, _], _ => rfl) fun cdv A outer s H E hr =>
    ss_cons (s_set (i := 2) (ev_call (ok_rows_in T) (hr.mono (by decide)) pass_cx (ea_cons (ev_var 1) (ea_nil))) sc_Bend_read.nd)
    (ss_cons (s_if (et_cmp dop_is (ev_var 2) (ev_non) (nomark _)) (ss_one (s_raise (xc_InvalidText T) (hr.mono (by decide)) rfl (takes_of rfl rfl rfl rfl) (ev_int))) (ss_nil))
    (ss_one (s_ret (ev_mkSl (i := 0) (mk_Bend T) (hr.mono (by decide)) pass_cx (ea_cons (ev_ix (ev_var 2) (ev_int)) (ea_cons (ev_ix (ev_var 2) (ev_int)) (ea_cons (ev_ix (ev_var 2) (ev_int)) (ea_nil))))))))
theorem sc_law_heard_v10 : FnScope ["_law_text_here", "_law_found", "e"] ["_law_text_here"] (defScope s_law_heard_v10) := ⟨rfl, rfl, rfl, by decide +kernel, rfl, by decide +kernel, by decide +kernel⟩
theorem ok_law_heard_v10 {P : Program} {w : World} {K : PySem.W.Frag} {mg : Str → Option Value} {base : Heap} (T : Say K mg) : FnE P w K mg base 8 "_law_heard" ["_law_text_here"] F_law_heard_v10 := by
  obtain ⟨fd, F⟩ := T.d_law_heard_v10
  exact fn_ok F sc_law_heard_v10 T.g_law_heard_v10 (fun _ _ _ _ _ _ us hl => match us, hl with | [_], _ => rfl) fun cdv A outer s H E hr =>
    ss_cons (s_set (i := 1) (ev_non) sc_law_heard_v10.nd)
    (ss_cons (s_tryB (i := 2) (j := 1) rfl rfl sc_law_heard_v10.nd rfl rfl rfl (by first | exact Or.inl rfl | exact Or.inr rfl) (by first | exact Or.inl rfl | exact Or.inr rfl) (by decide) T.gc_InvalidText rfl (by decide) T.gc_InvalidBend rfl (by decide) (bx_strCls (i := 1) (cme_Bend_read T) (hr.mono (by decide)) (me_Bend___str__ T) (hr.mono (by decide)) (fun _ _ => ea_cons (ev_var 0) (ea_nil)) sc_law_heard_v10.nd T.m_str) (hv_if (ht_eq hr.units (hv0_repr (hv0_fld T.xf_InvalidText rfl) (T.m_repr)) (hv0_str)) (hv_str) (hv_str)) (hv_fld T.xf_InvalidBend rfl) T.exm_InvalidText T.exm_InvalidBend T.exn_InvalidBend_InvalidText rfl rfl)
    (ss_one (s_ret (ev_var 1))))
theorem sc_law_told_value : FnScope ["_law_one"] ["_law_one"] (defScope s_law_told_value) := ⟨rfl, rfl, rfl, by decide +kernel, rfl, by decide +kernel, by decide +kernel⟩
theorem ok_law_told_value {P : Program} {w : World} {K : PySem.W.Frag} {mg : Str → Option Value} {base : Heap} (T : Say K mg) : FnE P w K mg base 1 "_law_told_value" ["_law_one"] F_law_told_value := by
  obtain ⟨fd, F⟩ := T.d_law_told_value
  exact fn_ok F sc_law_told_value T.g_law_told_value (fun _ _ _ _ _ _ us hl => match us, hl with | [_], _ => rfl) fun cdv A outer s H E hr =>
    ss_one (s_ret (ev_if (et_cmp (dop_eq hr.units) (ev_ix (ev_var 0) (ev_int)) (ev_int) (nomark _)) (ev_callTy dc_str (T.m_str) (by decide +kernel) (ea_cons (ev_ix (ev_var 0) (ev_int)) (ea_nil))) (ev_op dop_add (ev_op dop_add (ev_callTy dc_str (T.m_str) (by decide +kernel) (ea_cons (ev_ix (ev_var 0) (ev_int)) (ea_nil))) (ev_str)) (ev_callTy dc_str (T.m_str) (by decide +kernel) (ea_cons (ev_ix (ev_var 0) (ev_int)) (ea_nil))))))
theorem sc_law_text : FnScope ["_law_told", "_law_words", "_law_one"] ["_law_told"] (defScope s_law_text) := ⟨rfl, rfl, rfl, by decide +kernel, rfl, by decide +kernel, by decide +kernel⟩
theorem ok_law_text {P : Program} {w : World} {K : PySem.W.Frag} {mg : Str → Option Value} {base : Heap} (T : Say K mg) : FnE P w K mg base 2 "_law_text" ["_law_told"] F_law_text := by
  obtain ⟨fd, F⟩ := T.d_law_text
  exact fn_ok F sc_law_text T.g_law_text (fun _ _ _ _ _ _ us hl => match us, hl with | [_], _ => rfl) fun cdv A outer s H E hr =>
    ss_cons (s_set (i := 1) (ev_op dop_add ((en_lst (ea_cons (ev_str) (ea_cons (ev_callTy dc_str (T.m_str) (by decide +kernel) (ea_cons (ev_ix (ev_var 0) (ev_int)) (ea_nil))) (ea_cons (ev_str) (ea_nil))))).ev) (((lc_c (own := [("_law_one", 2)]) (iv_seq (ev_ix (ev_var 0) (ev_int))) const_seq (blkOk_by (own := [("_law_one", 2)]) (by kernel_rfl)) (fun _ _ _ _ _ => gv_name (i := 2) sc_law_text.nd) (fun _ _ _ _ _ => eif_nil) (fun _ _ _ _ _ => ev_call (ok_law_told_value T) (hr.mono (by decide)) passL (ea_cons (ev_var 2) (ea_nil)))).en rfl sc_law_text.nd).ev)) sc_law_text.nd)
    (ss_one (s_ret (ev_join (ev_str) (ev_op dop_add (ev_op dop_add (ev_var 1) ((en_lst (ea_cons (ev_str) (ea_nil))).ev)) (((lc_c (own := [("_law_one", 2)]) (iv_seq (ev_ix (ev_var 0) (ev_int))) const_seq (blkOk_by (own := [("_law_one", 2)]) (by kernel_rfl)) (fun _ _ _ _ _ => gv_name (i := 2) sc_law_text.nd) (fun _ _ _ _ _ => eif_nil) (fun _ _ _ _ _ => ev_call (ok_law_told_value T) (hr.mono (by decide)) passL (ea_cons (ev_var 2) (ea_nil)))).en rfl sc_law_text.nd).ev)))))
theorem sc_law_value : FnScope ["_law_box_here", "_law_some", "_law_deep", "_law_turn"] ["_law_box_here"] (defScope s_law_value) := ⟨rfl, rfl, rfl, by decide +kernel, rfl, by decide +kernel, by decide +kernel⟩
theorem ok_law_value {P : Program} {w : World} {K : PySem.W.Frag} {mg : Str → Option Value} {base : Heap} (T : Say K mg) : FnXE P w K mg base 3 "_law_value" 0 F_law_value := by
  obtain ⟨fd, F⟩ := T.d_law_value
  exact fn_okX F sc_law_value T.g_law_value (fun _ _ _ _ _ _ us hl => match us, hl with | [_], _ => rfl) fun cdv A outer s H E hr =>
    ss_cons (s_set (i := 1) ((en_lst (ea_cons (ev_non) (ea_cons (ev_str) (ea_cons (ev_str) (ea_cons (ev_bl) (ea_cons (ev_bl) (ea_cons ((en_lst (ea_nil)).ev) (ea_cons ((en_lst (ea_cons (ev_int) (ea_cons (ev_int) (ea_nil)))).ev) (ea_cons (ev_tup (ea_cons (ev_int) (ea_cons (ev_int) (ea_nil)))) (ea_cons (ev_tup (ea_cons (ev_int) (ea_cons (ev_int) (ea_nil)))) (ea_cons (ev_tup (ea_cons (ev_int) (ea_cons (ev_op dop_sub (ev_int) (ev_int)) (ea_nil)))) (ea_cons (ev_tup (ea_cons (ev_int) (ea_cons (ev_int) (ea_cons (ev_int) (ea_nil))))) (ea_cons (ev_str) (ea_cons (ev_tup (ea_cons (ev_tup (ea_cons (ev_int) (ea_cons (ev_int) (ea_nil)))) (ea_nil))) (ea_nil))))))))))))))).ev) sc_law_value.nd)
    (ss_cons (s_set (i := 2) (ev_tup (ea_nil)) sc_law_value.nd)
    (ss_cons (s_for pass_own rfl (iv_range1 (T.m_range) (ea_cons (ev_int) (ea_nil))) const_range1 (gv_name (i := 3) sc_law_value.nd) (ss_one (s_set (i := 2) (ev_if (et_cmp (dop_eq hr.units) (ev_op dop_mod (ev_var 3) (ev_int)) (ev_int) (nomark _)) ((en_lst (ea_cons (ev_var 2) (ea_cons (ev_int) (ea_nil)))).ev) (ev_tup (ea_cons (ev_var 2) (ea_nil)))) sc_law_value.nd)))
    (ss_one (s_ret (ev_callX (i := 0) (ok_law_pick T) (hr.mono (by decide)) pass_cx (ea_cons (ev_op dop_add (ev_var 1) ((en_lst (ea_cons (ev_var 2) (ea_cons (ev_tup (ea_cons (ev_non) (ea_cons (ev_int) (ea_nil)))) (ea_cons (ev_tup (ea_cons (ev_int) (ea_cons (ev_bl) (ea_nil)))) (ea_nil))))).ev)) (ea_nil)))))))
theorem sc_law : FnScope ["_law_script", "_law_k", "_law_box_here", "_law_turn", "_law_thing", "_law_words", "_law_more", "_law_due_here", "_law_odd", "_law_at", "_law_form"] ["_law_script"] (defScope s_law) := ⟨rfl, rfl, rfl, by decide +kernel, rfl, by decide +kernel, by decide +kernel⟩
theorem ok_law {P : Program} {w : World} {K : PySem.W.Frag} {mg : Str → Option Value} {base : Heap} {fd : FuncData} (F : FunD K "law" "law" (defArgs s_law) (defBody s_law) (defScope s_law) [] [] (He.ga K "law") fd) (T : Say K mg) : FnOk P w K mg base (L2.CX P w) 9 (He.ga K "law") fd ["_law_script"] (spP K 1 F_law) :=
  fn_ok0 F sc_law fun cdv A outer s H E hr =>
    ss_cons (s_for pass_own rfl (iv_range1 (T.m_range) (ea_cons (ev_callB (dc_max rfl) (T.m_max) (by decide +kernel) (ea_cons (ev_int) (ea_cons (ev_callB (dc_min rfl) (T.m_min) (by decide +kernel) (ea_cons (ev_int) (ea_cons (ev_callB dc_len (T.m_len) (by decide +kernel) (ea_cons (ev_var 0) (ea_nil))) (ea_nil)))) (ea_nil)))) (ea_nil))) const_range1 (gv_name (i := 1) sc_law.nd) (ss_cons (s_own (i := 2) (en_call (ok_law_box T) (hr.mono (by decide)) pass_cx (ea_cons (ev_var 0) (ea_cons (ev_var 1) (ea_cons (ev_int) (ea_nil))))) sc_law.nd)
    (ss_cons (s_for pass_own rfl (iv_range1 (T.m_range) (ea_cons (ev_int) (ea_nil))) const_range1 (gv_name (i := 3) sc_law.nd) (ss_cons (s_set (i := 5) (ev_split (ev_call (ok_law_text T) (hr.mono (by decide)) pass_cx (ea_cons (ev_callX (i := 2) (ok_law_drawn T) (hr.mono (by decide)) pass_cx (ea_cons (ev_int) (ea_cons (ev_int) (ea_nil)))) (ea_nil))) (ev_str)) sc_law.nd)
    (ss_cons (s_for pass_own rfl (iv_range1 (T.m_range) (ea_cons (ev_op dop_add (ev_int) (ev_callX (i := 2) (ok_law_take T) (hr.mono (by decide)) pass_cx (ea_cons (ev_int) (ea_nil)))) (ea_nil))) const_range1 (gv_name (i := 6) sc_law.nd) (ss_cons (s_par2 (i := 9) (j := 10) rfl sc_law.nd (ex_consP (ev_callX (i := 2) (ok_law_take T) (hr.mono (by decide)) pass_cx (ea_cons (ev_callB dc_len (T.m_len) (by decide +kernel) (ea_cons (ev_var 5) (ea_nil))) (ea_nil))) (ex_consP (ev_callX (i := 2) (ok_law_take T) (hr.mono (by decide)) pass_cx (ea_cons (ev_int) (ea_nil))) (ex_nil))))
    (ss_cons (s_set (i := 8) ((en_lst (ea_cons (ev_str) (ea_cons (ev_str) (ea_cons (ev_str) (ea_cons (ev_str) (ea_nil)))))).ev) sc_law.nd)
    (ss_cons (s_set (i := 8) (ev_op dop_add (ev_var 8) ((en_lst (ea_cons (ev_str) (ea_cons (ev_str) (ea_cons (ev_str) (ea_cons (ev_str) (ea_cons (ev_str) (ea_cons (ev_str) (ea_cons (ev_str) (ea_cons (ev_str) (ea_cons (ev_str) (ea_cons (ev_str) (ea_cons (ev_str) (ea_cons (ev_str) (ea_nil)))))))))))))).ev)) sc_law.nd)
    (ss_cons (s_set (i := 8) (ev_callX (i := 2) (ok_law_pick T) (hr.mono (by decide)) pass_cx (ea_cons (ev_op dop_add (ev_var 8) ((en_lst (ea_cons (ev_str) (ea_cons (ev_str) (ea_cons (ev_str) (ea_nil))))).ev)) (ea_nil))) sc_law.nd)
    (ss_cons (s_set (i := 5) (ev_op dop_add (ev_op dop_add (ev_slice (ev_var 5) (eo_none) (eo_some (ev_var 9))) (ev_if (et_cmp dop_gt (ev_var 10) (ev_int) (nomark _)) ((en_lst (ea_cons (ev_var 8) (ea_nil))).ev) ((en_lst (ea_nil)).ev))) (ev_slice (ev_var 5) (eo_some (ev_op dop_add (ev_var 9) (ev_callTy dc_int (T.m_int) (by decide +kernel) (ea_cons (ev_cmp dop_lt (ev_var 10) (ev_int) (nomark _)) (ea_nil))))) (eo_none))) sc_law.nd)
    (ss_one (s_set (i := 5) (ev_if (et_cmp (dop_ne hr.units) (ev_var 5) ((en_lst (ea_nil)).ev) (nomark _)) (ev_var 5) ((en_lst (ea_cons (ev_str) (ea_nil))).ev)) sc_law.nd))))))))
    (ss_cons (s_set (i := 7) (ev_call (ok_law_due T) (hr.mono (by decide)) pass_cx (ea_cons (ev_join (ev_str) (ev_var 5)) (ea_nil))) sc_law.nd)
    (ss_cons (s_set (i := 7) (ev_if (et_val (ev_isi tab_str (ev_var 7) (T.m_isinstance) (T.m_str) (by decide +kernel))) (ev_var 7) (ev_call (ok_law_text T) (hr.mono (by decide)) pass_cx (ea_cons (ev_var 7) (ea_nil)))) sc_law.nd)
    (ss_one (s_if (et_cmp (dop_ne hr.units) (ev_call (ok_law_heard_v10 T) (hr.mono (by decide)) pass_cx (ea_cons (ev_join (ev_str) (ev_var 5)) (ea_nil))) (ev_var 7) (nomark _)) (ss_one (s_ret (ev_bl))) (ss_nil))))))))
    (ss_cons (s_set (i := 4) (ev_callX (i := 2) (ok_law_value T) (hr.mono (by decide)) pass_cx (ea_nil)) sc_law.nd)
    (ss_one (s_if ((ew_and (et_not (et_val (ev_isi tab_str (ev_var 4) (T.m_isinstance) (T.m_str) (by decide +kernel)))) (ew_and1 (et_cmp (dop_ne hr.units) (ev_call (ok_law_heard_v10 T) (hr.mono (by decide)) pass_cx (ea_cons (ev_var 4) (ea_nil))) (ev_str) (nomark _)))).et) (ss_one (s_ret (ev_bl))) (ss_nil)))))))
    (ss_one (s_ret (ev_and (ev_cmp (dop_eq hr.units) (ev_call (ok_law_heard_v10 T) (hr.mono (by decide)) pass_cx (ea_cons (ev_str) (ea_nil))) (ev_str) (nomark _)) (ev_one (ev_cmp (dop_eq hr.units) (ev_call (ok_law_heard_v10 T) (hr.mono (by decide)) pass_cx (ea_cons (ev_str) (ea_nil))) (ev_str) (nomark _))))))
end HB
open PyProof.Rows PySem PySem.Calls PySem.W
theorem PySem.Challenge.cw_handlebends_k05_texts_of_no_bend_holds : PySem.Challenge.rw_handlebends_k05_texts_of_no_bend.Holds := by
  w_on; o_law
  refine HandSHeadRun.head_any (r := OpenLaw.row PySem.Challenge.rw_handlebends_k05_texts_of_no_bend) (q := view (OpenLaw.row PySem.Challenge.rw_handlebends_k05_texts_of_no_bend).prog [40]) (H := HB.hk) (ob := HB.ob) (M := 6000) (loose := HB.loo) (d := HandSHeadRun.topDef (OpenLaw.row PySem.Challenge.rw_handlebends_k05_texts_of_no_bend).prog 40) (kwd := []) HB.ob_eq
    (by kernel_rfl) (fun s => by kernel_rfl) HB.topRun (by kernel_rfl) (by kernel_rfl) (by kernel_rfl) (by rfl) (by first | assumption | decide +kernel) (by decide +kernel) ⟨rfl, rfl, rfl, rfl, rfl, by decide +kernel⟩ ?hw ?hc
  case hw => w_witness2
  case hc =>
    refine L2.walk_ofE (l := PySem.Challenge.rw_handlebends_k05_texts_of_no_bend) (n := 63) (k := 9) (x := "_law_script") (CX := L2.CX0) rfl (by decide) (by kernel_rfl) ⟨rfl, by decide, by decide⟩ ?F (fun _ _ _ _ z => z)
    intro w mg fa h Y G hmg0
    obtain ⟨K, KX, c, t, q, cm⟩ := Y
    have nm : (HandSHeadRun.topDef (OpenLaw.row PySem.Challenge.rw_handlebends_k05_texts_of_no_bend).prog 40).name = ("law" : PySem.Str) := by kernel_rfl
    have hmg := nm ▸ hmg0
    have T := HB.say KX G c t q cm
    have e2 := hmg.symm.trans T.g_law
    cases e2
    obtain ⟨fd, F⟩ := T.d_law
    have b := L2.FunD.bindsA (ps := ["_law_script"]) F fun _ _ _ _ _ _ us hl => match us, hl with | [_], _ => rfl
    refine ⟨K, fd, HB.spE (HB.spP K 1 HB.F_law), KX, fun s v => b s [v] rfl, fun H a ns hl _ hS => HB.law_sp HB.law_true H a ns hl hS, fun base _ _ => ?_⟩
    exact HB.ok_cx0 (HB.ok_law F T)

