import PyProof.Rows.All
import Wide.All
import OpenK.AllK
import Wide.FinOn
import HandS.ForMost
import HandS.ForExc
import HandS.Wide
import HandS.IsInst
import HandS.Deep
import HandS.Star
import HandS.Flow
import HandS.Zip
import HandS.FStr
import HandS.Style
import HandS.TupAny
import HandS.Conv
import HandS.Codes
import HandS.HeadHook2
import HandS.Lambda
import HandS.Nested
import KE.KRevSl
import KE.GoesEnumKw
import KE.GoesMore
import HandS.Head0
import HandS.Head1
import HandS.Head2
import HandS.HeadEnd
import HandS.HeadHook1
import HandS.CallLocal
import KE.KCallOwn
import PyProof.ReprReads
import PyProof.ReprRoads
import HandS.Exc
import HandS.ExcInit
import HandS.ExcOwn
import HandS.ExcField
import KE.KExcIs
import PyProof.InstNe
import HandS.DictComp
import PyProof.SeqIndex
import HandS.TryOnly
import HandS.ClsMeth
import HandS.HeadNt
import HandS.Text
import HandS.RaiseMore
import HandS.ExcValue
import HandS.HeadHook4
import HandS.EndTab
import HandS.NestedK
import KE.KDictZip
import PyProof.Rows.StrBin
import PyProof.ReprLen
import PyProof.FitsInt
import PySem.Challenge.RW_handlebends_k38_curves_known_by_hand
set_option Elab.async false
set_option linter.all false
set_option autoImplicit false
set_option maxRecDepth 100000
set_option maxHeartbeats 0
namespace HB
open PySem L2
abbrev D := PyData
abbrev Exn := Str × List (Str × D)
/-- no table -/
class NoT (o : HO) : Prop where
  no : ∀ ps, o ≠ .tbl ps
instance {xs : List V} : NoT (.lst xs) := ⟨fun _ z => by cases z⟩
instance {xs : List V} : NoT (.tup xs) := ⟨fun _ z => by cases z⟩
instance {xs : List (Key × V)} : NoT (.dK xs) := ⟨fun _ z => by cases z⟩
instance {xs : List (List Key × V)} : NoT (.dT xs) := ⟨fun _ z => by cases z⟩
instance {S : Int → Bool} {n : Nat} : NoT (.set S n) := ⟨fun _ z => by cases z⟩
instance {C dx : Addr} {fs : List (Str × V)} : NoT (.ins C dx fs) := ⟨fun _ z => by cases z⟩
instance {x : Addr} : NoT (.own x) := ⟨fun _ z => by cases z⟩
instance {fs : List (Str × V)} : NoT (.xd fs) := ⟨fun _ z => by cases z⟩
instance {f x : Addr} : NoT (.met f x) := ⟨fun _ z => by cases z⟩
instance {lo hi : Int} : NoT (.rng lo hi) := ⟨fun _ z => by cases z⟩
instance {o : Obj} {u : HO} : NoT (.frz o u) := ⟨fun _ z => by cases z⟩
instance {φ : Heap → Prop} : NoT (.ext φ) := ⟨fun _ z => by cases z⟩
instance {f : Addr} {F : NdefX.NF} : NoT (NdefX.FnO f F) := ⟨fun _ z => by unfold NdefX.FnO at z; cases z⟩
instance {c : Addr} {q : Str} : NoT (LamX.CodeO c q) := ⟨fun _ z => by unfold LamX.CodeO at z; cases z⟩
/-- tables stay tables -/
def Tt (H H' : Hp) : Prop := ∀ b ps, H b = some (.tbl ps) → ∃ ps', H' b = some (.tbl ps')
theorem Tt.trans {H H1 H2 : Hp} (a : Tt H H1) (b : Tt H1 H2) : Tt H H2 := fun c ps h => let ⟨ps', h'⟩ := a c ps h; b c ps' h'
/-- the name of the nested def (the lambda) that stands there -/
def nestQ (line col : Nat) : Str := if col = 4 then "not_nought.<locals>.choose" else "_law_all_heard.<locals>.<lambda>"
/-- a table that tells known code objects; those of the made functions are known -/
def TabG (H : Hp) (P : Addr) : Prop := NdefX.TabN H P nestQ ∧ ∀ f F, H f = some (NdefX.FnO f F) → H F.c = some (LamX.CodeO F.c F.qual)
/-- .. and what they tell is known -/
structure Tx (H H' : Hp) : Prop where
  t : Tt H H'
  n : ∀ P, TabG H P → TabG H' P
theorem Tx.trans {H H1 H2 : Hp} (a : Tx H H1) (b : Tx H1 H2) : Tx H H2 := ⟨a.t.trans b.t, fun P h => b.n P (a.n P h)⟩
/-- what is there stays there, tables as tables -/
structure Dm (H H' : Hp) : Prop where
  d : ∀ b, H' b = none → H b = none
  t : Tx H H'
instance {H H' : Hp} : CoeFun (Dm H H') fun _ => ∀ b, H' b = none → H b = none := ⟨Dm.d⟩
theorem Dm.trans {H H1 H2 : Hp} (a : Dm H H1) (b : Dm H1 H2) : Dm H H2 := ⟨fun c h => a.d c (b.d c h), a.t.trans b.t⟩
structure Same (H H' : Hp) : Prop where
  s : ∀ b o, H b = some o → [NoT o] → H' b = some o
  t : Tt H H'
instance {H H' : Hp} : CoeFun (Same H H') fun _ => ∀ b o, H b = some o → [NoT o] → H' b = some o := ⟨Same.s⟩
theorem Same.trans {H H1 H2 : Hp} (a : Same H H1) (b : Same H1 H2) : Same H H2 := ⟨fun c o h => b.s c o (a.s c o h), a.t.trans b.t⟩
theorem not_not {o : HO} (h : ¬ NoT o) : ∃ ps, o = .tbl ps := by
  cases o with
  | tbl ps => exact ⟨ps, rfl⟩
  | _ => exact (h inferInstance).elim
theorem Same.some {H H' : Hp} (e : Same H H') {l : Addr} {o : HO} (h : H l = some o) : ∃ o', H' l = some o' := by
  by_cases q : NoT o
  · exact ⟨o, e.s l o h⟩
  · obtain ⟨ps, rfl⟩ := not_not q
    obtain ⟨ps', h'⟩ := e.t l ps h
    exact ⟨_, h'⟩
theorem Same.free {H H' : Hp} {l : Addr} (e : Same H H') (h : H' l = Option.none) : H l = Option.none := by
  cases q : H l with
  | none => rfl
  | some o =>
    obtain ⟨o', h'⟩ := e.some q
    rw [h'] at h
    cases h
theorem Same.seq {H H' : Hp} {K : PySem.W.Frag} {a : Addr} {xs : List V} (e : Same H H') (h : SqL K H a xs) : SqL K H' a xs := by
  rcases h with (k | ⟨o, k⟩) | k
  · exact .inl (.inl (e.s _ _ k))
  · exact .inl (.inr ⟨o, e.s _ _ k⟩)
  · exact .inr k
/-- the defs that make functions -/
def makers : List Str := ["not_nought", "_law_all_heard"]
/-- the function that stands at f -/
def IsFd (K : PySem.W.Frag) (f : Addr) (fd : FuncData) : Prop := ∃ oc od osl, K.lookup f = some ⟨oc, od, .func fd, osl⟩
/-- P is the table of the def x, and not of what never changes -/
def TabAt (K : PySem.W.Frag) (x : Str) (P : Addr) : Prop := ∃ fd c, IsFd K (He.ga K x) fd ∧ fd.code = .ref c ∧ PySem.W.codeHdIn K c P = true ∧ K.lookup P = none
structure TabOk (K : PySem.W.Frag) (H : Hp) : Prop where
  at_ : ∀ x ∈ makers, ∀ P, TabAt K x P → TabG H P
/-- the known things within the heap, and the tables in order -/
structure Sub (K : PySem.W.Frag) (G H : Hp) : Prop extends Same G H where
  tb : TabOk K H
instance {K : PySem.W.Frag} {G H : Hp} : CoeFun (Sub K G H) fun _ => ∀ b o, G b = some o → [NoT o] → H b = some o := ⟨fun s => s.toSame.s⟩
instance {K : PySem.W.Frag} {G H : Hp} : CoeOut (Sub K G H) (Same G H) := ⟨Sub.toSame⟩
/-- a tuple whose object has no dict -/
def SqP (K : PySem.W.Frag) (H : Hp) (a : Addr) (xs : List V) : Prop := (∃ o, H a = some (.frz o (.tup xs)) ∧ o.dict = none) ∨
  ∃ (o : Obj) (its : Array Value) (n : Nat), K.lookup a = some o ∧ o.dict = none ∧ o.cls = .type "tuple" ∧ o.data = .seq its n ∧ its.size ≤ sizeLine ∧ Vals xs its.toList
theorem SqP.t {K : PySem.W.Frag} {H : Hp} {a : Addr} {xs : List V} (h : SqP K H a xs) : SqT K H a xs :=
  h.elim (fun ⟨o, e, _⟩ => .inl (.inr ⟨o, e⟩)) fun ⟨o, its, n, l, _, c, d, z, r⟩ => .inr ⟨o, its, n, l, c, d, z, r⟩
/-- the cell at a holds v -/
def cellO (a : Addr) (v : V) : HO := .ext fun h => ∃ u, L2.RelV v u ∧ h.IsCell a (some u)
instance {a : Addr} {v : V} : NoT (cellO a v) := ⟨fun _ z => by unfold cellO at z; cases z⟩
/-- fd begins with the def whose text is F's -/
def NestIn (fd : FuncData) (F : NdefX.NF) : Prop := ∃ pos rest, fd.body = .stmts (.FunctionDef F.name F.params F.body [] none [] F.scope none F.name pos :: rest)
structure NestOf (K : PySem.W.Frag) (F : NdefX.NF) (a : Addr) : Prop where
  cl : F.cl = [(("rows" : Str), a)]
  qual : F.qual = ("not_nought.<locals>.choose" : Str)
  nest : ∀ fd, IsFd K (He.ga K "not_nought") fd → NestIn fd F
mutual
inductive Rp (K : PySem.W.Frag) (H : Hp) : V → D → Prop
  | non : Rp K H .non .none
  | bl (b : Bool) : Rp K H (.bl b) (.bool b)
  | int (i : Int) : Rp K H (.int i) (.int i)
  | str (x : Str) : Rp K H (.str x) (.str x)
  | lst {a : Addr} {xs : List V} {ds : List D} : H a = some (.lst xs) → RpAll K H xs ds → Rp K H (.ref a) (.list ds)
  | tup {a : Addr} {xs : List V} {ds : List D} : SqP K H a xs → RpAll K H xs ds → Rp K H (.ref a) (.tuple ds)
  | frz {a : Addr} {xs : List V} {ds : List D} : SqL K H a xs → RpAll K H xs ds → Rp K H (.ref a) (.dict [(.none, .list ds)])
  | obj {a dx : Addr} {c : Str} {fs : List (Str × V)} {kvs : List (D × D)} : H a = some (.ins (He.ga K c) dx fs) → RpF K H fs kvs → Rp K H (.ref a) (.dict ((.str c, .none) :: kvs))
  | adr (a : Addr) : Rp K H (.ref a) (.dict [(.int a, .none)])
  | fn (x : Str) : Rp K H (.ref (He.ga K x)) (.dict [(.none, .str x)])
  | gst (a : Addr) (g : Nat) : Rp K H (.ref a) (.dict [(.bool true, .int g)])
  | clo {f a : Addr} {F : NdefX.NF} {v : V} {d : D} : NestOf K F a → H f = some (NdefX.FnO f F) → H a = some (cellO a v) → Rp K H v d → Rp K H (.ref f) (.dict [(.bool false, d)])
inductive RpAll (K : PySem.W.Frag) (H : Hp) : List V → List D → Prop
  | nil : RpAll K H [] []
  | cons {v : V} {vs : List V} {d : D} {ds : List D} : Rp K H v d → RpAll K H vs ds → RpAll K H (v :: vs) (d :: ds)
inductive RpF (K : PySem.W.Frag) (H : Hp) : List (Str × V) → List (D × D) → Prop
  | nil : RpF K H [] []
  | cons {f : Str} {v : V} {fs : List (Str × V)} {d : D} {kvs : List (D × D)} : Rp K H v d → RpF K H fs kvs → RpF K H ((f, v) :: fs) ((.str f, d) :: kvs)
end
theorem RpAll.length {K : PySem.W.Frag} {H : Hp} : ∀ {vs : List V} {ds : List D}, RpAll K H vs ds → vs.length = ds.length
  | _, _, .nil => rfl
  | _, _, .cons _ t => congrArg (· + 1) t.length
theorem RpAll.set {K : PySem.W.Frag} {H : Hp} {v : V} {d : D} (r : Rp K H v d) : ∀ {vs : List V} {ds : List D} (i : Nat), RpAll K H vs ds → RpAll K H (vs.set i v) (ds.set i d)
  | _, _, _, .nil => .nil
  | _, _, 0, .cons _ rest => .cons r rest
  | _, _, i + 1, .cons q t => .cons q (RpAll.set r i t)
inductive Sl where
  | no
  | pur (d : D)
  | own (ds : List D)
  | box (ds : List D)
  | dl (o : Bool) (g : Nat) (z : D)
  | gst (o : Bool) (xs : List D)
/-- a list that another slot holds: its mark -/
abbrev gD (g : Nat) : D := .dict [(.bool true, .int g)]
def Sl.ls : Sl → Option (List D)
  | .own ds => some ds
  | .box ds => some ds
  | _ => none
/-- what the slot's list holds, whatever the slot's kind -/
def Sl.hs : Sl → Option (List D)
  | .own ds => some ds
  | .box ds => some ds
  | .dl _ g z => some [gD g, z]
  | .gst _ xs => some xs
  | _ => none
abbrev En := List Sl
/-- neither a table nor a code object nor a made function -/
class NoC (o : HO) : Prop extends NoT o where
  nc : ∀ c q, o ≠ LamX.CodeO c q
  nf : ∀ f F, o ≠ NdefX.FnO f F
instance {xs : List V} : NoC (.lst xs) := ⟨fun _ _ z => (by unfold LamX.CodeO at z; cases z), fun _ _ z => (by unfold NdefX.FnO at z; cases z)⟩
instance {xs : List V} : NoC (.tup xs) := ⟨fun _ _ z => (by unfold LamX.CodeO at z; cases z), fun _ _ z => (by unfold NdefX.FnO at z; cases z)⟩
instance {S : Int → Bool} {n : Nat} : NoC (.set S n) := ⟨fun _ _ z => (by unfold LamX.CodeO at z; cases z), fun _ _ z => (by unfold NdefX.FnO at z; cases z)⟩
instance {xs : List (Key × V)} : NoC (.dK xs) := ⟨fun _ _ z => (by unfold LamX.CodeO at z; cases z), fun _ _ z => (by unfold NdefX.FnO at z; cases z)⟩
instance {xs : List (List Key × V)} : NoC (.dT xs) := ⟨fun _ _ z => (by unfold LamX.CodeO at z; cases z), fun _ _ z => (by unfold NdefX.FnO at z; cases z)⟩
instance {C dx : Addr} {fs : List (Str × V)} : NoC (.ins C dx fs) := ⟨fun _ _ z => (by unfold LamX.CodeO at z; cases z), fun _ _ z => (by unfold NdefX.FnO at z; cases z)⟩
instance {x : Addr} : NoC (.own x) := ⟨fun _ _ z => (by unfold LamX.CodeO at z; cases z), fun _ _ z => (by unfold NdefX.FnO at z; cases z)⟩
instance {fs : List (Str × V)} : NoC (.xd fs) := ⟨fun _ _ z => (by unfold LamX.CodeO at z; cases z), fun _ _ z => (by unfold NdefX.FnO at z; cases z)⟩
instance {f x : Addr} : NoC (.met f x) := ⟨fun _ _ z => (by unfold LamX.CodeO at z; cases z), fun _ _ z => (by unfold NdefX.FnO at z; cases z)⟩
instance {lo hi : Int} : NoC (.rng lo hi) := ⟨fun _ _ z => (by unfold LamX.CodeO at z; cases z), fun _ _ z => (by unfold NdefX.FnO at z; cases z)⟩
instance {o : Obj} {u : HO} : NoC (.frz o u) := ⟨fun _ _ z => (by unfold LamX.CodeO at z; cases z), fun _ _ z => (by unfold NdefX.FnO at z; cases z)⟩
/-- all stays, the tables in order -/
structure SameT (H H' : Hp) : Prop extends Same H H' where
  g : ∀ P, TabG H P → TabG H' P
instance {H H' : Hp} : CoeOut (SameT H H') (Same H H') := ⟨SameT.toSame⟩
theorem SameT.trans {H H1 H2 : Hp} (a : SameT H H1) (b : SameT H1 H2) : SameT H H2 := ⟨a.toSame.trans b.toSame, fun P t => b.g P (a.g P t)⟩
end HB
namespace HB
open PySem L2
section
variable {X : Cx}
theorem SqP.obj {pins : List (Addr × Obj)} {σ : St} {H : Hp} {s : Shared} {a : Addr} {xs : List V} (I : Inv X pins σ H s) (h : SqP X.K H a xs) : ∃ o, s.heap.get? a = some o ∧ o.dict = none ∧ o.cls = .type "tuple" := by
  rcases h with ⟨o, e, n⟩ | ⟨o, _, _, l, n, c, _⟩
  · have ⟨e1, _, _, _, o2, e2, c, _⟩ := I.hok a _ e
    exact ⟨o, e1, n, Option.some.inj (e1.symm.trans e2) ▸ c⟩
  · exact ⟨o, I.kIn a o l, n, c⟩
end
end HB
namespace HB
open PySem L2
section
variable {X : Cx}
mutual
theorem Rp.dp {K : PySem.W.Frag} {H : Hp} : ∀ {v : V} (d : D), d.canLay0 = true → Rp K H v d → Dp K H v d
  | _, .none, _, r => by cases r; exact .non
  | _, .bool b, _, r => by cases r; exact .bl _
  | _, .int b, _, r => by cases r; exact .int _
  | _, .str b, _, r => by cases r; exact .str _
  | _, .list ds, c, r => by
    cases r with
    | lst h1 h2 => exact .lst (.of h1) (RpAll.dp ds (by simpa [PyData.canLay0] using c) h2)
  | _, .tuple ds, c, r => by
    cases r with
    | tup h1 h2 => exact .tup h1.t (RpAll.dp ds (by simpa [PyData.canLay0] using c) h2)
  | _, .dict _, c, r => by simp [PyData.canLay0] at c
theorem RpAll.dp {K : PySem.W.Frag} {H : Hp} : ∀ {vs : List V} (ds : List D), PyData.canLayAll0 ds = true → RpAll K H vs ds → DpAll K H vs ds
  | _, [], _, r => by cases r; exact .nil
  | _, d :: ds, c, r => by
    cases r with
    | cons h t =>
      have c2 : (d.canLay0 && PyData.canLayAll0 ds) = true := by simpa [PyData.canLayAll0] using c
      obtain ⟨c3, c4⟩ := Bool.and_eq_true_iff.mp c2
      exact .cons (Rp.dp d c3 h) (RpAll.dp ds c4 t)
end
end
end HB
namespace HB
open PySem L2
theorem RpF.len {K : PySem.W.Frag} {H : Hp} : ∀ {fs : List (Str × V)} {kvs : List (D × D)}, RpF K H fs kvs → fs.length = kvs.length
  | _, _, .nil => rfl
  | _, _, .cons _ t => congrArg (· + 1) t.len
end HB
namespace HB
open PySem L2
abbrev AlX : Type := He.AlD × Bool
/-- a constant that is a tuple without a dict -/
def tupN (K : PySem.W.Frag) (x : Str) (vs : List He.Dv) : Bool := He.tupB K x vs && (match K.lookup (He.ga K x) with
  | some o => o.dict.isNone
  | none => false)
end HB
namespace HB
open PySem L2
mutual
def eqP : D → D → Bool
  | .none, .none => true
  | .bool a, .bool b => a == b
  | .int a, .int b => decide (a = b)
  | .str a, .str b => decide (a = b)
  | .list a, .list b => eqPs a b
  | .tuple a, .tuple b => eqPs a b
  | .dict a, .dict b => eqPk a b
  | _, _ => false
def eqPs : List D → List D → Bool
  | [], [] => true
  | a :: r, b :: s => eqP a b && eqPs r s
  | _, _ => false
def eqPk : List (D × D) → List (D × D) → Bool
  | [], [] => true
  | (a, c) :: r, (b, d) :: s => eqP a b && (eqP c d && eqPk r s)
  | _, _ => false
end
mutual
theorem eqP_ok : ∀ (a b : D), eqP a b = true → a = b
  | .none, b, h => by cases b <;> first | rfl | (simp [eqP] at h)
  | .bool a, b, h => by cases b <;> first | (simp [eqP] at h; rw [h]) | (simp [eqP] at h)
  | .int a, b, h => by cases b <;> first | (simp [eqP] at h; rw [h]) | (simp [eqP] at h)
  | .str a, b, h => by cases b <;> first | (simp [eqP] at h; rw [h]) | (simp [eqP] at h)
  | .list a, b, h => by
    cases b with
    | list b => unfold eqP at h; rw [eqPs_ok a b h]
    | _ => simp [eqP] at h
  | .tuple a, b, h => by
    cases b with
    | tuple b => unfold eqP at h; rw [eqPs_ok a b h]
    | _ => simp [eqP] at h
  | .dict a, b, h => by
    cases b with
    | dict b => unfold eqP at h; rw [eqPk_ok a b h]
    | _ => simp [eqP] at h
theorem eqPs_ok : ∀ (a b : List D), eqPs a b = true → a = b
  | [], b, h => by cases b with
    | nil => rfl
    | cons _ _ => simp [eqPs] at h
  | a :: r, b, h => by cases b with
    | nil => simp [eqPs] at h
    | cons b s =>
      unfold eqPs at h
      obtain ⟨h1, h2⟩ := Bool.and_eq_true_iff.mp h
      rw [eqP_ok a b h1, eqPs_ok r s h2]
theorem eqPk_ok : ∀ (a b : List (D × D)), eqPk a b = true → a = b
  | [], b, h => by cases b with
    | nil => rfl
    | cons _ _ => simp [eqPk] at h
  | (a, c) :: r, b, h => by cases b with
    | nil => simp [eqPk] at h
    | cons b s =>
      obtain ⟨b, d⟩ := b
      unfold eqPk at h
      obtain ⟨h1, h2⟩ := Bool.and_eq_true_iff.mp h
      obtain ⟨h2, h3⟩ := Bool.and_eq_true_iff.mp h2
      rw [eqP_ok a b h1, eqP_ok c d h2, eqPk_ok r s h3]
end
end HB
namespace HB
open PySem L2
def oexB (K : PySem.W.Frag) (C : Addr) : Bool := (match K.lookup C with
  | some ⟨.type "type", _, .cls kd, sl⟩ => (match kd.mro, sl.toList with
    | .ref C2 :: bm, [_, _, _, _, some (.builtin n), _] => decide (C2 = C) && (decide (n = "ValueError.__new__") && (!kd.hasDel && (kd.hasDict && PySem.HandSPX.refsVE bm)))
    | _, _ => false)
  | _ => false) && (He.eqO (PySem.W.findIn K (.ref C) "__setattr__") (some (some (.builtin "object.__setattr__"))) && (decide (PySem.W.subIn K (.ref C) (.type "BaseException") = some true) && (decide (PySem.W.typeIn K (.ref C) = some (.type "type")) && PySem.W.keepIn K (.ref C))))
/-- a class over BendError with one field, kept by its own __init__ -/
def excB (K : PySem.W.Frag) (c f : Str) : Bool := oexB K (He.ga K c) && (xfB K (He.ga K c) && (He.eqO (PySem.W.findIn K (.ref (He.ga K c)) f) (some none) && (He.eqO (PySem.W.findIn K (.ref (He.ga K c)) "__init__") (some (some (.ref (He.ma K (He.ga K c) "__init__")))) &&
  decide (PySem.W.typeIn K (.ref (He.ma K (He.ga K c) "__init__")) = some (.type "function")))))
/-- the class that all of them are -/
def botB (K : PySem.W.Frag) (b : Str) : Bool := PySem.W.readsIn K (He.ga K b) (.type "type") && (match PySem.W.findCls K (.ref (He.ga K b)) (.type "type") "__init__" with
  | some (.val (.builtin "ValueError.__init__")) => He.eqO (PySem.W.specialIn K (.ref (He.ga K b)) "__getattribute__") (some (some (.builtin "type.__getattribute__")))
  | _ => false)
end HB
namespace HB
open PySem L2
section
variable {X : Cx} {i : Nat}
/-- what isinstance wants of an error class -/
def isxB (K : PySem.W.Frag) (c : Str) : Bool := (PySem.W.clsIn K (He.ga K c)).isSome && (He.eqO (PySem.W.findIn K (.ref (He.ga K c)) "__class__") (some (some (.builtin "object.__class__"))) && (decide (PySem.W.specialIn K (.builtin "object.__class__") "__get__" = some (some (.builtin "getset_descriptor.__get__"))) &&
  (decide (PySem.W.takesIn K (.builtin "object.__class__") = some true) && decide (PySem.W.mroIn K (He.ga K c) (.type "object") = some true))))
end
end HB
namespace HB
open PySem L2
def obsE (fa : List He.Fa) (fn : List He.DefD) (tp : List (Str × List He.Dv)) (xs : List (PySem.W.Frag → Bool)) (K : PySem.W.Frag) : AlX := (He.obsD fa fn K, (tp.all fun p => tupN K p.1 p.2) && xs.all fun p => p K)
end HB
namespace HB
open PySem L2
mutual
def freeL : D → Bool
  | .list _ => false
  | .tuple ds => freeLs ds
  | .dict kvs => freeLk kvs
  | _ => true
def freeLs : List D → Bool
  | [] => true
  | d :: ds => freeL d && freeLs ds
def freeLk : List (D × D) → Bool
  | [] => true
  | (_, v) :: r => freeL v && freeLk r
end
end HB
namespace HB
open PySem L2
abbrev KyL := List (List L2.Key × Addr × Value)
abbrev knd (X : Cx) := tupleKind (mixKind X.prog X.w)
/-- at D a dict, its keys tuples -/
def KeyD (X : Cx) (D : Addr) (ks : KyL) (h : Heap) : Prop := ∃ o es ep, h.get? D = some o ∧ o.ExactDict ∧ o.data = .dict es ep ∧ es.toList = ks.map (entryOfKey (knd X)) ∧ (ks.map (·.1)).Nodup ∧ ks.length ≤ sizeLine
section
variable {X : Cx} {pins : List (Addr × Obj)} {σ : St} {H : Hp} {s : Shared} {D b : Addr} {ks : KyL} {k : List L2.Key} {E : Value → Shared → Prop}
/-- a heap with o everywhere up to c -/
def heapOf (c : Addr) (o : Obj) : Heap := Heap.mk (Array.replicate (c + 1) o) {}
theorem heapOf_at {c b : Addr} {o : Obj} {u : Obj} (h : (heapOf c o).get? b = some u) : u = o := by
  unfold heapOf Heap.get? at h
  rw [Array.getElem?_replicate] at h
  by_cases q : b < c + 1
  · rw [if_pos q] at h
    split at h
    · cases h
    · rw [← Option.some.inj h]
  · rw [if_neg q] at h
    cases h
theorem heapOf_is {c : Addr} {o : Obj} (h : o.data ≠ .freed) : (heapOf c o).get? c = some o := by
  unfold heapOf Heap.get?
  rw [Array.getElem?_replicate, if_pos (Nat.lt_succ_self c)]
  obtain ⟨a, b, d, e⟩ := o
  cases d <;> first | rfl | exact absurd rfl h
theorem no_code {c : Addr} {q : Str} {φ : Heap → Prop} (h : ∀ h, φ h → ∃ o, h.get? D = some o ∧ ∀ vs, o.data ≠ .fields vs) : HO.ext φ ≠ LamX.CodeO c q := fun z => by
  unfold LamX.CodeO at z
  have e : φ = _ := HO.ext.inj z
  have g : (heapOf c { cls := .none, data := .fields #[.none, .str q 0] }).get? c = _ := heapOf_is (by simp)
  obtain ⟨o1, e1, n1⟩ := h (heapOf c { cls := .none, data := .fields #[.none, .str q 0] }) (by rw [e]; exact ⟨_, _, 0, g, rfl, rfl⟩)
  rw [heapOf_at e1] at n1
  exact n1 _ rfl
theorem no_fn {c : Addr} {F : NdefX.NF} {φ : Heap → Prop} (h : ∀ h, φ h → ∃ o, h.get? D = some o ∧ ∀ f, o.data ≠ .func f) : HO.ext φ ≠ NdefX.FnO c F := fun z => by
  unfold NdefX.FnO at z
  have e : φ = _ := HO.ext.inj z
  have g : (heapOf c { cls := .type "function", data := .func (F.fd .none .none .none) }).get? c = _ := heapOf_is (by simp)
  obtain ⟨o1, e1, n1⟩ := h (heapOf c { cls := .type "function", data := .func (F.fd .none .none .none) }) (by rw [e]; exact ⟨_, _, .none, .none, .none, g⟩)
  rw [heapOf_at e1] at n1
  exact n1 _ rfl
instance keyD_noC : NoC (.ext (KeyD X D ks)) :=
  ⟨fun c q => no_code fun h ⟨o, es, ep, e, _, d, _⟩ => ⟨o, e, fun vs z => by rw [d] at z; cases z⟩, fun c F => no_fn fun h ⟨o, es, ep, e, _, d, _⟩ => ⟨o, e, fun vs z => by rw [d] at z; cases z⟩⟩
end
end HB
namespace HB
open PySem L2
def obsF (as : List Addr) (fa : List He.Fa) (fn : List He.DefD) (tp : List (Str × List He.Dv)) (xs : List (PySem.W.Frag → Bool)) (g : Addr → Option Obj) : AlX := obsE fa fn tp xs (He.frG g (cStatics :: as))
def hookF (as : List Addr) (fa : List He.Fa) (fn : List He.DefD) (tp : List (Str × List He.Dv)) (xs : List (PySem.W.Frag → Bool)) : PySem.W.Hook where
  α := AlX
  obs := fun s => obsF as fa fn tp xs s.heap.get?
  val := fun _ => (He.valD fn, true)
  says := fun _ h => ∃ K : PySem.W.Frag, K.In h ∧ He.SaysD fa fn K ∧ (tp.all fun p => tupN K p.1 p.2) = true ∧ (xs.all fun p => p K) = true
  of := fun _ _ e => ⟨_, He.frG_in, congrArg Prod.fst e, He.ba (congrArg Prod.snd e)⟩
  keeps := fun _ _ _ y k => let ⟨K, hK, said⟩ := y; ⟨K, hK.keeps k, said⟩
def seenA : List Addr := List.range' 3 1300
end HB
namespace HB
open PySem L2
def excB0 (K : PySem.W.Frag) (c : Str) : Bool := oexB K (He.ga K c) && (He.eqO (PySem.W.findIn K (.ref (He.ga K c)) "__init__") (some (some (.ref (He.ma K (He.ga K c) "__init__")))) &&
  decide (PySem.W.typeIn K (.ref (He.ma K (He.ga K c) "__init__")) = some (.type "function")))
end HB
namespace HB
open PySem L2
section
variable {X : Cx} {E : XK}
def istB (K : PySem.W.Frag) (c : Str) : Bool := decide (PySem.W.kitOne K (.ref (He.ga K c)) (.type "tuple") = some false)
end
end HB
namespace HB
open PySem L2 NdefX LamX
mutual
def noClo : D → Bool
  | .list ds => noClos ds
  | .tuple ds => noClos ds
  | .dict kvs => noClok kvs
  | _ => true
def noClos : List D → Bool
  | [] => true
  | d :: ds => noClo d && noClos ds
def noClok : List (D × D) → Bool
  | [] => true
  | (.bool false, _) :: _ => false
  | (_, d) :: ds => noClo d && noClok ds
end
theorem cell_noCode {a c : Addr} {v : V} {q : Str} : cellO a v ≠ CodeO c q := no_code (D := a) fun h ⟨u, _, o, e, d⟩ => ⟨o, e, fun vs z => by rw [d] at z; cases z⟩
theorem cell_noFn {a c : Addr} {v : V} {F : NF} : cellO a v ≠ FnO c F := no_fn (D := a) fun h ⟨u, _, o, e, d⟩ => ⟨o, e, fun vs z => by rw [d] at z; cases z⟩
instance {a : Addr} {v : V} : NoC (cellO a v) := ⟨fun _ _ => cell_noCode, fun _ _ => cell_noFn⟩
end HB
namespace HB
open PySem L2 NdefX LamX
def noFd (K : PySem.W.Frag) (x : Str) : Bool := match K.lookup (He.ga K x) with
  | some ⟨_, _, .func _, _⟩ => false
  | _ => true
end HB
namespace HB
open PySem L2
def topS (i : Nat) : Stmt := PySem.Challenge.pw_handlebends_k38_curves_known_by_hand.main.body.getD i (.Pass ⟨0, 0, 0, 0⟩)
abbrev s_InvalidBend_init : Stmt := (C8.clsBody (topS 2)).getD 0 (.Pass ⟨0, 0, 0, 0⟩)
abbrev s_is_less : Stmt := topS 21
abbrev s_is_sequence : Stmt := topS 12
abbrev s_common_part : Stmt := topS 13
abbrev s_is_integer : Stmt := topS 11
abbrev s_is_value : Stmt := topS 15
abbrev s_value_of : Stmt := topS 16
abbrev s_are_marks : Stmt := topS 30
abbrev s_text_of : Stmt := topS 25
abbrev s_text_of_bend : Stmt := topS 32
abbrev s_Bend_init : Stmt := (C8.clsBody (topS 31)).getD 0 (.Pass ⟨0, 0, 0, 0⟩)
abbrev s_in_lowest : Stmt := topS 14
abbrev s_added : Stmt := topS 17
abbrev s_multiplied : Stmt := topS 19
abbrev s_poly_at : Stmt := topS 43
abbrev s_is_at_most : Stmt := topS 22
abbrev s_poly_in : Stmt := topS 55
abbrev s_curve_at : Stmt := topS 78
abbrev s_Place_is_known : Stmt := (C8.clsBody (topS 67)).getD 1 (.Pass ⟨0, 0, 0, 0⟩)
abbrev s_quotient : Stmt := topS 20
abbrev s_middle_of : Stmt := topS 24
abbrev s_gaps_in : Stmt := topS 77
abbrev s_Place_init : Stmt := (C8.clsBody (topS 67)).getD 0 (.Pass ⟨0, 0, 0, 0⟩)
abbrev s_changes_of : Stmt := topS 70
abbrev s_sign_of : Stmt := topS 23
abbrev s_changes_at : Stmt := topS 71
abbrev s_less_by : Stmt := topS 18
abbrev s_power_at : Stmt := topS 38
abbrev s_trimmed : Stmt := topS 37
abbrev s_poly_less : Stmt := topS 40
abbrev s_poly_scaled : Stmt := topS 41
abbrev s_divided : Stmt := topS 45
abbrev s_common_factor : Stmt := topS 46
abbrev s_poly_slope : Stmt := topS 44
abbrev s_plain_part : Stmt := topS 68
abbrev s_sorted_places : Stmt := topS 73
abbrev s_sturm_row : Stmt := topS 69
abbrev s_without_zero : Stmt := topS 72
abbrev s_times_between : Stmt := topS 74
abbrev s_with_stretch : Stmt := topS 75
abbrev s_places_in : Stmt := topS 76
abbrev s_signs_in : Stmt := topS 79
abbrev s_is_kept_up : Stmt := topS 92
abbrev s_knots_of : Stmt := topS 34
abbrev s_Piece_init : Stmt := (C8.clsBody (topS 51)).getD 0 (.Pass ⟨0, 0, 0, 0⟩)
abbrev s_poly_sum : Stmt := topS 39
abbrev s_poly_times : Stmt := topS 42
abbrev s_share_poly : Stmt := topS 52
abbrev s_piece_at : Stmt := topS 53
abbrev s_pieces_of : Stmt := topS 54
abbrev s_slopes_of : Stmt := topS 91
abbrev s_bends_up : Stmt := topS 97
abbrev s_sign_row : Stmt := topS 80
abbrev s_inner_places : Stmt := topS 81
abbrev s_crossings : Stmt := topS 82
abbrev s_Unlike_init : Stmt := (C8.clsBody (topS 4)).getD 0 (.Pass ⟨0, 0, 0, 0⟩)
abbrev s_need_alike : Stmt := topS 61
abbrev s_put_together_vfdb7 : Stmt := topS 63
abbrev s_is_above_v23b1 : Stmt := topS 93
abbrev s_never_below_vd7c6 : Stmt := topS 94
abbrev s_rises : Stmt := topS 95
abbrev s_rises_always : Stmt := topS 96
abbrev s_touches : Stmt := topS 83
abbrev s_law_case_right : Stmt := topS 100
abbrev s_law_cases_v9df0 : Stmt := topS 99
abbrev s_law_deal : Stmt := topS 101
abbrev s_law_draw : Stmt := topS 102
abbrev s_law_mixed_v3e4d : Stmt := topS 103
abbrev s_places : Stmt := topS 84
abbrev s_is_pair : Stmt := topS 88
abbrev s_side_of : Stmt := topS 85
abbrev s_is_in : Stmt := topS 86
abbrev s_is_told_by : Stmt := topS 87
abbrev s_places_hold : Stmt := topS 89
abbrev s_order_at : Stmt := topS 47
abbrev s_alike_slopes : Stmt := topS 57
abbrev s_merged : Stmt := topS 58
abbrev s_choices : Stmt := topS 48
abbrev s_shared : Stmt := topS 49
abbrev s_bend_with : Stmt := topS 56
abbrev s_least_of : Stmt := topS 59
abbrev s_scaled : Stmt := topS 64
abbrev s_law : Stmt := topS 104
end HB
namespace HB
open PySem L2
def fa0 : List He.Fa := [.free "abs",
  .free "all",
  .free "any",
  .free "bool",
  .free "enumerate",
  .free "int",
  .free "isinstance",
  .free "len",
  .free "list",
  .free "max",
  .free "range",
  .free "str",
  .free "tuple",
  .glo "DOWN",
  .glo "NONE",
  .glo "NOUGHT",
  .glo "ONE",
  .int "PAIR" 2,
  .cls "Bend",
  .mkr "Bend",
  .glo "Bend",
  .cls "Piece",
  .mkr "Piece",
  .glo "Piece",
  .cls "Place",
  .mkr "Place",
  .glo "Place",
  .meth "Place" "is_known",
  .glo "BendError",
  .glo "InvalidBend"]
def fa1 : List He.Fa := [.glo "Unlike",
  .noat "Bend" "degree",
  .noat "Bend" "handles",
  .noat "Bend" "marks",
  .noat "Bend" "text",
  .noat "Piece" "end",
  .noat "Piece" "poly",
  .noat "Piece" "start",
  .noat "Place" "factor",
  .noat "Place" "first",
  .noat "Place" "is_stretch",
  .noat "Place" "last",
  .noat "Place" "poly",
  .glo "is_less",
  .glo "is_sequence",
  .glo "common_part",
  .glo "is_integer",
  .glo "is_value",
  .glo "value_of",
  .glo "are_marks",
  .glo "text_of",
  .glo "text_of_bend",
  .glo "in_lowest",
  .glo "added",
  .glo "multiplied",
  .glo "poly_at",
  .glo "is_at_most",
  .glo "poly_in",
  .glo "curve_at",
  .glo "quotient"]
def fa2 : List He.Fa := [.glo "middle_of",
  .glo "gaps_in",
  .glo "changes_of",
  .glo "sign_of",
  .glo "changes_at",
  .glo "less_by",
  .glo "power_at",
  .glo "trimmed",
  .glo "poly_less",
  .glo "poly_scaled",
  .glo "divided",
  .glo "common_factor",
  .glo "poly_slope",
  .glo "plain_part",
  .glo "sorted_places",
  .glo "sturm_row",
  .glo "without_zero",
  .glo "times_between",
  .glo "with_stretch",
  .glo "places_in",
  .glo "signs_in",
  .glo "is_kept_up",
  .glo "knots_of",
  .glo "poly_sum",
  .glo "poly_times",
  .glo "share_poly",
  .glo "piece_at",
  .glo "pieces_of",
  .glo "slopes_of",
  .glo "bends_up"]
def fa3 : List He.Fa := [.glo "sign_row",
  .glo "inner_places",
  .glo "crossings",
  .glo "need_alike",
  .glo "put_together",
  .glo "is_above",
  .glo "never_below",
  .glo "rises",
  .glo "rises_always",
  .glo "touches",
  .glo "_law_case_right",
  .glo "_law_cases",
  .glo "_law_deal",
  .glo "_law_draw",
  .glo "_law_mixed",
  .glo "places",
  .glo "is_pair",
  .glo "side_of",
  .glo "is_in",
  .glo "is_told_by",
  .glo "places_hold",
  .glo "order_at",
  .glo "alike_slopes",
  .glo "merged",
  .glo "choices",
  .glo "shared",
  .glo "bend_with",
  .glo "least_of",
  .glo "scaled",
  .glo "law"]
def fa : List He.Fa := fa0 ++ fa1 ++ fa2 ++ fa3
def fn0 : List He.DefD := [⟨("InvalidBend", some "__init__"), "__init__", "InvalidBend.__init__", defArgs s_InvalidBend_init, defBody s_InvalidBend_init, defScope s_InvalidBend_init, [], []⟩,
  ⟨("is_less", none), "is_less", "is_less", defArgs s_is_less, defBody s_is_less, defScope s_is_less, [], []⟩,
  ⟨("is_sequence", none), "is_sequence", "is_sequence", defArgs s_is_sequence, defBody s_is_sequence, defScope s_is_sequence, [], []⟩,
  ⟨("common_part", none), "common_part", "common_part", defArgs s_common_part, defBody s_common_part, defScope s_common_part, [], []⟩,
  ⟨("is_integer", none), "is_integer", "is_integer", defArgs s_is_integer, defBody s_is_integer, defScope s_is_integer, [], []⟩,
  ⟨("is_value", none), "is_value", "is_value", defArgs s_is_value, defBody s_is_value, defScope s_is_value, [], []⟩,
  ⟨("value_of", none), "value_of", "value_of", defArgs s_value_of, defBody s_value_of, defScope s_value_of, [], []⟩,
  ⟨("are_marks", none), "are_marks", "are_marks", defArgs s_are_marks, defBody s_are_marks, defScope s_are_marks, [], []⟩,
  ⟨("text_of", none), "text_of", "text_of", defArgs s_text_of, defBody s_text_of, defScope s_text_of, [], []⟩,
  ⟨("text_of_bend", none), "text_of_bend", "text_of_bend", defArgs s_text_of_bend, defBody s_text_of_bend, defScope s_text_of_bend, [], []⟩,
  ⟨("Bend", some "__init__"), "__init__", "Bend.__init__", defArgs s_Bend_init, defBody s_Bend_init, defScope s_Bend_init, [], []⟩,
  ⟨("in_lowest", none), "in_lowest", "in_lowest", defArgs s_in_lowest, defBody s_in_lowest, defScope s_in_lowest, [], []⟩,
  ⟨("added", none), "added", "added", defArgs s_added, defBody s_added, defScope s_added, [], []⟩,
  ⟨("multiplied", none), "multiplied", "multiplied", defArgs s_multiplied, defBody s_multiplied, defScope s_multiplied, [], []⟩,
  ⟨("poly_at", none), "poly_at", "poly_at", defArgs s_poly_at, defBody s_poly_at, defScope s_poly_at, [], []⟩,
  ⟨("is_at_most", none), "is_at_most", "is_at_most", defArgs s_is_at_most, defBody s_is_at_most, defScope s_is_at_most, [], []⟩,
  ⟨("poly_in", none), "poly_in", "poly_in", defArgs s_poly_in, defBody s_poly_in, defScope s_poly_in, [], []⟩,
  ⟨("curve_at", none), "curve_at", "curve_at", defArgs s_curve_at, defBody s_curve_at, defScope s_curve_at, [], []⟩,
  ⟨("Place", some "is_known"), "is_known", "Place.is_known", defArgs s_Place_is_known, defBody s_Place_is_known, defScope s_Place_is_known, [], []⟩,
  ⟨("quotient", none), "quotient", "quotient", defArgs s_quotient, defBody s_quotient, defScope s_quotient, [], []⟩,
  ⟨("middle_of", none), "middle_of", "middle_of", defArgs s_middle_of, defBody s_middle_of, defScope s_middle_of, [], []⟩,
  ⟨("gaps_in", none), "gaps_in", "gaps_in", defArgs s_gaps_in, defBody s_gaps_in, defScope s_gaps_in, [], []⟩,
  ⟨("Place", some "__init__"), "__init__", "Place.__init__", defArgs s_Place_init, defBody s_Place_init, defScope s_Place_init, [], []⟩,
  ⟨("changes_of", none), "changes_of", "changes_of", defArgs s_changes_of, defBody s_changes_of, defScope s_changes_of, [], []⟩,
  ⟨("sign_of", none), "sign_of", "sign_of", defArgs s_sign_of, defBody s_sign_of, defScope s_sign_of, [], []⟩,
  ⟨("changes_at", none), "changes_at", "changes_at", defArgs s_changes_at, defBody s_changes_at, defScope s_changes_at, [], []⟩,
  ⟨("less_by", none), "less_by", "less_by", defArgs s_less_by, defBody s_less_by, defScope s_less_by, [], []⟩,
  ⟨("power_at", none), "power_at", "power_at", defArgs s_power_at, defBody s_power_at, defScope s_power_at, [], []⟩,
  ⟨("trimmed", none), "trimmed", "trimmed", defArgs s_trimmed, defBody s_trimmed, defScope s_trimmed, [], []⟩,
  ⟨("poly_less", none), "poly_less", "poly_less", defArgs s_poly_less, defBody s_poly_less, defScope s_poly_less, [], []⟩]
def fn1 : List He.DefD := [⟨("poly_scaled", none), "poly_scaled", "poly_scaled", defArgs s_poly_scaled, defBody s_poly_scaled, defScope s_poly_scaled, [], []⟩,
  ⟨("divided", none), "divided", "divided", defArgs s_divided, defBody s_divided, defScope s_divided, [], []⟩,
  ⟨("common_factor", none), "common_factor", "common_factor", defArgs s_common_factor, defBody s_common_factor, defScope s_common_factor, [], []⟩,
  ⟨("poly_slope", none), "poly_slope", "poly_slope", defArgs s_poly_slope, defBody s_poly_slope, defScope s_poly_slope, [], []⟩,
  ⟨("plain_part", none), "plain_part", "plain_part", defArgs s_plain_part, defBody s_plain_part, defScope s_plain_part, [], []⟩,
  ⟨("sorted_places", none), "sorted_places", "sorted_places", defArgs s_sorted_places, defBody s_sorted_places, defScope s_sorted_places, [], []⟩,
  ⟨("sturm_row", none), "sturm_row", "sturm_row", defArgs s_sturm_row, defBody s_sturm_row, defScope s_sturm_row, [], []⟩,
  ⟨("without_zero", none), "without_zero", "without_zero", defArgs s_without_zero, defBody s_without_zero, defScope s_without_zero, [], []⟩,
  ⟨("times_between", none), "times_between", "times_between", defArgs s_times_between, defBody s_times_between, defScope s_times_between, [], []⟩,
  ⟨("with_stretch", none), "with_stretch", "with_stretch", defArgs s_with_stretch, defBody s_with_stretch, defScope s_with_stretch, [], []⟩,
  ⟨("places_in", none), "places_in", "places_in", defArgs s_places_in, defBody s_places_in, defScope s_places_in, [], []⟩,
  ⟨("signs_in", none), "signs_in", "signs_in", defArgs s_signs_in, defBody s_signs_in, defScope s_signs_in, [], []⟩,
  ⟨("is_kept_up", none), "is_kept_up", "is_kept_up", defArgs s_is_kept_up, defBody s_is_kept_up, defScope s_is_kept_up, [], []⟩,
  ⟨("knots_of", none), "knots_of", "knots_of", defArgs s_knots_of, defBody s_knots_of, defScope s_knots_of, [], []⟩,
  ⟨("Piece", some "__init__"), "__init__", "Piece.__init__", defArgs s_Piece_init, defBody s_Piece_init, defScope s_Piece_init, [], []⟩,
  ⟨("poly_sum", none), "poly_sum", "poly_sum", defArgs s_poly_sum, defBody s_poly_sum, defScope s_poly_sum, [], []⟩,
  ⟨("poly_times", none), "poly_times", "poly_times", defArgs s_poly_times, defBody s_poly_times, defScope s_poly_times, [], []⟩,
  ⟨("share_poly", none), "share_poly", "share_poly", defArgs s_share_poly, defBody s_share_poly, defScope s_share_poly, [], []⟩,
  ⟨("piece_at", none), "piece_at", "piece_at", defArgs s_piece_at, defBody s_piece_at, defScope s_piece_at, [], []⟩,
  ⟨("pieces_of", none), "pieces_of", "pieces_of", defArgs s_pieces_of, defBody s_pieces_of, defScope s_pieces_of, [], []⟩,
  ⟨("slopes_of", none), "slopes_of", "slopes_of", defArgs s_slopes_of, defBody s_slopes_of, defScope s_slopes_of, [], []⟩,
  ⟨("bends_up", none), "bends_up", "bends_up", defArgs s_bends_up, defBody s_bends_up, defScope s_bends_up, [], []⟩,
  ⟨("sign_row", none), "sign_row", "sign_row", defArgs s_sign_row, defBody s_sign_row, defScope s_sign_row, [], []⟩,
  ⟨("inner_places", none), "inner_places", "inner_places", defArgs s_inner_places, defBody s_inner_places, defScope s_inner_places, [], []⟩,
  ⟨("crossings", none), "crossings", "crossings", defArgs s_crossings, defBody s_crossings, defScope s_crossings, [], []⟩,
  ⟨("Unlike", some "__init__"), "__init__", "Unlike.__init__", defArgs s_Unlike_init, defBody s_Unlike_init, defScope s_Unlike_init, [], []⟩,
  ⟨("need_alike", none), "need_alike", "need_alike", defArgs s_need_alike, defBody s_need_alike, defScope s_need_alike, [], []⟩,
  ⟨("put_together", none), "put_together", "put_together", defArgs s_put_together_vfdb7, defBody s_put_together_vfdb7, defScope s_put_together_vfdb7, [], []⟩,
  ⟨("is_above", none), "is_above", "is_above", defArgs s_is_above_v23b1, defBody s_is_above_v23b1, defScope s_is_above_v23b1, [], []⟩,
  ⟨("never_below", none), "never_below", "never_below", defArgs s_never_below_vd7c6, defBody s_never_below_vd7c6, defScope s_never_below_vd7c6, [], []⟩]
def fn2 : List He.DefD := [⟨("rises", none), "rises", "rises", defArgs s_rises, defBody s_rises, defScope s_rises, [], []⟩,
  ⟨("rises_always", none), "rises_always", "rises_always", defArgs s_rises_always, defBody s_rises_always, defScope s_rises_always, [], []⟩,
  ⟨("touches", none), "touches", "touches", defArgs s_touches, defBody s_touches, defScope s_touches, [], []⟩,
  ⟨("_law_case_right", none), "_law_case_right", "_law_case_right", defArgs s_law_case_right, defBody s_law_case_right, defScope s_law_case_right, [], []⟩,
  ⟨("_law_cases", none), "_law_cases", "_law_cases", defArgs s_law_cases_v9df0, defBody s_law_cases_v9df0, defScope s_law_cases_v9df0, [], []⟩,
  ⟨("_law_deal", none), "_law_deal", "_law_deal", defArgs s_law_deal, defBody s_law_deal, defScope s_law_deal, [], []⟩,
  ⟨("_law_draw", none), "_law_draw", "_law_draw", defArgs s_law_draw, defBody s_law_draw, defScope s_law_draw, [], []⟩,
  ⟨("_law_mixed", none), "_law_mixed", "_law_mixed", defArgs s_law_mixed_v3e4d, defBody s_law_mixed_v3e4d, defScope s_law_mixed_v3e4d, [], []⟩,
  ⟨("places", none), "places", "places", defArgs s_places, defBody s_places, defScope s_places, [], []⟩,
  ⟨("is_pair", none), "is_pair", "is_pair", defArgs s_is_pair, defBody s_is_pair, defScope s_is_pair, [], []⟩,
  ⟨("side_of", none), "side_of", "side_of", defArgs s_side_of, defBody s_side_of, defScope s_side_of, [], []⟩,
  ⟨("is_in", none), "is_in", "is_in", defArgs s_is_in, defBody s_is_in, defScope s_is_in, [], []⟩,
  ⟨("is_told_by", none), "is_told_by", "is_told_by", defArgs s_is_told_by, defBody s_is_told_by, defScope s_is_told_by, [], []⟩,
  ⟨("places_hold", none), "places_hold", "places_hold", defArgs s_places_hold, defBody s_places_hold, defScope s_places_hold, [], []⟩,
  ⟨("order_at", none), "order_at", "order_at", defArgs s_order_at, defBody s_order_at, defScope s_order_at, [], []⟩,
  ⟨("alike_slopes", none), "alike_slopes", "alike_slopes", defArgs s_alike_slopes, defBody s_alike_slopes, defScope s_alike_slopes, [], []⟩,
  ⟨("merged", none), "merged", "merged", defArgs s_merged, defBody s_merged, defScope s_merged, [], []⟩,
  ⟨("choices", none), "choices", "choices", defArgs s_choices, defBody s_choices, defScope s_choices, [], []⟩,
  ⟨("shared", none), "shared", "shared", defArgs s_shared, defBody s_shared, defScope s_shared, [], []⟩,
  ⟨("bend_with", none), "bend_with", "bend_with", defArgs s_bend_with, defBody s_bend_with, defScope s_bend_with, [], []⟩,
  ⟨("least_of", none), "least_of", "least_of", defArgs s_least_of, defBody s_least_of, defScope s_least_of, [], []⟩,
  ⟨("scaled", none), "scaled", "scaled", defArgs s_scaled, defBody s_scaled, defScope s_scaled, [], []⟩,
  ⟨("law", none), "law", "law", defArgs s_law, defBody s_law, defScope s_law, [], []⟩]
def fn : List He.DefD := fn0 ++ fn1 ++ fn2
def tp0 : List (Str × List He.Dv) := [("DOWN", [.int (-1), .int 1]),
  ("NONE", []),
  ("NOUGHT", [.int 0, .int 1]),
  ("ONE", [.int 1, .int 1])]
def tp : List (Str × List He.Dv) := tp0
def loo0 : List Str := ["__name__",
  "BendError",
  "InvalidBend",
  "InvalidText",
  "Unlike",
  "PAIR",
  "DIGITS",
  "MOST_DIGITS",
  "NOUGHT",
  "ONE",
  "is_integer",
  "is_sequence",
  "common_part",
  "in_lowest",
  "is_value",
  "value_of",
  "added",
  "less_by",
  "multiplied",
  "quotient",
  "is_less",
  "is_at_most",
  "sign_of",
  "middle_of",
  "text_of",
  "number_in",
  "value_in",
  "values_in",
  "are_marks",
  "Bend"]
def loo1 : List Str := ["text_of_bend",
  "rows_in",
  "knots_of",
  "NONE",
  "trimmed",
  "power_at",
  "poly_sum",
  "poly_less",
  "poly_scaled",
  "poly_times",
  "poly_at",
  "poly_slope",
  "divided",
  "common_factor",
  "order_at",
  "choices",
  "shared",
  "Piece",
  "share_poly",
  "piece_at",
  "pieces_of",
  "poly_in",
  "bend_with",
  "alike_slopes",
  "merged",
  "least_of",
  "need_alike",
  "put_together",
  "scaled",
  "DOWN"]
def loo2 : List Str := ["Place",
  "plain_part",
  "sturm_row",
  "changes_of",
  "changes_at",
  "without_zero",
  "sorted_places",
  "times_between",
  "with_stretch",
  "places_in",
  "gaps_in",
  "curve_at",
  "signs_in",
  "sign_row",
  "inner_places",
  "crossings",
  "touches",
  "places",
  "side_of",
  "is_in",
  "is_told_by",
  "is_pair",
  "places_hold",
  "slopes_of",
  "is_kept_up",
  "is_above",
  "never_below",
  "rises",
  "rises_always",
  "bends_up"]
def loo3 : List Str := ["_law_cases",
  "_law_case_right",
  "_law_deal",
  "_law_draw",
  "_law_mixed"]
def loo : List Str := loo0 ++ loo1 ++ loo2 ++ loo3
def xs0 : List (PySem.W.Frag → Bool) := [fun K => excB K "InvalidBend" "word",
  fun K => excB0 K "Unlike",
  fun K => botB K "BendError",
  fun K => isxB K "Bend",
  fun K => istB K "Bend",
  fun K => noFd K "not_nought",
  fun K => noFd K "_law_all_heard"]
def xs : List (PySem.W.Frag → Bool) := xs0
abbrev rowR : PySem.W.OpenRow := PySem.W.OpenLaw.row PySem.Challenge.rw_handlebends_k38_curves_known_by_hand
abbrev hk : PySem.W.Hook := hookF seenA fa fn tp xs
def ob (s : PySem.W.SharedT) : AlX := obsF seenA fa fn tp xs (HandSHeadRun.getT s)
theorem topRun (w : World) : HandSHeadRun.RunEq rowR (PySem.W.view rowR.prog [104]) hk ob 6000 loo w := by
  intro os
  kernel_rfl
end HB
namespace HB
open PySem L2
theorem Tt.refl (H : Hp) : Tt H H := fun _ ps h => ⟨ps, h⟩
theorem Tx.refl (H : Hp) : Tx H H := ⟨.refl H, fun _ h => h⟩
theorem Same.refl (H : Hp) : Same H H := ⟨fun _ _ h => h, .refl H⟩
theorem TabOk.up {K : PySem.W.Frag} {H H' : Hp} (t : TabOk K H) (g : ∀ P, TabG H P → TabG H' P) : TabOk K H' := ⟨fun x hx P h => g P (t.at_ x hx P h)⟩
theorem sqP_mono {K : PySem.W.Frag} {H H' : Hp} {a : Addr} {xs : List V} (s : Same H H') (h : SqP K H a xs) : SqP K H' a xs := h.elim (fun ⟨o, e, n⟩ => .inl ⟨o, s _ _ e, n⟩) .inr
theorem SqP.new {K : PySem.W.Frag} {H : Hp} {p : Addr} {o : Obj} {xs : List V} (n : o.dict = none) : SqP K (upd H p (.frz o (.tup xs))) p xs := .inl ⟨o, upd_same, n⟩
theorem sqT_mono {K : PySem.W.Frag} {H H' : Hp} {a : Addr} {xs : List V} (s : Same H H') (h : SqT K H a xs) : SqT K H' a xs := by
  exact h.elim (fun z => .inl (z.elim (fun y => .inl (s _ _ y)) fun ⟨o, y⟩ => .inr ⟨o, s _ _ y⟩)) .inr
theorem Rp.mono {K : PySem.W.Frag} {H H' : Hp} (s : Same H H') {v : V} {d : D} (r : Rp K H v d) : Rp K H' v d :=
  @Rp.rec K H (fun v d _ => Rp K H' v d) (fun vs ds _ => RpAll K H' vs ds) (fun fs kvs _ => RpF K H' fs kvs)
    .non (fun b => .bl b) (fun i => .int i) (fun x => .str x) (fun h _ ih => .lst (s _ _ h) ih) (fun h _ ih => .tup (sqP_mono s h) ih) (fun h _ ih => .frz (s.seq h) ih) (fun h _ ih => .obj (s _ _ h) ih) (fun a => .adr a) (fun x => .fn x) (fun v g => .gst v g) (fun n hf ha _ ih => .clo n (s _ _ hf) (s _ _ ha) ih)
    .nil (fun _ _ h t => .cons h t) .nil (fun _ _ h t => .cons h t) v d r
theorem RpAll.mono {K : PySem.W.Frag} {H H' : Hp} (s : Same H H') : ∀ {vs : List V} {ds : List D}, RpAll K H vs ds → RpAll K H' vs ds
  | _, _, .nil => .nil
  | _, _, .cons r t => .cons (r.mono s) (RpAll.mono s t)
theorem RpAll.get {K : PySem.W.Frag} {H : Hp} : ∀ {vs : List V} {ds : List D} {i : Nat} {d : D}, RpAll K H vs ds → ds[i]? = some d → ∃ v, vs[i]? = some v ∧ Rp K H v d
  | _, _, _, _, .nil, no => by simp at no
  | _, _, 0, _, .cons r _, e => by
    have e2 := Option.some.inj (show some _ = some _ from e)
    subst e2
    exact ⟨_, rfl, r⟩
  | _, _, i + 1, _, .cons _ t, e => by
    obtain ⟨v, h1, h2⟩ := RpAll.get (i := i) t e
    exact ⟨v, h1, h2⟩
theorem RpAll.append {K : PySem.W.Frag} {H : Hp} : ∀ {vs ws : List V} {ds es : List D}, RpAll K H vs ds → RpAll K H ws es → RpAll K H (vs ++ ws) (ds ++ es)
  | _, _, _, _, .nil, s => s
  | _, _, _, _, .cons r t, s => .cons r (t.append s)
theorem RpAll.take {K : PySem.W.Frag} {H : Hp} : ∀ {vs : List V} {ds : List D} (n : Nat), RpAll K H vs ds → RpAll K H (vs.take n) (ds.take n)
  | _, _, 0, _ => .nil
  | _, _, _ + 1, .nil => .nil
  | _, _, n + 1, .cons r t => .cons r (t.take n)
theorem RpAll.drop {K : PySem.W.Frag} {H : Hp} : ∀ {vs : List V} {ds : List D} (n : Nat), RpAll K H vs ds → RpAll K H (vs.drop n) (ds.drop n)
  | _, _, 0, r => r
  | _, _, _ + 1, .nil => .nil
  | _, _, n + 1, .cons _ t => t.drop n
theorem Sl.ls_hs {s : Sl} {ds : List D} (h : s.ls = some ds) : s.hs = some ds := by
  cases s with
  | own _ => exact h
  | box _ => exact h
  | _ => cases h
/-- a list handed in, within another one -/
def Sl.isD : Sl → Bool
  | .dl false _ _ => true
  | .gst false _ => true
  | _ => false
theorem Sl.isD_hs {s : Sl} (h : s.isD = true) : ∃ es, s.hs = some es := by
  cases s with
  | dl _ g z => exact ⟨_, rfl⟩
  | gst _ xs => exact ⟨_, rfl⟩
  | _ => cases h
/-- a list that is the slot's alone stands at b -/
def Ownd (ρ : En) (σ : St) (b : Addr) : Prop := ∃ (i : Nat) (s : Sl) (ds : List D), ρ[i]? = some s ∧ s.hs = some ds ∧ σ[i]? = some (some (.ref b))
structure J (K : PySem.W.Frag) (G : Hp) (ρ : En) (σ : St) (H : Hp) : Prop where
  sub : Sub K G H
  len : ρ.length = σ.length
  pur : ∀ (i : Nat) (d : D), ρ[i]? = some (.pur d) → ∃ v, σ[i]? = some (some v) ∧ Rp K G v d
  hold : ∀ (i : Nat) (s : Sl) (ds : List D), ρ[i]? = some s → s.hs = some ds → ∃ (a : Addr) (vs : List V), σ[i]? = some (some (.ref a)) ∧ H a = some (.lst vs) ∧ G a = none ∧ RpAll K G vs ds
  alone : ∀ (i j : Nat) (s t : Sl) (ds es : List D) (b : Addr), ρ[i]? = some s → s.hs = some ds → ρ[j]? = some t → t.hs = some es → σ[i]? = some (some (.ref b)) → σ[j]? = some (some (.ref b)) → i = j
  lk : ∀ (i g : Nat) (o o' : Bool) (z : D) (xs : List D), ρ[i]? = some (.dl o g z) → ρ[g]? = some (.gst o' xs) → ∃ (a : Addr) (v u : V), σ[i]? = some (some (.ref a)) ∧ H a = some (.lst [v, u]) ∧ σ[g]? = some (some v)
theorem J.own {K : PySem.W.Frag} {G : Hp} {ρ : En} {σ : St} {H : Hp} (j : J K G ρ σ H) (i : Nat) (s : Sl) (ds : List D) (h : ρ[i]? = some s) (hl : s.ls = some ds) : ∃ (a : Addr) (vs : List V), σ[i]? = some (some (.ref a)) ∧ H a = some (.lst vs) ∧ G a = none ∧ RpAll K G vs ds := j.hold i s ds h (Sl.ls_hs hl)
theorem J.dis {K : PySem.W.Frag} {G : Hp} {ρ : En} {σ : St} {H : Hp} (j : J K G ρ σ H) (i k : Nat) (s t : Sl) (ds es : List D) (b : Addr) (h1 : ρ[i]? = some s) (l1 : s.hs = some ds) (h2 : ρ[k]? = some t) (l2 : t.hs = some es) (h3 : σ[i]? = some (some (.ref b))) (h4 : σ[k]? = some (some (.ref b))) : i = k := j.alone i k s t ds es b h1 l1 h2 l2 h3 h4
/-- what may have happened -/
structure Ex (K : PySem.W.Frag) (G : Hp) (ρ : En) (σ : St) (H : Hp) (G' : Hp) (ρ' : En) (σ' : St) (H' : Hp) : Prop where
  j : J K G' ρ' σ' H'
  g : Same G G'
  new : ∀ b, G' b ≠ none → G b ≠ none ∨ H b = none ∨ Ownd ρ σ b
  kept : ∀ b o, H b = some o → ¬ Ownd ρ σ b → [NoT o] → H' b = some o
  ow : ∀ b, Ownd ρ' σ' b → Ownd ρ σ b ∨ H b = none
  dom : ∀ b, H' b = none → H b = none
  bx : ∀ (i : Nat) (ds : List D), ρ'[i]? = some (.box ds) → (∃ es, ρ[i]? = some (.box es)) ∧ σ'[i]? = σ[i]?
  bd : ∀ (i : Nat) (s : Sl), ρ'[i]? = some s → s.isD = true → (∃ s0, ρ[i]? = some s0 ∧ s0.isD = true) ∧ σ'[i]? = σ[i]?
  tt : Tx H H'
/-- nothing that was there is changed -/
structure PX (G H G' H' : Hp) : Prop where
  h : Same H H'
  g : Same G G'
  s : Same G' H'
  new : ∀ b, G' b ≠ none → G b ≠ none ∨ H b = none
  tb : ∀ P, TabG H P → TabG H' P
theorem PX.refl {G H : Hp} (s : Same G H) : PX G H G H := ⟨.refl _, .refl _, s, fun _ h => .inl h, fun _ h => h⟩
theorem PX.trans {G H G1 H1 G2 H2 : Hp} (a : PX G H G1 H1) (b : PX G1 H1 G2 H2) : PX G H G2 H2 :=
  ⟨a.h.trans b.h, a.g.trans b.g, b.s, fun c hc => (b.new c hc).elim (fun z => a.new c z) fun z => .inr (a.h.free z), fun P t => b.tb P (a.tb P t)⟩
theorem same_upd {H : Hp} {p : Addr} {o : HO} (np : H p = none) : Same H (upd H p o) := ⟨fun b x e => (upd_ne (ne_of_none e np)).trans e, fun b ps e => ⟨ps, (upd_ne (ne_of_none e np)).trans e⟩⟩
theorem same_upd2 {G H : Hp} {p : Addr} {o : HO} (s : Same G H) : Same (upd G p o) (upd H p o) := ⟨fun b x e => by
  by_cases hb : b = p
  · subst hb; rw [upd_same] at e ⊢; exact e
  · rw [upd_ne hb] at e ⊢; exact s.s _ _ e, fun b ps e => by
  by_cases hb : b = p
  · subst hb; rw [upd_same] at e ⊢; exact ⟨ps, e⟩
  · rw [upd_ne hb] at e ⊢; exact s.t _ _ e⟩
/-- no table and no code object stands at p -/
def PlainAt (H : Hp) (p : Addr) : Prop := ∀ o, H p = some o → NoC o
theorem pl_none {H : Hp} {p : Addr} (h : H p = none) : PlainAt H p := fun o e => by rw [h] at e; cases e
theorem pl_of {H : Hp} {p : Addr} {o : HO} (h : H p = some o) [n : NoC o] : PlainAt H p := fun o' e => by rw [h] at e; cases e; exact n
theorem Tt.put {H : Hp} {p : Addr} {o : HO} (pl : PlainAt H p) : Tt H (upd H p o) := fun b ps e => by
  by_cases hb : b = p
  · subst hb; exact absurd rfl ((pl _ e).no ps)
  · exact ⟨ps, (upd_ne hb).trans e⟩
theorem tabG_put {H : Hp} {P p : Addr} {o : HO} (t : TabG H P) (pl : PlainAt H p) [n : NoC o] : TabG (upd H p o) P := by
  obtain ⟨⟨ps, e, h1, h2⟩, h3⟩ := t
  refine ⟨⟨ps, ?_, h1, fun pos cv hc => ?_⟩, fun f F hf => ?_⟩
  · refine (upd_ne fun z => ?_).trans e
    subst z
    exact absurd rfl ((pl _ e).no ps)
  · obtain ⟨c, e1, e2⟩ := h2 pos cv hc
    exact ⟨c, e1, (upd_ne fun z => by subst z; exact (pl _ e2).nc c _ rfl).trans e2⟩
  · have z := h3 f F ((upd_ne fun z => by subst z; rw [upd_same] at hf; exact n.nf _ _ (Option.some.inj hf)).symm.trans hf)
    exact (upd_ne fun y => by rw [y] at z; exact (pl _ z).nc _ _ (by rw [← y])).trans z
theorem Tx.put {H : Hp} {p : Addr} {o : HO} (pl : PlainAt H p) [NoC o] : Tx H (upd H p o) := ⟨.put pl, fun _ t => tabG_put t pl⟩
theorem TabOk.put {K : PySem.W.Frag} {H : Hp} {p : Addr} {o : HO} (t : TabOk K H) (pl : PlainAt H p) [n : NoC o] : TabOk K (upd H p o) := t.up fun _ g => tabG_put g pl
theorem SameT.refl (H : Hp) : SameT H H := ⟨.refl H, fun _ h => h⟩
theorem sameT_upd {H : Hp} {p : Addr} {o : HO} (np : H p = none) [NoC o] : SameT H (upd H p o) := ⟨same_upd np, fun _ t => tabG_put t (pl_none np)⟩
theorem SameT.tx {H H' : Hp} (s : SameT H H') : Tx H H' := ⟨s.toSame.t, s.g⟩
section
variable {K : PySem.W.Frag} {G H : Hp}
theorem Sub.up {G' H' : Hp} (s : Sub K G H) (x : PX G H G' H') : Sub K G' H' := ⟨x.s, s.tb.up x.tb⟩
/-- what stands there is known from now on -/
theorem Sub.take (s : Sub K G H) {p : Addr} {o : HO} (h : H p = some o) : Sub K (upd G p o) H := ⟨⟨fun b x e => by
  by_cases hb : b = p
  · subst hb; rw [upd_same] at e; rw [← e]; exact h
  · rw [upd_ne hb] at e; exact s.toSame.s _ _ e, fun b ps e => by
  by_cases hb : b = p
  · subst hb; rw [upd_same] at e; exact ⟨ps, by rw [← e]; exact h⟩
  · rw [upd_ne hb] at e; exact s.toSame.t _ _ e⟩, s.tb⟩
/-- what is not known changes -/
theorem Sub.put (s : Sub K G H) {p : Addr} {o : HO} (h : G p = none) (pl : PlainAt H p) [NoC o] : Sub K G (upd H p o) := ⟨⟨fun b x e => (upd_ne (ne_of_none e h)).trans (s.toSame.s _ _ e), fun b ps e => by
  obtain ⟨ps', e'⟩ := s.toSame.t b ps e
  exact ⟨ps', (upd_ne (ne_of_none e h)).trans e'⟩⟩, s.tb.put pl⟩
theorem Sub.new (s : Sub K G H) {p : Addr} {o : HO} (h : H p = none) [NoC o] : Sub K G (upd H p o) := s.put (s.toSame.free h) (pl_none h)
/-- what is known is no more than that -/
theorem Sub.pl (s : Sub K G H) {p : Addr} (h : ∀ o, H p = some o → NoC o) : PlainAt H p := h
end
theorem PX.ht {G H G' H' : Hp} (x : PX G H G' H') : SameT H H' := ⟨x.h, x.tb⟩
/-- a new object -/
theorem PX.alloc {G H : Hp} (s : Same G H) {p : Addr} (hp : H p = none) (o : HO) [NoC o] : PX G H (upd G p o) (upd H p o) :=
  ⟨same_upd hp, same_upd (s.free hp), same_upd2 s, fun b hb => by
    by_cases e : b = p
    · subst e; exact .inr hp
    · rw [upd_ne e] at hb; exact .inl hb, fun _ t => tabG_put t (pl_none hp)⟩
section
variable {K : PySem.W.Frag} {G H G' H' : Hp} {ρ ρ' : En} {σ σ' : St}
theorem J.px (j : J K G ρ σ H) (x : PX G H G' H') : J K G' ρ σ H' where
  sub := j.sub.up x
  len := j.len
  pur := fun i d e => let ⟨v, h1, h2⟩ := j.pur i d e; ⟨v, h1, h2.mono x.g⟩
  hold := fun i s ds e hl => by
    obtain ⟨a, vs, h1, h2, h3, h4⟩ := j.hold i s ds e hl
    refine ⟨a, vs, h1, x.h _ _ h2, ?_, h4.mono x.g⟩
    cases q : G' a with
    | none => rfl
    | some o =>
      rcases x.new a (by rw [q]; simp) with z | z
      · exact absurd h3 z
      · rw [h2] at z; cases z
  alone := j.alone
  lk := fun i g o o' z xs e1 e2 => let ⟨a, v, u, h1, h2, h3⟩ := j.lk i g o o' z xs e1 e2; ⟨a, v, u, h1, x.h _ _ h2, h3⟩
theorem J.ex (j : J K G ρ σ H) (x : PX G H G' H') : Ex K G ρ σ H G' ρ σ H' :=
  ⟨j.px x, x.g, fun b hb => (x.new b hb).elim .inl fun z => .inr (.inl z), fun b o e _ => x.h _ _ e, fun b h => .inl h, fun b h => x.h.free h, fun i ds h => ⟨⟨ds, h⟩, rfl⟩, fun i s h q => ⟨⟨s, h, q⟩, rfl⟩, ⟨x.h.t, x.tb⟩⟩
theorem J.refl (j : J K G ρ σ H) : Ex K G ρ σ H G ρ σ H := j.ex (.refl j.sub)
theorem J.ownd (j : J K G ρ σ H) {b : Addr} (h : Ownd ρ σ b) : ∃ vs, H b = some (.lst vs) ∧ G b = none := by
  obtain ⟨i, s, ds, h1, hl, h2⟩ := h
  obtain ⟨a, vs, h3, h4, h5, _⟩ := j.hold i s ds h1 hl
  rw [h2] at h3
  cases h3
  exact ⟨vs, h4, h5⟩
theorem Ex.trans {G1 G2 H1 H2 : Hp} {ρ1 ρ2 : En} {σ1 σ2 : St} (a : Ex K G ρ σ H G1 ρ1 σ1 H1) (b : Ex K G1 ρ1 σ1 H1 G2 ρ2 σ2 H2) : Ex K G ρ σ H G2 ρ2 σ2 H2 where
  j := b.j
  g := a.g.trans b.g
  new := fun c hc => by
    rcases b.new c hc with z | z | z
    · exact a.new c z
    · exact .inr (.inl (a.dom c z))
    · rcases a.ow c z with z | z
      · exact .inr (.inr z)
      · exact .inr (.inl z)
  kept := fun c o e n => b.kept c o (a.kept c o e n) fun z => by
    rcases a.ow c z with z | z
    · exact n z
    · rw [e] at z; cases z
  ow := fun c hc => by
    rcases b.ow c hc with z | z
    · exact a.ow c z
    · exact .inr (a.dom c z)
  dom := fun c hc => a.dom c (b.dom c hc)
  bx := fun i ds h => by
    obtain ⟨⟨es, h1⟩, h2⟩ := b.bx i ds h
    obtain ⟨h3, h4⟩ := a.bx i es h1
    exact ⟨h3, h2.trans h4⟩
  bd := fun i s h q => by
    obtain ⟨⟨s1, h1, q1⟩, h2⟩ := b.bd i s h q
    obtain ⟨h3, h4⟩ := a.bd i s1 h1 q1
    exact ⟨h3, h2.trans h4⟩
  tt := a.tt.trans b.tt
end
end HB
namespace HB
open PySem L2
abbrev tupO (us : List Value) : Obj := { cls := .type "tuple", data := .seq us.toArray }
/-- what is asked of whoever makes a tuple of xs -/
def NewT (H : Hp) (xs : List V) (Q : VK) : Prop := ∀ p o, H p = none → o.dict = none → Q (.ref p) (upd H p (.frz o (.tup xs)))
section
variable {X : Cx}
theorem new_tuple {pins : List (Addr × Obj)} {σ : St} {H : Hp} {s : Shared} {xs : List V} {us : List Value} {Q : VK} (I : Inv X pins σ H s) (r : Vals xs us) (z : xs.length ≤ sizeLine) (q : NewT H xs Q) :
    EP X pins σ Q (.ref s.heap.objs.size) { s with heap := s.heap.push (tupO us) } := by
  have here : (s.heap.push (tupO us)).get? s.heap.objs.size = some (tupO us) := Heap.get?_push_size _ rfl
  have ok : ObjOk X.prog X.w (upd H s.heap.objs.size (.frz (tupO us) (.tup xs))) (s.heap.push (tupO us)) s.heap.objs.size (.frz (tupO us) (.tup xs)) := ⟨here, z, us, r, _, here, rfl, _, rfl⟩
  exact ⟨.ref s.heap.objs.size, _, I.laid (t' := s.toks) (fun _ _ e => Heap.get?_push_of_some _ e) (Nat.le_refl _) ok, rfl, q _ _ (I.hok.fresh (Nat.le_refl _)) rfl⟩
/-- a display -/
def tTupP (t : TA) : TE := fun σ H Q => t σ H fun xs H1 => xs.length ≤ sizeLine ∧ NewT H1 xs Q
theorem pe_tupP {es : List Expr} {t : TA} {k : Nat} {pos : Pos} (h : PA X es t) : PE X (.Tuple es k pos) (tTupP t) :=
  PE.mk fun pins s σ H Q I hq => wpAny_Tuple_spliced (thn (h.run pos pins s σ H _ I hq) fun us s1 ⟨xs, H1, I1, r, z, q⟩ => ⟨r.length ▸ z, new_tuple I1 r z q⟩)
/-- tuple(x) of a list -/
def rTupP (K : PySem.W.Frag) : List V → Hp → VK → Prop := fun vs H Q => ∃ a xs, vs = [.ref a] ∧ SqL K H a xs ∧ NewT H xs Q
theorem call_tupP : CallR X (.type "tuple") (rTupP X.K) := fun pins s σ H vs us Q I r ⟨a, xs, e, hs, q⟩ => by
  subst e
  match us, r with
  | [_], .cons rfl .nil =>
    have ⟨its, rv, pl, hz⟩ := I.list hs
    refine call_tuple_list pl.isList (fun h' kp => ?_) (by simpa [← rv.length] using hz)
    exact new_tuple (s := { s with heap := h' }) (I.kept (t' := s.toks) kp) rv hz q
/-- t[lo:hi], not the whole of it -/
def rSlP (K : PySem.W.Frag) : V → Option Int → Option Int → Hp → VK → Prop := fun x lo hi H Q => ∃ a xs, x = .ref a ∧ SqT K H a xs ∧
  ¬ (HT.sIx xs.length 0 lo = 0 ∧ HT.sIx xs.length xs.length hi = xs.length) ∧ NewT H (cutV xs lo hi) Q
theorem cut_vals {xs : List V} {us : List Value} (r : Vals xs us) (lo hi : Option Int) : Vals (cutV xs lo hi) ((us.drop (HT.sIx us.length 0 lo)).take (HT.sIx us.length us.length hi - HT.sIx us.length 0 lo)) := by
  unfold cutV
  rw [r.length]
  exact (r.drop _).take _
theorem sl_tupP : SlR X (rSlP X.K) := fun pins s σ H x v vl vu lo hi sl Q I rx hs pl pu ⟨a, xs, e, hx, hw, q⟩ => by
  subst e
  cases rx
  have ⟨its, r, ht, hz⟩ := I.tuple hx
  have len : xs.length = its.toArray.size := by simp [r.length]
  have all := HT.getItem_tuple_cut (prog := X.prog) (w := X.w) (E := X.xe) (A := X.A) (Q := EP X pins σ Q) ht hs pl pu (len ▸ hw) (new_tuple I (by simpa using cut_vals r lo hi) (Nat.le_trans (cutV_length xs lo hi) hz) q) (len ▸ hz)
  exact ⟨"tuple", _, PyProof.Rows.slot_tuple_getitem.lookup, ht.typeIs, all⟩
/-- t + u, both not empty -/
def rCatP (K : PySem.W.Frag) : R2 := fun x y H Q => ∃ a b xs ys, x = .ref a ∧ y = .ref b ∧ SqT K H a xs ∧ SqT K H b ys ∧ xs ≠ [] ∧ ys ≠ [] ∧ xs.length + ys.length ≤ sizeLine ∧ NewT H (xs ++ ys) Q
theorem op_catP : OpR X (binaryOp .Add) (rCatP X.K) := fun pins s σ H x y v u Q I rx ry ⟨a, b, xs, ys, ex, ey, ha, hb, nx, ny, hz, q⟩ => by
  subst ex ey
  cases rx
  cases ry
  have ⟨us, r1, p1, _⟩ := I.tuple ha
  have ⟨ws, r2, p2, _⟩ := I.tuple hb
  have lens : us.length + ws.length ≤ sizeLine := by have := r1.length; have := r2.length; omega
  exact HT.cat_tup p1 p2 (fun z => nx (r1.nil_iff.mp z)) (fun z => absurd (r2.nil_iff.mp z) ny) (fun _ => new_tuple I (r1.append r2) (by simpa using hz) q) lens
/-- t + u where one is empty: the other one itself -/
def rCat0 (K : PySem.W.Frag) : R2 := fun x y H Q => ∃ a b xs ys, x = .ref a ∧ y = .ref b ∧ SqT K H a xs ∧ SqT K H b ys ∧ xs.length + ys.length ≤ sizeLine ∧ ((xs = [] ∧ Q y H) ∨ (xs ≠ [] ∧ ys = [] ∧ Q x H))
theorem op_cat0 : OpR X (binaryOp .Add) (rCat0 X.K) := fun pins s σ H x y v u Q I rx ry ⟨a, b, xs, ys, ex, ey, ha, hb, hz, q⟩ => by
  subst ex ey
  refine op_catA pins s σ H _ _ v u Q I rx ry ⟨a, b, xs, ys, rfl, rfl, ha, hb, hz, fun e => ?_, fun n e => ?_, fun n m => ?_⟩
  · exact q.elim (fun z => z.2) fun z => absurd e z.1
  · exact q.elim (fun z => absurd z.1 n) fun z => z.2.2
  · exact q.elim (fun z => absurd z.1 n) fun z => absurd z.2.1 m
end
section
variable {s : Shared} {A : Around} {prog : Program} {w : World} {E : Value → Shared → Prop}
/-- how many places [::-1] goes over -/
theorem many_back (n : Nat) : Builtin.Slice.slicePlaces ((n : Int) - 1) (-1) (-1) = n := by
  cases n with
  | zero => rfl
  | succ k =>
    have e : ((k + 1 : Nat) : Int) - 1 = k := by omega
    rw [e]
    simp only [Builtin.Slice.slicePlaces]
    rw [if_neg (by decide), if_pos (by omega), show (- -1 : Int) = 1 from rfl, Int.ediv_one]
    omega
theorem picked_back (xs : Array Value) : ((List.range xs.size).filterMap fun (m : Nat) => xs[(((xs.size : Int) - 1) + (m : Int) * (-1)).toNat]?) = xs.toList.reverse := by
  have places : (List.range xs.size).map (fun m : Nat => (((xs.size : Int) - 1) + (m : Int) * (-1)).toNat) = (List.range xs.size).reverse := by
    rw [← PySem.W.krv_range]
    exact List.map_congr_left fun k hk => by have := List.mem_range.mp hk; omega
  calc _ = ((List.range xs.size).map fun m : Nat => (((xs.size : Int) - 1) + (m : Int) * (-1)).toNat).filterMap (xs[·]?) := (List.filterMap_map ..).symm
    _ = _ := by rw [places, List.filterMap_reverse, PySem.W.krv_all]
/-- the slice object [::-1] -/
structure Back (h : Heap) (sl : Addr) : Prop where
  ex : ∃ vl vu vs, h.IsSliceOf sl vl vu vs ∧ IsPart vl none ∧ IsPart vu none ∧ IsPart vs (some (-1))
theorem back_applied {sl : Addr} {n : Nat} {Q : Int × Int × Nat → Shared → Prop} (b : Back s.heap sl) (h : Q ((n : Int) - 1, -1, n) s) : wpAny (model prog w) A (Builtin.Slice.sliceApplied (.ref sl) (pure (n : Int))) Q E s := by
  obtain ⟨vl, vu, vs, ⟨ob, at_, _, dat⟩, pl, pu, ps⟩ := b.ex
  have f0 : ∀ {R : Value → Shared → Prop}, R vl s → wpAny (model prog w) A (field (.ref sl) 0) R E s := fun k => wpAny_field at_ dat rfl k
  have f1 : ∀ {R : Value → Shared → Prop}, R vu s → wpAny (model prog w) A (field (.ref sl) 1) R E s := fun k => wpAny_field at_ dat rfl k
  have f2 : ∀ {R : Value → Shared → Prop}, R vs s → wpAny (model prog w) A (field (.ref sl) 2) R E s := fun k => wpAny_field at_ dat rfl k
  wp_walk using f0, f1, f2, HT.slicePart_ pl, HT.slicePart_ pu, HT.slicePart_ ps
  show Q ((n : Int) - 1, -1, Builtin.Slice.slicePlaces ((n : Int) - 1) (-1) (-1)) s
  exact (many_back n).symm ▸ h
theorem tuple_back {t sl : Addr} {items : Array Value} {Q : Value → Shared → Prop} (ht : PyProof.Rows.IsTup s.heap t items) (b : Back s.heap sl) (hz : items.size ≤ sizeLine) (h : Q (.ref s.heap.objs.size) { s with heap := s.heap.push (tupO items.toList.reverse) }) :
    wpAny (model prog w) A (getItem (.ref t) (.ref sl)) Q E s := by
  have ty := ht.typeIs
  have tys : s.TypeIs (.ref sl) "slice" := let ⟨_, _, _, ⟨ob, at_, c, _⟩, _⟩ := b.ex; ⟨ob, at_, c⟩
  have run : wpAny (model prog w) A.in1 (Builtin.«tuple.__getitem__» ⟨[.ref t, .ref sl], []⟩) (fun r s' => ∃ v, r = .done (.ret v) ∧ Q v s') E s := by
    have ⟨⟨c, dd, dt, sls⟩, ho, hc, n, hd⟩ := ht
    dsimp only at hc hd
    subst hc hd
    wp_walk using wpAny_load ho, wpAny_typeOf tys, back_applied b
    rw [picked_back, if_neg (by simpa using hz)]
    wp_walk
    exact ⟨_, rfl, h⟩
  have made : wpAny (model prog w) A (call (.builtin "tuple.__getitem__") [.ref t, .ref sl]) Q E s := wpAny_call_entry PyProof.Rows.slot_tuple_getitem ty PyProof.Rows.entry_tuple_getitem run (PyProof.Rows.args_tuple_getitem _ _)
  unfold getItem
  apply wpAny_holding
  apply wpAny_bind
  apply wpAny_sequenceKey ty (by decide)
  apply wpAny_bind
  exact wpAny_callSpecial?_slot (name := Str.ofString "__getitem__") ty PyProof.Rows.slot_tuple_getitem (wpAny_mono made (fun _ _ q => wpAny_pure q) fun _ _ e => e)
end
section
variable {X : Cx}
theorem slice_back {st : Expr} {ts : TO} {p3 : Pos} {pins : List (Addr × Obj)} {s : Shared} {σ : St} {H : Hp} {R : Hp → Prop} {Q : Value → Shared → Prop} (hst : PO X (some st) ts) (I : Inv X pins σ H s) (h : ts σ H fun o H2 => o = some (-1) ∧ R H2)
    (k : ∀ sl s2 H2, Inv X pins σ H2 s2 → Back s2.heap sl → R H2 → Q (.ref sl) s2) : wpAny (model X.prog X.w) X.A (eval (.Slice none none (some st) p3) X.env) Q X.xe s := by
  have no : ∀ s1 H1, Inv X pins σ H1 s1 → wpAny (model X.prog X.w) X.A (evalPart none X.env) (fun u s2 => Inv X pins σ H1 s2 ∧ IsPart u none) X.xe s1 := fun s1 H1 I1 =>
    thn (po_none.run pins s1 σ H1 (fun o H2 => o = none ∧ H2 = H1) I1 ⟨rfl, rfl⟩) fun u s2 ⟨o, H2, I2, pt, e⟩ => ⟨e.2 ▸ I2, e.1 ▸ pt⟩
  refine wpAny_Slice (thn (no s H I) fun vl s1 ⟨I1, pl⟩ => thn (no s1 H I1) fun vu s2 ⟨I2, pu⟩ => thn (hst.run pins s2 σ H _ I2 h) fun vs s3 ⟨o, H3, I3, ps, e, r⟩ => ?_)
  subst e
  exact k _ _ H3 (I3.kept (t' := s3.toks) fun _ _ e => Heap.get?_push_of_some _ e) ⟨vl, vu, vs, Heap.IsSliceOf.new _ vl vu vs, pl, pu, ps⟩ r
def tBack (K : PySem.W.Frag) (te : TE) (ts : TO) : TE := fun σ H Q => te σ H fun x H1 => ts σ H1 fun o H2 => o = some (-1) ∧
  ((∃ a xs, x = .ref a ∧ SqL K H2 a xs ∧ ∀ p, H2 p = none → Q (.ref p) (upd H2 p (.lst xs.reverse))) ∨ (∃ a xs, x = .ref a ∧ SqT K H2 a xs ∧ NewT H2 xs.reverse Q))
theorem pe_back {e st : Expr} {te : TE} {ts : TO} {p3 pos : Pos} (he : PE X e te) (hst : PO X (some st) ts) : PE X (.Subscript e (.Slice none none (some st) p3) pos) (tBack X.K te ts) :=
  PE.mk fun pins s σ H Q I h => PyProof.Rows.Subscript_ (thn (he.run pins s σ H _ I h) fun v s1 ⟨x, H1, I1, r1, q1⟩ => slice_back hst I1 q1 fun sl s2 H2 I2 b q2 => by
    rcases q2 with ⟨a, xs, ex, hx, q⟩ | ⟨a, xs, ex, hx, q⟩
    · subst ex
      cases r1
      have ⟨its, r, pl, hz⟩ := I2.list hx
      have ⟨vl, vu, vs, so, p1, p2, p3⟩ := b.ex
      refine PyProof.Rows.tail_any (ops := [.ref a, .ref sl]) pl.isList.typeIs PySem.slot_list_getitem.lookup (wpAny_getItem_list_slice pl.isList so p1 p2 p3 (by decide) ?_ (by simpa [← r.length] using hz)) (by with_unfolding_all rfl)
      have there := Heap.get?_push_size s2.heap (o := { cls := .type "list", data := .seq its.reverse.toArray }) rfl
      rw [PySem.W.krv_pick]
      exact ⟨.ref s2.heap.objs.size, _, I2.laid (t' := s2.toks) (fun _ _ e => Heap.get?_push_of_some _ e) (Nat.le_refl _) (o := .lst xs.reverse) ⟨by simpa using hz, its.reverse, 0, r.reverse, there⟩, rfl, q _ (I2.hok.fresh (Nat.le_refl _))⟩
    · subst ex
      cases r1
      have ⟨its, r, tp, hz⟩ := I2.tuple hx
      refine PyProof.Rows.tail_any (ops := [.ref a, .ref sl]) tp.typeIs PyProof.Rows.slot_tuple_getitem.lookup (tuple_back tp b (by simpa [← r.length] using hz) ?_) (by with_unfolding_all rfl)
      exact new_tuple I2 r.reverse (by simpa using hz) q)
end
end HB
namespace HB
open PySem L2
abbrev Mo (α : Type) := En → Option (Except Exn (En × α))
def mRet {α : Type} (a : α) : Mo α := fun ρ => some (.ok (ρ, a))
def mBind {α β : Type} (m : Mo α) (f : α → Mo β) : Mo β := fun ρ => match m ρ with
  | none => none
  | some (.error x) => some (.error x)
  | some (.ok (ρ', a)) => f a ρ'
def mLift {α : Type} (o : Option α) : Mo α := fun ρ => match o with
  | none => none
  | some a => some (.ok (ρ, a))
/-- an exception as it lies -/
def XP (K : PySem.W.Frag) (G : Hp) (ρ : En) (σ : St) (H : Hp) (x : Exn) (C : Value) (dx : Option Addr) (H' : Hp) : Prop :=
  C = .ref (He.ga K x.1) ∧ ∃ G' : Hp, Same G G' ∧ Sub K G' H' ∧ (∀ b, G' b ≠ none → G b ≠ none ∨ H b = none ∨ Ownd ρ σ b) ∧ (∀ b o, H b = some o → ¬ Ownd ρ σ b → [NoT o] → H' b = some o) ∧ Dm H H' ∧
    ((dx = none ∧ x.2 = []) ∨ ∃ d fs, dx = some d ∧ H' d = some (.xd fs) ∧ RpF K G' fs (x.2.map fun p => (.str p.1, p.2)))
section
variable {K : PySem.W.Frag} {E : XK} {α β : Type}
def Post (K : PySem.W.Frag) (E : XK) (R : Hp → β → α → Prop) (G : Hp) (ρ : En) (σ : St) (H : Hp) (Q : β → Hp → Prop) : Option (Except Exn (En × α)) → Prop
  | none => False
  | some (.error x) => ∀ C dx H', XP K G ρ σ H x C dx H' → E C dx H'
  | some (.ok (ρ', a)) => ∀ G' v H', Ex K G ρ σ H G' ρ' σ H' → R G' v a → Q v H'
variable {G G1 H H1 : Hp} {ρ ρ1 : En} {σ σ1 : St} {R : Hp → β → α → Prop} {Q : β → Hp → Prop}
theorem XP.trans (e : Ex K G ρ σ H G1 ρ1 σ1 H1) {x : Exn} {C : Value} {dx : Option Addr} {H' : Hp} (h : XP K G1 ρ1 σ1 H1 x C dx H') : XP K G ρ σ H x C dx H' := by
  obtain ⟨h1, G', h2, h3, h4, h5, h6, h7⟩ := h
  refine ⟨h1, G', e.g.trans h2, h3, fun b hb => ?_, fun b o q n => h5 b o (e.kept b o q n) fun z => ?_, ⟨fun b hb => e.dom b (h6 b hb), e.tt.trans h6.t⟩, h7⟩
  · rcases h4 b hb with z | z | z
    · exact e.new b z
    · exact .inr (.inl (e.dom b z))
    · rcases e.ow b z with z | z
      · exact .inr (.inr z)
      · exact .inr (.inl z)
  · rcases e.ow b z with z | z
    · exact n z
    · rw [q] at z; cases z
theorem Post.ex {o : Option (Except Exn (En × α))} (e : Ex K G ρ σ H G1 ρ1 σ H1) (h : Post K E R G ρ σ H Q o) : Post K E R G1 ρ1 σ H1 Q o := by
  match o, h with
  | some (.error x), h => exact fun C dx H' z => h C dx H' (XP.trans e z)
  | some (.ok (ρ', a)), h => exact fun G' v H' z r => h G' v H' (e.trans z) r
theorem Post.imp {γ δ : Type} {R' : Hp → δ → γ → Prop} {Q' : δ → Hp → Prop} {m : Mo γ} {f : γ → Mo α} (h : Post K E R G ρ σ H Q (mBind m f ρ))
    (k : ∀ G1 ρ1 v H1 a, Ex K G ρ σ H G1 ρ1 σ H1 → R' G1 v a → Post K E R G1 ρ1 σ H1 Q (f a ρ1) → Q' v H1) : Post K E R' G ρ σ H Q' (m ρ) := by
  unfold mBind at h
  cases q : m ρ with
  | none => rw [q] at h; exact h
  | some r =>
    rw [q] at h
    cases r with
    | error x => exact h
    | ok p =>
      obtain ⟨ρ', a⟩ := p
      exact fun G' v H' z r => k G' ρ' v H' a z r (Post.ex z h)
theorem Post.lift {o : Option α} {ρ' : En} (h : Post K E R G ρ σ H Q (mLift o ρ)) : ∃ a, o = some a ∧ ∀ G' v H', Ex K G ρ σ H G' ρ σ H' → R G' v a → Q v H' := by
  cases o with
  | none => exact False.elim h
  | some a => exact ⟨a, rfl, h⟩
end
/-- an expression -/
def EV (X : Cx) (E : XK) (e : Expr) (f : Mo D) : Prop := ∃ t, PE X e t ∧ ∀ G ρ σ H Q, J X.K G ρ σ H → Post X.K E (Rp X.K) G ρ σ H Q (f ρ) → t σ H Q
/-- a test -/
def ET (X : Cx) (E : XK) (e : Expr) (f : Mo Bool) : Prop := ∃ t, PT X e t ∧ ∀ G ρ σ H Q, J X.K G ρ σ H → Post X.K E (fun _ b c => b = c) G ρ σ H Q (f ρ) → t σ H Q
/-- a BoolOp's tests -/
def EW (X : Cx) (E : XK) (e : Expr) (f : Mo Bool) : Prop := ∃ t, PW X e t ∧ ∀ G ρ σ H Q, J X.K G ρ σ H → Post X.K E (fun _ b c => b = c) G ρ σ H Q (f ρ) → t σ H Q
/-- arguments -/
def EA (X : Cx) (E : XK) (es : List Expr) (f : Mo (List D)) : Prop := ∃ t, PA X es t ∧ ∀ G ρ σ H Q, J X.K G ρ σ H → Post X.K E (RpAll X.K) G ρ σ H Q (f ρ) → t σ H Q
/-- a list that nobody else holds -/
def RpN (K : PySem.W.Frag) (H0 H' : Hp) (G' : Hp) (ρ' : En) (σ : St) (v : V) (ds : List D) : Prop := ∃ a vs, v = .ref a ∧ H0 a = none ∧ G' a = none ∧ H' a = some (.lst vs) ∧ ¬ Ownd ρ' σ a ∧ RpAll K G' vs ds
def PostN (K : PySem.W.Frag) (E : XK) (G : Hp) (ρ : En) (σ : St) (H : Hp) (Q : VK) : Option (Except Exn (En × List D)) → Prop
  | none => False
  | some (.error x) => ∀ C dx H', XP K G ρ σ H x C dx H' → E C dx H'
  | some (.ok (ρ', ds)) => ∀ G' v H', Ex K G ρ σ H G' ρ' σ H' → RpN K H H' G' ρ' σ v ds → Q v H'
/-- an expression that makes a new list -/
def EN (X : Cx) (E : XK) (e : Expr) (f : Mo (List D)) : Prop := ∃ t, PE X e t ∧ ∀ G ρ σ H Q, J X.K G ρ σ H → PostN X.K E G ρ σ H Q (f ρ) → t σ H Q
inductive Fl where
  | nx
  | rt (d : D)
  | bk
  | ct
def PostS (K : PySem.W.Frag) (E : XK) (G : Hp) (ρ : En) (σ : St) (H : Hp) (De : Ends) : Option (Except Exn (En × Fl)) → Prop
  | none => False
  | some (.error x) => ∀ C dx H', XP K G ρ σ H x C dx H' → E C dx H'
  | some (.ok (ρ', .nx)) => ∀ G' σ' H', Ex K G ρ σ H G' ρ' σ' H' → De.nx σ' H'
  | some (.ok (ρ', .bk)) => ∀ G' σ' H', Ex K G ρ σ H G' ρ' σ' H' → De.bk σ' H'
  | some (.ok (ρ', .ct)) => ∀ G' σ' H', Ex K G ρ σ H G' ρ' σ' H' → De.ct σ' H'
  | some (.ok (ρ', .rt d)) => ∀ G' σ' v H', Ex K G ρ σ H G' ρ' σ' H' → Rp K G' v d → De.rt v H'
def SV (X : Cx) (E : XK) (s : Stmt) (g : Mo Fl) : Prop := ∃ t, PS X s t ∧ ∀ G ρ σ H De, J X.K G ρ σ H → PostS X.K E G ρ σ H De (g ρ) → t De σ H
def SVs (X : Cx) (E : XK) (s : List Stmt) (g : Mo Fl) : Prop := ∃ t, PSs X s t ∧ ∀ G ρ σ H De, J X.K G ρ σ H → PostS X.K E G ρ σ H De (g ρ) → t De σ H
section
variable {X : Cx} {E : XK}
theorem PostS.ex {G G1 H H1 : Hp} {ρ ρ1 : En} {σ σ1 : St} {K : PySem.W.Frag} {De : Ends} {o : Option (Except Exn (En × Fl))} (e : Ex K G ρ σ H G1 ρ1 σ1 H1) (h : PostS K E G ρ σ H De o) : PostS K E G1 ρ1 σ1 H1 De o := by
  match o, h with
  | some (.error x), h => exact fun C dx H' z => h C dx H' (XP.trans e z)
  | some (.ok (ρ', .nx)), h => exact fun G' v H' z => h G' v H' (e.trans z)
  | some (.ok (ρ', .bk)), h => exact fun G' v H' z => h G' v H' (e.trans z)
  | some (.ok (ρ', .ct)), h => exact fun G' v H' z => h G' v H' (e.trans z)
  | some (.ok (ρ', .rt d)), h => exact fun G' s' v H' z r => h G' s' v H' (e.trans z) r
/-- an expression first, then a statement -/
theorem PostS.imp {K : PySem.W.Frag} {G H : Hp} {ρ : En} {σ : St} {De : Ends} {γ δ : Type} {R' : Hp → δ → γ → Prop} {Q' : δ → Hp → Prop} {m : Mo γ} {f : γ → Mo Fl} (h : PostS K E G ρ σ H De (mBind m f ρ))
    (k : ∀ G1 ρ1 v H1 a, Ex K G ρ σ H G1 ρ1 σ H1 → R' G1 v a → PostS K E G1 ρ1 σ H1 De (f a ρ1) → Q' v H1) : Post K E R' G ρ σ H Q' (m ρ) := by
  unfold mBind at h
  cases q : m ρ with
  | none => rw [q] at h; exact h
  | some r =>
    rw [q] at h
    cases r with
    | error x => exact h
    | ok p =>
      obtain ⟨ρ', a⟩ := p
      exact fun G' v H' z r => k G' ρ' v H' a z r (PostS.ex z h)
theorem PostS.impN {K : PySem.W.Frag} {G H : Hp} {ρ : En} {σ : St} {De : Ends} {Q' : VK} {m : Mo (List D)} {f : List D → Mo Fl} (h : PostS K E G ρ σ H De (mBind m f ρ))
    (k : ∀ G1 ρ1 v H1 a, Ex K G ρ σ H G1 ρ1 σ H1 → RpN K H H1 G1 ρ1 σ v a → PostS K E G1 ρ1 σ H1 De (f a ρ1) → Q' v H1) : PostN K E G ρ σ H Q' (m ρ) := by
  unfold mBind at h
  cases q : m ρ with
  | none => rw [q] at h; exact h
  | some r =>
    rw [q] at h
    cases r with
    | error x => exact h
    | ok p =>
      obtain ⟨ρ', a⟩ := p
      exact fun G' v H' z r => k G' ρ' v H' a z r (PostS.ex z h)
/-- a name of the def; a list of its own is held by others too from then on -/
def mVar (i : Nat) : Mo D := fun ρ => match ρ[i]? with
  | some (.pur d) => some (.ok (ρ, d))
  | some (.own ds) => some (.ok (ρ.set i (.pur (.list ds)), .list ds))
  | _ => none
theorem J.freeze {K : PySem.W.Frag} {G H : Hp} {ρ : En} {σ : St} (j : J K G ρ σ H) {i : Nat} {ds : List D} (h : ρ[i]? = some (.own ds)) :
    ∃ a vs, σ[i]? = some (some (.ref a)) ∧ Ex K G ρ σ H (upd G a (.lst vs)) (ρ.set i (.pur (.list ds))) σ H ∧ Rp K (upd G a (.lst vs)) (.ref a) (.list ds) := by
  obtain ⟨a, vs, h1, h2, h3, h4⟩ := j.own i _ ds h rfl
  have sg : Same G (upd G a (.lst vs)) := same_upd h3
  have hi : i < ρ.length := (List.getElem?_eq_some_iff.mp h).1
  have r : Rp K (upd G a (.lst vs)) (.ref a) (.list ds) := .lst upd_same (h4.mono sg)
  have at_ : ∀ (k : Nat) (s : Sl), (ρ.set i (.pur (.list ds)))[k]? = some s → (k = i ∧ s = .pur (.list ds)) ∨ (k ≠ i ∧ ρ[k]? = some s) := fun k s e => by
    by_cases hk : k = i
    · subst hk
      rw [List.getElem?_set_self hi] at e
      exact .inl ⟨rfl, (Option.some.inj e).symm⟩
    · rw [List.getElem?_set_ne (Ne.symm hk)] at e
      exact .inr ⟨hk, e⟩
  refine ⟨a, vs, h1, ⟨⟨j.sub.take h2, by rw [List.length_set]; exact j.len, fun k d e => ?_, fun k s es e hl => ?_, fun k l s t es fs b e1 l1 e2 l2 e3 e4 => ?_, fun k g o o' z xs e1 e2 => ?_⟩, sg, fun b hb => ?_, fun b o e _ => e, fun b hb => ?_, fun _ z => z, fun k es e => ?_, fun k s e q => ?_, .refl H⟩, r⟩
  · rcases at_ k _ e with ⟨rfl, e'⟩ | ⟨_, e'⟩
    · cases e'
      exact ⟨_, h1, r⟩
    · obtain ⟨v, q1, q2⟩ := j.pur k d e'
      exact ⟨v, q1, q2.mono sg⟩
  · rcases at_ k _ e with ⟨_, e'⟩ | ⟨hk, e'⟩
    · subst e'; cases hl
    · obtain ⟨a', ws, q1, q2, q3, q4⟩ := j.hold k s es e' hl
      have ne : a' ≠ a := fun z => by
        subst z
        exact hk (j.dis k i _ _ es ds a' e' hl h rfl q1 h1)
      exact ⟨a', ws, q1, q2, by rw [upd_ne ne]; exact q3, q4.mono sg⟩
  · rcases at_ k _ e1 with ⟨_, e'⟩ | ⟨hk, e'⟩
    · subst e'; cases l1
    · rcases at_ l _ e2 with ⟨_, f'⟩ | ⟨hl, f'⟩
      · subst f'; cases l2
      · exact j.dis k l _ _ es fs b e' l1 f' l2 e3 e4
  · rcases at_ k _ e1 with ⟨_, e'⟩ | ⟨_, e'⟩
    · cases e'
    · rcases at_ g _ e2 with ⟨_, f'⟩ | ⟨_, f'⟩
      · cases f'
      · exact j.lk k g o o' z xs e' f'
  · by_cases e : b = a
    · subst e
      exact .inr (.inr ⟨i, _, ds, h, rfl, h1⟩)
    · rw [upd_ne e] at hb
      exact .inl hb
  · obtain ⟨k, s, es, e1, l1, e2⟩ := hb
    rcases at_ k _ e1 with ⟨_, e'⟩ | ⟨hk, e'⟩
    · subst e'; cases l1
    · exact .inl ⟨k, s, es, e', l1, e2⟩
  · rcases at_ k _ e with ⟨_, e'⟩ | ⟨_, e'⟩
    · cases e'
    · exact ⟨⟨es, e'⟩, rfl⟩
  · rcases at_ k _ e with ⟨_, e'⟩ | ⟨_, e'⟩
    · subst e'; cases q
    · exact ⟨⟨s, e', q⟩, rfl⟩
theorem ev_var (i : Nat) {x : Str} {pos : Pos} (hN : X.N[i]? = some x := by rfl) (hv : Vis X.env.scope x := by first | exact Or.inl rfl | exact Or.inr (Or.inl rfl) | exact Or.inr (Or.inr rfl)) (hd : (x == ("__debug__" : Str)) = false := by decide)
    (hcd : (x == ("__classdict__" : Str)) = false := by decide) : EV X E (.Name x pos) (mVar i) := by
  refine ⟨tVar i, pe_var hN hv hd hcd, fun G ρ σ H Q j h => ?_⟩
  unfold mVar at h
  cases q : ρ[i]? with
  | none => rw [q] at h; exact h.elim
  | some s =>
    rw [q] at h
    cases s with
    | no => exact h.elim
    | box _ => exact h.elim
    | dl _ _ _ => exact h.elim
    | gst _ _ => exact h.elim
    | pur d =>
      obtain ⟨v, h1, h2⟩ := j.pur i d q
      exact ⟨v, h1, h G v H j.refl h2⟩
    | own ds =>
      obtain ⟨a, vs, h1, h2, h3⟩ := j.freeze q
      exact ⟨_, h1, h _ _ _ h2 h3⟩
theorem ev_int {i : Int} {k : Nat} {pos : Pos} : EV X E (.Constant (.int i) k pos) (mRet (.int i)) := ⟨_, pe_int, fun G ρ σ H Q j h => h G _ H j.refl (.int i)⟩
theorem ev_bl {i : Bool} {k : Nat} {pos : Pos} : EV X E (.Constant (.bool i) k pos) (mRet (.bool i)) := ⟨_, pe_bl, fun G ρ σ H Q j h => h G _ H j.refl (.bl i)⟩
theorem ev_non {k : Nat} {pos : Pos} : EV X E (.Constant .none k pos) (mRet .none) := ⟨_, pe_non, fun G ρ σ H Q j h => h G _ H j.refl .non⟩
theorem ev_str {x : Str} {k : Nat} {pos : Pos} : EV X E (.Constant (.str x) k pos) (mRet (.str x)) := ⟨_, pe_str, fun G ρ σ H Q j h => h G _ H j.refl (.str x)⟩
/-- a module's constant -/
def GlD (K : PySem.W.Frag) (mg : Str → Option Value) (x : Str) (d : D) : Prop := ∃ v u, mg x = some u ∧ RelV v u ∧ ∀ H, Rp K H v d
theorem ev_glob {x : Str} {pos : Pos} {d : D} (g : GlD X.K X.mg x d) (hg : Gl X x := by rfl) (hd : (x == ("__debug__" : Str)) = false := by decide) : EV X E (.Name x pos) (mRet d) := by
  obtain ⟨v, u, h1, h2, h3⟩ := g
  exact ⟨_, pe_glob hg h1 h2 hd, fun G ρ σ H Q j h => h G _ H j.refl (h3 G)⟩
/-- a two-place operation on data -/
def DOp (X : Cx) (sem : Value → Value → Sem Value) (f : D → D → Option D) : Prop := ∃ r, OpR X sem r ∧ ∀ G H x y a b c Q, Sub X.K G H → Rp X.K G x a → Rp X.K G y b → f a b = some c →
  (∀ G' v H', PX G H G' H' → Rp X.K G' v c → Q v H') → r x y H Q
def mOp (f : D → D → Option D) (a b : Mo D) : Mo D := mBind a fun x => mBind b fun y => mLift (f x y)
theorem bin_sem {ta tb : TE} {r : R2} {fa fb : Mo D} {f : D → D → Option D} {sem : Value → Value → Sem Value}
    (ha : ∀ G ρ σ H Q, J X.K G ρ σ H → Post X.K E (Rp X.K) G ρ σ H Q (fa ρ) → ta σ H Q) (hb : ∀ G ρ σ H Q, J X.K G ρ σ H → Post X.K E (Rp X.K) G ρ σ H Q (fb ρ) → tb σ H Q)
    (hr : ∀ G H x y a b c Q, Sub X.K G H → Rp X.K G x a → Rp X.K G y b → f a b = some c → (∀ G' v H', PX G H G' H' → Rp X.K G' v c → Q v H') → r x y H Q) :
    ∀ G ρ σ H Q, J X.K G ρ σ H → Post X.K E (Rp X.K) G ρ σ H Q (mOp f fa fb ρ) → tOp r ta tb σ H Q := by
  intro G ρ σ H Q j h
  refine ha G ρ σ H _ j (Post.imp h fun G1 ρ1 x H1 a e1 r1 h1 => ?_)
  refine hb G1 ρ1 σ H1 _ e1.j (Post.imp h1 fun G2 ρ2 y H2 b e2 r2 h2 => ?_)
  obtain ⟨c, hc, k⟩ := Post.lift (ρ' := ρ2) h2
  exact hr G2 H2 x y a b c Q e2.j.sub (r1.mono e2.g) r2 hc fun G' v H' p q => k G' v H' (e2.j.ex p) q
theorem ev_op {op : Operator} {a b : Expr} {pos : Pos} {fa fb : Mo D} {f : D → D → Option D} (ho : DOp X (binaryOp op) f) (ha : EV X E a fa) (hb : EV X E b fb) : EV X E (.BinOp a op b pos) (mOp f fa fb) := by
  obtain ⟨r, o, hr⟩ := ho
  obtain ⟨ta, pa, qa⟩ := ha
  obtain ⟨tb, pb, qb⟩ := hb
  exact ⟨_, pe_op o pa pb, bin_sem (sem := binaryOp op) qa qb hr⟩
theorem ev_cmp {op : CmpOp} {a b : Expr} {pos : Pos} {fa fb : Mo D} {f : D → D → Option D} (ho : DOp X (compareOp op) f) (ha : EV X E a fa) (hb : EV X E b fb) (hm : behindInMarks op b = false) : EV X E (.Compare a [op] [b] pos) (mOp f fa fb) := by
  obtain ⟨r, o, hr⟩ := ho
  obtain ⟨ta, pa, qa⟩ := ha
  obtain ⟨tb, pb, qb⟩ := hb
  exact ⟨_, pe_cmpR o pa pb hm, bin_sem (sem := compareOp op) qa qb hr⟩
/-- a value as a test: it must be a bool -/
def boolD : D → Option Bool
  | .bool b => some b
  | _ => none
def mTest (f : Mo D) : Mo Bool := mBind f fun d => mLift (boolD d)
theorem test_sem {t : TE} {f : Mo D} (ha : ∀ G ρ σ H Q, J X.K G ρ σ H → Post X.K E (Rp X.K) G ρ σ H Q (f ρ) → t σ H Q) :
    ∀ G ρ σ H Q, J X.K G ρ σ H → Post X.K E (fun _ b c => b = c) G ρ σ H Q (mTest f ρ) → tTest t σ H Q := by
  intro G ρ σ H Q j h
  refine ha G ρ σ H _ j (Post.imp h fun G1 ρ1 x H1 a e1 r1 h1 => ?_)
  obtain ⟨c, hc, k⟩ := Post.lift (ρ' := ρ1) h1
  cases r1 with
  | bl b =>
    cases hc
    exact ⟨_, rfl, k G1 _ H1 e1.j.refl rfl⟩
  | _ => cases hc
theorem et_cmp {op : CmpOp} {a b : Expr} {pos : Pos} {fa fb : Mo D} {f : D → D → Option D} (ho : DOp X (compareOp op) f) (ha : EV X E a fa) (hb : EV X E b fb) (hm : behindInMarks op b = false) : ET X E (.Compare a [op] [b] pos) (mTest (mOp f fa fb)) := by
  obtain ⟨r, o, hr⟩ := ho
  obtain ⟨ta, pa, qa⟩ := ha
  obtain ⟨tb, pb, qb⟩ := hb
  exact ⟨_, pt_cmpR o pa pb hm, test_sem (bin_sem (sem := compareOp op) qa qb hr)⟩
theorem et_val {e : Expr} {f : Mo D} (h : EV X E e f) (he : ∀ whole, isTrue e X.env whole = (do let v ← whole; standAt e.pos; holding [v] (truthy v)) := by intro _; rfl) : ET X E e (mTest f) := by
  obtain ⟨t, p, q⟩ := h
  exact ⟨_, pt_val p he, fun G ρ σ H Q j h => test_sem q G ρ σ H Q j h⟩
def mAnd (a b : Mo Bool) : Mo Bool := mBind a fun c => match c with
  | true => b
  | false => mRet false
def mOr (a b : Mo Bool) : Mo Bool := mBind a fun c => match c with
  | true => mRet true
  | false => b
def mNot (a : Mo Bool) : Mo Bool := mBind a fun c => mRet (!c)
theorem ew_and1 {a : Expr} {pos : Pos} {f : Mo Bool} (h : ET X E a f) : EW X E (.BoolOp .And [a] pos) f := let ⟨t, p, q⟩ := h; ⟨t, pw_and1 p, q⟩
theorem ew_or1 {a : Expr} {pos : Pos} {f : Mo Bool} (h : ET X E a f) : EW X E (.BoolOp .Or [a] pos) f := let ⟨t, p, q⟩ := h; ⟨t, pw_or1 p, q⟩
theorem ew_and {a b : Expr} {rest : List Expr} {pos : Pos} {f g : Mo Bool} (h : ET X E a f) (hb : EW X E (.BoolOp .And (b :: rest) pos) g) : EW X E (.BoolOp .And (a :: b :: rest) pos) (mAnd f g) := by
  obtain ⟨t, p, q⟩ := h
  obtain ⟨t2, p2, q2⟩ := hb
  refine ⟨_, pw_and p p2, fun G ρ σ H Q j h => q G ρ σ H _ j (Post.imp h fun G1 ρ1 x H1 a e1 r1 h1 => ?_)⟩
  subst r1
  cases x with
  | true => exact (q2 G1 ρ1 σ H1 Q e1.j h1 : _)
  | false => exact (h1 G1 false H1 e1.j.refl rfl : _)
theorem ew_or {a b : Expr} {rest : List Expr} {pos : Pos} {f g : Mo Bool} (h : ET X E a f) (hb : EW X E (.BoolOp .Or (b :: rest) pos) g) : EW X E (.BoolOp .Or (a :: b :: rest) pos) (mOr f g) := by
  obtain ⟨t, p, q⟩ := h
  obtain ⟨t2, p2, q2⟩ := hb
  refine ⟨_, pw_or p p2, fun G ρ σ H Q j h => q G ρ σ H _ j (Post.imp h fun G1 ρ1 x H1 a e1 r1 h1 => ?_)⟩
  subst r1
  cases x with
  | false => exact (q2 G1 ρ1 σ H1 Q e1.j h1 : _)
  | true => exact (h1 G1 true H1 e1.j.refl rfl : _)
theorem EW.et {e : Expr} {f : Mo Bool} (h : EW X E e f) : ET X E e f := let ⟨t, p, q⟩ := h; ⟨t, p.pt, q⟩
theorem et_not {a : Expr} {pos : Pos} {f : Mo Bool} (h : ET X E a f) : ET X E (.UnaryOp .Not a pos) (mNot f) := by
  obtain ⟨t, p, q⟩ := h
  refine ⟨_, pt_not p, fun G ρ σ H Q j h => q G ρ σ H _ j (Post.imp h fun G1 ρ1 x H1 a e1 r1 h1 => ?_)⟩
  subst r1
  exact h1 G1 _ H1 e1.j.refl rfl
/-- .. as values, all of them bools -/
def mAndV (a b : Mo D) : Mo D := mBind (mTest a) fun c => match c with
  | true => b
  | false => mRet (.bool false)
def mOrV (a b : Mo D) : Mo D := mBind (mTest a) fun c => match c with
  | true => mRet (.bool true)
  | false => b
def mNotV (a : Mo D) : Mo D := mBind (mTest a) fun c => mRet (.bool (!c))
theorem ev_one {a : Expr} {op : BoolOp} {pos : Pos} {f : Mo D} (h : EV X E a f) : EV X E (.BoolOp op [a] pos) f := let ⟨t, p, q⟩ := h; ⟨t, pe_one p, q⟩
theorem ev_and {a b : Expr} {rest : List Expr} {pos : Pos} {f g : Mo D} (h : EV X E a f) (hb : EV X E (.BoolOp .And (b :: rest) pos) g) : EV X E (.BoolOp .And (a :: b :: rest) pos) (mAndV f g) := by
  obtain ⟨t, p, q⟩ := h
  obtain ⟨t2, p2, q2⟩ := hb
  refine ⟨_, pe_and p p2, fun G ρ σ H Q j h => ?_⟩
  refine test_sem q G ρ σ H (fun c H1 => if c = true then t2 σ H1 Q else Q (.bl false) H1) j (Post.imp h fun G1 ρ1 x H1 a e1 r1 h1 => ?_)
  subst r1
  cases x with
  | true => exact (q2 G1 ρ1 σ H1 Q e1.j h1 : _)
  | false => exact (h1 G1 _ H1 e1.j.refl (.bl false) : _)
theorem ev_or {a b : Expr} {rest : List Expr} {pos : Pos} {f g : Mo D} (h : EV X E a f) (hb : EV X E (.BoolOp .Or (b :: rest) pos) g) : EV X E (.BoolOp .Or (a :: b :: rest) pos) (mOrV f g) := by
  obtain ⟨t, p, q⟩ := h
  obtain ⟨t2, p2, q2⟩ := hb
  refine ⟨_, pe_or p p2, fun G ρ σ H Q j h => ?_⟩
  refine test_sem q G ρ σ H (fun c H1 => if c = true then Q (.bl true) H1 else t2 σ H1 Q) j (Post.imp h fun G1 ρ1 x H1 a e1 r1 h1 => ?_)
  subst r1
  cases x with
  | false => exact (q2 G1 ρ1 σ H1 Q e1.j h1 : _)
  | true => exact (h1 G1 _ H1 e1.j.refl (.bl true) : _)
theorem ev_not {a : Expr} {pos : Pos} {f : Mo D} (h : EV X E a f) : EV X E (.UnaryOp .Not a pos) (mNotV f) := by
  obtain ⟨t, p, q⟩ := h
  refine ⟨_, pe_not p, fun G ρ σ H Q j h => ?_⟩
  refine test_sem q G ρ σ H (fun c H1 => Q (.bl (!c)) H1) j (Post.imp h fun G1 ρ1 x H1 a e1 r1 h1 => ?_)
  subst r1
  exact h1 G1 _ H1 e1.j.refl (.bl _)
def mIf (c : Mo Bool) (a b : Mo D) : Mo D := mBind c fun c => match c with
  | true => a
  | false => b
theorem ev_if {c a b : Expr} {pos : Pos} {fc : Mo Bool} {fa fb : Mo D} (hc : ET X E c fc) (ha : EV X E a fa) (hb : EV X E b fb) : EV X E (.IfExp c a b pos) (mIf fc fa fb) := by
  obtain ⟨t, p, q⟩ := hc
  obtain ⟨ta, pa, qa⟩ := ha
  obtain ⟨tb, pb, qb⟩ := hb
  refine ⟨_, pe_ifExp p pa pb, fun G ρ σ H Q j h => q G ρ σ H _ j (Post.imp h fun G1 ρ1 x H1 a e1 r1 h1 => ?_)⟩
  subst r1
  cases x with
  | true => exact (qa G1 ρ1 σ H1 Q e1.j h1 : _)
  | false => exact (qb G1 ρ1 σ H1 Q e1.j h1 : _)
end
end HB
namespace HB
open PySem L2
section
variable {X : Cx} {E : XK}
def mNil : Mo (List D) := mRet []
def mCons (a : Mo D) (r : Mo (List D)) : Mo (List D) := mBind a fun x => mBind r fun xs => mRet (x :: xs)
def itemsD : D → Option (List D)
  | .list ds => some ds
  | .tuple ds => some ds
  | .dict [(.none, .list ds)] => some ds
  | _ => none
def mStar (a : Mo D) (r : Mo (List D)) : Mo (List D) := mBind a fun x => mBind (mLift (itemsD x)) fun ys => mBind r fun xs => mRet (ys ++ xs)
theorem Rp.items {K : PySem.W.Frag} {G : Hp} {v : V} {d : D} {ds : List D} (r : Rp K G v d) (h : itemsD d = some ds) : ∃ p xs, v = .ref p ∧ (SqT K G p xs ∨ SqL K G p xs) ∧ RpAll K G xs ds := by
  cases r with
  | lst h1 h2 => cases h; exact ⟨_, _, rfl, .inr (.of h1), h2⟩
  | tup h1 h2 => cases h; exact ⟨_, _, rfl, .inl h1.t, h2⟩
  | frz h1 h2 => cases h; exact ⟨_, _, rfl, .inr h1, h2⟩
  | obj h1 h2 => cases h
  | _ => cases h
theorem ea_nil : EA X E [] mNil := ⟨_, pa_nil, fun G ρ σ H Q j h => h G _ H j.refl .nil⟩
theorem ea_cons {e : Expr} {es : List Expr} {f : Mo D} {g : Mo (List D)} (h : EV X E e f) (hr : EA X E es g) (hs : starEach (e :: es) X.env = (false, eval e X.env) :: starEach es X.env := by rfl) : EA X E (e :: es) (mCons f g) := by
  obtain ⟨t, p, q⟩ := h
  obtain ⟨t2, p2, q2⟩ := hr
  refine ⟨_, pa_cons p p2 hs, fun G ρ σ H Q j h => q G ρ σ H _ j (Post.imp h fun G1 ρ1 x H1 a e1 r1 h1 => ?_)⟩
  refine q2 G1 ρ1 σ H1 _ e1.j (Post.imp h1 fun G2 ρ2 y H2 b e2 r2 h2 => ?_)
  exact h2 G2 _ H2 e2.j.refl (.cons (r1.mono e2.g) r2)
theorem sq_mono {K : PySem.W.Frag} {H H' : Hp} {a : Addr} {xs : List V} (s : Same H H') (h : SqT K H a xs ∨ SqL K H a xs) : SqT K H' a xs ∨ SqL K H' a xs := h.elim (fun z => .inl (sqT_mono s z)) fun z => .inr (s.seq z)
theorem ea_star {e : Expr} {es : List Expr} {f : Mo D} {g : Mo (List D)} {sp : Pos} (h : EV X E e f) (hr : EA X E es g) (hs : starEach (.Starred e sp :: es) X.env = (true, eval e X.env) :: starEach es X.env := by rfl) : EA X E (.Starred e sp :: es) (mStar f g) := by
  obtain ⟨t, p, q⟩ := h
  obtain ⟨t2, p2, q2⟩ := hr
  refine ⟨_, StX.pa_star p p2 hs, fun G ρ σ H Q j h => q G ρ σ H _ j (Post.imp h fun G1 ρ1 x H1 a e1 r1 h1 => ?_)⟩
  have h1' : Post X.K E (RpAll X.K) G1 ρ1 σ H1 Q (mBind (mLift (itemsD a)) (fun ys => mBind g fun xs => mRet (ys ++ xs)) ρ1) := h1
  unfold mBind mLift at h1'
  cases hi : itemsD a with
  | none => rw [hi] at h1'; exact h1'.elim
  | some ys =>
    rw [hi] at h1'
    obtain ⟨p0, xs0, rfl, s0, r0⟩ := r1.items hi
    refine ⟨p0, xs0, rfl, sq_mono e1.j.sub s0, ?_⟩
    refine q2 G1 ρ1 σ H1 _ e1.j (Post.imp (f := fun xs => mRet (ys ++ xs)) h1' fun G2 ρ2 y H2 b e2 r2 h2 => ?_)
    exact h2 G2 _ H2 e2.j.refl ((r0.mono e2.g).append r2)
def sizeOk {α : Type} (xs : List α) : Bool := decide (xs.length ≤ 1000000)
theorem line_of {n : Nat} (h : n ≤ 1000000) : n ≤ sizeLine := Nat.le_trans h (by decide)
def mSized (f : Mo (List D)) : Mo (List D) := mBind f fun ds => mLift (if sizeOk ds = true then some ds else none)
def mTup (f : Mo (List D)) : Mo D := mBind f fun ds => mLift (if sizeOk ds = true then some (.tuple ds) else none)
theorem sized {α : Type} {ds : List α} {β : Type} {b c : β} (h : (if sizeOk ds = true then some b else none) = some c) : ds.length ≤ 1000000 ∧ b = c := by
  split at h
  · rename_i q
    exact ⟨of_decide_eq_true q, Option.some.inj h⟩
  · cases h
theorem ev_tup {es : List Expr} {f : Mo (List D)} {k : Nat} {pos : Pos} (h : EA X E es f) : EV X E (.Tuple es k pos) (mTup f) := by
  obtain ⟨t, p, q⟩ := h
  refine ⟨_, pe_tupP p, fun G ρ σ H Q j h => q G ρ σ H _ j (Post.imp h fun G1 ρ1 xs H1 ds e1 r1 h1 => ?_)⟩
  obtain ⟨c, hc, k⟩ := Post.lift (ρ' := ρ1) h1
  obtain ⟨h3, rfl⟩ := sized hc
  refine ⟨by rw [r1.length]; exact line_of h3, fun p o hp nd => ?_⟩
  have px : PX G1 H1 _ _ := .alloc e1.j.sub hp (.frz o (.tup xs))
  exact k _ _ _ (e1.j.ex px) (.tup (.new nd) (r1.mono px.g))
/-- a new list comes -/
theorem new_list {K : PySem.W.Frag} {G H : Hp} {ρ : En} {σ : St} (j : J K G ρ σ H) {p : Addr} (hp : H p = none) {xs : List V} {ds : List D} (r : RpAll K G xs ds) : Ex K G ρ σ H G ρ σ (upd H p (.lst xs)) := by
  have sh : Same H (upd H p (.lst xs)) := same_upd hp
  refine ⟨⟨j.sub.new hp, j.len, j.pur, fun i s ds e hl => ?_, j.alone, fun i g o o' z xs e1 e2 => let ⟨a, v, u, h1, h2, h3⟩ := j.lk i g o o' z xs e1 e2; ⟨a, v, u, h1, sh _ _ h2, h3⟩⟩, .refl _, fun b hb => .inl hb, fun b o e _ => sh _ _ e, fun b hb => .inl hb, fun b hb => sh.free hb, fun i ds h => ⟨⟨ds, h⟩, rfl⟩, fun i s h q => ⟨⟨s, h, q⟩, rfl⟩, (sameT_upd hp).tx⟩
  obtain ⟨a, vs, h1, h2, h3, h4⟩ := j.hold i s ds e hl
  exact ⟨a, vs, h1, sh _ _ h2, h3, h4⟩
theorem Post.impN {K : PySem.W.Frag} {G H : Hp} {ρ : En} {σ : St} {Q : VK} {γ δ : Type} {R' : Hp → δ → γ → Prop} {Q' : δ → Hp → Prop} {m : Mo γ} {f : γ → Mo (List D)} (h : PostN K E G ρ σ H Q (mBind m f ρ))
    (k : ∀ G1 ρ1 v H1 a, Ex K G ρ σ H G1 ρ1 σ H1 → R' G1 v a → PostN K E G1 ρ1 σ H1 Q (f a ρ1) → Q' v H1) : Post K E R' G ρ σ H Q' (m ρ) := by
  unfold mBind at h
  cases q : m ρ with
  | none => rw [q] at h; exact h
  | some r =>
    rw [q] at h
    cases r with
    | error x => exact h
    | ok p =>
      obtain ⟨ρ', a⟩ := p
      refine fun G' v H' z r => k G' ρ' v H' a z r ?_
      have h2 : PostN K E G ρ σ H Q (f a ρ') := h
      match hh : f a ρ', h2 with
      | some (.error x), h2 => exact fun C dx H' y => h2 C dx H' (XP.trans z y)
      | some (.ok (ρ2, ds)), h2 =>
        refine fun G2 v2 H2 y r2 => h2 G2 v2 H2 (z.trans y) ?_
        obtain ⟨a2, vs2, e1, e2, e3, e4, e5, e6⟩ := r2
        exact ⟨a2, vs2, e1, z.dom _ e2, e3, e4, e5, e6⟩
theorem Post.liftN {K : PySem.W.Frag} {G H : Hp} {ρ : En} {σ : St} {Q : VK} {o : Option (List D)} (h : PostN K E G ρ σ H Q (mLift o ρ)) : ∃ a, o = some a ∧ ∀ G' v H', Ex K G ρ σ H G' ρ σ H' → RpN K H H' G' ρ σ v a → Q v H' := by
  cases o with
  | none => exact False.elim h
  | some a => exact ⟨a, rfl, h⟩
theorem J.free {K : PySem.W.Frag} {G H : Hp} {ρ : En} {σ : St} (j : J K G ρ σ H) {p : Addr} (hp : H p = none) : G p = none := j.sub.free hp
theorem J.nown {K : PySem.W.Frag} {G H : Hp} {ρ : En} {σ : St} (j : J K G ρ σ H) {p : Addr} (hp : H p = none) : ¬ Ownd ρ σ p := fun z => by
  obtain ⟨ws, z1, _⟩ := j.ownd z
  rw [hp] at z1; cases z1
theorem en_lst {es : List Expr} {f : Mo (List D)} {pos : Pos} (h : EA X E es f) : EN X E (.List es pos) (mSized f) := by
  obtain ⟨t, p, q⟩ := h
  refine ⟨_, pe_lst p, fun G ρ σ H Q j h => q G ρ σ H _ j (Post.impN h fun G1 ρ1 xs H1 ds e1 r1 h1 => ?_)⟩
  obtain ⟨c, hc, k⟩ := Post.liftN h1
  obtain ⟨h3, rfl⟩ := sized hc
  refine ⟨by rw [r1.length]; exact line_of h3, fun p hp => ?_⟩
  exact k _ _ _ (new_list e1.j hp r1) ⟨p, xs, rfl, hp, e1.j.free hp, upd_same, e1.j.nown hp, r1⟩
/-- a new list, as data -/
def mList (f : Mo (List D)) : Mo D := mBind f fun ds => mRet (.list ds)
/-- from now on it is data: nobody changes it -/
theorem Ex.still {K : PySem.W.Frag} {G H G' H' : Hp} {ρ ρ' : En} {σ : St} (e : Ex K G ρ σ H G' ρ' σ H') {a : Addr} {vs : List V} (h1 : H a = none) (h2 : G' a = none) (h3 : H' a = some (.lst vs)) (no : ¬ Ownd ρ' σ a) : Ex K G ρ σ H (upd G' a (.lst vs)) ρ' σ H' := by
  have sg : Same G' (upd G' a (.lst vs)) := same_upd h2
  refine ⟨⟨e.j.sub.take h3, e.j.len, fun i d q => ?_, fun i s es q hl => ?_, e.j.alone, e.j.lk⟩, e.g.trans sg, fun b hb => ?_, e.kept, e.ow, e.dom, e.bx, e.bd, e.tt⟩
  · obtain ⟨v, q1, q2⟩ := e.j.pur i d q
    exact ⟨v, q1, q2.mono sg⟩
  · obtain ⟨a', ws, q1, q2, q3, q4⟩ := e.j.hold i s es q hl
    have ne : a' ≠ a := fun z => by
      subst z
      exact no ⟨i, s, es, q, hl, q1⟩
    exact ⟨a', ws, q1, q2, by rw [upd_ne ne]; exact q3, q4.mono sg⟩
  · by_cases z : b = a
    · subst z; exact .inr (.inl h1)
    · rw [upd_ne z] at hb; exact e.new b hb
theorem EN.ev {e : Expr} {f : Mo (List D)} (h : EN X E e f) : EV X E e (mList f) := by
  obtain ⟨t, p, q⟩ := h
  refine ⟨t, p, fun G ρ σ H Q j h => q G ρ σ H Q j ?_⟩
  unfold mList mBind at h
  cases hh : f ρ with
  | none => rw [hh] at h; exact h
  | some r =>
    rw [hh] at h
    cases r with
    | error x => exact h
    | ok pr =>
      obtain ⟨ρ', ds⟩ := pr
      intro G' v H' e r
      obtain ⟨a, vs, rfl, h1, h2, h3, no, h4⟩ := r
      exact h (upd G' a (.lst vs)) _ H' (e.still h1 h2 h3 no) (.lst upd_same (h4.mono (same_upd h2)))
def ixD : D → D → Option D
  | .list ds, .int i => atI ds i
  | .tuple ds, .int i => atI ds i
  | .dict [(.none, .list ds)], .int i => atI ds i
  | .str z, .int i => if z.length ≤ 1000000 then (atI z.cps.toList i).map fun c => .str ⟨#[c]⟩ else none
  | _, _ => none
theorem RpAll.atI {K : PySem.W.Frag} {G : Hp} {vs : List V} {ds : List D} {i : Int} {d : D} (r : RpAll K G vs ds) (h : atI ds i = some d) : ∃ v, L2.atI vs i = some v ∧ Rp K G v d := by
  unfold L2.atI at h ⊢
  rw [r.length]
  cases q : ixN ds.length i with
  | none => rw [q] at h; cases h
  | some j =>
    rw [q] at h
    exact r.get h
theorem ix_sem {G H : Hp} {x y : V} {a b c : D} {Q : VK} (s : Same G H) (hx : Rp X.K G x a) (hy : Rp X.K G y b) (h : ixD a b = some c) (k : ∀ v, Rp X.K G v c → Q v H) : rIx X.K x y H Q := by
  cases hy with
  | int i =>
    cases hx with
    | lst h1 h2 =>
      obtain ⟨v, q1, q2⟩ := h2.atI h
      exact .inl ⟨_, _, _, _, rfl, rfl, .of (s _ _ h1), q1, k _ q2⟩
    | tup h1 h2 =>
      obtain ⟨v, q1, q2⟩ := h2.atI h
      exact .inr (.inl ⟨_, _, _, _, rfl, rfl, sqT_mono s h1.t, q1, k _ q2⟩)
    | frz h1 h2 =>
      obtain ⟨v, q1, q2⟩ := h2.atI h
      exact .inl ⟨_, _, _, _, rfl, rfl, s.seq h1, q1, k _ q2⟩
    | str z =>
      have h' : (if z.length ≤ 1000000 then (L2.atI z.cps.toList i).map fun c => PyData.str ⟨#[c]⟩ else none) = some c := h
      split at h'
      · rename_i hz
        cases q : L2.atI z.cps.toList i with
        | none => rw [q] at h'; cases h'
        | some cc =>
          rw [q] at h'
          cases h'
          exact .inr (.inr ⟨_, _, _, rfl, rfl, line_of hz, q, k _ (.str _)⟩)
      · cases h'
    | obj h1 h2 => cases h
    | _ => cases h
  | _ => cases hx <;> cases h
theorem ev_ix {a b : Expr} {pos : Pos} {fa fb : Mo D} (ha : EV X E a fa) (hb : EV X E b fb) (hs : PlainIx b := by exact fun _ _ => rfl) : EV X E (.Subscript a b pos) (mOp ixD fa fb) := by
  obtain ⟨ta, pa, qa⟩ := ha
  obtain ⟨tb, pb, qb⟩ := hb
  refine ⟨_, pe_ix ix_seq pa pb hs, bin_sem (sem := fun _ _ => pure .none) qa qb fun G H x y a b c Q s hx hy h k => ix_sem s hx hy h fun v r => k G v H (.refl s) r⟩
end
end HB
namespace HB
open PySem L2
abbrev Fn := List D → Option (Except Exn D)
def PostF (K : PySem.W.Frag) (E : XK) (G H : Hp) (Q : VK) : Option (Except Exn D) → Prop
  | none => False
  | some (.error x) => ∀ C dx H', XP K G [] [] H x C dx H' → E C dx H'
  | some (.ok d) => ∀ G' v H', PX G H G' H' → Rp K G' v d → Q v H'
def spP (K : PySem.W.Frag) (n : Nat) (F : Fn) : Sp := fun vs H Q E => ∃ G ds, Sub K G H ∧ RpAll K G vs ds ∧ ds.length = n ∧ PostF K E G H Q (F ds)
theorem IsFd.one {K : PySem.W.Frag} {f : Addr} {fd fd' : FuncData} (a : IsFd K f fd) (b : IsFd K f fd') : fd' = fd := by
  obtain ⟨_, _, _, a⟩ := a
  obtain ⟨_, _, _, b⟩ := b
  have e := Option.some.inj (a.symm.trans b)
  injection e with _ _ e _
  injection e with e
  exact e.symm
/-- a def of the module and what it is worth -/
structure FnE (P : Program) (w : World) (K : PySem.W.Frag) (mg : Str → Option Value) (base : Heap) (k : Nat) (x : Str) (ps : List Str) (F : Fn) : Prop where
  ex : ∃ fd, FnOk P w K mg base (L2.CX P w) k (He.ga K x) fd ps (spP K ps.length F) ∧ Binds K fd ps []
  kp : PySem.W.keepIn K (.ref (He.ga K x)) = true
  gl : mg x = some (.ref (He.ga K x))
  ln : ∀ ds, F ds ≠ none → ds.length = ps.length
  at_ : ∀ fd, IsFd K (He.ga K x) fd → FnOk P w K mg base (L2.CX P w) k (He.ga K x) fd ps (spP K ps.length F)
def mCall (F : Fn) (a : Mo (List D)) : Mo D := mBind a fun ds ρ => match F ds with
  | none => none
  | some (.error x) => some (.error x)
  | some (.ok d) => some (.ok (ρ, d))
theorem XP.of0 {K : PySem.W.Frag} {G H : Hp} {ρ : En} {σ : St} {x : Exn} {C : Value} {dx : Option Addr} {H' : Hp} (h : XP K G [] [] H x C dx H') : XP K G ρ σ H x C dx H' := by
  obtain ⟨h1, G', h2, h3, h4, h5, h6, h7⟩ := h
  have no : ∀ b, ¬ Ownd [] [] b := fun b ⟨i, s, ds, z, _⟩ => by simp at z
  refine ⟨h1, G', h2, h3, fun b hb => ?_, fun b o q _ => h5 b o q (no b), h6, h7⟩
  rcases h4 b hb with z | z | z
  · exact .inl z
  · exact .inr (.inl z)
  · exact absurd z (no b)
section
variable {X : Cx} {E : XK}
theorem call_sem {F : Fn} {n : Nat} {t : TA} {f : Mo (List D)} (q : ∀ G ρ σ H Q, J X.K G ρ σ H → Post X.K E (RpAll X.K) G ρ σ H Q (f ρ) → t σ H Q) (hl : ∀ ds, F ds ≠ none → ds.length = n) :
    ∀ G ρ σ H Q, J X.K G ρ σ H → Post X.K E (Rp X.K) G ρ σ H Q (mCall F f ρ) → tCall (spP X.K n F) [] E t σ H Q := by
  intro G ρ σ H Q j h
  refine q G ρ σ H _ j (Post.imp h fun G1 ρ1 vs H1 ds e1 r1 h1 => ?_)
  show spP X.K n F (vs ++ []) H1 Q E
  rw [List.append_nil]
  have h1' : Post X.K E (Rp X.K) G1 ρ1 σ H1 Q (match F ds with
    | none => none
    | some (.error x) => some (.error x)
    | some (.ok d) => some (.ok (ρ1, d))) := h1
  cases hF : F ds with
  | none => rw [hF] at h1'; exact h1'.elim
  | some r =>
    refine ⟨G1, ds, e1.j.sub, r1, hl ds (by rw [hF]; simp), ?_⟩
    rw [hF] at h1' ⊢
    cases r with
    | error x => exact fun C dx H' z => h1' C dx H' z.of0
    | ok d => exact fun G' v H' p r => h1' G' v H' (e1.j.ex p) r
theorem ev_call {k : Nat} {x : Str} {ps : List Str} {F : Fn} {p pos : Pos} {e : Expr} {es : List Expr} {f : Mo (List D)} (hF : FnE X.prog X.w X.K X.mg X.base k x ps F) (hr : Room k X.A) (hx : Passes (L2.CX X.prog X.w) X E)
    (ha : EA X E (e :: es) f) (hg : Gl X x := by rfl) (hdb : (x == ("__debug__" : Str)) = false := by decide) (he : starEach (e :: es) X.env = (false, eval e X.env) :: starEach es X.env := by rfl)
    (hpl : (backTo pos (starEach es X.env)).any (·.1) = false := by rfl) : EV X E (.Call (.Name x p) (e :: es) [] pos) (mCall F f) := by
  obtain ⟨⟨fd, h1, h2⟩, kp, gl, hl⟩ := hF
  obtain ⟨t, pt, q⟩ := ha
  exact ⟨_, pe_call h1 hr hg gl kp h2 .nil hx pt hdb he hpl, call_sem q hl⟩
theorem ev_call0 {k : Nat} {x : Str} {F : Fn} {p pos : Pos} (hF : FnE X.prog X.w X.K X.mg X.base k x [] F) (hr : Room k X.A) (hx : Passes (L2.CX X.prog X.w) X E)
    (hg : Gl X x := by rfl) (hdb : (x == ("__debug__" : Str)) = false := by decide) : EV X E (.Call (.Name x p) [] [] pos) (mCall F mNil) := by
  obtain ⟨⟨fd, h1, h2⟩, kp, gl, hl⟩ := hF
  exact ⟨_, pe_call0 h1 hr hg gl kp h2 .nil hx hdb, call_sem (fun G ρ σ H Q j h => h G _ H j.refl .nil) hl⟩
def DCall (X : Cx) (fv : Value) (f : List D → Option D) : Prop := ∃ r, CallR X fv r ∧ ∀ G H xs ds c Q, Same G H → RpAll X.K G xs ds → f ds = some c → (∀ G' v H', PX G H G' H' → Rp X.K G' v c → Q v H') → r xs H Q
def mBuilt (f : List D → Option D) (a : Mo (List D)) : Mo D := mBind a fun ds => mLift (f ds)
theorem built_sem {t : TA} {g : Mo (List D)} {r : List V → Hp → VK → Prop} {f : List D → Option D} (q : ∀ G ρ σ H Q, J X.K G ρ σ H → Post X.K E (RpAll X.K) G ρ σ H Q (g ρ) → t σ H Q)
    (hr : ∀ G H xs ds c Q, Same G H → RpAll X.K G xs ds → f ds = some c → (∀ G' v H', PX G H G' H' → Rp X.K G' v c → Q v H') → r xs H Q) :
    ∀ G ρ σ H Q, J X.K G ρ σ H → Post X.K E (Rp X.K) G ρ σ H Q (mBuilt f g ρ) → tCB r t σ H Q := by
  intro G ρ σ H Q j h
  refine q G ρ σ H _ j (Post.imp h fun G1 ρ1 vs H1 ds e1 r1 h1 => ?_)
  obtain ⟨c, hc, k⟩ := Post.lift (ρ' := ρ1) h1
  exact hr G1 H1 vs ds c Q e1.j.sub r1 hc fun G' v H' p q => k G' v H' (e1.j.ex p) q
theorem ev_callB {id : String} {f : List D → Option D} {x : Str} {p pos : Pos} {e : Expr} {es : List Expr} {g : Mo (List D)} (hc : DCall X (.builtin id) f) (hm : X.mg x = none) (hv : bootBuiltins x = some (.builtin id)) (ha : EA X E (e :: es) g) (hg : Gl X x := by rfl)
    (hn : x ≠ "__name__" := by decide) (hdb : (x == ("__debug__" : Str)) = false := by decide) (he : starEach (e :: es) X.env = (false, eval e X.env) :: starEach es X.env := by rfl) (hpl : (backTo pos (starEach es X.env)).any (·.1) = false := by rfl) : EV X E (.Call (.Name x p) (e :: es) [] pos) (mBuilt f g) := by
  obtain ⟨r, h1, h2⟩ := hc
  obtain ⟨t, pt, q⟩ := ha
  exact ⟨_, pe_callB h1 hg hm hv pt hn hdb he hpl, built_sem q h2⟩
theorem ev_callTy {T : String} {f : List D → Option D} {x : Str} {p pos : Pos} {e : Expr} {es : List Expr} {g : Mo (List D)} (hc : DCall X (.type T) f) (hm : X.mg x = none) (hv : bootBuiltins x = some (.type T)) (ha : EA X E (e :: es) g) (hg : Gl X x := by rfl)
    (hn : x ≠ "__name__" := by decide) (hdb : (x == ("__debug__" : Str)) = false := by decide) (he : starEach (e :: es) X.env = (false, eval e X.env) :: starEach es X.env := by rfl) (hpl : (backTo pos (starEach es X.env)).any (·.1) = false := by rfl) : EV X E (.Call (.Name x p) (e :: es) [] pos) (mBuilt f g) := by
  obtain ⟨r, h1, h2⟩ := hc
  obtain ⟨t, pt, q⟩ := ha
  exact ⟨_, pe_callTy h1 hg hm hv pt hn hdb he hpl, built_sem q h2⟩
def sNext : Mo Fl := mRet .nx
def sSeq (a b : Mo Fl) : Mo Fl := mBind a fun f => match f with
  | .nx => b
  | .rt d => mRet (.rt d)
  | .bk => mRet .bk
  | .ct => mRet .ct
theorem ss_nil : SVs X E [] sNext := ⟨_, pss_nil, fun G ρ σ H De j h => h G σ H j.refl⟩
theorem PostS.seq {K : PySem.W.Frag} {G H : Hp} {ρ : En} {σ : St} {De : Ends} {a b : Mo Fl} {u : TS} (h : PostS K E G ρ σ H De (sSeq a b ρ)) (k : ∀ G1 ρ1 σ1 H1, J K G1 ρ1 σ1 H1 → PostS K E G1 ρ1 σ1 H1 De (b ρ1) → u De σ1 H1) : PostS K E G ρ σ H { De with nx := u De } (a ρ) := by
  unfold sSeq mBind at h
  cases q : a ρ with
  | none => rw [q] at h; exact h
  | some r =>
    rw [q] at h
    cases r with
    | error x => exact h
    | ok p =>
      obtain ⟨ρ', f⟩ := p
      cases f with
      | nx => exact fun G' σ' H' z => k G' ρ' σ' H' z.j (PostS.ex z h)
      | rt d => exact h
      | bk => exact h
      | ct => exact h
theorem ss_cons {s : Stmt} {rest : List Stmt} {a b : Mo Fl} (h1 : SV X E s a) (h2 : SVs X E rest b) : SVs X E (s :: rest) (sSeq a b) := by
  obtain ⟨t, p, q⟩ := h1
  obtain ⟨u, p2, q2⟩ := h2
  exact ⟨_, pss_cons p p2, fun G ρ σ H De j h => q G ρ σ H _ j (PostS.seq h fun G1 ρ1 σ1 H1 j1 k => q2 G1 ρ1 σ1 H1 De j1 k)⟩
theorem ss_one {s : Stmt} {a : Mo Fl} (h1 : SV X E s a) : SVs X E [s] a := let ⟨t, p, q⟩ := h1; ⟨t, pss_one p, q⟩
theorem s_continue {pos : Pos} : SV X E (.Continue pos) (mRet .ct) := ⟨_, ps_continue, fun G ρ σ H De j h => h G σ H j.refl⟩
def sRet (f : Mo D) : Mo Fl := mBind f fun d => mRet (.rt d)
theorem s_ret {e : Expr} {f : Mo D} {pos : Pos} (h : EV X E e f) : SV X E (.Return (some e) pos) (sRet f) := by
  obtain ⟨t, p, q⟩ := h
  exact ⟨_, ps_ret p, fun G ρ σ H De j h => q G ρ σ H _ j (PostS.imp h fun G1 ρ1 v H1 a e1 r1 h1 => h1 G1 σ v H1 e1.j.refl r1)⟩
def sDrop (f : Mo D) : Mo Fl := mBind f fun _ => mRet .nx
theorem s_expr {e : Expr} {f : Mo D} {pos : Pos} (h : EV X E e f) (hs : swapsWith e none pos.line X.env = pure false := by rfl) : SV X E (.Expr e pos) (sDrop f) := by
  obtain ⟨t, p, q⟩ := h
  exact ⟨_, ps_expr p hs, fun G ρ σ H De j h => q G ρ σ H _ j (PostS.imp h fun G1 ρ1 v H1 a e1 r1 h1 => h1 G1 σ H1 e1.j.refl)⟩
def sIf (c : Mo Bool) (a b : Mo Fl) : Mo Fl := mBind c fun c => match c with
  | true => a
  | false => b
theorem s_if {c : Expr} {a b : List Stmt} {pos : Pos} {fc : Mo Bool} {fa fb : Mo Fl} (hc : ET X E c fc) (ha : SVs X E a fa) (hb : SVs X E b fb) : SV X E (.If c a b pos) (sIf fc fa fb) := by
  obtain ⟨t, p, q⟩ := hc
  obtain ⟨ta, pa, qa⟩ := ha
  obtain ⟨tb, pb, qb⟩ := hb
  refine ⟨_, ps_if p pa pb, fun G ρ σ H De j h => q G ρ σ H _ j (PostS.imp h fun G1 ρ1 x H1 a e1 r1 h1 => ?_)⟩
  subst r1
  cases x with
  | true => exact (qa G1 ρ1 σ H1 De e1.j h1 : _)
  | false => exact (qb G1 ρ1 σ H1 De e1.j h1 : _)
theorem getElem?_set_cases {α : Type} {l : List α} {i k : Nat} {a b : α} (h : (l.set i a)[k]? = some b) : (k = i ∧ b = a) ∨ (k ≠ i ∧ l[k]? = some b) := by
  by_cases hk : k = i
  · subst hk
    by_cases hl : k < l.length
    · rw [List.getElem?_set_self hl] at h
      exact .inl ⟨rfl, (Option.some.inj h).symm⟩
    · rw [List.getElem?_eq_none (by rw [List.length_set]; omega)] at h
      cases h
  · rw [List.getElem?_set_ne (Ne.symm hk)] at h
    exact .inr ⟨hk, h⟩
theorem Ex.set {K : PySem.W.Frag} {G H : Hp} {ρ : En} {σ : St} (j : J K G ρ σ H) (i : Nat) {v : V} {d : D} (r : Rp K G v d) : Ex K G ρ σ H G (ρ.set i (.pur d)) (σ.set i (some v)) H := by
  have hn : ∀ (k : Nat) (s : Sl) (es : List D), (ρ.set i (.pur d))[k]? = some s → s.hs = some es → k ≠ i ∧ ρ[k]? = some s ∧ (σ.set i (some v))[k]? = σ[k]? := fun k s es q hl => by
    rcases getElem?_set_cases q with ⟨_, z⟩ | ⟨z, q'⟩
    · subst z; cases hl
    · exact ⟨z, q', List.getElem?_set_ne (Ne.symm z)⟩
  refine ⟨⟨j.sub, by rw [List.length_set, List.length_set]; exact j.len, fun k e q => ?_, fun k s es q hl => ?_, fun k l s t es fs b q1 l1 q2 l2 q3 q4 => ?_, fun k g o o' z xs q1 q2 => ?_⟩, .refl _, fun b hb => .inl hb, fun b o q _ => q, fun b hb => ?_, fun _ z => z, fun k es q => ?_, fun k s q ql => ?_, .refl H⟩
  · rcases getElem?_set_cases q with ⟨rfl, z⟩ | ⟨z, q'⟩
    · cases z
      have hl : k < ρ.length := by
        have := (List.getElem?_eq_some_iff.mp q).1
        rw [List.length_set] at this
        exact this
      exact ⟨v, List.getElem?_set_self (by rw [← j.len]; exact hl), r⟩
    · obtain ⟨u, h1, h2⟩ := j.pur k e q'
      exact ⟨u, by rw [List.getElem?_set_ne (Ne.symm z)]; exact h1, h2⟩
  · obtain ⟨z, q', e⟩ := hn k s es q hl
    rw [e]
    exact j.hold k s es q' hl
  · obtain ⟨z1, q1', e1⟩ := hn k s es q1 l1
    obtain ⟨z2, q2', e2⟩ := hn l t fs q2 l2
    rw [e1] at q3
    rw [e2] at q4
    exact j.alone k l s t es fs b q1' l1 q2' l2 q3 q4
  · obtain ⟨_, q1', e1⟩ := hn k _ _ q1 rfl
    obtain ⟨_, q2', e2⟩ := hn g _ _ q2 rfl
    rw [e1, e2]
    exact j.lk k g o o' z xs q1' q2'
  · obtain ⟨k, s, es, q1, hl, q2⟩ := hb
    obtain ⟨z, q', e⟩ := hn k s es q1 hl
    rw [e] at q2
    exact .inl ⟨k, s, es, q', hl, q2⟩
  · obtain ⟨z, q', e⟩ := hn k _ es q rfl
    exact ⟨⟨es, q'⟩, e⟩
  · obtain ⟨es, hl⟩ := Sl.isD_hs ql
    obtain ⟨z, q', e⟩ := hn k s es q hl
    exact ⟨⟨s, q', ql⟩, e⟩
theorem Ex.setOwn {K : PySem.W.Frag} {G H G' H' : Hp} {ρ ρ' : En} {σ σ' : St} (e : Ex K G ρ σ H G' ρ' σ' H') (i : Nat) {v : V} {ds : List D} (r : RpN K H H' G' ρ' σ' v ds) : Ex K G ρ σ H G' (ρ'.set i (.own ds)) (σ'.set i (some v)) H' := by
  obtain ⟨a, vs, rfl, h1, h2, h3, no, h4⟩ := r
  have j := e.j
  have hn : ∀ (k : Nat) (s : Sl) (es : List D), (ρ'.set i (.own ds))[k]? = some s → s.hs = some es → (k = i ∧ es = ds ∧ s = .own ds ∧ (σ'.set i (some (.ref a)))[k]? = some (some (.ref a))) ∨ (k ≠ i ∧ ρ'[k]? = some s ∧ (σ'.set i (some (.ref a)))[k]? = σ'[k]?) := fun k s es q hl => by
    rcases getElem?_set_cases q with ⟨z1, z⟩ | ⟨z, q'⟩
    · subst z1
      subst z
      cases hl
      have hl : k < ρ'.length := by
        have := (List.getElem?_eq_some_iff.mp q).1
        rw [List.length_set] at this
        exact this
      exact .inl ⟨rfl, rfl, rfl, List.getElem?_set_self (by rw [← j.len]; exact hl)⟩
    · exact .inr ⟨z, q', List.getElem?_set_ne (Ne.symm z)⟩
  refine ⟨⟨j.sub, by rw [List.length_set, List.length_set]; exact j.len, fun k f q => ?_, fun k s es q hl => ?_, fun k l s t es fs b q1 l1 q2 l2 q3 q4 => ?_, fun k g o o' z xs q1 q2 => ?_⟩, e.g, e.new, e.kept, fun b hb => ?_, e.dom, fun k es q => ?_, fun k s q ql => ?_, e.tt⟩
  · rcases getElem?_set_cases q with ⟨rfl, z⟩ | ⟨z, q'⟩
    · cases z
    · obtain ⟨u, g1, g2⟩ := j.pur k f q'
      exact ⟨u, by rw [List.getElem?_set_ne (Ne.symm z)]; exact g1, g2⟩
  · rcases hn k s es q hl with ⟨rfl, rfl, _, z⟩ | ⟨z, q', e2⟩
    · exact ⟨a, vs, z, h3, h2, h4⟩
    · rw [e2]
      exact j.hold k s es q' hl
  · rcases hn k s es q1 l1 with ⟨rfl, rfl, _, z⟩ | ⟨z, q1', e1⟩
    · rw [z] at q3
      cases q3
      rcases hn l t fs q2 l2 with ⟨rfl, rfl, _, z⟩ | ⟨z, q2', e2⟩
      · rfl
      · rw [e2] at q4
        exact absurd ⟨l, t, fs, q2', l2, q4⟩ no
    · rcases hn l t fs q2 l2 with ⟨rfl, rfl, _, z⟩ | ⟨z, q2', e2⟩
      · rw [z] at q4
        cases q4
        rw [e1] at q3
        exact absurd ⟨k, s, es, q1', l1, q3⟩ no
      · rw [e1] at q3
        rw [e2] at q4
        exact j.alone k l s t es fs b q1' l1 q2' l2 q3 q4
  · rcases hn k _ _ q1 rfl with ⟨_, _, w, _⟩ | ⟨_, q1', e1⟩
    · cases w
    · rcases hn g _ _ q2 rfl with ⟨_, _, w, _⟩ | ⟨_, q2', e2⟩
      · cases w
      · rw [e1, e2]
        exact j.lk k g o o' z xs q1' q2'
  · obtain ⟨k, s, es, q1, hl, q2⟩ := hb
    rcases hn k s es q1 hl with ⟨rfl, rfl, _, z⟩ | ⟨z, q', e2⟩
    · rw [z] at q2
      cases q2
      exact .inr h1
    · rw [e2] at q2
      exact e.ow b ⟨k, s, es, q', hl, q2⟩
  · rcases hn k _ es q rfl with ⟨_, _, z, _⟩ | ⟨z, q', e2⟩
    · cases z
    · obtain ⟨w1, w2⟩ := e.bx k es q'
      exact ⟨w1, e2.trans w2⟩
  · obtain ⟨es, hl⟩ := Sl.isD_hs ql
    rcases hn k s es q hl with ⟨_, _, z, _⟩ | ⟨z, q', e2⟩
    · subst z; cases ql
    · obtain ⟨w1, w2⟩ := e.bd k s q' ql
      exact ⟨w1, e2.trans w2⟩
def setSl (i : Nat) (s : Sl) : Mo Fl := fun ρ => some (.ok (ρ.set i s, .nx))
def sSet (i : Nat) (f : Mo D) : Mo Fl := mBind f fun d => setSl i (.pur d)
def sOwn (i : Nat) (f : Mo (List D)) : Mo Fl := mBind f fun ds => setSl i (.own ds)
theorem s_set {i : Nat} {x : Str} {e : Expr} {f : Mo D} {pos pos' : Pos} (h : EV X E e f) (hN : X.N.Nodup) (hi : X.N[i]? = some x := by rfl) (hx : Loc X.env.scope x := by first | exact Or.inl rfl | exact Or.inr rfl)
    (hs : swapsWith e (some (.Name x pos')) pos.line X.env = pure false := by rfl) (hf : X.fn x = true ∨ X.env.scope.names.lookup x = some .local := by first | exact .inl rfl | exact .inr rfl | assumption) : SV X E (.Assign [.Name x pos'] e pos) (sSet i f) := by
  obtain ⟨t, p, q⟩ := h
  refine ⟨_, ps_set hN hi hx p hs hf, fun G ρ σ H De j h => q G ρ σ H _ j (PostS.imp h fun G1 ρ1 v H1 a e1 r1 h1 => ?_)⟩
  exact h1 G1 _ H1 (Ex.set e1.j i r1)
theorem s_own {i : Nat} {x : Str} {e : Expr} {f : Mo (List D)} {pos pos' : Pos} (h : EN X E e f) (hN : X.N.Nodup) (hi : X.N[i]? = some x := by rfl) (hx : Loc X.env.scope x := by first | exact Or.inl rfl | exact Or.inr rfl)
    (hs : swapsWith e (some (.Name x pos')) pos.line X.env = pure false := by rfl) (hf : X.fn x = true ∨ X.env.scope.names.lookup x = some .local := by first | exact .inl rfl | exact .inr rfl | assumption) : SV X E (.Assign [.Name x pos'] e pos) (sOwn i f) := by
  obtain ⟨t, p, q⟩ := h
  refine ⟨_, ps_set hN hi hx p hs hf, fun G ρ σ H De j h => q G ρ σ H _ j ?_⟩
  unfold sOwn mBind at h
  cases hh : f ρ with
  | none => rw [hh] at h; exact h
  | some r =>
    rw [hh] at h
    cases r with
    | error x => exact h
    | ok pr =>
      obtain ⟨ρ', ds⟩ := pr
      exact fun G' v H' e r => h G' _ H' (e.setOwn i r)
/-- the end of a def's body -/
def runF (n : Nat) (g : Mo Fl) : Fn := fun ds => match g (ds.map Sl.pur ++ List.replicate (n - ds.length) Sl.no) with
  | none => none
  | some (.error x) => some (.error x)
  | some (.ok (_, .nx)) => some (.ok .none)
  | some (.ok (_, .rt d)) => some (.ok d)
  | some (.ok (_, _)) => none
def guard (n : Nat) (F : Fn) : Fn := fun ds => match Nat.beq ds.length n with
  | true => F ds
  | false => none
end
end HB
namespace HB
open PySem L2
theorem start_no {N : List Str} {ds : List D} {σ : St} {b : Addr} : ¬ Ownd (ds.map Sl.pur ++ List.replicate (N.length - ds.length) Sl.no) σ b := by
  rintro ⟨i, s, es, h, hl, _⟩
  rw [List.getElem?_append] at h
  split at h
  · rw [List.getElem?_map] at h
    cases q : ds[i]? with
    | none => rw [q] at h; cases h
    | some d => rw [q] at h; cases h; cases hl
  · rw [List.getElem?_replicate] at h
    split at h
    · cases h; cases hl
    · cases h
theorem start_j {K : PySem.W.Frag} {G H : Hp} {N : List Str} {vs : List V} {ds : List D} (s : Sub K G H) (r : RpAll K G vs ds) : J K G (ds.map Sl.pur ++ List.replicate (N.length - ds.length) Sl.no) (start N vs) H := by
  have hl := r.length
  refine ⟨s, ?_, fun i d h => ?_, fun i s es h hl => absurd hl ?_, fun i k s t ds' es b h hl _ _ _ _ => absurd hl ?_, fun i g o o' z xs h _ => absurd (show (Sl.dl o g z).hs = some _ from rfl) ?_⟩
  · unfold L2.start
    simp only [List.length_append, List.length_map, List.length_replicate]
    omega
  · rw [List.getElem?_append] at h
    split at h
    · rename_i hi
      rw [List.length_map] at hi
      rw [List.getElem?_map] at h
      cases q : ds[i]? with
      | none => rw [q] at h; cases h
      | some e =>
        rw [q] at h
        cases h
        obtain ⟨v, h1, h2⟩ := r.get q
        refine ⟨v, ?_, h2⟩
        unfold L2.start
        rw [List.getElem?_append_left (by rw [List.length_map, hl]; exact hi), List.getElem?_map, h1]
        rfl
    · rw [List.getElem?_replicate] at h
      split at h <;> cases h
  · intro hl
    rw [List.getElem?_append] at h
    split at h
    · rw [List.getElem?_map] at h
      cases q : ds[i]? with
      | none => rw [q] at h; cases h
      | some d => rw [q] at h; cases h; cases hl
    · rw [List.getElem?_replicate] at h
      split at h
      · cases h; cases hl
      · cases h
  · intro hl
    rw [List.getElem?_append] at h
    split at h
    · rw [List.getElem?_map] at h
      cases q : ds[i]? with
      | none => rw [q] at h; cases h
      | some d => rw [q] at h; cases h; cases hl
    · rw [List.getElem?_replicate] at h
      split at h
      · cases h; cases hl
      · cases h
  · intro _
    rw [List.getElem?_append] at h
    split at h
    · rw [List.getElem?_map] at h
      cases q : ds[i]? with
      | none => rw [q] at h; cases h
      | some d => rw [q] at h; cases h
    · rw [List.getElem?_replicate] at h
      split at h <;> cases h
theorem Ex.px {K : PySem.W.Frag} {G H G' H' : Hp} {ρ ρ' : En} {σ σ' : St} (e : Ex K G ρ σ H G' ρ' σ' H') (no : ∀ b, ¬ Ownd ρ σ b) : PX G H G' H' :=
  ⟨⟨fun b o q => e.kept b o q (no b), e.tt.t⟩, e.g, e.j.sub, fun b hb => (e.new b hb).elim .inl fun z => z.elim .inr fun z => absurd z (no b), e.tt.n⟩
theorem XP.to0 {K : PySem.W.Frag} {G H : Hp} {ρ : En} {σ : St} {x : Exn} {C : Value} {dx : Option Addr} {H' : Hp} (no : ∀ b, ¬ Ownd ρ σ b) (h : XP K G ρ σ H x C dx H') : XP K G [] [] H x C dx H' := by
  obtain ⟨h1, G', h2, h3, h4, h5, h6, h7⟩ := h
  refine ⟨h1, G', h2, h3, fun b hb => ?_, fun b o q _ => h5 b o q (no b), h6, h7⟩
  rcases h4 b hb with z | z | z
  · exact .inl z
  · exact .inr (.inl z)
  · exact absurd z (no b)
theorem guard_len {n : Nat} {F : Fn} {ds : List D} (h : guard n F ds ≠ none) : ds.length = n := by
  unfold guard at h
  cases q : Nat.beq ds.length n with
  | true => exact Nat.eq_of_beq_eq_true q
  | false => rw [q] at h; exact absurd rfl h
theorem guard_eq {n : Nat} {F : Fn} {ds : List D} (h : ds.length = n) : guard n F ds = F ds := by
  unfold guard
  subst h
  have e : Nat.beq ds.length ds.length = true := Nat.beq_refl _
  rw [e]
theorem body_sem {K : PySem.W.Frag} {E : XK} {N : List Str} {g : Mo Fl} {t : TS} {n : Nat} (q : ∀ G ρ σ H De, J K G ρ σ H → PostS K E G ρ σ H De (g ρ) → t De σ H) {vs : List V} {H : Hp} {Q : VK} (h : spP K n (guard n (runF N.length g)) vs H Q E) :
    t { nx := fun _ H' => Q .non H', rt := Q } (start N vs) H := by
  obtain ⟨G, ds, s, r, hl, k⟩ := h
  rw [guard_eq hl] at k
  refine q G _ _ H _ (start_j s r) ?_
  have no : ∀ b, ¬ Ownd (ds.map Sl.pur ++ List.replicate (N.length - ds.length) Sl.no) (start N vs) b := fun b => start_no
  unfold runF at k
  cases e : g (ds.map Sl.pur ++ List.replicate (N.length - ds.length) Sl.no) with
  | none => rw [e] at k; exact k.elim
  | some o =>
    rw [e] at k
    cases o with
    | error x => exact fun C dx H' z => k C dx H' (z.to0 no)
    | ok p =>
      obtain ⟨ρ', f⟩ := p
      cases f with
      | nx => exact fun G' σ' H' z => k G' .non H' (z.px no) .non
      | rt d => exact fun G' σ' v H' z r => k G' v H' (z.px no) r
      | bk => exact k.elim
      | ct => exact k.elim
theorem pass_cx {P : Program} {w : World} {K : PySem.W.Frag} {mg : Str → Option Value} {base : Heap} {N : List Str} {qual : Str} {scope : Scope} {f : Addr} {cd : Value} {A : Around} {outer : List PySem.Env} {s : Shared} {H : Hp} {E : XK} :
    Passes (L2.CX P w) (cxOf (L2.CX P w) P w K mg base N qual scope f cd A outer s H E) E := passes_call (takes_of rfl rfl rfl rfl) fun _ _ _ _ h => h
theorem fn_ok {P : Program} {w : World} {K : PySem.W.Frag} {mg : Str → Option Value} {base : Heap} {x : Str} {st : Stmt} {fd : FuncData} {N ps : List Str} {k : Nat} {g : Mo Fl} (F : FunD K x x (defArgs st) (defBody st) (defScope st) [] [] (He.ga K x) fd) (S : FnScope N ps (defScope st)) (gl : mg x = some (.ref (He.ga K x)))
    (b : ∀ (kV doc pm : Value) (an : Option Addr) (cdv ct : Value) (us : List Value), us.length = ps.length → bindArgs (PySem.W.fnOf x x (defArgs st) (defBody st) (defScope st) .none kV doc pm an cdv ct) ⟨us, []⟩ = pure (ps.zip us))
    (hb : ∀ (cdv : Value) (A : Around) (outer : List PySem.Env) (s : Shared) (H : Hp) (E : XK), Room k (A.deeper (PyProof.Rows.envOfC x (defScope st) s.heap.objs.size (He.ga K x) cdv)) → SVs (cxOf (L2.CX P w) P w K mg base N x (defScope st) (He.ga K x) cdv A outer s H E) E (defBody st) g) :
    FnE P w K mg base (k + 1) x ps (guard ps.length (runF N.length g)) := by
  have ok : FnOk P w K mg base (L2.CX P w) (k + 1) (He.ga K x) fd ps (spP K ps.length (guard ps.length (runF N.length g))) := by
    refine F.ok S (fun vs H Q E h => ?_) fun cdv A outer s H vs Q E hr h => ?_
    · obtain ⟨G, ds, _, r, hl, _⟩ := h
      rw [r.length, hl]
    · obtain ⟨t, p, q⟩ := hb cdv A outer s H E hr
      exact ⟨t, p, body_sem q h⟩
  have here : IsFd K (He.ga K x) fd := let ⟨oc, od, _, _, _, _, _, _, _, osl, _, lk, _⟩ := F.ex; ⟨oc, od, osl, lk⟩
  exact ⟨⟨fd, ok, F.bindsN b⟩, F.kp, gl, fun ds h => guard_len h, fun fd' h => here.one h ▸ ok⟩
/-- the same def by another reckoning -/
theorem FnE.by {P : Program} {w : World} {K : PySem.W.Frag} {mg : Str → Option Value} {base : Heap} {k : Nat} {x : Str} {ps : List Str} {F F' : Fn} (h : FnE P w K mg base k x ps F) (e : ∀ ds r, F' ds = some r → F ds = some r) : FnE P w K mg base k x ps F' := by
  obtain ⟨⟨fd, h1, h2⟩, kp, gl, hl, h3⟩ := h
  have weaker : ∀ vs H Q E, spP K ps.length F' vs H Q E → spP K ps.length F vs H Q E := fun vs H Q E q => by
    obtain ⟨G, ds, s, r, l, z⟩ := q
    refine ⟨G, ds, s, r, l, ?_⟩
    cases e1 : F' ds with
    | none => rw [e1] at z; exact z.elim
    | some o => rw [e ds o e1]; rw [e1] at z; exact z
  refine ⟨⟨fd, h1.imp weaker, h2⟩, kp, gl, fun ds q => ?_, fun fd' h => (h3 fd' h).imp weaker⟩
  · cases e1 : F' ds with
    | none => exact absurd e1 q
    | some o => exact hl ds (by rw [e ds o e1]; simp)
section
variable {X : Cx}
def addD : D → D → Option D
  | .int i, .int j => some (.int (i + j))
  | .str x, .str y => if x.length + y.length ≤ 1000000 then some (.str (x ++ y)) else none
  | .tuple xs, .tuple ys => if xs.length + ys.length ≤ 1000000 then some (.tuple (xs ++ ys)) else none
  | .list xs, .list ys => if xs.length + ys.length ≤ 1000000 then some (.list (xs ++ ys)) else none
  | _, _ => none
theorem ite_some {c : Prop} [Decidable c] {α : Type} {a b : α} (h : (if c then some a else none) = some b) : c ∧ a = b := by
  split at h
  · rename_i q
    exact ⟨q, Option.some.inj h⟩
  · cases h
theorem dop_add : DOp X (binaryOp .Add) addD := by
  refine ⟨_, op_add.or (op_add_str.or ((op_catP.or op_cat0).or op_cat)), fun G H x y a b c Q s hx hy h k => ?_⟩
  cases hx with
  | int i => cases hy with
    | int j => cases h; exact .inl ⟨i, j, rfl, rfl, k G _ H (.refl s) (.int _)⟩
    | _ => cases h
  | str z => cases hy with
    | str z' =>
      obtain ⟨h1, rfl⟩ := ite_some (show (if z.length + z'.length ≤ 1000000 then some (PyData.str (z ++ z')) else none) = some c from h)
      exact .inr (.inl ⟨z, z', rfl, rfl, line_of h1, k G _ H (.refl s) (.str _)⟩)
    | _ => cases h
  | @tup a xs ds h1 h2 => cases hy with
    | @tup a' ys es h3 h4 =>
      obtain ⟨hz, rfl⟩ := ite_some (show (if ds.length + es.length ≤ 1000000 then some (PyData.tuple (ds ++ es)) else none) = some c from h)
      have l1 := h2.length
      have l2 := h4.length
      have lz : xs.length + ys.length ≤ sizeLine := by rw [l1, l2]; exact line_of hz
      by_cases ex : xs = []
      · refine .inr (.inr (.inl (.inr ⟨a, a', xs, ys, rfl, rfl, sqT_mono s h1.t, sqT_mono s h3.t, lz, .inl ⟨ex, ?_⟩⟩)))
        subst ex
        cases h2
        exact k G _ H (.refl s) (.tup h3 h4)
      · by_cases ey : ys = []
        · refine .inr (.inr (.inl (.inr ⟨a, a', xs, ys, rfl, rfl, sqT_mono s h1.t, sqT_mono s h3.t, lz, .inr ⟨ex, ey, ?_⟩⟩)))
          subst ey
          cases h4
          exact k G _ H (.refl s) (by rw [List.append_nil]; exact .tup h1 h2)
        · refine .inr (.inr (.inl (.inl ⟨a, a', xs, ys, rfl, rfl, sqT_mono s h1.t, sqT_mono s h3.t, ex, ey, lz, fun p o hp nd => ?_⟩)))
          have px : PX G H _ _ := .alloc s hp (.frz o (.tup (xs ++ ys)))
          exact k _ _ _ px (.tup (.new nd) ((h2.append h4).mono px.g))
    | _ => cases h
  | @lst a xs ds h1 h2 => cases hy with
    | @lst a' ys es h3 h4 =>
      obtain ⟨hz, rfl⟩ := ite_some (show (if ds.length + es.length ≤ 1000000 then some (PyData.list (ds ++ es)) else none) = some c from h)
      refine .inr (.inr (.inr ⟨a, a', xs, ys, rfl, rfl, s _ _ h1, s _ _ h3, by rw [h2.length, h4.length]; exact line_of hz, fun p hp => ?_⟩))
      have px : PX G H _ _ := .alloc s hp (.lst (xs ++ ys))
      exact k _ _ _ px (.lst upd_same ((h2.append h4).mono px.g))
    | _ => cases h
  | obj h1 h2 => cases h
  | _ => cases h
def subD : D → D → Option D
  | .int i, .int j => some (.int (i - j))
  | _, _ => none
theorem dop_sub : DOp X (binaryOp .Sub) subD := by
  refine ⟨_, op_sub, fun G H x y a b c Q s hx hy h k => ?_⟩
  cases hx with
  | int i => cases hy with
    | int j => cases h; exact ⟨i, j, rfl, rfl, k G _ H (.refl s) (.int _)⟩
    | _ => cases h
  | _ => cases h
/-- the factors have together less than a million bits -/
def mulFit (i j : Int) : Bool := Nat.blt (i.natAbs.log2 + j.natAbs.log2) 1000000
def mulD : D → D → Option D
  | .int i, .int j => match mulFit i j with
    | true => some (.int (i * j))
    | false => none
  | .list xs, .int k => if xs.length * k.toNat ≤ 1000000 ∧ k < 1000000 ∧ -1000000 < k then some (.list (List.replicate k.toNat xs).flatten) else none
  | _, _ => none
theorem RpAll.flat {K : PySem.W.Frag} {G : Hp} {xs : List V} {ds : List D} (r : RpAll K G xs ds) : ∀ n : Nat, RpAll K G (List.replicate n xs).flatten (List.replicate n ds).flatten
  | 0 => .nil
  | n + 1 => by
    simp only [List.replicate_succ, List.flatten_cons]
    exact r.append (RpAll.flat r n)
theorem dop_mul : DOp X (binaryOp .Mult) mulD := by
  refine ⟨_, op_mulW.or op_rep, fun G H x y a b c Q s hx hy h k => ?_⟩
  cases hx with
  | int i => cases hy with
    | int j =>
      have h' : (match mulFit i j with
        | true => some (PyData.int (i * j))
        | false => none) = some c := h
      cases q : mulFit i j with
      | true =>
        rw [q] at h'
        cases h'
        refine .inl ⟨i, j, rfl, rfl, ?_, k G _ H (.refl s) (.int _)⟩
        unfold mulFit Nat.blt at q
        exact Nat.le_of_ble_eq_true q
      | false => rw [q] at h'; cases h'
    | _ => cases h
  | @lst a xs ds h1 h2 => cases hy with
    | int j =>
      obtain ⟨⟨hz, h3, h4⟩, rfl⟩ := ite_some (show (if ds.length * j.toNat ≤ 1000000 ∧ j < 1000000 ∧ -1000000 < j then some (PyData.list (List.replicate j.toNat ds).flatten) else none) = some c from h)
      refine .inr ⟨a, j, xs, rfl, rfl, s _ _ h1, by omega, by omega, by rw [h2.length]; exact line_of hz, fun p hp => ?_⟩
      have px : PX G H _ _ := .alloc s hp (.lst (List.replicate j.toNat xs).flatten)
      exact k _ _ _ px (.lst upd_same ((h2.flat _).mono px.g))
    | _ => cases h
  | obj h1 h2 => cases h
  | _ => cases h
def fdivD : D → D → Option D
  | .int i, .int j => if 0 < j ∧ j.natAbs.log2 < 9000 then some (.int (i / j)) else none
  | _, _ => none
theorem dop_fdiv : DOp X (binaryOp .FloorDiv) fdivD := by
  refine ⟨_, op_fdivW, fun G H x y a b c Q s hx hy h k => ?_⟩
  cases hx with
  | int i => cases hy with
    | int j =>
      obtain ⟨h1, rfl⟩ := ite_some (show (if 0 < j ∧ j.natAbs.log2 < 9000 then some (PyData.int (i / j)) else none) = some c from h)
      exact ⟨i, j, rfl, rfl, h1, k G _ H (.refl s) (.int _)⟩
    | _ => cases h
  | _ => cases h
def modD : D → D → Option D
  | .int i, .int j => if 0 < j then some (.int (i % j)) else none
  | _, _ => none
theorem dop_mod : DOp X (binaryOp .Mod) modD := by
  refine ⟨_, op_mod, fun G H x y a b c Q s hx hy h k => ?_⟩
  cases hx with
  | int i => cases hy with
    | int j =>
      obtain ⟨h1, rfl⟩ := ite_some (show (if 0 < j then some (PyData.int (i % j)) else none) = some c from h)
      exact ⟨i, j, rfl, rfl, h1, k G _ H (.refl s) (.int _)⟩
    | _ => cases h
  | _ => cases h
def powD : D → D → Option D
  | .int i, .int j => if 0 ≤ j ∧ j ≤ 1000000 ∧ i.natAbs < 2 ^ 64 then some (.int (i ^ j.toNat)) else none
  | _, _ => none
theorem dop_pow : DOp X (binaryOp .Pow) powD := by
  refine ⟨_, op_pow, fun G H x y a b c Q s hx hy h k => ?_⟩
  cases hx with
  | int i => cases hy with
    | int j =>
      obtain ⟨h1, rfl⟩ := ite_some (show (if 0 ≤ j ∧ j ≤ 1000000 ∧ i.natAbs < 2 ^ 64 then some (PyData.int (i ^ j.toNat)) else none) = some c from h)
      exact ⟨i, j, rfl, rfl, h1, k G _ H (.refl s) (.int _)⟩
    | _ => cases h
  | _ => cases h
/-- comparisons of ints -/
def cmpD (p : Int → Int → Bool) : D → D → Option D
  | .int i, .int j => some (.bool (p i j))
  | _, _ => none
theorem dop_cmp {sem : Value → Value → Sem Value} {p : Int → Int → Bool} (h : OpR X sem (rI0 fun i j => .bl (p i j))) : DOp X sem (cmpD p) := by
  refine ⟨_, h, fun G H x y a b c Q s hx hy h k => ?_⟩
  cases hx with
  | int i => cases hy with
    | int j => cases h; exact ⟨i, j, rfl, rfl, k G _ H (.refl s) (.bl _)⟩
    | _ => cases h
  | _ => cases h
def ltI (i j : Int) : Bool := decide (i < j)
def leI (i j : Int) : Bool := decide (i ≤ j)
def gtI (i j : Int) : Bool := decide (j < i)
def geI (i j : Int) : Bool := decide (j ≤ i)
theorem dop_lt : DOp X (compareOp .Lt) (cmpD ltI) := dop_cmp op_lt
theorem dop_le : DOp X (compareOp .LtE) (cmpD leI) := dop_cmp op_le
theorem dop_gt : DOp X (compareOp .Gt) (cmpD gtI) := dop_cmp op_gt
theorem dop_ge : DOp X (compareOp .GtE) (cmpD geI) := dop_cmp op_ge
def eqD : D → D → Option D
  | .int i, .int j => some (.bool (i == j))
  | a, b => if SeqAt.shaped a = true ∧ SeqAt.shaped b = true then some (.bool (PyData.eqv a b)) else none
def neD : D → D → Option D
  | .int i, .int j => some (.bool (!(i == j)))
  | a, b => if SeqAt.shaped a = true ∧ SeqAt.shaped b = true then some (.bool (!PyData.eqv a b)) else none
theorem eqD_is {a b c : D} (h : eqD a b = some c) : SeqAt.shaped a = true ∧ SeqAt.shaped b = true ∧ c = .bool (PyData.eqv a b) := by
  unfold eqD at h
  split at h
  · cases h
    exact ⟨rfl, rfl, by simp only [PyData.eqv]⟩
  · obtain ⟨⟨h1, h2⟩, rfl⟩ := ite_some h
    exact ⟨h1, h2, rfl⟩
theorem neD_is {a b c : D} (h : neD a b = some c) : SeqAt.shaped a = true ∧ SeqAt.shaped b = true ∧ c = .bool (!PyData.eqv a b) := by
  unfold neD at h
  split at h
  · cases h
    exact ⟨rfl, rfl, by simp only [PyData.eqv]⟩
  · obtain ⟨⟨h1, h2⟩, rfl⟩ := ite_some h
    exact ⟨h1, h2, rfl⟩
theorem Rp.shaped {K : PySem.W.Frag} {G H : Hp} {v : V} {d : D} (s : Same G H) (c : SeqAt.shaped d = true) (r : Rp K G v d) : Dp K H v d := (r.mono s).dp d (SeqAt.canLay_of_shaped c)
theorem dop_eq (hu : X.A.units + 64 < cLine) : DOp X (compareOp .Eq) eqD := by
  refine ⟨_, op_eqD hu, fun G H x y a b c Q s hx hy h k => ?_⟩
  obtain ⟨h1, h2, rfl⟩ := eqD_is h
  exact ⟨a, b, hx.shaped s h1, hy.shaped s h2, h1, h2, k G _ H (.refl s) (.bl _)⟩
theorem dop_ne (hu : X.A.units + 64 < cLine) : DOp X (compareOp .NotEq) neD := by
  refine ⟨_, op_neD hu, fun G H x y a b c Q s hx hy h k => ?_⟩
  obtain ⟨h1, h2, rfl⟩ := neD_is h
  exact ⟨a, b, hx.shaped s h1, hy.shaped s h2, h1, h2, k G _ H (.refl s) (.bl _)⟩
def isN : D → Bool
  | .none => true
  | _ => false
theorem isN_V {K : PySem.W.Frag} {G : Hp} {v : V} {d : D} (r : Rp K G v d) : decide (v = .non) = isN d := by
  cases r <;> simp [isN]
/-- is None -/
def isD : D → D → Option D
  | a, .none => some (.bool (isN a))
  | _, _ => none
def isNotD : D → D → Option D
  | a, .none => some (.bool (!isN a))
  | _, _ => none
theorem dop_isNot : DOp X (compareOp .IsNot) isNotD := by
  refine ⟨_, op_notN, fun G H x y a b c Q s hx hy h k => ?_⟩
  cases hy with
  | non => cases h; exact ⟨rfl, by rw [isN_V hx]; exact k G _ H (.refl s) (.bl _)⟩
  | _ => cases h
end
end HB
namespace HB
open PySem L2
section
variable {X : Cx} {E : XK}
def inD : D → D → Option D
  | d, .list ds => if SeqAt.shaped d = true ∧ SeqAt.shaped (.list ds) = true then some (.bool (ds.any fun z => PyData.eqv z d)) else none
  | .str i, .str j => some (.bool (!(Builtin.Str.occurrences j i 0 j.length 1).isEmpty))
  | _, _ => none
def notInD : D → D → Option D
  | d, .list ds => if SeqAt.shaped d = true ∧ SeqAt.shaped (.list ds) = true then some (.bool (!ds.any fun z => PyData.eqv z d)) else none
  | .str i, .str j => some (.bool (!!(Builtin.Str.occurrences j i 0 j.length 1).isEmpty))
  | _, _ => none
theorem dop_in (hu : X.A.units + 65 < cLine) : DOp X (compareOp .In) inD := by
  refine ⟨_, (op_inD hu).or op_in_str, fun G H x y a b c Q s hx hy h k => ?_⟩
  cases hy with
  | @lst p xs ds h1 h2 =>
    obtain ⟨⟨h3, h4⟩, rfl⟩ := ite_some (show (if SeqAt.shaped a = true ∧ SeqAt.shaped (.list ds) = true then some (PyData.bool (ds.any fun z => PyData.eqv z a)) else none) = some c by
      cases a <;> exact h)
    exact .inl ⟨a, ds, hx.shaped s h3, (Rp.lst h1 h2).shaped s h4, h3, h4, k G _ H (.refl s) (.bl _)⟩
  | str z => cases hx with
    | str z' => cases h; exact .inr ⟨z', z, rfl, rfl, k G _ H (.refl s) (.bl _)⟩
    | _ => cases h
  | _ => cases hx <;> cases h
theorem dop_notIn (hu : X.A.units + 65 < cLine) : DOp X (compareOp .NotIn) notInD := by
  refine ⟨_, (op_notInD hu).or op_notin_str, fun G H x y a b c Q s hx hy h k => ?_⟩
  cases hy with
  | @lst p xs ds h1 h2 =>
    obtain ⟨⟨h3, h4⟩, rfl⟩ := ite_some (show (if SeqAt.shaped a = true ∧ SeqAt.shaped (.list ds) = true then some (PyData.bool (!ds.any fun z => PyData.eqv z a)) else none) = some c by
      cases a <;> exact h)
    exact .inl ⟨a, ds, hx.shaped s h3, (Rp.lst h1 h2).shaped s h4, h3, h4, k G _ H (.refl s) (.bl _)⟩
  | str z => cases hx with
    | str z' => cases h; exact .inr ⟨z', z, rfl, rfl, k G _ H (.refl s) (.bl _)⟩
    | _ => cases h
  | _ => cases hx <;> cases h
/-- -a -/
def negD : D → Option D
  | .int i => some (.int (-i))
  | _ => none
def mUn (f : D → Option D) (a : Mo D) : Mo D := mBind a fun x => mLift (f x)
theorem ev_neg {a : Expr} {pos : Pos} {f : Mo D} (h : EV X E a f) : EV X E (.UnaryOp .USub a pos) (mUn negD f) := by
  obtain ⟨t, p, q⟩ := h
  refine ⟨_, pe_un un_neg p, fun G ρ σ H Q j h => q G ρ σ H _ j (Post.imp h fun G1 ρ1 x H1 a e1 r1 h1 => ?_)⟩
  obtain ⟨c, hc, k⟩ := Post.lift (ρ' := ρ1) h1
  cases r1 with
  | int i => cases hc; exact ⟨i, rfl, k G1 _ H1 e1.j.refl (.int _)⟩
  | _ => cases hc
def lenD : List D → Option D
  | [.list ds] => some (.int ds.length)
  | [.tuple ds] => some (.int ds.length)
  | [.dict [(.none, .list ds)]] => some (.int ds.length)
  | [.str x] => if x.length ≤ 1000000 then some (.int x.length) else none
  | _ => none
theorem RpAll.one {K : PySem.W.Frag} {G : Hp} {xs : List V} {d : D} (r : RpAll K G xs [d]) : ∃ x, xs = [x] ∧ Rp K G x d := by
  cases r with
  | cons h t => cases t; exact ⟨_, rfl, h⟩
theorem RpAll.two {K : PySem.W.Frag} {G : Hp} {xs : List V} {d e : D} (r : RpAll K G xs [d, e]) : ∃ x y, xs = [x, y] ∧ Rp K G x d ∧ Rp K G y e := by
  cases r with
  | cons h t =>
    obtain ⟨y, rfl, q⟩ := t.one
    exact ⟨_, y, rfl, h, q⟩
theorem dc_len : DCall X (.builtin "len") lenD := by
  refine ⟨_, call_len, fun G H xs ds c Q s hx h k => ?_⟩
  match ds, h with
  | [.list ds], h =>
    obtain ⟨x, rfl, r⟩ := hx.one
    cases h
    cases r with
    | lst h1 h2 => exact ⟨_, _, rfl, .inl ⟨_, .of (s _ _ h1), h2.length.symm⟩, k G _ H (.refl s) (.int _)⟩
  | [.tuple ds], h =>
    obtain ⟨x, rfl, r⟩ := hx.one
    cases h
    cases r with
    | tup h1 h2 => exact ⟨_, _, rfl, .inr ⟨_, sqT_mono s h1.t, h2.length.symm⟩, k G _ H (.refl s) (.int _)⟩
  | [.dict [(.none, .list ds)]], h =>
    obtain ⟨x, rfl, r⟩ := hx.one
    cases h
    cases r with
    | frz h1 h2 => exact ⟨_, _, rfl, .inl ⟨_, s.seq h1, h2.length.symm⟩, k G _ H (.refl s) (.int _)⟩
  | [.str z], h =>
    obtain ⟨x, rfl, r⟩ := hx.one
    obtain ⟨h1, rfl⟩ := ite_some (show (if z.length ≤ 1000000 then some (PyData.int z.length) else none) = some c from h)
    cases r
    exact ⟨_, _, rfl, ⟨line_of h1, rfl⟩, k G _ H (.refl s) (.int _)⟩
def absD : List D → Option D
  | [.int i] => some (.int (if i < 0 then -i else i))
  | _ => none
theorem dc_abs : DCall X (.builtin "abs") absD := by
  refine ⟨_, call_abs, fun G H xs ds c Q s hx h k => ?_⟩
  match ds, h with
  | [.int i], h =>
    obtain ⟨x, rfl, r⟩ := hx.one
    cases h
    cases r
    exact ⟨_, rfl, k G _ H (.refl s) (.int _)⟩
def maxD : List D → Option D
  | [.int i, .int j] => some (.int (if j > i then j else i))
  | _ => none
theorem dc_max (hc : X.calm = true) : DCall X (.builtin "max") maxD := by
  refine ⟨_, call_max2 hc, fun G H xs ds c Q s hx h k => ?_⟩
  match ds, h with
  | [.int i, .int j], h =>
    obtain ⟨x, y, rfl, r, r2⟩ := hx.two
    cases h
    cases r
    cases r2
    exact ⟨_, _, rfl, k G _ H (.refl s) (.int _)⟩
def intD : List D → Option D
  | [.int i] => some (.int i)
  | [.bool b] => some (.int (if b then 1 else 0))
  | _ => none
theorem dc_int : DCall X (.type "int") intD := by
  refine ⟨_, call_int1, fun G H xs ds c Q s hx h k => ?_⟩
  match ds, h with
  | [.int i], h =>
    obtain ⟨x, rfl, r⟩ := hx.one
    cases h
    cases r
    exact .inl ⟨_, rfl, k G _ H (.refl s) (.int _)⟩
  | [.bool i], h =>
    obtain ⟨x, rfl, r⟩ := hx.one
    cases h
    cases r
    exact .inr ⟨_, rfl, k G _ H (.refl s) (.int _)⟩
def boolsD : List D → Option (List Bool)
  | [] => some []
  | .bool b :: r => (boolsD r).map (b :: ·)
  | _ :: _ => none
theorem RpAll.bools {K : PySem.W.Frag} {G : Hp} : ∀ {xs : List V} {ds : List D} {bs : List Bool}, RpAll K G xs ds → boolsD ds = some bs → xs = bs.map V.bl
  | _, [], _, .nil, h => by cases h; rfl
  | _, .bool b :: r, bs, .cons h t, e => by
    cases h
    have e' : (boolsD r).map (b :: ·) = some bs := e
    cases q : boolsD r with
    | none => rw [q] at e'; cases e'
    | some cs =>
      rw [q] at e'
      cases e'
      rw [t.bools q]
      rfl
def allD : List D → Option D
  | [.list ds] => (boolsD ds).map fun bs => .bool (bs.all id)
  | _ => none
def anyD : List D → Option D
  | [.list ds] => (boolsD ds).map fun bs => .bool (bs.any id)
  | _ => none
theorem dc_all (hc : X.calm = true) : DCall X (.builtin "all") allD := by
  refine ⟨_, cr_all hc, fun G H xs ds c Q s hx h k => ?_⟩
  match ds, h with
  | [.list ds], h =>
    obtain ⟨x, rfl, r⟩ := hx.one
    have h' : (boolsD ds).map (fun bs => PyData.bool (bs.all id)) = some c := h
    cases q : boolsD ds with
    | none => rw [q] at h'; cases h'
    | some bs =>
      rw [q] at h'
      cases h'
      cases r with
      | lst h1 h2 => exact ⟨_, bs, rfl, .of (by rw [← h2.bools q]; exact s _ _ h1), k G _ H (.refl s) (.bl _)⟩
theorem dc_any (hc : X.calm = true) : DCall X (.builtin "any") anyD := by
  refine ⟨_, cr_any hc, fun G H xs ds c Q s hx h k => ?_⟩
  match ds, h with
  | [.list ds], h =>
    obtain ⟨x, rfl, r⟩ := hx.one
    have h' : (boolsD ds).map (fun bs => PyData.bool (bs.any id)) = some c := h
    cases q : boolsD ds with
    | none => rw [q] at h'; cases h'
    | some bs =>
      rw [q] at h'
      cases h'
      cases r with
      | lst h1 h2 => exact ⟨_, bs, rfl, .of (by rw [← h2.bools q]; exact s _ _ h1), k G _ H (.refl s) (.bl _)⟩
def tupleD : List D → Option D
  | [.list ds] => some (.tuple ds)
  | [.tuple ds] => some (.tuple ds)
  | _ => none
theorem dc_tuple : DCall X (.type "tuple") tupleD := by
  refine ⟨_, call_tupP.or call_tupleT, fun G H xs ds c Q s hx h k => ?_⟩
  match ds, h with
  | [.list ds], h =>
    obtain ⟨x, rfl, r⟩ := hx.one
    cases h
    cases r with
    | @lst a vs ds h1 h2 =>
      refine .inl ⟨_, vs, rfl, .of (s _ _ h1), fun p o hp nd => ?_⟩
      have px : PX G H _ _ := .alloc s hp (.frz o (.tup vs))
      exact k _ _ _ px (.tup (.new nd) (h2.mono px.g))
  | [.tuple ds], h =>
    obtain ⟨x, rfl, r⟩ := hx.one
    cases h
    cases r with
    | tup h1 h2 => exact .inr ⟨_, _, rfl, sqT_mono s h1.t, k G _ H (.refl s) (.tup h1 h2)⟩
def strD : List D → Option D
  | [.int i] => if i.natAbs.log2 < 1920 then some (.str (toString i)) else none
  | _ => none
theorem dc_str : DCall X (.type "str") strD := by
  refine ⟨_, call_str_int, fun G H xs ds c Q s hx h k => ?_⟩
  match ds, h with
  | [.int i], h =>
    obtain ⟨x, rfl, r⟩ := hx.one
    obtain ⟨h1, rfl⟩ := ite_some (show (if i.natAbs.log2 < 1920 then some (PyData.str (toString i)) else none) = some c from h)
    cases r
    exact ⟨_, rfl, h1, k G _ H (.refl s) (.str _)⟩
/-- list(x): a new list -/
def mListOf (f : Mo D) : Mo (List D) := mBind f fun d => mLift (itemsD d)
theorem en_list {e : Expr} {p pos : Pos} {f : Mo D} (hm : X.mg "list" = none) (h : EV X E e f) (hg : Gl X "list" := by rfl) (he : starEach [e] X.env = (false, eval e X.env) :: starEach [] X.env := by rfl) (hpl : (backTo pos (starEach [] X.env)).any (·.1) = false := by rfl) : EN X E (.Call (.Name "list" p) [e] [] pos) (mListOf f) := by
  obtain ⟨t, pt, q⟩ := h
  refine ⟨_, pe_callTy call_list_of hg hm (by decide +kernel) (pa_cons pt pa_nil he) (by decide) (by decide) he hpl, fun G ρ σ H Q j h => ?_⟩
  refine q G ρ σ H _ j (Post.impN h fun G1 ρ1 x H1 d e1 r1 h1 => ?_)
  obtain ⟨ds, hd, k⟩ := Post.liftN h1
  obtain ⟨p0, xs, rfl, s0, r0⟩ := r1.items hd
  refine ⟨p0, xs, rfl, (sq_mono e1.j.sub s0).symm, fun l hl => ?_⟩
  exact k _ _ _ (new_list e1.j hl r0) ⟨l, xs, rfl, hl, e1.j.free hl, upd_same, e1.j.nown hl, r0⟩
def tyD : D → Option String
  | .none => some "NoneType"
  | .bool _ => some "bool"
  | .int _ => some "int"
  | .str _ => some "str"
  | .list _ => some "list"
  | .tuple _ => some "tuple"
  | _ => none
theorem Rp.ty {K : PySem.W.Frag} {G H : Hp} {v : V} {d : D} {n : String} (s : Same G H) (r : Rp K G v d) (h : tyD d = some n) : TyX K H v (.type n) := by
  cases r with
  | non => cases h; exact .base .non
  | bl b => cases h; exact .base (.bl b)
  | int i => cases h; exact .base (.int i)
  | str x => cases h; exact .base (.str x)
  | lst h1 _ => cases h; exact .base (.lst (s _ _ h1))
  | @tup a xs ds h1 h2 =>
    cases h
    rcases sqT_mono s h1.t with (z | ⟨o, z⟩) | z
    · exact .base (.tup z)
    · exact .fTuple z
    · obtain ⟨o, its, n, z1, z2, z3⟩ := z
      exact .kTuple z1 z2
  | frz h1 h2 => cases h
  | obj h1 h2 => cases h
  | adr a => cases h
  | fn x => cases h
  | gst a g => cases h
  | clo _ _ _ _ => cases h
end
end HB
namespace HB
open PySem L2
abbrev Src := En → Option (List D)
/-- the iterator yields what the source tells, as things stand -/
def ItOk (K : PySem.W.Frag) (G : Hp) (σ : St) (Jt : It) (src : Src) (js : List Nat) : Prop := ∀ (i : Nat) (G2 : Hp) (ρ2 : En) (σ2 : St) (H2 : Hp) (items : List D), Same G G2 → J K G2 ρ2 σ2 H2 → (∀ j ∈ js, σ2[j]? = σ[j]?) → src ρ2 = some items →
  (∀ d, items[i]? = some d → Jt.go i H2 ∧ ∀ x H3, Jt.yld i H2 x H3 → ∃ G3, PX G2 H2 G3 H3 ∧ Rp K G3 x d) ∧ (items.length ≤ i → Jt.stop i H2)
def PostI (K : PySem.W.Frag) (E : XK) (js : List Nat) (G : Hp) (ρ : En) (σ : St) (H : Hp) (R : It → Hp → Prop) : Option (Except Exn (En × Src)) → Prop
  | none => False
  | some (.error x) => ∀ C dx H', XP K G ρ σ H x C dx H' → E C dx H'
  | some (.ok (ρ', src)) => ∀ G' H' Jt, Ex K G ρ σ H G' ρ' σ H' → ItOk K G' σ Jt src js → R Jt H'
def IV (X : Cx) (E : XK) (tg iter : Expr) (f : Mo Src) (js : List Nat) : Prop := ∃ wi, PI X tg iter wi ∧ ∀ G ρ σ H R, J X.K G ρ σ H → PostI X.K E js G ρ σ H R (f ρ) → wi σ H R
section
variable {X : Cx} {E : XK}
theorem PostI.imp {K : PySem.W.Frag} {js : List Nat} {G H : Hp} {ρ : En} {σ : St} {Rr : It → Hp → Prop} {γ δ : Type} {R' : Hp → δ → γ → Prop} {Q' : δ → Hp → Prop} {m : Mo γ} {f : γ → Mo Src} (h : PostI K E js G ρ σ H Rr (mBind m f ρ))
    (k : ∀ G1 ρ1 v H1 a, Ex K G ρ σ H G1 ρ1 σ H1 → R' G1 v a → PostI K E js G1 ρ1 σ H1 Rr (f a ρ1) → Q' v H1) : Post K E R' G ρ σ H Q' (m ρ) := by
  unfold mBind at h
  cases q : m ρ with
  | none => rw [q] at h; exact h
  | some r =>
    rw [q] at h
    cases r with
    | error x => exact h
    | ok p =>
      obtain ⟨ρ', a⟩ := p
      refine fun G' v H' z r => k G' ρ' v H' a z r ?_
      have h2 : PostI K E js G ρ σ H Rr (f a ρ') := h
      match hh : f a ρ', h2 with
      | some (.error x), h2 => exact fun C dx H' y => h2 C dx H' (XP.trans z y)
      | some (.ok (ρ2, ds)), h2 => exact fun G2 H2 Jt y r2 => h2 G2 H2 Jt (z.trans y) r2
theorem PostI.lift {K : PySem.W.Frag} {js : List Nat} {G H : Hp} {ρ : En} {σ : St} {Rr : It → Hp → Prop} {o : Option Src} (h : PostI K E js G ρ σ H Rr (mLift o ρ)) : ∃ a, o = some a ∧ ∀ G' H' Jt, Ex K G ρ σ H G' ρ σ H' → ItOk K G' σ Jt a js → Rr Jt H' := by
  cases o with
  | none => exact False.elim h
  | some a => exact ⟨a, rfl, h⟩
def constS (ds : List D) : Src := fun _ => some ds
/-- lists and tuples -/
def iSeq (K : PySem.W.Frag) (tl : TE) : TI := fun σ H R => tl σ H fun x H1 => ∃ a, x = .ref a ∧ (((∃ xs, SqL K H1 a xs) ∧ R (Itl K a) H1) ∨ ((∃ xs, SqT K H1 a xs) ∧ R (Itt K a) H1))
theorem pi_seq {tg l : Expr} {tl : TE} (hl : PE X l tl) : PI X tg l (iSeq X.K tl) :=
  PI.mk fun pins s σ H R I h => thn (hl.run pins s σ H _ I h) fun v s1 ⟨x, H1, I1, r1, a, e, q1⟩ => by
    subst e
    cases r1
    exact q1.elim
      (fun ⟨⟨_, hq⟩, q⟩ => have ⟨_, _, p, _⟩ := I1.list hq; wpAny_pyIter_list p.isList (pi_one I1 _ (turn_list a _) ⟨_, Heap.get?_push_size _ rfl, rfl, rfl⟩ q))
      (fun ⟨⟨_, hq⟩, q⟩ => have ⟨its, _, p, _⟩ := I1.tuple hq; wpAny_pyIter_tuple (items := its.toArray) p (pi_one I1 _ (turn_tuple a _) ⟨_, Heap.get?_push_size _ rfl, rfl, rfl⟩ q))
def mSeqS (f : Mo D) : Mo Src := mBind f fun d => mLift ((itemsD d).map constS)
theorem itl_ok {K : PySem.W.Frag} {G : Hp} {σ : St} {a : Addr} {xs : List V} {ds : List D} {js : List Nat} (h : SqL K G a xs) (r : RpAll K G xs ds) : ItOk K G σ (Itl K a) (constS ds) js := by
  intro i G2 ρ2 σ2 H2 items sg j _ e
  cases e
  have hs : SqL K H2 a xs := j.sub.seq (sg.seq h)
  refine ⟨fun d hd => ?_, fun hi => ⟨xs, hs, by rw [r.length]; exact hi⟩⟩
  obtain ⟨v, h1, h2⟩ := r.get hd
  refine ⟨⟨xs, v, hs, h1⟩, fun x H3 y => ?_⟩
  obtain ⟨rfl, y⟩ := y
  have e := Option.some.inj ((y xs hs).symm.trans h1)
  subst e
  exact ⟨G2, .refl j.sub, h2.mono sg⟩
theorem itt_ok {K : PySem.W.Frag} {G : Hp} {σ : St} {a : Addr} {xs : List V} {ds : List D} {js : List Nat} (h : SqT K G a xs) (r : RpAll K G xs ds) : ItOk K G σ (Itt K a) (constS ds) js := by
  intro i G2 ρ2 σ2 H2 items sg j _ e
  cases e
  have hs : SqT K H2 a xs := sqT_mono j.sub (sqT_mono sg h)
  refine ⟨fun d hd => ?_, fun hi => ⟨xs, hs, by rw [r.length]; exact hi⟩⟩
  obtain ⟨v, h1, h2⟩ := r.get hd
  refine ⟨⟨xs, v, hs, h1⟩, fun x H3 y => ?_⟩
  obtain ⟨rfl, y⟩ := y
  have e := Option.some.inj ((y xs hs).symm.trans h1)
  subst e
  exact ⟨G2, .refl j.sub, h2.mono sg⟩
theorem iv_seq {tg iter : Expr} {f : Mo D} (h : EV X E iter f) : IV X E tg iter (mSeqS f) [] := by
  obtain ⟨t, p, q⟩ := h
  refine ⟨_, pi_seq p, fun G ρ σ H R j h => q G ρ σ H _ j (PostI.imp h fun G1 ρ1 x H1 d e1 r1 h1 => ?_)⟩
  obtain ⟨src, hs, k⟩ := PostI.lift h1
  cases hi : itemsD d with
  | none => rw [hi] at hs; cases hs
  | some ds =>
    rw [hi] at hs
    cases hs
    obtain ⟨p0, xs, rfl, s0, r0⟩ := r1.items hi
    rcases s0 with s0 | s0
    · exact ⟨p0, rfl, .inr ⟨⟨xs, sqT_mono e1.j.sub s0⟩, k G1 H1 _ e1.j.refl (itt_ok s0 r0)⟩⟩
    · exact ⟨p0, rfl, .inl ⟨⟨xs, e1.j.sub.seq s0⟩, k G1 H1 _ e1.j.refl (itl_ok s0 r0)⟩⟩
/-- range -/
def rangeD (lo : Int) : Nat → List D
  | 0 => []
  | n + 1 => .int lo :: rangeD (lo + 1) n
theorem rangeD_get : ∀ (n : Nat) (lo : Int) (i : Nat), (rangeD lo n)[i]? = if i < n then some (.int (lo + i)) else none
  | 0, _, _ => by simp [rangeD]
  | n + 1, lo, 0 => by simp [rangeD]
  | n + 1, lo, i + 1 => by
    simp only [rangeD, List.getElem?_cons_succ, rangeD_get n (lo + 1) i]
    have e : lo + 1 + (i : Int) = lo + ((i + 1 : Nat) : Int) := by omega
    simp only [e, Nat.add_lt_add_iff_right]
theorem rangeD_len (lo : Int) (n : Nat) : (rangeD lo n).length = n := by
  induction n generalizing lo with
  | zero => rfl
  | succ n ih => simp [rangeD, ih]
theorem itr_ok {K : PySem.W.Frag} {G : Hp} {σ : St} {lo : Int} {n : Nat} {js : List Nat} : ItOk K G σ (Itr lo n) (constS (rangeD lo n)) js := by
  intro i G2 ρ2 σ2 H2 items sg j _ e
  cases e
  refine ⟨fun d hd => ?_, fun hi => by rw [rangeD_len] at hi; exact hi⟩
  rw [rangeD_get] at hd
  split at hd
  · rename_i hlt
    cases hd
    refine ⟨hlt, fun x H3 y => ?_⟩
    obtain ⟨rfl, rfl⟩ := y
    exact ⟨G2, .refl j.sub, .int _⟩
  · cases hd
def range1D : List D → Option Src
  | [.int j] => if -1000000000 ≤ j ∧ j ≤ 1000000000 then some (constS (rangeD 0 j.toNat)) else none
  | _ => none
def range2D : List D → Option Src
  | [.int i, .int j] => if -1000000000 ≤ i ∧ i ≤ 1000000000 ∧ -1000000000 ≤ j ∧ j ≤ 1000000000 then some (constS (rangeD i (j - i).toNat)) else none
  | _ => none
def mRange (f : List D → Option Src) (a : Mo (List D)) : Mo Src := mBind a fun ds => mLift (f ds)
theorem iv_range1 {tg a : Expr} {p pos : Pos} {f : Mo (List D)} (hm : X.mg "range" = none) (ha : EA X E [a] f) (hg : Gl X "range" := by rfl) (hs : starEach [a] X.env = [(false, eval a X.env)] := by rfl) : IV X E tg (.Call (.Name "range" p) [a] [] pos) (mRange range1D f) [] := by
  obtain ⟨t, pt, q⟩ := ha
  refine ⟨_, pi_range1 hg hm pt hs, fun G ρ σ H R j h => q G ρ σ H _ j (PostI.imp h fun G1 ρ1 vs H1 ds e1 r1 h1 => ?_)⟩
  obtain ⟨src, hs, k⟩ := PostI.lift h1
  match ds, hs with
  | [.int n], hs =>
    obtain ⟨hz, rfl⟩ := ite_some (show (if -1000000000 ≤ n ∧ n ≤ 1000000000 then some (constS (rangeD 0 n.toNat)) else none) = some src from hs)
    obtain ⟨x, rfl, r⟩ := r1.one
    cases r
    exact ⟨n, rfl, by omega, by omega, k G1 H1 _ e1.j.refl itr_ok⟩
theorem iv_range2 {tg a b : Expr} {p pos : Pos} {f : Mo (List D)} (hm : X.mg "range" = none) (ha : EA X E [a, b] f) (hg : Gl X "range" := by rfl) (hs : starEach [a, b] X.env = [(false, eval a X.env), (false, eval b X.env)] := by rfl) (hs2 : starEach [b] X.env = [(false, eval b X.env)] := by rfl) :
    IV X E tg (.Call (.Name "range" p) [a, b] [] pos) (mRange range2D f) [] := by
  obtain ⟨t, pt, q⟩ := ha
  refine ⟨_, pi_range2 hg hm pt hs hs2, fun G ρ σ H R j h => q G ρ σ H _ j (PostI.imp h fun G1 ρ1 vs H1 ds e1 r1 h1 => ?_)⟩
  obtain ⟨src, hs, k⟩ := PostI.lift h1
  match ds, hs with
  | [.int n, .int m], hs =>
    obtain ⟨hz, rfl⟩ := ite_some (show (if -1000000000 ≤ n ∧ n ≤ 1000000000 ∧ -1000000000 ≤ m ∧ m ≤ 1000000000 then some (constS (rangeD n (m - n).toNat)) else none) = some src from hs)
    obtain ⟨x, y, rfl, r, r2⟩ := r1.two
    cases r
    cases r2
    exact ⟨n, m, rfl, by omega, k G1 H1 _ e1.j.refl itr_ok⟩
/-- slots but for ws are as they were -/
def Sets (ws : List Nat) (σ σ' : St) : Prop := σ'.length = σ.length ∧ ∀ k, k ∉ ws → σ'[k]? = σ[k]?
theorem Sets.refl {ws : List Nat} {σ : St} : Sets ws σ σ := ⟨rfl, fun _ _ => rfl⟩
theorem Sets.trans {ws us : List Nat} {σ σ1 σ2 : St} (a : Sets ws σ σ1) (b : Sets us σ1 σ2) : Sets (ws ++ us) σ σ2 := ⟨b.1.trans a.1, fun k hk => (b.2 k fun z => hk (List.mem_append_right _ z)).trans (a.2 k fun z => hk (List.mem_append_left _ z))⟩
def GV (X : Cx) (tg : Expr) (g : D → En → Option En) (ws : List Nat) : Prop := ∃ t, PG X tg t ∧ ∀ G ρ σ H Q d v ρ', J X.K G ρ σ H → Rp X.K G v d → g d ρ = some ρ' → (∀ σ', Ex X.K G ρ σ H G ρ' σ' H → Sets ws σ σ' → Q σ' H) → t v σ H Q
def gSet (i : Nat) : D → En → Option En := fun d ρ => some (ρ.set i (.pur d))
theorem gv_name {i : Nat} {x : Str} {pos : Pos} (hN : X.N.Nodup) (hi : X.N[i]? = some x := by rfl) (hx : Loc X.env.scope x := by first | exact Or.inl rfl | exact Or.inr rfl) (hf : X.fn x = true ∨ X.env.scope.names.lookup x = some .local := by first | exact .inl rfl | exact .inr rfl | assumption) : GV X (.Name x pos) (gSet i) [i] :=
  ⟨_, pg_name hN hi hx hf, fun G ρ σ H Q d v ρ' j r h k => by cases h; exact k _ (Ex.set j i r) ⟨List.length_set, fun k hk => List.getElem?_set_ne fun e => hk (by rw [e]; exact List.mem_cons_self)⟩⟩
def GVs (X : Cx) (tgs : List Expr) (g : List D → En → Option En) (ws : List Nat) : Prop := ∃ t, PGs X tgs t ∧ ∀ G ρ σ H Q ds vs ρ', J X.K G ρ σ H → RpAll X.K G vs ds → g ds ρ = some ρ' → (∀ σ', Ex X.K G ρ σ H G ρ' σ' H → Sets ws σ σ' → Q σ' H) → t vs σ H Q
def gNilD : List D → En → Option En
  | [], ρ => some ρ
  | _, _ => none
def gConsD (g : D → En → Option En) (h : List D → En → Option En) : List D → En → Option En
  | d :: ds, ρ => (g d ρ).bind (h ds)
  | _, _ => none
theorem gvs_nil : GVs X [] gNilD [] := ⟨_, pgs_nil, fun G ρ σ H Q ds vs ρ' j r h k => by
  cases r with
  | nil => cases h; exact ⟨rfl, k σ j.refl .refl⟩
  | cons _ _ => cases h⟩
theorem gvs_cons {e : Expr} {es : List Expr} {g : D → En → Option En} {gs : List D → En → Option En} {ws us : List Nat} (h1 : GV X e g ws) (h2 : GVs X es gs us) (hs : (assignEach (e :: es) X.env).map (·.2) = assign e X.env :: (assignEach es X.env).map (·.2) := by rfl) : GVs X (e :: es) (gConsD g gs) (ws ++ us) := by
  obtain ⟨t, p, q⟩ := h1
  obtain ⟨u, p2, q2⟩ := h2
  refine ⟨_, pgs_cons p p2 hs, fun G ρ σ H Q ds vs ρ' j r h k => ?_⟩
  cases r with
  | nil => cases h
  | @cons v vr d dr hd ht =>
    have h' : (g d ρ).bind (gs dr) = some ρ' := h
    cases e1 : g d ρ with
    | none => rw [e1] at h'; cases h'
    | some ρ1 =>
      rw [e1] at h'
      exact ⟨_, _, rfl, q G ρ σ H _ d _ ρ1 j hd e1 fun σ1 x1 s1 => q2 G ρ1 σ1 H Q dr _ ρ' x1.j ht h' fun σ2 x2 s2 => k σ2 (x1.trans x2) (s1.trans s2)⟩
def gTupD (n : Nat) (g : List D → En → Option En) : D → En → Option En
  | .tuple ds, ρ => match Nat.beq ds.length n with
    | true => g ds ρ
    | false => none
  | _, _ => none
theorem gv_tup {es : List Expr} {k : Nat} {g : List D → En → Option En} {n : Nat} {ws : List Nat} {pos : Pos} (hc : X.calm = true) (h : GVs X es g ws) (hn : (assignEach es X.env).length = n := by rfl) (hst : (assignEach es X.env).findIdx? (·.1) = none := by rfl) : GV X (.Tuple es k pos) (gTupD n g) ws := by
  obtain ⟨t, p, q⟩ := h
  refine ⟨_, pg_tup hc p hn hst, fun G ρ σ H Q d v ρ' j r h k => ?_⟩
  cases r with
  | @tup a xs ds h1 h2 =>
    have h' : (match Nat.beq ds.length n with
      | true => g ds ρ
      | false => none) = some ρ' := h
    cases e : Nat.beq ds.length n with
    | false => rw [e] at h'; cases h'
    | true =>
      rw [e] at h'
      exact ⟨a, xs, rfl, sqT_mono j.sub h1.t, h2.length.trans (Nat.eq_of_beq_eq_true e), q G ρ σ H Q ds xs ρ' j h2 h' k⟩
  | _ => cases h
/-- target = value -/
def sAsg (g : D → En → Option En) (f : Mo D) : Mo Fl := mBind f fun d ρ => match g d ρ with
  | some ρ' => some (.ok (ρ', .nx))
  | none => none
theorem s_asg {tg e : Expr} {f : Mo D} {g : D → En → Option En} {ws : List Nat} {pos : Pos} (h : EV X E e f) (hg : GV X tg g ws) (hs : swapsWithSole [tg] e pos.line X.env = pure false := by rfl) (hw : swappedStores [tg] e X.env = pure none := by rfl)
    (ha : (assignEach [tg] X.env).map (·.2) = [assign tg X.env] := by rfl) : SV X E (.Assign [tg] e pos) (sAsg g f) := by
  obtain ⟨t, p, q⟩ := h
  obtain ⟨u, pg, qg⟩ := hg
  refine ⟨_, ps_asg p pg hs hw ha, fun G ρ σ H De j h => q G ρ σ H _ j (PostS.imp h fun G1 ρ1 v H1 d e1 r1 h1 => ?_)⟩
  have h1' : PostS X.K E G1 ρ1 σ H1 De (match g d ρ1 with
    | some ρ' => some (.ok (ρ', .nx))
    | none => none) := h1
  cases e : g d ρ1 with
  | none => rw [e] at h1'; exact h1'.elim
  | some ρ' =>
    rw [e] at h1'
    exact qg G1 ρ1 σ H1 _ d v ρ' e1.j r1 e fun σ' x _ => h1' G1 σ' H1 x
/-- name op= e, ints -/
def sAug (op : Int → Int → Int) (i : Nat) (f : Mo D) : Mo Fl := fun ρ => match ρ[i]? with
  | some (.pur (.int a)) => mBind f (fun d => match d with
    | .int b => setSl i (.pur (.int (op a b)))
    | _ => fun _ => none) ρ
  | _ => none
theorem s_aug {i : Nat} {x : Str} {e : Expr} {f : Mo D} {op : Operator} {o : Int → Int → Int} {pos pos' : Pos} (ho : PIp X op (ipI o)) (hN : X.N.Nodup) (h : EV X E e f) (hi : X.N[i]? = some x := by rfl) (hx : Loc X.env.scope x := by first | exact Or.inl rfl | exact Or.inr rfl)
    (hf : X.fn x = true ∨ X.env.scope.names.lookup x = some .local := by first | exact .inl rfl | exact .inr rfl | assumption) : SV X E (.AugAssign (.Name x pos') op e pos) (sAug o i f) := by
  obtain ⟨t, p, q⟩ := h
  refine ⟨_, ps_aug hN hi hx p ho hf, fun G ρ σ H De j h => ?_⟩
  unfold sAug at h
  match hs : ρ[i]?, h with
  | some (.pur (.int a)), h =>
    obtain ⟨v, h1, h2⟩ := j.pur i _ hs
    cases h2
    refine ⟨_, h1, q G ρ σ H _ j (PostS.imp h fun G1 ρ1 y H1 d e1 r1 h1 => ?_)⟩
    cases r1 with
    | int b => exact ⟨a, b, rfl, rfl, h1 G1 _ H1 (Ex.set e1.j i (.int _))⟩
    | _ => exact h1.elim
/-- for x in items: body -/
def forL (g : D → En → Option En) (body : Mo Fl) : List D → Mo Fl
  | [] => fun ρ => some (.ok (ρ, .nx))
  | d :: ds => fun ρ => match g d ρ with
    | none => none
    | some ρ1 => match body ρ1 with
      | none => none
      | some (.error x) => some (.error x)
      | some (.ok (ρ2, .nx)) => forL g body ds ρ2
      | some (.ok (ρ2, .ct)) => forL g body ds ρ2
      | some (.ok (ρ2, .bk)) => some (.ok (ρ2, .nx))
      | some (.ok (ρ2, .rt d)) => some (.ok (ρ2, .rt d))
def sFor (src : Mo Src) (g : D → En → Option En) (body : Mo Fl) : Mo Fl := mBind src fun s ρ => match s [] with
  | none => none
  | some items => forL g body items ρ
/-- a source that tells the same whatever happens -/
def Const (s : Src) : Prop := ∀ ρ, s ρ = s []
theorem s_for {tg iter : Expr} {body : List Stmt} {src : Mo Src} {g : D → En → Option En} {b : Mo Fl} {ws : List Nat} {pos : Pos} (hp : PassesOwn (model X.prog X.w) X.A X.env X.xe) (hc : X.calm = true) (hi : IV X E tg iter src []) (hcs : ∀ ρ ρ' s, src ρ = some (.ok (ρ', s)) → Const s) (hg : GV X tg g ws) (hb : SVs X E body b)
    (hfs : ∀ x, foldedSetIterable iter X.env x = pure x := by intro _; rfl) : SV X E (.For tg iter body [] pos) (sFor src g b) := by
  obtain ⟨wi, pi, qi⟩ := hi
  obtain ⟨tg, pg, qg⟩ := hg
  obtain ⟨tb, pb, qb⟩ := hb
  refine ⟨_, ps_for hp hc pi pg pb hfs, fun G ρ σ H De j h => ?_⟩
  refine qi G ρ σ H _ j ?_
  unfold sFor mBind at h
  cases hs : src ρ with
  | none => rw [hs] at h; exact h
  | some r =>
    rw [hs] at h
    cases r with
    | error x => exact h
    | ok pr =>
      obtain ⟨ρ1, s⟩ := pr
      have hcon := hcs ρ ρ1 s hs
      intro G1 H1 Jt e1 hit
      have h' : PostS X.K E G ρ σ H De (match s [] with
        | none => none
        | some items => forL g b items ρ1) := h
      cases hi : s [] with
      | none => rw [hi] at h'; exact h'.elim
      | some items =>
        rw [hi] at h'
        refine ⟨fun i m σ2 H2 => m = items.length - i ∧ i ≤ items.length ∧ ∃ G2 ρ2, Ex X.K G1 ρ1 σ H1 G2 ρ2 σ2 H2 ∧ PostS X.K E G ρ σ H De (forL g b (items.drop i) ρ2), ⟨items.length, by omega, Nat.zero_le _, G1, ρ1, e1.j.refl, h'⟩, ?_⟩
        rintro i m σ2 H2 ⟨rfl, hile, G2, ρ2, e2, hpost⟩
        obtain ⟨hgo, hstop⟩ := hit i G2 ρ2 σ2 H2 items e2.g e2.j (fun _ z => nomatch z) ((hcon ρ2).trans hi)
        by_cases hlt : i < items.length
        · have hd : items[i]? = some items[i] := List.getElem?_eq_getElem hlt
          obtain ⟨go, yld⟩ := hgo _ hd
          rw [List.drop_eq_getElem_cons hlt] at hpost
          refine .inr ⟨go, fun σ' H' => ∃ G3 ρ3, Ex X.K G1 ρ1 σ H1 G3 ρ3 σ' H' ∧ PostS X.K E G ρ σ H De (forL g b (items.drop (i + 1)) ρ3), fun σ' H' ⟨G3, ρ3, e3, p3⟩ => ⟨items.length - (i + 1), by omega, rfl, hlt, G3, ρ3, e3, p3⟩, fun x H3 y => ?_⟩
          obtain ⟨G3, px, rx⟩ := yld x H3 y
          have e3 := e2.trans (e2.j.ex px)
          have hpost' : PostS X.K E G ρ σ H De (match g items[i] ρ2 with
            | none => none
            | some ρ1 => match b ρ1 with
              | none => none
              | some (.error x) => some (.error x)
              | some (.ok (ρ2, .nx)) => forL g b (items.drop (i + 1)) ρ2
              | some (.ok (ρ2, .ct)) => forL g b (items.drop (i + 1)) ρ2
              | some (.ok (ρ2, .bk)) => some (.ok (ρ2, .nx))
              | some (.ok (ρ2, .rt d)) => some (.ok (ρ2, .rt d))) := hpost
          cases eg : g items[i] ρ2 with
          | none => rw [eg] at hpost'; exact hpost'.elim
          | some ρ4 =>
            rw [eg] at hpost'
            refine qg G3 ρ2 σ2 H3 _ items[i] x ρ4 e3.j rx eg fun σ4 x4 _ => ?_
            have e4 := e3.trans x4
            have e04 := e1.trans e4
            refine qb G3 ρ4 σ4 H3 _ e4.j ?_
            cases eb : b ρ4 with
            | none => simp only [eb] at hpost'; exact hpost'.elim
            | some r =>
              cases r with
              | error x => simp only [eb] at hpost'; exact fun C dx H' z => hpost' C dx H' (XP.trans e04 z)
              | ok pr =>
                obtain ⟨ρ5, fl⟩ := pr
                cases fl with
                | nx => simp only [eb] at hpost'; exact fun G5 σ5 H5 x5 => ⟨G5, ρ5, e4.trans x5, hpost'⟩
                | ct => simp only [eb] at hpost'; exact fun G5 σ5 H5 x5 => ⟨G5, ρ5, e4.trans x5, hpost'⟩
                | bk => simp only [eb] at hpost'; exact fun G5 σ5 H5 x5 => hpost' G5 σ5 H5 (e04.trans x5)
                | rt d => simp only [eb] at hpost'; exact fun G5 σ5 v H5 x5 r => hpost' G5 σ5 v H5 (e04.trans x5) r
        · have e : i = items.length := by omega
          subst e
          rw [List.drop_length] at hpost
          exact .inl ⟨hstop (Nat.le_refl _), hpost G2 σ2 H2 (e1.trans e2)⟩
/-- while c: body, at most so many turns -/
def whileL (c : Mo Bool) (body : Mo Fl) : Nat → Mo Fl
  | 0 => fun _ => none
  | n + 1 => fun ρ => match c ρ with
    | none => none
    | some (.error x) => some (.error x)
    | some (.ok (ρ1, false)) => some (.ok (ρ1, .nx))
    | some (.ok (ρ1, true)) => match body ρ1 with
      | none => none
      | some (.error x) => some (.error x)
      | some (.ok (ρ2, .nx)) => whileL c body n ρ2
      | some (.ok (ρ2, .ct)) => whileL c body n ρ2
      | some (.ok (ρ2, .bk)) => some (.ok (ρ2, .nx))
      | some (.ok (ρ2, .rt d)) => some (.ok (ρ2, .rt d))
def sWhile (fuel : En → Nat) (c : Mo Bool) (body : Mo Fl) : Mo Fl := fun ρ => whileL c body (fuel ρ) ρ
theorem s_while {c : Expr} {body : List Stmt} {fc : Mo Bool} {b : Mo Fl} {pos : Pos} (fuel : En → Nat) (hp : PassesOwn (model X.prog X.w) X.A X.env X.xe) (hc : ET X E c fc) (hb : SVs X E body b) : SV X E (.While c body [] pos) (sWhile fuel fc b) := by
  obtain ⟨tc, pc, qc⟩ := hc
  obtain ⟨tb, pb, qb⟩ := hb
  refine ⟨_, ps_while hp pc pb, fun G ρ σ H De j h => ?_⟩
  refine ⟨fun m σ2 H2 => ∃ G2 ρ2, Ex X.K G ρ σ H G2 ρ2 σ2 H2 ∧ PostS X.K E G ρ σ H De (whileL fc b m ρ2), ⟨fuel ρ, G, ρ, j.refl, h⟩, ?_⟩
  rintro m σ2 H2 ⟨G2, ρ2, e2, hpost⟩
  cases m with
  | zero => exact hpost.elim
  | succ n =>
    have hpost' : PostS X.K E G ρ σ H De (match fc ρ2 with
      | none => none
      | some (.error x) => some (.error x)
      | some (.ok (ρ1, false)) => some (.ok (ρ1, .nx))
      | some (.ok (ρ1, true)) => match b ρ1 with
        | none => none
        | some (.error x) => some (.error x)
        | some (.ok (ρ2, .nx)) => whileL fc b n ρ2
        | some (.ok (ρ2, .ct)) => whileL fc b n ρ2
        | some (.ok (ρ2, .bk)) => some (.ok (ρ2, .nx))
        | some (.ok (ρ2, .rt d)) => some (.ok (ρ2, .rt d))) := hpost
    refine qc G2 ρ2 σ2 H2 _ e2.j ?_
    cases ec : fc ρ2 with
    | none => simp only [ec] at hpost'; exact hpost'.elim
    | some r =>
      cases r with
      | error x => simp only [ec] at hpost'; exact fun C dx H' z => hpost' C dx H' (XP.trans e2 z)
      | ok pr =>
        obtain ⟨ρ3, t⟩ := pr
        intro G3 t' H3 x3 ht
        subst ht
        have e3 := e2.trans x3
        cases t' with
        | false => simp only [ec] at hpost'; exact iteF (hpost' G3 σ2 H3 e3)
        | true =>
          simp only [ec] at hpost'
          refine iteT ⟨fun σ' H' => ∃ G4 ρ4, Ex X.K G ρ σ H G4 ρ4 σ' H' ∧ PostS X.K E G ρ σ H De (whileL fc b n ρ4), fun σ' H' ⟨G4, ρ4, x4, p4⟩ => ⟨n, Nat.lt_succ_self _, G4, ρ4, x4, p4⟩, ?_⟩
          refine qb G3 ρ3 σ2 H3 _ e3.j ?_
          cases eb : b ρ3 with
          | none => simp only [eb] at hpost'; exact hpost'.elim
          | some r =>
            cases r with
            | error x => simp only [eb] at hpost'; exact fun C dx H' z => hpost' C dx H' (XP.trans e3 z)
            | ok pr =>
              obtain ⟨ρ5, fl⟩ := pr
              cases fl with
              | nx => simp only [eb] at hpost'; exact fun G5 σ5 H5 x5 => ⟨G5, ρ5, e3.trans x5, hpost'⟩
              | ct => simp only [eb] at hpost'; exact fun G5 σ5 H5 x5 => ⟨G5, ρ5, e3.trans x5, hpost'⟩
              | bk => simp only [eb] at hpost'; exact fun G5 σ5 H5 x5 => hpost' G5 σ5 H5 (e3.trans x5)
              | rt d => simp only [eb] at hpost'; exact fun G5 σ5 v H5 x5 r => hpost' G5 σ5 v H5 (e3.trans x5) r
end
end HB
namespace HB
open PySem L2
def wipeE (ρ : En) : List Nat → En
  | [] => ρ
  | v :: vs => (wipeE ρ vs).set v .no
def restE (ρ0 ρ : En) : List Nat → En
  | [] => ρ
  | v :: vs => (restE ρ0 ρ vs).set v (ρ0.getD v .no)
def noOwn (ρ : En) : List Nat → Bool
  | [] => true
  | v :: vs => match ρ[v]? with
    | some (.own _) => false
    | some (.box _) => false
    | some (.dl _ _ _) => false
    | some (.gst _ _) => false
    | _ => noOwn ρ vs
theorem wipeE_len (ρ : En) : ∀ vs, (wipeE ρ vs).length = ρ.length
  | [] => rfl
  | v :: vs => by unfold wipeE; rw [List.length_set, wipeE_len ρ vs]
theorem restE_len (ρ0 ρ : En) : ∀ vs, (restE ρ0 ρ vs).length = ρ.length
  | [] => rfl
  | v :: vs => by unfold restE; rw [List.length_set, restE_len ρ0 ρ vs]
theorem wipeE_get {ρ : En} {k : Nat} {s : Sl} : ∀ {vs : List Nat}, (wipeE ρ vs)[k]? = some s → s = .no ∨ (k ∉ vs ∧ ρ[k]? = some s)
  | [], h => .inr ⟨by simp, h⟩
  | v :: vs, h => by
    unfold wipeE at h
    rcases getElem?_set_cases h with ⟨_, z⟩ | ⟨z, h'⟩
    · exact .inl z
    · rcases wipeE_get h' with z2 | ⟨z2, z3⟩
      · exact .inl z2
      · exact .inr ⟨by simp only [List.mem_cons, not_or]; exact ⟨z, z2⟩, z3⟩
theorem restE_get {ρ0 ρ : En} {k : Nat} {s : Sl} : ∀ {vs : List Nat}, (restE ρ0 ρ vs)[k]? = some s → (k ∈ vs ∧ s = ρ0.getD k .no) ∨ (k ∉ vs ∧ ρ[k]? = some s)
  | [], h => .inr ⟨by simp, h⟩
  | v :: vs, h => by
    unfold restE at h
    rcases getElem?_set_cases h with ⟨z1, z⟩ | ⟨z, h'⟩
    · exact .inl ⟨by rw [z1]; exact List.mem_cons_self, by rw [z, z1]⟩
    · rcases restE_get h' with ⟨z2, z3⟩ | ⟨z2, z3⟩
      · exact .inl ⟨List.mem_cons_of_mem _ z2, z3⟩
      · exact .inr ⟨by simp only [List.mem_cons, not_or]; exact ⟨z, z2⟩, z3⟩
theorem noOwn_at {ρ : En} {k : Nat} {s : Sl} {ds : List D} (hl : s.hs = some ds) : ∀ {vs : List Nat}, noOwn ρ vs = true → k ∈ vs → ρ[k]? ≠ some s
  | [], _, h => by cases h
  | v :: vs, h, hk => by
    unfold noOwn at h
    rcases List.mem_cons.mp hk with e | hk
    · subst e
      intro z
      rw [z] at h
      cases s with
      | no => cases hl
      | pur d => cases hl
      | own es => cases h
      | box es => cases h
      | dl _ _ _ => cases h
      | gst _ _ => cases h
    · refine noOwn_at hl (vs := vs) ?_ hk
      split at h
      · cases h
      · cases h
      · cases h
      · cases h
      · exact h
section
variable {K : PySem.W.Frag} {G H G' H' : Hp} {ρ ρ' : En} {σ σ' : St}
theorem J.wipe (j : J K G ρ σ H) (vs : List Nat) : J K G (wipeE ρ vs) (wipe σ vs) H where
  sub := j.sub
  len := by rw [wipeE_len, wipe_length]; exact j.len
  pur := fun i d h => by
    rcases wipeE_get h with z | ⟨z, h'⟩
    · cases z
    · rw [wipe_out z]; exact j.pur i d h'
  hold := fun i s ds h hl => by
    rcases wipeE_get h with z | ⟨z, h'⟩
    · subst z; cases hl
    · rw [wipe_out z]; exact j.hold i s ds h' hl
  lk := fun i g o o' z xs h1 h2 => by
    rcases wipeE_get h1 with w | ⟨w, h1'⟩
    · cases w
    · rcases wipeE_get h2 with w2 | ⟨w2, h2'⟩
      · cases w2
      · rw [wipe_out w, wipe_out w2]
        exact j.lk i g o o' z xs h1' h2'
  alone := fun i k s t ds es b h1 l1 h2 l2 h3 h4 => by
    rcases wipeE_get h1 with z | ⟨z, h1'⟩
    · subst z; cases l1
    · rcases wipeE_get h2 with z2 | ⟨z2, h2'⟩
      · subst z2; cases l2
      · rw [wipe_out z] at h3
        rw [wipe_out z2] at h4
        exact j.dis i k s t ds es b h1' l1 h2' l2 h3 h4
theorem wipe_ownd {vs : List Nat} {b : Addr} (h : Ownd (wipeE ρ vs) (wipe σ vs) b) : Ownd ρ σ b := by
  obtain ⟨i, s, ds, h1, hl, h2⟩ := h
  rcases wipeE_get h1 with z | ⟨z, h1'⟩
  · subst z; cases hl
  · rw [wipe_out z] at h2
    exact ⟨i, s, ds, h1', hl, h2⟩
theorem Ex.wiped (e : Ex K G ρ σ H G' ρ' σ' H') (vs : List Nat) : Ex K G ρ σ H G' (wipeE ρ' vs) (L2.wipe σ' vs) H' :=
  ⟨e.j.wipe vs, e.g, e.new, e.kept, fun b hb => e.ow b (wipe_ownd hb), e.dom, fun i ds h => by
    rcases wipeE_get h with z | ⟨z, h'⟩
    · cases z
    · obtain ⟨w1, w2⟩ := e.bx i ds h'
      exact ⟨w1, by rw [wipe_out z]; exact w2⟩,
  fun i s h ql => by
    rcases wipeE_get h with z | ⟨z, h'⟩
    · subst z; cases ql
    · obtain ⟨w1, w2⟩ := e.bd i s h' ql
      exact ⟨w1, by rw [wipe_out z]; exact w2⟩, e.tt⟩
theorem wipe_ext {vs : List Nat} (h : Sets vs σ σ') : wipe σ' vs = wipe σ vs := by
  have key : ∀ (us : List Nat) (k : Nat) (τ : St), k < τ.length → (k ∈ us → (wipe τ us)[k]? = some none) := by
    intro us
    induction us with
    | nil => intro k τ _ hk; cases hk
    | cons u us ih =>
      intro k τ hl hk
      unfold L2.wipe
      by_cases hu : k = u
      · subst hu
        exact List.getElem?_set_self (by rw [wipe_length]; exact hl)
      · rw [List.getElem?_set_ne (Ne.symm hu)]
        exact ih k τ hl ((List.mem_cons.mp hk).resolve_left hu)
  apply List.ext_getElem?
  intro k
  by_cases hk : k ∈ vs
  · by_cases hl : k < σ.length
    · rw [key vs k σ hl hk, key vs k σ' (by rw [h.1]; exact hl) hk]
    · rw [List.getElem?_eq_none (by rw [wipe_length, h.1]; omega), List.getElem?_eq_none (by rw [wipe_length]; omega)]
  · rw [wipe_out hk, wipe_out hk]
    exact h.2 k hk
theorem rest_ownd {vs : List Nat} (no : noOwn ρ vs = true) {b : Addr} (h : Ownd (restE ρ ρ' vs) σ b) : Ownd ρ' (wipe σ vs) b := by
  obtain ⟨i, s0, ds, h1, hl, h2⟩ := h
  rcases restE_get h1 with ⟨z, h1'⟩ | ⟨z, h1'⟩
  · exfalso
    rw [List.getD_eq_getElem?_getD] at h1'
    cases q : ρ[i]? with
    | none => rw [q] at h1'; subst h1'; cases hl
    | some s =>
      rw [q] at h1'
      have e1 : s = s0 := h1'.symm
      subst e1
      exact noOwn_at hl no z q
  · exact ⟨i, s0, ds, h1', hl, by rw [wipe_out z]; exact h2⟩
theorem rest_out {vs : List Nat} (no : noOwn ρ vs = true) {m : Nat} {s0 : Sl} {fs : List D} (hm : (restE ρ ρ' vs)[m]? = some s0) (hl : s0.hs = some fs) : m ∉ vs ∧ ρ'[m]? = some s0 := by
  rcases restE_get hm with ⟨z, h'⟩ | z
  · exfalso
    rw [List.getD_eq_getElem?_getD] at h'
    cases q : ρ[m]? with
    | none => rw [q] at h'; subst h'; cases hl
    | some s =>
      rw [q] at h'
      have e1 : s = s0 := h'.symm
      subst e1
      exact noOwn_at hl no z q
  · exact z
/-- a thing of the block's own is changed -/
theorem Ex.poke {G1 H1 : Hp} {ρ1 : En} {σ1 : St} (e : Ex K G1 ρ1 σ1 H1 G ρ σ H) {p : Addr} {o : HO} (h1 : H1 p = none) (h2 : G p = none) (no : ¬ Ownd ρ σ p) (pl : PlainAt H p) [NoC o] : Ex K G1 ρ1 σ1 H1 G ρ σ (upd H p o) := by
  refine ⟨⟨e.j.sub.put h2 pl, e.j.len, e.j.pur, fun i s ds q hl => ?_, e.j.alone, fun i g o' o2 z xs e1 e2 => ?_⟩, e.g, e.new, fun b x q n => ?_, e.ow, fun b hb => ?_, e.bx, e.bd, e.tt.trans (.put pl)⟩
  · obtain ⟨a, vs, q1, q2, q3, q4⟩ := e.j.hold i s ds q hl
    have ne : a ≠ p := fun z => by
      subst z
      exact no ⟨i, s, ds, q, hl, q1⟩
    exact ⟨a, vs, q1, by rw [upd_ne ne]; exact q2, q3, q4⟩
  · obtain ⟨a, v, u, q1, q2, q3⟩ := e.j.lk i g o' o2 z xs e1 e2
    have ne : a ≠ p := fun z => by
      subst z
      exact no ⟨i, _, _, e1, rfl, q1⟩
    exact ⟨a, v, u, q1, by rw [upd_ne ne]; exact q2, q3⟩
  · rw [upd_ne (ne_of_none q h1)]
    exact e.kept b x q n
  · by_cases z : b = p
    · subst z; exact h1
    · rw [upd_ne z] at hb
      exact e.dom b hb
/-- out of the block -/
theorem Ex.rest {vs : List Nat} (j : J K G ρ σ H) (no : noOwn ρ vs = true) (e : Ex K G (wipeE ρ vs) (wipe σ vs) H G' ρ' (wipe σ vs) H') : Ex K G ρ σ H G' (restE ρ ρ' vs) σ H' := by
  refine ⟨⟨e.j.sub, ?_, fun i d h => ?_, fun i s0 ds h hl => ?_, fun i k s0 t0 ds es b h1 l1 h2 l2 h3 h4 => ?_, fun i g o o' z xs h1 h2 => ?_⟩, e.g, fun b hb => ?_, fun b o q n => e.kept b o q fun z => n (wipe_ownd z), fun b hb => ?_, e.dom, fun i ds h => ?_, fun i s h ql => ?_, e.tt⟩
  · rw [restE_len, e.j.len, wipe_length]
  · rcases restE_get h with ⟨z, h'⟩ | ⟨z, h'⟩
    · rw [List.getD_eq_getElem?_getD] at h'
      cases q : ρ[i]? with
      | none => rw [q] at h'; cases h'
      | some s =>
        rw [q] at h'
        have e1 : s = .pur d := h'.symm
        subst e1
        obtain ⟨v, h1, h2⟩ := j.pur i d q
        exact ⟨v, h1, h2.mono e.g⟩
    · obtain ⟨v, h1, h2⟩ := e.j.pur i d h'
      rw [wipe_out z] at h1
      exact ⟨v, h1, h2⟩
  · obtain ⟨z, h'⟩ := rest_out no h hl
    obtain ⟨a, vs', h1, h2⟩ := e.j.hold i s0 ds h' hl
    rw [wipe_out z] at h1
    exact ⟨a, vs', h1, h2⟩
  · obtain ⟨z1, h1'⟩ := rest_out no h1 l1
    obtain ⟨z2, h2'⟩ := rest_out no h2 l2
    exact e.j.dis i k s0 t0 ds es b h1' l1 h2' l2 (by rw [wipe_out z1]; exact h3) (by rw [wipe_out z2]; exact h4)
  · obtain ⟨z1, h1'⟩ := rest_out no h1 rfl
    obtain ⟨z2, h2'⟩ := rest_out no h2 rfl
    obtain ⟨a, v, u, q1, q2, q3⟩ := e.j.lk i g o o' z xs h1' h2'
    rw [wipe_out z1] at q1
    rw [wipe_out z2] at q3
    exact ⟨a, v, u, q1, q2, q3⟩
  · rcases e.new b hb with z | z | z
    · exact .inl z
    · exact .inr (.inl z)
    · exact .inr (.inr (wipe_ownd z))
  · rcases e.ow b (rest_ownd no hb) with z | z
    · exact .inl (wipe_ownd z)
    · exact .inr z
  · obtain ⟨z, h'⟩ := rest_out no h rfl
    obtain ⟨⟨es, w1⟩, w2⟩ := e.bx i ds h'
    rcases wipeE_get w1 with w3 | ⟨w3, w4⟩
    · cases w3
    · exact ⟨⟨es, w4⟩, rfl⟩
  · obtain ⟨es, hl⟩ := Sl.isD_hs ql
    obtain ⟨z, h'⟩ := rest_out no h hl
    obtain ⟨⟨s1, w1, wq⟩, w2⟩ := e.bd i s h' ql
    rcases wipeE_get w1 with w3 | ⟨w3, w4⟩
    · subst w3; cases wq
    · exact ⟨⟨s1, w4, wq⟩, rfl⟩
end
/-- turn by turn, as things stand -/
def lcI (vs : List Nat) (src : Src) (g : D → En → Option En) (test : Mo Bool) (elt : Mo D) : Nat → Nat → En → Option (En × List D)
  | 0, _, _ => none
  | n + 1, i, ρ => match src ρ with
    | none => none
    | some items => match items[i]? with
      | none => some (ρ, [])
      | some d => match g d ρ with
        | none => none
        | some ρ1 => match test ρ1 with
          | some (.ok (ρ2, true)) => match elt ρ2 with
            | some (.ok (ρ3, y)) => match lcI vs src g test elt n (i + 1) (wipeE ρ3 vs) with
              | some (ρ4, ys) => some (ρ4, y :: ys)
              | none => none
            | _ => none
          | some (.ok (ρ2, false)) => lcI vs src g test elt n (i + 1) (wipeE ρ2 vs)
          | _ => none
def mBlk (vs : List Nat) (src : Mo Src) (body : Src → En → Option (En × List D)) : Mo (List D) := mBind src fun s ρ => match noOwn ρ vs with
  | false => none
  | true => match body s (wipeE ρ vs) with
    | none => none
    | some (ρ', ys) => some (.ok (restE ρ ρ' vs, ys))
def tE (K : PySem.W.Frag) (E : XK) (f : Mo D) : TE := fun σ H Q => ∃ G ρ, J K G ρ σ H ∧ Post K E (Rp K) G ρ σ H Q (f ρ)
def tT (K : PySem.W.Frag) (E : XK) (f : Mo Bool) : TT := fun σ H Q => ∃ G ρ, J K G ρ σ H ∧ Post K E (fun _ b c => b = c) G ρ σ H Q (f ρ)
def tG (K : PySem.W.Frag) (g : D → En → Option En) (ws : List Nat) : TG := fun v σ H Q => ∃ G ρ d ρ', J K G ρ σ H ∧ Rp K G v d ∧ g d ρ = some ρ' ∧ ∀ σ', Ex K G ρ σ H G ρ' σ' H → Sets ws σ σ' → Q σ' H
section
variable {X : Cx} {E : XK}
theorem EV.pe {e : Expr} {f : Mo D} (h : EV X E e f) : PE X e (tE X.K E f) := by
  obtain ⟨t, p, q⟩ := h
  exact ⟨fun pins s σ H Q I ⟨G, ρ, j, z⟩ => p.run pins s σ H Q I (q G ρ σ H Q j z)⟩
theorem ET.pt {e : Expr} {f : Mo Bool} (h : ET X E e f) : PT X e (tT X.K E f) := by
  obtain ⟨t, p, q⟩ := h
  exact ⟨fun pins s σ H Q I ⟨G, ρ, j, z⟩ => p.run pins s σ H Q I (q G ρ σ H Q j z)⟩
theorem GV.pg {e : Expr} {g : D → En → Option En} {ws : List Nat} (h : GV X e g ws) : PG X e (tG X.K g ws) := by
  obtain ⟨t, p, q⟩ := h
  exact ⟨fun pins s σ H v u Q I r ⟨G, ρ, d, ρ', j, z, eg, k⟩ => p.run pins s σ H v u Q I r (q G ρ σ H Q d v ρ' j z eg k)⟩
/-- the tests of a clause -/
def EIf (X : Cx) (E : XK) (ifs : List Expr) (f : Mo Bool) : Prop := PTs X ifs (tT X.K E f)
theorem eif_nil : EIf X E [] (mRet true) := ⟨fun pins s σ H Q I ⟨G, ρ, j, z⟩ => pts_nil.run pins s σ H Q I (z G true H j.refl rfl)⟩
theorem eif_one {c : Expr} {f : Mo Bool} (h : ET X E c f) : EIf X E [c] f := pts_one h.pt
theorem lc_sem {wi : TI} {src : Mo Src} {js vs : List Nat} {g : D → En → Option En} {ws : List Nat} {test : Mo Bool} {elt : Mo D} (fuel : Nat) (hf : fuel ≤ 1000000)
    (qi : ∀ G ρ σ H R, J X.K G ρ σ H → PostI X.K E js G ρ σ H R (src ρ) → wi σ H R) (hjs : ∀ j ∈ js, j ∉ vs) (hws : ∀ k ∈ ws, k ∈ vs) :
    ∀ G ρ σ H Q, J X.K G ρ σ H → PostN X.K E G ρ σ H Q (mBlk vs src (fun s ρ => lcI vs s g test elt fuel 0 ρ) ρ) → tLc wi (tG X.K g ws) (tT X.K E0 test) (tE X.K E0 elt) vs σ H Q := by
  intro G ρ σ H Q j h
  refine qi G ρ σ H _ j ?_
  unfold mBlk mBind at h
  cases hs : src ρ with
  | none => rw [hs] at h; exact h
  | some r =>
    rw [hs] at h
    cases r with
    | error x => exact h
    | ok pr =>
      obtain ⟨ρ1, s⟩ := pr
      intro G1 H1 Jt e1 hit Dd hD
      have h' : PostN X.K E G ρ σ H Q (match noOwn ρ1 vs with
        | false => none
        | true => match lcI vs s g test elt fuel 0 (wipeE ρ1 vs) with
          | none => none
          | some (ρ', ys) => some (.ok (restE ρ1 ρ' vs, ys))) := h
      cases hno : noOwn ρ1 vs with
      | false => rw [hno] at h'; exact h'.elim
      | true =>
        simp only [hno] at h'
        cases hl : lcI vs s g test elt fuel 0 (wipeE ρ1 vs) with
        | none => simp only [hl] at h'; exact h'.elim
        | some out =>
          obtain ⟨ρE, ys⟩ := out
          simp only [hl] at h'
          have shD : Same H1 (upd H1 Dd (.lst [])) := same_upd hD
          have hGD : G1 Dd = none := e1.j.sub.free hD
          have x0 : Ex X.K G1 (wipeE ρ1 vs) (wipe σ vs) H1 G1 (wipeE ρ1 vs) (wipe σ vs) (upd H1 Dd (.lst [])) := new_list (e1.j.wipe vs) hD .nil
          refine ⟨fun i m H2 => ∃ (G2 : Hp) (ρ2 : En) (vacc : List V) (dacc rest : List D) (n : Nat), m = n ∧ n + i = fuel ∧ Ex X.K G1 (wipeE ρ1 vs) (wipe σ vs) H1 G2 ρ2 (wipe σ vs) H2 ∧ G2 Dd = none ∧ ¬ Ownd ρ2 (wipe σ vs) Dd ∧ H2 Dd = some (.lst vacc) ∧ RpAll X.K G2 vacc dacc ∧ dacc.length ≤ i ∧ lcI vs s g test elt n i ρ2 = some (ρE, rest) ∧ dacc ++ rest = ys,
            ⟨fuel, G1, wipeE ρ1 vs, [], [], ys, fuel, rfl, by omega, x0, hGD, (e1.j.wipe vs).nown hD, upd_same, .nil, Nat.le_refl _, hl, rfl⟩, ?_⟩
          rintro i m H2 ⟨G2, ρ2, vacc, dacc, rest, n, rfl, hfu, e2, hG2, hno2, hH2, racc, hla, hlc, hys⟩
          cases m with
          | zero => cases hlc
          | succ n =>
            unfold lcI at hlc
            cases hsrc : s ρ2 with
            | none => rw [hsrc] at hlc; cases hlc
            | some items =>
              rw [hsrc] at hlc
              obtain ⟨hgo, hstop⟩ := hit i G2 ρ2 (wipe σ vs) H2 items e2.g e2.j (fun jx hjx => wipe_out (hjs jx hjx)) hsrc
              cases hitem : items[i]? with
              | none =>
                simp only [hitem] at hlc
                cases hlc
                rw [List.append_nil] at hys
                subst hys
                have hle : items.length ≤ i := List.getElem?_eq_none_iff.mp hitem
                refine .inl ⟨hstop hle, ?_⟩
                have xr := Ex.rest e1.j hno e2
                refine h' G2 (.ref Dd) H2 (e1.trans xr) ⟨Dd, vacc, rfl, e1.dom _ hD, hG2, hH2, ?_, racc⟩
                exact fun z => hno2 (rest_ownd hno z)
              | some d =>
                obtain ⟨go, yld⟩ := hgo d hitem
                simp only [hitem] at hlc
                refine .inr ⟨go, fun H6 => ∃ (G6 : Hp) (ρ6 : En) (vacc' : List V) (dacc' rest' : List D), Ex X.K G1 (wipeE ρ1 vs) (wipe σ vs) H1 G6 ρ6 (wipe σ vs) H6 ∧ G6 Dd = none ∧ ¬ Ownd ρ6 (wipe σ vs) Dd ∧ H6 Dd = some (.lst vacc') ∧ RpAll X.K G6 vacc' dacc' ∧ dacc'.length ≤ i + 1 ∧ lcI vs s g test elt n (i + 1) ρ6 = some (ρE, rest') ∧ dacc' ++ rest' = ys,
                  fun H6 ⟨G6, ρ6, va, da, re, k1, k2, k3, k4, k5, k6, k7, k8⟩ => ⟨n, Nat.lt_succ_self _, G6, ρ6, va, da, re, n, rfl, by omega, k1, k2, k3, k4, k5, k6, k7, k8⟩, fun x H3 y => ?_⟩
                obtain ⟨G3, px, rx⟩ := yld x H3 y
                have e3 : Ex X.K G2 ρ2 (wipe σ vs) H2 G3 ρ2 (wipe σ vs) H3 := e2.j.ex px
                cases eg : g d ρ2 with
                | none => simp only [eg] at hlc; cases hlc
                | some ρ3 =>
                  simp only [eg] at hlc
                  refine ⟨G3, ρ2, d, ρ3, e3.j, rx, eg, fun σ4 x4 s4 => ⟨?_, G3, ρ3, x4.j, ?_⟩⟩
                  · have s5 : Sets vs (wipe σ vs) σ4 := ⟨s4.1, fun k hk => s4.2 k fun z => hk (hws k z)⟩
                    rw [wipe_ext s5]
                    exact wipe_ext ⟨wipe_length σ vs, fun k hk => wipe_out hk⟩
                  · have ew : wipe σ4 vs = wipe σ vs := by
                      have s5 : Sets vs (wipe σ vs) σ4 := ⟨s4.1, fun k hk => s4.2 k fun z => hk (hws k z)⟩
                      rw [wipe_ext s5]
                      exact wipe_ext ⟨wipe_length σ vs, fun k hk => wipe_out hk⟩
                    have e4 := e3.trans x4
                    cases et : test ρ3 with
                    | none => simp only [et] at hlc; cases hlc
                    | some rt =>
                      cases rt with
                      | error x => simp only [et] at hlc; cases hlc
                      | ok pt =>
                        obtain ⟨ρ5, b⟩ := pt
                        intro G5 b' H5 x5 hb
                        subst hb
                        have e5 := e4.trans x5
                        have out : ∀ {G7 : Hp} {ρ7 : En} {H7 : Hp}, Ex X.K G2 ρ2 (wipe σ vs) H2 G7 ρ7 σ4 H7 → Ex X.K G1 (wipeE ρ1 vs) (wipe σ vs) H1 G7 (wipeE ρ7 vs) (wipe σ vs) H7 ∧ G7 Dd = none ∧ ¬ Ownd (wipeE ρ7 vs) (wipe σ vs) Dd ∧ H7 Dd = some (.lst vacc) := by
                          intro G7 ρ7 H7 e7
                          have w7 := (e2.trans e7).wiped vs
                          rw [ew] at w7
                          refine ⟨w7, ?_, fun z => ?_, e7.kept Dd _ hH2 hno2⟩
                          · cases q : G7 Dd with
                            | none => rfl
                            | some o =>
                              rcases e7.new Dd (by rw [q]; simp) with z | z | z
                              · exact absurd hG2 z
                              · rw [hH2] at z; cases z
                              · exact absurd z hno2
                          · have w8 := e7.wiped vs
                            rw [ew] at w8
                            rcases w8.ow Dd z with z | z
                            · exact hno2 z
                            · rw [hH2] at z; cases z
                        cases b' with
                        | false =>
                          simp only [et] at hlc
                          obtain ⟨o1, o2, o3, o4⟩ := out e5
                          exact iteF ⟨G5, _, vacc, dacc, rest, o1, o2, o3, o4, racc.mono e5.g, by omega, hlc, hys⟩
                        | true =>
                          simp only [et] at hlc
                          refine iteT ⟨G5, ρ5, e5.j, ?_⟩
                          cases ee : elt ρ5 with
                          | none => simp only [ee] at hlc; cases hlc
                          | some re =>
                            cases re with
                            | error x => simp only [ee] at hlc; cases hlc
                            | ok pe =>
                              obtain ⟨ρ7, yd⟩ := pe
                              intro G7 yv H7 x7 ry
                              have e7 := e5.trans x7
                              simp only [ee] at hlc
                              cases er : lcI vs s g test elt n (i + 1) (wipeE ρ7 vs) with
                              | none => simp only [er] at hlc; cases hlc
                              | some ro =>
                                obtain ⟨ρ8, rest'⟩ := ro
                                simp only [er] at hlc
                                cases hlc
                                obtain ⟨o1, o2, o3, o4⟩ := out e7
                                refine ⟨vacc, o4, ?_, G7, _, vacc ++ [yv], dacc ++ [yd], rest', o1.poke hD o2 o3 (pl_of o4), o2, o3, upd_same, (racc.mono e7.g).append (.cons ry .nil), ?_, er, ?_⟩
                                · rw [racc.length]
                                  exact Nat.lt_of_lt_of_le (show dacc.length < 1000000 by omega) (by decide)
                                · simp only [List.length_append, List.length_singleton]
                                  omega
                                · rw [List.append_assoc]
                                  exact hys
/-- for sources that tell the same: by the list -/
def lcL (vs : List Nat) (g : D → En → Option En) (test : Mo Bool) (elt : Mo D) : List D → En → Option (En × List D)
  | [], ρ => some (ρ, [])
  | d :: ds, ρ => match g d ρ with
    | none => none
    | some ρ1 => match test ρ1 with
      | some (.ok (ρ2, true)) => match elt ρ2 with
        | some (.ok (ρ3, y)) => match lcL vs g test elt ds (wipeE ρ3 vs) with
          | some (ρ4, ys) => some (ρ4, y :: ys)
          | none => none
        | _ => none
      | some (.ok (ρ2, false)) => lcL vs g test elt ds (wipeE ρ2 vs)
      | _ => none
theorem lcI_of {vs : List Nat} {src : Src} {g : D → En → Option En} {test : Mo Bool} {elt : Mo D} {items : List D} (hc : ∀ ρ, src ρ = some items) : ∀ (n i : Nat) (ds : List D) (ρ : En) (r : En × List D), items.drop i = ds → ds.length < n → lcL vs g test elt ds ρ = some r → lcI vs src g test elt n i ρ = some r
  | 0, _, _, _, _, _, h, _ => absurd h (Nat.not_lt_zero _)
  | n + 1, i, [], ρ, r, hd, _, h => by
    unfold lcI
    rw [hc ρ]
    have e : items[i]? = none := by
      rw [List.getElem?_eq_none_iff]
      exact List.drop_eq_nil_iff.mp hd
    simp only [e]
    exact h
  | n + 1, i, d :: ds, ρ, r, hd, hl, h => by
    unfold lcI
    rw [hc ρ]
    have e : items[i]? = some d := by
      have e2 := congrArg (·[0]?) hd
      simpa using e2
    have e3 : items.drop (i + 1) = ds := by
      have e4 : (items.drop i).drop 1 = ds := by rw [hd]; rfl
      rw [List.drop_drop] at e4
      exact e4
    have hl2 : ds.length < n := by
      rw [List.length_cons] at hl
      omega
    simp only [e]
    unfold lcL at h
    cases eg : g d ρ with
    | none => simp only [eg] at h; cases h
    | some ρ1 =>
      simp only [eg] at h ⊢
      cases et : test ρ1 with
      | none => simp only [et] at h; cases h
      | some rt =>
        cases rt with
        | error x => simp only [et] at h; cases h
        | ok pt =>
          obtain ⟨ρ2, b⟩ := pt
          cases b with
          | false =>
            simp only [et] at h ⊢
            exact lcI_of hc n (i + 1) ds _ r e3 hl2 h
          | true =>
            simp only [et] at h ⊢
            cases ee : elt ρ2 with
            | none => simp only [ee] at h; cases h
            | some re =>
              cases re with
              | error x => simp only [ee] at h; cases h
              | ok pe =>
                obtain ⟨ρ3, y⟩ := pe
                simp only [ee] at h ⊢
                cases er : lcL vs g test elt ds (wipeE ρ3 vs) with
                | none => simp only [er] at h; cases h
                | some ro =>
                  simp only [er] at h
                  rw [lcI_of hc n (i + 1) ds _ ro e3 hl2 er]
                  exact h
def lcBody (vs : List Nat) (g : D → En → Option En) (test : Mo Bool) (elt : Mo D) : Src → En → Option (En × List D) := fun s ρ => match s [] with
  | none => none
  | some items => match Nat.blt items.length 1000000 with
    | false => none
    | true => lcL vs g test elt items ρ
/-- a comprehension -/
def LC (X : Cx) (E : XK) (elt tg iter : Expr) (ifs : List Expr) (scope : Scope) (f : Mo (List D)) : Prop := ∃ wi g tt te own, PI X tg iter wi ∧ BlkOk X.N X.env.scope scope own ∧
  (∀ (s : Shared) (H : Hp) (C : Addr) (cl : List (Str × Addr)) (fp : List Addr), PG (X.blk s H scope (compEnvC scope cl C X.env) fp) tg g) ∧ (∀ (s : Shared) (H : Hp) (C : Addr) (cl : List (Str × Addr)) (fp : List Addr), PTs (X.blk s H scope (compEnvC scope cl C X.env) fp) ifs tt) ∧
  (∀ (s : Shared) (H : Hp) (C : Addr) (cl : List (Str × Addr)) (fp : List Addr), PE (X.blk s H scope (compEnvC scope cl C X.env) fp) elt te) ∧ (∀ x, foldedSetIterable iter X.env x = pure x) ∧
  ∀ G ρ σ H Q, J X.K G ρ σ H → PostN X.K E G ρ σ H Q (f ρ) → tLc wi g tt te (own.map (·.2)) σ H Q
theorem lc_I {elt tg iter : Expr} {ifs : List Expr} {scope : Scope} {own : List (Str × Nat)} {src : Mo Src} {js ws : List Nat} {g : D → En → Option En} {test : Mo Bool} {fe : Mo D} (hi : IV X E tg iter src js) (ok : BlkOk X.N X.env.scope scope own)
    (hg : ∀ (s : Shared) (H : Hp) (C : Addr) (cl : List (Str × Addr)) (fp : List Addr), GV (X.blk s H scope (compEnvC scope cl C X.env) fp) tg g ws) (ht : ∀ (s : Shared) (H : Hp) (C : Addr) (cl : List (Str × Addr)) (fp : List Addr), EIf (X.blk s H scope (compEnvC scope cl C X.env) fp) E0 ifs test)
    (he : ∀ (s : Shared) (H : Hp) (C : Addr) (cl : List (Str × Addr)) (fp : List Addr), EV (X.blk s H scope (compEnvC scope cl C X.env) fp) E0 elt fe) (hjs : ∀ j ∈ js, j ∉ own.map (·.2) := by decide) (hws : ∀ k ∈ ws, k ∈ own.map (·.2) := by decide) (hs : ∀ x, foldedSetIterable iter X.env x = pure x := by intro _; rfl) :
    LC X E elt tg iter ifs scope (mBlk (own.map (·.2)) src fun s ρ => lcI (own.map (·.2)) s g test fe 1000000 0 ρ) := by
  obtain ⟨wi, pi, qi⟩ := hi
  exact ⟨wi, tG X.K g ws, tT X.K E0 test, tE X.K E0 fe, own, pi, ok, fun s H C cl fp => (hg s H C cl fp).pg, ht, fun s H C cl fp => (he s H C cl fp).pe, hs, lc_sem 1000000 (Nat.le_refl _) qi hjs hws⟩
theorem LC.by {elt tg iter : Expr} {ifs : List Expr} {scope : Scope} {f f' : Mo (List D)} (h : LC X E elt tg iter ifs scope f) (k : ∀ ρ r, f' ρ = some r → f ρ = some r) : LC X E elt tg iter ifs scope f' := by
  obtain ⟨wi, g, tt, te, own, h1, h2, h3, h4, h5, h6, q⟩ := h
  refine ⟨wi, g, tt, te, own, h1, h2, h3, h4, h5, h6, fun G ρ σ H Q j h => q G ρ σ H Q j ?_⟩
  cases e : f' ρ with
  | none => rw [e] at h; exact h.elim
  | some r => rw [k ρ r e]; rw [e] at h; exact h
theorem LC.en {elt tg iter : Expr} {ifs : List Expr} {scope : Scope} {f : Mo (List D)} {pos : Pos} (h : LC X E elt tg iter ifs scope f) (hc : X.calm = true) (hN : X.N.Nodup) : EN X E (.ListComp elt [⟨tg, iter, ifs, 0⟩] scope pos) f := by
  obtain ⟨wi, g, tt, te, own, h1, h2, h3, h4, h5, h6, q⟩ := h
  exact ⟨_, pe_lc hc hN h1 h2 h3 h4 h5 h6, q⟩
theorem LC.set {elt tg iter : Expr} {ifs : List Expr} {scope : Scope} {f : Mo (List D)} {pos spos : Pos} {i : Nat} {y : Str} {py : Pos} (h : LC X E elt tg iter ifs scope f) (hc : X.calm = true) (hN : X.N.Nodup) (hsw : swapsWith (.ListComp elt [⟨tg, iter, ifs, 0⟩] scope pos) (some (.Name y py)) spos.line X.env = pure true)
    (hy : X.N[i]? = some y := by rfl) (hyl : X.env.scope.names.lookup y = some .local := by rfl) : SV X E (.Assign [.Name y py] (.ListComp elt [⟨tg, iter, ifs, 0⟩] scope pos) spos) (sSet i (mList f)) := by
  obtain ⟨wi, g, tt, te, own, h1, h2, h3, h4, h5, h6, q⟩ := h
  refine ⟨_, ps_setLc hc hN hy hyl hsw h1 h2 h3 h4 h5 h6, fun G ρ σ H De j h => q G ρ σ H _ j ?_⟩
  unfold sSet mList mBind at h
  cases hh : f ρ with
  | none => simp only [hh] at h; exact h
  | some r =>
    cases r with
    | error x => simp only [hh] at h; exact h
    | ok pr =>
      obtain ⟨ρ', ds⟩ := pr
      simp only [hh] at h
      intro G' v H' e r
      obtain ⟨a, vs, rfl, z1, z2, z3, no, z4⟩ := r
      have e2 := e.still z1 z2 z3 no
      exact h _ _ H' (e2.trans (Ex.set e2.j i (.lst upd_same (z4.mono (same_upd z2)))))
theorem LC.own {elt tg iter : Expr} {ifs : List Expr} {scope : Scope} {f : Mo (List D)} {pos spos : Pos} {i : Nat} {y : Str} {py : Pos} (h : LC X E elt tg iter ifs scope f) (hc : X.calm = true) (hN : X.N.Nodup) (hsw : swapsWith (.ListComp elt [⟨tg, iter, ifs, 0⟩] scope pos) (some (.Name y py)) spos.line X.env = pure true)
    (hy : X.N[i]? = some y := by rfl) (hyl : X.env.scope.names.lookup y = some .local := by rfl) : SV X E (.Assign [.Name y py] (.ListComp elt [⟨tg, iter, ifs, 0⟩] scope pos) spos) (sOwn i f) := by
  obtain ⟨wi, g, tt, te, own, h1, h2, h3, h4, h5, h6, q⟩ := h
  refine ⟨_, ps_setLc hc hN hy hyl hsw h1 h2 h3 h4 h5 h6, fun G ρ σ H De j h => q G ρ σ H _ j ?_⟩
  unfold sOwn mBind at h
  cases hh : f ρ with
  | none => simp only [hh] at h; exact h
  | some r =>
    cases r with
    | error x => simp only [hh] at h; exact h
    | ok pr =>
      obtain ⟨ρ', ds⟩ := pr
      simp only [hh] at h
      exact fun G' v H' e r => h G' _ H' (e.setOwn i r)
theorem EN.by {e : Expr} {f f' : Mo (List D)} (h : EN X E e f) (k : ∀ ρ r, f' ρ = some r → f ρ = some r) : EN X E e f' := by
  obtain ⟨t, p, q⟩ := h
  refine ⟨t, p, fun G ρ σ H Q j h => q G ρ σ H Q j ?_⟩
  cases e : f' ρ with
  | none => rw [e] at h; exact h.elim
  | some r => rw [k ρ r e]; rw [e] at h; exact h
theorem blk_by {vs : List Nat} {src : Mo Src} {g : D → En → Option En} {test : Mo Bool} {fe : Mo D} (hcs : ∀ ρ ρ' s, src ρ = some (.ok (ρ', s)) → Const s) : ∀ ρ r, mBlk vs src (lcBody vs g test fe) ρ = some r → mBlk vs src (fun s ρ => lcI vs s g test fe 1000000 0 ρ) ρ = some r := by
  intro ρ r h
  unfold mBlk mBind at h ⊢
  cases hs : src ρ with
  | none => simp only [hs] at h; cases h
  | some o =>
    cases o with
    | error x => simp only [hs] at h ⊢; exact h
    | ok p =>
      obtain ⟨ρ1, s⟩ := p
      have hcon := hcs ρ ρ1 s hs
      simp only [hs] at h ⊢
      cases hno : noOwn ρ1 vs with
      | false => simp only [hno] at h; cases h
      | true =>
        simp only [hno] at h ⊢
        unfold lcBody at h
        cases hi : s [] with
        | none => simp only [hi] at h; cases h
        | some items =>
          simp only [hi] at h
          cases hb : Nat.blt items.length 1000000 with
          | false => simp only [hb] at h; cases h
          | true =>
            simp only [hb] at h
            cases hl : lcL vs g test fe items (wipeE ρ1 vs) with
            | none => simp only [hl] at h; cases h
            | some ro =>
              simp only [hl] at h
              have hlt : items.length < 1000000 := by
                unfold Nat.blt at hb
                exact Nat.le_of_ble_eq_true hb
              rw [lcI_of (fun ρ => (hcon ρ).trans hi) 1000000 0 items _ ro (by simp) hlt hl]
              exact h
theorem lc_c {elt tg iter : Expr} {ifs : List Expr} {scope : Scope} {own : List (Str × Nat)} {src : Mo Src} {ws : List Nat} {g : D → En → Option En} {test : Mo Bool} {fe : Mo D} (hi : IV X E tg iter src []) (hcs : ∀ ρ ρ' s, src ρ = some (.ok (ρ', s)) → Const s) (ok : BlkOk X.N X.env.scope scope own)
    (hg : ∀ (s : Shared) (H : Hp) (C : Addr) (cl : List (Str × Addr)) (fp : List Addr), GV (X.blk s H scope (compEnvC scope cl C X.env) fp) tg g ws) (ht : ∀ (s : Shared) (H : Hp) (C : Addr) (cl : List (Str × Addr)) (fp : List Addr), EIf (X.blk s H scope (compEnvC scope cl C X.env) fp) E0 ifs test)
    (he : ∀ (s : Shared) (H : Hp) (C : Addr) (cl : List (Str × Addr)) (fp : List Addr), EV (X.blk s H scope (compEnvC scope cl C X.env) fp) E0 elt fe) (hws : ∀ k ∈ ws, k ∈ own.map (·.2) := by decide) (hs : ∀ x, foldedSetIterable iter X.env x = pure x := by intro _; rfl) :
    LC X E elt tg iter ifs scope (mBlk (own.map (·.2)) src (lcBody (own.map (·.2)) g test fe)) :=
  (lc_I hi ok hg ht he (fun _ z => nomatch z) hws hs).by (blk_by hcs)
/-- sources that tell the same -/
theorem const_seq {f : Mo D} : ∀ ρ ρ' s, mSeqS f ρ = some (.ok (ρ', s)) → Const s := by
  intro ρ ρ' s h
  unfold mSeqS mBind mLift at h
  cases e : f ρ with
  | none => simp only [e] at h; cases h
  | some o =>
    cases o with
    | error x => simp only [e] at h; cases h
    | ok p =>
      obtain ⟨ρ1, d⟩ := p
      simp only [e] at h
      cases hi : itemsD d with
      | none => simp only [hi, Option.map] at h; cases h
      | some ds =>
        simp only [hi, Option.map] at h
        cases h
        exact fun _ => rfl
theorem const_range1 {f : Mo (List D)} : ∀ ρ ρ' s, mRange range1D f ρ = some (.ok (ρ', s)) → Const s := by
  intro ρ ρ' s h
  unfold mRange mBind mLift at h
  cases e : f ρ with
  | none => simp only [e] at h; cases h
  | some o =>
    cases o with
    | error x => simp only [e] at h; cases h
    | ok p =>
      obtain ⟨ρ1, ds⟩ := p
      simp only [e] at h
      cases hi : range1D ds with
      | none => simp only [hi] at h; cases h
      | some src =>
        simp only [hi] at h
        cases h
        match ds, hi with
        | [.int j], hi =>
          obtain ⟨_, rfl⟩ := ite_some (show (if -1000000000 ≤ j ∧ j ≤ 1000000000 then some (constS (rangeD 0 j.toNat)) else none) = some s from hi)
          exact fun _ => rfl
theorem const_range2 {f : Mo (List D)} : ∀ ρ ρ' s, mRange range2D f ρ = some (.ok (ρ', s)) → Const s := by
  intro ρ ρ' s h
  unfold mRange mBind mLift at h
  cases e : f ρ with
  | none => simp only [e] at h; cases h
  | some o =>
    cases o with
    | error x => simp only [e] at h; cases h
    | ok p =>
      obtain ⟨ρ1, ds⟩ := p
      simp only [e] at h
      cases hi : range2D ds with
      | none => simp only [hi] at h; cases h
      | some src =>
        simp only [hi] at h
        cases h
        match ds, hi with
        | [.int i, .int j], hi =>
          obtain ⟨_, rfl⟩ := ite_some (show (if -1000000000 ≤ i ∧ i ≤ 1000000000 ∧ -1000000000 ≤ j ∧ j ≤ 1000000000 then some (constS (rangeD i (j - i).toNat)) else none) = some s from hi)
          exact fun _ => rfl
end
end HB
namespace HB
open PySem L2
section
variable {X : Cx} {E : XK}
def isIntT : D → Option Bool
  | .bool _ => some true
  | .int _ => some true
  | .dict _ => none
  | _ => some false
def isBoolT : D → Option Bool
  | .bool _ => some true
  | .dict _ => none
  | _ => some false
def isTupT : D → Option Bool
  | .tuple _ => some true
  | .dict _ => none
  | _ => some false
def isSeqT : D → Option Bool
  | .list _ => some true
  | .tuple _ => some true
  | .dict _ => none
  | _ => some false
def IsTab (T : String) (tb : D → Option Bool) : Prop := ∀ d b, tb d = some b → ∃ n, tyD d = some n ∧ kitB n T = some b
theorem tab_int : IsTab "int" isIntT := by
  intro d b h
  cases d <;> first
    | (cases h; exact ⟨_, rfl, by decide +kernel⟩)
    | (cases h; done)
theorem tab_bool : IsTab "bool" isBoolT := by
  intro d b h
  cases d <;> first
    | (cases h; exact ⟨_, rfl, by decide +kernel⟩)
    | (cases h; done)
theorem tab_tup : IsTab "tuple" isTupT := by
  intro d b h
  cases d <;> first
    | (cases h; exact ⟨_, rfl, by decide +kernel⟩)
    | (cases h; done)
def mIsi (tb : D → Option Bool) (f : Mo D) : Mo D := mBind f fun d => mLift ((tb d).map .bool)
theorem ev_isi {T : String} {x : Str} {tb : D → Option Bool} {e : Expr} {f : Mo D} {p p2 pos : Pos} (ht : IsTab T tb) (h : EV X E e f) (hm : X.mg "isinstance" = none) (hmT : X.mg x = none) (hvT : bootBuiltins x = some (.type T)) (hn : x ≠ "__name__" := by decide) (hdb : (x == ("__debug__" : Str)) = false := by decide)
    (hg : Gl X "isinstance" := by rfl) (hgT : Gl X x := by rfl) (he : starEach [e, .Name x p2] X.env = (false, eval e X.env) :: starEach [.Name x p2] X.env := by rfl) (hpl : (backTo pos (starEach [.Name x p2] X.env)).any (·.1) = false := by rfl) : EV X E (.Call (.Name "isinstance" p) [e, .Name x p2] [] pos) (mIsi tb f) := by
  obtain ⟨t, pt, q⟩ := h
  refine ⟨_, pe_callB call_isi hg hm (by decide +kernel) (pa_cons pt (pa_cons (pe_bltn (v := .ty T) hgT hmT hvT rfl hn hdb) pa_nil) he) (by decide) (by decide) he hpl, fun G ρ σ H Q j h => q G ρ σ H _ j (Post.imp h fun G1 ρ1 v H1 d e1 r1 h1 => ?_)⟩
  obtain ⟨c, hc, k⟩ := Post.lift (ρ' := ρ1) h1
  cases hb : tb d with
  | none => rw [hb] at hc; cases hc
  | some b =>
    rw [hb] at hc
    cases hc
    obtain ⟨n, h2, h3⟩ := ht d b hb
    exact ⟨v, .ty T, .type n, .type T, b, rfl, .ty T, r1.ty e1.j.sub h2, kit_ty h3, k G1 _ H1 e1.j.refl (.bl b)⟩
/-- isinstance(x, (list, tuple)) -/
theorem ev_isiLT {e : Expr} {f : Mo D} {p p2 p3 p4 pos : Pos} {kk : Nat} (h : EV X E e f) (hm : X.mg "isinstance" = none) (hmL : X.mg "list" = none) (hmT : X.mg "tuple" = none)
    (hg : Gl X "isinstance" := by rfl) (hgL : Gl X "list" := by rfl) (hgT : Gl X "tuple" := by rfl) (he : starEach [e, .Tuple [.Name "list" p2, .Name "tuple" p3] kk p4] X.env = (false, eval e X.env) :: starEach [.Tuple [.Name "list" p2, .Name "tuple" p3] kk p4] X.env := by rfl) (hpl : (backTo pos (starEach [.Tuple [.Name "list" p2, .Name "tuple" p3] kk p4] X.env)).any (·.1) = false := by rfl) :
    EV X E (.Call (.Name "isinstance" p) [e, .Tuple [.Name "list" p2, .Name "tuple" p3] kk p4] [] pos) (mIsi isSeqT f) := by
  obtain ⟨t, pt, q⟩ := h
  refine ⟨_, pe_callB call_isiT hg hm (by decide +kernel) (pa_cons pt (pa_cons (pe_tup (pa_cons (pe_bltn (v := .ty "list") hgL hmL (by decide +kernel) rfl) (pa_cons (pe_bltn (v := .ty "tuple") hgT hmT (by decide +kernel) rfl) pa_nil))) pa_nil) he) (by decide) (by decide) he hpl, fun G ρ σ H Q j h => q G ρ σ H _ j (Post.imp h fun G1 ρ1 v H1 d e1 r1 h1 => ?_)⟩
  obtain ⟨c, hc, k⟩ := Post.lift (ρ' := ρ1) h1
  refine ⟨by show 2 ≤ sizeLine; decide, fun tp htp => ?_⟩
  have sh : Same H1 (upd H1 tp (.tup [.ty "list", .ty "tuple"])) := same_upd htp
  have x2 : Ex X.K G1 ρ1 σ H1 G1 ρ1 σ (upd H1 tp (.tup [.ty "list", .ty "tuple"])) := by
    refine ⟨⟨e1.j.sub.new htp, e1.j.len, e1.j.pur, fun i s ds e hl => ?_, e1.j.alone, fun i g o o' z xs y1 y2 => let ⟨a, v, u, h1, h2, h3⟩ := e1.j.lk i g o o' z xs y1 y2; ⟨a, v, u, h1, sh _ _ h2, h3⟩⟩, .refl _, fun b hb => .inl hb, fun b o e _ => sh _ _ e, fun b hb => .inl hb, fun b hb => sh.free hb, fun i ds h => ⟨⟨ds, h⟩, rfl⟩, fun i s h q => ⟨⟨s, h, q⟩, rfl⟩, (sameT_upd htp).tx⟩
    obtain ⟨a, vs, z1, z2, z3, z4⟩ := e1.j.hold i s ds e hl
    exact ⟨a, vs, z1, sh _ _ z2, z3, z4⟩
  have key : ∀ b, isSeqT d = some b → ∃ n, tyD d = some n ∧ PySem.W.kitAny X.K (.type n) [.type "list", .type "tuple"] = some b := by
    intro b hb
    cases d <;> first
      | (cases hb; exact ⟨_, rfl, by kernel_rfl⟩)
      | (cases hb; done)
  cases hb : isSeqT d with
  | none => rw [hb] at hc; cases hc
  | some b =>
    rw [hb] at hc
    cases hc
    obtain ⟨n, h2, h3⟩ := key b hb
    exact ⟨v, tp, [.ty "list", .ty "tuple"], .type n, [.type "list", .type "tuple"], b, rfl, upd_same, .cons (.ty _) (.cons (.ty _) .nil), r1.ty x2.j.sub h2, h3, k G1 _ _ x2 (.bl b)⟩
def mNoPart : Mo (Option Int) := mRet none
def intOf : D → Option Int
  | .int i => some i
  | _ => none
def mPart (f : Mo D) : Mo (Option Int) := mBind f fun d => mLift ((intOf d).map some)
def EO (X : Cx) (E : XK) (e : Option Expr) (f : Mo (Option Int)) : Prop := ∃ t, PO X e t ∧ ∀ G ρ σ H Q, J X.K G ρ σ H → Post X.K E (fun _ b c => b = c) G ρ σ H Q (f ρ) → t σ H Q
theorem eo_none : EO X E none mNoPart := ⟨_, po_none, fun G ρ σ H Q j h => h G none H j.refl rfl⟩
theorem eo_some {e : Expr} {f : Mo D} (h : EV X E e f) : EO X E (some e) (mPart f) := by
  obtain ⟨t, p, q⟩ := h
  refine ⟨_, po_some p, fun G ρ σ H Q j h => q G ρ σ H _ j (Post.imp h fun G1 ρ1 v H1 d e1 r1 h1 => ?_)⟩
  obtain ⟨c, hc, k⟩ := Post.lift (ρ' := ρ1) h1
  cases r1 with
  | int i => cases hc; exact ⟨i, rfl, k G1 _ H1 e1.j.refl rfl⟩
  | _ => cases hc
def cutD {α : Type} (xs : List α) (lo hi : Option Int) : List α := (xs.drop (HT.sIx xs.length 0 lo)).take (HT.sIx xs.length xs.length hi - HT.sIx xs.length 0 lo)
theorem RpAll.cut {K : PySem.W.Frag} {G : Hp} {vs : List V} {ds : List D} (r : RpAll K G vs ds) (lo hi : Option Int) : RpAll K G (cutV vs lo hi) (cutD ds lo hi) := by
  unfold cutV cutD
  rw [r.length]
  exact (r.drop _).take _
def slD (lo hi : Option Int) : D → Option D
  | .list ds => some (.list (cutD ds lo hi))
  | .tuple ds => some (.tuple (cutD ds lo hi))
  | .dict [(.none, .list ds)] => some (.list (cutD ds lo hi))
  | .str z => if z.length ≤ 1000000 then some (.str (cutS z lo hi)) else none
  | _ => none
def mSlice (f : Mo D) (lo hi : Mo (Option Int)) : Mo D := mBind f fun d => mBind lo fun l => mBind hi fun h => mLift (slD l h d)
theorem cutV_all {xs : List V} {lo hi : Option Int} (h1 : HT.sIx xs.length 0 lo = 0) (h2 : HT.sIx xs.length xs.length hi = xs.length) : cutV xs lo hi = xs := by
  unfold cutV
  rw [h1, h2]
  simp
theorem ev_slice {e : Expr} {lo hi : Option Expr} {f : Mo D} {fl fh : Mo (Option Int)} {p2 pos : Pos} (h : EV X E e f) (hl : EO X E lo fl) (hh : EO X E hi fh) : EV X E (.Subscript e (.Slice lo hi none p2) pos) (mSlice f fl fh) := by
  obtain ⟨t, p, q⟩ := h
  obtain ⟨tl, pl, ql⟩ := hl
  obtain ⟨th, ph, qh⟩ := hh
  refine ⟨_, pe_slice (sl_list.or ((sl_tupP.or sl_tupA).or sl_str)) p pl ph, fun G ρ σ H Q j h => q G ρ σ H _ j (Post.imp h fun G1 ρ1 v H1 d e1 r1 h1 => ?_)⟩
  refine ql G1 ρ1 σ H1 _ e1.j (Post.imp h1 fun G2 ρ2 l H2 l' e2 rl h2 => ?_)
  subst rl
  refine qh G2 ρ2 σ H2 _ e2.j (Post.imp h2 fun G3 ρ3 u H3 u' e3 ru h3 => ?_)
  subst ru
  obtain ⟨c, hc, k⟩ := Post.lift (ρ' := ρ3) h3
  have r3 : Rp X.K G3 v d := (r1.mono e2.g).mono e3.g
  have s3 := e3.j.sub
  cases r3 with
  | @lst a xs ds z1 z2 =>
    cases hc
    refine .inl ⟨a, xs, rfl, .of (s3 _ _ z1), fun p hp => ?_⟩
    have px : PX G3 H3 _ _ := .alloc s3 hp (.lst (cutV xs l u))
    exact k _ _ _ (e3.j.ex px) (.lst upd_same ((z2.cut l u).mono px.g))
  | @tup a xs ds z1 z2 =>
    cases hc
    by_cases hw : HT.sIx xs.length 0 l = 0 ∧ HT.sIx xs.length xs.length u = xs.length
    · refine .inr (.inl (.inr ⟨a, xs, rfl, sqT_mono s3 z1.t, fun _ => ?_, fun no => absurd hw no⟩))
      have e := z2.cut l u
      rw [cutV_all hw.1 hw.2] at e
      exact k G3 _ H3 e3.j.refl (.tup z1 e)
    · refine .inr (.inl (.inl ⟨a, xs, rfl, sqT_mono s3 z1.t, hw, fun p o hp nd => ?_⟩))
      have px : PX G3 H3 _ _ := .alloc s3 hp (.frz o (.tup (cutV xs l u)))
      exact k _ _ _ (e3.j.ex px) (.tup (.new nd) ((z2.cut l u).mono px.g))
  | @frz a xs ds z1 z2 =>
    cases hc
    refine .inl ⟨a, xs, rfl, s3.seq z1, fun p hp => ?_⟩
    have px : PX G3 H3 _ _ := .alloc s3 hp (.lst (cutV xs l u))
    exact k _ _ _ (e3.j.ex px) (.lst upd_same ((z2.cut l u).mono px.g))
  | str z =>
    obtain ⟨h4, rfl⟩ := ite_some (show (if z.length ≤ 1000000 then some (PyData.str (cutS z l u)) else none) = some c from hc)
    exact .inr (.inr ⟨z, rfl, line_of h4, k G3 _ H3 e3.j.refl (.str _)⟩)
  | obj z1 z2 => cases hc
  | _ => cases hc
def fldIn (f : Str) : List (D × D) → Option D
  | [] => none
  | (.str g, d) :: r => if g = f then some d else fldIn f r
  | _ :: _ => none
def fldD (c f : Str) : D → Option D
  | .dict ((.str c', .none) :: kvs) => if c' = c then fldIn f kvs else none
  | _ => none
theorem RpF.look {K : PySem.W.Frag} {G : Hp} {f : Str} : ∀ {fs : List (Str × V)} {kvs : List (D × D)} {d : D}, RpF K G fs kvs → fldIn f kvs = some d → ∃ v, fs.lookup f = some v ∧ Rp K G v d
  | _, _, _, .nil, h => by cases h
  | _, _, d, @RpF.cons _ _ g v fs e kvs h t, q => by
    have q' : (if g = f then some e else fldIn f kvs) = some d := q
    by_cases z : g = f
    · rw [if_pos z] at q'
      cases q'
      subst z
      exact ⟨v, by simp [List.lookup], h⟩
    · rw [if_neg z] at q'
      obtain ⟨v', h1, h2⟩ := RpF.look t q'
      refine ⟨v', ?_, h2⟩
      have e1 : (f == g) = false := beq_eq_false_iff_ne.mpr (Ne.symm z)
      simp only [List.lookup, e1]
      exact h1
theorem ev_fld {e : Expr} {f : Mo D} {c a : Str} {pos : Pos} (h : EV X E e f) (hc : Cls X.K (He.ga X.K c)) (hn : NoAttr X.K (He.ga X.K c) a) (hb : attributeBase e a X.env (eval e X.env) = eval e X.env := by rfl) : EV X E (.Attribute e a pos) (mUn (fldD c a) f) := by
  obtain ⟨t, p, q⟩ := h
  refine ⟨_, pe_fld p hb, fun G ρ σ H Q j h => q G ρ σ H _ j (Post.imp h fun G1 ρ1 v H1 d e1 r1 h1 => ?_)⟩
  obtain ⟨y, hy, k⟩ := Post.lift (ρ' := ρ1) h1
  cases r1 with
  | @obj ad dx c' fs kvs z1 z2 =>
    obtain ⟨rfl, h3⟩ : c' = c ∧ fldIn a kvs = some y := by
      have hy' : (if c' = c then fldIn a kvs else none) = some y := hy
      split at hy'
      · rename_i q
        exact ⟨q, hy'⟩
      · cases hy'
    obtain ⟨v', h4, h5⟩ := z2.look h3
    exact ⟨ad, _, dx, fs, v', rfl, e1.j.sub _ _ z1, hc, hn, h4, k G1 _ H1 e1.j.refl h5⟩
  | frz z1 z2 => cases hy
  | _ => cases hy
/-- xs.append(e), a statement -/
def sChg (i : Nat) (f : Mo (List D)) (c : List D → List D → Option (List D)) : Mo Fl := fun ρ => match ρ[i]? with
  | some (.own _) => mBind f (fun as ρ1 => match ρ1[i]? with
    | some (.own ds) => match c ds as with
      | some es => some (.ok (ρ1.set i (.own es), .nx))
      | none => none
    | _ => none) ρ
  | _ => none
def appC : List D → List D → Option (List D)
  | ds, [d] => match Nat.blt ds.length 1000000 with
    | true => some (ds ++ [d])
    | false => none
  | _, _ => none
def extC : List D → List D → Option (List D)
  | ds, [.list es] => match Nat.blt (ds.length + es.length) 1000000 with
    | true => some (ds ++ es)
    | false => none
  | _, _ => none
/-- another list in its place -/
def Sl.put : Sl → List D → Sl
  | .own _, es => .own es
  | .box _, es => .box es
  | s, _ => s
theorem Sl.put_ls {s : Sl} {ds es : List D} (h : s.ls = some ds) : (s.put es).ls = some es := by
  cases s with
  | no => cases h
  | pur d => cases h
  | own _ => rfl
  | box _ => rfl
  | dl _ _ _ => cases h
  | gst _ _ => cases h
theorem Sl.put_is {s : Sl} {ds : List D} (es : List D) (h : s.ls = some ds) : s.put es = .own es ∨ (s.put es = .box es ∧ ∃ ds0, s = .box ds0) := by
  cases s with
  | no => cases h
  | pur d => cases h
  | own _ => exact .inl rfl
  | box ds0 => exact .inr ⟨rfl, ds0, rfl⟩
  | dl _ _ _ => cases h
  | gst _ _ => cases h
theorem Sl.put_hs {s : Sl} {ds es : List D} (h : s.ls = some ds) : (s.put es).hs = some es := Sl.ls_hs (Sl.put_ls h)
/-- the slot's list is changed -/
theorem J.putS {K : PySem.W.Frag} {G H : Hp} {ρ : En} {σ : St} (j : J K G ρ σ H) {i : Nat} {s : Sl} {ds es : List D} {a : Addr} {ws : List V} (h : ρ[i]? = some s) (hl : s.ls = some ds) (ha : σ[i]? = some (some (.ref a))) (r : RpAll K G ws es) : Ex K G ρ σ H G (ρ.set i (s.put es)) σ (upd H a (.lst ws)) := by
  obtain ⟨a', vs, h1, h2, h3, h4⟩ := j.own i s ds h hl
  rw [ha] at h1
  cases h1
  have hi : i < ρ.length := (List.getElem?_eq_some_iff.mp h).1
  have od : Ownd ρ σ a := ⟨i, s, ds, h, Sl.ls_hs hl, ha⟩
  have np : ∀ d, s.put es ≠ .pur d := fun d z => by
    rcases Sl.put_is es hl with y | ⟨y, _⟩ <;> rw [y] at z <;> cases z
  have nd : ∀ o g z, s.put es ≠ .dl o g z := fun o g z w => by
    rcases Sl.put_is es hl with y | ⟨y, _⟩ <;> rw [y] at w <;> cases w
  have ng : ∀ o xs, s.put es ≠ .gst o xs := fun o xs w => by
    rcases Sl.put_is es hl with y | ⟨y, _⟩ <;> rw [y] at w <;> cases w
  have c : ∀ (m : Nat) (t : Sl) (us : List D), (ρ.set i (s.put es))[m]? = some t → t.hs = some us → ∃ t' us', ρ[m]? = some t' ∧ t'.hs = some us' := fun m t us hm ht => by
    rcases getElem?_set_cases hm with ⟨z1, _⟩ | ⟨_, z⟩
    · subst z1; exact ⟨s, ds, h, Sl.ls_hs hl⟩
    · exact ⟨t, us, z, ht⟩
  refine ⟨⟨j.sub.put h3 (pl_of h2), by rw [List.length_set]; exact j.len, fun k d q => ?_, fun k t fs q ht => ?_, fun k l t u fs gs b q1 l1 q2 l2 q3 q4 => ?_, fun k g o o' z xs q1 q2 => ?_⟩, .refl _, fun b hb => .inl hb, fun b o q n => ?_, fun b hb => ?_, fun b hb => ?_, fun k fs q => ?_, fun k t q ql => ?_, .put (pl_of h2)⟩
  · rcases getElem?_set_cases q with ⟨_, z⟩ | ⟨_, q'⟩
    · exact absurd z.symm (np d)
    · exact j.pur k d q'
  · rcases getElem?_set_cases q with ⟨z1, z⟩ | ⟨z1, q'⟩
    · subst z
      subst z1
      rw [Sl.put_hs hl] at ht
      cases ht
      exact ⟨a, ws, ha, upd_same, h3, r⟩
    · obtain ⟨b, us, g1, g2, g3, g4⟩ := j.hold k t fs q' ht
      have ne : b ≠ a := fun z => by
        subst z
        exact z1 (j.alone k i t s fs ds b q' ht h (Sl.ls_hs hl) g1 ha)
      exact ⟨b, us, g1, by rw [upd_ne ne]; exact g2, g3, g4⟩
  · obtain ⟨t1, u1, c1, c2⟩ := c k t fs q1 l1
    obtain ⟨t2, u2, c3, c4⟩ := c l u gs q2 l2
    exact j.alone k l t1 t2 u1 u2 b c1 c2 c3 c4 q3 q4
  · rcases getElem?_set_cases q1 with ⟨_, y⟩ | ⟨y1, q1'⟩
    · exact absurd y.symm (nd o g z)
    · rcases getElem?_set_cases q2 with ⟨_, y⟩ | ⟨_, q2'⟩
      · exact absurd y.symm (ng o' xs)
      · obtain ⟨b, v, u, g1, g2, g3⟩ := j.lk k g o o' z xs q1' q2'
        have ne : b ≠ a := fun w => by
          subst w
          exact y1 (j.alone k i _ s _ ds b q1' rfl h (Sl.ls_hs hl) g1 ha)
        exact ⟨b, v, u, g1, by rw [upd_ne ne]; exact g2, g3⟩
  · have ne : b ≠ a := fun z => by
      subst z
      exact n od
    rw [upd_ne ne]
    exact fun {_} => q
  · obtain ⟨k, t, us, q1, l1, q2⟩ := hb
    obtain ⟨t1, u1, c1, c2⟩ := c k t us q1 l1
    exact .inl ⟨k, t1, u1, c1, c2, q2⟩
  · by_cases z : b = a
    · subst z; rw [upd_same] at hb; cases hb
    · rw [upd_ne z] at hb; exact hb
  · rcases getElem?_set_cases q with ⟨z1, z⟩ | ⟨z1, q'⟩
    · subst z1
      rcases Sl.put_is es hl with y | ⟨_, es0, y⟩
      · rw [y] at z; cases z
      · subst y; exact ⟨⟨es0, h⟩, rfl⟩
    · exact ⟨⟨fs, q'⟩, rfl⟩
  · rcases getElem?_set_cases q with ⟨_, y⟩ | ⟨_, q'⟩
    · subst y
      rcases Sl.put_is es hl with y | ⟨y, _⟩ <;> rw [y] at ql <;> cases ql
    · exact ⟨⟨t, q', ql⟩, rfl⟩
theorem J.put {K : PySem.W.Frag} {G H : Hp} {ρ : En} {σ : St} (j : J K G ρ σ H) {i : Nat} {ds es : List D} {a : Addr} {ws : List V} (h : ρ[i]? = some (.own ds)) (ha : σ[i]? = some (some (.ref a))) (r : RpAll K G ws es) : Ex K G ρ σ H G (ρ.set i (.own es)) σ (upd H a (.lst ws)) :=
  j.putS h rfl ha r
theorem chg_sem {i : Nat} {t : TA} {f : Mo (List D)} {c : List D → List D → Option (List D)} {r : V → List V → Hp → VK → Prop} (q : ∀ G ρ σ H Q, J X.K G ρ σ H → Post X.K E (RpAll X.K) G ρ σ H Q (f ρ) → t σ H Q)
    (hr : ∀ G H a vs ds as us es Q, Same G H → H a = some (.lst vs) → G a = none → RpAll X.K G vs ds → RpAll X.K G us as → c ds as = some es → (∀ v ws, RpAll X.K G ws es → Q v (upd H a (.lst ws))) → r (.ref a) us H Q) :
    ∀ G ρ σ H De, J X.K G ρ σ H → PostS X.K E G ρ σ H De (sChg i f c ρ) → tDrop (tBM X.K "list" r (tVar i) t) De σ H := by
  intro G ρ σ H De j h
  unfold sChg at h
  cases hs : ρ[i]? with
  | none => rw [hs] at h; exact h.elim
  | some sl =>
    rw [hs] at h
    cases sl with
    | no => exact h.elim
    | box _ => exact h.elim
    | dl _ _ _ => exact h.elim
    | gst _ _ => exact h.elim
    | pur d => exact h.elim
    | own ds0 =>
      obtain ⟨a, vs, h1, h2, h3, h4⟩ := j.own i _ ds0 hs rfl
      refine ⟨.ref a, h1, .inl ⟨rfl, vs, .of h2⟩, q G ρ σ H _ j (PostS.imp h fun G1 ρ1 us H1 as e1 r1 k => ?_)⟩
      have k' : PostS X.K E G1 ρ1 σ H1 De (match ρ1[i]? with
        | some (.own ds) => match c ds as with
          | some es => some (.ok (ρ1.set i (.own es), .nx))
          | none => none
        | _ => none) := k
      cases hs1 : ρ1[i]? with
      | none => rw [hs1] at k'; exact k'.elim
      | some sl1 =>
        rw [hs1] at k'
        cases sl1 with
        | no => exact k'.elim
        | box _ => exact k'.elim
        | dl _ _ _ => exact k'.elim
        | gst _ _ => exact k'.elim
        | pur d => exact k'.elim
        | own ds =>
          cases hc : c ds as with
          | none => simp only [hc] at k'; exact k'.elim
          | some es =>
            simp only [hc] at k'
            obtain ⟨a1, vs1, g1, g2, g3, g4⟩ := e1.j.own i _ ds hs1 rfl
            rw [h1] at g1
            cases g1
            exact hr G1 H1 a vs1 ds as us es _ e1.j.sub g2 g3 g4 r1 hc fun v ws rw' => k' G1 σ _ (e1.j.put hs1 h1 rw')
theorem s_app {i : Nat} {x : Str} {e : Expr} {f : Mo (List D)} {p1 apos cpos pos : Pos} (h : EA X E [e] f) (hN : X.N[i]? = some x := by rfl) (hv : Vis X.env.scope x := by first | exact Or.inl rfl | exact Or.inr (Or.inl rfl) | exact Or.inr (Or.inr rfl)) (hd : (x == ("__debug__" : Str)) = false := by decide) (hcd : (x == ("__classdict__" : Str)) = false := by decide)
    (hs : swapsWith (.Call (.Attribute (.Name x p1) "append" apos) [e] [] cpos) none pos.line X.env = pure false := by rfl)
    (hbase : attributeBase (.Name x p1) "append" X.env (eval (.Name x p1) X.env) = eval (.Name x p1) X.env := by rfl)
    (hfew : ((backTo cpos (starEach [e] X.env)).all (fun x => !x.1) && (backToKw cpos (keywordEach [] X.env)).all (fun x => x.1.isSome) && decide ([e].length + ([] : List Keyword).length + (if ([] : List Keyword).isEmpty then 0 else 1) < 30)) = true := by rfl)
    (hline : (apos.endLine == cpos.line) = true := by rfl) (hst : starEach [e] X.env = (false, eval e X.env) :: starEach [] X.env := by rfl) (hplain : (backTo cpos (starEach [] X.env)).any (·.1) = false := by rfl) :
    SV X E (.Expr (.Call (.Attribute (.Name x p1) "append" apos) [e] [] cpos) pos) (sChg i f appC) := by
  obtain ⟨t, p, q⟩ := h
  refine ⟨_, ps_expr (pe_bm PySem.F.plainAttrs_list PySem.F.slot_list_append PySem.F.type_list_append mt_append (pe_var hN hv hd hcd) p hbase hfew hline hst hplain) hs, chg_sem q fun G H a vs ds as us es Q s z1 z2 z3 z4 hc k => ?_⟩
  match as, hc with
  | [d], hc =>
    obtain ⟨y, rfl, ry⟩ := z4.one
    have hc' : (match Nat.blt ds.length 1000000 with
      | true => some (ds ++ [d])
      | false => none) = some es := hc
    cases hb : Nat.blt ds.length 1000000 with
    | false => rw [hb] at hc'; cases hc'
    | true =>
      rw [hb] at hc'
      cases hc'
      have hlt : ds.length < 1000000 := by
        unfold Nat.blt at hb
        exact Nat.le_of_ble_eq_true hb
      exact ⟨a, vs, y, rfl, rfl, z1, by rw [z3.length]; exact Nat.lt_of_lt_of_le hlt (by decide), k _ _ (z3.append (.cons ry .nil))⟩
theorem s_ext {i : Nat} {x : Str} {e : Expr} {f : Mo (List D)} {p1 apos cpos pos : Pos} (h : EA X E [e] f) (hN : X.N[i]? = some x := by rfl) (hv : Vis X.env.scope x := by first | exact Or.inl rfl | exact Or.inr (Or.inl rfl) | exact Or.inr (Or.inr rfl)) (hd : (x == ("__debug__" : Str)) = false := by decide) (hcd : (x == ("__classdict__" : Str)) = false := by decide)
    (hs : swapsWith (.Call (.Attribute (.Name x p1) "extend" apos) [e] [] cpos) none pos.line X.env = pure false := by rfl)
    (hbase : attributeBase (.Name x p1) "extend" X.env (eval (.Name x p1) X.env) = eval (.Name x p1) X.env := by rfl)
    (hfew : ((backTo cpos (starEach [e] X.env)).all (fun x => !x.1) && (backToKw cpos (keywordEach [] X.env)).all (fun x => x.1.isSome) && decide ([e].length + ([] : List Keyword).length + (if ([] : List Keyword).isEmpty then 0 else 1) < 30)) = true := by rfl)
    (hline : (apos.endLine == cpos.line) = true := by rfl) (hst : starEach [e] X.env = (false, eval e X.env) :: starEach [] X.env := by rfl) (hplain : (backTo cpos (starEach [] X.env)).any (·.1) = false := by rfl) :
    SV X E (.Expr (.Call (.Attribute (.Name x p1) "extend" apos) [e] [] cpos) pos) (sChg i f extC) := by
  obtain ⟨t, p, q⟩ := h
  refine ⟨_, ps_expr (pe_bm PySem.F.plainAttrs_list PySem.F.slot_list_extend PySem.F.type_list_extend mt_extend (pe_var hN hv hd hcd) p hbase hfew hline hst hplain) hs, chg_sem q fun G H a vs ds as us es Q s z1 z2 z3 z4 hc k => ?_⟩
  match as, hc with
  | [.list zs], hc =>
    obtain ⟨y, rfl, ry⟩ := z4.one
    have hc' : (match Nat.blt (ds.length + zs.length) 1000000 with
      | true => some (ds ++ zs)
      | false => none) = some es := hc
    cases hb : Nat.blt (ds.length + zs.length) 1000000 with
    | false => rw [hb] at hc'; cases hc'
    | true =>
      rw [hb] at hc'
      cases hc'
      have hlt : ds.length + zs.length < 1000000 := by
        unfold Nat.blt at hb
        exact Nat.le_of_ble_eq_true hb
      cases ry with
      | @lst b ys _ y1 y2 => exact ⟨a, b, vs, ys, rfl, rfl, z1, s _ _ y1, by rw [z3.length, y2.length]; exact line_of (by omega), k _ _ (z3.append y2)⟩
/-- xs[i] = e -/
def sPut (i : Nat) (fi fe : Mo D) : Mo Fl := mBind fe fun d ρ => match ρ[i]? with
  | some (.own _) => mBind fi (fun k ρ1 => match ρ1[i]? with
    | some (.own ds) => match intOf k with
      | some n => match ixN ds.length n with
        | some m => some (.ok (ρ1.set i (.own (ds.set m d)), .nx))
        | none => none
      | none => none
    | _ => none) ρ
  | _ => none
theorem s_put {i : Nat} {x : Str} {e ie : Expr} {fi fe : Mo D} {p1 tpos pos : Pos} (h : EV X E e fe) (hi : EV X E ie fi) (hN : X.N[i]? = some x := by rfl) (hv : Vis X.env.scope x := by first | exact Or.inl rfl | exact Or.inr (Or.inl rfl) | exact Or.inr (Or.inr rfl)) (hd : (x == ("__debug__" : Str)) = false := by decide) (hcd : (x == ("__classdict__" : Str)) = false := by decide)
    (hpg : ∀ {to ti : TE} {t : TSet}, PE X (.Name x p1) to → PE X ie ti → PSet X t → PG X (.Subscript (.Name x p1) ie tpos) (gSub to ti t) := by exact fun a b c => pg_sub a b c)
    (hs : swapsWithSole [.Subscript (.Name x p1) ie tpos] e pos.line X.env = pure false := by rfl) (hw : swappedStores [.Subscript (.Name x p1) ie tpos] e X.env = pure none := by rfl)
    (ha : (assignEach [.Subscript (.Name x p1) ie tpos] X.env).map (·.2) = [assign (.Subscript (.Name x p1) ie tpos) X.env] := by rfl) : SV X E (.Assign [.Subscript (.Name x p1) ie tpos] e pos) (sPut i fi fe) := by
  obtain ⟨t, p, q⟩ := h
  obtain ⟨ti, pi, qi⟩ := hi
  refine ⟨_, ps_asg p (hpg (pe_var hN hv hd hcd) pi set_list) hs hw ha, fun G ρ σ H De j h => q G ρ σ H _ j (PostS.imp h fun G1 ρ1 v H1 d e1 r1 k => ?_)⟩
  have k' : PostS X.K E G1 ρ1 σ H1 De (match ρ1[i]? with
    | some (.own _) => mBind fi (fun k ρ1 => match ρ1[i]? with
      | some (.own ds) => match intOf k with
        | some n => match ixN ds.length n with
          | some m => some (.ok (ρ1.set i (.own (ds.set m d)), .nx))
          | none => none
        | none => none
      | _ => none) ρ1
    | _ => none) := k
  cases hs1 : ρ1[i]? with
  | none => rw [hs1] at k'; exact k'.elim
  | some sl1 =>
    rw [hs1] at k'
    cases sl1 with
    | no => exact k'.elim
    | box _ => exact k'.elim
    | dl _ _ _ => exact k'.elim
    | gst _ _ => exact k'.elim
    | pur d => exact k'.elim
    | own ds0 =>
      obtain ⟨a, vs, h1, h2, h3, h4⟩ := e1.j.own i _ ds0 hs1 rfl
      refine ⟨.ref a, h1, qi G1 ρ1 σ H1 _ e1.j (PostS.imp k' fun G2 ρ2 iv H2 kd e2 r2 k2 => ?_)⟩
      have k2' : PostS X.K E G2 ρ2 σ H2 De (match ρ2[i]? with
        | some (.own ds) => match intOf kd with
          | some n => match ixN ds.length n with
            | some m => some (.ok (ρ2.set i (.own (ds.set m d)), .nx))
            | none => none
          | none => none
        | _ => none) := k2
      cases hs2 : ρ2[i]? with
      | none => rw [hs2] at k2'; exact k2'.elim
      | some sl2 =>
        rw [hs2] at k2'
        cases sl2 with
        | no => exact k2'.elim
        | box _ => exact k2'.elim
        | dl _ _ _ => exact k2'.elim
        | gst _ _ => exact k2'.elim
        | pur d => exact k2'.elim
        | own ds =>
          obtain ⟨a2, vs2, g1, g2, g3, g4⟩ := e2.j.own i _ ds hs2 rfl
          rw [h1] at g1
          cases g1
          cases r2 with
          | int n =>
            simp only [intOf] at k2'
            cases hx : ixN ds.length n with
            | none => simp only [hx] at k2'; exact k2'.elim
            | some m =>
              simp only [hx] at k2'
              exact ⟨a, vs2, n, m, rfl, rfl, g2, by rw [g4.length]; exact hx, k2' G2 σ _ (e2.j.put hs2 h1 (RpAll.set (r1.mono e2.g) m g4))⟩
          | _ => exact k2'.elim
/-- xs.pop(k), xs.pop() as a value -/
def mPop (i : Nat) (f : Mo D) : Mo D := fun ρ => match ρ[i]? with
  | some (.own _) => mBind f (fun k ρ1 => match ρ1[i]? with
    | some (.own ds) => match intOf k with
      | some n => match ixN ds.length n with
        | some m => match ds[m]? with
          | some d => match Nat.blt ds.length 1000000 with
            | true => some (.ok (ρ1.set i (.own (ds.eraseIdx m)), d))
            | false => none
          | none => none
        | none => none
      | none => none
    | _ => none) ρ
  | _ => none
theorem RpAll.erase {K : PySem.W.Frag} {G : Hp} : ∀ {vs : List V} {ds : List D} (n : Nat), RpAll K G vs ds → RpAll K G (vs.eraseIdx n) (ds.eraseIdx n)
  | _, _, _, .nil => .nil
  | _, _, 0, .cons _ t => t
  | _, _, n + 1, .cons h t => .cons h (t.erase n)
theorem ev_pop {i : Nat} {x : Str} {e : Expr} {f : Mo D} {p1 apos cpos : Pos} (h : EV X E e f) (hN : X.N[i]? = some x := by rfl) (hv : Vis X.env.scope x := by first | exact Or.inl rfl | exact Or.inr (Or.inl rfl) | exact Or.inr (Or.inr rfl)) (hd : (x == ("__debug__" : Str)) = false := by decide) (hcd : (x == ("__classdict__" : Str)) = false := by decide)
    (hbase : attributeBase (.Name x p1) "pop" X.env (eval (.Name x p1) X.env) = eval (.Name x p1) X.env := by rfl)
    (hfew : ((backTo cpos (starEach [e] X.env)).all (fun x => !x.1) && (backToKw cpos (keywordEach [] X.env)).all (fun x => x.1.isSome) && decide ([e].length + ([] : List Keyword).length + (if ([] : List Keyword).isEmpty then 0 else 1) < 30)) = true := by rfl)
    (hline : (apos.endLine == cpos.line) = true := by rfl) (hst : starEach [e] X.env = (false, eval e X.env) :: starEach [] X.env := by rfl) (hplain : (backTo cpos (starEach [] X.env)).any (·.1) = false := by rfl) :
    EV X E (.Call (.Attribute (.Name x p1) "pop" apos) [e] [] cpos) (mPop i f) := by
  obtain ⟨t, p, q⟩ := h
  refine ⟨_, pe_bm PySem.F.plainAttrs_list PySem.F.slot_list_pop PySem.F.type_list_pop mt_popAt (pe_var hN hv hd hcd) (pa_cons p pa_nil hst) hbase hfew hline hst hplain, fun G ρ σ H Q j h => ?_⟩
  unfold mPop at h
  cases hs : ρ[i]? with
  | none => rw [hs] at h; exact h.elim
  | some sl =>
    rw [hs] at h
    cases sl with
    | no => exact h.elim
    | box _ => exact h.elim
    | dl _ _ _ => exact h.elim
    | gst _ _ => exact h.elim
    | pur d => exact h.elim
    | own ds0 =>
      obtain ⟨a, vs, h1, h2, h3, h4⟩ := j.own i _ ds0 hs rfl
      refine ⟨.ref a, h1, .inl ⟨rfl, vs, .of h2⟩, q G ρ σ H _ j (Post.imp h fun G1 ρ1 y H1 k e1 r1 h5 => ?_)⟩
      have k' : Post X.K E (Rp X.K) G1 ρ1 σ H1 Q (match ρ1[i]? with
        | some (.own ds) => match intOf k with
          | some n => match ixN ds.length n with
            | some m => match ds[m]? with
              | some d => match Nat.blt ds.length 1000000 with
                | true => some (.ok (ρ1.set i (.own (ds.eraseIdx m)), d))
                | false => none
              | none => none
            | none => none
          | none => none
        | _ => none) := h5
      cases hs1 : ρ1[i]? with
      | none => rw [hs1] at k'; exact k'.elim
      | some sl1 =>
        rw [hs1] at k'
        cases sl1 with
        | no => exact k'.elim
        | box _ => exact k'.elim
        | dl _ _ _ => exact k'.elim
        | gst _ _ => exact k'.elim
        | pur d => exact k'.elim
        | own ds =>
          obtain ⟨a1, vs1, g1, g2, g3, g4⟩ := e1.j.own i _ ds hs1 rfl
          rw [h1] at g1
          cases g1
          cases r1 with
          | int n =>
            simp only [intOf] at k'
            cases hx : ixN ds.length n with
            | none => simp only [hx] at k'; exact k'.elim
            | some m =>
              simp only [hx] at k'
              cases hd : ds[m]? with
              | none => simp only [hd] at k'; exact k'.elim
              | some d =>
                simp only [hd] at k'
                cases hb : Nat.blt ds.length 1000000 with
                | false => simp only [hb] at k'; exact k'.elim
                | true =>
                  simp only [hb] at k'
                  have hlt : ds.length < 1000000 := by
                    unfold Nat.blt at hb
                    exact Nat.le_of_ble_eq_true hb
                  obtain ⟨v, y1, y2⟩ := g4.get hd
                  obtain ⟨x1, x2, x3, x4⟩ := ixN_seq hx
                  refine ⟨a, vs1, n, m, v, rfl, rfl, g2, by omega, by omega, by rw [g4.length]; exact x1, y1, ?_⟩
                  exact k' G1 v _ (e1.j.put hs1 h1 (g4.erase m)) y2
          | _ => exact k'.elim
/-- xs[e], len(xs) of a list of the def's own -/
def mIxO (i : Nat) (f : Mo D) : Mo D := fun ρ => match ρ[i]? with
  | some (.own _) => mBind f (fun k ρ1 => match ρ1[i]? with
    | some (.own ds) => mLift (ixD (.list ds) k) ρ1
    | _ => none) ρ
  | some (.pur d) => mBind f (fun k => mLift (ixD d k)) ρ
  | _ => none
theorem ev_ixO {i : Nat} {x : Str} {e : Expr} {f : Mo D} {p1 pos : Pos} (h : EV X E e f) (hN : X.N[i]? = some x := by rfl) (hv : Vis X.env.scope x := by first | exact Or.inl rfl | exact Or.inr (Or.inl rfl) | exact Or.inr (Or.inr rfl)) (hd : (x == ("__debug__" : Str)) = false := by decide) (hcd : (x == ("__classdict__" : Str)) = false := by decide)
    (hs : PlainIx e := by exact fun _ _ => rfl) : EV X E (.Subscript (.Name x p1) e pos) (mIxO i f) := by
  obtain ⟨t, p, q⟩ := h
  refine ⟨_, pe_ix ix_seq (pe_var hN hv hd hcd) p hs, fun G ρ σ H Q j h => ?_⟩
  unfold mIxO at h
  cases hs : ρ[i]? with
  | none => rw [hs] at h; exact h.elim
  | some sl =>
    rw [hs] at h
    cases sl with
    | no => exact h.elim
    | box _ => exact h.elim
    | dl _ _ _ => exact h.elim
    | gst _ _ => exact h.elim
    | pur d =>
      obtain ⟨v, h1, h2⟩ := j.pur i d hs
      refine ⟨v, h1, q G ρ σ H _ j (Post.imp h fun G1 ρ1 y H1 k e1 r1 h5 => ?_)⟩
      obtain ⟨c, hc, kk⟩ := Post.lift (ρ' := ρ1) h5
      exact ix_sem e1.j.sub (h2.mono e1.g) r1 hc fun v r => kk G1 v H1 e1.j.refl r
    | own ds0 =>
      obtain ⟨a, vs, h1, h2, h3, h4⟩ := j.own i _ ds0 hs rfl
      refine ⟨.ref a, h1, q G ρ σ H _ j (Post.imp h fun G1 ρ1 y H1 k e1 r1 h5 => ?_)⟩
      have k' : Post X.K E (Rp X.K) G1 ρ1 σ H1 Q (match ρ1[i]? with
        | some (.own ds) => mLift (ixD (.list ds) k) ρ1
        | _ => none) := h5
      cases hs1 : ρ1[i]? with
      | none => rw [hs1] at k'; exact k'.elim
      | some sl1 =>
        rw [hs1] at k'
        cases sl1 with
        | no => exact k'.elim
        | box _ => exact k'.elim
        | dl _ _ _ => exact k'.elim
        | gst _ _ => exact k'.elim
        | pur d => exact k'.elim
        | own ds =>
          obtain ⟨c, hc, kk⟩ := Post.lift (ρ' := ρ1) k'
          obtain ⟨a1, vs1, g1, g2, g3, g4⟩ := e1.j.own i _ ds hs1 rfl
          rw [h1] at g1
          cases g1
          cases r1 with
          | int n =>
            obtain ⟨v, q1, q2⟩ := g4.atI hc
            exact .inl ⟨_, _, _, _, rfl, rfl, .of g2, q1, kk G1 v H1 e1.j.refl q2⟩
          | _ => cases hc
def mLenO (i : Nat) : Mo D := fun ρ => match ρ[i]? with
  | some (.own ds) => some (.ok (ρ, .int ds.length))
  | some (.pur d) => mLift (lenD [d]) ρ
  | _ => none
theorem ev_lenO {i : Nat} {x : Str} {p1 p pos : Pos} (hm : X.mg "len" = none) (hN : X.N[i]? = some x := by rfl) (hv : Vis X.env.scope x := by first | exact Or.inl rfl | exact Or.inr (Or.inl rfl) | exact Or.inr (Or.inr rfl)) (hd : (x == ("__debug__" : Str)) = false := by decide) (hcd : (x == ("__classdict__" : Str)) = false := by decide)
    (hg : Gl X "len" := by rfl) (he : starEach [.Name x p1] X.env = (false, eval (.Name x p1) X.env) :: starEach [] X.env := by rfl) (hpl : (backTo pos (starEach [] X.env)).any (·.1) = false := by rfl) : EV X E (.Call (.Name "len" p) [.Name x p1] [] pos) (mLenO i) := by
  refine ⟨_, pe_callB call_len hg hm boot_len (pa_cons (pe_var hN hv hd hcd) pa_nil he) (by decide) (by decide) he hpl, fun G ρ σ H Q j h => ?_⟩
  unfold mLenO at h
  cases hs : ρ[i]? with
  | none => rw [hs] at h; exact h.elim
  | some sl =>
    rw [hs] at h
    cases sl with
    | no => exact h.elim
    | box _ => exact h.elim
    | dl _ _ _ => exact h.elim
    | gst _ _ => exact h.elim
    | own ds =>
      obtain ⟨a, vs, h1, h2, h3, h4⟩ := j.own i _ ds hs rfl
      exact ⟨.ref a, h1, _, ds.length, rfl, .inl ⟨_, .of h2, h4.length.symm⟩, h G _ H j.refl (.int _)⟩
    | pur d =>
      obtain ⟨v, h1, h2⟩ := j.pur i d hs
      refine ⟨v, h1, ?_⟩
      obtain ⟨c, hc, kk⟩ := Post.lift (ρ' := ρ) h
      cases h2 with
      | lst z1 z2 => cases hc; exact ⟨_, _, rfl, .inl ⟨_, .of (j.sub _ _ z1), z2.length.symm⟩, kk G _ H j.refl (.int _)⟩
      | tup z1 z2 => cases hc; exact ⟨_, _, rfl, .inr ⟨_, sqT_mono j.sub z1.t, z2.length.symm⟩, kk G _ H j.refl (.int _)⟩
      | frz z1 z2 => cases hc; exact ⟨_, _, rfl, .inl ⟨_, j.sub.seq z1, z2.length.symm⟩, kk G _ H j.refl (.int _)⟩
      | str z =>
        obtain ⟨h5, rfl⟩ := ite_some (show (if z.length ≤ 1000000 then some (PyData.int z.length) else none) = some c from hc)
        exact ⟨_, _, rfl, ⟨line_of h5, rfl⟩, kk G _ H j.refl (.int _)⟩
      | obj z1 z2 => cases hc
      | _ => cases hc
end
end HB
namespace HB
open PySem L2
/-- t: a list, else a tuple -/
def SIs (t : Bool) (h : Heap) (l : Addr) (its : Array Value) : Prop := match t with
  | true => h.IsList l its
  | false => h.IsTuple l its
def SIt (t : Bool) (h : Heap) (it l : Addr) (i : Nat) : Prop := match t with
  | true => h.IsListIter it l i
  | false => h.IsTupleIter it l i
def itObj (t : Bool) (l : Addr) : Obj := match t with
  | true => { cls := .type "list_iterator", data := .fields #[.ref l, .int 0 0] }
  | false => { cls := .type "tuple_iterator", data := .fields #[.ref l, .int 0 0] }
def SqB (K : PySem.W.Frag) (t : Bool) (H : Hp) (a : Addr) (xs : List V) : Prop := match t with
  | true => SqL K H a xs
  | false => SqT K H a xs
section
variable {prog : Program} {w : World} {A : Around} {E : Value → Shared → Prop} {s : Shared} {t t1 t2 : Bool}
theorem SIt.ext {h h' : Heap} {it l b : Addr} {i : Nat} (x : SIt t h it l i) (e : Heap.ExtBut b h h') (n : it ≠ b) : SIt t h' it l i := by
  cases t
  · exact Heap.IsTupleIter.extBut x e n
  · exact Heap.IsListIter.extBut x e n
theorem SIt.at {h h' : Heap} {it l : Addr} {i : Nat} (x : SIt t h it l i) (e : ∀ o, h.get? it = some o → h'.get? it = some o) : SIt t h' it l i := by
  cases t
  · exact Heap.IsTupleIter.at x e
  · exact Heap.IsListIter.at x e
theorem SIs.ext {h h' : Heap} {l b : Addr} {its : Array Value} (x : SIs t h l its) (e : Heap.ExtBut b h h') (n : l ≠ b) : SIs t h' l its := by
  cases t
  · exact Heap.IsTuple.extBut x e n
  · exact Heap.IsList.extBut x e n
theorem SIs.lt {h : Heap} {l : Addr} {its : Array Value} (x : SIs t h l its) : l < h.objs.size := by
  cases t
  · obtain ⟨o, e, _⟩ := (show h.IsTuple l its from x)
    exact Heap.lt_size e
  · obtain ⟨o, e, _⟩ := (show h.IsList l its from x)
    exact Heap.lt_size e
theorem SIt.obj {h : Heap} {it l : Addr} {i : Nat} (x : SIt t h it l i) : ∃ o, h.get? it = some o ∧ ∀ v, o.data ≠ .cell v := by
  cases t
  · obtain ⟨o, e, _, d⟩ := (show h.IsTupleIter it l i from x)
    exact ⟨o, e, fun v q => by rw [d] at q; cases q⟩
  · obtain ⟨o, e, _, d⟩ := (show h.IsListIter it l i from x)
    exact ⟨o, e, fun v q => by rw [d] at q; cases q⟩
theorem nx_end {it l : Addr} {i : Nat} {its : Array Value} {Q : Value → Shared → Prop} (hh : A.handled = none) (hit : SIt t s.heap it l i) (hl : SIs t s.heap l its) (hx : its[i]? = none)
    (k : ∀ h' e, Heap.ExtBut it s.heap h' → (∃ o, h'.get? e = some o ∧ o.cls = .type "StopIteration") → E (.ref e) { s with heap := h' }) : wpAny (model prog w) A (Builtin.SmallTypes.nextOf (.ref it)) Q E s := by
  cases t
  · exact RZ.nextOf_tuple_end hh hit hl hx k
  · exact wpAny_nextOf_list_end hh hit hl hx k
/-- the zip object; b: strict -/
def IsZipB (b : Bool) (h : Heap) (z TI TO : Addr) (f0 : Value) : Prop := h.get? z = some { cls := .type "zip", data := .fields #[f0, .bool false, .bool b, .ref TI, .ref TO] }
section
variable {b : Bool} {z TI TO : Addr} {f0 : Value} {Q : Value → Shared → Prop}
theorem z2 (hz : IsZipB b s.heap z TI TO f0) (k : Q (.bool b) s) : wpAny (model prog w) A (field (.ref z) 2) Q E s := wpAny_field hz rfl rfl k
theorem z3 (hz : IsZipB b s.heap z TI TO f0) (k : Q (.ref TI) s) : wpAny (model prog w) A (field (.ref z) 3) Q E s := wpAny_field hz rfl rfl k
theorem z4 (hz : IsZipB b s.heap z TI TO f0) (k : Q (.ref TO) s) : wpAny (model prog w) A (field (.ref z) 4) Q E s := wpAny_field hz rfl rfl k
end
theorem SIs.push {h : Heap} {l : Addr} {its : Array Value} (x : SIs t h l its) (o : Obj) : SIs t (h.push o) l its := x.ext (b := h.objs.size) (fun b ob _ e => Heap.get?_push_of_some _ e) (Nat.ne_of_lt x.lt)
end
section
variable {X : Cx} {pins : List (Addr × Obj)} {σ : St} {H : Hp} {s : Shared} {t t1 t2 : Bool}
theorem inv_sqB {a : Addr} {xs : List V} (I : Inv X pins σ H s) (h : SqB X.K t H a xs) : ∃ its : List Value, Vals xs its ∧ SIs t s.heap a its.toArray ∧ xs.length ≤ sizeLine := by
  cases t
  · obtain ⟨its, r, p, z⟩ := I.tuple h
    exact ⟨its, r, p, z⟩
  · obtain ⟨its, r, p, z⟩ := I.list h
    exact ⟨its, r, p.isList, z⟩
theorem inv_sqB_inj {a : Addr} {xs ys : List V} (I : Inv X pins σ H s) (h : SqB X.K t H a xs) (h' : SqB X.K t H a ys) : xs = ys := by
  cases t
  · exact I.tuple_inj h h'
  · exact I.list_inj h h'
theorem SqB.mono {K : PySem.W.Frag} {H H' : Hp} {a : Addr} {xs : List V} (s : Same H H') (h : SqB K t H a xs) : SqB K t H' a xs := by
  cases t
  · exact sqT_mono s h
  · exact s.seq h
end
section
variable {X : Cx} {E : XK}
theorem Rp.itemsB {K : PySem.W.Frag} {G : Hp} {v : V} {d : D} {ds : List D} (r : Rp K G v d) (h : itemsD d = some ds) : ∃ p xs t, v = .ref p ∧ SqB K t G p xs ∧ RpAll K G xs ds := by
  obtain ⟨p, xs, e, s, a⟩ := r.items h
  rcases s with s | s
  · exact ⟨p, xs, false, e, s, a⟩
  · exact ⟨p, xs, true, e, s, a⟩
end
end HB
namespace HB
open PySem L2
section
variable {prog : Program} {w : World} {A : Around} {E : Value → Shared → Prop} {s : Shared} {t : Bool}
theorem enum_item {e it l : Addr} {i : Nat} {its : Array Value} {x old : Value} {Q : Option Value → Shared → Prop} (hh : A.handled = none) (he : IsEnum s.heap e it i old) (hit : SIt t s.heap it l i) (hl : SIs t s.heap l its) (hx : its[i]? = some x) (hne : e ≠ it) (hel : e ≠ l) (hil : l ≠ it)
    (k : ∀ h' tk, IsEnumOut h' e it ((i : Int) + 1) x s.heap.objs.size → SIt t h' it l (i + 1) → h'.get? s.heap.objs.size = some { cls := .type "tuple", data := .seq #[.int i tk, x] } → h'.objs.size = s.heap.objs.size + 1 →
      (∀ b o, b ≠ e → b ≠ it → s.heap.get? b = some o → h'.get? b = some o) → Q (some (.ref s.heap.objs.size)) { s with heap := h', toks := tk + 1 }) : wpAny (model prog w) A (pyNext (.ref e)) Q E s := by
  have hlt : i < its.size := (Array.getElem?_eq_some_iff.mp hx).1
  have hef : e ∉ [it, l] := by simp [hne, hel]
  cases t
  · refine wpAny_pyNext_enum_itemD (Draws.tuple (A := A.in1) hh it l hil its) he ⟨hit, hl⟩ hlt hne hef fun y h' tk a b c d f g => ?_
    have e1 := Option.some.inj (hx.symm.trans a)
    subst e1
    exact k h' tk b c.1 d f g
  · refine wpAny_pyNext_enum_itemD (Draws.list (A := A.in1) hh it l hil its) he ⟨hit, hl⟩ hlt hne hef fun y h' tk a b c d f g => ?_
    have e1 := Option.some.inj (hx.symm.trans a)
    subst e1
    exact k h' tk b c.1 d f g
theorem SIs.at {h h' : Heap} {l : Addr} {its : Array Value} (x : SIs t h l its) (e : ∀ o, h.get? l = some o → h'.get? l = some o) : SIs t h' l its := by
  cases t
  · exact Heap.IsTuple.at x e
  · exact Heap.IsList.at x e
/-- an iterator at its end draws nothing -/
theorem drawsEnd {it l : Addr} {i : Nat} {its : Array Value} (hh : A.handled = none) (hx : its[i]? = none) : Draws prog w A it [it, l] 0 (fun _ _ => False) (fun _ h => SIt t h it l i ∧ SIs t h l its) where
  live := fun _ _ st => let ⟨o, e, _⟩ := st.1.obj; ⟨o, e⟩
  frame := fun _ _ _ st k => ⟨st.1.at (k it (by simp)), st.2.at (k l (by simp))⟩
  item := fun _ _ _ _ no => absurd no (Nat.not_lt_zero _)
  done := fun _ _ _ st k => nx_end hh st.1 st.2 hx k
theorem enum_end {e it l : Addr} {i : Nat} {c : Int} {its : Array Value} {old : Value} {Q : Option Value → Shared → Prop} (hh : A.handled = none) (he : IsEnum s.heap e it c old) (hit : SIt t s.heap it l i) (hl : SIs t s.heap l its) (hx : its[i]? = none)
    (k : ∀ h', Heap.ExtBut it s.heap h' → Q none { s with heap := h' }) : wpAny (model prog w) A (pyNext (.ref e)) Q E s := by
  exact wpAny_pyNext_enum_endD (drawsEnd (A := A.in1) hh hx) he ⟨hit, hl⟩ k
end
theorem meets_enumT (l : Addr) (its : Array Value) :
    Meets (Builtin.«enumerate.__new__» ⟨[.type "enumerate", .ref l], []⟩) (fun _ R s => s.heap.IsTuple l its ∧
      R (.ok (.ret (.ref (s.heap.push (itObj false l)).objs.size))) { s with heap := (s.heap.push (itObj false l)).push { cls := .type "enumerate", data := .fields #[.none, .bool false, .ref s.heap.objs.size, rawInt 0, .none, .none] } }) :=
  .of_wp fun prog w A R ⟨hp, g, d, tk, os⟩ ⟨a, h⟩ => by
    have hsub := F.called_enumerate.sub
    have b : Heap.IsTuple (Shared.heap ⟨hp, g, d, tk, os⟩) l its := a
    obtain ⟨ol, ho, hc, n, hd⟩ := id a
    wp_walk using AutoSeq1.wpAny_loadPart' ho
    apply wpAny_stack_any
    intro st
    apply wpAny_pure
    split
    · rename_i c _ _ _ _ _
      rcases Bool.eq_false_or_eq_true (c == Value.type "enumerate") with yes | yes <;> rw [yes]
      · wp_walk using AutoSeq1.wpAny_loadPart' ho, wpAny_pyIter_tuple b
        exact ⟨_, rfl, h⟩
      · wp_walk using AutoSeq1.wpAny_loadPart' ho, wpAny_pyIter_tuple b
        exact ⟨_, rfl, h⟩
    · wp_walk using AutoSeq1.wpAny_loadPart' ho, wpAny_pyIter_tuple b
      exact ⟨_, rfl, h⟩
section
variable {prog : Program} {w : World} {A : Around} {E : Value → Shared → Prop} {s : Shared} {t : Bool}
theorem call_enumB {l : Addr} {its : Array Value} {Q : Value → Shared → Prop} (hl : SIs t s.heap l its)
    (k : ∀ h', IsEnum h' (s.heap.objs.size + 1) s.heap.objs.size 0 .none → SIt t h' s.heap.objs.size l 0 → (∀ b o, s.heap.get? b = some o → h'.get? b = some o) → Q (.ref (s.heap.objs.size + 1)) { s with heap := h' }) : wpAny (model prog w) A (call (.type "enumerate") [.ref l]) Q E s := by
  cases t
  · refine callType_new F.called_enumerate (by decide) (F.typeCall_enumerate_1 _) (F.newCall_enumerate_1 _) (fun obj => F.args_object_init_2 obj _) F.entry_enumerate_new (meets_enumT l its) ⟨hl, ?_⟩
    have hz : (s.heap.push (itObj false l)).objs.size = s.heap.objs.size + 1 := Heap.size_push ..
    have he := Heap.get?_push_size (s.heap.push (itObj false l)) (o := { cls := .type "enumerate", data := .fields #[.none, .bool false, .ref s.heap.objs.size, rawInt 0, .none, .none] }) rfl
    show _ ∧ _
    rw [hz] at he ⊢
    exact ⟨⟨_, he, rfl⟩, k _ he ⟨_, Heap.get?_push_of_some _ (Heap.get?_push_size _ rfl), rfl, rfl⟩ fun b o x => Heap.get?_push_of_some _ (Heap.get?_push_of_some _ x)⟩
  · exact call_enumerate_list hl fun h' a b _ d => k h' a b d
end
def ItEn (K : PySem.W.Frag) (t : Bool) (a : Addr) : It :=
  ⟨fun i H => ∃ (xs : List V) (x : V), SqB K t H a xs ∧ xs[i]? = some x, fun i H v H' => ∃ T x o, v = .ref T ∧ H T = none ∧ o.dict = none ∧ H' = upd H T (.frz o (.tup [.int (i : Nat), x])) ∧ ∀ xs, SqB K t H a xs → xs[i]? = some x, fun i H => ∃ xs : List V, SqB K t H a xs ∧ xs.length ≤ i⟩
/-- how an enumerate stands ahead of its turn i -/
structure EnSt (t : Bool) (a e it : Addr) (i : Nat) (h : Heap) : Prop where
  en : ∃ old, IsEnum h e it ((i : Nat) : Int) old
  l : SIt t h it a i
theorem EnSt.all {t : Bool} {a e it : Addr} {i : Nat} {h : Heap} (q : EnSt t a e it i h) : ∀ c ∈ [e, it], ∃ o, h.get? c = some o ∧ ∀ v, o.data ≠ .cell v := by
  obtain ⟨old, he⟩ := q.en
  simp only [List.mem_cons, List.not_mem_nil, or_false, forall_eq_or_imp, forall_eq]
  exact ⟨⟨_, he, fun v z => nomatch z⟩, q.l.obj⟩
theorem EnSt.lt {t : Bool} {a e it c : Addr} {i : Nat} {h : Heap} (q : EnSt t a e it i h) (hc : c ∈ [e, it]) : c < h.objs.size := let ⟨_, z, _⟩ := q.all c hc; Heap.lt_size z
theorem turn_enumB {P : Program} {w : World} {K : PySem.W.Frag} {t : Bool} {elts : List Expr} {kk : Nat} {tpos : Pos} {a e it : Addr} (hne : e ≠ it) (hel : e ≠ a) (hil : a ≠ it) :
    Turn P w K (.Tuple elts kk tpos) (ItEn K t a) [e, it] e (EnSt t a e it) where
  mem := by simp
  obj := fun i h q => q.all
  keep := fun i h h' q k => ⟨let ⟨old, he⟩ := q.en; ⟨old, k e (by simp) _ he⟩, q.l.at fun o z => k it (by simp) o z⟩
  item := by
    intro X hP hw hK hc i pins s σ H E I hf q ⟨xs, x, hq, hx⟩
    subst hP hw hK
    obtain ⟨old, he⟩ := q.en
    have ⟨its, rv, p, hz⟩ := inv_sqB I hq
    have ⟨u, hu, ru⟩ := rv.get hx
    refine enum_item (I.ok.hd hc) he q.l p (x := u) (by simpa using hu) hne hel hil fun h' tk ho hit' hT hsz hk => ⟨_, rfl, ?_⟩
    refine wpAny_letOwnedTupleGo_enum (s := { s with heap := h', toks := tk + 1 }) ho fun g he' sb => ?_
    have same : ∀ c o, c ∉ [e, it] → s.heap.get? c = some o → g.get? c = some o := fun c o hb z => by
      simp only [List.mem_cons, List.not_mem_nil, or_false, not_or] at hb
      exact (sb.2 c hb.1).trans (hk c o hb.1 hb.2 z)
    have pr := (sb.2 _ (Nat.ne_of_gt (q.lt (by simp)))).trans hT
    have nw : ObjOk X.prog X.w (upd H s.heap.objs.size (.frz (tupO [.int i tk, u]) (.tup [.int (i : Nat), x]))) g s.heap.objs.size (.frz (tupO [.int i tk, u]) (.tup [.int (i : Nat), x])) := ⟨pr, by show 2 ≤ sizeLine; decide, [.int i tk, u], .cons ⟨_, rfl⟩ (.cons ru .nil), ⟨_, pr, rfl, _, rfl⟩⟩
    refine ⟨.ref s.heap.objs.size, _, I.turnedNew (t' := tk + 1) (ch := [e, it]) same hf (Nat.le_refl _) nw, rfl, ⟨_, x, _, rfl, I.hok.fresh (Nat.le_refl _), rfl, rfl, fun ys hy => by rw [inv_sqB_inj I hy hq]; exact hx⟩, ⟨⟨u, by rw [Int.natCast_succ]; exact he'⟩, hit'.at fun o z => (sb.2 it (Ne.symm hne)).trans z⟩, fun c hcm => ?_⟩
    exact (upd_ne (Nat.ne_of_lt (q.lt hcm))).trans (hf c hcm).1
  done := by
    intro X hP hw hK hc i pins s σ H E I hf q ⟨xs, hq, hx⟩
    subst hP hw hK
    obtain ⟨old, he⟩ := q.en
    have ⟨its, rv, p, hz⟩ := inv_sqB I hq
    have fi := hf it (by simp)
    have hl := rv.length
    exact enum_end (I.ok.hd hc) he q.l p (by simp; omega) fun h' eb => ⟨rfl, I.turned (t' := s.toks) (fun b o hb z => eb b o hb z) fi.1 fi.2.1 fi.2.2.2.1 fi.2.2.2.2.1 fi.2.2.2.2.2⟩
  self := fun A i s Q E st h => let ⟨_, he⟩ := st.en; wpAny_pyIter_enum he h
def enumD (n : Nat) : List D → List D
  | [] => []
  | d :: ds => .tuple [.int n, d] :: enumD (n + 1) ds
theorem enumD_get : ∀ (ds : List D) (n i : Nat) (d : D), (enumD n ds)[i]? = some d → ∃ x, ds[i]? = some x ∧ d = .tuple [.int ((n + i : Nat) : Int), x]
  | [], _, _, _, h => by simp [enumD] at h
  | x :: ds, n, 0, d, h => ⟨x, rfl, by cases h; rfl⟩
  | x :: ds, n, i + 1, d, h => by
    obtain ⟨y, h1, h2⟩ := enumD_get ds (n + 1) i d h
    exact ⟨y, h1, by rw [h2]; have e : n + 1 + i = n + (i + 1) := by omega
                     rw [e]⟩
theorem enumD_len : ∀ (ds : List D) (n : Nat), (enumD n ds).length = ds.length
  | [], _ => rfl
  | _ :: ds, n => congrArg (· + 1) (enumD_len ds (n + 1))
section
variable {X : Cx} {E : XK}
def iEnumB (K : PySem.W.Frag) (ta : TA) : TI := fun σ H R => ta σ H fun vs H1 => ∃ a xs t, vs = [.ref a] ∧ SqB K t H1 a xs ∧ R (ItEn K t a) H1
theorem pi_enumB {e : Expr} {ta : TA} {p pos tpos : Pos} {elts : List Expr} {kk : Nat} (hg : Gl X "enumerate") (hm : X.mg "enumerate" = none) (ha : PA X [e] ta) (hs : starEach [e] X.env = (false, eval e X.env) :: starEach [] X.env := by rfl) (hpl : (backTo pos (starEach [] X.env)).any (·.1) = false := by rfl) :
    PI X (.Tuple elts kk tpos) (.Call (.Name "enumerate" p) [e] [] pos) (iEnumB X.K ta) := by
  refine PI.mk fun pins s σ H R I h => ?_
  refine PyProof.Rows.Call_ (ld_blt I hg hm PyProof.Rows.boot_enumerate (PyProof.Rows.callWith_type1 (thn (ha.run pos pins s σ H _ I h) fun us s1 ⟨vs, H1, I1, r1, q1⟩ => ?_) hs hpl))
  obtain ⟨a, xs, t, rfl, hq, q⟩ := q1
  cases r1 with
  | cons r rr =>
    cases rr
    cases r
    obtain ⟨its, rv, p', hz⟩ := inv_sqB I1 hq
    refine call_enumB p' fun h' he hit hk => wpAny_pyIter_enum he ?_
    refine ⟨s1.heap.objs.size + 1, [s1.heap.objs.size + 1, s1.heap.objs.size], _, _, H1, rfl, I1.kept (t' := s1.toks) hk, turn_enumB (Nat.succ_ne_self _) (Nat.ne_of_gt (Nat.lt_succ_of_lt p'.lt)) (Nat.ne_of_lt p'.lt), ⟨⟨.none, he⟩, hit⟩, fun c hcm => ?_, q⟩
    have up : s1.heap.objs.size ≤ c := by
      simp only [List.mem_cons, List.not_mem_nil, or_false] at hcm
      rcases hcm with z | z <;> rw [z] <;> first | exact Nat.le_refl _ | exact Nat.le_add_right _ _
    exact I1.fpOk up (I1.hok.fresh up)
theorem enum_ok {K : PySem.W.Frag} {G : Hp} {σ : St} {t : Bool} {a : Addr} {xs : List V} {ds : List D} {js : List Nat} (h : SqB K t G a xs) (r : RpAll K G xs ds) : ItOk K G σ (ItEn K t a) (constS (enumD 0 ds)) js := by
  intro i G2 ρ2 σ2 H2 items sg j _ e
  cases e
  have hs : SqB K t H2 a xs := (h.mono sg).mono j.sub
  refine ⟨fun d hd => ?_, fun hi => ⟨xs, hs, by rw [r.length]; rw [enumD_len] at hi; exact hi⟩⟩
  obtain ⟨x, hx, rfl⟩ := enumD_get ds 0 i d hd
  obtain ⟨v, h1, h2⟩ := r.get hx
  refine ⟨⟨xs, v, hs, h1⟩, fun z H3 y => ?_⟩
  obtain ⟨T, x', o, rfl, hT, nd, rfl, y⟩ := y
  have e := Option.some.inj ((y xs hs).symm.trans h1)
  subst e
  have px : PX G2 H2 _ _ := .alloc j.sub hT (.frz o (.tup [.int (i : Nat), x']))
  exact ⟨_, px, .tup (.new nd) (.cons (by rw [Nat.zero_add]; exact .int _) (.cons ((h2.mono sg).mono px.g) .nil))⟩
def mEnum (f : Mo D) : Mo Src := mBind f fun d => mLift ((itemsD d).map fun ds => constS (enumD 0 ds))
theorem iv_enum {e : Expr} {f : Mo D} {p pos tpos : Pos} {elts : List Expr} {kk : Nat} (hm : X.mg "enumerate" = none) (h : EV X E e f) (hg : Gl X "enumerate" := by rfl) (hs : starEach [e] X.env = (false, eval e X.env) :: starEach [] X.env := by rfl) (hpl : (backTo pos (starEach [] X.env)).any (·.1) = false := by rfl) :
    IV X E (.Tuple elts kk tpos) (.Call (.Name "enumerate" p) [e] [] pos) (mEnum f) [] := by
  obtain ⟨t, pt, q⟩ := h
  refine ⟨_, pi_enumB hg hm (pa_cons pt pa_nil hs) hs hpl, fun G ρ σ H R j h => q G ρ σ H _ j (PostI.imp h fun G1 ρ1 v H1 d e1 r1 h1 => ?_)⟩
  obtain ⟨src, hsr, k⟩ := PostI.lift h1
  cases hi : itemsD d with
  | none => rw [hi] at hsr; cases hsr
  | some ds =>
    rw [hi] at hsr
    cases hsr
    obtain ⟨p0, xs, t, rfl, s0, r0⟩ := r1.itemsB hi
    exact ⟨p0, xs, t, rfl, s0.mono e1.j.sub, k G1 H1 _ e1.j.refl (enum_ok s0 r0)⟩
theorem const_enum {f : Mo D} : ∀ ρ ρ' s, mEnum f ρ = some (.ok (ρ', s)) → Const s := by
  intro ρ ρ' s h
  unfold mEnum mBind mLift at h
  cases e : f ρ with
  | none => simp only [e] at h; cases h
  | some o =>
    cases o with
    | error x => simp only [e] at h; cases h
    | ok p =>
      obtain ⟨ρ1, d⟩ := p
      simp only [e] at h
      cases hi : itemsD d with
      | none => simp only [hi, Option.map] at h; cases h
      | some ds =>
        simp only [hi, Option.map] at h
        cases h
        exact fun _ => rfl
inductive Tm where
  | p (d : D)
  | o (ds : List D)
/-- new lists among them are nobody else's, and apart -/
def RT (K : PySem.W.Frag) (H0 G H : Hp) (ρ : En) (σ : St) : List V → List Tm → Prop
  | [], [] => True
  | v :: vs, .p d :: ts => Rp K G v d ∧ RT K H0 G H ρ σ vs ts
  | v :: vs, .o ds :: ts => (∃ a us, v = .ref a ∧ H0 a = none ∧ G a = none ∧ H a = some (.lst us) ∧ ¬ Ownd ρ σ a ∧ RpAll K G us ds ∧ ∀ (i : Nat) es, ts[i]? = some (.o es) → vs[i]? ≠ some (.ref a)) ∧ RT K H0 G H ρ σ vs ts
  | _, _ => False
def PostX (K : PySem.W.Frag) (E : XK) (G : Hp) (ρ : En) (σ : St) (H : Hp) (Q : List V → Hp → Prop) : Option (Except Exn (En × List Tm)) → Prop
  | none => False
  | some (.error x) => ∀ C dx H', XP K G ρ σ H x C dx H' → E C dx H'
  | some (.ok (ρ', ts)) => ∀ G' vs H', Ex K G ρ σ H G' ρ' σ H' → RT K H G' H' ρ' σ vs ts → Q vs H'
def EX (X : Cx) (E : XK) (es : List Expr) (f : Mo (List Tm)) : Prop := ∃ t, PA X es t ∧ ∀ G ρ σ H Q, J X.K G ρ σ H → PostX X.K E G ρ σ H Q (f ρ) → t σ H Q
def xNil : Mo (List Tm) := mRet []
def xConsP (a : Mo D) (r : Mo (List Tm)) : Mo (List Tm) := mBind a fun d => mBind r fun ts => mRet (.p d :: ts)
def xConsO (a : Mo (List D)) (r : Mo (List Tm)) : Mo (List Tm) := mBind a fun ds => mBind r fun ts => mRet (.o ds :: ts)
theorem ex_nil : EX X E [] xNil := ⟨_, pa_nil, fun G ρ σ H Q j h => h G [] H j.refl trivial⟩
theorem RT.dom {K : PySem.W.Frag} {H0 H1 G H : Hp} {ρ : En} {σ : St} (d : ∀ a, H1 a = none → H0 a = none) : ∀ {vs : List V} {ts : List Tm}, RT K H1 G H ρ σ vs ts → RT K H0 G H ρ σ vs ts
  | [], [], _ => trivial
  | v :: vs, .p e :: ts, h => ⟨h.1, RT.dom d h.2⟩
  | v :: vs, .o es :: ts, h => by
    obtain ⟨⟨a, us, h1, h2, h3⟩, h4⟩ := h
    exact ⟨⟨a, us, h1, d a h2, h3⟩, RT.dom d h4⟩
theorem RT.fresh {K : PySem.W.Frag} {H0 G H : Hp} {ρ : En} {σ : St} : ∀ {vs : List V} {ts : List Tm} (i : Nat) {es : List D} {b : Addr}, RT K H0 G H ρ σ vs ts → ts[i]? = some (.o es) → vs[i]? = some (.ref b) → H0 b = none
  | [], [], _, _, _, _, h, _ => by simp at h
  | v :: vs, .p e :: ts, 0, _, _, _, h, _ => by cases h
  | v :: vs, .p e :: ts, i + 1, _, _, h, h1, h2 => RT.fresh i h.2 h1 h2
  | v :: vs, .o e :: ts, 0, _, b, h, h1, h2 => by
    obtain ⟨⟨a, us, z1, z2, _⟩, _⟩ := h
    have e2 : v = .ref b := Option.some.inj h2
    rw [e2] at z1
    cases z1
    exact z2
  | v :: vs, .o e :: ts, i + 1, _, _, h, h1, h2 => RT.fresh i h.2 h1 h2
theorem ex_consP {e : Expr} {es : List Expr} {f : Mo D} {g : Mo (List Tm)} (h : EV X E e f) (hr : EX X E es g) (hs : starEach (e :: es) X.env = (false, eval e X.env) :: starEach es X.env := by rfl) : EX X E (e :: es) (xConsP f g) := by
  obtain ⟨t, p, q⟩ := h
  obtain ⟨t2, p2, q2⟩ := hr
  refine ⟨_, pa_cons p p2 hs, fun G ρ σ H Q j h => q G ρ σ H _ j ?_⟩
  unfold xConsP mBind at h
  cases h1 : f ρ with
  | none => simp only [h1] at h; exact h
  | some r1 =>
    cases r1 with
    | error x => simp only [h1] at h; exact h
    | ok pr =>
      obtain ⟨ρ1, d⟩ := pr
      simp only [h1] at h
      intro G1 v H1 e1 rv
      refine q2 G1 ρ1 σ H1 _ e1.j ?_
      cases h2 : g ρ1 with
      | none => simp only [h2] at h; exact h
      | some r2 =>
        cases r2 with
        | error x => simp only [h2] at h; exact fun C dx H' z => h C dx H' (XP.trans e1 z)
        | ok pr2 =>
          obtain ⟨ρ2, ts⟩ := pr2
          simp only [h2] at h
          exact fun G2 vs H2 e2 rt => h G2 (v :: vs) H2 (e1.trans e2) ⟨rv.mono e2.g, rt.dom e1.dom⟩
theorem ex_consO {e : Expr} {es : List Expr} {f : Mo (List D)} {g : Mo (List Tm)} (h : EN X E e f) (hr : EX X E es g) (hs : starEach (e :: es) X.env = (false, eval e X.env) :: starEach es X.env := by rfl) : EX X E (e :: es) (xConsO f g) := by
  obtain ⟨t, p, q⟩ := h
  obtain ⟨t2, p2, q2⟩ := hr
  refine ⟨_, pa_cons p p2 hs, fun G ρ σ H Q j h => q G ρ σ H _ j ?_⟩
  unfold xConsO mBind at h
  cases h1 : f ρ with
  | none => simp only [h1] at h; exact h
  | some r1 =>
    cases r1 with
    | error x => simp only [h1] at h; exact h
    | ok pr =>
      obtain ⟨ρ1, ds⟩ := pr
      simp only [h1] at h
      intro G1 v H1 e1 rv
      obtain ⟨a, us, rfl, z1, z2, z3, no, z4⟩ := rv
      refine q2 G1 ρ1 σ H1 _ e1.j ?_
      cases h2 : g ρ1 with
      | none => simp only [h2] at h; exact h
      | some r2 =>
        cases r2 with
        | error x => simp only [h2] at h; exact fun C dx H' z => h C dx H' (XP.trans e1 z)
        | ok pr2 =>
          obtain ⟨ρ2, ts⟩ := pr2
          simp only [h2] at h
          intro G2 vs H2 e2 rt
          refine h G2 (.ref a :: vs) H2 (e1.trans e2) ⟨⟨a, us, rfl, z1, ?_, e2.kept a _ z3 no, ?_, z4.mono e2.g, fun i es hi hv => ?_⟩, rt.dom e1.dom⟩
          · cases y : G2 a with
            | none => rfl
            | some o =>
              rcases e2.new a (by rw [y]; simp) with w1 | w1 | w1
              · exact absurd z2 w1
              · rw [z3] at w1; cases w1
              · exact absurd w1 no
          · intro w1
            rcases e2.ow a w1 with w2 | w2
            · exact no w2
            · rw [z3] at w2; cases w2
          · have w1 := rt.fresh i hi hv
            rw [z3] at w1
            cases w1
/-- one of them to its name -/
def slOf : Tm → Sl
  | .p d => .pur d
  | .o ds => .own ds
theorem ownd_set {ρ : En} {σ : St} {i : Nat} {s : Sl} {v : V} {b : Addr} (h : Ownd (ρ.set i s) (σ.set i (some v)) b) : Ownd ρ σ b ∨ ((∃ ds, s.hs = some ds) ∧ v = .ref b) := by
  obtain ⟨k, s0, es, q1, hl, q2⟩ := h
  rcases getElem?_set_cases q1 with ⟨e1, e2⟩ | ⟨e1, e2⟩
  · rcases getElem?_set_cases q2 with ⟨_, e4⟩ | ⟨e3, _⟩
    · exact .inr ⟨⟨es, by rw [← e2]; exact hl⟩, (Option.some.inj e4).symm⟩
    · exact absurd e1 e3
  · rw [List.getElem?_set_ne (Ne.symm e1)] at q2
    exact .inl ⟨k, s0, es, e2, hl, q2⟩
theorem RT.no {K : PySem.W.Frag} {H0 G H : Hp} {ρ ρ1 : En} {σ σ1 : St} : ∀ {vs : List V} {ts : List Tm} (_ : ∀ b, Ownd ρ1 σ1 b → Ownd ρ σ b ∨ ∀ (i : Nat) es, ts[i]? = some (.o es) → vs[i]? ≠ some (.ref b)), RT K H0 G H ρ σ vs ts → RT K H0 G H ρ1 σ1 vs ts
  | [], [], _, _ => trivial
  | v :: vs, .p e :: ts, n, h => ⟨h.1, RT.no (fun b hb => (n b hb).imp id fun z i es q => z (i + 1) es q) h.2⟩
  | v :: vs, .o es :: ts, n, h => by
    obtain ⟨⟨a, us, h1, h2, h3, h4, h5, h6⟩, h7⟩ := h
    refine ⟨⟨a, us, h1, h2, h3, h4, fun z => ?_, h6⟩, RT.no (fun b hb => (n b hb).imp id fun z i es q => z (i + 1) es q) h7⟩
    rcases n a z with w | w
    · exact h5 w
    · exact w 0 es rfl (congrArg some h1)
theorem RT.put {K : PySem.W.Frag} {G H G' H' : Hp} {ρ ρ' : En} {σ σ' : St} {v : V} {vs : List V} {tm : Tm} {ts : List Tm} (e : Ex K G ρ σ H G' ρ' σ' H') (i : Nat) (r : RT K H G' H' ρ' σ' (v :: vs) (tm :: ts)) :
    Ex K G ρ σ H G' (ρ'.set i (slOf tm)) (σ'.set i (some v)) H' ∧ RT K H G' H' (ρ'.set i (slOf tm)) (σ'.set i (some v)) vs ts := by
  cases tm with
  | p d =>
    obtain ⟨h1, h2⟩ := r
    refine ⟨e.trans (Ex.set e.j i h1), RT.no (fun b hb => ?_) h2⟩
    rcases ownd_set hb with z | ⟨⟨_, z⟩, _⟩
    · exact .inl z
    · cases z
  | o ds =>
    obtain ⟨⟨a, us, h1, h2, h3, h4, h5, h6, h7⟩, h8⟩ := r
    refine ⟨e.setOwn i ⟨a, us, h1, h2, h3, h4, h5, h6⟩, RT.no (fun b hb => ?_) h8⟩
    rcases ownd_set hb with z | ⟨_, z⟩
    · exact .inl z
    · have e3 : a = b := by rw [h1] at z; exact V.ref.inj z
      subst e3
      exact .inr h7
theorem RT.nil {K : PySem.W.Frag} {H0 G H : Hp} {ρ : En} {σ : St} {vs : List V} (h : RT K H0 G H ρ σ vs []) : vs = [] := by
  cases vs with
  | nil => rfl
  | cons v vs => exact h.elim
theorem RT.cons {K : PySem.W.Frag} {H0 G H : Hp} {ρ : En} {σ : St} {vs : List V} {t : Tm} {ts : List Tm} (h : RT K H0 G H ρ σ vs (t :: ts)) : ∃ v ws, vs = v :: ws := by
  cases vs with
  | nil => cases t <;> exact h.elim
  | cons v vs => exact ⟨_, _, rfl⟩
def sPar2 (i j : Nat) (f : Mo (List Tm)) : Mo Fl := mBind f fun ts ρ => match ts with
  | [x, y] => some (.ok ((ρ.set i (slOf x)).set j (slOf y), .nx))
  | _ => none
def sPar3 (i j k : Nat) (f : Mo (List Tm)) : Mo Fl := mBind f fun ts ρ => match ts with
  | [x, y, z] => some (.ok (((ρ.set i (slOf x)).set j (slOf y)).set k (slOf z), .nx))
  | _ => none
theorem s_par2 {i j : Nat} {x y : Str} {a b : Expr} {f : Mo (List Tm)} {px py pt : Pos} {kt k2 : Nat} {pt2 pos : Pos} (hc : X.calm = true) (hN : X.N.Nodup) (h : EX X E [a, b] f) (hi : X.N[i]? = some x := by rfl) (hj : X.N[j]? = some y := by rfl) (hij : i ≠ j := by decide)
    (hx : X.env.scope.names.lookup x = some .local := by rfl) (hy : X.env.scope.names.lookup y = some .local := by rfl) (hw : swappedStores [.Tuple [.Name x px, .Name y py] kt pt] (.Tuple [a, b] k2 pt2) X.env = pure (some [x, y]) := by rfl) :
    SV X E (.Assign [.Tuple [.Name x px, .Name y py] kt pt] (.Tuple [a, b] k2 pt2) pos) (sPar2 i j f) := by
  obtain ⟨t, p, q⟩ := h
  refine ⟨_, ps_par hc hN hi hj hij hx hy p hw, fun G ρ σ H De jj h => q G ρ σ H _ jj ?_⟩
  unfold sPar2 mBind at h
  match hh : f ρ, h with
  | none, h => exact h.elim
  | some (.error x), h => exact h
  | some (.ok (ρ1, [t1, t2])), h =>
    intro G1 vs H1 e1 r1
    obtain ⟨v1, vs, rfl⟩ := r1.cons
    obtain ⟨e2, r2⟩ := RT.put e1 i r1
    obtain ⟨v2, vs, rfl⟩ := r2.cons
    obtain ⟨e3, r3⟩ := RT.put e2 j r2
    cases r3.nil
    exact ⟨v1, v2, rfl, h G1 _ H1 e3⟩
  | some (.ok (ρ1, [])), h => exact h.elim
  | some (.ok (ρ1, [_])), h => exact h.elim
  | some (.ok (ρ1, _ :: _ :: _ :: _)), h => exact h.elim
theorem s_par3 {i j l : Nat} {x y z : Str} {a b c : Expr} {f : Mo (List Tm)} {px py pz pt : Pos} {kt k2 : Nat} {pt2 pos : Pos} (hc : X.calm = true) (hN : X.N.Nodup) (h : EX X E [a, b, c] f) (hi : X.N[i]? = some x := by rfl) (hj : X.N[j]? = some y := by rfl) (hl : X.N[l]? = some z := by rfl) (hij : i ≠ j := by decide) (hil : i ≠ l := by decide) (hjl : j ≠ l := by decide)
    (hx : X.env.scope.names.lookup x = some .local := by rfl) (hy : X.env.scope.names.lookup y = some .local := by rfl) (hz : X.env.scope.names.lookup z = some .local := by rfl) (hw : swappedStores [.Tuple [.Name x px, .Name y py, .Name z pz] kt pt] (.Tuple [a, b, c] k2 pt2) X.env = pure (some [x, y, z]) := by rfl) :
    SV X E (.Assign [.Tuple [.Name x px, .Name y py, .Name z pz] kt pt] (.Tuple [a, b, c] k2 pt2) pos) (sPar3 i j l f) := by
  obtain ⟨t, p, q⟩ := h
  refine ⟨_, ps_par3 hc hN hi hj hl hij hil hjl hx hy hz p hw, fun G ρ σ H De jj h => q G ρ σ H _ jj ?_⟩
  unfold sPar3 mBind at h
  match hh : f ρ, h with
  | none, h => exact h.elim
  | some (.error x), h => exact h
  | some (.ok (ρ1, [t1, t2, t3])), h =>
    intro G1 vs H1 e1 r1
    obtain ⟨v1, vs, rfl⟩ := r1.cons
    obtain ⟨e2, r2⟩ := RT.put e1 i r1
    obtain ⟨v2, vs, rfl⟩ := r2.cons
    obtain ⟨e3, r3⟩ := RT.put e2 j r2
    obtain ⟨v3, vs, rfl⟩ := r3.cons
    obtain ⟨e4, r4⟩ := RT.put e3 l r3
    cases r4.nil
    exact ⟨v1, v2, v3, rfl, h G1 _ H1 e4⟩
  | some (.ok (ρ1, [])), h => exact h.elim
  | some (.ok (ρ1, [_])), h => exact h.elim
  | some (.ok (ρ1, [_, _])), h => exact h.elim
  | some (.ok (ρ1, _ :: _ :: _ :: _ :: _)), h => exact h.elim
def rSubB : R2 := fun x y H Q => ∃ a b : Bool, x = .bl a ∧ y = .bl b ∧ Q (.int (PyProof.Rows.b2i a - PyProof.Rows.b2i b)) H
theorem op_subB : OpR X (binaryOp .Sub) rSubB := fun pins s σ H x y v u Q I rx ry ⟨a, b, ex, ey, q⟩ => by
  subst ex ey
  rw [show v = Value.bool a from rx, show u = Value.bool b from ry]
  exact PyProof.Rows.sub_bool ⟨.int _, H, I.tok _, ⟨_, rfl⟩, q⟩
def b2n : Bool → Int
  | true => 1
  | false => 0
def subBD : D → D → Option D
  | .bool a, .bool b => some (.int (b2n a - b2n b))
  | _, _ => none
theorem b2i_n (a : Bool) : PyProof.Rows.b2i a = b2n a := by cases a <;> rfl
theorem dop_subB : DOp X (binaryOp .Sub) subBD := by
  refine ⟨_, op_subB, fun G H x y a b c Q s hx hy h k => ?_⟩
  cases hx with
  | bl i => cases hy with
    | bl j => cases h; exact ⟨i, j, rfl, rfl, by rw [b2i_n, b2i_n]; exact k G _ H (.refl s) (.int _)⟩
    | _ => cases h
  | _ => cases h
def isBD : D → D → Option D
  | .bool a, .bool b => some (.bool (decide (a = b)))
  | _, _ => none
def isNotBD : D → D → Option D
  | .bool a, .bool b => some (.bool (!decide (a = b)))
  | _, _ => none
theorem dop_isB : DOp X (compareOp .Is) isBD := by
  refine ⟨_, op_isBl, fun G H x y a b c Q s hx hy h k => ?_⟩
  cases hx with
  | bl i => cases hy with
    | bl j => cases h; exact ⟨i, j, rfl, rfl, k G _ H (.refl s) (.bl _)⟩
    | _ => cases h
  | _ => cases h
theorem dop_isNotB : DOp X (compareOp .IsNot) isNotBD := by
  refine ⟨_, op_notBl, fun G H x y a b c Q s hx hy h k => ?_⟩
  cases hx with
  | bl i => cases hy with
    | bl j => cases h; exact ⟨i, j, rfl, rfl, k G _ H (.refl s) (.bl _)⟩
    | _ => cases h
  | _ => cases h
theorem hu65 {k : Nat} {A : Around} (r : Room k A) : A.units + 65 < cLine := by have := r.un; omega
def fuelInt (i : Nat) : En → Nat := fun ρ => match ρ[i]? with
  | some (Sl.pur (.int j)) => j.toNat + 1
  | _ => 0
theorem pass_own {P : Program} {w : World} {K : PySem.W.Frag} {mg : Str → Option Value} {base : Heap} {N : List Str} {qual : Str} {scope : Scope} {f : Addr} {cd : Value} {A : Around} {outer : List PySem.Env} {s : Shared} {H : Hp} {E : XK} :
    PassesOwn (model P w) (cxOf (L2.CX P w) P w K mg base N qual scope f cd A outer s H E).A (cxOf (L2.CX P w) P w K mg base N qual scope f cd A outer s H E).env (cxOf (L2.CX P w) P w K mg base N qual scope f cd A outer s H E).xe := passes_of rfl
end
end HB
namespace HB
open PySem L2
section
variable {X : Cx} {E : XK}
def EVP (X : Cx) (e : Expr) (f : En → Option D) : Prop := ∃ t, PE X e t ∧ ∀ G ρ σ H Q d, J X.K G ρ σ H → f ρ = some d → (∀ v H', SameT H H' → Rp X.K H' v d → Q v H') → t σ H Q
theorem J.up {K : PySem.W.Frag} {G H H' : Hp} {ρ : En} {σ : St} (j : J K G ρ σ H) (s : SameT H H') : PX G H G H' := ⟨s.toSame, .refl _, j.sub.toSame.trans s.toSame, fun _ z => .inl z, s.g⟩
theorem evp_int {i : Int} {k : Nat} {pos : Pos} : EVP X (.Constant (.int i) k pos) (fun _ => some (.int i)) := ⟨_, pe_int, fun G ρ σ H Q d j h k => by cases h; exact k _ H (.refl _) (.int i)⟩
def pOp (f : D → D → Option D) (a b : En → Option D) : En → Option D := fun ρ => match a ρ with
  | none => none
  | some x => match b ρ with
    | none => none
    | some y => f x y
theorem evp_ix {a b : Expr} {pos : Pos} {fa fb : En → Option D} (ha : EVP X a fa) (hb : EVP X b fb) (hs : PlainIx b := by exact fun _ _ => rfl) : EVP X (.Subscript a b pos) (pOp ixD fa fb) := by
  obtain ⟨t, p, q⟩ := ha
  obtain ⟨t2, p2, q2⟩ := hb
  refine ⟨_, pe_ix ix_seq p p2 hs, fun G ρ σ H Q d j h k => ?_⟩
  unfold pOp at h
  cases h1 : fa ρ with
  | none => simp only [h1] at h; cases h
  | some x =>
    simp only [h1] at h
    cases h2 : fb ρ with
    | none => simp only [h2] at h; cases h
    | some y =>
      simp only [h2] at h
      exact q G ρ σ H _ x j h1 fun v H1 s1 r1 => q2 G ρ σ H1 _ y (j.px (j.up s1)) h2 fun u H2 s2 r2 => ix_sem (.refl H2) (r1.mono s2) r2 h fun z rz => k z H2 (s1.trans s2) rz
def scal : D → Bool
  | .none => true
  | .bool _ => true
  | .int _ => true
  | .str _ => true
  | _ => false
theorem Rp.scal {K : PySem.W.Frag} {G G' : Hp} {v : V} {d : D} (r : Rp K G v d) (h : scal d = true) : Rp K G' v d := by
  cases r with
  | non => exact .non
  | bl b => exact .bl b
  | int i => exact .int i
  | str x => exact .str x
  | _ => cases h
def EJ (X : Cx) (E : XK) (es : List Expr) (f : Str → Mo Str) : Prop := ∃ ts, PJ X es ts ∧ ∀ acc G ρ σ H (Q : Str → Hp → Prop), J X.K G ρ σ H → Post X.K E (fun _ (b c : Str) => b = c) G ρ σ H Q (f acc ρ) → tJs ts acc σ H Q
def strApp (acc : Str) : D → Option Str
  | .str y => if (acc ++ y).length ≤ 1000000 then some (acc ++ y) else none
  | _ => none
def jNil : Str → Mo Str := fun acc => mRet acc
def jCons (a : Mo D) (r : Str → Mo Str) : Str → Mo Str := fun acc => mBind a fun d => mBind (mLift (strApp acc d)) r
theorem ej_nil : EJ X E [] jNil := ⟨_, .nil, fun acc G ρ σ H Q j h => h G acc H j.refl rfl⟩
theorem ej_cons {e : Expr} {es : List Expr} {f : Mo D} {g : Str → Mo Str} (h : EV X E e f) (hr : EJ X E es g) : EJ X E (e :: es) (jCons f g) := by
  obtain ⟨t, p, q⟩ := h
  obtain ⟨ts, p2, q2⟩ := hr
  refine ⟨_, .cons p p2, fun acc G ρ σ H Q j h => q G ρ σ H _ j (Post.imp h fun G1 ρ1 v H1 d e1 r1 h1 => ?_)⟩
  unfold mBind mLift at h1
  cases hd : strApp acc d with
  | none => simp only [hd] at h1; exact h1.elim
  | some z =>
    simp only [hd] at h1
    cases r1 with
    | str y =>
      obtain ⟨h3, h4⟩ := ite_some (show (if (acc ++ y).length ≤ 1000000 then some (acc ++ y) else none) = some z from hd)
      subst h4
      exact ⟨y, rfl, line_of h3, q2 _ G1 ρ1 σ H1 Q e1.j h1⟩
    | _ => cases hd
def mJoined (f : Str → Mo Str) : Mo D := mBind (f Str.empty) fun x => mRet (.str x)
theorem ev_joined {v1 v2 : Expr} {rest : List Expr} {f : Str → Mo Str} {pos : Pos} (h : EJ X E (v1 :: v2 :: rest) f) : EV X E (.JoinedStr (v1 :: v2 :: rest) pos) (mJoined f) := by
  obtain ⟨ts, p, q⟩ := h
  refine ⟨_, pe_joined p, fun G ρ σ H Q j h => q Str.empty G ρ σ H _ j ?_⟩
  unfold mJoined mBind at h
  cases hf : f Str.empty ρ with
  | none => simp only [hf] at h; exact h
  | some r =>
    simp only [hf] at h
    cases r with
    | error x => exact h
    | ok pr =>
      obtain ⟨ρ1, y⟩ := pr
      exact fun G1 v H1 e1 r1 => by
        subst r1
        exact h G1 _ H1 e1 (.str _)
def fmtD : D → Option D
  | .str y => if y.length ≤ 1000000 then some (.str y) else none
  | .int i => if i.natAbs.log2 < 1920 then some (.str (toString i)) else none
  | _ => none
theorem ev_fmt {e : Expr} {f : Mo D} {pos : Pos} (h : EV X E e f) : EV X E (.FormattedValue e (-1) none pos) (mUn fmtD f) := by
  obtain ⟨t, p, q⟩ := h
  refine ⟨_, pe_fmt p, fun G ρ σ H Q j h => q G ρ σ H _ j (Post.imp h fun G1 ρ1 v H1 d e1 r1 h1 => ?_)⟩
  obtain ⟨y, hy, k⟩ := Post.lift (ρ' := ρ1) h1
  cases r1 with
  | str z =>
    obtain ⟨h3, h4⟩ := ite_some (show (if z.length ≤ 1000000 then some (PyData.str z) else none) = some y from hy)
    subst h4
    exact .inl ⟨z, rfl, line_of h3, k G1 _ H1 e1.j.refl (.str _)⟩
  | int i =>
    obtain ⟨h3, h4⟩ := ite_some (show (if i.natAbs.log2 < 1920 then some (PyData.str (toString i)) else none) = some y from hy)
    subst h4
    exact .inr ⟨i, rfl, h3, k G1 _ H1 e1.j.refl (.str _)⟩
  | _ => cases hy
def strsD : List D → Option (List Str)
  | [] => some []
  | .str x :: r => (strsD r).map (x :: ·)
  | _ :: _ => none
theorem RpAll.strs {K : PySem.W.Frag} {G : Hp} : ∀ {xs : List V} {ds : List D} {bs : List Str}, RpAll K G xs ds → strsD ds = some bs → xs = bs.map V.str
  | _, [], _, .nil, h => by cases h; rfl
  | _, .str b :: r, bs, .cons h t, e => by
    cases h
    have e' : (strsD r).map (b :: ·) = some bs := e
    cases q : strsD r with
    | none => rw [q] at e'; cases e'
    | some cs =>
      rw [q] at e'
      cases e'
      rw [t.strs q]
      rfl
  | _, .none :: r, bs, _, e => by cases e
  | _, .bool _ :: r, bs, _, e => by cases e
  | _, .int _ :: r, bs, _, e => by cases e
  | _, .list _ :: r, bs, _, e => by cases e
  | _, .tuple _ :: r, bs, _, e => by cases e
  | _, .dict _ :: r, bs, _, e => by cases e
def mM1 (f : Str → D → Option D) (a b : Mo D) : Mo D := mBind a fun x => match x with
  | .str s => mBind b fun y => mLift (f s y)
  | _ => fun _ => none
theorem m1_sem {r : V → List V → Hp → VK → Prop} {t t2 : TE} {f : Str → D → Option D} {fo fe : Mo D} (q : ∀ G ρ σ H Q, J X.K G ρ σ H → Post X.K E (Rp X.K) G ρ σ H Q (fo ρ) → t σ H Q) (q2 : ∀ G ρ σ H Q, J X.K G ρ σ H → Post X.K E (Rp X.K) G ρ σ H Q (fe ρ) → t2 σ H Q)
    (k : ∀ G H a y d c (Q : VK), Same G H → Rp X.K G y d → f a d = some c → (∀ G' v H', PX G H G' H' → Rp X.K G' v c → Q v H') → r (.str a) [y] H Q) :
    ∀ G ρ σ H Q, J X.K G ρ σ H → Post X.K E (Rp X.K) G ρ σ H Q (mM1 f fo fe ρ) → tM1 r t t2 σ H Q := by
  intro G ρ σ H Q j h
  refine q G ρ σ H _ j (Post.imp h fun G1 ρ1 v H1 d e1 r1 h1 => ?_)
  cases r1 with
  | str a =>
    refine ⟨⟨a, rfl⟩, q2 G1 ρ1 σ H1 _ e1.j (Post.imp h1 fun G2 ρ2 y H2 d2 e2 r2 h2 => ?_)⟩
    obtain ⟨c, hc, k2⟩ := Post.lift (ρ' := ρ2) h2
    exact k G2 H2 a y d2 c Q e2.j.sub r2 hc fun G' v H' px rv => k2 G' v H' (e2.j.ex px) rv
  | _ => exact h1.elim
def joinD (a : Str) (d : D) : Option D := match itemsD d with
  | none => none
  | some ds => match strsD ds with
    | none => none
    | some ys => if (ys.map (·.length)).sum + ys.length * a.length ≤ 16777216 then some (.str (Txt.join a ys)) else none
theorem ev_join {o e : Expr} {apos pos : Pos} {fo fe : Mo D} (ho : EV X E o fo) (he : EV X E e fe) (hs : starEach [e] X.env = [(false, eval e X.env)] := by rfl) (hbase : attributeBase o "join" X.env (eval o X.env) = eval o X.env := by rfl) (hline : (apos.endLine == pos.line) = true := by rfl) :
    EV X E (.Call (.Attribute o "join" apos) [e] [] pos) (mM1 joinD fo fe) := by
  obtain ⟨t, p, q⟩ := ho
  obtain ⟨t2, p2, q2⟩ := he
  refine ⟨_, pe_join p p2 hs hbase hline, m1_sem q q2 fun G H a y d c Q s ry h k => ?_⟩
  unfold joinD at h
  cases h1 : itemsD d with
  | none => simp only [h1] at h; cases h
  | some ds =>
    simp only [h1] at h
    cases h2 : strsD ds with
    | none => simp only [h2] at h; cases h
    | some ys =>
      simp only [h2] at h
      obtain ⟨h3, h4⟩ := ite_some h
      subst h4
      obtain ⟨p0, xs, rfl, s0, r0⟩ := ry.items h1
      have e0 := r0.strs h2
      subst e0
      exact ⟨a, p0, ys, rfl, rfl, (sq_mono s s0).symm, h3, k G _ H (.refl s) (.str _)⟩
end
end HB
namespace HB
open PySem L2
structure Ob (K : PySem.W.Frag) (c : Str) (x : Addr) (kvs : List (D × D)) (G : Hp) (ρ : En) (σ : St) (H : Hp) : Prop where
  at_ : ∃ dx fs, H x = some (.ins (He.ga K c) dx fs) ∧ RpF K G fs kvs
  g : G x = none
  no : ¬ Ownd ρ σ x
theorem RpF.mono {K : PySem.W.Frag} {H H' : Hp} (s : Same H H') : ∀ {fs : List (Str × V)} {kvs : List (D × D)}, RpF K H fs kvs → RpF K H' fs kvs
  | _, _, .nil => .nil
  | _, _, .cons r t => .cons (r.mono s) (RpF.mono s t)
theorem Ob.ex {K : PySem.W.Frag} {c : Str} {x : Addr} {kvs : List (D × D)} {G H G' H' : Hp} {ρ ρ' : En} {σ σ' : St} (o : Ob K c x kvs G ρ σ H) (e : Ex K G ρ σ H G' ρ' σ' H') : Ob K c x kvs G' ρ' σ' H' := by
  obtain ⟨⟨dx, fs, h1, h2⟩, g, no⟩ := o
  refine ⟨⟨dx, fs, e.kept x _ h1 no, h2.mono e.g⟩, ?_, fun z => ?_⟩
  · cases q : G' x with
    | none => rfl
    | some o =>
      rcases e.new x (by rw [q]; simp) with w | w | w
      · exact absurd g w
      · rw [h1] at w; cases w
      · exact absurd w no
  · rcases e.ow x z with w | w
    · exact no w
    · rw [h1] at w; cases w
def putK (f : Str) (d : D) : List (D × D) → List (D × D)
  | [] => [(.str f, d)]
  | (.str g, e) :: r => if f = g then (.str f, d) :: r else (.str g, e) :: putK f d r
  | p :: r => p :: putK f d r
theorem RpF.put {K : PySem.W.Frag} {H : Hp} {f : Str} {v : V} {d : D} (r : Rp K H v d) : ∀ {fs : List (Str × V)} {kvs : List (D × D)}, RpF K H fs kvs → RpF K H (putF f v fs) (putK f d kvs)
  | _, _, .nil => .cons r .nil
  | (g, u) :: fs, _, .cons (d := e) (kvs := kvs) q t => by
    by_cases h : f = g
    · subst h
      have e1 : putF f v ((f, u) :: fs) = (f, v) :: fs := by simp [putF]
      have e2 : putK f d ((.str f, e) :: kvs) = (.str f, d) :: kvs := by simp [putK]
      rw [e1, e2]
      exact .cons r t
    · have e1 : putF f v ((g, u) :: fs) = (g, u) :: putF f v fs := by simp [putF, h, Ne.symm h]
      have e2 : putK f d ((.str g, e) :: kvs) = (.str g, e) :: putK f d kvs := by simp [putK, h]
      rw [e1, e2]
      exact .cons q (RpF.put r t)
section
variable {X : Cx} {E : XK}
/-- what may read the object -/
def EVO (X : Cx) (E : XK) (c : Str) (e : Expr) (f : List (D × D) → Mo D) : Prop := ∃ t, PE X e t ∧ ∀ x kvs G ρ σ H Q, J X.K G ρ σ H → Ob X.K c x kvs G ρ σ H → σ[0]? = some (some (.ref x)) → Post X.K E (Rp X.K) G ρ σ H Q (f kvs ρ) → t σ H Q
def EAO (X : Cx) (E : XK) (c : Str) (es : List Expr) (f : List (D × D) → Mo (List D)) : Prop := ∃ t, PA X es t ∧ ∀ x kvs G ρ σ H Q, J X.K G ρ σ H → Ob X.K c x kvs G ρ σ H → σ[0]? = some (some (.ref x)) → Post X.K E (RpAll X.K) G ρ σ H Q (f kvs ρ) → t σ H Q
theorem evo_of {c : Str} {e : Expr} {f : Mo D} (h : EV X E e f) : EVO X E c e (fun _ => f) := let ⟨t, p, q⟩ := h; ⟨t, p, fun _ _ G ρ σ H Q j _ _ z => q G ρ σ H Q j z⟩
def pureF (o : Option D) : Mo D := mLift o
theorem evo_fld {c a : Str} {p pos : Pos} {s : Str} (hN : X.N[0]? = some s := by rfl) (hv : Vis X.env.scope s := by first | exact Or.inl rfl | exact Or.inr (Or.inl rfl) | exact Or.inr (Or.inr rfl)) (hd : (s == ("__debug__" : Str)) = false := by decide)
    (hcd : (s == ("__classdict__" : Str)) = false := by decide) (hc : Cls X.K (He.ga X.K c)) (hn : NoAttr X.K (He.ga X.K c) a) (hb : attributeBase (.Name s p) a X.env (eval (.Name s p) X.env) = eval (.Name s p) X.env := by rfl) : EVO X E c (.Attribute (.Name s p) a pos) (fun kvs => pureF (fldIn a kvs)) := by
  refine ⟨_, pe_fld (pe_var hN hv hd hcd) hb, fun x kvs G ρ σ H Q j o h0 h => ?_⟩
  obtain ⟨y, hy, k⟩ := Post.lift (ρ' := ρ) h
  obtain ⟨⟨dx, fs, z1, z2⟩, _, _⟩ := o
  obtain ⟨v', h4, h5⟩ := z2.look hy
  exact ⟨_, h0, x, _, dx, fs, v', rfl, z1, hc, hn, h4, k G _ H j.refl h5⟩
theorem eao_nil {c : Str} : EAO X E c [] (fun _ => mNil) := ⟨_, pa_nil, fun _ _ G ρ σ H Q j _ _ h => h G _ H j.refl .nil⟩
def oCons (f : List (D × D) → Mo D) (g : List (D × D) → Mo (List D)) : List (D × D) → Mo (List D) := fun kvs => mBind (f kvs) fun d => mBind (g kvs) fun ds => mRet (d :: ds)
theorem eao_cons {c : Str} {e : Expr} {es : List Expr} {f : List (D × D) → Mo D} {g : List (D × D) → Mo (List D)} (h : EVO X E c e f) (hr : EAO X E c es g) (hs : starEach (e :: es) X.env = (false, eval e X.env) :: starEach es X.env := by rfl) : EAO X E c (e :: es) (oCons f g) := by
  obtain ⟨t, p, q⟩ := h
  obtain ⟨t2, p2, q2⟩ := hr
  refine ⟨_, pa_cons p p2 hs, fun x kvs G ρ σ H Q j o h0 h => q x kvs G ρ σ H _ j o h0 (Post.imp h fun G1 ρ1 v H1 d e1 r1 h1 => ?_)⟩
  refine q2 x kvs G1 ρ1 σ H1 _ e1.j (o.ex e1) h0 (Post.imp h1 fun G2 ρ2 vs H2 ds e2 r2 h2 => ?_)
  exact h2 G2 _ H2 e2.j.refl (.cons (r1.mono e2.g) r2)
def oCall (F : Fn) (f : List (D × D) → Mo (List D)) : List (D × D) → Mo D := fun kvs => mCall F (f kvs)
theorem evo_call {c : Str} {k : Nat} {x : Str} {ps : List Str} {F : Fn} {p pos : Pos} {e : Expr} {es : List Expr} {f : List (D × D) → Mo (List D)} (hF : FnE X.prog X.w X.K X.mg X.base k x ps F) (hr : Room k X.A) (hx : Passes (L2.CX X.prog X.w) X E)
    (ha : EAO X E c (e :: es) f) (hg : Gl X x := by rfl) (hdb : (x == ("__debug__" : Str)) = false := by decide) (he : starEach (e :: es) X.env = (false, eval e X.env) :: starEach es X.env := by rfl)
    (hpl : (backTo pos (starEach es X.env)).any (·.1) = false := by rfl) : EVO X E c (.Call (.Name x p) (e :: es) [] pos) (oCall F f) := by
  obtain ⟨⟨fd, h1, h2⟩, kp, gl, hl⟩ := hF
  obtain ⟨t, pt, q⟩ := ha
  refine ⟨_, pe_call h1 hr hg gl kp h2 .nil hx pt hdb he hpl, fun x kvs G ρ σ H Q j o h0 h => ?_⟩
  refine q x kvs G ρ σ H _ j o h0 (Post.imp h fun G1 ρ1 vs H1 ds e1 r1 h1 => ?_)
  show spP X.K _ F (vs ++ []) H1 Q E
  rw [List.append_nil]
  have h1' : Post X.K E (Rp X.K) G1 ρ1 σ H1 Q (match F ds with
    | none => none
    | some (.error x) => some (.error x)
    | some (.ok d) => some (.ok (ρ1, d))) := h1
  cases hF : F ds with
  | none => rw [hF] at h1'; exact h1'.elim
  | some r =>
    refine ⟨G1, ds, e1.j.sub, r1, hl ds (by rw [hF]; simp), ?_⟩
    rw [hF] at h1' ⊢
    cases r with
    | error x => exact fun C dx H' z => h1' C dx H' z.of0
    | ok d => exact fun G' v H' p r => h1' G' v H' (e1.j.ex p) r
/-- the statements: the object may change -/
structure OX (K : PySem.W.Frag) (c : Str) (x : Addr) (G : Hp) (ρ : En) (σ : St) (H : Hp) (kvs' : List (D × D)) (G' : Hp) (ρ' : En) (σ' : St) (H' : Hp) : Prop where
  j : J K G' ρ' σ' H'
  g : Same G G'
  new : ∀ b, G' b ≠ none → G b ≠ none ∨ H b = none ∨ Ownd ρ σ b
  kept : ∀ b o, b ≠ x → H b = some o → ¬ Ownd ρ σ b → [NoT o] → H' b = some o
  ow : ∀ b, Ownd ρ' σ' b → Ownd ρ σ b ∨ H b = none
  dom : Dm H H'
  ob : Ob K c x kvs' G' ρ' σ' H'
abbrev MoO := List (D × D) → En → Option (Except Exn (En × List (D × D)))
def PostO (K : PySem.W.Frag) (E : XK) (c : Str) (x : Addr) (G : Hp) (ρ : En) (σ : St) (H : Hp) (R : Hp → Prop) : Option (Except Exn (En × List (D × D))) → Prop
  | none => False
  | some (.error y) => ∀ C dx H', XP K G ρ σ H y C dx H' → E C dx H'
  | some (.ok (ρ', kvs')) => ∀ G' σ' H', OX K c x G ρ σ H kvs' G' ρ' σ' H' → R H'
def SO (X : Cx) (E : XK) (c : Str) (sts : List Stmt) (g : MoO) : Prop := ∃ t, PSs X sts t ∧ ∀ x kvs G ρ σ H (De : Ends), J X.K G ρ σ H → Ob X.K c x kvs G ρ σ H → σ[0]? = some (some (.ref x)) → PostO X.K E c x G ρ σ H (fun H' => ∀ σ', De.nx σ' H') (g kvs ρ) → t De σ H
theorem Ex.ox {K : PySem.W.Frag} {c : Str} {x : Addr} {kvs' : List (D × D)} {G H G1 H1 G2 H2 : Hp} {ρ ρ1 ρ2 : En} {σ σ1 σ2 : St} (e : Ex K G ρ σ H G1 ρ1 σ1 H1) (o : OX K c x G1 ρ1 σ1 H1 kvs' G2 ρ2 σ2 H2) : OX K c x G ρ σ H kvs' G2 ρ2 σ2 H2 where
  j := o.j
  g := e.g.trans o.g
  new := fun b hb => by
    rcases o.new b hb with z | z | z
    · exact e.new b z
    · exact .inr (.inl (e.dom b z))
    · rcases e.ow b z with z | z
      · exact .inr (.inr z)
      · exact .inr (.inl z)
  kept := fun b o' hb q n => o.kept b o' hb (e.kept b o' q n) fun z => by
    rcases e.ow b z with z | z
    · exact n z
    · rw [q] at z; cases z
  ow := fun b hb => by
    rcases o.ow b hb with z | z
    · exact e.ow b z
    · exact .inr (e.dom b z)
  dom := ⟨fun b hb => e.dom b (o.dom b hb), e.tt.trans o.dom.t⟩
  ob := o.ob
theorem OX.trans {K : PySem.W.Frag} {c : Str} {x : Addr} {kvs kvs' : List (D × D)} {G H G1 H1 G2 H2 : Hp} {ρ ρ1 ρ2 : En} {σ σ1 σ2 : St} (e : OX K c x G ρ σ H kvs G1 ρ1 σ1 H1) (o : OX K c x G1 ρ1 σ1 H1 kvs' G2 ρ2 σ2 H2) : OX K c x G ρ σ H kvs' G2 ρ2 σ2 H2 where
  j := o.j
  g := e.g.trans o.g
  new := fun b hb => by
    rcases o.new b hb with z | z | z
    · exact e.new b z
    · exact .inr (.inl (e.dom b z))
    · rcases e.ow b z with z | z
      · exact .inr (.inr z)
      · exact .inr (.inl z)
  kept := fun b o' hb q n => o.kept b o' hb (e.kept b o' hb q n) fun z => by
    rcases e.ow b z with z | z
    · exact n z
    · rw [q] at z; cases z
  ow := fun b hb => by
    rcases o.ow b hb with z | z
    · exact e.ow b z
    · exact .inr (e.dom b z)
  dom := e.dom.trans o.dom
  ob := o.ob
/-- a field is written -/
theorem Ob.store {K : PySem.W.Frag} {c : Str} {x : Addr} {kvs : List (D × D)} {G H : Hp} {ρ : En} {σ : St} {f : Str} {v : V} {d : D} {dx : Addr} {fs : List (Str × V)} (j : J K G ρ σ H) (o : Ob K c x kvs G ρ σ H) (h1 : H x = some (.ins (He.ga K c) dx fs)) (h2 : RpF K G fs kvs) (r : Rp K G v d) :
    OX K c x G ρ σ H (putK f d kvs) G ρ σ (upd H x (.ins (He.ga K c) dx (putF f v fs))) := by
  have ne : ∀ b, G b ≠ none → b ≠ x := fun b hb e => by subst e; exact hb o.g
  refine ⟨⟨j.sub.put o.g (pl_of h1), j.len, j.pur, fun i s ds q hl => ?_, j.alone, fun i g o1 o2 z xs e1 e2 => ?_⟩, .refl _, fun b hb => .inl hb, fun b o' hb q _ => by rw [upd_ne hb]; exact fun {_} => q, fun b hb => .inl hb, ⟨fun b hb => ?_, .put (pl_of h1)⟩, ⟨⟨dx, _, upd_same, h2.put r⟩, o.g, o.no⟩⟩
  · obtain ⟨a, vs, z1, z2, z3, z4⟩ := j.hold i s ds q hl
    refine ⟨a, vs, z1, ?_, z3, z4⟩
    rw [upd_ne (fun e => by subst e; rw [z2] at h1; cases h1)]
    exact z2
  · obtain ⟨a, v, u, z1, z2, z3⟩ := j.lk i g o1 o2 z xs e1 e2
    refine ⟨a, v, u, z1, ?_, z3⟩
    rw [upd_ne (fun e => by subst e; rw [z2] at h1; cases h1)]
    exact z2
  · by_cases e : b = x
    · subst e; rw [upd_same] at hb; cases hb
    · rw [upd_ne e] at hb; exact hb
def oEnd : MoO := fun kvs ρ => some (.ok (ρ, kvs))
theorem so_nil {c : Str} : SO X E c [] oEnd := ⟨_, pss_nil, fun x kvs G ρ σ H De j o h0 h => h G σ H ⟨j, .refl _, fun _ z => .inl z, fun _ _ _ q _ => q, fun _ z => .inl z, ⟨fun _ z => z, .refl H⟩, o⟩ σ⟩
def oPut (f : Str) (v : List (D × D) → Mo D) (g : MoO) : MoO := fun kvs ρ => match v kvs ρ with
  | some (.ok (ρ1, d)) => (match Nat.blt kvs.length 1000 with
    | true => (match g (putK f d kvs) ρ1 with
      | some (.ok r) => some (.ok r)
      | _ => none)
    | false => none)
  | _ => none
theorem so_put {c f s : Str} {e : Expr} {v : List (D × D) → Mo D} {g : MoO} {rest : List Stmt} {p pos pos' : Pos} (hv : EVO X E c e v) (hr : SO X E c rest g) (hc : Cls X.K (He.ga X.K c)) (hn : NoAttr X.K (He.ga X.K c) f) (hN : X.N[0]? = some s := by rfl)
    (hvv : Vis X.env.scope s := by first | exact Or.inl rfl | exact Or.inr (Or.inl rfl) | exact Or.inr (Or.inr rfl)) (hd : (s == ("__debug__" : Str)) = false := by decide) (hcd : (s == ("__classdict__" : Str)) = false := by decide)
    (hs : swapsWith e (some (.Attribute (.Name s p) f pos')) pos.line X.env = pure false := by rfl) : SO X E c (.Assign [.Attribute (.Name s p) f pos'] e pos :: rest) (oPut f v g) := by
  obtain ⟨t, pt, q⟩ := hv
  obtain ⟨t2, p2, q2⟩ := hr
  refine ⟨_, pss_cons (ps_fld (pe_var hN hvv hd hcd) pt hs) p2, fun x kvs G ρ σ H De j o h0 h => ?_⟩
  unfold oPut at h
  cases h1 : v kvs ρ with
  | none => simp only [h1] at h; exact h.elim
  | some r =>
    cases r with
    | error y => simp only [h1] at h; exact h.elim
    | ok pr =>
      obtain ⟨ρ1, d⟩ := pr
      simp only [h1] at h
      cases hsb : Nat.blt kvs.length 1000 with
      | false => simp only [hsb] at h; exact h.elim
      | true =>
        simp only [hsb] at h
        refine q x kvs G ρ σ H _ j o h0 ?_
        rw [h1]
        intro G1 y H1 e1 r1
        have o1 := o.ex e1
        obtain ⟨dx, fs, y1, y2⟩ := o1.at_
        have st := Ob.store (f := f) e1.j o1 y1 y2 r1
        refine ⟨_, h0, x, _, dx, fs, rfl, y1, hc, hn, ?_, ?_⟩
        · rw [y2.len]
          exact of_decide_eq_true (by simpa [Nat.blt_eq] using hsb)
        · refine q2 x (putK f d kvs) G1 ρ1 σ _ De st.j st.ob h0 ?_
          cases h3 : g (putK f d kvs) ρ1 with
          | none => simp only [h3] at h; exact h.elim
          | some r3 =>
            cases r3 with
            | error y => simp only [h3] at h; exact h.elim
            | ok pr3 =>
              obtain ⟨ρ3, kvs3⟩ := pr3
              simp only [h3] at h
              exact fun G3 σ3 H3 o3 => h G3 σ3 H3 (e1.ox (st.trans o3))
/-- if test: raise .. -/
def oIf (c : Mo Bool) (a : Mo Fl) (g : MoO) : MoO := fun kvs ρ => match c ρ with
  | none => none
  | some (.error y) => some (.error y)
  | some (.ok (ρ1, true)) => (match a ρ1 with
    | some (.error y) => some (.error y)
    | _ => none)
  | some (.ok (ρ1, false)) => g kvs ρ1
theorem so_if {c : Str} {e : Expr} {body rest : List Stmt} {pos : Pos} {fc : Mo Bool} {a : Mo Fl} {g : MoO} (hc : ET X E e fc) (ha : SVs X E body a) (h2 : SO X E c rest g) : SO X E c (.If e body [] pos :: rest) (oIf fc a g) := by
  obtain ⟨t0, p0, q0⟩ := hc
  obtain ⟨t, p, q⟩ := ha
  obtain ⟨t2, p2, q2⟩ := h2
  refine ⟨_, pss_cons (ps_if p0 p pss_nil) p2, fun x kvs G ρ σ H De j o h0 h => ?_⟩
  refine q0 G ρ σ H _ j ?_
  unfold oIf at h
  match hc : fc ρ, h with
  | none, h => exact h.elim
  | some (.error y), h => exact h
  | some (.ok (ρ1, true)), h =>
    intro G1 b H1 e1 r1
    subst r1
    refine q G1 ρ1 σ H1 _ e1.j ?_
    match ha : a ρ1, h with
    | none, h => simp only [ha] at h; exact h.elim
    | some (.error y), h => simp only [ha] at h; exact fun C dx H' z => h C dx H' (XP.trans e1 z)
    | some (.ok (ρ2, f)), h => simp only [ha] at h; exact h.elim
  | some (.ok (ρ1, false)), h =>
    intro G1 b H1 e1 r1
    subst r1
    refine q2 x kvs G1 ρ1 σ H1 De e1.j (o.ex e1) h0 ?_
    match hg : g kvs ρ1, h with
    | none, h => simp only [hg] at h; exact h.elim
    | some (.error y), h => simp only [hg] at h; exact fun C dx H' z => h C dx H' (XP.trans e1 z)
    | some (.ok (ρ2, kvs2)), h => simp only [hg] at h; exact fun G2 σ2 H2 o2 => h G2 σ2 H2 (e1.ox o2)
end
abbrev FnI := List D → Option (Except Exn (List (D × D)))
def PostK (K : PySem.W.Frag) (E : XK) (c : Str) (x : Addr) (G H : Hp) (Q : VK) : Option (Except Exn (List (D × D))) → Prop
  | none => False
  | some (.error y) => ∀ C dx H', XP K G [] [] H y C dx H' → E C dx H'
  | some (.ok kvs) => ∀ G' H', Same G G' → (∀ b, G' b ≠ none → G b ≠ none ∨ H b = none) → Sub K G' H' → (∀ b o, b ≠ x → H b = some o → [NoT o] → H' b = some o) → Dm H H' → G' x = none → (∃ dx fs, H' x = some (.ins (He.ga K c) dx fs) ∧ RpF K G' fs kvs) → Q .non H'
def spI (K : PySem.W.Frag) (c : Str) (n : Nat) (F : FnI) : Sp := fun vs H Q E => ∃ x dx us ds G, vs = .ref x :: us ∧ H x = some (.ins (He.ga K c) dx []) ∧ Sub K G H ∧ G x = none ∧ RpAll K G us ds ∧ ds.length = n ∧ PostK K E c x G H Q (F ds)
structure MkE (P : Program) (w : World) (K : PySem.W.Frag) (mg : Str → Option Value) (base : Heap) (k : Nat) (c : Str) (n : Nat) (F : FnI) : Prop where
  maker : Mk K (He.ga K c) (He.ma K (He.ga K c) "__init__")
  ex : ∃ fd ps, FnOk P w K mg base (L2.CX P w) k (He.ma K (He.ga K c) "__init__") fd ps (spI K c n F) ∧ Binds K fd ps []
  gl : mg c = some (.ref (He.ga K c))
  ln : ∀ ds, F ds ≠ none → ds.length = n
def mMake (c : Str) (F : FnI) (a : Mo (List D)) : Mo D := mBind a fun ds ρ => match F ds with
  | none => none
  | some (.error x) => some (.error x)
  | some (.ok kvs) => some (.ok (ρ, .dict ((.str c, .none) :: kvs)))
section
variable {X : Cx} {E : XK}
theorem make_sem {c : Str} {F : FnI} {n : Nat} {t : TA} {f : Mo (List D)} (q : ∀ G ρ σ H Q, J X.K G ρ σ H → Post X.K E (RpAll X.K) G ρ σ H Q (f ρ) → t σ H Q) (hl : ∀ ds, F ds ≠ none → ds.length = n) :
    ∀ G ρ σ H Q, J X.K G ρ σ H → Post X.K E (Rp X.K) G ρ σ H Q (mMake c F f ρ) → tMake (He.ga X.K c) (spI X.K c n F) [] E t σ H Q := by
  intro G ρ σ H Q j h
  refine q G ρ σ H _ j (Post.imp h fun G1 ρ1 vs H1 ds e1 r1 h1 => ?_)
  intro x dx hx hdx hne
  rw [List.append_nil]
  have h1' : Post X.K E (Rp X.K) G1 ρ1 σ H1 Q (match F ds with
    | none => none
    | some (.error x) => some (.error x)
    | some (.ok kvs) => some (.ok (ρ1, .dict ((.str c, .none) :: kvs)))) := h1
  have s12 : SameT H1 (upd (upd H1 dx (.own x)) x (.ins (He.ga X.K c) dx [])) := (sameT_upd hdx).trans (sameT_upd (by rw [upd_ne (Ne.symm hne)]; exact hx))
  have j1 := e1.j
  have ne : ∀ b, H1 b = none ∨ (upd (upd H1 dx (.own x)) x (.ins (He.ga X.K c) dx [])) b ≠ none := fun b => by
    cases q : H1 b with
    | none => exact .inl rfl
    | some o => exact .inr (let ⟨_, e⟩ := s12.toSame.some q; by rw [e]; simp)
  cases hF : F ds with
  | none => rw [hF] at h1'; exact h1'.elim
  | some r =>
    refine ⟨x, dx, vs, ds, G1, rfl, upd_same, j1.sub.up (j1.up s12), j1.sub.free hx, r1, hl ds (by rw [hF]; simp), ?_⟩
    rw [hF] at h1' ⊢
    cases r with
    | error y => exact fun C d H' z => h1' C d H' (XP.trans (j1.ex (j1.up s12)) z.of0)
    | ok kvs =>
      intro G' H' g new sb kept dm gx ob
      refine ⟨rfl, ?_⟩
      obtain ⟨d', fs, z1, z2⟩ := ob
      have sg : Same G' (upd G' x (.ins (He.ga X.K c) d' fs)) := same_upd gx
      have px : PX G1 H1 (upd G' x (.ins (He.ga X.K c) d' fs)) H' := by
        refine ⟨⟨fun b o hb => kept b o (fun e => by subst e; rw [hx] at hb; cases hb) (s12.toSame.s _ _ hb), s12.toSame.t.trans dm.t.t⟩, g.trans sg, (sb.take z1).toSame, fun b hb => ?_, fun P z => dm.t.n P (s12.g P z)⟩
        · by_cases e : b = x
          · subst e; exact .inr hx
          · rw [upd_ne e] at hb
            rcases new b hb with w | w
            · exact .inl w
            · rcases ne b with u | u
              · exact .inr u
              · exact absurd w u
      exact h1' _ _ H' (j1.ex px) (.obj upd_same (z2.mono sg))
theorem ev_make {k n : Nat} {c : Str} {F : FnI} {p pos : Pos} {e : Expr} {es : List Expr} {f : Mo (List D)} (hF : MkE X.prog X.w X.K X.mg X.base k c n F) (hr : Room (k + 1) X.A) (hx : Passes (L2.CX X.prog X.w) X E)
    (ha : EA X E (e :: es) f) (hg : Gl X c := by rfl) (hdb : (c == ("__debug__" : Str)) = false := by decide) (he : starEach (e :: es) X.env = (false, eval e X.env) :: starEach es X.env := by rfl)
    (hpl : (backTo pos (starEach es X.env)).any (·.1) = false := by rfl) : EV X E (.Call (.Name c p) (e :: es) [] pos) (mMake c F f) := by
  obtain ⟨M, ⟨fd, ps, h1, h2⟩, gl, hl⟩ := hF
  obtain ⟨t, pt, q⟩ := ha
  exact ⟨_, pe_make M h1 hr hg gl h2 .nil hx pt hdb he hpl, make_sem q hl⟩
end
theorem J.cons0 {K : PySem.W.Frag} {G H : Hp} {ρ : En} {σ : St} {o : Option V} (j : J K G ρ σ H) (no : ∀ b, ¬ Ownd ρ σ b) : J K G (.no :: ρ) (o :: σ) H := by
  refine ⟨j.sub, congrArg (· + 1) j.len, fun i d h => ?_, fun i s ds h hl => ?_, fun i k s t ds es b h1 l1 h2 l2 h3 h4 => ?_, fun i g o1 o2 z xs h1 h2 => ?_⟩
  · cases i with
    | zero => cases h
    | succ i => exact j.pur i d h
  · cases i with
    | zero => cases h; cases hl
    | succ i => exact j.hold i s ds h hl
  · cases i with
    | zero => cases h1; cases l1
    | succ i => cases k with
      | zero => cases h2; cases l2
      | succ k => exact congrArg (· + 1) (j.alone i k s t ds es b h1 l1 h2 l2 h3 h4)
  · cases i with
    | zero => cases h1
    | succ i =>
      obtain ⟨a, _, q, _⟩ := j.hold i _ _ h1 rfl
      exact absurd ⟨i, _, _, h1, rfl, q⟩ (no a)
theorem ownd_cons0 {ρ : En} {σ : St} {o : Option V} {b : Addr} (h : Ownd (.no :: ρ) (o :: σ) b) : Ownd ρ σ b := by
  obtain ⟨i, s, ds, h1, hl, h2⟩ := h
  cases i with
  | zero => cases h1; cases hl
  | succ i => exact ⟨i, s, ds, h1, hl, h2⟩
def runI (n : Nat) (g : MoO) : FnI := fun ds => match g [] (.no :: (ds.map Sl.pur ++ List.replicate (n - ds.length) Sl.no)) with
  | none => none
  | some (.error y) => some (.error y)
  | some (.ok (_, kvs)) => some (.ok kvs)
def guardI (n : Nat) (F : FnI) : FnI := fun ds => match Nat.beq ds.length n with
  | true => F ds
  | false => none
theorem start_cons {x : Str} {N : List Str} {v : V} {vs : List V} : start (x :: N) (v :: vs) = some v :: start N vs := by
  unfold L2.start
  simp [Nat.succ_sub_succ]
theorem init_ok {P : Program} {w : World} {K : PySem.W.Frag} {mg : Str → Option Value} {base : Heap} {c qual self : Str} {st : Stmt} {fd : FuncData} {N ps : List Str} {k : Nat} {g : MoO} (F : FunD K "__init__" qual (defArgs st) (defBody st) (defScope st) [] [] (He.ma K (He.ga K c) "__init__") fd) (S : FnScope (self :: N) (self :: ps) (defScope st))
    (M : Mk K (He.ga K c) (He.ma K (He.ga K c) "__init__")) (gl : mg c = some (.ref (He.ga K c)))
    (b : ∀ (kV doc pm : Value) (an : Option Addr) (cdv ct : Value) (us : List Value), us.length = (self :: ps).length → bindArgs (PySem.W.fnOf "__init__" qual (defArgs st) (defBody st) (defScope st) .none kV doc pm an cdv ct) ⟨us, []⟩ = pure ((self :: ps).zip us))
    (hb : ∀ (cdv : Value) (A : Around) (outer : List PySem.Env) (s : Shared) (H : Hp) (E : XK), Room k (A.deeper (PyProof.Rows.envOfC qual (defScope st) s.heap.objs.size (He.ma K (He.ga K c) "__init__") cdv)) → SO (cxOf (L2.CX P w) P w K mg base (self :: N) qual (defScope st) (He.ma K (He.ga K c) "__init__") cdv A outer s H E) E c (defBody st) g) :
    MkE P w K mg base (k + 1) c ps.length (guardI ps.length (runI N.length g)) := by
  have gl2 : ∀ ds, guardI ps.length (runI N.length g) ds ≠ none → ds.length = ps.length := fun ds h => by
    unfold guardI at h
    cases q : Nat.beq ds.length ps.length with
    | true => exact Nat.eq_of_beq_eq_true q
    | false => rw [q] at h; exact absurd rfl h
  refine ⟨M, ⟨fd, self :: ps, F.ok S (fun vs H Q E h => ?_) fun cdv A outer s H vs Q E hr h => ?_, F.bindsN b⟩, gl, gl2⟩
  · obtain ⟨x, dx, us, ds, G, rfl, _, _, _, r, hl, _⟩ := h
    show us.length + 1 = ps.length + 1
    rw [r.length, hl]
  · obtain ⟨t, p, q⟩ := hb cdv A outer s H E hr
    refine ⟨t, p, ?_⟩
    obtain ⟨x, dx, us, ds, G, rfl, hx, sb, gx, r, hl, k⟩ := h
    rw [start_cons]
    have j0 : J K G (.no :: (ds.map Sl.pur ++ List.replicate (N.length - ds.length) Sl.no)) (some (.ref x) :: start N us) H := (start_j sb r).cons0 fun b => start_no
    have no : ∀ b, ¬ Ownd (.no :: (ds.map Sl.pur ++ List.replicate (N.length - ds.length) Sl.no)) (some (.ref x) :: start N us) b := fun b z => start_no (ownd_cons0 z)
    refine q x [] G _ _ H _ j0 ⟨⟨dx, [], hx, .nil⟩, gx, no x⟩ rfl ?_
    unfold guardI at k
    have e0 : Nat.beq ds.length ps.length = true := by rw [hl]; exact Nat.beq_refl _
    rw [e0] at k
    unfold runI at k
    match hg : g [] (.no :: (ds.map Sl.pur ++ List.replicate (N.length - ds.length) Sl.no)), k with
    | none, k => simp only [hg] at k; exact k.elim
    | some (.error y), k => simp only [hg] at k; exact fun C d H' z => k C d H' (z.to0 no)
    | some (.ok (ρ', kvs)), k =>
      simp only [hg] at k
      intro G' σ' H' o
      intro σ''
      exact k G' H' o.g (fun b hb => (o.new b hb).elim .inl fun z => z.elim .inr fun z => absurd z (no b)) o.j.sub (fun b o' hb q => o.kept b o' hb q (no b)) o.dom o.ob.g o.ob.at_
end HB
namespace HB
open PySem L2
theorem tupN_ok {K : PySem.W.Frag} {x : Str} {vs : List He.Dv} (h : tupN K x vs = true) (H : Hp) : SqP K H (He.ga K x) (vs.map (He.Dv.v K)) := by
  have ⟨h1, h2⟩ := Bool.and_eq_true_iff.mp h
  rcases He.tupB_ok h1 (fun _ => none) with (z | ⟨_, z⟩) | ⟨o, its, n, l, c, d, z, r⟩
  · cases z
  · cases z
  · rw [l] at h2
    exact .inr ⟨o, its, n, l, Option.isNone_iff_eq_none.mp h2, c, d, z, r⟩
theorem tp_ok {tp : List (Str × List He.Dv)} {K : PySem.W.Frag} (c : (tp.all fun p => tupN K p.1 p.2) = true) (i : Nat) {p : Str × List He.Dv} (h : tp[i]? = some p := by rfl) : tupN K p.1 p.2 = true :=
  List.all_eq_true.mp c p (List.mem_of_getElem? h)
/-- plain values in a tuple -/
def dvD : He.Dv → D
  | .bl b => .bool b
  | .int i => .int i
  | .str x => .str x
  | _ => .none
def dvOk : He.Dv → Bool
  | .non => true
  | .bl _ => true
  | .int _ => true
  | .str _ => true
  | _ => false
theorem dv_rp {K : PySem.W.Frag} {H : Hp} : ∀ vs : List He.Dv, vs.all dvOk = true → RpAll K H (vs.map (He.Dv.v K)) (vs.map dvD)
  | [], _ => .nil
  | v :: vs, h => by
    obtain ⟨h1, h2⟩ := He.ba (show (dvOk v && vs.all dvOk) = true from h)
    refine .cons ?_ (dv_rp vs h2)
    cases v with
    | non => exact .non
    | bl b => exact .bl b
    | int i => exact .int i
    | str x => exact .str x
    | _ => cases h1
section
variable {mg : Str → Option Value} {K : PySem.W.Frag} {h : Heap}
theorem gl_tup {x : Str} {vs : List He.Dv} {ds : List D} (X : K.In h) (G : h.Ns mainGlobals mg) (c1 : (He.Fa.glo x).ok K = true) (c2 : tupN K x vs = true) (ok : vs.all dvOk = true) (e : vs.map dvD = ds) : GlD K mg x (.tuple ds) := by
  subst e
  exact ⟨.ref (He.ga K x), .ref (He.ga K x), He.glo_ok X G c1, rfl, fun H => .tup (tupN_ok c2 H) (dv_rp vs ok)⟩
theorem gl_int {x : Str} {i : Int} (X : K.In h) (G : h.Ns mainGlobals mg) (c : (He.Fa.int x i).ok K = true) : GlD K mg x (.int i) := by
  obtain ⟨t, e⟩ := He.int_ok X G c
  exact ⟨.int i, .int i t, e, ⟨t, rfl⟩, fun H => .int i⟩
end
def isT : Option (Except Exn D) → Bool
  | some (.ok (.bool true)) => true
  | _ => false
theorem isT_ok {o : Option (Except Exn D)} (h : isT o = true) : o = some (.ok (.bool true)) := by
  unfold isT at h
  split at h
  · rfl
  · cases h
def spE (sp : Sp) : Sp := fun vs H Q _ => sp vs H Q fun _ _ _ => False
theorem ok_cx0 {P : Program} {w : World} {K : PySem.W.Frag} {mg : Str → Option Value} {base : Heap} {k : Nat} {f : Addr} {fd : FuncData} {ps : List Str} {sp : Sp} (F : FnOk P w K mg base (L2.CX P w) k f fd ps sp) : FnOk P w K mg base CX0 k f fd ps (spE sp) := by
  refine ⟨fun vs H Q E q => F.len _ _ _ _ q, fun A outer s H args us vs Q E hr he hb hv hs => ?_⟩
  refine codeAny_mono (F.run A outer s H args us vs Q _ hr he hb hv hs) fun r s' h => ?_
  cases r with
  | error e =>
    obtain ⟨_, _, _, _, _, _, _, _, _, _, _, _, z⟩ := (show L2.CX P w outer H s (fun _ _ _ => False) e s' from h)
    exact z.elim
  | ok fl => cases fl <;> exact h
theorem fn_ok0 {P : Program} {w : World} {K : PySem.W.Frag} {mg : Str → Option Value} {base : Heap} {x : Str} {st : Stmt} {fd : FuncData} {N ps : List Str} {k : Nat} {g : Mo Fl} (F : FunD K x x (defArgs st) (defBody st) (defScope st) [] [] (He.ga K x) fd) (S : FnScope N ps (defScope st))
    (hb : ∀ (cdv : Value) (A : Around) (outer : List PySem.Env) (s : Shared) (H : Hp) (E : XK), Room k (A.deeper (PyProof.Rows.envOfC x (defScope st) s.heap.objs.size (He.ga K x) cdv)) → SVs (cxOf (L2.CX P w) P w K mg base N x (defScope st) (He.ga K x) cdv A outer s H E) E (defBody st) g) :
    FnOk P w K mg base (L2.CX P w) (k + 1) (He.ga K x) fd ps (spP K ps.length (guard ps.length (runF N.length g))) := by
  refine F.ok S (fun vs H Q E h => ?_) fun cdv A outer s H vs Q E hr h => ?_
  · obtain ⟨G, ds, _, r, hl, _⟩ := h
    rw [r.length, hl]
  · obtain ⟨t, p, q⟩ := hb cdv A outer s H E hr
    exact ⟨t, p, body_sem q h⟩
theorem rp_ints {K : PySem.W.Frag} {H : Hp} : ∀ ns : List Int, RpAll K H (ns.map V.int) (ns.map PyData.int)
  | [] => .nil
  | n :: ns => .cons (.int n) (rp_ints ns)
/-- the script as a datum -/
def scr (ns : List Int) : D := .dict [(.none, .list (ns.map PyData.int))]
theorem law_sp {K : PySem.W.Frag} {F : Fn} {n : Nat} (hT : ∀ ns : List Int, ns.length ≤ n → isT (F [scr ns]) = true) (H : Hp) (a : Addr) (ns : List Int) (hl : ns.length ≤ n) (hS : SqL K H a (ns.map V.int)) (tb : TabOk K H) :
    spE (spP K 1 F) [.ref a] H (fun v _ => v = .bl true) fun _ _ _ => False := by
  refine ⟨H, [scr ns], ⟨.refl _, tb⟩, .cons (.frz hS (rp_ints ns)) .nil, rfl, ?_⟩
  rw [isT_ok (hT ns hl)]
  intro G' v H' _ r
  cases r
  rfl
end HB
namespace HB
open PySem L2
def tI (K : PySem.W.Frag) (E : XK) (f : Mo Src) (js : List Nat) : TI := fun σ H R => ∃ G ρ, J K G ρ σ H ∧ PostI K E js G ρ σ H R (f ρ)
section
variable {X : Cx} {E : XK}
theorem IV.pi {tg iter : Expr} {f : Mo Src} {js : List Nat} (h : IV X E tg iter f js) : PI X tg iter (tI X.K E f js) := by
  obtain ⟨t, p, q⟩ := h
  exact ⟨fun pins s σ H R I ⟨G, ρ, j, z⟩ => p.run pins s σ H R I (q G ρ σ H R j z)⟩
theorem J.re {K : PySem.W.Frag} {G H G' H' : Hp} {ρ : En} {σ : St} (j : J K G ρ σ H) (no : ∀ b, ¬ Ownd ρ σ b) (g : Same G G') (s : Sub K G' H') : J K G' ρ σ H' := by
  refine ⟨s, j.len, fun i d h => ?_, fun i s0 ds h hl => ?_, j.alone, fun i g o1 o2 z xs h1 h2 => ?_⟩
  · obtain ⟨v, h1, h2⟩ := j.pur i d h
    exact ⟨v, h1, h2.mono g⟩
  · obtain ⟨a, vs, h1, _⟩ := j.hold i s0 ds h hl
    exact absurd ⟨i, s0, ds, h, hl, h1⟩ (no a)
  · obtain ⟨a, _, q, _⟩ := j.hold i _ _ h1 rfl
    exact absurd ⟨i, _, _, h1, rfl, q⟩ (no a)
end
end HB
namespace HB
open PySem L2
def gCP : Mo Fl := sSeq (sPar2 0 1 (xConsP (mBuilt absD (mCons (mVar 0) (mNil))) (xConsP (mBuilt absD (mCons (mVar 1) (mNil))) (xNil))))
  (sSeq (sWhile (fuelInt 1) (mTest (mOp (cmpD gtI) (mVar 1) (mRet (.int 0)))) (sPar2 0 1 (xConsP (mVar 1) (xConsP (mOp modD (mVar 0) (mVar 1)) (xNil)))))
  (sRet (mVar 0)))
theorem cp_loop : ∀ (m n k : Nat), m < k → whileL (mTest (mOp (cmpD gtI) (mVar 1) (mRet (.int 0)))) (sPar2 0 1 (xConsP (mVar 1) (xConsP (mOp modD (mVar 0) (mVar 1)) (xNil)))) k [.pur (.int n), .pur (.int m)] = some (.ok ([.pur (.int (Nat.gcd n m : Nat)), .pur (.int 0)], .nx)) := by
  refine fun m => Nat.strongRecOn m fun m ih => ?_
  · intro n k hk
    cases k with
    | zero => omega
    | succ k =>
      cases m with
      | zero => simp [whileL, mTest, mOp, mVar, mRet, mBind, mLift, cmpD, gtI, boolD]
      | succ m =>
        have h1 : gtI ((m + 1 : Nat) : Int) 0 = true := by unfold gtI; exact decide_eq_true (by omega)
        have h2 : (0 : Int) < ((m + 1 : Nat) : Int) := by omega
        have e : whileL (mTest (mOp (cmpD gtI) (mVar 1) (mRet (.int 0)))) (sPar2 0 1 (xConsP (mVar 1) (xConsP (mOp modD (mVar 0) (mVar 1)) (xNil)))) (k + 1) [.pur (.int n), .pur (.int ((m + 1 : Nat) : Int))] =
            whileL (mTest (mOp (cmpD gtI) (mVar 1) (mRet (.int 0)))) (sPar2 0 1 (xConsP (mVar 1) (xConsP (mOp modD (mVar 0) (mVar 1)) (xNil)))) k [.pur (.int ((m + 1 : Nat) : Int)), .pur (.int ((n % (m + 1) : Nat) : Int))] := by
          simp only [whileL, mTest, mOp, mVar, mRet, mBind, mLift, cmpD, boolD, List.getElem?_cons_succ, List.getElem?_cons_zero, h1, sPar2, xConsP, xNil, modD, h2, if_true, slOf, List.set]
          rfl
        rw [e, ih (n % (m + 1)) (Nat.mod_lt _ (Nat.succ_pos m)) (m + 1) k (Nat.lt_of_lt_of_le (Nat.mod_lt n (Nat.succ_pos m)) (by omega))]
        rw [Nat.gcd_comm (m + 1), ← Nat.gcd_rec (m + 1) n, Nat.gcd_comm]
def M_common_part : Fn
  | [.int a, .int b] => some (.ok (.int (Nat.gcd a.natAbs b.natAbs : Nat)))
  | _ => none
theorem absI (i : Int) : (if i < 0 then -i else i) = (i.natAbs : Int) := by
  split <;> omega
theorem cp_run (a b : Int) : runF 2 gCP [.int a, .int b] = some (.ok (.int (Nat.gcd a.natAbs b.natAbs : Nat))) := by
  have e : gCP [.pur (.int a), .pur (.int b)] = sSeq (sWhile (fuelInt 1) (mTest (mOp (cmpD gtI) (mVar 1) (mRet (.int 0)))) (sPar2 0 1 (xConsP (mVar 1) (xConsP (mOp modD (mVar 0) (mVar 1)) (xNil))))) (sRet (mVar 0)) [.pur (.int (a.natAbs : Int)), .pur (.int (b.natAbs : Int))] := by
    rw [← absI a, ← absI b]
    rfl
  have e2 : gCP [.pur (.int a), .pur (.int b)] = some (.ok ([.pur (.int (Nat.gcd a.natAbs b.natAbs : Nat)), .pur (.int 0)], .rt (.int (Nat.gcd a.natAbs b.natAbs : Nat)))) := by
    rw [e]
    unfold sSeq mBind sWhile
    have ef : fuelInt 1 [.pur (.int (a.natAbs : Int)), .pur (.int (b.natAbs : Int))] = b.natAbs + 1 := rfl
    rw [ef, cp_loop b.natAbs a.natAbs (b.natAbs + 1) (Nat.lt_succ_self _)]
    rfl
  show (match gCP [.pur (.int a), .pur (.int b)] with
    | none => none
    | some (.error x) => some (.error x)
    | some (.ok (_, .nx)) => some (.ok .none)
    | some (.ok (_, .rt d)) => some (.ok d)
    | some (.ok (_, _)) => none : Option (Except Exn D)) = _
  rw [e2]
theorem mir_common_part (ds : List D) (r : Except Exn D) (h : M_common_part ds = some r) : guard 2 (runF 2 gCP) ds = some r := by
  unfold M_common_part at h
  split at h
  · rw [← h]
    exact cp_run _ _
  · cases h
def gIL : Mo Fl := sSeq (sSet 2 (mCall M_common_part (mCons (mVar 0) (mCons (mVar 1) (mNil)))))
  (sRet (mIf (mTest (mOp (cmpD gtI) (mVar 1) (mRet (.int 0)))) (mTup (mCons (mOp fdivD (mVar 0) (mVar 2)) (mCons (mOp fdivD (mVar 1) (mVar 2)) (mNil)))) (mTup (mCons (mOp fdivD (mUn negD (mVar 0)) (mVar 2)) (mCons (mOp fdivD (mUn negD (mVar 1)) (mVar 2)) (mNil))))))
/-- in lowest terms -/
def lowD (t b : Int) : Option (Except Exn D) := match Nat.blt 0 (Nat.gcd t.natAbs b.natAbs) && Nat.blt (Nat.gcd t.natAbs b.natAbs).log2 9000 with
  | false => none
  | true => match gtI b 0 with
    | true => some (.ok (.tuple [.int (t / (Nat.gcd t.natAbs b.natAbs : Nat)), .int (b / (Nat.gcd t.natAbs b.natAbs : Nat))]))
    | false => some (.ok (.tuple [.int (-t / (Nat.gcd t.natAbs b.natAbs : Nat)), .int (-b / (Nat.gcd t.natAbs b.natAbs : Nat))]))
def M_in_lowest : Fn
  | [.int t, .int b] => lowD t b
  | _ => none
theorem fdiv_nat {i : Int} {g : Nat} (h1 : 0 < g) (h2 : g.log2 < 9000) : fdivD (.int i) (.int (g : Int)) = some (.int (i / (g : Int))) := by
  unfold fdivD
  simp only
  rw [if_pos ⟨by omega, by rw [Int.natAbs_natCast]; exact h2⟩]
theorem mir_in_lowest (ds : List D) (r : Except Exn D) (h : M_in_lowest ds = some r) : guard 2 (runF 3 gIL) ds = some r := by
  unfold M_in_lowest at h
  split at h
  · rename_i t b
    unfold lowD at h
    cases hc : Nat.blt 0 (Nat.gcd t.natAbs b.natAbs) && Nat.blt (Nat.gcd t.natAbs b.natAbs).log2 9000 with
    | false => rw [hc] at h; cases h
    | true =>
      rw [hc] at h
      obtain ⟨c1, c2⟩ := Bool.and_eq_true_iff.mp hc
      have g1 : 0 < Nat.gcd t.natAbs b.natAbs := Nat.le_of_ble_eq_true c1
      have g2 : (Nat.gcd t.natAbs b.natAbs).log2 < 9000 := Nat.le_of_ble_eq_true c2
      have f1 : ∀ i : Int, fdivD (.int i) (.int (Nat.gcd t.natAbs b.natAbs : Nat)) = some (.int (i / (Nat.gcd t.natAbs b.natAbs : Nat))) := fun i => fdiv_nat g1 g2
      have e0 : guard 2 (runF 3 gIL) [.int t, .int b] = runF 3 gIL [.int t, .int b] := rfl
      rw [e0, ← h]
      cases hb : gtI b 0 with
      | true => simp [runF, gIL, sSeq, sSet, setSl, mBind, mCall, mCons, mNil, mVar, mRet, M_common_part, sRet, mIf, mTest, mOp, mUn, negD, mLift, cmpD, boolD, hb, f1, mTup, sizeOk]
      | false => simp [runF, gIL, sSeq, sSet, setSl, mBind, mCall, mCons, mNil, mVar, mRet, M_common_part, sRet, mIf, mTest, mOp, mUn, negD, mLift, cmpD, boolD, hb, f1, mTup, sizeOk]
  · cases h
def gAdd : Mo Fl := sRet (mCall M_in_lowest (mCons (mOp addD (mOp mulD (mOp ixD (mVar 0) (mRet (.int 0))) (mOp ixD (mVar 1) (mRet (.int 1)))) (mOp mulD (mOp ixD (mVar 1) (mRet (.int 0))) (mOp ixD (mVar 0) (mRet (.int 1))))) (mCons (mOp mulD (mOp ixD (mVar 0) (mRet (.int 1))) (mOp ixD (mVar 1) (mRet (.int 1)))) (mNil))))
def gLess : Mo Fl := sRet (mCall M_in_lowest (mCons (mOp subD (mOp mulD (mOp ixD (mVar 0) (mRet (.int 0))) (mOp ixD (mVar 1) (mRet (.int 1)))) (mOp mulD (mOp ixD (mVar 1) (mRet (.int 0))) (mOp ixD (mVar 0) (mRet (.int 1))))) (mCons (mOp mulD (mOp ixD (mVar 0) (mRet (.int 1))) (mOp ixD (mVar 1) (mRet (.int 1)))) (mNil))))
def gMul : Mo Fl := sRet (mCall M_in_lowest (mCons (mOp mulD (mOp ixD (mVar 0) (mRet (.int 0))) (mOp ixD (mVar 1) (mRet (.int 0)))) (mCons (mOp mulD (mOp ixD (mVar 0) (mRet (.int 1))) (mOp ixD (mVar 1) (mRet (.int 1)))) (mNil))))
def gQuo : Mo Fl := sRet (mCall M_in_lowest (mCons (mOp mulD (mOp ixD (mVar 0) (mRet (.int 0))) (mOp ixD (mVar 1) (mRet (.int 1)))) (mCons (mOp mulD (mOp ixD (mVar 0) (mRet (.int 1))) (mOp ixD (mVar 1) (mRet (.int 0)))) (mNil))))
def gLt : Mo Fl := sRet (mOp (cmpD ltI) (mOp mulD (mOp ixD (mVar 0) (mRet (.int 0))) (mOp ixD (mVar 1) (mRet (.int 1)))) (mOp mulD (mOp ixD (mVar 1) (mRet (.int 0))) (mOp ixD (mVar 0) (mRet (.int 1)))))
def M_added : Fn
  | [.tuple [.int a, .int b], .tuple [.int c, .int d]] => (match mulFit a d && (mulFit c b && mulFit b d) with
    | true => lowD (a * d + c * b) (b * d)
    | false => none)
  | _ => none
def M_less_by : Fn
  | [.tuple [.int a, .int b], .tuple [.int c, .int d]] => (match mulFit a d && (mulFit c b && mulFit b d) with
    | true => lowD (a * d - c * b) (b * d)
    | false => none)
  | _ => none
def M_multiplied : Fn
  | [.tuple [.int a, .int b], .tuple [.int c, .int d]] => (match mulFit a c && mulFit b d with
    | true => lowD (a * c) (b * d)
    | false => none)
  | _ => none
def M_quotient : Fn
  | [.tuple [.int a, .int b], .tuple [.int c, .int d]] => (match mulFit a d && mulFit b c with
    | true => lowD (a * d) (b * c)
    | false => none)
  | _ => none
def M_is_less : Fn
  | [.tuple [.int a, .int b], .tuple [.int c, .int d]] => (match mulFit a d && mulFit c b with
    | true => some (.ok (.bool (ltI (a * d) (c * b))))
    | false => none)
  | _ => none
theorem mul_of {i j : Int} (h : mulFit i j = true) : mulD (.int i) (.int j) = some (.int (i * j)) := by
  unfold mulD
  simp only [h]
theorem ix0 (a b : D) : ixD (.tuple [a, b]) (.int 0) = some a := rfl
theorem ix1 (a b : D) : ixD (.tuple [a, b]) (.int 1) = some b := rfl
theorem mir_added (ds : List D) (r : Except Exn D) (h : M_added ds = some r) : guard 2 (runF 2 gAdd) ds = some r := by
  unfold M_added at h
  split at h
  · rename_i a b c d
    cases hc : mulFit a d && (mulFit c b && mulFit b d) with
    | false => rw [hc] at h; cases h
    | true =>
      rw [hc] at h
      obtain ⟨c1, c2⟩ := Bool.and_eq_true_iff.mp hc
      obtain ⟨c2, c3⟩ := Bool.and_eq_true_iff.mp c2
      have h : lowD (a * d + c * b) (b * d) = some r := h
      cases r <;> simp [guard, runF, gAdd, sRet, mCall, mCons, mNil, mOp, mBind, mLift, mVar, mRet, ix0, ix1, mul_of c1, mul_of c2, mul_of c3, addD, M_in_lowest, h]
  · cases h
theorem mir_less_by (ds : List D) (r : Except Exn D) (h : M_less_by ds = some r) : guard 2 (runF 2 gLess) ds = some r := by
  unfold M_less_by at h
  split at h
  · rename_i a b c d
    cases hc : mulFit a d && (mulFit c b && mulFit b d) with
    | false => rw [hc] at h; cases h
    | true =>
      rw [hc] at h
      obtain ⟨c1, c2⟩ := Bool.and_eq_true_iff.mp hc
      obtain ⟨c2, c3⟩ := Bool.and_eq_true_iff.mp c2
      have h : lowD (a * d - c * b) (b * d) = some r := h
      cases r <;> simp [guard, runF, gLess, sRet, mCall, mCons, mNil, mOp, mBind, mLift, mVar, mRet, ix0, ix1, mul_of c1, mul_of c2, mul_of c3, subD, M_in_lowest, h]
  · cases h
theorem mir_multiplied (ds : List D) (r : Except Exn D) (h : M_multiplied ds = some r) : guard 2 (runF 2 gMul) ds = some r := by
  unfold M_multiplied at h
  split at h
  · rename_i a b c d
    cases hc : mulFit a c && mulFit b d with
    | false => rw [hc] at h; cases h
    | true =>
      rw [hc] at h
      obtain ⟨c1, c2⟩ := Bool.and_eq_true_iff.mp hc
      have h : lowD (a * c) (b * d) = some r := h
      cases r <;> simp [guard, runF, gMul, sRet, mCall, mCons, mNil, mOp, mBind, mLift, mVar, mRet, ix0, ix1, mul_of c1, mul_of c2, M_in_lowest, h]
  · cases h
theorem mir_quotient (ds : List D) (r : Except Exn D) (h : M_quotient ds = some r) : guard 2 (runF 2 gQuo) ds = some r := by
  unfold M_quotient at h
  split at h
  · rename_i a b c d
    cases hc : mulFit a d && mulFit b c with
    | false => rw [hc] at h; cases h
    | true =>
      rw [hc] at h
      obtain ⟨c1, c2⟩ := Bool.and_eq_true_iff.mp hc
      have h : lowD (a * d) (b * c) = some r := h
      cases r <;> simp [guard, runF, gQuo, sRet, mCall, mCons, mNil, mOp, mBind, mLift, mVar, mRet, ix0, ix1, mul_of c1, mul_of c2, M_in_lowest, h]
  · cases h
theorem mir_is_less (ds : List D) (r : Except Exn D) (h : M_is_less ds = some r) : guard 2 (runF 2 gLt) ds = some r := by
  unfold M_is_less at h
  split at h
  · rename_i a b c d
    cases hc : mulFit a d && mulFit c b with
    | false => rw [hc] at h; cases h
    | true =>
      rw [hc] at h
      obtain ⟨c1, c2⟩ := Bool.and_eq_true_iff.mp hc
      have h : some (Except.ok (PyData.bool (ltI (a * d) (c * b)))) = some r := h
      rw [← h]
      simp [guard, runF, gLt, sRet, mOp, mBind, mLift, mVar, mRet, ix0, ix1, mul_of c1, mul_of c2, cmpD]
  · cases h
end HB
namespace HB
open PySem L2
abbrev FnN := List D → Option (Except Exn (List D))
def PostFN (K : PySem.W.Frag) (G H : Hp) (Q : VK) : Option (Except Exn (List D)) → Prop
  | some (.ok ds) => ∀ G' a vs H', PX G H G' H' → H a = none → G' a = none → H' a = some (.lst vs) → RpAll K G' vs ds → Q (.ref a) H'
  | _ => False
def spN (K : PySem.W.Frag) (n : Nat) (F : FnN) : Sp := fun vs H Q _ => ∃ G ds, Sub K G H ∧ RpAll K G vs ds ∧ ds.length = n ∧ PostFN K G H Q (F ds)
structure FnNE (P : Program) (w : World) (K : PySem.W.Frag) (mg : Str → Option Value) (base : Heap) (k : Nat) (x : Str) (n : Nat) (F : FnN) : Prop where
  ex : ∃ fd ps, FnOk P w K mg base (L2.CX P w) k (He.ga K x) fd ps (spN K n F) ∧ Binds K fd ps []
  kp : PySem.W.keepIn K (.ref (He.ga K x)) = true
  gl : mg x = some (.ref (He.ga K x))
  ln : ∀ ds, F ds ≠ none → ds.length = n
def mCallN (F : FnN) (a : Mo (List D)) : Mo (List D) := mBind a fun ds ρ => match F ds with
  | some (.ok es) => some (.ok (ρ, es))
  | _ => none
section
variable {X : Cx} {E : XK}
theorem en_call {k n : Nat} {x : Str} {F : FnN} {p pos : Pos} {e : Expr} {es : List Expr} {f : Mo (List D)} (hF : FnNE X.prog X.w X.K X.mg X.base k x n F) (hr : Room k X.A) (hx : Passes (L2.CX X.prog X.w) X E)
    (ha : EA X E (e :: es) f) (hg : Gl X x := by rfl) (hdb : (x == ("__debug__" : Str)) = false := by decide) (he : starEach (e :: es) X.env = (false, eval e X.env) :: starEach es X.env := by rfl)
    (hpl : (backTo pos (starEach es X.env)).any (·.1) = false := by rfl) : EN X E (.Call (.Name x p) (e :: es) [] pos) (mCallN F f) := by
  obtain ⟨⟨fd, ps, h1, h2⟩, kp, gl, hl⟩ := hF
  obtain ⟨t, pt, q⟩ := ha
  refine ⟨_, pe_call h1 hr hg gl kp h2 .nil hx pt hdb he hpl, fun G ρ σ H Q j h => ?_⟩
  refine q G ρ σ H _ j (Post.impN h fun G1 ρ1 vs H1 ds e1 r1 h1 => ?_)
  show spN X.K n F (vs ++ []) H1 Q E
  rw [List.append_nil]
  have h1' : PostN X.K E G1 ρ1 σ H1 Q (match F ds with
    | some (.ok es) => some (.ok (ρ1, es))
    | _ => none) := h1
  match hf : F ds, h1' with
  | none, h1' => simp only [hf] at h1'; exact h1'.elim
  | some (.error _), h1' => simp only [hf] at h1'; exact h1'.elim
  | some (.ok es2), h1' =>
    simp only [hf] at h1'
    refine ⟨G1, ds, e1.j.sub, r1, hl ds (by rw [hf]; simp), ?_⟩
    rw [hf]
    intro G' a ws H' px z1 z2 z3 z4
    exact h1' G' (.ref a) H' (e1.j.ex px) ⟨a, ws, rfl, z1, z2, z3, e1.j.nown z1, z4⟩
/-- a body that ends with: return a new list -/
def PostR (K : PySem.W.Frag) (E : XK) (G : Hp) (ρ : En) (σ : St) (H : Hp) (De : Ends) : Option (Except Exn (En × List D)) → Prop
  | some (.ok (ρ', ds)) => ∀ G' σ' a vs H', Ex K G ρ σ H G' ρ' σ' H' → H a = none → G' a = none → H' a = some (.lst vs) → RpAll K G' vs ds → De.rt (.ref a) H'
  | _ => False
def SVN (X : Cx) (E : XK) (s : List Stmt) (g : Mo (List D)) : Prop := ∃ t, PSs X s t ∧ ∀ G ρ σ H De, J X.K G ρ σ H → PostR X.K E G ρ σ H De (g ρ) → t De σ H
def rRet (f : Mo (List D)) : Mo (List D) := fun ρ => match f ρ with
  | some (.ok r) => some (.ok r)
  | _ => none
theorem svn_ret {e : Expr} {f : Mo (List D)} {pos : Pos} (h : EN X E e f) : SVN X E [.Return (some e) pos] (rRet f) := by
  obtain ⟨t, p, q⟩ := h
  refine ⟨_, pss_one (ps_ret p), fun G ρ σ H De j h => q G ρ σ H _ j ?_⟩
  unfold rRet at h
  match hf : f ρ, h with
  | none, h => exact h.elim
  | some (.error _), h => exact h.elim
  | some (.ok (ρ', ds)), h =>
    intro G' v H' e r
    obtain ⟨a, vs, rfl, z1, z2, z3, no, z4⟩ := r
    exact h G' σ a vs H' e z1 z2 z3 z4
def rSeq (a : Mo Fl) (g : Mo (List D)) : Mo (List D) := fun ρ => match a ρ with
  | some (.ok (ρ1, .nx)) => g ρ1
  | _ => none
theorem svn_cons {s : Stmt} {rest : List Stmt} {a : Mo Fl} {g : Mo (List D)} (h1 : SV X E s a) (h2 : SVN X E rest g) : SVN X E (s :: rest) (rSeq a g) := by
  obtain ⟨t, p, q⟩ := h1
  obtain ⟨t2, p2, q2⟩ := h2
  refine ⟨_, pss_cons p p2, fun G ρ σ H De j h => q G ρ σ H _ j ?_⟩
  unfold rSeq at h
  match ha : a ρ, h with
  | none, h => exact h.elim
  | some (.error _), h => exact h.elim
  | some (.ok (ρ1, .nx)), h =>
    intro G1 σ1 H1 e1
    refine q2 G1 ρ1 σ1 H1 De e1.j ?_
    match hg : g ρ1, h with
    | none, h => simp only [hg] at h; exact h.elim
    | some (.error _), h => simp only [hg] at h; exact h.elim
    | some (.ok (ρ2, ds)), h =>
      simp only [hg] at h
      exact fun G' σ' a vs H' e2 z1 z2 z3 z4 => h G' σ' a vs H' (e1.trans e2) (e1.dom a z1) z2 z3 z4
  | some (.ok (ρ1, .rt _)), h => exact h.elim
  | some (.ok (ρ1, .bk)), h => exact h.elim
  | some (.ok (ρ1, .ct)), h => exact h.elim
end
def runN (n : Nat) (g : Mo (List D)) : FnN := fun ds => match g (ds.map Sl.pur ++ List.replicate (n - ds.length) Sl.no) with
  | some (.ok (_, es)) => some (.ok es)
  | _ => none
def guardN (n : Nat) (F : FnN) : FnN := fun ds => match Nat.beq ds.length n with
  | true => F ds
  | false => none
theorem fn_okN {P : Program} {w : World} {K : PySem.W.Frag} {mg : Str → Option Value} {base : Heap} {x : Str} {st : Stmt} {fd : FuncData} {N ps : List Str} {k : Nat} {g : Mo (List D)} (F : FunD K x x (defArgs st) (defBody st) (defScope st) [] [] (He.ga K x) fd) (S : FnScope N ps (defScope st)) (gl : mg x = some (.ref (He.ga K x)))
    (b : ∀ (kV doc pm : Value) (an : Option Addr) (cdv ct : Value) (us : List Value), us.length = ps.length → bindArgs (PySem.W.fnOf x x (defArgs st) (defBody st) (defScope st) .none kV doc pm an cdv ct) ⟨us, []⟩ = pure (ps.zip us))
    (hb : ∀ (cdv : Value) (A : Around) (outer : List PySem.Env) (s : Shared) (H : Hp) (E : XK), Room k (A.deeper (PyProof.Rows.envOfC x (defScope st) s.heap.objs.size (He.ga K x) cdv)) → SVN (cxOf (L2.CX P w) P w K mg base N x (defScope st) (He.ga K x) cdv A outer s H E) E (defBody st) g) :
    FnNE P w K mg base (k + 1) x ps.length (guardN ps.length (runN N.length g)) := by
  refine ⟨⟨fd, ps, F.ok S (fun vs H Q E h => ?_) fun cdv A outer s H vs Q E hr h => ?_, F.bindsN b⟩, F.kp, gl, fun ds h => ?_⟩
  · obtain ⟨G, ds, _, r, hl, _⟩ := h
    rw [r.length, hl]
  · obtain ⟨t, p, q⟩ := hb cdv A outer s H E hr
    refine ⟨t, p, ?_⟩
    obtain ⟨G, ds, sb, r, hl, k⟩ := h
    have e0 : guardN ps.length (runN N.length g) ds = runN N.length g ds := by
      unfold guardN
      have e : Nat.beq ds.length ps.length = true := by rw [hl]; exact Nat.beq_refl _
      rw [e]
    rw [e0] at k
    refine q G _ _ H _ (start_j sb r) ?_
    have no : ∀ b, ¬ Ownd (ds.map Sl.pur ++ List.replicate (N.length - ds.length) Sl.no) (start N vs) b := fun b => start_no
    unfold runN at k
    match hg : g (ds.map Sl.pur ++ List.replicate (N.length - ds.length) Sl.no), k with
    | none, k => simp only [hg] at k; exact k.elim
    | some (.error _), k => simp only [hg] at k; exact k.elim
    | some (.ok (ρ', es)), k =>
      simp only [hg] at k
      exact fun G' σ' a ws H' z z1 z2 z3 z4 => k G' a ws H' (z.px no) z1 z2 z3 z4
  · unfold guardN at h
    cases q : Nat.beq ds.length ps.length with
    | true => exact Nat.eq_of_beq_eq_true q
    | false => rw [q] at h; exact absurd rfl h
end HB
namespace HB
open PySem L2
theorem fdiv_of {i j : Int} (h1 : 0 < j) (h2 : Nat.blt j.natAbs.log2 9000 = true) : fdivD (.int i) (.int j) = some (.int (i / j)) := by
  unfold fdivD
  simp only
  rw [if_pos ⟨h1, Nat.le_of_ble_eq_true h2⟩]
theorem mod_of {i j : Int} (h1 : 0 < j) : modD (.int i) (.int j) = some (.int (i % j)) := by
  unfold modD
  simp only
  rw [if_pos h1]
end HB
namespace HB
open PySem L2
theorem log_small {n : Nat} (h : n < 2 ^ 200) : n.log2 < 200 := by
  by_cases e : n = 0
  · subst e; decide
  · exact (Nat.log2_lt e).mpr h
theorem fit_of {i j : Int} (hi : i.natAbs < 2 ^ 200) (hj : j.natAbs < 2 ^ 200) : mulFit i j = true := by
  unfold mulFit
  have h1 := log_small hi
  have h2 := log_small hj
  exact Nat.ble_eq_true_of_le (by omega)
end HB
namespace HB
open PySem L2
section
variable {X : Cx} {E : XK}
def fnD (x : Str) : D := .dict [(.none, .str x)]
theorem ev_fn {x : Str} {pos : Pos} (gl : X.mg x = some (.ref (He.ga X.K x))) (hg : Gl X x := by rfl) (hd : (x == ("__debug__" : Str)) = false := by decide) : EV X E (.Name x pos) (mRet (fnD x)) :=
  ⟨_, pe_glob (v := .ref (He.ga X.K x)) hg gl rfl hd, fun G ρ σ H Q j h => h G _ H j.refl (.fn x)⟩
def lookF (x : Str) : List (Str × Nat × Fn) → Option (Nat × Fn)
  | [] => none
  | (y, F) :: r => if y = x then some F else lookF x r
def mCallV (i : Nat) (tab : List (Str × Nat × Fn)) (a : Mo (List D)) : Mo D := fun ρ => match ρ[i]? with
  | some (.pur (.dict [(.none, .str x)])) => (match lookF x tab with
    | some F => mCall F.2 a ρ
    | none => none)
  | _ => none
def TabE (P : Program) (w : World) (K : PySem.W.Frag) (mg : Str → Option Value) (base : Heap) (k : Nat) (tab : List (Str × Nat × Fn)) : Prop := ∀ x n F, lookF x tab = some (n, F) → ∃ j ps, j ≤ k ∧ ps.length = n ∧ FnE P w K mg base j x ps F
theorem tabE_nil {P : Program} {w : World} {K : PySem.W.Frag} {mg : Str → Option Value} {base : Heap} {k : Nat} : TabE P w K mg base k [] := fun x n F h => by cases h
theorem tabE_cons {P : Program} {w : World} {K : PySem.W.Frag} {mg : Str → Option Value} {base : Heap} {k j n : Nat} {x : Str} {ps : List Str} {F : Fn} {tab : List (Str × Nat × Fn)} (h : FnE P w K mg base j x ps F) (t : TabE P w K mg base k tab) (hj : j ≤ k := by decide) (hn : ps.length = n := by rfl) : TabE P w K mg base k ((x, n, F) :: tab) := fun y m F' e => by
  have e' : (if x = y then some (n, F) else lookF y tab) = some (m, F') := e
  split at e'
  · rename_i q
    cases e'
    subst q
    exact ⟨j, ps, hj, hn, h⟩
  · exact t y m F' e'
theorem ev_callV {i k : Nat} {x : Str} {tab : List (Str × Nat × Fn)} {p pos : Pos} {e : Expr} {es : List Expr} {f : Mo (List D)} (hT : TabE X.prog X.w X.K X.mg X.base k tab) (hr : Room k X.A) (hx : Passes (L2.CX X.prog X.w) X E)
    (ha : EA X E (e :: es) f) (hN : X.N[i]? = some x := by rfl) (hv : Vis X.env.scope x := by first | exact Or.inl rfl | exact Or.inr (Or.inl rfl) | exact Or.inr (Or.inr rfl)) (hdb : (x == ("__debug__" : Str)) = false := by decide) (hcd : (x == ("__classdict__" : Str)) = false := by decide)
    (he : starEach (e :: es) X.env = (false, eval e X.env) :: starEach es X.env := by rfl) (hpl : (backTo pos (starEach es X.env)).any (·.1) = false := by rfl) : EV X E (.Call (.Name x p) (e :: es) [] pos) (mCallV i tab f) := by
  obtain ⟨t, pt, q⟩ := ha
  refine ⟨fun σ H Q => ∃ y n F, lookF y tab = some (n, F) ∧ tCallL i (He.ga X.K y) (spP X.K n F) [] E t σ H Q, ⟨fun pins s σ H Q I h => ?_⟩, fun G ρ σ H Q j h => ?_⟩
  · obtain ⟨y, n, F, hl, h⟩ := h
    obtain ⟨j, ps, hj, rfl, ⟨⟨fd, h1, h2⟩, kp, gl, hln⟩⟩ := hT y n F hl
    exact (pe_callL h1 (hr.mono hj) hN hv kp h2 .nil hx pt hdb hcd he hpl).run pins s σ H Q I h
  · unfold mCallV at h
    split at h
    · rename_i y hq
      cases hl : lookF y tab with
      | none => rw [hl] at h; exact h.elim
      | some nF =>
        obtain ⟨n, F⟩ := nF
        rw [hl] at h
        obtain ⟨v, h1, h2⟩ := j.pur i _ hq
        obtain ⟨_, ps, _, rfl, ⟨_, _, _, hln⟩⟩ := hT y n F hl
        cases h2 with
        | fn _ => exact ⟨y, _, F, hl, h1, call_sem q hln G ρ σ H Q j h⟩
    · exact h.elim
structure MeE (P : Program) (w : World) (K : PySem.W.Frag) (mg : Str → Option Value) (base : Heap) (k : Nat) (c m : Str) (n : Nat) (F : Fn) : Prop where
  cls : Cls K (He.ga K c)
  me : Meth K (He.ga K c) m (He.ma K (He.ga K c) m)
  ex : ∃ fd ps, FnOk P w K mg base (L2.CX P w) k (He.ma K (He.ga K c) m) fd ps (spP K n F) ∧ Binds K fd ps []
  ln : ∀ ds, F ds ≠ none → ds.length = n
def noKey (f : Str) : List (D × D) → Bool
  | [] => true
  | (.str g, _) :: r => if g = f then false else noKey f r
  | _ :: _ => false
theorem RpF.noLook {K : PySem.W.Frag} {G : Hp} {f : Str} : ∀ {fs : List (Str × V)} {kvs : List (D × D)}, RpF K G fs kvs → noKey f kvs = true → fs.lookup f = none
  | _, _, .nil, _ => rfl
  | _, _, @RpF.cons _ _ g v fs e kvs _ t, q => by
    have q' : (if g = f then false else noKey f kvs) = true := q
    by_cases z : g = f
    · rw [if_pos z] at q'; cases q'
    · rw [if_neg z] at q'
      have e1 : (f == g) = false := beq_eq_false_iff_ne.mpr (Ne.symm z)
      simp only [List.lookup, e1]
      exact t.noLook q'
/-- an object of the class, and the method is not hidden by a field -/
def isObj (c m : Str) : D → Bool
  | .dict ((.str c', .none) :: kvs) => if c' = c then noKey m kvs else false
  | _ => false
theorem Rp.isObj {K : PySem.W.Frag} {G : Hp} {v : V} {d : D} {c m : Str} (r : Rp K G v d) (h : HB.isObj c m d = true) : ∃ a dx fs, v = .ref a ∧ G a = some (.ins (He.ga K c) dx fs) ∧ fs.lookup m = none := by
  cases r with
  | @obj a dx c' fs kvs h1 h2 =>
    have h' : (if c' = c then noKey m kvs else false) = true := h
    split at h'
    · rename_i e
      subst e
      exact ⟨a, dx, fs, rfl, h1, h2.noLook h'⟩
    · cases h'
  | frz h1 h2 => cases h
  | fn _ => cases h
  | adr _ => cases h
  | _ => cases h
def mMeth (c m : Str) (F : Fn) (o : Mo D) (a : Mo (List D)) : Mo D := mBind o fun d => match isObj c m d with
  | true => mBind a fun ds ρ => match F (d :: ds) with
    | none => none
    | some (.error x) => some (.error x)
    | some (.ok r) => some (.ok (ρ, r))
  | false => fun _ => none
theorem meth_sem {c m : Str} {F : Fn} {n : Nat} {ta : TE} {t : TA} {fo : Mo D} {f : Mo (List D)} (qo : ∀ G ρ σ H Q, J X.K G ρ σ H → Post X.K E (Rp X.K) G ρ σ H Q (fo ρ) → ta σ H Q)
    (q : ∀ G ρ σ H Q, J X.K G ρ σ H → Post X.K E (RpAll X.K) G ρ σ H Q (f ρ) → t σ H Q) (hl : ∀ ds, F ds ≠ none → ds.length = n) :
    ∀ G ρ σ H Q, J X.K G ρ σ H → Post X.K E (Rp X.K) G ρ σ H Q (mMeth c m F fo f ρ) → tMeth (He.ga X.K c) m (spP X.K n F) [] E ta t σ H Q := by
  intro G ρ σ H Q j h
  refine qo G ρ σ H _ j (Post.imp h fun G1 ρ1 x H1 d e1 r1 h1 => ?_)
  cases hb : isObj c m d with
  | false => rw [hb] at h1; exact h1.elim
  | true =>
    rw [hb] at h1
    obtain ⟨a, dx, fs, rfl, z1, z2⟩ := r1.isObj hb
    refine ⟨a, dx, fs, rfl, e1.j.sub _ _ z1, z2, ?_⟩
    refine q G1 ρ1 σ H1 _ e1.j (Post.imp h1 fun G2 ρ2 vs H2 ds e2 r2 h2 => ?_)
    rw [List.append_nil]
    cases hF : F (d :: ds) with
    | none => rw [hF] at h2; exact h2.elim
    | some r =>
      refine ⟨G2, d :: ds, e2.j.sub, .cons (r1.mono e2.g) r2, hl _ (by rw [hF]; simp), ?_⟩
      rw [hF] at h2 ⊢
      cases r with
      | error y => exact fun C dx H' z => h2 C dx H' z.of0
      | ok r => exact fun G' v H' p rv => h2 G' v H' (e2.j.ex p) rv
/-- what o.m(..) runs: the receiver, the method, the arguments -/
abbrev byMeth (X : Cx) (o : Expr) (m : Str) (apos pos : Pos) (pl : Sem Bool) (args : List Expr) : Sem Value :=
  eval o X.env >>= fun ov => standAt apos.atName >>= fun _ => holding [ov] (getMethod ov m pl) >>= fun fm => callWith pos fm.1 fm.2 (backTo pos (starEach args X.env)) (backToKw pos (keywordEach [] X.env))
theorem ev_meth0 {k n : Nat} {c m : Str} {F : Fn} {o : Expr} {fo : Mo D} {apos pos : Pos} {pl : Sem Bool} (hM : MeE X.prog X.w X.K X.mg X.base k c m n F) (hr : Room k X.A) (hx : Passes (L2.CX X.prog X.w) X E) (ho : EV X E o fo)
    (ht : eval (.Call (.Attribute o m apos) [] [] pos) X.env = byMeth X o m apos pos pl [] := by rfl) : EV X E (.Call (.Attribute o m apos) [] [] pos) (mMeth c m F fo mNil) := by
  obtain ⟨hc, me, ⟨fd, ps, h1, h2⟩, hl⟩ := hM
  obtain ⟨ta, po, qo⟩ := ho
  exact ⟨_, pe_meth0 po hc me h1 hr h2 .nil hx ht, meth_sem qo (fun G ρ σ H Q j h => h G _ H j.refl .nil) hl⟩
end
theorem meth_ok {P : Program} {w : World} {K : PySem.W.Frag} {mg : Str → Option Value} {base : Heap} {c m qual : Str} {st : Stmt} {fd : FuncData} {N ps : List Str} {k : Nat} {g : Mo Fl} (F : FunD K m qual (defArgs st) (defBody st) (defScope st) [] [] (He.ma K (He.ga K c) m) fd) (S : FnScope N ps (defScope st)) (hc : Cls K (He.ga K c)) (me : Meth K (He.ga K c) m (He.ma K (He.ga K c) m))
    (b : ∀ (kV doc pm : Value) (an : Option Addr) (cdv ct : Value) (us : List Value), us.length = ps.length → bindArgs (PySem.W.fnOf m qual (defArgs st) (defBody st) (defScope st) .none kV doc pm an cdv ct) ⟨us, []⟩ = pure (ps.zip us))
    (hb : ∀ (cdv : Value) (A : Around) (outer : List PySem.Env) (s : Shared) (H : Hp) (E : XK), Room k (A.deeper (PyProof.Rows.envOfC qual (defScope st) s.heap.objs.size (He.ma K (He.ga K c) m) cdv)) → SVs (cxOf (L2.CX P w) P w K mg base N qual (defScope st) (He.ma K (He.ga K c) m) cdv A outer s H E) E (defBody st) g) :
    MeE P w K mg base (k + 1) c m ps.length (guard ps.length (runF N.length g)) := by
  refine ⟨hc, me, ⟨fd, ps, F.ok S (fun vs H Q E h => ?_) fun cdv A outer s H vs Q E hr h => ?_, F.bindsN b⟩, fun ds h => guard_len h⟩
  · obtain ⟨G, ds, _, r, hl, _⟩ := h
    rw [r.length, hl]
  · obtain ⟨t, p, q⟩ := hb cdv A outer s H E hr
    exact ⟨t, p, body_sem q h⟩
end HB
namespace HB
open PySem L2
section
variable {X : Cx} {E : XK}
def revD : D → Option D
  | .list ds => some (.list ds.reverse)
  | .tuple ds => some (.tuple ds.reverse)
  | .dict [(.none, .list ds)] => some (.list ds.reverse)
  | _ => none
def isM1 : Option Int → Bool
  | some (.negSucc 0) => true
  | _ => false
theorem isM1_ok {o : Option Int} (h : isM1 o = true) : o = some (-1) := by
  match o, h with
  | some (.negSucc 0), _ => rfl
def mRev (f : Mo D) (s : Mo (Option Int)) : Mo D := mBind f fun d => mBind s fun o => match isM1 o with
  | true => mLift (revD d)
  | false => fun _ => none
theorem RpAll.rev {K : PySem.W.Frag} {G : Hp} : ∀ {xs : List V} {ds : List D}, RpAll K G xs ds → RpAll K G xs.reverse ds.reverse
  | _, _, .nil => .nil
  | _, _, .cons r t => by
    simp only [List.reverse_cons]
    exact t.rev.append (.cons r .nil)
theorem ev_rev {e st : Expr} {f : Mo D} {fs : Mo (Option Int)} {p3 pos : Pos} (h : EV X E e f) (hs : EO X E (some st) fs) : EV X E (.Subscript e (.Slice none none (some st) p3) pos) (mRev f fs) := by
  obtain ⟨t, p, q⟩ := h
  obtain ⟨tl, pl, ql⟩ := hs
  refine ⟨_, pe_back p pl, fun G ρ σ H Q j h => q G ρ σ H _ j (Post.imp h fun G1 ρ1 v H1 d e1 r1 h1 => ?_)⟩
  refine ql G1 ρ1 σ H1 _ e1.j (Post.imp h1 fun G2 ρ2 l H2 l' e2 rl h2 => ?_)
  subst rl
  cases hm : isM1 l with
  | false => rw [hm] at h2; exact h2.elim
  | true =>
    rw [hm] at h2
    refine ⟨isM1_ok hm, ?_⟩
    obtain ⟨c, hc, k⟩ := Post.lift (ρ' := ρ2) h2
    have s3 := e2.j.sub
    cases r1.mono e2.g with
    | @lst a xs ds z1 z2 =>
      cases hc
      refine .inl ⟨a, xs, rfl, .of (s3 _ _ z1), fun p hp => ?_⟩
      have px : PX G2 H2 _ _ := .alloc s3 hp (.lst xs.reverse)
      exact k _ _ _ (e2.j.ex px) (.lst upd_same (z2.rev.mono px.g))
    | @tup a xs ds z1 z2 =>
      cases hc
      refine .inr ⟨a, xs, rfl, sqT_mono s3 z1.t, fun p o hp nd => ?_⟩
      have px : PX G2 H2 _ _ := .alloc s3 hp (.frz o (.tup xs.reverse))
      exact k _ _ _ (e2.j.ex px) (.tup (.new nd) (z2.rev.mono px.g))
    | @frz a xs ds z1 z2 =>
      cases hc
      refine .inl ⟨a, xs, rfl, s3.seq z1, fun p hp => ?_⟩
      have px : PX G2 H2 _ _ := .alloc s3 hp (.lst xs.reverse)
      exact k _ _ _ (e2.j.ex px) (.lst upd_same (z2.rev.mono px.g))
    | obj _ _ => cases hc
    | _ => cases hc
/-- both are plain data -/
def bothD (a b : D) (r : D) : Option D := if SeqAt.shaped a = true ∧ SeqAt.shaped b = true then some r else none
def inTD : D → D → Option D
  | d, .tuple ds => bothD d (.tuple ds) (.bool (ds.any fun z => PyData.eqv z d))
  | d, e => inD d e
def notInTD : D → D → Option D
  | d, .tuple ds => bothD d (.tuple ds) (.bool (!ds.any fun z => PyData.eqv z d))
  | d, e => notInD d e
/-- a question about plain data and a tuple of such -/
def rAskT (K : PySem.W.Frag) (f : D → List D → Bool) : R2 := fun x y H Q => ∃ d ds, Dp K H x d ∧ Dp K H y (.tuple ds) ∧ SeqAt.shaped d = true ∧ SeqAt.shaped (.tuple ds) = true ∧ Q (.bl (f d ds)) H
theorem op_inT (hu : X.A.units + 65 < cLine) : OpR X (compareOp .In) (rAskT X.K fun d ds => ds.any fun z => PyData.eqv z d) := fun pins s σ H x y v u Q I rx ry ⟨d, ds, hd, he, sd, se, q⟩ =>
  have ⟨_, r1⟩ := Dp.reads I d x v hd rx
  have ⟨_, r2⟩ := Dp.reads I (.tuple ds) y u he ry
  SeqAt.in_tuple_reads r2 r1 (SeqAt.canLay_of_shaped se) (SeqAt.canLay_of_shaped sd) (PyProof.Rows.room_in_shaped sd hu) ⟨.bl _, H, I, rfl, q⟩
theorem op_notInT (hu : X.A.units + 65 < cLine) : OpR X (compareOp .NotIn) (rAskT X.K fun d ds => !ds.any fun z => PyData.eqv z d) := fun pins s σ H x y v u Q I rx ry ⟨d, ds, hd, he, sd, se, q⟩ =>
  have ⟨_, r1⟩ := Dp.reads I d x v hd rx
  have ⟨_, r2⟩ := Dp.reads I (.tuple ds) y u he ry
  SeqAt.notIn_tuple_reads r2 r1 (SeqAt.canLay_of_shaped se) (SeqAt.canLay_of_shaped sd) (PyProof.Rows.room_in_shaped sd hu) ⟨.bl _, H, I, rfl, q⟩
/-- a tuple first, else as before -/
theorem dop_tup {sem : Value → Value → Sem Value} {f : D → List D → Bool} {g g' : D → D → Option D} (o : OpR X sem (rAskT X.K f)) (h0 : DOp X sem g') (e1 : ∀ d ds, g d (.tuple ds) = bothD d (.tuple ds) (.bool (f d ds))) (e2 : ∀ d e, (∀ ds, e ≠ .tuple ds) → g d e = g' d e) : DOp X sem g := by
  obtain ⟨r, o', hr⟩ := h0
  refine ⟨_, o.or o', fun G H x y a b c Q s hx hy h k => ?_⟩
  by_cases hb : ∃ ds, b = .tuple ds
  · obtain ⟨ds, rfl⟩ := hb
    rw [e1] at h
    obtain ⟨⟨h3, h4⟩, rfl⟩ := ite_some h
    exact .inl ⟨a, ds, hx.shaped s h3, hy.shaped s h4, h3, h4, k G _ H (.refl s) (.bl _)⟩
  · rw [e2 a b fun ds z => hb ⟨ds, z⟩] at h
    exact .inr (hr G H x y a b c Q s hx hy h k)
theorem dop_inT (hu : X.A.units + 65 < cLine) : DOp X (compareOp .In) inTD := dop_tup (op_inT hu) (dop_in hu) (fun _ _ => rfl) fun d e ne => by
  cases e with
  | tuple ds => exact absurd rfl (ne ds)
  | _ => rfl
theorem dop_notInT (hu : X.A.units + 65 < cLine) : DOp X (compareOp .NotIn) notInTD := dop_tup (op_notInT hu) (dop_notIn hu) (fun _ _ => rfl) fun d e ne => by
  cases e with
  | tuple ds => exact absurd rfl (ne ds)
  | _ => rfl
end
end HB
namespace HB
open PySem L2
section
variable {X : Cx} {E : XK}
def mPop0 (i : Nat) : Mo D := fun ρ => match ρ[i]? with
  | some (.own ds) => (match ds[ds.length - 1]? with
    | some d => some (.ok (ρ.set i (.own ds.dropLast), d))
    | none => none)
  | _ => none
theorem RpAll.dropLast {K : PySem.W.Frag} {G : Hp} {vs : List V} {ds : List D} (r : RpAll K G vs ds) : RpAll K G vs.dropLast ds.dropLast := by
  rw [List.dropLast_eq_take, List.dropLast_eq_take, r.length]
  exact r.take _
theorem ev_pop0 {i : Nat} {x : Str} {p1 apos pos : Pos} (hN : X.N[i]? = some x := by rfl) (hv : Vis X.env.scope x := by first | exact Or.inl rfl | exact Or.inr (Or.inl rfl) | exact Or.inr (Or.inr rfl)) (hd : (x == ("__debug__" : Str)) = false := by decide) (hcd : (x == ("__classdict__" : Str)) = false := by decide)
    (base : attributeBase (.Name x p1) "pop" X.env (eval (.Name x p1) X.env) = eval (.Name x p1) X.env := by rfl) (line : (apos.endLine == pos.line) = true := by rfl) : EV X E (.Call (.Attribute (.Name x p1) "pop" apos) [] [] pos) (mPop0 i) := by
  refine ⟨_, pe_bm0 PySem.F.plainAttrs_list PySem.F.slot_list_pop PySem.F.type_list_pop mt_pop (pe_var hN hv hd hcd) base line, fun G ρ σ H Q j h => ?_⟩
  unfold mPop0 at h
  split at h
  · rename_i ds hs
    cases hl : ds[ds.length - 1]? with
    | none => rw [hl] at h; exact h.elim
    | some d =>
      rw [hl] at h
      obtain ⟨a, vs, h1, h2, h3, h4⟩ := j.own i _ ds hs rfl
      obtain ⟨v, y1, y2⟩ := h4.get hl
      exact ⟨.ref a, h1, .inl ⟨rfl, vs, .of h2⟩, a, vs, v, rfl, rfl, h2, by rw [h4.length]; exact y1, h G v _ (j.put hs h1 h4.dropLast) y2⟩
  · exact h.elim
def mInO (neg : Bool) (i : Nat) (f : Mo D) : Mo D := mBind f fun d ρ => match ρ[i]? with
  | some (.own ds) => mLift (bothD d (.list ds) (.bool (neg ^^ (ds.any fun z => PyData.eqv z d)))) ρ
  | _ => none
theorem inO_sem {neg : Bool} {i : Nat} {r : R2} {t : TE} {f : Mo D} (q : ∀ G ρ σ H Q, J X.K G ρ σ H → Post X.K E (Rp X.K) G ρ σ H Q (f ρ) → t σ H Q)
    (hr : ∀ (H : Hp) (y : V) (a : Addr) (d : D) (ds : List D) (Q : VK), Dp X.K H y d → Dp X.K H (.ref a) (.list ds) → SeqAt.shaped d = true → SeqAt.shaped (.list ds) = true → Q (.bl (neg ^^ (ds.any fun z => PyData.eqv z d))) H → r y (.ref a) H Q) :
    ∀ G ρ σ H Q, J X.K G ρ σ H → Post X.K E (Rp X.K) G ρ σ H Q (mInO neg i f ρ) → tOp r t (tVar i) σ H Q := by
  intro G ρ σ H Q j h
  refine q G ρ σ H _ j (Post.imp h fun G1 ρ1 y H1 d e1 r1 h1 => ?_)
  cases hs : ρ1[i]? with
  | none => rw [hs] at h1; exact h1.elim
  | some sl =>
    rw [hs] at h1
    cases sl with
    | own ds =>
      obtain ⟨c, hc, k⟩ := Post.lift (ρ' := ρ1) h1
      obtain ⟨⟨h3, h4⟩, rfl⟩ := ite_some (show (if SeqAt.shaped d = true ∧ SeqAt.shaped (.list ds) = true then some (PyData.bool (neg ^^ (ds.any fun z => PyData.eqv z d))) else none) = some c from hc)
      obtain ⟨a, vs, g1, g2, g3, g4⟩ := e1.j.own i _ ds hs rfl
      refine ⟨.ref a, g1, hr H1 y a d ds Q (r1.shaped e1.j.sub h3) ?_ h3 h4 (k G1 _ H1 e1.j.refl (.bl _))⟩
      exact .lst (.of g2) (RpAll.dp ds (SeqAt.canLay_of_shaped h4) (g4.mono e1.j.sub))
    | no => exact h1.elim
    | box _ => exact h1.elim
    | dl _ _ _ => exact h1.elim
    | gst _ _ => exact h1.elim
    | pur _ => exact h1.elim
theorem et_notInO {i : Nat} {x : Str} {e : Expr} {f : Mo D} {p1 pos : Pos} (h : EV X E e f) (hu : X.A.units + 65 < cLine) (hN : X.N[i]? = some x := by rfl) (hv : Vis X.env.scope x := by first | exact Or.inl rfl | exact Or.inr (Or.inl rfl) | exact Or.inr (Or.inr rfl)) (hd : (x == ("__debug__" : Str)) = false := by decide) (hcd : (x == ("__classdict__" : Str)) = false := by decide)
    (hm : behindInMarks .NotIn (.Name x p1) = false := by rfl) : ET X E (.Compare e [.NotIn] [.Name x p1] pos) (mTest (mInO true i f)) := by
  obtain ⟨t, p, q⟩ := h
  exact ⟨_, pt_cmpR (op_notInD hu) p (pe_var hN hv hd hcd) hm, test_sem (inO_sem q fun H y a d ds Q h1 h2 h3 h4 k => ⟨d, ds, h1, h2, h3, h4, by simpa using k⟩)⟩
def intsD : List D → Option (List Int)
  | [] => some []
  | .int n :: r => (intsD r).map (n :: ·)
  | _ :: _ => none
theorem RpAll.ints {K : PySem.W.Frag} {G : Hp} : ∀ {vs : List V} {ds : List D} {ns : List Int}, RpAll K G vs ds → intsD ds = some ns → vs = ns.map V.int
  | _, _, _, .nil, e => by cases e; rfl
  | _, _, ns, .cons (d := d) (ds := ds) r t, e => by
    cases d with
    | int n =>
      cases r
      cases q : intsD ds with
      | none => simp [intsD, q] at e
      | some ms =>
        simp [intsD, q] at e
        subst e
        rw [t.ints q]
        rfl
    | _ => cases e
def maxI : Int → List Int → Int
  | m, [] => m
  | m, n :: r => maxI (if m < n then n else m) r
theorem maxI_ok : ∀ (r : List Int) (m : Int), (maxI m r = m ∨ maxI m r ∈ r) ∧ m ≤ maxI m r ∧ ∀ y ∈ r, y ≤ maxI m r
  | [], m => ⟨.inl rfl, Int.le_refl _, fun _ h => nomatch h⟩
  | n :: r, m => by
    obtain ⟨h1, h2, h3⟩ := maxI_ok r (if m < n then n else m)
    have e : maxI m (n :: r) = maxI (if m < n then n else m) r := rfl
    rw [e]
    have up1 : m ≤ (if m < n then n else m) := by split <;> omega
    have up2 : n ≤ (if m < n then n else m) := by split <;> omega
    refine ⟨?_, Int.le_trans up1 h2, fun y hy => ?_⟩
    · rcases h1 with z | z
      · rw [z]
        split
        · exact .inr List.mem_cons_self
        · exact .inl rfl
      · exact .inr (List.mem_cons_of_mem _ z)
    · rcases List.mem_cons.mp hy with z | z
      · rw [z]; exact Int.le_trans up2 h2
      · exact h3 y z
def max1D : List D → Option D
  | [.list ds] => (match intsD ds with
    | some (n :: r) => some (.int (maxI n r))
    | _ => none)
  | _ => none
theorem dc_max1 (hc : X.calm = true) : DCall X (.builtin "max") max1D := by
  refine ⟨_, cr_max hc, fun G H xs ds c Q s hx h k => ?_⟩
  match ds, h with
  | [.list ds], h =>
    obtain ⟨x, rfl, r⟩ := hx.one
    unfold max1D at h
    cases r with
    | @lst a vs _ h1 h2 =>
      match hi : intsD ds, h with
      | some (n :: ms), h =>
        simp only [hi] at h
        cases h
        have e := h2.ints hi
        subst e
        refine ⟨a, n :: ms, rfl, .of (s _ _ h1), Nat.succ_pos _, fun m hm hall => ?_⟩
        obtain ⟨y1, y2, y3⟩ := maxI_ok ms n
        have up : maxI n ms ∈ n :: ms := y1.elim (fun z => by rw [z]; exact List.mem_cons_self) fun z => List.mem_cons_of_mem _ z
        have le : m ≤ maxI n ms := (List.mem_cons.mp hm).elim (fun z => by rw [z]; exact y2) fun z => y3 m z
        have same : m = maxI n ms := Int.le_antisymm le (hall _ up)
        rw [same]
        exact k G _ H (.refl s) (.int _)
      | none, h => simp only [hi] at h; cases h
      | some [], h => simp only [hi] at h; cases h
def gNames : List Nat → TGs
  | [] => gNil
  | i :: is => gCons (gName i) (gNames is)
def NV (X : Cx) (tgs : List Expr) (is : List Nat) : Prop := PGs X tgs (gNames is)
theorem nv_nil : NV X [] [] := pgs_nil
theorem nv_cons {i : Nat} {x : Str} {p : Pos} {tgs : List Expr} {is : List Nat} (h : NV X tgs is) (hN : X.N.Nodup) (hi : X.N[i]? = some x := by rfl) (hx : Loc X.env.scope x := by first | exact Or.inl rfl | exact Or.inr rfl) (hf : X.fn x = true ∨ X.env.scope.names.lookup x = some .local := by first | exact .inl rfl | exact .inr rfl)
    (hs : (assignEach (.Name x p :: tgs) X.env).map (·.2) = assign (.Name x p) X.env :: (assignEach tgs X.env).map (·.2) := by rfl) : NV X (.Name x p :: tgs) (i :: is) := pgs_cons (pg_name hN hi hx hf) h hs
def setAll : En → List Nat → List Tm → En
  | ρ, i :: is, t :: ts => setAll (ρ.set i (slOf t)) is ts
  | ρ, _, _ => ρ
def sParN (is : List Nat) (f : Mo (List Tm)) : Mo Fl := mBind f fun ts ρ => match Nat.beq ts.length is.length && Nat.ble ts.length 1000000 with
  | true => some (.ok (setAll ρ is ts, .nx))
  | false => none
theorem RT.len {K : PySem.W.Frag} {H0 G H : Hp} {ρ : En} {σ : St} : ∀ {vs : List V} {ts : List Tm}, RT K H0 G H ρ σ vs ts → vs.length = ts.length
  | [], [], _ => rfl
  | _ :: _, .p _ :: _, h => congrArg (· + 1) (RT.len h.2)
  | _ :: _, .o _ :: _, h => congrArg (· + 1) (RT.len h.2)
theorem RT.heap {K : PySem.W.Frag} {H0 G H H2 : Hp} {ρ : En} {σ : St} (s : Same H H2) : ∀ {vs : List V} {ts : List Tm}, RT K H0 G H ρ σ vs ts → RT K H0 G H2 ρ σ vs ts
  | [], [], _ => trivial
  | _ :: _, .p _ :: _, h => ⟨h.1, RT.heap s h.2⟩
  | _ :: _, .o _ :: _, h => let ⟨⟨a, us, h1, h2, h3, h4, h5⟩, h6⟩ := h; ⟨⟨a, us, h1, h2, h3, s _ _ h4, h5⟩, RT.heap s h6⟩
theorem names_sem {K : PySem.W.Frag} {G H G' H' : Hp} {ρ : En} {σ : St} {R : St → Hp → Prop} : ∀ (is : List Nat) {vs : List V} {ts : List Tm} {ρ' : En} {σ' : St}, Ex K G ρ σ H G' ρ' σ' H' → RT K H G' H' ρ' σ' vs ts → ts.length = is.length →
    (∀ σ2, Ex K G ρ σ H G' (setAll ρ' is ts) σ2 H' → R σ2 H') → gNames is vs σ' H' R
  | [], vs, [], ρ', σ', e, r, _, k => ⟨r.nil, k σ' e⟩
  | i :: is, vs, t :: ts, ρ', σ', e, r, hl, k => by
    obtain ⟨v, ws, rfl⟩ := r.cons
    obtain ⟨e2, r2⟩ := RT.put e i r
    exact ⟨v, ws, rfl, names_sem is e2 r2 (Nat.succ.inj hl) k⟩
theorem s_parN {is : List Nat} {tgs es : List Expr} {f : Mo (List Tm)} {kt k2 : Nat} {pt pt2 pos : Pos} (hc : X.calm = true) (hn : NV X tgs is) (h : EX X E es f) (ln : (assignEach tgs X.env).length = is.length := by rfl) (st : (assignEach tgs X.env).findIdx? (·.1) = none := by rfl)
    (hs : swapsWithSole [.Tuple tgs kt pt] (.Tuple es k2 pt2) pos.line X.env = pure false := by rfl) (hw : swappedStores [.Tuple tgs kt pt] (.Tuple es k2 pt2) X.env = pure none := by rfl)
    (ha : (assignEach [.Tuple tgs kt pt] X.env).map (·.2) = [assign (.Tuple tgs kt pt) X.env] := by rfl) : SV X E (.Assign [.Tuple tgs kt pt] (.Tuple es k2 pt2) pos) (sParN is f) := by
  obtain ⟨t, p, q⟩ := h
  refine ⟨_, ps_asg (pe_tupP p) (pg_tup hc hn ln st) hs hw ha, fun G ρ σ H De j h => q G ρ σ H _ j ?_⟩
  unfold sParN mBind at h
  match hh : f ρ, h with
  | none, h => exact h.elim
  | some (.error y), h => exact h
  | some (.ok (ρ1, ts)), h =>
    intro G1 vs H1 e1 r1
    simp only at h
    cases hb : Nat.beq ts.length is.length && Nat.ble ts.length 1000000 with
    | false => rw [hb] at h; exact h.elim
    | true =>
      rw [hb] at h
      obtain ⟨b1, b2⟩ := Bool.and_eq_true_iff.mp hb
      have hl : ts.length = is.length := Nat.eq_of_beq_eq_true b1
      have lv := r1.len
      refine ⟨by rw [lv]; exact line_of (Nat.le_of_ble_eq_true b2), fun p o hp nd => ⟨p, vs, rfl, (SqP.new nd).t, lv.trans hl, ?_⟩⟩
      have up : Same H1 (upd H1 p (.frz o (.tup vs))) := same_upd hp
      have px : PX G1 H1 G1 (upd H1 p (.frz o (.tup vs))) := ⟨up, .refl _, e1.j.sub.toSame.trans up, fun _ z => .inl z, fun _ t => tabG_put t (pl_none hp)⟩
      exact names_sem is (e1.trans (e1.j.ex px)) (r1.heap up) hl fun σ2 e2 => h G1 σ2 _ e2
end
end HB
namespace HB
open PySem L2
section
variable {X : Cx} {E : XK}
def mCntO (i : Nat) (f : Mo D) : Mo D := fun ρ => match ρ[i]? with
  | some (.own _) => mBind f (fun d ρ1 => match ρ1[i]? with
    | some (.own ds) => mLift (bothD d (.list ds) (.int (ds.countP fun z => PyData.eqv z d : Nat))) ρ1
    | _ => none) ρ
  | _ => none
end
end HB
namespace HB
open PySem L2
theorem oexB_ok {K : PySem.W.Frag} {C : Addr} (h : oexB K C = true) : OexC K C := by
  have ⟨h1, h⟩ := He.ba h
  have ⟨h2, h⟩ := He.ba h
  have ⟨h3, h⟩ := He.ba h
  have ⟨h4, h5⟩ := He.ba h
  refine ⟨?_, He.eqO_ok h2, of_decide_eq_true h3, of_decide_eq_true h4, h5⟩
  split at h1
  · rename_i dd cd sl look
    split at h1
    · rename_i C2 bm k0 k1 k2 k3 n k5 mro slots
      have ⟨e1, h1⟩ := He.ba h1
      have ⟨e2, h1⟩ := He.ba h1
      have ⟨e3, h1⟩ := He.ba h1
      have ⟨e4, e5⟩ := He.ba h1
      obtain ⟨nm, bs, mr, ns, qn, hd, sn, sub, ab, col, del⟩ := cd
      have e6 : sl = #[k0, k1, k2, k3, some (.builtin n), k5] := by
        obtain ⟨l⟩ := sl
        exact congrArg Array.mk slots
      have e1 := of_decide_eq_true e1
      have e2 := of_decide_eq_true e2
      have e3 : del = false := by simpa using e3
      have e4 : hd = true := e4
      have mro : mr = .ref C2 :: bm := mro
      subst e1 e2 e3 e4 mro e6
      exact ⟨nm, qn, ns, bs, bm, sn, sub, ab, col, dd, k0, k1, k2, k3, k5, look, e5⟩
    · cases h1
  · cases h1
structure ExcF (K : PySem.W.Frag) (c f : Str) : Prop where
  o : OexC K (He.ga K c)
  x : XfC K (He.ga K c)
  n : PySem.W.findIn K (.ref (He.ga K c)) f = some none
  i : PySem.W.findIn K (.ref (He.ga K c)) "__init__" = some (some (.ref (He.ma K (He.ga K c) "__init__")))
  t : PySem.W.typeIn K (.ref (He.ma K (He.ga K c) "__init__")) = some (.type "function")
theorem excB_ok {K : PySem.W.Frag} {c f : Str} (h : excB K c f = true) : ExcF K c f := by
  have ⟨h1, h⟩ := He.ba h
  have ⟨h2, h⟩ := He.ba h
  have ⟨h3, h⟩ := He.ba h
  have ⟨h4, h5⟩ := He.ba h
  exact ⟨oexB_ok h1, xfB_ok h2, He.eqO_ok h3, He.eqO_ok h4, of_decide_eq_true h5⟩
structure BotF (K : PySem.W.Frag) (b : Str) : Prop where
  r : PySem.W.readsIn K (He.ga K b) (.type "type") = true
  f : PySem.W.findCls K (.ref (He.ga K b)) (.type "type") "__init__" = some (.val (.builtin "ValueError.__init__"))
  s : PySem.W.specialIn K (.ref (He.ga K b)) "__getattribute__" = some (some (.builtin "type.__getattribute__"))
theorem botB_ok {K : PySem.W.Frag} {b : Str} (h : botB K b = true) : BotF K b := by
  have ⟨h1, h⟩ := He.ba h
  split at h
  · rename_i e
    exact ⟨h1, e, He.eqO_ok h⟩
  · cases h
section
variable {X : Cx} {e : Expr} {es : List Expr} {ta : TA} {b f : Str} {p p1 p2 pos : Pos}
theorem pe_binit {pl : Sem Bool} (hg : Gl X b) (hm : X.mg b = some (.ref (He.ga X.K b))) (B : BotF X.K b) (ha : PA X (e :: es) ta)
    (hc : eval (.Call (.Attribute (.Name b p1) "__init__" p2) (e :: es) [] pos) X.env = (do
      let ow ← eval (.Name b p1) X.env
      standAt p2.atName
      let (fx, fst) ← holding [ow] (getMethod ow "__init__" pl)
      callWith pos fx fst (backTo pos (starEach (e :: es) X.env)) (backToKw pos (keywordEach [] X.env))) := by rfl)
    (hdb : (b == ("__debug__" : Str)) = false := by decide) (he : starEach (e :: es) X.env = (false, eval e X.env) :: starEach es X.env := by rfl) (hpl : (backTo pos (starEach es X.env)).any (·.1) = false := by rfl) :
    PE X (.Call (.Attribute (.Name b p1) "__init__" p2) (e :: es) [] pos) (tVeI X.K ta) := by
  constructor; intro pins s σ H Q I h
  refine PySem.W.methodCall_KW (ld_glob I hg hm (PySem.W.method_cls I.kIn B.s (PySem.W.cls_value I.kIn B.r B.f (by decide +kernel) ?_)) hdb) hc
  show wpAny _ _ (callWith pos (Value.builtin "ValueError.__init__") [] (backTo pos (starEach (e :: es) X.env)) []) _ _ _; refine PyProof.Rows.callWith_method1 (thn (ha.run pos pins _ σ H _ (I.tok _) h) ?_) he hpl
  rintro us s1 ⟨vs, H1, I1, r1, a, C, ws, rfl, hl, T, ea, q⟩
  match us, r1 with
  | _ :: ur, .cons rfl rest =>
    have long : ur.length ≤ sizeLine := by
      have := Paired.length rest
      have : sizeLine = 16777216 := by decide
      omega
    exact oinit_ok T I1 ea long fun s2 J2 => ⟨.non, H1, J2, rfl, q⟩
end
/-- what such an __init__ leaves: the field in a new dict -/
def spExc (K : PySem.W.Frag) (C : Addr) (f : Str) : Sp := fun vs H Q _ => ∃ (a : Addr) (v : V), vs = [.ref a, v] ∧ H a = some (exo a C none) ∧ ∀ d, H d = none → d ≠ a → Q .non (upd (upd H d (exd d [(f, v)])) a (exo a C (some d)))
theorem exc_suite {X : Cx} {b f x : Str} {txt : Str} {ck : Nat} {p1 p2 p3 p4 p5 p6 p7 p8 p9 p10 : Pos} {C : Addr} (hN0 : X.N[0]? = some ("self" : Str)) (hN1 : X.N[1]? = some x) (hv0 : Vis X.env.scope ("self" : Str)) (hv1 : Vis X.env.scope x)
    (hg : Gl X b) (hm : X.mg b = some (.ref (He.ga X.K b))) (B : BotF X.K b) (O : OexC X.K C) (hn : PySem.W.findIn X.K (.ref C) f = some none) (hd1 : (x == ("__debug__" : Str)) = false) (hd2 : (x == ("__classdict__" : Str)) = false) (hdb : (b == ("__debug__" : Str)) = false)
    {pl : Sem Bool} (hc : eval (.Call (.Attribute (.Name b p1) "__init__" p2) [.Name "self" p3, .Constant (.str txt) ck p4] [] p5) X.env = (do
      let ow ← eval (.Name b p1) X.env
      standAt p2.atName
      let (fx, fst) ← holding [ow] (getMethod ow "__init__" pl)
      callWith p5 fx fst (backTo p5 (starEach [.Name "self" p3, .Constant (.str txt) ck p4] X.env)) (backToKw p5 (keywordEach [] X.env)))) 
    (hs1 : swapsWith (.Call (.Attribute (.Name b p1) "__init__" p2) [.Name "self" p3, .Constant (.str txt) ck p4] [] p5) none p6.line X.env = pure false) (hs2 : swapsWith (.Name x p9) (some (.Attribute (.Name "self" p7) f p8)) p10.line X.env = pure false) :
    ∃ t, PSs X [.Expr (.Call (.Attribute (.Name b p1) "__init__" p2) [.Name "self" p3, .Constant (.str txt) ck p4] [] p5) p6, .Assign [.Attribute (.Name "self" p7) f p8] (.Name x p9) p10] t ∧
      ∀ (D : Ends) (σ : St) (H : Hp) (a : Addr) (v : V), σ[0]? = some (some (.ref a)) → σ[1]? = some (some v) → H a = some (exo a C none) → (∀ d, H d = none → d ≠ a → D.nx σ (upd (upd H d (exd d [(f, v)])) a (exo a C (some d)))) → t D σ H := by
  have e0 : PE X (.Name "self" p3) (tVar 0) := pe_var hN0 hv0 (by decide) (by decide)
  have e0' : PE X (.Name "self" p7) (tVar 0) := pe_var hN0 hv0 (by decide) (by decide)
  have e1 : PE X (.Name x p9) (tVar 1) := pe_var hN1 hv1 hd1 hd2
  refine ⟨_, pss_cons (ps_expr (pe_binit hg hm B (pa_cons e0 (pa_cons pe_str pa_nil)) hc hdb) hs1) (pss_one (ps_ost (f := f) e0' e1 hs2)), ?_⟩
  intro D σ H a v s0 s1 ha k
  refine ⟨.ref a, s0, ?_⟩
  refine ⟨a, C, [.str txt], rfl, by simp, O, ha, ?_⟩
  refine ⟨v, s1, .ref a, s0, a, C, rfl, O, hn, .inl ⟨ha, fun d hd ne => k d hd ne⟩⟩
/-- an error class: its facts, what its __init__ promises -/
structure XcE (P : Program) (w : World) (K : PySem.W.Frag) (mg : Str → Option Value) (base : Heap) (k : Nat) (c f : Str) : Prop where
  fc : ExcF K c f
  ex : ∃ fd ps, FnOk P w K mg base (L2.CX P w) k (He.ma K (He.ga K c) "__init__") fd ps (spExc K (He.ga K c) f) ∧ Binds K fd ps []
  gl : mg c = some (.ref (He.ga K c))
theorem exc_ok {P : Program} {w : World} {K : PySem.W.Frag} {mg : Str → Option Value} {base : Heap} {c f x qual : Str} {st : Stmt} {fd : FuncData} (F : FunD K "__init__" qual (defArgs st) (defBody st) (defScope st) [] [] (He.ma K (He.ga K c) "__init__") fd) (S : FnScope [("self" : Str), x] [("self" : Str), x] (defScope st))
    (fc : ExcF K c f) (gl : mg c = some (.ref (He.ga K c)))
    (b : ∀ (kV doc pm : Value) (an : Option Addr) (cdv ct : Value) (us : List Value), us.length = [("self" : Str), x].length → bindArgs (PySem.W.fnOf "__init__" qual (defArgs st) (defBody st) (defScope st) .none kV doc pm an cdv ct) ⟨us, []⟩ = pure ([("self" : Str), x].zip us))
    (hb : ∀ (cdv : Value) (A : Around) (outer : List PySem.Env) (s : Shared) (H : Hp) (E : XK), ∃ t, PSs (cxOf (L2.CX P w) P w K mg base [("self" : Str), x] qual (defScope st) (He.ma K (He.ga K c) "__init__") cdv A outer s H E) (defBody st) t ∧
      ∀ (D : Ends) (σ : St) (H : Hp) (a : Addr) (v : V), σ[0]? = some (some (.ref a)) → σ[1]? = some (some v) → H a = some (exo a (He.ga K c) none) → (∀ d, H d = none → d ≠ a → D.nx σ (upd (upd H d (exd d [(f, v)])) a (exo a (He.ga K c) (some d)))) → t D σ H) :
    XcE P w K mg base 1 c f := by
  refine ⟨fc, ⟨fd, [("self" : Str), x], F.ok S (fun vs H Q E h => ?_) fun cdv A outer s H vs Q E hr h => ?_, F.bindsN b⟩, gl⟩
  · obtain ⟨a, v, rfl, _⟩ := h
    rfl
  · obtain ⟨a, v, rfl, ha, k⟩ := h
    obtain ⟨t, p, q⟩ := hb cdv A outer s H E
    exact ⟨t, p, q _ _ H a v rfl rfl ha k⟩
def sRaise (c f : Str) (a : Mo D) : Mo Fl := mBind a fun d _ => some (.error (c, [(f, d)]))
section
variable {X : Cx} {E : XK}
theorem s_raise {k : Nat} {c f : Str} {e : Expr} {g : Mo D} {p pos pos2 : Pos} (hX : XcE X.prog X.w X.K X.mg X.base k c f) (hr : Room (k + 1) X.A) (calm : X.calm = true) (tk : Takes X (fun cls d _ H => E cls d H)) (h : EV X E e g)
    (hg : Gl X c := by rfl) (hdb : (c == ("__debug__" : Str)) = false := by decide) (he : starEach [e] X.env = (false, eval e X.env) :: starEach [] X.env := by rfl) (hpl : (backTo pos (starEach [] X.env)).any (·.1) = false := by rfl) :
    SV X E (.Raise (some (.Call (.Name c p) [e] [] pos)) none pos2) (sRaise c f g) := by
  obtain ⟨fc, ⟨fd, ps, F1, bnd⟩, gl⟩ := hX
  obtain ⟨t, pt, q⟩ := h
  have no : Passes (L2.CX X.prog X.w) X (fun _ _ _ => False) := passes_call tk fun _ _ _ _ z => z.elim
  refine ⟨_, ps_raise calm tk (pmk_oex fc.o fc.i fc.t F1 hr bnd .nil no hg gl (pa_cons pt pa_nil he) hdb he hpl), fun G ρ σ H De j h => ?_⟩
  refine q G ρ σ H _ j (PostS.imp h fun G1 ρ1 v H1 d e1 r1 h1 => ?_)
  refine ⟨by simp, fun a na => ⟨a, v, rfl, upd_same, fun dd hd ne => ⟨rfl, dd, [(f, v)], upd_same, ?_, ?_, h1 _ _ _ ?_⟩⟩⟩
  · rw [upd_ne ne, upd_same]
  · rwa [upd_ne ne] at hd
  · have hd1 : H1 dd = none := by rwa [upd_ne ne] at hd
    have other : ∀ b, b ≠ dd → b ≠ a → upd (L2.del (upd (upd (upd H1 a (exo a (He.ga X.K c) none)) dd (exd dd [(f, v)])) a (exo a (He.ga X.K c) (some dd))) a) dd (.xd [(f, v)]) b = H1 b := fun b n1 n2 => by
      rw [upd_ne n1, del_ne n2, upd_ne n2, upd_ne n1, upd_ne n2]
    have eH : upd (L2.del (upd (upd (upd H1 a (exo a (He.ga X.K c) none)) dd (exd dd [(f, v)])) a (exo a (He.ga X.K c) (some dd))) a) dd (.xd [(f, v)]) = upd H1 dd (.xd [(f, v)]) := funext fun b => by
      by_cases n1 : b = dd
      · rw [n1, upd_same, upd_same]
      · rw [upd_ne n1, upd_ne n1]
        by_cases n2 : b = a
        · rw [n2, na]; unfold L2.del; rw [if_pos rfl]
        · have z := other b n1 n2
          rw [upd_ne n1] at z
          exact z
    rw [eH]
    have sh : Same H1 (upd H1 dd (.xd [(f, v)])) := same_upd hd1
    exact ⟨rfl, G1, .refl _, e1.j.sub.new hd1, fun b hb => .inl hb, fun b o z _ => sh.s b o z, ⟨fun b hb => sh.free hb, (sameT_upd hd1).tx⟩, .inr ⟨dd, [(f, v)], rfl, upd_same, .cons r1 .nil⟩⟩
end
end HB
namespace HB
open PySem L2
/-- the caught error lies so -/
structure Held (K : PySem.W.Frag) (a : Addr) (cls : Value) (d : Option Addr) (i : Nat) (G : Hp) (σ : St) (H : Hp) (x : Exn) : Prop where
  s : σ[i]? = some (some (.ref a))
  c : cls = .ref (He.ga K x.1)
  f : ∃ dd fs, d = some dd ∧ H dd = some (.xd fs) ∧ RpF K G fs (x.2.map fun p => (.str p.1, p.2))
  sub : Same G H
theorem Held.px {K : PySem.W.Frag} {a : Addr} {cls : Value} {d : Option Addr} {i : Nat} {G G1 H H1 : Hp} {σ : St} {x : Exn} (h : Held K a cls d i G σ H x) (p : PX G H G1 H1) : Held K a cls d i G1 σ H1 x :=
  ⟨h.s, h.c, let ⟨dd, fs, e1, e2, e3⟩ := h.f; ⟨dd, fs, e1, p.h _ _ e2, e3.mono p.g⟩, p.s⟩
def HT (X : Cx) (i : Nat) (e : Expr) (f : Exn → Option Bool) : Prop := ∀ (a : Addr) (oe : Obj) (cls : Value) (d : Option Addr) (pn : List (Addr × Obj)), Zc cls d oe → (∃ vs, oe.data = .fields vs) →
  ∃ t, PT (X.suite a ((a, oe) :: pn)) e t ∧ ∀ G σ H Q x b, Held X.K a cls d i G σ H x → f x = some b → Q b H → t σ H Q
section
variable {X : Cx} {i : Nat}
structure IsxF (K : PySem.W.Frag) (c : Str) : Prop where
  cl : (PySem.W.clsIn K (He.ga K c)).isSome = true
  ha : PySem.W.findIn K (.ref (He.ga K c)) "__class__" = some (some (.builtin "object.__class__"))
  (hn : PySem.W.specialIn K (.builtin "object.__class__") "__get__" = some (some (.builtin "getset_descriptor.__get__"))) (ht : PySem.W.takesIn K (.builtin "object.__class__") = some true)
  hm : PySem.W.mroIn K (He.ga K c) (.type "object") = some true
theorem isxB_ok {K : PySem.W.Frag} {c : Str} (h : isxB K c = true) : IsxF K c := by
  have ⟨h1, h⟩ := He.ba h
  have ⟨h2, h⟩ := He.ba h
  have ⟨h3, h⟩ := He.ba h
  have ⟨h4, h5⟩ := He.ba h
  exact ⟨h1, He.eqO_ok h2, of_decide_eq_true h3, of_decide_eq_true h4, of_decide_eq_true h5⟩
end
/-- a slot goes -/
theorem Ex.drop {K : PySem.W.Frag} {G H : Hp} {ρ : En} {σ : St} (j : J K G ρ σ H) (i : Nat) : Ex K G ρ σ H G (ρ.set i .no) (σ.set i none) H := by
  have other : ∀ (k : Nat) (s : Sl), (ρ.set i .no)[k]? = some s → s ≠ .no → k ≠ i ∧ ρ[k]? = some s := fun k s e n => by
    by_cases c : k = i
    · subst c
      rw [List.getElem?_set] at e
      split at e
      · split at e
        · cases e; exact absurd rfl n
        · cases e
      · rename_i c2; exact absurd rfl c2
    · exact ⟨c, by rwa [List.getElem?_set_ne (Ne.symm c)] at e⟩
  have lsne : ∀ (s : Sl) (ds : List D), s.hs = some ds → s ≠ .no := fun s ds h e => by subst e; cases h
  have own2 : ∀ b, Ownd (ρ.set i .no) (σ.set i none) b → Ownd ρ σ b := fun b ⟨k, s, ds, e, h, z⟩ => by
    obtain ⟨n1, n2⟩ := other k s e (lsne s ds h)
    exact ⟨k, s, ds, n2, h, by rwa [List.getElem?_set_ne (Ne.symm n1)] at z⟩
  refine ⟨⟨j.sub, by simp [j.len], fun k d e => ?_, fun k s ds e h => ?_, fun k l s t ds es b e1 h1 e2 h2 z1 z2 => ?_, fun k g o o2 z xs e1 e2 => ?_⟩, .refl _, fun b h => .inl h, fun b o e _ => e, fun b z => .inl (own2 b z), fun b h => h, fun k ds e => ?_, fun k s e ql => ?_, .refl H⟩
  · obtain ⟨n1, n2⟩ := other k _ e (fun z => nomatch z)
    obtain ⟨v, q1, q2⟩ := j.pur k d n2
    exact ⟨v, by rw [List.getElem?_set_ne (Ne.symm n1)]; exact q1, q2⟩
  · obtain ⟨n1, n2⟩ := other k s e (lsne s ds h)
    obtain ⟨a, vs, q1, q2⟩ := j.hold k s ds n2 h
    exact ⟨a, vs, by rw [List.getElem?_set_ne (Ne.symm n1)]; exact q1, q2⟩
  · obtain ⟨n1, n2⟩ := other k s e1 (lsne s ds h1)
    obtain ⟨m1, m2⟩ := other l t e2 (lsne t es h2)
    exact j.alone k l s t ds es b n2 h1 m2 h2 (by rwa [List.getElem?_set_ne (Ne.symm n1)] at z1) (by rwa [List.getElem?_set_ne (Ne.symm m1)] at z2)
  · obtain ⟨n1, n2⟩ := other k _ e1 (fun z => nomatch z)
    obtain ⟨m1, m2⟩ := other g _ e2 (fun z => nomatch z)
    rw [List.getElem?_set_ne (Ne.symm n1), List.getElem?_set_ne (Ne.symm m1)]
    exact j.lk k g o o2 z xs n2 m2
  · obtain ⟨n1, n2⟩ := other k _ e (fun z => nomatch z)
    exact ⟨⟨ds, n2⟩, List.getElem?_set_ne (Ne.symm n1)⟩
  · obtain ⟨n1, n2⟩ := other k _ e (fun z => by subst z; cases ql)
    exact ⟨⟨s, n2, ql⟩, List.getElem?_set_ne (Ne.symm n1)⟩
end HB
namespace HB
open PySem L2
theorem xs_ok {xs : List (PySem.W.Frag → Bool)} {K : PySem.W.Frag} (c : (xs.all fun p => p K) = true) (i : Nat) {p : PySem.W.Frag → Bool} (h : xs[i]? = some p) : p K = true := List.all_eq_true.mp c p (List.mem_of_getElem? h)
end HB
namespace HB
open PySem L2
section
variable {X : Cx} {E : XK}
/-- two readings of one operator, by the left thing -/
def orD (p : D → Bool) (f g : D → D → Option D) (a b : D) : Option D := bif p a then f a b else g a b
theorem DOp.or {op : Value → Value → Sem Value} {f g : D → D → Option D} (p : D → Bool) (hf : DOp X op f) (hg : DOp X op g) : DOp X op (orD p f g) := by
  obtain ⟨r1, o1, q1⟩ := hf
  obtain ⟨r2, o2, q2⟩ := hg
  refine ⟨fun x y H Q => r1 x y H Q ∨ r2 x y H Q, fun pins s σ H x y v u Q I rx ry h => h.elim (fun z => o1 pins s σ H x y v u Q I rx ry z) fun z => o2 pins s σ H x y v u Q I rx ry z, fun G H x y a b c Q s hx hy h k => ?_⟩
  unfold orD at h
  cases hp : p a with
  | true => rw [hp] at h; exact .inl (q1 G H x y a b c Q s hx hy h k)
  | false => rw [hp] at h; exact .inr (q2 G H x y a b c Q s hx hy h k)
def isOD (c : Str) : D → Option Bool
  | .none => some false
  | .bool _ => some false
  | .int _ => some false
  | .str _ => some false
  | .list _ => some false
  | .tuple _ => some false
  | .dict ((.str c2, .none) :: _) => if c2 = c then some true else none
  | _ => none
def isoB (K : PySem.W.Frag) (c : Str) : Bool := ["NoneType", "bool", "int", "str", "list", "tuple"].all fun T => decide (PySem.W.kitOne K (.type T) (.ref (He.ga K c)) = some false)
theorem Rp.isO {K : PySem.W.Frag} {G H : Hp} {v : V} {d : D} {c : Str} {b : Bool} (s : Same G H) (cl : Cls K (He.ga K c)) (S : IsxF K c) (ok : isoB K c = true) (r : Rp K G v d) (h : isOD c d = some b) : ∃ t, TyX K H v t ∧ PySem.W.kitOne K t (.ref (He.ga K c)) = some b := by
  have go : ∀ {n : String}, tyD d = some n → n ∈ ["NoneType", "bool", "int", "str", "list", "tuple"] → b = false → ∃ t, TyX K H v t ∧ PySem.W.kitOne K t (.ref (He.ga K c)) = some b := fun e m eb => ⟨_, r.ty s e, by rw [eb]; exact of_decide_eq_true (List.all_eq_true.mp ok _ m)⟩
  cases r with
  | non => cases h; exact go rfl (by simp) rfl
  | bl b => cases h; exact go rfl (by simp) rfl
  | int i => cases h; exact go rfl (by simp) rfl
  | str x => cases h; exact go rfl (by simp) rfl
  | lst h1 h2 => cases h; exact go rfl (by simp) rfl
  | tup h1 h2 => cases h; exact go rfl (by simp) rfl
  | @obj a dx c2 fs kvs h1 h2 =>
    obtain ⟨e, e2⟩ := ite_some (show (if c2 = c then some true else none) = some b from h)
    subst e e2
    exact ⟨.ref (He.ga K c2), .base (.ins (s _ _ h1) cl S.ha S.hn S.ht S.hm), by unfold PySem.W.kitOne; simp⟩
  | frz h1 h2 => cases h
  | adr a => cases h
  | fn x => cases h
  | gst a g => cases h
  | clo _ _ _ _ => cases h
end
end HB
namespace HB
open PySem L2
theorem obsF_eq {as : List Addr} {fa : List He.Fa} {fn : List He.DefD} {tp : List (Str × List He.Dv)} {xs : List (PySem.W.Frag → Bool)} {g : Addr → Option Obj} {s : Shared} (h : ∀ a, g a = s.heap.get? a) : obsF as fa fn tp xs g = (hookF as fa fn tp xs).obs s := by
  rw [show g = fun a => s.heap.get? a from funext h]
  rfl
end HB
namespace HB
open PySem L2
section
variable {X : Cx}
theorem mk_bare {pins : List (Addr × Obj)} {σ : St} {H1 H2 : Hp} {Q : XK} {hp hp2 h2 : Heap} {g1 g2 : Array GenState} {d1 d2 : Drawn} {t1 t2 : Nat} {os1 os2 : OsState} {a C : Addr} (T : Raises X (.ref C)) (I1 : Inv X pins σ H1 ⟨hp, g1, d1, t1, os1⟩)
    (new : hp.objs.size ≤ a) (k : ∀ b o, hp.get? b = some o → hp2.get? b = some o) (un : Un (frs X.stack) [] (upd H1 a (exo a C none)) H2 hp2 h2) (hok : HOk X.prog X.w H2 h2) (ho : os2 = os1) (hb : PyProof.Rows.AllBare g2)
    (ea : H2 a = some (exo a C none)) (q : Q (.ref C) none (del H2 a)) : MkP X pins σ Q (.ref a) ⟨h2, g2, d2, t2, os2⟩ := by
  obtain ⟨t0, stands⟩ := exo_at hok ea
  have gone : H1 a = none := I1.hok.fresh new
  obtain ⟨G, keepG, cutG⟩ := restrict h2 (fun b => decide (b ≠ a))
  have inG : ∀ {b : Addr}, b ≠ a → G.get? b = h2.get? b := fun ne => keepG _ (decide_eq_true ne)
  have noG : G.get? a = none := cutG a (by simp)
  have far : ∀ {b : Addr} {o : Obj}, hp.get? b = some o → b ≠ a := fun z => Nat.ne_of_lt (Nat.lt_of_lt_of_le (Heap.lt_size z) new)
  have lift : ∀ {b : Addr}, b ≠ a → H1 b = none → upd H1 a (exo a C none) b = none := fun ne n => (upd_ne ne).trans n
  have U : Un (frs X.stack) [] H1 (del H2 a) hp G :=
    { keep := fun b o z n e1 e2 => by
        have old := un.keep b o (k b o z) (lift (far z) n) e1 e2
        rw [← inG (far z)] at old
        exact old
      slot := fun b o z n e1 e2 => by
        have old := un.slot b o (k b o z) (lift (far z) n) e1 e2
        rw [← inG (far z)] at old
        exact old
      free := fun b o z n e1 => (del_ne (far z)).trans (un.free b o (k b o z) (lift (far z) n) e1)
      there := fun b o z e1 => by
        have old := un.there b o (k b o z) e1
        rw [← inG (far z)] at old
        exact old
      tups := fun b xs z => (del_ne (ne_of_none z gone)).trans (un.tups b xs ((upd_ne (ne_of_none z gone)).trans z))
      frzs := fun b o v z => (del_ne (ne_of_none z gone)).trans (un.frzs b o v ((upd_ne (ne_of_none z gone)).trans z))
      tbls := fun b ps z => by
        obtain ⟨more, e⟩ := un.tbls b ps ((upd_ne (ne_of_none z gone)).trans z)
        exact ⟨more, (del_ne (ne_of_none z gone)).trans e⟩ }
  have hok2 : HOk X.prog X.w (del H2 a) G := fun b o z => by
    by_cases e : b = a
    · subst e
      rw [del_same] at z
      cases z
    · have z2 := (del_ne e).symm.trans z
      have apart : ∀ {c : Addr}, H2 c = some (.own b) → c ≠ a := fun hc => at_ne ea hc exo_own
      refine (hok b o z2).stay (fun c v hc y => ?_) (fun c hc => (del_ne (apart hc)).trans hc) (fun c xs hc => (del_ne (at_ne ea hc exo_tup)).trans hc)
      have ca : c ≠ a := by
        rcases hc with h | h
        · rw [h]; exact e
        · exact apart h
      exact (inG ca).trans y
  have J : Inv X pins σ (del H2 a) ⟨G, g2, d2, t2, os2⟩ := I1.call' (ch := []) ho U hok2 hb (fun b z => absurd z (by simp))
  refine ⟨a, _, _, ⟨G, g2, d2, t2, os2⟩, _, .ref C, none, rfl, J, fun b o z => ?_, noG, stands, ⟨rfl, rfl⟩, rfl, rfl, del_same, rfl, hb, T, q⟩
  by_cases e : b = a
  · rw [e, noG] at z
    cases z
  · exact (inG e).symm.trans z
def tMkB (C : Addr) (sp : Sp) : St → Hp → XK → Prop := fun _ H Q => ∀ a, H a = none → sp [.ref a] (upd H a (exo a C none)) (fun v H2 => v = .non ∧ H2 a = some (exo a C none) ∧ Q (.ref C) none (del H2 a)) (fun _ _ _ => False)
theorem pmk_bare {CX : CXT} {x : Str} {C fI : Addr} {k : Nat} {fd : FuncData} {ps : List Str} {sp : Sp} {p pos : Pos} (T : OexC X.K C) (iC : PySem.W.findIn X.K (.ref C) "__init__" = some (some (.ref fI))) (tI : PySem.W.typeIn X.K (.ref fI) = some (.type "function"))
    (F1 : FnOk X.prog X.w X.K X.mg X.base CX k fI fd ps sp) (hr : Room (k + 1) X.A) (bnd : Binds X.K fd ps []) (hx : Passes CX X (fun _ _ _ => False)) (hg : Gl X x) (hm : X.mg x = some (.ref C))
    (hdb : (x == ("__debug__" : Str)) = false := by decide) : PMk X (.Call (.Name x p) [] [] pos) (tMkB C sp) := by
  intro pins s σ H Q I h
  obtain ⟨_, _, _, _, bm, _, _, _, _, _, _, _, _, _, _, hC, hbm⟩ := T.cls
  apply wpAny_Call_Name_kw
  refine ld_glob I hg hm ?_ hdb
  refine PySem.W.callWith_K0 I.kIn T.kC ?_
  show wpAny _ _ (call (.ref C) []) _ _ _
  rcases s with ⟨hp, g, dr, tk, os⟩
  have one : hp.objs.size ≤ hp.objs.size + 1 := Nat.le_succ _
  have free : H (hp.objs.size + 1) = none := I.hok.fresh one
  have hq := h (hp.objs.size + 1) free
  have kk : ∀ b o, hp.get? b = some o → ((hp.push (PySem.W.kdv_tup [])).push (PySem.HandSPX.excO C hp.objs.size)).get? b = some o := fun b o e => Heap.get?_push_of_some _ (Heap.get?_push_of_some _ e)
  have made : ((hp.push (PySem.W.kdv_tup [])).push (PySem.HandSPX.excO C hp.objs.size)).get? (hp.objs.size + 1) = some (PySem.HandSPX.excO C hp.objs.size) := by heap_get
  have I2 : Inv X pins σ (upd H (hp.objs.size + 1) (exo (hp.objs.size + 1) C none)) ⟨(hp.push (PySem.W.kdv_tup [])).push (PySem.HandSPX.excO C hp.objs.size), g, dr, tk, os⟩ :=
    I.laid (t' := tk) (o := exo (hp.objs.size + 1) C none) kk one (exo_ok made)
  have len : ([Value.ref (hp.objs.size + 1)] : List Value).length = ps.length := (F1.len _ _ _ _ hq)
  refine wpAny_call (PySem.HandSPX.call_own F.excBase_ValueError (fun Y => PySem.HandSPX.refsVE_contains Y bm hbm) (I.kIn _ _ hC) (PySem.W.looks_findIn I.kIn iC) (fun self => PySem.W.bind_fn I.kIn self tI) (Nat.zero_le _)
    (codeAny_mono (F1.run _ X.stack _ _ ⟨[Value.ref (hp.objs.size + 1)], []⟩ [Value.ref (hp.objs.size + 1)] _ _ (fun _ _ _ => False) (hr.make C [] []) (I2.env0.make C [] []) (bnd _ [Value.ref (hp.objs.size + 1)] I2.kIn len) (show Vals [V.ref (hp.objs.size + 1)] [Value.ref (hp.objs.size + 1)] from .cons rfl .nil) hq) fun r s' out => ?_))
  cases r with
  | error er => exact hx pins σ _ _ er s' I2 out
  | ok fl =>
    cases fl with
    | ret u =>
      obtain ⟨v, H2, os2, bare2, un2, hok2, rv, ev, ea, q2⟩ := out
      subst ev
      rcases s' with ⟨h2, g2, d2, t2, os'⟩
      exact ⟨rv, mk_bare (raises_own T.exC T.tyC) I one kk un2 hok2 os2 bare2 ea q2⟩
    | next => exact out.elim
    | brk => exact out.elim
    | cont => exact out.elim
end
def spExc0 (K : PySem.W.Frag) (C : Addr) : Sp := fun vs H Q _ => ∃ a : Addr, vs = [.ref a] ∧ H a = some (exo a C none) ∧ Q .non H
theorem exc0_suite {X : Cx} {b : Str} {txt : Str} {ck : Nat} {p1 p2 p3 p4 p5 p6 : Pos} {C : Addr} (hN0 : X.N[0]? = some ("self" : Str)) (hv0 : Vis X.env.scope ("self" : Str))
    (hg : Gl X b) (hm : X.mg b = some (.ref (He.ga X.K b))) (B : BotF X.K b) (O : OexC X.K C) (hdb : (b == ("__debug__" : Str)) = false)
    {pl : Sem Bool} (hc : eval (.Call (.Attribute (.Name b p1) "__init__" p2) [.Name "self" p3, .Constant (.str txt) ck p4] [] p5) X.env = (do
      let ow ← eval (.Name b p1) X.env
      standAt p2.atName
      let (fx, fst) ← holding [ow] (getMethod ow "__init__" pl)
      callWith p5 fx fst (backTo p5 (starEach [.Name "self" p3, .Constant (.str txt) ck p4] X.env)) (backToKw p5 (keywordEach [] X.env))))
    (hs1 : swapsWith (.Call (.Attribute (.Name b p1) "__init__" p2) [.Name "self" p3, .Constant (.str txt) ck p4] [] p5) none p6.line X.env = pure false) :
    ∃ t, PSs X [.Expr (.Call (.Attribute (.Name b p1) "__init__" p2) [.Name "self" p3, .Constant (.str txt) ck p4] [] p5) p6] t ∧
      ∀ (D : Ends) (σ : St) (H : Hp) (a : Addr), σ[0]? = some (some (.ref a)) → H a = some (exo a C none) → D.nx σ H → t D σ H := by
  have e0 : PE X (.Name "self" p3) (tVar 0) := pe_var hN0 hv0 (by decide) (by decide)
  refine ⟨_, pss_one (ps_expr (pe_binit hg hm B (pa_cons e0 (pa_cons pe_str pa_nil)) hc hdb) hs1), ?_⟩
  intro D σ H a s0 ha k
  exact ⟨.ref a, s0, a, C, [.str txt], rfl, by simp, O, ha, k⟩
structure ExcF0 (K : PySem.W.Frag) (c : Str) : Prop where
  o : OexC K (He.ga K c)
  i : PySem.W.findIn K (.ref (He.ga K c)) "__init__" = some (some (.ref (He.ma K (He.ga K c) "__init__")))
  t : PySem.W.typeIn K (.ref (He.ma K (He.ga K c) "__init__")) = some (.type "function")
theorem excB0_ok {K : PySem.W.Frag} {c : Str} (h : excB0 K c = true) : ExcF0 K c := by
  have ⟨h1, h⟩ := He.ba h
  have ⟨h4, h5⟩ := He.ba h
  exact ⟨oexB_ok h1, He.eqO_ok h4, of_decide_eq_true h5⟩
structure XcE0 (P : Program) (w : World) (K : PySem.W.Frag) (mg : Str → Option Value) (base : Heap) (k : Nat) (c : Str) : Prop where
  fc : ExcF0 K c
  ex : ∃ fd ps, FnOk P w K mg base (L2.CX P w) k (He.ma K (He.ga K c) "__init__") fd ps (spExc0 K (He.ga K c)) ∧ Binds K fd ps []
  gl : mg c = some (.ref (He.ga K c))
theorem exc0_ok {P : Program} {w : World} {K : PySem.W.Frag} {mg : Str → Option Value} {base : Heap} {c qual : Str} {st : Stmt} {fd : FuncData} (F : FunD K "__init__" qual (defArgs st) (defBody st) (defScope st) [] [] (He.ma K (He.ga K c) "__init__") fd) (S : FnScope [("self" : Str)] [("self" : Str)] (defScope st))
    (fc : ExcF0 K c) (gl : mg c = some (.ref (He.ga K c)))
    (b : ∀ (kV doc pm : Value) (an : Option Addr) (cdv ct : Value) (us : List Value), us.length = [("self" : Str)].length → bindArgs (PySem.W.fnOf "__init__" qual (defArgs st) (defBody st) (defScope st) .none kV doc pm an cdv ct) ⟨us, []⟩ = pure ([("self" : Str)].zip us))
    (hb : ∀ (cdv : Value) (A : Around) (outer : List PySem.Env) (s : Shared) (H : Hp) (E : XK), ∃ t, PSs (cxOf (L2.CX P w) P w K mg base [("self" : Str)] qual (defScope st) (He.ma K (He.ga K c) "__init__") cdv A outer s H E) (defBody st) t ∧
      ∀ (D : Ends) (σ : St) (H : Hp) (a : Addr), σ[0]? = some (some (.ref a)) → H a = some (exo a (He.ga K c) none) → D.nx σ H → t D σ H) :
    XcE0 P w K mg base 1 c := by
  refine ⟨fc, ⟨fd, [("self" : Str)], F.ok S (fun vs H Q E h => ?_) fun cdv A outer s H vs Q E hr h => ?_, F.bindsN b⟩, gl⟩
  · obtain ⟨a, rfl, _⟩ := h
    rfl
  · obtain ⟨a, rfl, ha, k⟩ := h
    obtain ⟨t, p, q⟩ := hb cdv A outer s H E
    exact ⟨t, p, q _ _ H a rfl ha k⟩
def sRaise0 (c : Str) : Mo Fl := fun _ => some (.error (c, []))
section
variable {X : Cx} {E : XK}
theorem s_raise0 {k : Nat} {c : Str} {p pos pos2 : Pos} (hX : XcE0 X.prog X.w X.K X.mg X.base k c) (hr : Room (k + 1) X.A) (calm : X.calm = true) (tk : Takes X (fun cls d _ H => E cls d H))
    (hg : Gl X c := by rfl) (hdb : (c == ("__debug__" : Str)) = false := by decide) :
    SV X E (.Raise (some (.Call (.Name c p) [] [] pos)) none pos2) (sRaise0 c) := by
  obtain ⟨fc, ⟨fd, ps, F1, bnd⟩, gl⟩ := hX
  have no : Passes (L2.CX X.prog X.w) X (fun _ _ _ => False) := passes_call tk fun _ _ _ _ z => z.elim
  refine ⟨_, ps_raise calm tk (pmk_bare fc.o fc.i fc.t F1 hr bnd no hg gl hdb), fun G ρ σ H De j h => ?_⟩
  intro a na
  have same : del (upd H a (exo a (He.ga X.K c) none)) a = H := by
    funext b
    by_cases e : b = a
    · rw [e, del_same, na]
    · rw [del_ne e, upd_ne e]
  refine ⟨a, rfl, upd_same, rfl, upd_same, ?_⟩
  rw [same]
  exact h _ _ _ ⟨rfl, G, .refl G, j.sub, fun b hb => .inl hb, fun b o z _ => z, ⟨fun b hb => hb, .refl H⟩, .inl ⟨rfl, rfl⟩⟩
end
end HB
namespace HB
open PySem L2
structure CmE (P : Program) (w : World) (K : PySem.W.Frag) (mg : Str → Option Value) (base : Heap) (k : Nat) (c m : Str) (n : Nat) (F : Fn) : Prop where
  rd : ClX.CRead K (He.ga K c) (.type "type")
  cm : ClX.CMet K (He.ga K c) (.type "type") m (He.ma K (He.ga K c) m) (He5.wf K (He.ga K c) "classmethod" m)
  gl : mg c = some (.ref (He.ga K c))
  ex : ∃ fd ps, FnOk P w K mg base (L2.CX P w) k (He5.wf K (He.ga K c) "classmethod" m) fd ps (spP K n F) ∧ Binds K fd ps []
  ln : ∀ ds, F ds ≠ none → ds.length = n
theorem cls_ok {P : Program} {w : World} {K : PySem.W.Frag} {mg : Str → Option Value} {base : Heap} {c m qual : Str} {st : Stmt} {fd : FuncData} {N ps : List Str} {k : Nat} {g : Mo Fl} (F : FunD K m qual (defArgs st) (defBody st) (defScope st) [] [] (He5.wf K (He.ga K c) "classmethod" m) fd) (S : FnScope N ps (defScope st))
    (rd : ClX.CRead K (He.ga K c) (.type "type")) (cm : ClX.CMet K (He.ga K c) (.type "type") m (He.ma K (He.ga K c) m) (He5.wf K (He.ga K c) "classmethod" m)) (gl : mg c = some (.ref (He.ga K c)))
    (b : ∀ (kV doc pm : Value) (an : Option Addr) (cdv ct : Value) (us : List Value), us.length = ps.length → bindArgs (PySem.W.fnOf m qual (defArgs st) (defBody st) (defScope st) .none kV doc pm an cdv ct) ⟨us, []⟩ = pure (ps.zip us))
    (hb : ∀ (cdv : Value) (A : Around) (outer : List PySem.Env) (s : Shared) (H : Hp) (E : XK), Room k (A.deeper (PyProof.Rows.envOfC qual (defScope st) s.heap.objs.size (He5.wf K (He.ga K c) "classmethod" m) cdv)) → SVs (cxOf (L2.CX P w) P w K mg base N qual (defScope st) (He5.wf K (He.ga K c) "classmethod" m) cdv A outer s H E) E (defBody st) g) :
    CmE P w K mg base (k + 1) c m ps.length (guard ps.length (runF N.length g)) := by
  refine ⟨rd, cm, gl, ⟨fd, ps, F.ok S (fun vs H Q E h => ?_) fun cdv A outer s H vs Q E hr h => ?_, F.bindsN b⟩, fun ds h => guard_len h⟩
  · obtain ⟨G, ds, _, r, hl, _⟩ := h
    rw [r.length, hl]
  · obtain ⟨t, p, q⟩ := hb cdv A outer s H E hr
    exact ⟨t, p, body_sem q h⟩
end HB
namespace HB
open PySem L2
/-- names that the def has not: what stands there is free -/
theorem inv_ghost {X : Cx} {pins : List (Addr × Obj)} {σ : St} {H : Hp} {s : Shared} (I : Inv X pins σ H s) {g : Nat} {y : Str} (hy : X.N[g]? = some y) (hv : ¬ Vis X.env.scope y) (v : Option V) : Inv X pins (σ.set g v) H s := by
  obtain ⟨ok, os, bare, base, loc, cell, free, freeC, pin, hok, len⟩ := I
  obtain ⟨m, hn, hl⟩ := loc
  refine ⟨ok, os, bare, base, ⟨m, hn, fun i x u hi hs vx => ?_⟩, cell, free, freeC, pin, hok, by rw [List.length_set]; exact len⟩
  by_cases c : i = g
  · subst c
    rw [hy] at hi
    cases hi
    exact absurd vx hv
  · rw [List.getElem?_set_ne (Ne.symm c)] at hs
    exact hl i x u hi hs vx
theorem pss_ghost {X : Cx} {st : List Stmt} {t : TS} {g : Nat} {y : Str} (h : PSs X st t) (hy : X.N[g]? = some y) (hv : ¬ Vis X.env.scope y) : PSs X st (fun D σ H => ∃ v, t D (σ.set g v) H) :=
  ⟨fun pins s σ H D I ⟨v, ht⟩ => h.run pins s _ H D (inv_ghost I hy hv v) ht⟩
theorem ps_ghost {X : Cx} {st : Stmt} {t : TS} {g : Nat} {y : Str} (h : PS X st t) (hy : X.N[g]? = some y) (hv : ¬ Vis X.env.scope y) : PS X st (fun D σ H => t ⟨fun σ' H' => ∃ v, D.nx (σ'.set g v) H', D.rt, D.bk, D.ct⟩ σ H) :=
  ⟨fun pins s σ H D I ht => thn (h.run pins s σ H _ I ht) fun f s' q => by
    cases f with
    | next =>
      obtain ⟨σ', H', I', v, w⟩ := q
      exact ⟨_, H', inv_ghost I' hy hv v, w⟩
    | brk => exact q
    | cont => exact q
    | ret u => exact q⟩
theorem unseen {sc : Scope} {y : Str} (h : sc.names.lookup y = none) : ¬ Vis sc y := fun z => by
  rcases z with z | z | z <;> rw [h] at z <;> cases z
def dlAt (ρ : En) (i : Nat) : Option (Bool × Nat × D × Bool × List D) := match ρ[i]? with
  | some (.dl o g z) => (match ρ[g]? with
    | some (.gst o' xs) => some (o, g, z, o', xs)
    | _ => none)
  | _ => none
theorem dlAt_ok {ρ : En} {i : Nat} {o : Bool} {g : Nat} {z : D} {o' : Bool} {xs : List D} (h : dlAt ρ i = some (o, g, z, o', xs)) : ρ[i]? = some (.dl o g z) ∧ ρ[g]? = some (.gst o' xs) := by
  unfold dlAt at h
  split at h
  · rename_i e
    split at h
    · rename_i e2
      cases h
      exact ⟨e, e2⟩
    · cases h
  · cases h
def dlPut (ρ : En) (i : Nat) (o : Bool) (g : Nat) (z : D) (o' : Bool) (xs : List D) : En := (ρ.set i (.dl o g z)).set g (.gst o' xs)
section
variable {K : PySem.W.Frag} {G H G' H' : Hp} {ρ : En} {σ : St} {i g : Nat} {o o' : Bool} {z z' : D} {xs xs' : List D}
theorem J.deal (j : J K G ρ σ H) (h1 : ρ[i]? = some (.dl o g z)) (h2 : ρ[g]? = some (.gst o' xs)) : ∃ (a a1 : Addr) (u : V) (ws : List V), σ[i]? = some (some (.ref a)) ∧ σ[g]? = some (some (.ref a1)) ∧ a ≠ a1 ∧ i ≠ g ∧ H a = some (.lst [.ref a1, u]) ∧ H a1 = some (.lst ws) ∧ G a = none ∧ G a1 = none ∧ Rp K G u z ∧ RpAll K G ws xs := by
  obtain ⟨a, vs, q1, q2, q3, q4⟩ := j.hold i _ _ h1 rfl
  obtain ⟨a1, ws, r1, r2, r3, r4⟩ := j.hold g _ _ h2 rfl
  obtain ⟨a', v, u, l1, l2, l3⟩ := j.lk i g o o' z xs h1 h2
  rw [q1] at l1
  cases l1
  rw [q2] at l2
  cases l2
  rw [r1] at l3
  cases l3
  have ig : i ≠ g := fun e => by
    subst e
    rw [h1] at h2
    cases h2
  have ne : a ≠ a1 := fun e => by
    subst e
    exact ig (j.alone i g _ _ _ _ a h1 rfl h2 rfl q1 r1)
  cases q4 with
  | cons _ t => cases t with
    | cons ru _ => exact ⟨a, a1, u, ws, q1, r1, ne, ig, q2, r2, q3, r3, ru, r4⟩
/-- both lists are changed -/
theorem J.putD {a a1 : Addr} {u : V} {ws : List V} (j : J K G ρ σ H) (h1 : ρ[i]? = some (.dl o g z)) (h2 : ρ[g]? = some (.gst o' xs)) (ha : σ[i]? = some (some (.ref a))) (hg : σ[g]? = some (some (.ref a1))) (sg : Same G G') (new : ∀ b, G' b ≠ none → G b ≠ none ∨ H b = none) (sb : Sub K G' H')
    (kept : ∀ b o, b ≠ a → b ≠ a1 → H b = some o → [NoT o] → H' b = some o) (dom : Dm H H') (ga : G' a = none) (ga1 : G' a1 = none) (w1 : H' a = some (.lst [.ref a1, u])) (w2 : H' a1 = some (.lst ws)) (rz : Rp K G' u z') (rx : RpAll K G' ws xs') : Ex K G ρ σ H G' (dlPut ρ i o g z' o' xs') σ H' := by
  have od : Ownd ρ σ a := ⟨i, _, _, h1, rfl, ha⟩
  have od1 : Ownd ρ σ a1 := ⟨g, _, _, h2, rfl, hg⟩
  have ig : i ≠ g := fun e => by
    subst e
    rw [h1] at h2
    cases h2
  have look : ∀ (k : Nat) (s : Sl), (dlPut ρ i o g z' o' xs')[k]? = some s → (k = g ∧ s = .gst o' xs') ∨ (k = i ∧ s = .dl o g z') ∨ (k ≠ i ∧ k ≠ g ∧ ρ[k]? = some s) := fun k s e => by
    unfold dlPut at e
    rcases getElem?_set_cases e with ⟨e1, e2⟩ | ⟨e1, e2⟩
    · exact .inl ⟨e1, e2⟩
    · rcases getElem?_set_cases e2 with ⟨e3, e4⟩ | ⟨e3, e4⟩
      · exact .inr (.inl ⟨e3, e4⟩)
      · exact .inr (.inr ⟨e3, e1, e4⟩)
  have c : ∀ (k : Nat) (s : Sl) (es : List D), (dlPut ρ i o g z' o' xs')[k]? = some s → s.hs = some es → ∃ s0 es0, ρ[k]? = some s0 ∧ s0.hs = some es0 := fun k s es e hs => by
    rcases look k s e with ⟨e1, _⟩ | ⟨e1, _⟩ | ⟨_, _, e3⟩
    · exact ⟨_, _, by rw [e1]; exact h2, rfl⟩
    · exact ⟨_, _, by rw [e1]; exact h1, rfl⟩
    · exact ⟨s, es, e3, hs⟩
  have far : ∀ (k : Nat) (s : Sl) (es : List D) (b : Addr), k ≠ i → k ≠ g → ρ[k]? = some s → s.hs = some es → σ[k]? = some (some (.ref b)) → b ≠ a ∧ b ≠ a1 := fun k s es b n1 n2 e hs hb =>
    ⟨fun y => by subst y; exact n1 (j.alone k i _ _ _ _ b e hs h1 rfl hb ha), fun y => by subst y; exact n2 (j.alone k g _ _ _ _ b e hs h2 rfl hb hg)⟩
  refine ⟨⟨sb, by unfold dlPut; rw [List.length_set, List.length_set]; exact j.len, fun k d e => ?_, fun k s es e hs => ?_, fun k l s t es fs b e1 l1 e2 l2 e3 e4 => ?_, fun k g2 o1 o2 y ys e1 e2 => ?_⟩, sg, fun b hb => (new b hb).elim .inl fun y => .inr (.inl y), fun b q hq n => kept b q (fun y => by subst y; exact n od) (fun y => by subst y; exact n od1) hq, fun b hb => ?_, dom.d, fun k es e => ?_, fun k s e ql => ?_, dom.t⟩
  · rcases look k _ e with ⟨_, y⟩ | ⟨_, y⟩ | ⟨_, _, e3⟩
    · cases y
    · cases y
    · obtain ⟨v, y1, y2⟩ := j.pur k d e3
      exact ⟨v, y1, y2.mono sg⟩
  · rcases look k s e with ⟨e1, y⟩ | ⟨e1, y⟩ | ⟨n1, n2, e3⟩
    · subst y
      cases hs
      exact ⟨a1, ws, by rw [e1]; exact hg, w2, ga1, rx⟩
    · subst y
      cases hs
      exact ⟨a, _, by rw [e1]; exact ha, w1, ga, .cons (.gst a1 g) (.cons rz .nil)⟩
    · obtain ⟨b, vs, q1, q2, q3, q4⟩ := j.hold k s es e3 hs
      obtain ⟨m1, m2⟩ := far k s es b n1 n2 e3 hs q1
      refine ⟨b, vs, q1, kept b _ m1 m2 q2, ?_, q4.mono sg⟩
      cases y : G' b with
      | none => rfl
      | some w =>
        rcases new b (by rw [y]; simp) with x | x
        · exact absurd q3 x
        · rw [q2] at x; cases x
  · obtain ⟨s1, f1, c1, c2⟩ := c k s es e1 l1
    obtain ⟨s2, f2, c3, c4⟩ := c l t fs e2 l2
    exact j.alone k l s1 s2 f1 f2 b c1 c2 c3 c4 e3 e4
  · rcases look k _ e1 with ⟨_, y1⟩ | ⟨k1, y1⟩ | ⟨n1, n2, y1⟩
    · cases y1
    · cases y1
      rw [k1]
      exact ⟨a, _, u, ha, w1, hg⟩
    · rcases look g2 _ e2 with ⟨k2, y2⟩ | ⟨_, y2⟩ | ⟨_, _, y2⟩
      · subst k2
        obtain ⟨b, v, u', q1, q2, q3⟩ := j.lk k g2 o1 o' y xs y1 h2
        obtain ⟨m1, m2⟩ := far k _ _ b n1 n2 y1 rfl q1
        exact ⟨b, v, u', q1, kept b _ m1 m2 q2, q3⟩
      · cases y2
      · obtain ⟨b, v, u', q1, q2, q3⟩ := j.lk k g2 o1 o2 y ys y1 y2
        obtain ⟨m1, m2⟩ := far k _ _ b n1 n2 y1 rfl q1
        exact ⟨b, v, u', q1, kept b _ m1 m2 q2, q3⟩
  · obtain ⟨k, s, es, e1, l1, e2⟩ := hb
    obtain ⟨s0, es0, c1, c2⟩ := c k s es e1 l1
    exact .inl ⟨k, s0, es0, c1, c2, e2⟩
  · rcases look k _ e with ⟨_, y⟩ | ⟨_, y⟩ | ⟨_, _, e3⟩
    · cases y
    · cases y
    · exact ⟨⟨es, e3⟩, rfl⟩
  · rcases look k s e with ⟨e1, y⟩ | ⟨e1, y⟩ | ⟨_, _, e3⟩
    · subst y
      refine ⟨⟨_, by rw [e1]; exact h2, ?_⟩, rfl⟩
      cases o' <;> first | rfl | cases ql
    · subst y
      refine ⟨⟨_, by rw [e1]; exact h1, ?_⟩, rfl⟩
      cases o <;> first | rfl | cases ql
    · exact ⟨⟨s, e3, ql⟩, rfl⟩
theorem J.putIn {a1 : Addr} {ws : List V} (j : J K G ρ σ H) (h1 : ρ[i]? = some (.dl o g z)) (h2 : ρ[g]? = some (.gst o' xs)) (hg : σ[g]? = some (some (.ref a1))) (rx : RpAll K G ws xs') : Ex K G ρ σ H G (dlPut ρ i o g z o' xs') σ (upd H a1 (.lst ws)) := by
  obtain ⟨a, b, u, vs, q1, q2, ne, ig, q3, q4, q5, q6, q7, q8⟩ := j.deal h1 h2
  rw [hg] at q2
  cases q2
  refine j.putD h1 h2 q1 hg (.refl _) (fun b hb => .inl hb) (j.sub.put q6 (pl_of q4)) (fun b w n1 n2 e => by rw [upd_ne n2]; exact fun {_} => e) ⟨fun b hb => ?_, .put (pl_of q4)⟩ q5 q6 (by rw [upd_ne ne]; exact q3) upd_same q7 rx
  · by_cases y : b = a1
    · subst y; rw [upd_same] at hb; cases hb
    · rw [upd_ne y] at hb; exact hb
theorem J.putOut {a a1 : Addr} {u : V} (j : J K G ρ σ H) (h1 : ρ[i]? = some (.dl o g z)) (h2 : ρ[g]? = some (.gst o' xs)) (ha : σ[i]? = some (some (.ref a))) (hg : σ[g]? = some (some (.ref a1))) (rz : Rp K G u z') : Ex K G ρ σ H G (dlPut ρ i o g z' o' xs) σ (upd H a (.lst [.ref a1, u])) := by
  obtain ⟨a', b, u', vs, q1, q2, ne, ig, q3, q4, q5, q6, q7, q8⟩ := j.deal h1 h2
  rw [ha] at q1
  cases q1
  rw [hg] at q2
  cases q2
  refine j.putD h1 h2 ha hg (.refl _) (fun b hb => .inl hb) (j.sub.put q5 (pl_of q3)) (fun b w n1 n2 e => by rw [upd_ne n1]; exact fun {_} => e) ⟨fun b hb => ?_, .put (pl_of q3)⟩ q5 q6 upd_same (by rw [upd_ne (Ne.symm ne)]; exact q4) rz q8
  · by_cases y : b = a
    · subst y; rw [upd_same] at hb; cases hb
    · rw [upd_ne y] at hb; exact hb
end
abbrev FnDl := List D → D → List D → Option (Except Exn (List D × D × D))
def PostDl (K : PySem.W.Frag) (G H : Hp) (a a1 : Addr) (Q : VK) : Option (Except Exn (List D × D × D)) → Prop
  | some (.ok (xs, z, d)) => ∀ G' v H' ws u, Same G G' → (∀ b, G' b ≠ none → G b ≠ none ∨ H b = none) → Sub K G' H' → (∀ b o, b ≠ a → b ≠ a1 → H b = some o → [NoT o] → H' b = some o) → Dm H H' → G' a = none → G' a1 = none → H' a = some (.lst [.ref a1, u]) → H' a1 = some (.lst ws) → RpAll K G' ws xs → Rp K G' u z → Rp K G' v d → Q v H'
  | _ => False
def spDl (K : PySem.W.Frag) (n : Nat) (F : FnDl) : Sp := fun vs H Q _ => ∃ a a1 u ws us xs z ds G, vs = .ref a :: us ∧ a ≠ a1 ∧ H a = some (.lst [.ref a1, u]) ∧ H a1 = some (.lst ws) ∧ G a = none ∧ G a1 = none ∧ Sub K G H ∧ Rp K G u z ∧ RpAll K G ws xs ∧ RpAll K G us ds ∧ ds.length = n ∧ PostDl K G H a a1 Q (F xs z ds)
structure FnDlE (P : Program) (w : World) (K : PySem.W.Frag) (mg : Str → Option Value) (base : Heap) (k : Nat) (x : Str) (n : Nat) (F : FnDl) : Prop where
  ex : ∃ fd ps, FnOk P w K mg base (L2.CX P w) k (He.ga K x) fd ps (spDl K n F) ∧ Binds K fd ps []
  kp : PySem.W.keepIn K (.ref (He.ga K x)) = true
  gl : mg x = some (.ref (He.ga K x))
  ln : ∀ xs z ds, F xs z ds ≠ none → ds.length = n
def mCallD (F : FnDl) (i : Nat) (f : Mo (List D)) : Mo D := fun ρ => match dlAt ρ i with
  | none => none
  | some _ => mBind f (fun as ρ1 => match dlAt ρ1 i with
    | none => none
    | some (o, g, z, o', xs) => match F xs z as with
      | some (.ok (xs', z', d)) => some (.ok (dlPut ρ1 i o g z' o' xs', d))
      | _ => none) ρ
section
variable {X : Cx} {E : XK}
theorem ev_callD {k n : Nat} {x y : Str} {F : FnDl} {i : Nat} {p p1 pos : Pos} {es : List Expr} {f : Mo (List D)} (hF : FnDlE X.prog X.w X.K X.mg X.base k x n F) (hr : Room k X.A) (hx : Passes (L2.CX X.prog X.w) X E)
    (ha : EA X E es f) (hN : X.N[i]? = some y := by rfl) (hv : Vis X.env.scope y := by first | exact Or.inl rfl | exact Or.inr (Or.inl rfl) | exact Or.inr (Or.inr rfl)) (hd : (y == ("__debug__" : Str)) = false := by decide) (hcd : (y == ("__classdict__" : Str)) = false := by decide)
    (hg : Gl X x := by rfl) (hdb : (x == ("__debug__" : Str)) = false := by decide) (he : starEach (.Name y p1 :: es) X.env = (false, eval (.Name y p1) X.env) :: starEach es X.env := by rfl)
    (hpl : (backTo pos (starEach es X.env)).any (·.1) = false := by rfl) : EV X E (.Call (.Name x p) (.Name y p1 :: es) [] pos) (mCallD F i f) := by
  obtain ⟨⟨fd, ps, h1, h2⟩, kp, gl, hl⟩ := hF
  obtain ⟨t, pt, q⟩ := ha
  refine ⟨_, pe_call h1 hr hg gl kp h2 .nil hx (pa_cons (pe_var hN hv hd hcd) pt he) hdb he hpl, fun G ρ σ H Q j h => ?_⟩
  unfold mCallD at h
  cases h0 : dlAt ρ i with
  | none => rw [h0] at h; exact h.elim
  | some t0 =>
    obtain ⟨o, g, z, o', xs⟩ := t0
    rw [h0] at h
    obtain ⟨y1, y2⟩ := dlAt_ok h0
    obtain ⟨a, a1, u, ws, q1, _⟩ := j.deal y1 y2
    refine ⟨.ref a, q1, q G ρ σ H _ j (Post.imp h fun G1 ρ1 us H1 as e1 r1 k => ?_)⟩
    have k' : Post X.K E (Rp X.K) G1 ρ1 σ H1 Q (match dlAt ρ1 i with
      | none => none
      | some (o, g, z, o', xs) => match F xs z as with
        | some (.ok (xs', z', d)) => some (.ok (dlPut ρ1 i o g z' o' xs', d))
        | _ => none) := k
    show spDl X.K n F ((.ref a :: us) ++ []) H1 Q E
    rw [List.append_nil]
    cases h3 : dlAt ρ1 i with
    | none => rw [h3] at k'; exact k'.elim
    | some t3 =>
      obtain ⟨o3, g3, z3, o4, xs3⟩ := t3
      simp only [h3] at k'
      obtain ⟨w1, w2⟩ := dlAt_ok h3
      obtain ⟨a2, b2, u2, ws2, m1, m2, m3, m4, m5, m6, m7, m8, m9, m10⟩ := e1.j.deal w1 w2
      rw [q1] at m1
      cases m1
      match hf : F xs3 z3 as, k' with
      | none, k' => simp only [hf] at k'; exact k'.elim
      | some (.error _), k' => simp only [hf] at k'; exact k'.elim
      | some (.ok (xs', z', d)), k' =>
        simp only [hf] at k'
        refine ⟨a, b2, u2, ws2, us, xs3, z3, as, G1, rfl, m3, m5, m6, m7, m8, e1.j.sub, m9, m10, r1, hl _ _ _ (by rw [hf]; simp), ?_⟩
        rw [hf]
        intro G' v H' ws' u' b1 b2 b3 b4 b5 b6 b7 b8 b9 b10 b11 b12
        exact k' G' v H' (e1.j.putD w1 w2 q1 m2 b1 b2 b3 b4 b5 b6 b7 b8 b9 b11 b10) b12
def pDl (i : Nat) : En → Option D := fun ρ => match dlAt ρ i with
  | some (_, _, z, _, xs) => some (.list [.list xs, z])
  | none => none
theorem evp_dl (i : Nat) {x : Str} {pos : Pos} (hN : X.N[i]? = some x := by rfl) (hv : Vis X.env.scope x := by first | exact Or.inl rfl | exact Or.inr (Or.inl rfl) | exact Or.inr (Or.inr rfl)) (hd : (x == ("__debug__" : Str)) = false := by decide)
    (hcd : (x == ("__classdict__" : Str)) = false := by decide) : EVP X (.Name x pos) (pDl i) := by
  refine ⟨_, pe_var hN hv hd hcd, fun G ρ σ H Q d j h k => ?_⟩
  unfold pDl at h
  cases h0 : dlAt ρ i with
  | none => rw [h0] at h; cases h
  | some t0 =>
    obtain ⟨o, g, z, o', xs⟩ := t0
    rw [h0] at h
    cases h
    obtain ⟨y1, y2⟩ := dlAt_ok h0
    obtain ⟨a, a1, u, ws, q1, q2, q3, q4, q5, q6, q7, q8, q9, q10⟩ := j.deal y1 y2
    exact ⟨_, q1, k _ H (.refl _) (.lst q5 (.cons (.lst q6 (q10.mono j.sub)) (.cons (q9.mono j.sub) .nil)))⟩
theorem evp_nilL {pos : Pos} : EVP X (.List [] pos) (fun _ => some (.list [])) := by
  refine ⟨_, pe_lst pa_nil, fun G ρ σ H Q d j h k => ?_⟩
  cases h
  exact ⟨by decide, fun p hp => k _ _ (sameT_upd hp) (.lst upd_same .nil)⟩
def pUn (f : D → Option D) (a : En → Option D) : En → Option D := fun ρ => match a ρ with
  | some d => f d
  | none => none
theorem evp_neg {a : Expr} {pos : Pos} {f : En → Option D} (h : EVP X a f) : EVP X (.UnaryOp .USub a pos) (pUn negD f) := by
  obtain ⟨t, p, q⟩ := h
  refine ⟨_, pe_un un_neg p, fun G ρ σ H Q d j h k => ?_⟩
  unfold pUn at h
  cases h1 : f ρ with
  | none => simp only [h1] at h; cases h
  | some x =>
    simp only [h1] at h
    refine q G ρ σ H _ x j h1 fun v H1 s1 r1 => ?_
    cases r1 with
    | int i => cases h; exact ⟨i, rfl, k _ H1 s1 (.int _)⟩
    | _ => cases h
/-- a look that tells a plain value -/
def mP (f : En → Option D) : Mo D := fun ρ => match f ρ with
  | none => none
  | some d => match scal d with
    | true => some (.ok (ρ, d))
    | false => none
theorem ev_p {e : Expr} {f : En → Option D} (h : EVP X e f) : EV X E e (mP f) := by
  obtain ⟨t, p, q⟩ := h
  refine ⟨t, p, fun G ρ σ H Q j h => ?_⟩
  unfold mP at h
  cases hf : f ρ with
  | none => rw [hf] at h; exact h.elim
  | some d =>
    simp only [hf] at h
    cases hs : scal d with
    | false => simp only [hs] at h; exact h.elim
    | true =>
      simp only [hs] at h
      exact q G ρ σ H Q d j hf fun v H' s1 r => h G v H' (j.ex (j.up s1)) (r.scal hs)
theorem opP_sem {ta tb : TE} {r : R2} {fa fb : En → Option D} {f : D → D → Option D} (qa : ∀ G ρ σ H Q d, J X.K G ρ σ H → fa ρ = some d → (∀ v H', SameT H H' → Rp X.K H' v d → Q v H') → ta σ H Q) (qb : ∀ G ρ σ H Q d, J X.K G ρ σ H → fb ρ = some d → (∀ v H', SameT H H' → Rp X.K H' v d → Q v H') → tb σ H Q)
    (hr : ∀ G H x y a b c Q, Sub X.K G H → Rp X.K G x a → Rp X.K G y b → f a b = some c → (∀ G' v H', PX G H G' H' → Rp X.K G' v c → Q v H') → r x y H Q) : ∀ G ρ σ H Q, J X.K G ρ σ H → Post X.K E (Rp X.K) G ρ σ H Q (mP (pOp f fa fb) ρ) → tOp r ta tb σ H Q := by
  intro G ρ σ H Q j h
  unfold mP pOp at h
  cases h1 : fa ρ with
  | none => simp only [h1] at h; exact h.elim
  | some x =>
    simp only [h1] at h
    cases h2 : fb ρ with
    | none => simp only [h2] at h; exact h.elim
    | some y =>
      simp only [h2] at h
      cases h3 : f x y with
      | none => simp only [h3] at h; exact h.elim
      | some d =>
        simp only [h3] at h
        cases hs : scal d with
        | false => simp only [hs] at h; exact h.elim
        | true =>
          simp only [hs] at h
          exact qa G ρ σ H _ x j h1 fun v H1 s1 r1 => qb G ρ σ H1 _ y (j.px (j.up s1)) h2 fun u H2 s2 r2 => hr H2 H2 v u x y d Q ⟨.refl _, (j.px (j.up (s1.trans s2))).sub.tb⟩ (r1.mono s2) r2 h3 fun G' w H' px rw' => h G w H' (j.ex (j.up ((s1.trans s2).trans px.ht))) (rw'.scal hs)
theorem et_cmpP {op : CmpOp} {a b : Expr} {pos : Pos} {fa fb : En → Option D} {f : D → D → Option D} (ho : DOp X (compareOp op) f) (ha : EVP X a fa) (hb : EVP X b fb) (hm : behindInMarks op b = false := by rfl) : ET X E (.Compare a [op] [b] pos) (mTest (mP (pOp f fa fb))) := by
  obtain ⟨r, o, hr⟩ := ho
  obtain ⟨ta, pa, qa⟩ := ha
  obtain ⟨tb, pb, qb⟩ := hb
  exact ⟨_, pt_cmpR o pa pb hm, test_sem (opP_sem qa qb hr)⟩
def mPopD (i : Nat) : Mo D := fun ρ => match dlAt ρ i with
  | some (o, g, z, o', xs) => (match xs[xs.length - 1]? with
    | some d => some (.ok (dlPut ρ i o g z o' xs.dropLast, d))
    | none => none)
  | none => none
theorem ev_popD {i k : Nat} {x : Str} {p1 p2 p3 apos pos : Pos} (hN : X.N[i]? = some x := by rfl) (hv : Vis X.env.scope x := by first | exact Or.inl rfl | exact Or.inr (Or.inl rfl) | exact Or.inr (Or.inr rfl)) (hd : (x == ("__debug__" : Str)) = false := by decide) (hcd : (x == ("__classdict__" : Str)) = false := by decide)
    (hs : PlainIx (.Constant (.int 0) k p2) := by exact fun _ _ => rfl)
    (base : attributeBase (.Subscript (.Name x p1) (.Constant (.int 0) k p2) p3) "pop" X.env (eval (.Subscript (.Name x p1) (.Constant (.int 0) k p2) p3) X.env) = eval (.Subscript (.Name x p1) (.Constant (.int 0) k p2) p3) X.env := by rfl) (line : (apos.endLine == pos.line) = true := by rfl) :
    EV X E (.Call (.Attribute (.Subscript (.Name x p1) (.Constant (.int 0) k p2) p3) "pop" apos) [] [] pos) (mPopD i) := by
  refine ⟨_, pe_bm0 PySem.F.plainAttrs_list PySem.F.slot_list_pop PySem.F.type_list_pop mt_pop (pe_ix ix_seq (pe_var hN hv hd hcd) pe_int hs) base line, fun G ρ σ H Q j h => ?_⟩
  unfold mPopD at h
  cases h0 : dlAt ρ i with
  | none => rw [h0] at h; exact h.elim
  | some t0 =>
    obtain ⟨o, g, z, o', xs⟩ := t0
    simp only [h0] at h
    cases hl : xs[xs.length - 1]? with
    | none => rw [hl] at h; exact h.elim
    | some d =>
      rw [hl] at h
      obtain ⟨y1, y2⟩ := dlAt_ok h0
      obtain ⟨a, a1, u, ws, q1, q2, q3, q4, q5, q6, q7, q8, q9, q10⟩ := j.deal y1 y2
      obtain ⟨v, g1, g2⟩ := q10.get hl
      exact ⟨.ref a, q1, .inl ⟨_, _, _, _, rfl, rfl, .of q5, rfl, .inl ⟨rfl, ws, .of q6⟩, a1, ws, v, rfl, rfl, q6, by rw [q10.length]; exact g1, h G v _ (j.putIn y1 y2 q2 q10.dropLast) g2⟩⟩
def appDk (i g0 : Nat) (as : List D) : Mo Fl := fun ρ1 => match as with
  | [d] => (match dlAt ρ1 i with
    | some (o, g, z, o', xs) => (match Nat.beq g g0 && Nat.blt xs.length 1000000 with
      | true => some (.ok (dlPut ρ1 i o g z o' (xs ++ [d]), .nx))
      | false => none)
    | none => none)
  | _ => none
def sAppD (i : Nat) (f : Mo (List D)) : Mo Fl := fun ρ => match dlAt ρ i with
  | none => none
  | some (_, g0, _, _, _) => mBind f (fun as => appDk i g0 as) ρ
theorem s_appD {i k : Nat} {x : Str} {e : Expr} {f : Mo (List D)} {p1 p2 p3 apos cpos pos : Pos} (h : EA X E [e] f) (hN : X.N[i]? = some x := by rfl) (hv : Vis X.env.scope x := by first | exact Or.inl rfl | exact Or.inr (Or.inl rfl) | exact Or.inr (Or.inr rfl)) (hd : (x == ("__debug__" : Str)) = false := by decide) (hcd : (x == ("__classdict__" : Str)) = false := by decide)
    (hs0 : PlainIx (.Constant (.int 0) k p2) := by exact fun _ _ => rfl)
    (hs : swapsWith (.Call (.Attribute (.Subscript (.Name x p1) (.Constant (.int 0) k p2) p3) "append" apos) [e] [] cpos) none pos.line X.env = pure false := by rfl)
    (hbase : attributeBase (.Subscript (.Name x p1) (.Constant (.int 0) k p2) p3) "append" X.env (eval (.Subscript (.Name x p1) (.Constant (.int 0) k p2) p3) X.env) = eval (.Subscript (.Name x p1) (.Constant (.int 0) k p2) p3) X.env := by rfl)
    (few : ((backTo cpos (starEach [e] X.env)).all (fun x => !x.1) && (backToKw cpos (keywordEach [] X.env)).all (fun x => x.1.isSome) && decide ([e].length + ([] : List Keyword).length + (if ([] : List Keyword).isEmpty then 0 else 1) < 30)) = true := by rfl)
    (same_line : (apos.endLine == cpos.line) = true := by rfl) (hst : starEach [e] X.env = (false, eval e X.env) :: starEach [] X.env := by rfl) (hplain : (backTo cpos (starEach [] X.env)).any (·.1) = false := by rfl) :
    SV X E (.Expr (.Call (.Attribute (.Subscript (.Name x p1) (.Constant (.int 0) k p2) p3) "append" apos) [e] [] cpos) pos) (sAppD i f) := by
  obtain ⟨t, p, q⟩ := h
  refine ⟨_, ps_expr (pe_bm PySem.F.plainAttrs_list PySem.F.slot_list_append PySem.F.type_list_append mt_append (pe_ix ix_seq (pe_var hN hv hd hcd) pe_int hs0) p hbase few same_line hst hplain) hs, fun G ρ σ H De j h => ?_⟩
  unfold sAppD at h
  cases h0 : dlAt ρ i with
  | none => rw [h0] at h; exact h.elim
  | some t0 =>
    obtain ⟨o, g, z, o', xs⟩ := t0
    simp only [h0] at h
    obtain ⟨y1, y2⟩ := dlAt_ok h0
    obtain ⟨a, a1, u, ws, q1, q2, q3, q4, q5, q6, q7, q8, q9, q10⟩ := j.deal y1 y2
    refine ⟨.ref a, q1, .inl ⟨_, _, _, _, rfl, rfl, .of q5, rfl, .inl ⟨rfl, ws, .of q6⟩, q G ρ σ H _ j (PostS.imp h fun G1 ρ1 us H1 as e1 r1 k => ?_)⟩⟩
    have k' : PostS X.K E G1 ρ1 σ H1 De (appDk i g as ρ1) := k
    clear k
    cases r1 with
    | nil => exact k'.elim
    | @cons v vs d ds rv rest =>
      cases rest with
      | cons _ _ => exact k'.elim
      | nil =>
        unfold appDk at k'
        cases h3 : dlAt ρ1 i with
        | none => simp only [h3] at k'; exact k'.elim
        | some t3 =>
          obtain ⟨o3, g3, z3, o4, xs3⟩ := t3
          simp only [h3] at k'
          cases hb : Nat.beq g3 g && Nat.blt xs3.length 1000000 with
          | false => simp only [hb] at k'; exact k'.elim
          | true =>
            simp only [hb] at k'
            rw [Bool.and_eq_true] at hb
            have eg := Nat.eq_of_beq_eq_true hb.1
            subst eg
            have hlt : xs3.length < 1000000 := by
              have hb2 := hb.2
              unfold Nat.blt at hb2
              exact Nat.le_of_ble_eq_true hb2
            obtain ⟨w1, w2⟩ := dlAt_ok h3
            obtain ⟨a2, b2, u2, ws2, m1, m2, m3, m4, m5, m6, m7, m8, m9, m10⟩ := e1.j.deal w1 w2
            rw [q2] at m2
            cases m2
            exact ⟨a1, ws2, v, rfl, rfl, m6, by rw [m10.length]; exact Nat.lt_of_lt_of_le hlt (by decide), k' G1 σ _ (e1.j.putIn w1 w2 q2 (m10.append (.cons rv .nil)))⟩
def sPutD (i : Nat) (fe : Mo D) : Mo Fl := mBind fe fun d ρ => match dlAt ρ i with
  | some (o, g, _, o', xs) => some (.ok (dlPut ρ i o g d o' xs, .nx))
  | none => none
theorem s_putD {i k : Nat} {x : Str} {e : Expr} {fe : Mo D} {p1 p2 tpos pos : Pos} (h : EV X E e fe) (hN : X.N[i]? = some x := by rfl) (hv : Vis X.env.scope x := by first | exact Or.inl rfl | exact Or.inr (Or.inl rfl) | exact Or.inr (Or.inr rfl)) (hd : (x == ("__debug__" : Str)) = false := by decide) (hcd : (x == ("__classdict__" : Str)) = false := by decide)
    (sub : ∀ {to ti : TE} {t : TSet}, PE X (.Name x p1) to → PE X (.Constant (.int 1) k p2) ti → PSet X t → PG X (.Subscript (.Name x p1) (.Constant (.int 1) k p2) tpos) (gSub to ti t) := by exact fun a b c => pg_sub a b c)
    (sole : swapsWithSole [.Subscript (.Name x p1) (.Constant (.int 1) k p2) tpos] e pos.line X.env = pure false := by rfl) (hw : swappedStores [.Subscript (.Name x p1) (.Constant (.int 1) k p2) tpos] e X.env = pure none := by rfl)
    (each : (assignEach [.Subscript (.Name x p1) (.Constant (.int 1) k p2) tpos] X.env).map (·.2) = [assign (.Subscript (.Name x p1) (.Constant (.int 1) k p2) tpos) X.env] := by rfl) : SV X E (.Assign [.Subscript (.Name x p1) (.Constant (.int 1) k p2) tpos] e pos) (sPutD i fe) := by
  obtain ⟨t, p, q⟩ := h
  refine ⟨_, ps_asg p (sub (pe_var hN hv hd hcd) pe_int set_list) sole hw each, fun G ρ σ H De j h => q G ρ σ H _ j (PostS.imp h fun G1 ρ1 v H1 d e1 r1 k => ?_)⟩
  have k' : PostS X.K E G1 ρ1 σ H1 De (match dlAt ρ1 i with
    | some (o, g, _, o', xs) => some (.ok (dlPut ρ1 i o g d o' xs, .nx))
    | none => none) := k
  cases h0 : dlAt ρ1 i with
  | none => rw [h0] at k'; exact k'.elim
  | some t0 =>
    obtain ⟨o, g, z, o', xs⟩ := t0
    simp only [h0] at k'
    obtain ⟨y1, y2⟩ := dlAt_ok h0
    obtain ⟨a, a1, u, ws, q1, q2, q3, q4, q5, q6, q7, q8, q9, q10⟩ := e1.j.deal y1 y2
    exact ⟨.ref a, q1, a, _, 1, 1, rfl, rfl, q5, rfl, k' G1 σ _ (e1.j.putOut y1 y2 q1 q2 r1)⟩
end
def dl0 (n : Nat) (ρ : En) : Option (List D × D) := match (ρ[0]? : Option Sl) with
  | some (Sl.dl false g z) => (match Nat.beq g n with
    | true => (match ρ[n]? with
      | some (.gst false xs) => some (xs, z)
      | _ => none)
    | false => none)
  | _ => none
theorem dl0_ok {n : Nat} {ρ : En} {xs : List D} {z : D} (h : dl0 n ρ = some (xs, z)) : ρ[0]? = some (.dl false n z) ∧ ρ[n]? = some (.gst false xs) := by
  unfold dl0 at h
  split at h
  · rename_i e
    split at h
    · rename_i eb
      have := Nat.eq_of_beq_eq_true eb
      subst this
      split at h
      · rename_i e2
        cases h
        exact ⟨e, e2⟩
      · cases h
    · cases h
  · cases h
def startDl (n : Nat) (xs : List D) (z : D) (as : List D) : En := .dl false n z :: (as.map Sl.pur ++ List.replicate (n - as.length) Sl.no).set (n - 1) (.gst false xs)
def runDl (n : Nat) (g : Mo Fl) : FnDl := fun xs z as => match g (startDl n xs z as) with
  | some (.ok (ρ', .rt d)) => (match dl0 n ρ' with
    | some (xs', z') => some (.ok (xs', z', d))
    | none => none)
  | some (.ok (ρ', .nx)) => (match dl0 n ρ' with
    | some (xs', z') => some (.ok (xs', z', .none))
    | none => none)
  | _ => none
def guardDl (n : Nat) (F : FnDl) : FnDl := fun xs z as => match Nat.beq as.length n with
  | true => F xs z as
  | false => none
theorem start_get {N : List Str} {as : List D} {i : Nat} {s : Sl} (h : (as.map Sl.pur ++ List.replicate (N.length - as.length) Sl.no)[i]? = some s) : s.hs = none := by
  cases hs : s.hs with
  | none => rfl
  | some es =>
    rw [List.getElem?_append] at h
    split at h
    · rw [List.getElem?_map] at h
      cases q : as[i]? with
      | none => rw [q] at h; cases h
      | some d => rw [q] at h; cases h; cases hs
    · rw [List.getElem?_replicate] at h
      split at h
      · cases h; cases hs
      · cases h
/-- the state in which such a def begins -/
theorem J.begin {K : PySem.W.Frag} {G H : Hp} {ρ : En} {σ : St} {a a1 : Addr} {u : V} {ws : List V} {xs : List D} {z : D} {m : Nat} (j : J K G ρ σ H) (no : ∀ (k : Nat) (s : Sl), ρ[k]? = some s → s.hs = none) (hm : m < ρ.length) (ne : a ≠ a1) (h1 : H a = some (.lst [.ref a1, u])) (h2 : H a1 = some (.lst ws)) (g1 : G a = none) (g2 : G a1 = none) (rz : Rp K G u z) (rx : RpAll K G ws xs) :
    J K G (.dl false (m + 1) z :: ρ.set m (.gst false xs)) (some (.ref a) :: σ.set m (some (.ref a1))) H ∧ ∀ b, Ownd (.dl false (m + 1) z :: ρ.set m (.gst false xs)) (some (.ref a) :: σ.set m (some (.ref a1))) b → b = a ∨ b = a1 := by
  have hmσ : m < σ.length := by rw [← j.len]; exact hm
  have look : ∀ (k : Nat) (s : Sl) (es : List D), (.dl false (m + 1) z :: ρ.set m (.gst false xs))[k]? = some s → s.hs = some es → (k = 0 ∧ s = .dl false (m + 1) z) ∨ (k = m + 1 ∧ s = .gst false xs) := fun k s es e hs => by
    cases k with
    | zero => cases e; exact .inl ⟨rfl, rfl⟩
    | succ k =>
      rcases getElem?_set_cases (show (ρ.set m (.gst false xs))[k]? = some s from e) with ⟨e1, e2⟩ | ⟨_, e2⟩
      · exact .inr ⟨by rw [e1], e2⟩
      · rw [no k s e2] at hs; cases hs
  have at0 : ((some (.ref a) : Option V) :: σ.set m (some (.ref a1)))[0]? = some (some (.ref a)) := rfl
  have at1 : ((some (.ref a) : Option V) :: σ.set m (some (.ref a1)))[m + 1]? = some (some (.ref a1)) := by
    rw [List.getElem?_cons_succ, List.getElem?_set_self hmσ]
  refine ⟨⟨j.sub, by rw [List.length_cons, List.length_cons, List.length_set, List.length_set, j.len], fun k d e => ?_, fun k s es e hs => ?_, fun k l s t es fs b e1 l1 e2 l2 e3 e4 => ?_, fun k g o o' y ys e1 e2 => ?_⟩, fun b ⟨k, s, es, e, hs, hb⟩ => ?_⟩
  · cases k with
    | zero => cases e
    | succ k =>
      rcases getElem?_set_cases (show (ρ.set m (.gst false xs))[k]? = some (.pur d) from e) with ⟨_, e2⟩ | ⟨e1, e2⟩
      · cases e2
      · obtain ⟨v, y1, y2⟩ := j.pur k d e2
        exact ⟨v, by rw [List.getElem?_cons_succ, List.getElem?_set_ne (Ne.symm e1)]; exact y1, y2⟩
  · rcases look k s es e hs with ⟨rfl, rfl⟩ | ⟨rfl, rfl⟩
    · cases hs
      exact ⟨a, _, at0, h1, g1, .cons (.gst a1 (m + 1)) (.cons rz .nil)⟩
    · cases hs
      exact ⟨a1, ws, at1, h2, g2, rx⟩
  · rcases look k s es e1 l1 with ⟨rfl, rfl⟩ | ⟨rfl, rfl⟩
    · rcases look l t fs e2 l2 with ⟨rfl, rfl⟩ | ⟨rfl, rfl⟩
      · rfl
      · rw [at0] at e3
        rw [at1] at e4
        cases e3
        cases e4
        exact absurd rfl ne
    · rcases look l t fs e2 l2 with ⟨rfl, rfl⟩ | ⟨rfl, rfl⟩
      · rw [at1] at e3
        rw [at0] at e4
        cases e3
        cases e4
        exact absurd rfl ne
      · rfl
  · rcases look k _ _ e1 rfl with ⟨rfl, y1⟩ | ⟨rfl, y1⟩
    · cases y1
      exact ⟨a, _, u, at0, h1, at1⟩
    · cases y1
  · rcases look k s es e hs with ⟨rfl, rfl⟩ | ⟨rfl, rfl⟩
    · rw [at0] at hb; cases hb; exact .inl rfl
    · rw [at1] at hb; cases hb; exact .inr rfl
theorem bodyDl {K : PySem.W.Frag} {E : XK} {N : List Str} {x : Str} {g : Mo Fl} {t : TS} {n : Nat} (q : ∀ G ρ σ H De, J K G ρ σ H → PostS K E G ρ σ H De (g ρ) → t De σ H) (pos : 0 < N.length) {vs : List V} {H : Hp} {Q : VK} (h : spDl K n (guardDl n (runDl N.length g)) vs H Q E) :
    ∃ v, t { nx := fun _ H' => Q .non H', rt := Q } ((start (x :: N) vs).set N.length v) H := by
  obtain ⟨a, a1, u, ws, us, xs, z, as, G, rfl, ne, h1, h2, g1, g2, s, rz, rx, r2, hl, k⟩ := h
  refine ⟨some (.ref a1), ?_⟩
  rw [start_cons]
  have e0 : guardDl n (runDl N.length g) xs z as = runDl N.length g xs z as := by
    unfold guardDl
    have e : Nat.beq as.length n = true := by rw [hl]; exact Nat.beq_refl _
    rw [e]
  rw [e0] at k
  obtain ⟨m, hm⟩ : ∃ m, N.length = m + 1 := ⟨N.length - 1, by omega⟩
  have js := start_j (N := N) s r2
  have ml : m < (as.map Sl.pur ++ List.replicate (N.length - as.length) Sl.no).length := by
    rw [js.len]
    unfold L2.start
    simp only [List.length_append, List.length_map, List.length_replicate]
    omega
  obtain ⟨j0, own1⟩ := js.begin (fun k s e => start_get e) ml ne h1 h2 g1 g2 rz rx
  have es : startDl N.length xs z as = .dl false (m + 1) z :: (as.map Sl.pur ++ List.replicate (N.length - as.length) Sl.no).set m (.gst false xs) := by
    unfold startDl
    rw [hm]
    rfl
  have eσ : ((some (V.ref a)) :: start N us).set N.length (some (V.ref a1)) = some (V.ref a) :: (start N us).set m (some (V.ref a1)) := by
    rw [hm]
    rfl
  rw [eσ]
  have fin : ∀ (ρ' : En) (xs' : List D) (z' d : D) (G' : Hp) (σ' : St) (v : V) (H' : Hp), dl0 N.length ρ' = some (xs', z') → Ex K G (.dl false (m + 1) z :: (as.map Sl.pur ++ List.replicate (N.length - as.length) Sl.no).set m (.gst false xs)) (some (.ref a) :: (start N us).set m (some (.ref a1))) H G' ρ' σ' H' → Rp K G' v d → PostDl K G H a a1 Q (some (.ok (xs', z', d))) → Q v H' := by
    intro ρ' xs' z' d G' σ' v H' hd e rv kk
    obtain ⟨d1, d2⟩ := dl0_ok hd
    obtain ⟨b, b1, u', ws', m1, m2, m3, m4, m5, m6, m7, m8, m9, m10⟩ := e.j.deal d1 d2
    obtain ⟨_, w1⟩ := e.bd 0 _ d1 rfl
    obtain ⟨_, w2⟩ := e.bd N.length _ d2 rfl
    rw [w1] at m1
    cases m1
    rw [w2, hm, List.getElem?_cons_succ, List.getElem?_set_self (by rw [← js.len]; exact ml)] at m2
    cases m2
    refine kk G' v H' ws' u' e.g (fun b hb => ?_) e.j.sub (fun b o n1 n2 hq => e.kept b o hq fun y => (own1 b y).elim n1 n2) ⟨e.dom, e.tt⟩ m7 m8 m5 m6 m10 m9 rv
    rcases e.new b hb with y | y | y
    · exact .inl y
    · exact .inr y
    · rcases own1 b y with y | y <;> subst y
      · exact absurd m7 hb
      · exact absurd m8 hb
  refine q G _ _ H _ j0 ?_
  unfold runDl at k
  rw [es] at k
  match hg : g (.dl false (m + 1) z :: (as.map Sl.pur ++ List.replicate (N.length - as.length) Sl.no).set m (.gst false xs)), k with
  | none, k => simp only [hg] at k; exact k.elim
  | some (.error y), k => simp only [hg] at k; exact k.elim
  | some (.ok (ρ', .rt d)), k =>
    simp only [hg] at k
    cases hb : dl0 N.length ρ' with
    | none => simp only [hb] at k; exact k.elim
    | some p => simp only [hb] at k; exact fun G' σ' v H' e rv => fin ρ' p.1 p.2 d G' σ' v H' hb e rv k
  | some (.ok (ρ', .nx)), k =>
    simp only [hg] at k
    cases hb : dl0 N.length ρ' with
    | none => simp only [hb] at k; exact k.elim
    | some p => simp only [hb] at k; exact fun G' σ' H' e => fin ρ' p.1 p.2 .none G' σ' .non H' hb e .non k
  | some (.ok (ρ', .bk)), k => simp only [hg] at k; exact k.elim
  | some (.ok (ρ', .ct)), k => simp only [hg] at k; exact k.elim
theorem fn_okD {P : Program} {w : World} {K : PySem.W.Frag} {mg : Str → Option Value} {base : Heap} {x y ghost : Str} {st : Stmt} {fd : FuncData} {N ps : List Str} {k : Nat} {g : Mo Fl} (F : FunD K x x (defArgs st) (defBody st) (defScope st) [] [] (He.ga K x) fd) (S : FnScope (y :: N) (y :: ps) (defScope st)) (gl : mg x = some (.ref (He.ga K x)))
    (hgh : (y :: N)[N.length]? = some ghost) (un : (defScope st).names.lookup ghost = none) (pos : 0 < N.length)
    (b : ∀ (kV doc pm : Value) (an : Option Addr) (cdv ct : Value) (us : List Value), us.length = (y :: ps).length → bindArgs (PySem.W.fnOf x x (defArgs st) (defBody st) (defScope st) .none kV doc pm an cdv ct) ⟨us, []⟩ = pure ((y :: ps).zip us))
    (hb : ∀ (cdv : Value) (A : Around) (outer : List PySem.Env) (s : Shared) (H : Hp) (E : XK), Room k (A.deeper (PyProof.Rows.envOfC x (defScope st) s.heap.objs.size (He.ga K x) cdv)) → SVs (cxOf (L2.CX P w) P w K mg base (y :: N) x (defScope st) (He.ga K x) cdv A outer s H E) E (defBody st) g) :
    FnDlE P w K mg base (k + 1) x ps.length (guardDl ps.length (runDl N.length g)) := by
  refine ⟨⟨fd, y :: ps, F.ok S (fun vs H Q E h => ?_) fun cdv A outer s H vs Q E hr h => ?_, F.bindsN b⟩, F.kp, gl, fun xs z as h => ?_⟩
  · obtain ⟨a, a1, u, ws, us, xs, z, as, G, rfl, _, _, _, _, _, _, _, _, r, hl, _⟩ := h
    show us.length + 1 = ps.length + 1
    rw [r.length, hl]
  · obtain ⟨t, p, q⟩ := hb cdv A outer s H E hr
    exact ⟨_, pss_ghost p hgh (unseen un), bodyDl q pos h⟩
  · unfold guardDl at h
    cases q : Nat.beq as.length ps.length with
    | true => exact Nat.eq_of_beq_eq_true q
    | false => rw [q] at h; exact absurd rfl h
abbrev FnND := List D → Option (Except Exn (List D × D))
def PostFD (K : PySem.W.Frag) (G H : Hp) (Q : VK) : Option (Except Exn (List D × D)) → Prop
  | some (.ok (xs, z)) => ∀ G' a a1 u ws H', PX G H G' H' → H a = none → H a1 = none → a ≠ a1 → G' a = none → G' a1 = none → H' a = some (.lst [.ref a1, u]) → H' a1 = some (.lst ws) → Rp K G' u z → RpAll K G' ws xs → Q (.ref a) H'
  | _ => False
def spND (K : PySem.W.Frag) (n : Nat) (F : FnND) : Sp := fun vs H Q _ => ∃ G ds, Sub K G H ∧ RpAll K G vs ds ∧ ds.length = n ∧ PostFD K G H Q (F ds)
structure FnNDE (P : Program) (w : World) (K : PySem.W.Frag) (mg : Str → Option Value) (base : Heap) (k : Nat) (x : Str) (n : Nat) (F : FnND) : Prop where
  ex : ∃ fd ps, FnOk P w K mg base (L2.CX P w) k (He.ga K x) fd ps (spND K n F) ∧ Binds K fd ps []
  kp : PySem.W.keepIn K (.ref (He.ga K x)) = true
  gl : mg x = some (.ref (He.ga K x))
  ln : ∀ ds, F ds ≠ none → ds.length = n
def PostRD (K : PySem.W.Frag) (E : XK) (G : Hp) (ρ : En) (σ : St) (H : Hp) (De : Ends) : Option (Except Exn (En × List D × D)) → Prop
  | some (.ok (ρ', xs, z)) => ∀ G' σ' a a1 u ws H', Ex K G ρ σ H G' ρ' σ' H' → H a = none → H a1 = none → a ≠ a1 → G' a = none → G' a1 = none → H' a = some (.lst [.ref a1, u]) → H' a1 = some (.lst ws) → Rp K G' u z → RpAll K G' ws xs → De.rt (.ref a) H'
  | _ => False
def SVD (X : Cx) (E : XK) (s : List Stmt) (g : Mo (List D × D)) : Prop := ∃ t, PSs X s t ∧ ∀ G ρ σ H De, J X.K G ρ σ H → PostRD X.K E G ρ σ H De (g ρ) → t De σ H
section
variable {X : Cx} {E : XK}
/-- the new list, from its end -/
def revNk (b : Bool) (d : D) : Mo (List D) := match b, d with
  | true, .list ds => mRet ds.reverse
  | _, _ => fun _ => none
def mRevN (f : Mo D) (s : Mo (Option Int)) : Mo (List D) := mBind f fun d => mBind s fun o => revNk (isM1 o) d
theorem en_rev {e st : Expr} {f : Mo D} {fs : Mo (Option Int)} {p3 pos : Pos} (h : EV X E e f) (hs : EO X E (some st) fs) : EN X E (.Subscript e (.Slice none none (some st) p3) pos) (mRevN f fs) := by
  obtain ⟨t, p, q⟩ := h
  obtain ⟨tl, pl, ql⟩ := hs
  refine ⟨_, pe_back p pl, fun G ρ σ H Q j h => q G ρ σ H _ j (Post.impN h fun G1 ρ1 v H1 d e1 r1 h1 => ?_)⟩
  refine ql G1 ρ1 σ H1 _ e1.j (Post.impN h1 fun G2 ρ2 l H2 l' e2 rl h2 => ?_)
  subst rl
  have h2' : PostN X.K E G2 ρ2 σ H2 Q (revNk (isM1 l) d ρ2) := h2
  clear h2
  clear h1
  cases hm : isM1 l with
  | false => rw [hm] at h2'; exact h2'.elim
  | true =>
    rw [hm] at h2'
    refine ⟨isM1_ok hm, ?_⟩
    cases r1.mono e2.g with
    | @lst a xs ds z1 z2 =>
      refine .inl ⟨a, xs, rfl, .of (e2.j.sub _ _ z1), fun p hp => ?_⟩
      exact h2' _ _ _ (new_list e2.j hp z2.rev) ⟨p, _, rfl, hp, e2.j.free hp, upd_same, e2.j.nown hp, z2.rev⟩
    | _ => exact h2'.elim
/-- the end of such a def: return [xs, z] -/
def rRetD (f : Mo (List D)) (f2 : Mo D) : Mo (List D × D) := fun ρ => match f ρ with
  | some (.ok (ρ1, xs)) => (match f2 ρ1 with
    | some (.ok (ρ2, z)) => some (.ok (ρ2, xs, z))
    | _ => none)
  | _ => none
theorem svd_ret {e e2 : Expr} {f : Mo (List D)} {f2 : Mo D} {p2 pos : Pos} (h : EN X E e f) (h2 : EV X E e2 f2) (he : starEach [e, e2] X.env = (false, eval e X.env) :: starEach [e2] X.env := by rfl) (he2 : starEach [e2] X.env = (false, eval e2 X.env) :: starEach [] X.env := by rfl) : SVD X E [.Return (some (.List [e, e2] p2)) pos] (rRetD f f2) := by
  obtain ⟨t, p, q⟩ := h
  obtain ⟨t2, pp2, q2⟩ := h2
  refine ⟨_, pss_one (ps_ret (pe_lst (pa_cons p (pa_cons pp2 pa_nil he2) he))), fun G ρ σ H De j h => q G ρ σ H _ j ?_⟩
  unfold rRetD at h
  match hf : f ρ, h with
  | none, h => exact h.elim
  | some (.error _), h => exact h.elim
  | some (.ok (ρ1, xs)), h =>
    simp only [hf] at h
    intro G1 v H1 e1 r1
    obtain ⟨a1, ws, rfl, z1, z2, z3, no, z4⟩ := r1
    refine q2 G1 ρ1 σ H1 _ e1.j ?_
    match hf2 : f2 ρ1, h with
    | none, h => simp only [hf2] at h; exact h.elim
    | some (.error _), h => simp only [hf2] at h; exact h.elim
    | some (.ok (ρ2, z)), h =>
      simp only [hf2] at h
      intro G2 u H2 e2 r2
      refine ⟨(show 2 ≤ sizeLine by decide), fun p hp => ?_⟩
      have n1 : H2 a1 = some (.lst ws) := e2.kept a1 _ z3 no
      have n2 : G2 a1 = none := by
        cases y : G2 a1 with
        | none => rfl
        | some w =>
          rcases e2.new a1 (by rw [y]; simp) with x | x | x
          · exact absurd z2 x
          · rw [z3] at x; cases x
          · exact absurd x no
      have pa : p ≠ a1 := fun y => by
        subst y
        rw [n1] at hp; cases hp
      have h1p : H1 p = none := e2.dom p hp
      refine h G2 σ p a1 u ws _ ((e1.trans e2).trans (new_list e2.j hp (.cons (.gst a1 0) (.cons r2 .nil)))) (e1.dom p h1p) z1 pa (e2.j.free hp) n2 upd_same (by rw [upd_ne (Ne.symm pa)]; exact n1) r2 (z4.mono e2.g)
def rSeqD (a : Mo Fl) (g : Mo (List D × D)) : Mo (List D × D) := fun ρ => match a ρ with
  | some (.ok (ρ1, .nx)) => g ρ1
  | _ => none
theorem svd_cons {s : Stmt} {rest : List Stmt} {a : Mo Fl} {g : Mo (List D × D)} (h1 : SV X E s a) (h2 : SVD X E rest g) : SVD X E (s :: rest) (rSeqD a g) := by
  obtain ⟨t, p, q⟩ := h1
  obtain ⟨t2, p2, q2⟩ := h2
  refine ⟨_, pss_cons p p2, fun G ρ σ H De j h => q G ρ σ H _ j ?_⟩
  unfold rSeqD at h
  match ha : a ρ, h with
  | none, h => exact h.elim
  | some (.error _), h => exact h.elim
  | some (.ok (ρ1, .nx)), h =>
    intro G1 σ1 H1 e1
    refine q2 G1 ρ1 σ1 H1 De e1.j ?_
    match hg : g ρ1, h with
    | none, h => simp only [hg] at h; exact h.elim
    | some (.error _), h => simp only [hg] at h; exact h.elim
    | some (.ok (ρ2, xs, z)), h =>
      simp only [hg] at h
      exact fun G' σ' a a1 u ws H' e2 z1 z2 z3 z4 z5 z6 z7 z8 z9 => h G' σ' a a1 u ws H' (e1.trans e2) (e1.dom a z1) (e1.dom a1 z2) z3 z4 z5 z6 z7 z8 z9
  | some (.ok (ρ1, .rt _)), h => exact h.elim
  | some (.ok (ρ1, .bk)), h => exact h.elim
  | some (.ok (ρ1, .ct)), h => exact h.elim
end
def runND (n : Nat) (g : Mo (List D × D)) : FnND := fun ds => match g (ds.map Sl.pur ++ List.replicate (n - ds.length) Sl.no) with
  | some (.ok (_, r)) => some (.ok r)
  | _ => none
def guardND (n : Nat) (F : FnND) : FnND := fun ds => match Nat.beq ds.length n with
  | true => F ds
  | false => none
theorem fn_okND {P : Program} {w : World} {K : PySem.W.Frag} {mg : Str → Option Value} {base : Heap} {x : Str} {st : Stmt} {fd : FuncData} {N ps : List Str} {k : Nat} {g : Mo (List D × D)} (F : FunD K x x (defArgs st) (defBody st) (defScope st) [] [] (He.ga K x) fd) (S : FnScope N ps (defScope st)) (gl : mg x = some (.ref (He.ga K x)))
    (b : ∀ (kV doc pm : Value) (an : Option Addr) (cdv ct : Value) (us : List Value), us.length = ps.length → bindArgs (PySem.W.fnOf x x (defArgs st) (defBody st) (defScope st) .none kV doc pm an cdv ct) ⟨us, []⟩ = pure (ps.zip us))
    (hb : ∀ (cdv : Value) (A : Around) (outer : List PySem.Env) (s : Shared) (H : Hp) (E : XK), Room k (A.deeper (PyProof.Rows.envOfC x (defScope st) s.heap.objs.size (He.ga K x) cdv)) → SVD (cxOf (L2.CX P w) P w K mg base N x (defScope st) (He.ga K x) cdv A outer s H E) E (defBody st) g) :
    FnNDE P w K mg base (k + 1) x ps.length (guardND ps.length (runND N.length g)) := by
  refine ⟨⟨fd, ps, F.ok S (fun vs H Q E h => ?_) fun cdv A outer s H vs Q E hr h => ?_, F.bindsN b⟩, F.kp, gl, fun ds h => ?_⟩
  · obtain ⟨G, ds, _, r, hl, _⟩ := h
    rw [r.length, hl]
  · obtain ⟨t, p, q⟩ := hb cdv A outer s H E hr
    refine ⟨t, p, ?_⟩
    obtain ⟨G, ds, sb, r, hl, k⟩ := h
    have e0 : guardND ps.length (runND N.length g) ds = runND N.length g ds := by
      unfold guardND
      have e : Nat.beq ds.length ps.length = true := by rw [hl]; exact Nat.beq_refl _
      rw [e]
    rw [e0] at k
    refine q G _ _ H _ (start_j sb r) ?_
    have no : ∀ b, ¬ Ownd (ds.map Sl.pur ++ List.replicate (N.length - ds.length) Sl.no) (start N vs) b := fun b => start_no
    unfold runND at k
    match hg : g (ds.map Sl.pur ++ List.replicate (N.length - ds.length) Sl.no), k with
    | none, k => simp only [hg] at k; exact k.elim
    | some (.error _), k => simp only [hg] at k; exact k.elim
    | some (.ok (ρ', p)), k =>
      simp only [hg] at k
      exact fun G' σ' a a1 u ws H' e z1 z2 z3 z4 z5 z6 z7 z8 z9 => k G' a a1 u ws H' (e.px no) z1 z2 z3 z4 z5 z6 z7 z8 z9
  · unfold guardND at h
    cases q : Nat.beq ds.length ps.length with
    | true => exact Nat.eq_of_beq_eq_true q
    | false => rw [q] at h; exact absurd rfl h
def isDl : Sl → Bool
  | .dl _ _ _ => true
  | _ => false
def sOwnD (i g : Nat) (F : FnND) (a : Mo (List D)) : Mo Fl := mBind a fun ds ρ => match F ds with
  | some (.ok (xs, z)) => (match Nat.beq i g || (ρ.set i .no).any isDl || !(Nat.blt i ρ.length && Nat.blt g ρ.length) with
    | true => none
    | false => some (.ok (dlPut ρ i true g z true xs, .nx)))
  | _ => none
theorem Ex.setD {K : PySem.W.Frag} {G H G' H' : Hp} {ρ ρ' : En} {σ σ' : St} (e : Ex K G ρ σ H G' ρ' σ' H') {i g : Nat} (ig : i ≠ g) (hi : i < ρ'.length) (hg : g < ρ'.length) (nd : ∀ (k : Nat) (s : Sl), k ≠ i → ρ'[k]? = some s → isDl s = false) {a a1 : Addr} {u : V} {ws : List V} {xs : List D} {z : D} (n1 : H a = none) (n2 : H a1 = none) (ne : a ≠ a1) (g1 : G' a = none) (g2 : G' a1 = none)
    (w1 : H' a = some (.lst [.ref a1, u])) (w2 : H' a1 = some (.lst ws)) (no : ¬ Ownd ρ' σ' a) (no1 : ¬ Ownd ρ' σ' a1) (rz : Rp K G' u z) (rx : RpAll K G' ws xs) : Ex K G ρ σ H G' (dlPut ρ' i true g z true xs) ((σ'.set i (some (.ref a))).set g (some (.ref a1))) H' := by
  have j := e.j
  have li : i < σ'.length := by rw [← j.len]; exact hi
  have lg : g < (σ'.set i (some (.ref a))).length := by rw [List.length_set, ← j.len]; exact hg
  have look : ∀ (k : Nat) (s : Sl), (dlPut ρ' i true g z true xs)[k]? = some s → (k = g ∧ s = .gst true xs) ∨ (k = i ∧ s = .dl true g z) ∨ (k ≠ i ∧ k ≠ g ∧ ρ'[k]? = some s) := fun k s q => by
    unfold dlPut at q
    rcases getElem?_set_cases q with ⟨e1, e2⟩ | ⟨e1, e2⟩
    · exact .inl ⟨e1, e2⟩
    · rcases getElem?_set_cases e2 with ⟨e3, e4⟩ | ⟨e3, e4⟩
      · exact .inr (.inl ⟨e3, e4⟩)
      · exact .inr (.inr ⟨e3, e1, e4⟩)
  have ati : ((σ'.set i (some (.ref a))).set g (some (.ref a1)))[i]? = some (some (.ref a)) := by
    rw [List.getElem?_set_ne (Ne.symm ig), List.getElem?_set_self li]
  have atg : ((σ'.set i (some (.ref a))).set g (some (.ref a1)))[g]? = some (some (.ref a1)) := List.getElem?_set_self lg
  have out : ∀ k, k ≠ i → k ≠ g → ((σ'.set i (some (.ref a))).set g (some (.ref a1)))[k]? = σ'[k]? := fun k m1 m2 => by
    rw [List.getElem?_set_ne (Ne.symm m2), List.getElem?_set_ne (Ne.symm m1)]
  have own : ∀ (k : Nat) (s : Sl) (es : List D) (b : Addr), (dlPut ρ' i true g z true xs)[k]? = some s → s.hs = some es → ((σ'.set i (some (.ref a))).set g (some (.ref a1)))[k]? = some (some (.ref b)) → (k = g ∧ b = a1) ∨ (k = i ∧ b = a) ∨ (ρ'[k]? = some s ∧ σ'[k]? = some (some (.ref b)) ∧ b ≠ a ∧ b ≠ a1) := fun k s es b q hs hb => by
    rcases look k s q with ⟨e1, _⟩ | ⟨e1, _⟩ | ⟨m1, m2, e3⟩
    · subst e1
      rw [atg] at hb
      cases hb
      exact .inl ⟨rfl, rfl⟩
    · subst e1
      rw [ati] at hb
      cases hb
      exact .inr (.inl ⟨rfl, rfl⟩)
    · rw [out k m1 m2] at hb
      exact .inr (.inr ⟨e3, hb, fun y => by subst y; exact no ⟨k, s, es, e3, hs, hb⟩, fun y => by subst y; exact no1 ⟨k, s, es, e3, hs, hb⟩⟩)
  refine ⟨⟨j.sub, by unfold dlPut; rw [List.length_set, List.length_set, List.length_set, List.length_set]; exact j.len, fun k d q => ?_, fun k s es q hs => ?_, fun k l s t es fs b q1 l1 q2 l2 q3 q4 => ?_, fun k g' o o' y ys q1 q2 => ?_⟩, e.g, e.new, e.kept, fun b hb => ?_, e.dom, fun k es q => ?_, fun k s q ql => ?_, e.tt⟩
  · rcases look k _ q with ⟨_, y⟩ | ⟨_, y⟩ | ⟨m1, m2, e3⟩
    · cases y
    · cases y
    · obtain ⟨v, y1, y2⟩ := j.pur k d e3
      exact ⟨v, by rw [out k m1 m2]; exact y1, y2⟩
  · rcases look k s q with ⟨e1, y⟩ | ⟨e1, y⟩ | ⟨m1, m2, e3⟩
    · subst y
      cases hs
      exact ⟨a1, ws, by rw [e1]; exact atg, w2, g2, rx⟩
    · subst y
      cases hs
      exact ⟨a, _, by rw [e1]; exact ati, w1, g1, .cons (.gst a1 g) (.cons rz .nil)⟩
    · obtain ⟨b, vs, y1, y2, y3, y4⟩ := j.hold k s es e3 hs
      exact ⟨b, vs, by rw [out k m1 m2]; exact y1, y2, y3, y4⟩
  · rcases own k s es b q1 l1 q3 with ⟨k1, b1⟩ | ⟨k1, b1⟩ | ⟨k1, k2, b1, b2⟩
    · rcases own l t fs b q2 l2 q4 with ⟨l3, b3⟩ | ⟨l3, b3⟩ | ⟨l3, l4, b3, b4⟩
      · rw [k1, l3]
      · exact absurd (b3.symm.trans b1) ne
      · exact absurd b1 b4
    · rcases own l t fs b q2 l2 q4 with ⟨l3, b3⟩ | ⟨l3, b3⟩ | ⟨l3, l4, b3, b4⟩
      · exact absurd (b1.symm.trans b3) ne
      · rw [k1, l3]
      · exact absurd b1 b3
    · rcases own l t fs b q2 l2 q4 with ⟨l3, b3⟩ | ⟨l3, b3⟩ | ⟨l3, l4, b3, b4⟩
      · exact absurd b3 b2
      · exact absurd b3 b1
      · exact j.alone k l s t es fs b k1 l1 l3 l2 k2 l4
  · rcases look k _ q1 with ⟨_, y1⟩ | ⟨k1, y1⟩ | ⟨m1, m2, y1⟩
    · cases y1
    · cases y1
      rw [k1]
      exact ⟨a, _, u, ati, w1, atg⟩
    · cases nd k _ m1 y1
  · obtain ⟨k, s, es, q, hs, hb⟩ := hb
    rcases own k s es b q hs hb with ⟨_, y⟩ | ⟨_, y⟩ | ⟨y1, y2, _, _⟩
    · subst y; exact .inr n2
    · subst y; exact .inr n1
    · exact e.ow b ⟨k, s, es, y1, hs, y2⟩
  · rcases look k _ q with ⟨_, y⟩ | ⟨_, y⟩ | ⟨m1, m2, e3⟩
    · cases y
    · cases y
    · obtain ⟨y1, y2⟩ := e.bx k es e3
      exact ⟨y1, by rw [out k m1 m2]; exact y2⟩
  · rcases look k s q with ⟨_, y⟩ | ⟨_, y⟩ | ⟨m1, m2, e3⟩
    · subst y; cases ql
    · subst y; cases ql
    · obtain ⟨y1, y2⟩ := e.bd k s e3 ql
      exact ⟨y1, by rw [out k m1 m2]; exact y2⟩
section
variable {X : Cx} {E : XK}
theorem s_ownD {k n i g : Nat} {x y ghost : Str} {F : FnND} {p pos pos1 pos' : Pos} {e : Expr} {es : List Expr} {f : Mo (List D)} (hF : FnNDE X.prog X.w X.K X.mg X.base k x n F) (hr : Room k X.A) (hx : Passes (L2.CX X.prog X.w) X E)
    (ha : EA X E (e :: es) f) (hN : X.N.Nodup) (hi : X.N[i]? = some y := by rfl) (hl : Loc X.env.scope y := by first | exact Or.inl rfl | exact Or.inr rfl) (hgh : X.N[g]? = some ghost := by rfl) (un : X.env.scope.names.lookup ghost = none := by rfl) (hg : Gl X x := by rfl) (hdb : (x == ("__debug__" : Str)) = false := by decide) (he : starEach (e :: es) X.env = (false, eval e X.env) :: starEach es X.env := by rfl)
    (hpl : (backTo pos1 (starEach es X.env)).any (·.1) = false := by rfl) (hs : swapsWith (.Call (.Name x p) (e :: es) [] pos1) (some (.Name y pos')) pos.line X.env = pure false := by rfl) (hf : X.fn y = true ∨ X.env.scope.names.lookup y = some .local := by first | exact .inl rfl | exact .inr rfl | assumption) :
    SV X E (.Assign [.Name y pos'] (.Call (.Name x p) (e :: es) [] pos1) pos) (sOwnD i g F f) := by
  obtain ⟨⟨fd, ps, h1, h2⟩, kp, gl, hln⟩ := hF
  obtain ⟨t, pt, q⟩ := ha
  refine ⟨_, ps_ghost (ps_set hN hi hl (pe_call h1 hr hg gl kp h2 .nil hx pt hdb he hpl) hs hf) hgh (unseen un), fun G ρ σ H De j h => ?_⟩
  refine q G ρ σ H _ j (PostS.imp h fun G1 ρ1 vs H1 ds e1 r1 h1 => ?_)
  show spND X.K n F (vs ++ []) H1 _ E
  rw [List.append_nil]
  have h1' : PostS X.K E G1 ρ1 σ H1 De (match F ds with
    | some (.ok (xs, z)) => (match Nat.beq i g || (ρ1.set i .no).any isDl || !(Nat.blt i ρ1.length && Nat.blt g ρ1.length) with
      | true => none
      | false => some (.ok (dlPut ρ1 i true g z true xs, .nx)))
    | _ => none) := h1
  match hF : F ds, h1' with
  | none, h1' => simp only [hF] at h1'; exact h1'.elim
  | some (.error _), h1' => simp only [hF] at h1'; exact h1'.elim
  | some (.ok (xs, z)), h1' =>
    simp only [hF] at h1'
    cases hc : (Nat.beq i g || (ρ1.set i .no).any isDl || !(Nat.blt i ρ1.length && Nat.blt g ρ1.length)) with
    | true => simp only [hc] at h1'; exact h1'.elim
    | false =>
      simp only [hc] at h1'
      rw [Bool.or_eq_false_iff, Bool.or_eq_false_iff, Bool.not_eq_false', Bool.and_eq_true] at hc
      obtain ⟨⟨c1, c2⟩, c3, c4⟩ := hc
      have ig : i ≠ g := fun y => by
        subst y
        rw [Nat.beq_refl] at c1; cases c1
      have li : i < ρ1.length := by unfold Nat.blt at c3; exact Nat.le_of_ble_eq_true c3
      have lg : g < ρ1.length := by unfold Nat.blt at c4; exact Nat.le_of_ble_eq_true c4
      have nd : ∀ (k : Nat) (s : Sl), k ≠ i → ρ1[k]? = some s → isDl s = false := fun k s m q => by
        have q2 : (ρ1.set i .no)[k]? = some s := by rw [List.getElem?_set_ne (Ne.symm m)]; exact q
        have := List.any_eq_false.mp c2 s (List.mem_of_getElem? q2)
        simpa using this
      refine ⟨G1, ds, e1.j.sub, r1, hln ds (by rw [hF]; simp), ?_⟩
      rw [hF]
      intro G' a a1 u ws H' px z1 z2 z3 z4 z5 z6 z7 z8 z9
      have e2 := e1.j.ex px
      refine ⟨some (.ref a1), h1' G' _ H' ?_⟩
      exact e2.setD ig li lg nd z1 z2 z3 z4 z5 z6 z7 (e1.j.nown z1) (e1.j.nown z2) z8 z9
end
end HB
namespace HB
open PySem L2
section
variable {X : Cx} {E : XK}
def tupX (c : Str) : D → Option Bool
  | .dict ((.str c2, .none) :: _) => if c2 = c then some false else none
  | .dict _ => none
  | .tuple _ => some true
  | _ => some false
theorem ev_isTO {c : Str} {e : Expr} {f : Mo D} {p p2 pos : Pos} (cl : Cls X.K (He.ga X.K c)) (S : IsxF X.K c) (ok : istB X.K c = true) (h : EV X E e f) (hm : X.mg "isinstance" = none) (hmT : X.mg "tuple" = none)
    (hg : Gl X "isinstance" := by rfl) (hgT : Gl X "tuple" := by rfl) (he : starEach [e, .Name "tuple" p2] X.env = (false, eval e X.env) :: starEach [.Name "tuple" p2] X.env := by rfl) (hpl : (backTo pos (starEach [.Name "tuple" p2] X.env)).any (·.1) = false := by rfl) :
    EV X E (.Call (.Name "isinstance" p) [e, .Name "tuple" p2] [] pos) (mIsi (tupX c) f) := by
  obtain ⟨t, pt, q⟩ := h
  refine ⟨_, pe_callB call_isi hg hm (by decide +kernel) (pa_cons pt (pa_cons (pe_bltn (v := .ty "tuple") hgT hmT (by decide +kernel) rfl) pa_nil) he) (by decide) (by decide) he hpl, fun G ρ σ H Q j h => q G ρ σ H _ j (Post.imp h fun G1 ρ1 v H1 d e1 r1 h1 => ?_)⟩
  obtain ⟨z, hz, k⟩ := Post.lift (ρ' := ρ1) h1
  cases hb : tupX c d with
  | none => rw [hb] at hz; cases hz
  | some b =>
    rw [hb] at hz
    cases hz
    have plain : ∀ {n : String}, tyD d = some n → kitB n "tuple" = some b → rIsi X.K [v, .ty "tuple"] H1 Q := fun h2 h3 => ⟨v, .ty "tuple", _, .type "tuple", b, rfl, .ty "tuple", r1.ty e1.j.sub h2, kit_ty h3, k G1 _ H1 e1.j.refl (.bl b)⟩
    cases r1 with
    | non => cases hb; exact plain rfl (by decide +kernel)
    | bl _ => cases hb; exact plain rfl (by decide +kernel)
    | int _ => cases hb; exact plain rfl (by decide +kernel)
    | str _ => cases hb; exact plain rfl (by decide +kernel)
    | lst _ _ => cases hb; exact plain rfl (by decide +kernel)
    | tup _ _ => cases hb; exact plain rfl (by decide +kernel)
    | @obj a dx c2 fs kvs o1 o2 =>
      obtain ⟨y1, y2⟩ := ite_some (show (if c2 = c then some false else none) = some b from hb)
      subst y1 y2
      refine ⟨_, .ty "tuple", .ref (He.ga X.K c2), .type "tuple", false, rfl, .ty "tuple", .base (.ins (e1.j.sub _ _ o1) cl S.ha S.hn S.ht S.hm), of_decide_eq_true ok, k G1 _ H1 e1.j.refl (.bl false)⟩
    | frz _ _ => cases hb
    | adr _ => cases hb
    | fn _ => cases hb
    | gst _ _ => cases hb
    | clo _ _ _ _ => cases hb
end
end HB
namespace HB
open PySem L2
def mEqO (neg : Bool) (i : Nat) : Mo D := fun ρ => match ρ[i]? with
  | some (.own ds) => mLift (if SeqAt.shaped (.list ds) = true then some (PyData.bool (neg ^^ PyData.eqv (.list ds) (.list []))) else none) ρ
  | _ => none
section
variable {X : Cx} {E : XK}
theorem eqO_sem {neg : Bool} {i : Nat} {r : R2} {t : TE} (q : ∀ G ρ σ H Q, J X.K G ρ σ H → PostN X.K E G ρ σ H Q (mSized mNil ρ) → t σ H Q)
    (hr : ∀ (H : Hp) (x y : V) (ds : List D) (Q : VK), Dp X.K H x (.list ds) → Dp X.K H y (.list []) → SeqAt.shaped (.list ds) = true → Q (.bl (neg ^^ PyData.eqv (.list ds) (.list []))) H → r x y H Q) :
    ∀ G ρ σ H Q, J X.K G ρ σ H → Post X.K E (Rp X.K) G ρ σ H Q (mEqO neg i ρ) → tOp r (tVar i) t σ H Q := by
  intro G ρ σ H Q j h
  unfold mEqO at h
  cases hs : ρ[i]? with
  | none => rw [hs] at h; exact h.elim
  | some sl =>
    rw [hs] at h
    cases sl with
    | own ds =>
      obtain ⟨c, hc, k⟩ := Post.lift (ρ' := ρ) h
      obtain ⟨h4, rfl⟩ := ite_some hc
      obtain ⟨a, vs, g1, g2, g3, g4⟩ := j.own i _ ds hs rfl
      refine ⟨.ref a, g1, q G ρ σ H _ j ?_⟩
      intro G' v H' e w
      obtain ⟨b, ws, rfl, w1, w2, w3, w4, w5⟩ := w
      obtain ⟨a', vs', f1, f2, f3, f4⟩ := e.j.own i _ ds hs rfl
      rw [g1] at f1
      cases f1
      refine hr H' _ _ ds Q (.lst (.of f2) (RpAll.dp ds (SeqAt.canLay_of_shaped h4) (f4.mono e.j.sub))) (.lst (.of w3) (RpAll.dp [] (by decide) (w5.mono e.j.sub))) h4 (k G' _ H' e (.bl _))
    | no => exact h.elim
    | box _ => exact h.elim
    | dl _ _ _ => exact h.elim
    | gst _ _ => exact h.elim
    | pur _ => exact h.elim
theorem et_neO {i : Nat} {x : Str} {e : Expr} {p1 pos : Pos} (h : EN X E e (mSized mNil)) (hu : X.A.units + 65 < cLine) (hN : X.N[i]? = some x := by rfl) (hv : Vis X.env.scope x := by first | exact Or.inl rfl | exact Or.inr (Or.inl rfl) | exact Or.inr (Or.inr rfl)) (hd : (x == ("__debug__" : Str)) = false := by decide) (hcd : (x == ("__classdict__" : Str)) = false := by decide)
    (hm : behindInMarks .NotEq e = false := by rfl) : ET X E (.Compare (.Name x p1) [.NotEq] [e] pos) (mTest (mEqO true i)) := by
  obtain ⟨t, p, q⟩ := h
  exact ⟨_, pt_cmpR (op_neD (by omega)) (pe_var hN hv hd hcd) p hm, test_sem (eqO_sem q fun H x y ds Q h1 h2 h3 k => ⟨.list ds, .list [], h1, h2, h3, rfl, by simpa using k⟩)⟩
end
end HB
namespace HB
open PySem L2 NdefX LamX
section
variable {P : Program} {w : World} {K : PySem.W.Frag} {mg : Str → Option Value} {base : Heap} {H : Hp} {a : Addr} {φ : Heap → Prop}
theorem del_s {b : Addr} {o : HO} (h : delH H a b = some o) : b ≠ a ∧ H b = some o := by
  by_cases e : b = a
  · rw [e, delH_same] at h; cases h
  · exact ⟨e, by rw [delH_ne e] at h; exact h⟩
end
section
variable {K : PySem.W.Frag} {G : Hp} {a : Addr} {v0 : V}
theorem sqP_del (ha : G a = some (cellO a v0)) {b : Addr} {xs : List V} (h : SqP K G b xs) : SqP K (delH G a) b xs :=
  h.elim (fun ⟨o, e, n⟩ => .inl ⟨o, by rw [delH_ne fun z => by subst z; rw [ha] at e; cases e]; exact e, n⟩) .inr
theorem sqL_del (ha : G a = some (cellO a v0)) {b : Addr} {xs : List V} (h : SqL K G b xs) : SqL K (delH G a) b xs := by
  have ne : ∀ {o : HO}, G b = some o → (∀ φ, o ≠ .ext φ) → delH G a b = some o := fun {o} e q => by
    rw [delH_ne fun z => by subst z; rw [ha] at e; exact q _ (Option.some.inj e).symm]
    exact e
  rcases h with (k | ⟨o, k⟩) | k
  · exact .inl (.inl (ne k fun _ z => by cases z))
  · exact .inl (.inr ⟨o, ne k fun _ z => by cases z⟩)
  · exact .inr k
theorem Rp.del (ha : G a = some (cellO a v0)) {v : V} {d : D} (r : Rp K G v d) : noClo d = true → Rp K (delH G a) v d :=
  @Rp.rec K G (fun v d _ => noClo d = true → Rp K (delH G a) v d) (fun vs ds _ => noClos ds = true → RpAll K (delH G a) vs ds) (fun fs kvs _ => noClok kvs = true → RpF K (delH G a) fs kvs)
    (fun _ => .non) (fun b _ => .bl b) (fun i _ => .int i) (fun x _ => .str x)
    (fun h _ ih f => .lst (by rw [delH_ne fun z => by subst z; rw [ha] at h; cases h]; exact h) (ih (by simpa [noClo] using f)))
    (fun h _ ih f => .tup (sqP_del ha h) (ih (by simpa [noClo] using f)))
    (fun h _ ih f => .frz (sqL_del ha h) (ih (by simpa [noClo, noClok] using f)))
    (fun h _ ih f => .obj (by rw [delH_ne fun z => by subst z; rw [ha] at h; cases h]; exact h) (ih (by simpa [noClo, noClok] using f)))
    (fun b _ => .adr b) (fun x _ => .fn x) (fun b g _ => .gst b g) (fun _ _ _ _ _ f => by simp [noClo, noClok] at f)
    (fun _ => .nil) (fun _ _ h t f => by
      simp only [noClos, Bool.and_eq_true] at f
      exact .cons (h f.1) (t f.2)) (fun _ => .nil) (fun _ _ h t f => by
      simp only [noClok, Bool.and_eq_true] at f
      exact .cons (h f.1) (t f.2)) v d r
theorem RpAll.del (ha : G a = some (cellO a v0)) : ∀ {vs : List V} {ds : List D}, RpAll K G vs ds → noClos ds = true → RpAll K (delH G a) vs ds
  | _, _, .nil, _ => .nil
  | _, _, .cons r t, f => by
    simp only [noClos, Bool.and_eq_true] at f
    exact .cons (r.del ha f.1) (t.del ha f.2)
end
section
variable {K : PySem.W.Frag} {G H G' H' : Hp} {a : Addr} {v0 : V}
theorem tabG_del {P : Addr} (ha : H a = some (cellO a v0)) (t : TabG H P) : TabG (delH H a) P := by
  obtain ⟨⟨ps, e, h1, h2⟩, h3⟩ := t
  refine ⟨⟨ps, ?_, h1, fun pos cv hc => ?_⟩, fun f F hf => ?_⟩
  · rw [delH_ne fun z => by subst z; rw [ha] at e; cases e]; exact e
  · obtain ⟨c, e1, e2⟩ := h2 pos cv hc
    exact ⟨c, e1, by rw [delH_ne fun z => by subst z; rw [ha] at e2; exact cell_noCode (Option.some.inj e2)]; exact e2⟩
  · have z := h3 f F (del_s hf).2
    rw [delH_ne fun y => by rw [y, ha] at z; exact cell_noCode (Option.some.inj z)]
    exact z
theorem Sub.del (s : Sub K G H) (ha : G a = some (cellO a v0)) : Sub K (delH G a) (delH H a) := by
  have hb : H a = some (cellO a v0) := s.toSame.s _ _ ha
  refine ⟨⟨fun b o e => ?_, fun b ps e => ?_⟩, s.tb.up fun P t => tabG_del hb t⟩
  · obtain ⟨ne, e'⟩ := del_s e
    rw [delH_ne ne]
    exact s.toSame.s _ _ e'
  · obtain ⟨ne, e'⟩ := del_s e
    obtain ⟨ps', q⟩ := s.toSame.t _ _ e'
    exact ⟨ps', by rw [delH_ne ne]; exact q⟩
end
end HB
namespace HB
open PySem L2 NdefX LamX
def pureS : Sl → Sl
  | .pur d => .pur d
  | _ => .no
/-- what the lambda may read -/
def pureE (ρ : En) : En := ρ.map pureS
theorem pureE_get {ρ : En} {i : Nat} {s : Sl} (h : (pureE ρ)[i]? = some s) : s = .no ∨ ∃ d, s = .pur d ∧ ρ[i]? = some (.pur d) := by
  unfold pureE at h
  rw [List.getElem?_map] at h
  cases e : ρ[i]? with
  | none => rw [e] at h; exact nomatch h
  | some s0 =>
    rw [e] at h
    have e2 : pureS s0 = s := Option.some.inj h
    subst e2
    cases s0 with
    | pur d => exact .inr ⟨d, rfl, rfl⟩
    | _ => exact .inl rfl
theorem J.pure {K : PySem.W.Frag} {G H : Hp} {ρ : En} {σ : St} (j : J K G ρ σ H) : J K G (pureE ρ) σ H := by
  refine ⟨j.sub, by unfold pureE; rw [List.length_map]; exact j.len, fun i d h => ?_, fun i s ds h hs => ?_, fun i k s t ds es b h hs => ?_, fun i g o o' z xs h => ?_⟩
  · rcases pureE_get h with e | ⟨d', e, h'⟩
    · cases e
    · cases e; exact j.pur i d h'
  · rcases pureE_get h with e | ⟨d, e, _⟩ <;> rw [e] at hs <;> cases hs
  · rcases pureE_get h with e | ⟨d, e, _⟩ <;> rw [e] at hs <;> cases hs
  · rcases pureE_get h with e | ⟨d, e, _⟩ <;> cases e
end HB
namespace HB
open PySem L2
def kvD (tab : List (Int × Str)) : List (Key × V) := tab.map fun p => (Sum.inl p.1, V.str p.2)
def dicD (tab : List (Int × Str)) : D → Option D
  | .int i => match valV (mergeK [] (kvD tab)) (Sum.inl i) with
    | some (.str x) => some (.str x)
    | _ => none
  | _ => none
section
variable {X : Cx} {E : XK}
/-- keys and values that are written -/
inductive Prs (X : Cx) (E : XK) : List (Option Expr) → List Expr → List (Int × Str) → Prop
  | nil : Prs X E [] [] []
  | cons {k v : Expr} {fk fv : Mo D} {i : Int} {x : Str} {ks : List (Option Expr)} {vs : List Expr} {tab : List (Int × Str)} : EV X E k fk → (∀ ρ, fk ρ = some (.ok (ρ, .int i))) → EV X E v fv → (∀ ρ, fv ρ = some (.ok (ρ, .str x))) → Prs X E ks vs tab →
      Prs X E (some k :: ks) (v :: vs) ((i, x) :: tab)
theorem Prs.shape {ks : List (Option Expr)} {vs : List Expr} {tab : List (Int × Str)} (h : Prs X E ks vs tab) : ks.all (·.isSome) = true ∧ ks.length = vs.length ∧ ks.length = tab.length := by
  induction h with
  | nil => exact ⟨rfl, rfl, rfl⟩
  | cons _ _ _ _ _ ih => exact ⟨by simpa using ih.1, by simpa using ih.2.1, by simpa using ih.2.2⟩
/-- a constant keeps the new dict -/
theorem keep_new {G H G1 H1 : Hp} {ρ : En} {σ : St} {p : Addr} {o : HO} [NoC o] (e : Ex X.K G ρ σ H G1 ρ σ H1) (d : H p = some o) (g : G p = none) (no : ¬ Ownd ρ σ p) : H1 p = some o ∧ G1 p = none := by
  refine ⟨e.kept p _ d no, ?_⟩
  cases q : G1 p with
  | none => rfl
  | some u =>
    rcases e.new p (by rw [q]; simp) with z | z | z
    · exact absurd g z
    · rw [d] at z; cases z
    · exact absurd z no
theorem Prs.run {pos : Pos} {ks : List (Option Expr)} {vs : List Expr} {tab : List (Int × Str)} (h : Prs X E ks vs tab) : ∃ trs, PPs X pos ks vs trs ∧ ∀ (G : Hp) (ρ : En) (σ : St) (H : Hp) (p : Addr) (Q : List (V × V) → Hp → Prop), J X.K G ρ σ H → H p = some (.dK []) → G p = none → ¬ Ownd ρ σ p →
    (∀ G' H', Ex X.K G ρ σ H G' ρ σ H' → H' p = some (.dK []) → G' p = none → Q (tab.map fun q => (V.int q.1, V.str q.2)) H') → tPairs trs σ H Q := by
  induction h with
  | nil => exact ⟨[], pps_nil, fun G ρ σ H p Q j d g no q => q G H j.refl d g⟩
  | @cons k v fk fv i x ks vs tab hk ek hv ev hr ih =>
    obtain ⟨trs, pp, run⟩ := ih
    refine ⟨_, pps_cons hk.pe hv.pe pp, fun G ρ σ H p Q j d g no q => ⟨G, ρ, j, ?_⟩⟩
    rw [ek]
    intro G1 y1 H1 e1 r1
    obtain ⟨d1, g1⟩ := keep_new e1 d g no
    refine ⟨G1, ρ, e1.j, ?_⟩
    rw [ev]
    intro G2 y2 H2 e2 r2
    obtain ⟨d2, g2⟩ := keep_new e2 d1 g1 no
    refine run G2 ρ σ H2 p _ e2.j d2 g2 no fun G3 H3 e3 d3 g3 => ?_
    cases r1
    cases r2
    exact q G3 H3 ((e1.trans e2).trans e3) d3 g3
theorem ev_dic {ks : List (Option Expr)} {vs : List Expr} {tab : List (Int × Str)} {e : Expr} {f : Mo D} {p1 p2 : Pos} (hu : X.A.units + 1 < cLine) (h : Prs X E ks vs tab) (h0 : ks ≠ []) (h15 : ks.length ≤ 15) (he : EV X E e f) (hs : NoSl e := by exact fun _ _ => rfl) :
    EV X E (.Subscript (.Dict ks vs p1) e p2) (mUn (dicD tab) f) := by
  obtain ⟨trs, pp, run⟩ := h.run (pos := p1)
  obtain ⟨s1, s2, s3⟩ := h.shape
  obtain ⟨t, pt, qt⟩ := he
  refine ⟨_, pe_dget hu (pe_disp pp s1 s2 h0 h15) pt hs, fun G ρ σ H Q j z p hp => ?_⟩
  have gp : G p = none := j.sub.free hp
  have no : ¬ Ownd ρ σ p := j.nown hp
  have e0 : Ex X.K G ρ σ H G ρ σ (upd H p (.dK [])) := j.refl.poke hp gp no (pl_none hp)
  refine run G ρ σ _ p _ e0.j upd_same gp no fun G1 H1 e1 d1 g1 => ⟨d1, kvD tab, ?_, by unfold kvD; rw [List.length_map]; omega, ?_⟩
  · unfold kvD
    rw [List.map_map]
    rfl
  have e2 : Ex X.K G ρ σ H G1 ρ σ (upd H1 p (.dK (mergeK [] (kvD tab)))) := (e0.trans e1).poke hp g1 no (pl_of d1)
  refine qt G1 ρ σ _ _ e2.j (Post.imp (Post.ex e2 z) fun G3 ρ3 y H3 a e3 r3 z3 => ?_)
  obtain ⟨c, hc, k⟩ := Post.lift (ρ' := ρ3) z3
  unfold dicD at hc
  split at hc
  · rename_i i
    split at hc
    · rename_i x hx
      cases hc
      have d3 : H3 p = some (.dK (mergeK [] (kvD tab))) := e3.kept p _ upd_same no
      cases r3
      exact ⟨p, .str x, rfl, .inl ⟨mergeK [] (kvD tab), Sum.inl i, .inl d3, rfl, hx.symm⟩, k G3 _ H3 e3.j.refl (.str x)⟩
    · cases hc
  · cases hc
end
end HB
namespace HB
open PySem L2
def C_PAIR : D := .int 2
def g_is_less : Mo Fl := sRet (mOp (cmpD ltI) (mOp mulD (mOp ixD (mVar 0) (mRet (.int 0))) (mOp ixD (mVar 1) (mRet (.int 1)))) (mOp mulD (mOp ixD (mVar 1) (mRet (.int 0))) (mOp ixD (mVar 0) (mRet (.int 1)))))
def F_is_less : Fn := M_is_less
def g_is_sequence : Mo Fl := sRet (mIsi isSeqT (mVar 0))
def F_is_sequence : Fn := guard 1 (runF 1 g_is_sequence)
def g_common_part : Mo Fl := sSeq (sPar2 0 1 (xConsP (mBuilt absD (mCons (mVar 0) (mNil))) (xConsP (mBuilt absD (mCons (mVar 1) (mNil))) (xNil))))
  (sSeq (sWhile (fuelInt 1) (mTest (mOp (cmpD gtI) (mVar 1) (mRet (.int 0)))) (sPar2 0 1 (xConsP (mVar 1) (xConsP (mOp modD (mVar 0) (mVar 1)) (xNil)))))
  (sRet (mVar 0)))
def F_common_part : Fn := M_common_part
def g_is_integer : Mo Fl := sRet (mAndV (mIsi isIntT (mVar 0)) (mNotV (mIsi isBoolT (mVar 0))))
def F_is_integer : Fn := guard 1 (runF 1 g_is_integer)
def g_is_value_1 : Mo Fl := sRet (mAndV (mOp (cmpD gtI) (mOp ixD (mVar 0) (mRet (.int 1))) (mRet (.int 0))) (mOp eqD (mCall F_common_part (mCons (mOp ixD (mVar 0) (mRet (.int 0))) (mCons (mOp ixD (mVar 0) (mRet (.int 1))) (mNil)))) (mRet (.int 1))))
def g_is_value_2 : Mo Fl := sSeq (sIf (mOr (mNot (mTest (mIsi isTupT (mVar 0)))) (mOr (mTest (mOp neD (mBuilt lenD (mCons (mVar 0) (mNil))) (mRet C_PAIR))) (mOr (mNot (mTest (mCall F_is_integer (mCons (mOp ixD (mVar 0) (mRet (.int 0))) (mNil))))) (mNot (mTest (mCall F_is_integer (mCons (mOp ixD (mVar 0) (mRet (.int 1))) (mNil)))))))) (sRet (mRet (.bool false))) (sNext))
  (g_is_value_1)
def g_is_value : Mo Fl := sSeq (sIf (mTest (mCall F_is_integer (mCons (mVar 0) (mNil)))) (sRet (mRet (.bool true))) (sNext))
  (g_is_value_2)
def F_is_value : Fn := guard 1 (runF 1 g_is_value)
def g_value_of : Mo Fl := sRet (mIf (mTest (mCall F_is_integer (mCons (mVar 0) (mNil)))) (mTup (mCons (mVar 0) (mCons (mRet (.int 1)) (mNil)))) (mVar 0))
def F_value_of : Fn := guard 1 (runF 1 g_value_of)
def g_are_marks_1 : Mo Fl := sRet (mAndV (mOp eqD (mOp ixD (mVar 3) (mRet (.int 0))) (mRet (.int 1))) (mAndV (mOp eqD (mOp ixD (mVar 3) (mUn negD (mRet (.int 1)))) (mRet (.int 1))) (mBuilt allD (mCons (mList (mBlk [7] (mSeqS (mSlice (mVar 3) (mPart (mRet (.int 1))) (mPart (mUn negD (mRet (.int 1)))))) (lcBody [7] (gSet 7) (mRet true) (mOp (cmpD leI) (mVar 7) (mVar 0))))) (mNil)))))
def g_are_marks_2 : Mo Fl := sSeq (sSet 3 (mList (mBlk [5] (mSeqS (mVar 2)) (lcBody [5] (gSet 5) (mRet true) (mBuilt lenD (mCons (mList (mBlk [4] (mSeqS (mVar 2)) (lcBody [4] (gSet 4) (mTest (mOp eqD (mVar 4) (mVar 5))) (mVar 4)))) (mNil)))))))
  (g_are_marks_1)
def g_are_marks_3 : Mo Fl := sSeq (sIf (mTest (mBuilt anyD (mCons (mList (mBlk [6] (mRange range1D (mCons (mOp subD (mBuilt lenD (mCons (mVar 2) (mNil))) (mRet (.int 1))) (mNil))) (lcBody [6] (gSet 6) (mRet true) (mCall F_is_less (mCons (mOp ixD (mVar 2) (mOp addD (mVar 6) (mRet (.int 1)))) (mCons (mOp ixD (mVar 2) (mVar 6)) (mNil))))))) (mNil)))) (sRet (mRet (.bool false))) (sNext))
  (g_are_marks_2)
def g_are_marks_4 : Mo Fl := sSeq (sSet 2 (mList (mBlk [4] (mSeqS (mVar 1)) (lcBody [4] (gSet 4) (mRet true) (mCall F_value_of (mCons (mVar 4) (mNil)))))))
  (g_are_marks_3)
def g_are_marks : Mo Fl := sSeq (sIf (mOr (mNot (mTest (mCall F_is_sequence (mCons (mVar 1) (mNil))))) (mOr (mTest (mOp (cmpD leI) (mBuilt lenD (mCons (mVar 1) (mNil))) (mRet (.int 1)))) (mNot (mTest (mBuilt allD (mCons (mList (mBlk [4] (mSeqS (mVar 1)) (lcBody [4] (gSet 4) (mRet true) (mCall F_is_value (mCons (mVar 4) (mNil)))))) (mNil))))))) (sRet (mRet (.bool false))) (sNext))
  (g_are_marks_4)
def F_are_marks : Fn := guard 2 (runF 8 g_are_marks)
def g_text_of : Mo Fl := sRet (mIf (mTest (mOp eqD (mOp ixD (mVar 0) (mRet (.int 1))) (mRet (.int 1)))) (mBuilt strD (mCons (mOp ixD (mVar 0) (mRet (.int 0))) (mNil))) (mJoined (jCons (mUn fmtD (mOp ixD (mVar 0) (mRet (.int 0)))) (jCons (mRet (.str "/")) (jCons (mUn fmtD (mOp ixD (mVar 0) (mRet (.int 1)))) (jNil))))))
def F_text_of : Fn := guard 1 (runF 1 g_text_of)
def g_text_of_bend_1 : Mo Fl := sRet (mM1 joinD (mRet (.str " ")) (mList (mSized (mCons (mRet (.str "bend")) (mCons (mBuilt strD (mCons (mVar 0) (mNil))) (mCons (mRet (.str "marks")) (mStar (mVar 3) (mCons (mRet (.str "handles")) (mStar (mVar 4) (mNil))))))))))
def g_text_of_bend : Mo Fl := sSeq (sPar2 3 4 (xConsP (mList (mBlk [5] (mSeqS (mVar 1)) (lcBody [5] (gSet 5) (mRet true) (mCall F_text_of (mCons (mVar 5) (mNil)))))) (xConsP (mList (mBlk [5] (mSeqS (mVar 2)) (lcBody [5] (gSet 5) (mRet true) (mCall F_text_of (mCons (mVar 5) (mNil)))))) (xNil))))
  (g_text_of_bend_1)
def F_text_of_bend : Fn := guard 3 (runF 6 g_text_of_bend)
def g_Bend_init : MoO := oIf (mOr (mNot (mTest (mCall F_is_integer (mCons (mVar 1) (mNil))))) (mTest (mOp (cmpD ltI) (mVar 1) (mRet (.int 0))))) (sRaise "InvalidBend" "word" (mRet (.str "degree"))) (oIf (mNot (mTest (mCall F_are_marks (mCons (mVar 1) (mCons (mVar 2) (mNil)))))) (sRaise "InvalidBend" "word" (mRet (.str "marks"))) (oIf (mOr (mNot (mTest (mCall F_is_sequence (mCons (mVar 3) (mNil))))) (mNot (mTest (mBuilt allD (mCons (mList (mBlk [4] (mSeqS (mVar 3)) (lcBody [4] (gSet 4) (mRet true) (mCall F_is_value (mCons (mVar 4) (mNil)))))) (mNil)))))) (sRaise "InvalidBend" "word" (mRet (.str "handles"))) (oIf (mTest (mOp neD (mBuilt lenD (mCons (mVar 3) (mNil))) (mOp subD (mOp addD (mVar 1) (mBuilt lenD (mCons (mVar 2) (mNil)))) (mRet (.int 1))))) (sRaise "InvalidBend" "word" (mRet (.str "handles"))) (oPut "degree" (fun _ => mVar 1)
  (oPut "marks" (fun _ => mBuilt tupleD (mCons (mList (mBlk [4] (mSeqS (mVar 2)) (lcBody [4] (gSet 4) (mRet true) (mCall F_value_of (mCons (mVar 4) (mNil)))))) (mNil)))
  (oPut "handles" (fun _ => mBuilt tupleD (mCons (mList (mBlk [4] (mSeqS (mVar 3)) (lcBody [4] (gSet 4) (mRet true) (mCall F_value_of (mCons (mVar 4) (mNil)))))) (mNil)))
  (oPut "text" (oCall F_text_of_bend (oCons (fun _ => mVar 1) (oCons (fun kvs => pureF (fldIn "marks" kvs)) (oCons (fun kvs => pureF (fldIn "handles" kvs)) (fun _ => mNil)))))
  (oEnd))))))))
def I_Bend : FnI := guardI 3 (runI 4 g_Bend_init)
def C_NOUGHT : D := .tuple [.int 0, .int 1]
def C_ONE : D := .tuple [.int 1, .int 1]
def g_in_lowest : Mo Fl := sSeq (sSet 2 (mCall F_common_part (mCons (mVar 0) (mCons (mVar 1) (mNil)))))
  (sRet (mIf (mTest (mOp (cmpD gtI) (mVar 1) (mRet (.int 0)))) (mTup (mCons (mOp fdivD (mVar 0) (mVar 2)) (mCons (mOp fdivD (mVar 1) (mVar 2)) (mNil)))) (mTup (mCons (mOp fdivD (mUn negD (mVar 0)) (mVar 2)) (mCons (mOp fdivD (mUn negD (mVar 1)) (mVar 2)) (mNil))))))
def F_in_lowest : Fn := M_in_lowest
def g_added : Mo Fl := sRet (mCall F_in_lowest (mCons (mOp addD (mOp mulD (mOp ixD (mVar 0) (mRet (.int 0))) (mOp ixD (mVar 1) (mRet (.int 1)))) (mOp mulD (mOp ixD (mVar 1) (mRet (.int 0))) (mOp ixD (mVar 0) (mRet (.int 1))))) (mCons (mOp mulD (mOp ixD (mVar 0) (mRet (.int 1))) (mOp ixD (mVar 1) (mRet (.int 1)))) (mNil))))
def F_added : Fn := M_added
def g_multiplied : Mo Fl := sRet (mCall F_in_lowest (mCons (mOp mulD (mOp ixD (mVar 0) (mRet (.int 0))) (mOp ixD (mVar 1) (mRet (.int 0)))) (mCons (mOp mulD (mOp ixD (mVar 0) (mRet (.int 1))) (mOp ixD (mVar 1) (mRet (.int 1)))) (mNil))))
def F_multiplied : Fn := M_multiplied
def g_less_by : Mo Fl := sRet (mCall F_in_lowest (mCons (mOp subD (mOp mulD (mOp ixD (mVar 0) (mRet (.int 0))) (mOp ixD (mVar 1) (mRet (.int 1)))) (mOp mulD (mOp ixD (mVar 1) (mRet (.int 0))) (mOp ixD (mVar 0) (mRet (.int 1))))) (mCons (mOp mulD (mOp ixD (mVar 0) (mRet (.int 1))) (mOp ixD (mVar 1) (mRet (.int 1)))) (mNil))))
def F_less_by : Fn := M_less_by
def g_quotient : Mo Fl := sRet (mCall F_in_lowest (mCons (mOp mulD (mOp ixD (mVar 0) (mRet (.int 0))) (mOp ixD (mVar 1) (mRet (.int 1)))) (mCons (mOp mulD (mOp ixD (mVar 0) (mRet (.int 1))) (mOp ixD (mVar 1) (mRet (.int 0)))) (mNil))))
def F_quotient : Fn := M_quotient
def g_is_at_most : Mo Fl := sRet (mNotV (mCall F_is_less (mCons (mVar 1) (mCons (mVar 0) (mNil)))))
def F_is_at_most : Fn := guard 2 (runF 2 g_is_at_most)
def g_knots_of_1 : Mo Fl := sRet (mTup (mStar (mList (mBlk [4] (mRange range1D (mCons (mVar 0) (mNil))) (lcBody [4] (gSet 4) (mRet true) (mOp ixD (mVar 2) (mRet (.int 0)))))) (mStar (mVar 2) (mStar (mList (mBlk [4] (mRange range1D (mCons (mVar 0) (mNil))) (lcBody [4] (gSet 4) (mRet true) (mOp ixD (mVar 2) (mUn negD (mRet (.int 1))))))) (mNil)))))
def g_knots_of : Mo Fl := sSeq (sSet 2 (mList (mBlk [3] (mSeqS (mVar 1)) (lcBody [3] (gSet 3) (mRet true) (mCall F_value_of (mCons (mVar 3) (mNil)))))))
  (g_knots_of_1)
def F_knots_of : Fn := guard 2 (runF 5 g_knots_of)
def g_middle_of : Mo Fl := sRet (mCall F_quotient (mCons (mCall F_added (mCons (mVar 0) (mCons (mVar 1) (mNil)))) (mCons (mTup (mCons (mRet C_PAIR) (mCons (mRet (.int 1)) (mNil)))) (mNil))))
def F_middle_of : Fn := guard 2 (runF 2 g_middle_of)
def g_trimmed_1 : Mo Fl := sRet (mBuilt tupleD (mCons (mSlice (mVar 0) (mNoPart) (mPart (mVar 1))) (mNil)))
def g_trimmed_2 : Mo Fl := sSeq (sWhile (fun _ => 4000) (mAnd (mTest (mOp (cmpD gtI) (mVar 1) (mRet (.int 0)))) (mTest (mOp eqD (mOp ixD (mVar 0) (mOp subD (mVar 1) (mRet (.int 1)))) (mRet C_NOUGHT)))) (sAug (fun i j => i - j) 1 (mRet (.int 1))))
  (g_trimmed_1)
def g_trimmed : Mo Fl := sSeq (sSet 1 (mBuilt lenD (mCons (mVar 0) (mNil))))
  (g_trimmed_2)
def F_trimmed : Fn := guard 1 (runF 2 g_trimmed)
def g_poly_at_1 : Mo Fl := sSet 2 (mCall F_added (mCons (mCall F_multiplied (mCons (mVar 2) (mCons (mVar 1) (mNil)))) (mCons (mVar 3) (mNil))))
def g_poly_at_2 : Mo Fl := sSeq (sFor (mSeqS (mRev (mVar 0) (mPart (mUn negD (mRet (.int 1)))))) (gSet 3) (g_poly_at_1))
  (sRet (mVar 2))
def g_poly_at : Mo Fl := sSeq (sSet 2 (mRet C_NOUGHT))
  (g_poly_at_2)
def F_poly_at : Fn := guard 2 (runF 4 g_poly_at)
def g_Piece_init : MoO := oPut "start" (fun _ => mVar 1)
  (oPut "end" (fun _ => mVar 2)
  (oPut "poly" (fun _ => mVar 3)
  (oEnd)))
def I_Piece : FnI := guardI 3 (runI 3 g_Piece_init)
def g_power_at : Mo Fl := sRet (mIf (mTest (mOp (cmpD ltI) (mVar 1) (mBuilt lenD (mCons (mVar 0) (mNil))))) (mOp ixD (mVar 0) (mVar 1)) (mRet C_NOUGHT))
def F_power_at : Fn := guard 2 (runF 2 g_power_at)
def g_poly_less : Mo Fl := sRet (mCall F_trimmed (mCons (mList (mBlk [2] (mRange range1D (mCons (mBuilt maxD (mCons (mBuilt lenD (mCons (mVar 0) (mNil))) (mCons (mBuilt lenD (mCons (mVar 1) (mNil))) (mNil)))) (mNil))) (lcBody [2] (gSet 2) (mRet true) (mCall F_less_by (mCons (mCall F_power_at (mCons (mVar 0) (mCons (mVar 2) (mNil)))) (mCons (mCall F_power_at (mCons (mVar 1) (mCons (mVar 2) (mNil)))) (mNil))))))) (mNil)))
def F_poly_less : Fn := guard 2 (runF 3 g_poly_less)
def g_poly_sum : Mo Fl := sRet (mCall F_trimmed (mCons (mList (mBlk [2] (mRange range1D (mCons (mBuilt maxD (mCons (mBuilt lenD (mCons (mVar 0) (mNil))) (mCons (mBuilt lenD (mCons (mVar 1) (mNil))) (mNil)))) (mNil))) (lcBody [2] (gSet 2) (mRet true) (mCall F_added (mCons (mCall F_power_at (mCons (mVar 0) (mCons (mVar 2) (mNil)))) (mCons (mCall F_power_at (mCons (mVar 1) (mCons (mVar 2) (mNil)))) (mNil))))))) (mNil)))
def F_poly_sum : Fn := guard 2 (runF 3 g_poly_sum)
def g_poly_times_1 : Mo Fl := sPut 2 (mOp addD (mVar 3) (mVar 6)) (mCall F_added (mCons (mIxO 2 (mOp addD (mVar 3) (mVar 6))) (mCons (mCall F_multiplied (mCons (mVar 4) (mCons (mVar 7) (mNil)))) (mNil))))
def g_poly_times_2 : Mo Fl := sFor (mEnum (mVar 1)) (gTupD 2 (gConsD (gSet 6) (gConsD (gSet 7) (gNilD)))) (g_poly_times_1)
def g_poly_times_3 : Mo Fl := sSeq (sFor (mEnum (mVar 0)) (gTupD 2 (gConsD (gSet 3) (gConsD (gSet 4) (gNilD)))) (g_poly_times_2))
  (sRet (mCall F_trimmed (mCons (mVar 2) (mNil))))
def g_poly_times : Mo Fl := sSeq (sOwn 2 (mBlk [5] (mRange range1D (mCons (mOp addD (mBuilt lenD (mCons (mVar 0) (mNil))) (mBuilt lenD (mCons (mVar 1) (mNil)))) (mNil))) (lcBody [5] (gSet 5) (mRet true) (mRet C_NOUGHT))))
  (g_poly_times_3)
def F_poly_times : Fn := guard 2 (runF 8 g_poly_times)
def g_share_poly_1 : Mo Fl := sRet (mCall F_trimmed (mCons (mList (mSized (mCons (mCall F_quotient (mCons (mCall F_less_by (mCons (mRet C_NOUGHT) (mCons (mVar 0) (mNil)))) (mCons (mVar 2) (mNil)))) (mCons (mCall F_quotient (mCons (mRet C_ONE) (mCons (mVar 2) (mNil)))) (mNil))))) (mNil)))
def g_share_poly : Mo Fl := sSeq (sSet 2 (mCall F_less_by (mCons (mVar 1) (mCons (mVar 0) (mNil)))))
  (g_share_poly_1)
def F_share_poly : Fn := guard 2 (runF 3 g_share_poly)
def g_piece_at_1 : Mo Fl := sChg 6 (mCons (mCall F_poly_sum (mCons (mVar 11) (mCons (mCall F_poly_times (mCons (mVar 10) (mCons (mCall F_poly_less (mCons (mVar 12) (mCons (mVar 11) (mNil)))) (mNil)))) (mNil)))) (mNil)) appC
def g_piece_at_2 : Mo Fl := sSeq (sPar2 11 12 (xConsP (mOp ixD (mVar 4) (mOp subD (mVar 7) (mVar 5))) (xConsP (mOp ixD (mVar 4) (mOp addD (mOp subD (mVar 7) (mVar 5)) (mRet (.int 1)))) (xNil))))
  (g_piece_at_1)
def g_piece_at_3 : Mo Fl := sSeq (sSet 10 (mCall F_share_poly (mCons (mOp ixD (mVar 1) (mVar 9)) (mCons (mOp ixD (mVar 1) (mOp subD (mOp addD (mOp addD (mVar 9) (mVar 3)) (mRet (.int 1))) (mVar 5))) (mNil)))))
  (g_piece_at_2)
def g_piece_at_4 : Mo Fl := sSeq (sSet 9 (mOp addD (mOp subD (mVar 2) (mVar 3)) (mVar 7)))
  (g_piece_at_3)
def g_piece_at_5 : Mo Fl := sSeq (sFor (mRange range2D (mCons (mVar 5) (mCons (mOp addD (mVar 3) (mRet (.int 1))) (mNil)))) (gSet 7) (g_piece_at_4))
  (sSet 4 (mVar 6))
def g_piece_at_6 : Mo Fl := sRet (mMake "Piece" I_Piece (mCons (mOp ixD (mVar 1) (mVar 2)) (mCons (mOp ixD (mVar 1) (mOp addD (mVar 2) (mRet (.int 1)))) (mCons (mOp ixD (mVar 4) (mRet (.int 0))) (mNil)))))
def g_piece_at_7 : Mo Fl := sSeq (sFor (mRange range2D (mCons (mRet (.int 1)) (mCons (mOp addD (mVar 3) (mRet (.int 1))) (mNil)))) (gSet 5) (sSeq (sOwn 6 (mSized (mNil)))
  (g_piece_at_5)))
  (g_piece_at_6)
def g_piece_at_8 : Mo Fl := sSeq (sSet 4 (mList (mBlk [8] (mSeqS (mSlice (mUn (fldD "Bend" "handles") (mVar 0)) (mPart (mOp subD (mVar 2) (mVar 3))) (mPart (mOp addD (mVar 2) (mRet (.int 1)))))) (lcBody [8] (gSet 8) (mRet true) (mCall F_trimmed (mCons (mList (mSized (mCons (mVar 8) (mNil)))) (mNil)))))))
  (g_piece_at_7)
def g_piece_at : Mo Fl := sSeq (sSet 3 (mUn (fldD "Bend" "degree") (mVar 0)))
  (g_piece_at_8)
def F_piece_at : Fn := guard 3 (runF 13 g_piece_at)
def g_pieces_of_1 : Mo Fl := sRet (mList (mBlk [2] (mRange range1D (mCons (mOp subD (mBuilt lenD (mCons (mVar 1) (mNil))) (mRet (.int 1))) (mNil))) (lcBody [2] (gSet 2) (mTest (mCall F_is_less (mCons (mOp ixD (mVar 1) (mVar 2)) (mCons (mOp ixD (mVar 1) (mOp addD (mVar 2) (mRet (.int 1)))) (mNil))))) (mCall F_piece_at (mCons (mVar 0) (mCons (mVar 1) (mCons (mVar 2) (mNil))))))))
def g_pieces_of : Mo Fl := sSeq (sSet 1 (mCall F_knots_of (mCons (mUn (fldD "Bend" "degree") (mVar 0)) (mCons (mUn (fldD "Bend" "marks") (mVar 0)) (mNil)))))
  (g_pieces_of_1)
def F_pieces_of : Fn := guard 1 (runF 3 g_pieces_of)
def g_poly_scaled : Mo Fl := sRet (mCall F_trimmed (mCons (mList (mBlk [2] (mSeqS (mVar 0)) (lcBody [2] (gSet 2) (mRet true) (mCall F_multiplied (mCons (mVar 2) (mCons (mVar 1) (mNil))))))) (mNil)))
def F_poly_scaled : Fn := guard 2 (runF 3 g_poly_scaled)
def g_divided_1 : Mo Fl := sSet 2 (mList (mListOf (mCall F_poly_less (mCons (mBuilt tupleD (mCons (mVar 2) (mNil))) (mCons (mVar 6) (mNil))))))
def g_divided_2 : Mo Fl := sSeq (sSet 6 (mTup (mStar (mList (mBlk [7] (mRange range1D (mCons (mVar 4) (mNil))) (lcBody [7] (gSet 7) (mRet true) (mRet C_NOUGHT)))) (mStar (mCall F_poly_scaled (mCons (mVar 1) (mCons (mVar 5) (mNil)))) (mNil)))))
  (g_divided_1)
def g_divided_3 : Mo Fl := sSeq (sSet 5 (mCall F_quotient (mCons (mOp ixD (mVar 2) (mUn negD (mRet (.int 1)))) (mCons (mOp ixD (mVar 1) (mUn negD (mRet (.int 1)))) (mNil)))))
  (sSeq (sPut 3 (mVar 4) (mVar 5))
  (g_divided_2))
def g_divided_4 : Mo Fl := sSeq (sSet 4 (mOp subD (mBuilt lenD (mCons (mVar 2) (mNil))) (mBuilt lenD (mCons (mVar 1) (mNil)))))
  (g_divided_3)
def g_divided_5 : Mo Fl := sRet (mTup (mCons (mCall F_trimmed (mCons (mVar 3) (mNil))) (mCons (mBuilt tupleD (mCons (mVar 2) (mNil))) (mNil))))
def g_divided_6 : Mo Fl := sSeq (sWhile (fun _ => 4000) (mTest (mOp (cmpD geI) (mBuilt lenD (mCons (mVar 2) (mNil))) (mBuilt lenD (mCons (mVar 1) (mNil))))) (g_divided_4))
  (g_divided_5)
def g_divided : Mo Fl := sSeq (sPar2 2 3 (xConsP (mList (mListOf (mVar 0))) (xConsO (mBlk [7] (mRange range1D (mCons (mBuilt lenD (mCons (mVar 0) (mNil))) (mNil))) (lcBody [7] (gSet 7) (mRet true) (mRet C_NOUGHT))) (xNil))))
  (g_divided_6)
def F_divided : Fn := guard 2 (runF 8 g_divided)
def g_order_at_1 : Mo Fl := sSeq (sSet 0 (mOp ixD (mCall F_divided (mCons (mVar 0) (mCons (mVar 3) (mNil)))) (mRet (.int 0))))
  (sAug (fun i j => i + j) 2 (mRet (.int 1)))
def g_order_at_2 : Mo Fl := sSeq (sWhile (fun _ => 4000) (mTest (mOp eqD (mCall F_poly_at (mCons (mVar 0) (mCons (mVar 1) (mNil)))) (mRet C_NOUGHT))) (g_order_at_1))
  (sRet (mVar 2))
def g_order_at : Mo Fl := sSeq (sPar2 2 3 (xConsP (mRet (.int 0)) (xConsP (mTup (mCons (mCall F_less_by (mCons (mRet C_NOUGHT) (mCons (mVar 1) (mNil)))) (mCons (mRet C_ONE) (mNil)))) (xNil))))
  (g_order_at_2)
def F_order_at : Fn := guard 2 (runF 4 g_order_at)
def g_alike_slopes_1 : Mo Fl := sRet (mIf (mTest (mOp eqD (mBuilt lenD (mCons (mVar 3) (mNil))) (mRet (.int 0)))) (mRet .none) (mOp subD (mCall F_order_at (mCons (mVar 3) (mCons (mVar 2) (mNil)))) (mRet (.int 1))))
def g_alike_slopes : Mo Fl := sSeq (sSet 3 (mCall F_poly_less (mCons (mVar 0) (mCons (mVar 1) (mNil)))))
  (g_alike_slopes_1)
def F_alike_slopes : Fn := guard 3 (runF 4 g_alike_slopes)
def g_merged_1 : Mo Fl := sIf (mTest (mOp eqD (mUn (fldD "Piece" "poly") (mVar 2)) (mUn (fldD "Piece" "poly") (mIxO 1 (mUn negD (mRet (.int 1))))))) (sPut 1 (mUn negD (mRet (.int 1))) (mMake "Piece" I_Piece (mCons (mUn (fldD "Piece" "start") (mIxO 1 (mUn negD (mRet (.int 1))))) (mCons (mUn (fldD "Piece" "end") (mVar 2)) (mCons (mUn (fldD "Piece" "poly") (mVar 2)) (mNil)))))) (sChg 1 (mCons (mVar 2) (mNil)) appC)
def g_merged_2 : Mo Fl := sSeq (sFor (mSeqS (mSlice (mVar 0) (mPart (mRet (.int 1))) (mNoPart))) (gSet 2) (g_merged_1))
  (sRet (mVar 1))
def g_merged : Mo Fl := sSeq (sOwn 1 (mSized (mCons (mOp ixD (mVar 0) (mRet (.int 0))) (mNil))))
  (g_merged_2)
def F_merged : Fn := guard 1 (runF 3 g_merged)
def g_poly_in : Mo Fl := sRet (mOp ixD (mList (mBlk [3] (mSeqS (mVar 0)) (lcBody [3] (gSet 3) (mAnd (mTest (mCall F_is_at_most (mCons (mUn (fldD "Piece" "start") (mVar 3)) (mCons (mVar 1) (mNil))))) (mTest (mCall F_is_at_most (mCons (mVar 2) (mCons (mUn (fldD "Piece" "end") (mVar 3)) (mNil)))))) (mUn (fldD "Piece" "poly") (mVar 3))))) (mRet (.int 0)))
def F_poly_in : Fn := guard 3 (runF 4 g_poly_in)
def g_choices_1 : Mo Fl := sSet 2 (mOp fdivD (mOp mulD (mVar 2) (mOp subD (mVar 0) (mVar 3))) (mOp addD (mVar 3) (mRet (.int 1))))
def g_choices_2 : Mo Fl := sSeq (sFor (mRange range1D (mCons (mVar 1) (mNil))) (gSet 3) (g_choices_1))
  (sRet (mVar 2))
def g_choices : Mo Fl := sSeq (sSet 2 (mRet (.int 1)))
  (g_choices_2)
def F_choices : Fn := guard 2 (runF 4 g_choices)
def g_shared_1 : Mo Fl := sSet 3 (mCall F_poly_sum (mCons (mVar 3) (mCons (mTup (mCons (mRet C_NOUGHT) (mStar (mCall F_poly_scaled (mCons (mVar 3) (mCons (mVar 4) (mNil)))) (mNil)))) (mNil))))
def g_shared_2 : Mo Fl := sSet 5 (mCall F_added (mCons (mVar 5) (mCons (mCall F_quotient (mCons (mCall F_multiplied (mCons (mVar 7) (mCons (mCall F_power_at (mCons (mVar 3) (mCons (mVar 6) (mNil)))) (mNil)))) (mCons (mTup (mCons (mCall F_choices (mCons (mVar 1) (mCons (mVar 6) (mNil)))) (mCons (mRet (.int 1)) (mNil)))) (mNil)))) (mNil))))
def g_shared_3 : Mo Fl := sSeq (sFor (mEnum (mVar 0)) (gTupD 2 (gConsD (gSet 6) (gConsD (gSet 7) (gNilD)))) (g_shared_2))
  (sRet (mVar 5))
def g_shared_4 : Mo Fl := sSeq (sFor (mSeqS (mVar 2)) (gSet 4) (g_shared_1))
  (sSeq (sSet 5 (mRet C_NOUGHT))
  (g_shared_3))
def g_shared : Mo Fl := sSeq (sSet 3 (mTup (mCons (mRet C_ONE) (mNil))))
  (g_shared_4)
def F_shared : Fn := guard 3 (runF 8 g_shared)
def g_bend_with_1 : Mo Fl := sChg 5 (mCons (mCall F_shared (mCons (mVar 8) (mCons (mVar 0) (mCons (mSlice (mVar 4) (mPart (mOp addD (mVar 3) (mRet (.int 1)))) (mPart (mOp addD (mOp addD (mVar 3) (mVar 0)) (mRet (.int 1))))) (mNil))))) (mNil)) appC
def g_bend_with_2 : Mo Fl := sSeq (sSet 8 (mCall F_poly_in (mCons (mVar 6) (mCons (mOp ixD (mVar 4) (mVar 7)) (mCons (mOp ixD (mVar 4) (mOp addD (mVar 7) (mRet (.int 1)))) (mNil))))))
  (g_bend_with_1)
def g_bend_with_3 : Mo Fl := sSeq (sSet 7 (mOp ixD (mList (mBlk [9] (mRange range2D (mCons (mVar 3) (mCons (mOp addD (mOp addD (mVar 3) (mVar 0)) (mRet (.int 1))) (mNil)))) (lcBody [9] (gSet 9) (mTest (mCall F_is_less (mCons (mOp ixD (mVar 4) (mVar 9)) (mCons (mOp ixD (mVar 4) (mOp addD (mVar 9) (mRet (.int 1)))) (mNil))))) (mVar 9)))) (mRet (.int 0))))
  (g_bend_with_2)
def g_bend_with_4 : Mo Fl := sRet (mMake "Bend" I_Bend (mCons (mVar 0) (mCons (mVar 1) (mCons (mVar 5) (mNil)))))
def g_bend_with_5 : Mo Fl := sSeq (sFor (mRange range1D (mCons (mOp addD (mOp subD (mBuilt lenD (mCons (mVar 1) (mNil))) (mRet (.int 1))) (mVar 0)) (mNil))) (gSet 3) (g_bend_with_3))
  (g_bend_with_4)
def g_bend_with : Mo Fl := sSeq (sParN [4, 5, 6] (xConsP (mCall F_knots_of (mCons (mVar 0) (mCons (mVar 1) (mNil)))) (xConsO (mSized (mNil)) (xConsP (mCall F_merged (mCons (mVar 2) (mNil))) (xNil)))))
  (g_bend_with_5)
def F_bend_with : Fn := guard 3 (runF 10 g_bend_with)
def g_least_of_1 : Mo Fl := sChg 3 (mCons (mList (mBlk [6] (mRange range1D (mCons (mOp subD (mVar 2) (mVar 5)) (mNil))) (lcBody [6] (gSet 6) (mRet true) (mUn (fldD "Piece" "end") (mOp ixD (mVar 1) (mVar 4)))))) (mNil)) extC
def g_least_of_2 : Mo Fl := sSeq (sSet 5 (mCall F_alike_slopes (mCons (mUn (fldD "Piece" "poly") (mOp ixD (mVar 1) (mVar 4))) (mCons (mUn (fldD "Piece" "poly") (mOp ixD (mVar 1) (mOp addD (mVar 4) (mRet (.int 1))))) (mCons (mUn (fldD "Piece" "end") (mOp ixD (mVar 1) (mVar 4))) (mNil))))))
  (g_least_of_1)
def g_least_of_3 : Mo Fl := sRet (mCall F_bend_with (mCons (mVar 2) (mCons (mList (mSized (mStar (mVar 3) (mCons (mUn (fldD "Piece" "end") (mOp ixD (mVar 1) (mUn negD (mRet (.int 1))))) (mNil))))) (mCons (mVar 1) (mNil)))))
def g_least_of_4 : Mo Fl := sSeq (sFor (mRange range1D (mCons (mOp subD (mBuilt lenD (mCons (mVar 1) (mNil))) (mRet (.int 1))) (mNil))) (gSet 4) (g_least_of_2))
  (g_least_of_3)
def g_least_of_5 : Mo Fl := sSeq (sOwn 3 (mSized (mCons (mUn (fldD "Piece" "start") (mOp ixD (mVar 1) (mRet (.int 0)))) (mNil))))
  (g_least_of_4)
def g_least_of_6 : Mo Fl := sSeq (sSet 2 (mBuilt max1D (mCons (mList (mSized (mCons (mRet (.int 0)) (mStar (mList (mBlk [7] (mSeqS (mVar 1)) (lcBody [7] (gSet 7) (mRet true) (mOp subD (mBuilt lenD (mCons (mUn (fldD "Piece" "poly") (mVar 7)) (mNil))) (mRet (.int 1)))))) (mNil))))) (mNil))))
  (g_least_of_5)
def g_least_of : Mo Fl := sSeq (sSet 1 (mCall F_merged (mCons (mVar 0) (mNil))))
  (g_least_of_6)
def F_least_of : Fn := guard 1 (runF 8 g_least_of)
def g_need_alike : Mo Fl := sIf (mOr (mTest (mOp neD (mOp ixD (mUn (fldD "Bend" "marks") (mVar 0)) (mRet (.int 0))) (mOp ixD (mUn (fldD "Bend" "marks") (mVar 1)) (mRet (.int 0))))) (mTest (mOp neD (mOp ixD (mUn (fldD "Bend" "marks") (mVar 0)) (mUn negD (mRet (.int 1)))) (mOp ixD (mUn (fldD "Bend" "marks") (mVar 1)) (mUn negD (mRet (.int 1))))))) (sRaise0 "Unlike") (sNext)
def F_need_alike : Fn := guard 2 (runF 2 g_need_alike)
def g_scaled_1 : Mo Fl := sRet (mCall F_least_of (mCons (mList (mBlk [3] (mSeqS (mCall F_pieces_of (mCons (mVar 0) (mNil)))) (lcBody [3] (gSet 3) (mRet true) (mMake "Piece" I_Piece (mCons (mUn (fldD "Piece" "start") (mVar 3)) (mCons (mUn (fldD "Piece" "end") (mVar 3)) (mCons (mCall F_poly_scaled (mCons (mUn (fldD "Piece" "poly") (mVar 3)) (mCons (mVar 2) (mNil)))) (mNil)))))))) (mNil)))
def g_scaled : Mo Fl := sSeq (sSet 2 (mCall F_value_of (mCons (mVar 1) (mNil))))
  (g_scaled_1)
def F_scaled : Fn := guard 2 (runF 4 g_scaled)
def g_poly_slope : Mo Fl := sRet (mCall F_trimmed (mCons (mSlice (mList (mBlk [1, 2] (mEnum (mVar 0)) (lcBody [1, 2] (gTupD 2 (gConsD (gSet 1) (gConsD (gSet 2) (gNilD)))) (mRet true) (mCall F_multiplied (mCons (mVar 2) (mCons (mTup (mCons (mVar 1) (mCons (mRet (.int 1)) (mNil)))) (mNil))))))) (mPart (mRet (.int 1))) (mNoPart)) (mNil)))
def F_poly_slope : Fn := guard 1 (runF 3 g_poly_slope)
def C_DOWN : D := .tuple [.int (-1), .int 1]
def C_NONE : D := .tuple []
def g_law_draw_1 : Mo Fl := sRet (mOp modD (mBuilt intD (mCons (mVar 2) (mNil))) (mVar 1))
def g_law_draw_2 : Mo Fl := sSeq (sAppD 0 (mCons (mOp fdivD (mVar 2) (mVar 1)) (mNil)))
  (g_law_draw_1)
def g_law_draw_3 : Mo Fl := sRet (mOp modD (mBuilt intD (mCons (mOp fdivD (mP (pOp ixD (pDl 0) (fun _ => some (.int 1)))) (mRet (.int 64))) (mNil))) (mVar 1))
def g_law_draw_4 : Mo Fl := sSeq (sPutD 0 (mOp modD (mBuilt intD (mCons (mOp addD (mOp mulD (mP (pOp ixD (pDl 0) (fun _ => some (.int 1)))) (mRet (.int 41077))) (mRet (.int 53))) (mNil))) (mRet (.int 2147483647))))
  (g_law_draw_3)
def g_law_draw_5 : Mo Fl := sSeq (sIf (mTest (mP (pOp neD (pOp ixD (pDl 0) (fun _ => some (.int 0))) (fun _ => some (.list []))))) (sSeq (sSet 2 (mPopD 0))
  (g_law_draw_2)) (sNext))
  (g_law_draw_4)
def g_law_draw : Mo Fl := sSeq (sWhile (fun _ => 4000) (mAnd (mTest (mP (pOp neD (pOp ixD (pDl 0) (fun _ => some (.int 0))) (fun _ => some (.list []))))) (mTest (mP (pOp eqD (pOp ixD (pOp ixD (pDl 0) (fun _ => some (.int 0))) (pUn negD (fun _ => some (.int 1)))) (fun _ => some (.int 0)))))) (sDrop (mPopD 0)))
  (g_law_draw_5)
def F_law_draw : FnDl := guardDl 1 (runDl 3 g_law_draw)
def g_law_deal_1 : Mo Fl := sSet 3 (mOp modD (mBuilt intD (mCons (mOp addD (mOp addD (mOp mulD (mVar 3) (mRet (.int 41077))) (mOp modD (mBuilt intD (mCons (mVar 4) (mNil))) (mRet (.int 2147483543)))) (mRet (.int 29))) (mNil))) (mRet (.int 2147483647)))
def g_law_deal : Mo (List D × D) := rSeqD (sSet 2 (mList (mBlk [4] (mSeqS (mSlice (mVar 0) (mPart (mVar 1)) (mPart (mRet (.int 56))))) (lcBody [4] (gSet 4) (mRet true) (mBuilt absD (mCons (mVar 4) (mNil)))))))
  (rSeqD (sSet 3 (mOp addD (mRet (.int 86028121)) (mOp mulD (mRet (.int 47)) (mVar 1))))
  (rSeqD (sFor (mSeqS (mVar 2)) (gSet 4) (g_law_deal_1))
  (rRetD (mRevN (mList (mBlk [4] (mSeqS (mVar 2)) (lcBody [4] (gSet 4) (mTest (mOp (cmpD geI) (mVar 4) (mOp powD (mRet (.int 10)) (mRet (.int 18))))) (mVar 4)))) (mPart (mUn negD (mRet (.int 1))))) (mVar 3))))
def F_law_deal : FnND := guardND 2 (runND 5 g_law_deal)
def g_curve_at : Mo Fl := sRet (mCall F_poly_at (mCons (mCall F_poly_in (mCons (mVar 0) (mCons (mVar 1) (mCons (mVar 1) (mNil))))) (mCons (mVar 1) (mNil))))
def F_curve_at : Fn := guard 2 (runF 2 g_curve_at)
def g_Place_is_known : Mo Fl := sRet (mOrV (mUn (fldD "Place" "is_stretch") (mVar 0)) (mOp eqD (mUn (fldD "Place" "first") (mVar 0)) (mUn (fldD "Place" "last") (mVar 0))))
def F_Place_is_known : Fn := guard 1 (runF 1 g_Place_is_known)
def g_gaps_in_1 : Mo Fl := sIf (mNot (mTest (mMeth "Place" "is_known" F_Place_is_known (mVar 7) mNil))) (sChg 3 (mCons (mUn (fldD "Place" "last") (mVar 7)) (mNil)) appC) (sChg 3 (mCons (mIf (mTest (mMeth "Place" "is_known" F_Place_is_known (mVar 8) mNil)) (mCall F_middle_of (mCons (mUn (fldD "Place" "last") (mVar 7)) (mCons (mUn (fldD "Place" "first") (mVar 8)) (mNil)))) (mUn (fldD "Place" "first") (mVar 8))) (mNil)) appC)
def g_gaps_in_2 : Mo Fl := sSeq (sPar2 7 8 (xConsP (mOp ixD (mVar 1) (mVar 4)) (xConsP (mOp ixD (mVar 1) (mOp addD (mVar 4) (mRet (.int 1)))) (xNil))))
  (g_gaps_in_1)
def g_gaps_in_3 : Mo Fl := sRet (mList (mSized (mStar (mVar 3) (mCons (mIf (mAnd (mTest (mMeth "Place" "is_known" F_Place_is_known (mOp ixD (mVar 1) (mUn negD (mRet (.int 1)))) mNil)) (mTest (mOp eqD (mUn (fldD "Place" "last") (mOp ixD (mVar 1) (mUn negD (mRet (.int 1))))) (mVar 6)))) (mRet .none) (mVar 6)) (mNil)))))
def g_gaps_in_4 : Mo Fl := sSeq (sFor (mRange range1D (mCons (mOp subD (mBuilt lenD (mCons (mVar 1) (mNil))) (mRet (.int 1))) (mNil))) (gSet 4) (g_gaps_in_2))
  (g_gaps_in_3)
def g_gaps_in_5 : Mo Fl := sSeq (sOwn 3 (mSized (mCons (mVar 2) (mNil))))
  (g_gaps_in_4)
def g_gaps_in_6 : Mo Fl := sSeq (sSet 2 (mIf (mAnd (mTest (mMeth "Place" "is_known" F_Place_is_known (mOp ixD (mVar 1) (mRet (.int 0))) mNil)) (mTest (mOp eqD (mUn (fldD "Place" "first") (mOp ixD (mVar 1) (mRet (.int 0)))) (mVar 5)))) (mRet .none) (mVar 5)))
  (g_gaps_in_5)
def g_gaps_in_7 : Mo Fl := sSeq (sIf (mTest (mOp eqD (mBuilt lenD (mCons (mVar 1) (mNil))) (mRet (.int 0)))) (sRet (mList (mSized (mCons (mVar 5) (mNil))))) (sNext))
  (g_gaps_in_6)
def g_gaps_in : Mo Fl := sSeq (sPar2 5 6 (xConsP (mUn (fldD "Piece" "start") (mOp ixD (mVar 0) (mRet (.int 0)))) (xConsP (mUn (fldD "Piece" "end") (mOp ixD (mVar 0) (mUn negD (mRet (.int 1))))) (xNil))))
  (g_gaps_in_7)
def F_gaps_in : Fn := guard 2 (runF 9 g_gaps_in)
def g_Place_init : MoO := oPut "first" (fun _ => mVar 1)
  (oPut "last" (fun _ => mVar 2)
  (oPut "is_stretch" (fun _ => mVar 3)
  (oPut "poly" (fun _ => mVar 4)
  (oPut "factor" (fun _ => mVar 5)
  (oEnd)))))
def I_Place : FnI := guardI 5 (runI 5 g_Place_init)
def g_changes_of_1 : Mo Fl := sRet (mBuilt lenD (mCons (mList (mBlk [3] (mRange range1D (mCons (mOp subD (mBuilt lenD (mCons (mVar 1) (mNil))) (mRet (.int 1))) (mNil))) (lcBody [3] (gSet 3) (mTest (mOp neD (mOp ixD (mVar 1) (mVar 3)) (mOp ixD (mVar 1) (mOp addD (mVar 3) (mRet (.int 1)))))) (mVar 3)))) (mNil)))
def g_changes_of : Mo Fl := sSeq (sSet 1 (mList (mBlk [2] (mSeqS (mVar 0)) (lcBody [2] (gSet 2) (mTest (mOp neD (mVar 2) (mRet (.int 0)))) (mVar 2)))))
  (g_changes_of_1)
def F_changes_of : Fn := guard 1 (runF 4 g_changes_of)
def g_sign_of : Mo Fl := sRet (mOp subBD (mOp (cmpD gtI) (mOp ixD (mVar 0) (mRet (.int 0))) (mRet (.int 0))) (mOp (cmpD ltI) (mOp ixD (mVar 0) (mRet (.int 0))) (mRet (.int 0))))
def F_sign_of : Fn := guard 1 (runF 1 g_sign_of)
def g_changes_at : Mo Fl := sRet (mCall F_changes_of (mCons (mList (mBlk [2] (mSeqS (mVar 0)) (lcBody [2] (gSet 2) (mRet true) (mCall F_sign_of (mCons (mCall F_poly_at (mCons (mVar 2) (mCons (mVar 1) (mNil)))) (mNil)))))) (mNil)))
def F_changes_at : Fn := guard 2 (runF 3 g_changes_at)
def g_common_factor_1 : Mo Fl := sPar2 0 1 (xConsP (mVar 1) (xConsP (mOp ixD (mCall F_divided (mCons (mVar 0) (mCons (mVar 1) (mNil)))) (mRet (.int 1))) (xNil)))
def g_common_factor_2 : Mo Fl := sRet (mIf (mTest (mOp (cmpD gtI) (mBuilt lenD (mCons (mVar 0) (mNil))) (mRet (.int 0)))) (mCall F_poly_scaled (mCons (mVar 0) (mCons (mCall F_quotient (mCons (mRet C_ONE) (mCons (mOp ixD (mVar 0) (mUn negD (mRet (.int 1)))) (mNil)))) (mNil)))) (mRet C_NONE))
def g_common_factor : Mo Fl := sSeq (sWhile (fun _ => 4000) (mTest (mOp (cmpD gtI) (mBuilt lenD (mCons (mVar 1) (mNil))) (mRet (.int 0)))) (g_common_factor_1))
  (g_common_factor_2)
def F_common_factor : Fn := guard 2 (runF 2 g_common_factor)
def g_plain_part : Mo Fl := sRet (mOp ixD (mCall F_divided (mCons (mVar 0) (mCons (mCall F_common_factor (mCons (mVar 0) (mCons (mCall F_poly_slope (mCons (mVar 0) (mNil))) (mNil)))) (mNil)))) (mRet (.int 0)))
def F_plain_part : Fn := guard 1 (runF 1 g_plain_part)
def g_sorted_places_1 : Mo Fl := sSet 1 (mList (mSized (mStar (mList (mBlk [3] (mSeqS (mVar 1)) (lcBody [3] (gSet 3) (mTest (mCall F_is_less (mCons (mUn (fldD "Place" "first") (mVar 3)) (mCons (mUn (fldD "Place" "first") (mVar 2)) (mNil))))) (mVar 3)))) (mCons (mVar 2) (mStar (mList (mBlk [3] (mSeqS (mVar 1)) (lcBody [3] (gSet 3) (mTest (mCall F_is_less (mCons (mUn (fldD "Place" "first") (mVar 2)) (mCons (mUn (fldD "Place" "first") (mVar 3)) (mNil))))) (mVar 3)))) (mNil))))))
def g_sorted_places_2 : Mo Fl := sSeq (sFor (mSeqS (mVar 0)) (gSet 2) (g_sorted_places_1))
  (sRet (mVar 1))
def g_sorted_places : Mo Fl := sSeq (sSet 1 (mList (mSized (mNil))))
  (g_sorted_places_2)
def F_sorted_places : Fn := guard 1 (runF 4 g_sorted_places)
def g_sturm_row_1 : Mo Fl := sChg 1 (mCons (mCall F_poly_scaled (mCons (mOp ixD (mCall F_divided (mCons (mIxO 1 (mUn negD (mRet (.int 2)))) (mCons (mIxO 1 (mUn negD (mRet (.int 1)))) (mNil)))) (mRet (.int 1))) (mCons (mRet C_DOWN) (mNil)))) (mNil)) appC
def g_sturm_row_2 : Mo Fl := sRet (mSlice (mVar 1) (mNoPart) (mPart (mUn negD (mRet (.int 1)))))
def g_sturm_row_3 : Mo Fl := sSeq (sWhile (fun _ => 4000) (mTest (mOp (cmpD gtI) (mBuilt lenD (mCons (mIxO 1 (mUn negD (mRet (.int 1)))) (mNil))) (mRet (.int 0)))) (g_sturm_row_1))
  (g_sturm_row_2)
def g_sturm_row : Mo Fl := sSeq (sOwn 1 (mSized (mCons (mVar 0) (mCons (mCall F_poly_slope (mCons (mVar 0) (mNil))) (mNil)))))
  (g_sturm_row_3)
def F_sturm_row : Fn := guard 1 (runF 2 g_sturm_row)
def g_without_zero : Mo Fl := sRet (mIf (mTest (mOp eqD (mCall F_poly_at (mCons (mVar 0) (mCons (mVar 1) (mNil)))) (mRet C_NOUGHT))) (mOp ixD (mCall F_divided (mCons (mVar 0) (mCons (mTup (mCons (mCall F_less_by (mCons (mRet C_NOUGHT) (mCons (mVar 1) (mNil)))) (mCons (mRet C_ONE) (mNil)))) (mNil)))) (mRet (.int 0))) (mVar 0))
def F_without_zero : Fn := guard 2 (runF 2 g_without_zero)
def g_times_between_1 : Mo Fl := sSeq (sSet 6 (mCall F_without_zero (mCons (mVar 6) (mCons (mVar 10) (mNil)))))
  (sSet 5 (mCall F_sturm_row (mCons (mVar 6) (mNil))))
def g_times_between_2 : Mo Fl := sSeq (sChg 4 (mCons (mVar 10) (mNil)) appC)
  (g_times_between_1)
def g_times_between_3 : Mo Fl := sChg 8 (mCons (mList (mSized (mCons (mTup (mCons (mVar 12) (mCons (mVar 10) (mNil)))) (mCons (mTup (mCons (mVar 10) (mCons (mVar 13) (mNil)))) (mNil))))) (mNil)) extC
def g_times_between_4 : Mo Fl := sSeq (sIf (mTest (mOp eqD (mCall F_poly_at (mCons (mVar 6) (mCons (mVar 10) (mNil)))) (mRet C_NOUGHT))) (sSeq (sChg 7 (mCons (mMake "Place" I_Place (mCons (mVar 10) (mCons (mVar 10) (mCons (mRet (.bool false)) (mCons (mVar 0) (mCons (mVar 3) (mNil))))))) (mNil)) appC)
  (g_times_between_2)) (sNext))
  (g_times_between_3)
def g_times_between_5 : Mo Fl := sSeq (sSet 10 (mCall F_middle_of (mCons (mVar 12) (mCons (mVar 13) (mNil)))))
  (g_times_between_4)
def g_times_between_6 : Mo Fl := sSeq (sIf (mAnd (mTest (mOp eqD (mVar 9) (mRet (.int 1)))) (mAnd (mTest (mInO true 4 (mVar 12))) (mTest (mInO true 4 (mVar 13))))) (sSeq (sChg 7 (mCons (mMake "Place" I_Place (mCons (mVar 12) (mCons (mVar 13) (mCons (mRet (.bool false)) (mCons (mVar 0) (mCons (mVar 3) (mNil))))))) (mNil)) appC)
  (mRet .ct)) (sNext))
  (g_times_between_5)
def g_times_between_7 : Mo Fl := sSeq (sIf (mTest (mOp eqD (mVar 9) (mRet (.int 0)))) (mRet .ct) (sNext))
  (g_times_between_6)
def g_times_between_8 : Mo Fl := sSeq (sSet 9 (mOp subD (mCall F_changes_at (mCons (mVar 5) (mCons (mVar 12) (mNil)))) (mCall F_changes_at (mCons (mVar 5) (mCons (mVar 13) (mNil))))))
  (g_times_between_7)
def g_times_between_9 : Mo Fl := sSeq (sAsg (gTupD 2 (gConsD (gSet 12) (gConsD (gSet 13) (gNilD)))) (mPop0 8))
  (g_times_between_8)
def g_times_between_10 : Mo Fl := sSeq (sWhile (fun _ => 4000) (mTest (mOp (cmpD gtI) (mLenO 8) (mRet (.int 0)))) (g_times_between_9))
  (sRet (mCall F_sorted_places (mCons (mVar 7) (mNil))))
def g_times_between_11 : Mo Fl := sSeq (sSet 5 (mCall F_sturm_row (mCons (mVar 6) (mNil))))
  (g_times_between_10)
def g_times_between_12 : Mo Fl := sSeq (sPar3 6 7 8 (xConsP (mCall F_without_zero (mCons (mCall F_without_zero (mCons (mVar 3) (mCons (mVar 1) (mNil)))) (mCons (mVar 2) (mNil)))) (xConsO (mSized (mNil)) (xConsO (mSized (mCons (mTup (mCons (mVar 1) (mCons (mVar 2) (mNil)))) (mNil))) (xNil)))))
  (g_times_between_11)
def g_times_between_13 : Mo Fl := sSeq (sOwn 4 (mBlk [11] (mSeqS (mTup (mCons (mVar 1) (mCons (mVar 2) (mNil))))) (lcBody [11] (gSet 11) (mTest (mOp eqD (mCall F_poly_at (mCons (mVar 3) (mCons (mVar 11) (mNil)))) (mRet C_NOUGHT))) (mVar 11))))
  (g_times_between_12)
def g_times_between : Mo Fl := sSeq (sSet 3 (mCall F_plain_part (mCons (mVar 0) (mNil))))
  (g_times_between_13)
def F_times_between : Fn := guard 3 (runF 14 g_times_between)
def g_with_stretch_1 : Mo Fl := sSet 0 (mSlice (mVar 0) (mNoPart) (mPart (mUn negD (mRet (.int 1)))))
def g_with_stretch_2 : Mo (List D) := rRet (mSized (mStar (mVar 0) (mCons (mMake "Place" I_Place (mCons (mVar 2) (mCons (mUn (fldD "Piece" "end") (mVar 1)) (mCons (mRet (.bool true)) (mCons (mUn (fldD "Piece" "poly") (mVar 1)) (mCons (mUn (fldD "Piece" "poly") (mVar 1)) (mNil))))))) (mNil))))
def g_with_stretch_3 : Mo (List D) := rSeq (sIf (mAnd (mTest (mOp (cmpD gtI) (mBuilt lenD (mCons (mVar 0) (mNil))) (mRet (.int 0)))) (mTest (mOp eqD (mUn (fldD "Place" "last") (mOp ixD (mVar 0) (mUn negD (mRet (.int 1))))) (mUn (fldD "Piece" "start") (mVar 1))))) (sSeq (sSet 2 (mUn (fldD "Place" "first") (mOp ixD (mVar 0) (mUn negD (mRet (.int 1))))))
  (g_with_stretch_1)) (sNext))
  (g_with_stretch_2)
def g_with_stretch : Mo (List D) := rSeq (sSet 2 (mUn (fldD "Piece" "start") (mVar 1)))
  (g_with_stretch_3)
def F_with_stretch : FnN := guardN 2 (runN 3 g_with_stretch)
def g_places_in_1 : Mo Fl := sIf (mTest (mOp eqD (mCall F_poly_at (mCons (mUn (fldD "Piece" "poly") (mVar 2)) (mCons (mUn (fldD "Piece" "end") (mVar 2)) (mNil)))) (mRet C_NOUGHT))) (sChg 1 (mCons (mMake "Place" I_Place (mCons (mUn (fldD "Piece" "end") (mVar 2)) (mCons (mUn (fldD "Piece" "end") (mVar 2)) (mCons (mRet (.bool false)) (mCons (mUn (fldD "Piece" "poly") (mVar 2)) (mCons (mUn (fldD "Piece" "poly") (mVar 2)) (mNil))))))) (mNil)) appC) (sNext)
def g_places_in_2 : Mo Fl := sSeq (sChg 1 (mCons (mCall F_times_between (mCons (mUn (fldD "Piece" "poly") (mVar 2)) (mCons (mUn (fldD "Piece" "start") (mVar 2)) (mCons (mUn (fldD "Piece" "end") (mVar 2)) (mNil))))) (mNil)) extC)
  (g_places_in_1)
def g_places_in_3 : Mo Fl := sSeq (sIf (mAnd (mTest (mOp eqD (mCall F_poly_at (mCons (mUn (fldD "Piece" "poly") (mVar 2)) (mCons (mUn (fldD "Piece" "start") (mVar 2)) (mNil)))) (mRet C_NOUGHT))) (mNot (mTest (mVar 3)))) (sChg 1 (mCons (mMake "Place" I_Place (mCons (mUn (fldD "Piece" "start") (mVar 2)) (mCons (mUn (fldD "Piece" "start") (mVar 2)) (mCons (mRet (.bool false)) (mCons (mUn (fldD "Piece" "poly") (mVar 2)) (mCons (mUn (fldD "Piece" "poly") (mVar 2)) (mNil))))))) (mNil)) appC) (sNext))
  (g_places_in_2)
def g_places_in_4 : Mo Fl := sSeq (sSet 3 (mAndV (mOp (cmpD gtI) (mLenO 1) (mRet (.int 0))) (mAndV (mOp eqD (mUn (fldD "Place" "last") (mIxO 1 (mUn negD (mRet (.int 1))))) (mUn (fldD "Piece" "start") (mVar 2))) (mMeth "Place" "is_known" F_Place_is_known (mIxO 1 (mUn negD (mRet (.int 1)))) mNil))))
  (g_places_in_3)
def g_places_in_5 : Mo Fl := sSeq (sIf (mTest (mOp eqD (mBuilt lenD (mCons (mUn (fldD "Piece" "poly") (mVar 2)) (mNil))) (mRet (.int 0)))) (sSeq (sOwn 1 (mCallN F_with_stretch (mCons (mVar 1) (mCons (mVar 2) (mNil)))))
  (mRet .ct)) (sNext))
  (g_places_in_4)
def g_places_in_6 : Mo Fl := sSeq (sFor (mSeqS (mVar 0)) (gSet 2) (g_places_in_5))
  (sRet (mVar 1))
def g_places_in : Mo Fl := sSeq (sOwn 1 (mSized (mNil)))
  (g_places_in_6)
def F_places_in : Fn := guard 1 (runF 4 g_places_in)
def g_signs_in_1 : Mo Fl := sIf (mTest (mOp isNotD (mVar 4) (mRet .none))) (sChg 2 (mCons (mCall F_sign_of (mCons (mCall F_curve_at (mCons (mVar 0) (mCons (mVar 4) (mNil)))) (mNil))) (mNil)) appC) (sNext)
def g_signs_in_2 : Mo Fl := sSeq (sIf (mTest (mOp (cmpD gtI) (mVar 3) (mRet (.int 0)))) (sChg 2 (mCons (mRet (.int 0)) (mNil)) appC) (sNext))
  (g_signs_in_1)
def g_signs_in_3 : Mo Fl := sSeq (sFor (mEnum (mCall F_gaps_in (mCons (mVar 0) (mCons (mVar 1) (mNil))))) (gTupD 2 (gConsD (gSet 3) (gConsD (gSet 4) (gNilD)))) (g_signs_in_2))
  (sRet (mBuilt tupleD (mCons (mVar 2) (mNil))))
def g_signs_in : Mo Fl := sSeq (sPar2 1 2 (xConsP (mCall F_places_in (mCons (mVar 0) (mNil))) (xConsO (mSized (mNil)) (xNil))))
  (g_signs_in_3)
def F_signs_in : Fn := guard 1 (runF 5 g_signs_in)
def g_sign_row : Mo Fl := sRet (mCall F_signs_in (mCons (mCall F_pieces_of (mCons (mVar 0) (mNil))) (mNil)))
def F_sign_row : Fn := guard 1 (runF 1 g_sign_row)
def g_inner_places_1 : Mo Fl := sRet (mList (mBlk [2] (mRange range2D (mCons (mRet (.int 1)) (mCons (mOp subD (mBuilt lenD (mCons (mVar 1) (mNil))) (mRet (.int 1))) (mNil)))) (lcBody [2] (gSet 2) (mTest (mOp eqD (mOp ixD (mVar 1) (mVar 2)) (mRet (.int 0)))) (mTup (mCons (mOp ixD (mVar 1) (mOp subD (mVar 2) (mRet (.int 1)))) (mCons (mOp ixD (mVar 1) (mOp addD (mVar 2) (mRet (.int 1)))) (mNil)))))))
def g_inner_places : Mo Fl := sSeq (sSet 1 (mCall F_sign_row (mCons (mVar 0) (mNil))))
  (g_inner_places_1)
def F_inner_places : Fn := guard 1 (runF 3 g_inner_places)
def g_crossings : Mo Fl := sRet (mBuilt lenD (mCons (mList (mBlk [1, 2] (mSeqS (mCall F_inner_places (mCons (mVar 0) (mNil)))) (lcBody [1, 2] (gTupD 2 (gConsD (gSet 1) (gConsD (gSet 2) (gNilD)))) (mTest (mOp neD (mVar 1) (mVar 2))) (mRet (.int 1))))) (mNil)))
def F_crossings : Fn := guard 1 (runF 3 g_crossings)
def g_touches : Mo Fl := sRet (mBuilt lenD (mCons (mList (mBlk [1, 2] (mSeqS (mCall F_inner_places (mCons (mVar 0) (mNil)))) (lcBody [1, 2] (gTupD 2 (gConsD (gSet 1) (gConsD (gSet 2) (gNilD)))) (mTest (mOp eqD (mVar 1) (mVar 2))) (mRet (.int 1))))) (mNil)))
def F_touches : Fn := guard 1 (runF 3 g_touches)
def g_law_mixed_v3e4d_1 : Mo Fl := sChg 3 (mCons (mPop 2 (mCallD F_law_draw 0 (mCons (mLenO 2) (mNil)))) (mNil)) appC
def g_law_mixed_v3e4d_2 : Mo Fl := sSeq (sWhile (fun _ => 4000) (mTest (mEqO true 2)) (g_law_mixed_v3e4d_1))
  (sRet (mVar 3))
def g_law_mixed_v3e4d : Mo Fl := sSeq (sPar2 2 3 (xConsO (mListOf (mVar 1)) (xConsO (mSized (mNil)) (xNil))))
  (g_law_mixed_v3e4d_2)
def F_law_mixed_v3e4d : FnDl := guardDl 1 (runDl 4 g_law_mixed_v3e4d)
def g_places : Mo Fl := sRet (mBuilt tupleD (mCons (mList (mBlk [1] (mSeqS (mCall F_places_in (mCons (mCall F_pieces_of (mCons (mVar 0) (mNil))) (mNil)))) (lcBody [1] (gSet 1) (mRet true) (mTup (mCons (mUn (fldD "Place" "first") (mVar 1)) (mCons (mUn (fldD "Place" "last") (mVar 1)) (mNil))))))) (mNil)))
def F_places : Fn := guard 1 (runF 2 g_places)
def g_is_pair_1 : Mo Fl := sRet (mCall F_is_at_most (mCons (mCall F_value_of (mCons (mOp ixD (mVar 0) (mRet (.int 0))) (mNil))) (mCons (mCall F_value_of (mCons (mOp ixD (mVar 0) (mRet (.int 1))) (mNil))) (mNil))))
def g_is_pair : Mo Fl := sSeq (sIf (mOr (mNot (mTest (mIsi isTupT (mVar 0)))) (mOr (mTest (mOp neD (mBuilt lenD (mCons (mVar 0) (mNil))) (mRet C_PAIR))) (mOr (mNot (mTest (mCall F_is_value (mCons (mOp ixD (mVar 0) (mRet (.int 0))) (mNil))))) (mNot (mTest (mCall F_is_value (mCons (mOp ixD (mVar 0) (mRet (.int 1))) (mNil)))))))) (sRet (mRet (.bool false))) (sNext))
  (g_is_pair_1)
def F_is_pair : Fn := guard 1 (runF 1 g_is_pair)
def g_side_of_1 : Mo Fl := sRet (mIf (mTest (mOp eqD (mVar 2) (mCall F_sign_of (mCons (mCall F_poly_at (mCons (mUn (fldD "Place" "factor") (mVar 0)) (mCons (mUn (fldD "Place" "first") (mVar 0)) (mNil)))) (mNil))))) (mRet (.int 1)) (mUn negD (mRet (.int 1))))
def g_side_of_2 : Mo Fl := sSeq (sIf (mTest (mOp eqD (mVar 2) (mRet (.int 0)))) (sRet (mRet (.int 0))) (sNext))
  (g_side_of_1)
def g_side_of_3 : Mo Fl := sSeq (sSet 2 (mCall F_sign_of (mCons (mCall F_poly_at (mCons (mUn (fldD "Place" "factor") (mVar 0)) (mCons (mVar 1) (mNil)))) (mNil))))
  (g_side_of_2)
def g_side_of_4 : Mo Fl := sSeq (sIf (mOr (mTest (mCall F_is_at_most (mCons (mVar 1) (mCons (mUn (fldD "Place" "first") (mVar 0)) (mNil))))) (mTest (mCall F_is_at_most (mCons (mUn (fldD "Place" "last") (mVar 0)) (mCons (mVar 1) (mNil)))))) (sRet (mIf (mTest (mCall F_is_at_most (mCons (mVar 1) (mCons (mUn (fldD "Place" "first") (mVar 0)) (mNil))))) (mRet (.int 1)) (mUn negD (mRet (.int 1))))) (sNext))
  (g_side_of_3)
def g_side_of : Mo Fl := sSeq (sIf (mTest (mMeth "Place" "is_known" F_Place_is_known (mVar 0) mNil)) (sRet (mOp subD (mBuilt intD (mCons (mCall F_is_less (mCons (mVar 1) (mCons (mUn (fldD "Place" "first") (mVar 0)) (mNil)))) (mNil))) (mBuilt intD (mCons (mCall F_is_less (mCons (mUn (fldD "Place" "first") (mVar 0)) (mCons (mVar 1) (mNil)))) (mNil))))) (sNext))
  (g_side_of_4)
def F_side_of : Fn := guard 2 (runF 3 g_side_of)
def g_is_in_1 : Mo Fl := sRet (mAndV (mOp (cmpD geI) (mCall F_side_of (mCons (mVar 0) (mCons (mVar 1) (mNil)))) (mRet (.int 0))) (mOp (cmpD leI) (mCall F_side_of (mCons (mVar 0) (mCons (mVar 2) (mNil)))) (mRet (.int 0))))
def g_is_in : Mo Fl := sSeq (sIf (mTest (mUn (fldD "Place" "is_stretch") (mVar 0))) (sRet (mAndV (mCall F_is_at_most (mCons (mVar 1) (mCons (mUn (fldD "Place" "last") (mVar 0)) (mNil)))) (mCall F_is_at_most (mCons (mUn (fldD "Place" "first") (mVar 0)) (mCons (mVar 2) (mNil)))))) (sNext))
  (g_is_in_1)
def F_is_in : Fn := guard 3 (runF 3 g_is_in)
def g_is_told_by_1 : Mo Fl := sRet (mAndV (mCall F_is_in (mCons (mVar 0) (mCons (mVar 2) (mCons (mVar 3) (mNil))))) (mNotV (mBuilt anyD (mCons (mList (mBlk [4] (mSeqS (mVar 1)) (lcBody [4] (gSet 4) (mRet true) (mCall F_is_in (mCons (mVar 4) (mCons (mVar 2) (mCons (mVar 3) (mNil)))))))) (mNil)))))
def g_is_told_by : Mo Fl := sSeq (sIf (mTest (mUn (fldD "Place" "is_stretch") (mVar 0))) (sRet (mOp eqD (mTup (mCons (mVar 2) (mCons (mVar 3) (mNil)))) (mTup (mCons (mUn (fldD "Place" "first") (mVar 0)) (mCons (mUn (fldD "Place" "last") (mVar 0)) (mNil)))))) (sNext))
  (g_is_told_by_1)
def F_is_told_by : Fn := guard 4 (runF 5 g_is_told_by)
def g_places_hold_1 : Mo Fl := sIf (mNot (mTest (mCall F_is_told_by (mCons (mVar 6) (mCons (mList (mSized (mStar (mSlice (mVar 2) (mNoPart) (mPart (mVar 5))) (mStar (mSlice (mVar 2) (mPart (mOp addD (mVar 5) (mRet (.int 1)))) (mNoPart)) (mNil))))) (mCons (mVar 7) (mCons (mVar 8) (mNil)))))))) (sRet (mRet (.bool false))) (sNext)
def g_places_hold_2 : Mo Fl := sSeq (sIf (mOr (mTest (mCall F_is_less (mCons (mVar 7) (mCons (mVar 3) (mNil))))) (mTest (mCall F_is_less (mCons (mVar 4) (mCons (mVar 8) (mNil)))))) (sRet (mRet (.bool false))) (sNext))
  (g_places_hold_1)
def g_places_hold_3 : Mo Fl := sSeq (sPar2 7 8 (xConsP (mCall F_value_of (mCons (mOp ixD (mOp ixD (mVar 1) (mVar 5)) (mRet (.int 0))) (mNil))) (xConsP (mCall F_value_of (mCons (mOp ixD (mOp ixD (mVar 1) (mVar 5)) (mRet (.int 1))) (mNil))) (xNil))))
  (g_places_hold_2)
def g_places_hold_4 : Mo Fl := sSeq (sFor (mEnum (mVar 2)) (gTupD 2 (gConsD (gSet 5) (gConsD (gSet 6) (gNilD)))) (g_places_hold_3))
  (sRet (mRet (.bool true)))
def g_places_hold_5 : Mo Fl := sSeq (sPar2 3 4 (xConsP (mOp ixD (mUn (fldD "Bend" "marks") (mVar 0)) (mRet (.int 0))) (xConsP (mOp ixD (mUn (fldD "Bend" "marks") (mVar 0)) (mUn negD (mRet (.int 1)))) (xNil))))
  (g_places_hold_4)
def g_places_hold_6 : Mo Fl := sSeq (sIf (mOr (mNot (mTest (mIsi (tupX "Bend") (mVar 1)))) (mOr (mTest (mOp neD (mBuilt lenD (mCons (mVar 1) (mNil))) (mBuilt lenD (mCons (mVar 2) (mNil))))) (mNot (mTest (mBuilt allD (mCons (mList (mBlk [9] (mSeqS (mVar 1)) (lcBody [9] (gSet 9) (mRet true) (mCall F_is_pair (mCons (mVar 9) (mNil)))))) (mNil))))))) (sRet (mRet (.bool false))) (sNext))
  (g_places_hold_5)
def g_places_hold : Mo Fl := sSeq (sSet 2 (mCall F_places_in (mCons (mCall F_pieces_of (mCons (mVar 0) (mNil))) (mNil))))
  (g_places_hold_6)
def F_places_hold : Fn := guard 2 (runF 10 g_places_hold)
def g_is_kept_up : Mo Fl := sRet (mNotV (mBuilt anyD (mCons (mList (mBlk [1] (mSeqS (mVar 0)) (lcBody [1] (gSet 1) (mRet true) (mOp inTD (mUn negD (mRet (.int 1))) (mCall F_signs_in (mCons (mList (mSized (mCons (mVar 1) (mNil)))) (mNil))))))) (mNil))))
def F_is_kept_up : Fn := guard 1 (runF 2 g_is_kept_up)
def g_slopes_of : Mo Fl := sRet (mList (mBlk [1] (mSeqS (mVar 0)) (lcBody [1] (gSet 1) (mRet true) (mMake "Piece" I_Piece (mCons (mUn (fldD "Piece" "start") (mVar 1)) (mCons (mUn (fldD "Piece" "end") (mVar 1)) (mCons (mCall F_poly_slope (mCons (mUn (fldD "Piece" "poly") (mVar 1)) (mNil))) (mNil))))))))
def F_slopes_of : Fn := guard 1 (runF 2 g_slopes_of)
def g_rises : Mo Fl := sRet (mCall F_is_kept_up (mCons (mCall F_slopes_of (mCons (mCall F_pieces_of (mCons (mVar 0) (mNil))) (mNil))) (mNil)))
def F_rises : Fn := guard 1 (runF 1 g_rises)
def g_rises_always_1 : Mo Fl := sRet (mAndV (mCall F_is_kept_up (mCons (mVar 1) (mNil))) (mBuilt allD (mCons (mList (mBlk [2] (mSeqS (mVar 1)) (lcBody [2] (gSet 2) (mRet true) (mOp (cmpD gtI) (mBuilt lenD (mCons (mUn (fldD "Piece" "poly") (mVar 2)) (mNil))) (mRet (.int 0)))))) (mNil))))
def g_rises_always : Mo Fl := sSeq (sSet 1 (mCall F_slopes_of (mCons (mCall F_pieces_of (mCons (mVar 0) (mNil))) (mNil))))
  (g_rises_always_1)
def F_rises_always : Fn := guard 1 (runF 3 g_rises_always)
def g_bends_up_1 : Mo Fl := sIf (mTest (mCall F_is_less (mCons (mCall F_poly_at (mCons (mUn (fldD "Piece" "poly") (mOp ixD (mVar 1) (mOp addD (mVar 2) (mRet (.int 1))))) (mCons (mVar 3) (mNil)))) (mCons (mCall F_poly_at (mCons (mUn (fldD "Piece" "poly") (mOp ixD (mVar 1) (mVar 2))) (mCons (mVar 3) (mNil)))) (mNil))))) (sRet (mRet (.bool false))) (sNext)
def g_bends_up_2 : Mo Fl := sSeq (sSet 3 (mUn (fldD "Piece" "end") (mOp ixD (mVar 1) (mVar 2))))
  (g_bends_up_1)
def g_bends_up_3 : Mo Fl := sRet (mCall F_is_kept_up (mCons (mCall F_slopes_of (mCons (mVar 1) (mNil))) (mNil)))
def g_bends_up_4 : Mo Fl := sSeq (sFor (mRange range1D (mCons (mOp subD (mBuilt lenD (mCons (mVar 1) (mNil))) (mRet (.int 1))) (mNil))) (gSet 2) (g_bends_up_2))
  (g_bends_up_3)
def g_bends_up : Mo Fl := sSeq (sSet 1 (mCall F_slopes_of (mCons (mCall F_pieces_of (mCons (mVar 0) (mNil))) (mNil))))
  (g_bends_up_4)
def F_bends_up : Fn := guard 1 (runF 4 g_bends_up)
def g_put_together_vfdb7_1 : Mo Fl := sIf (mTest (mOp notInTD (mVar 3) (mVar 8))) (sSet 8 (mList (mSized (mStar (mList (mBlk [11] (mSeqS (mVar 8)) (lcBody [11] (gSet 11) (mTest (mCall F_is_less (mCons (mVar 11) (mCons (mVar 3) (mNil))))) (mVar 11)))) (mCons (mVar 3) (mStar (mList (mBlk [11] (mSeqS (mVar 8)) (lcBody [11] (gSet 11) (mTest (mCall F_is_less (mCons (mVar 3) (mCons (mVar 11) (mNil))))) (mVar 11)))) (mNil))))))) (sNext)
def g_put_together_vfdb7_2 : Mo Fl := sChg 4 (mCons (mMake "Piece" I_Piece (mCons (mVar 9) (mCons (mVar 10) (mCons (mCallV 2 [("poly_less", 2, F_poly_less)] (mCons (mCall F_poly_in (mCons (mVar 6) (mCons (mVar 9) (mCons (mVar 10) (mNil))))) (mCons (mCall F_poly_in (mCons (mVar 7) (mCons (mVar 9) (mCons (mVar 10) (mNil))))) (mNil)))) (mNil))))) (mNil)) appC
def g_put_together_vfdb7_3 : Mo Fl := sIf (mTest (mCall F_is_less (mCons (mOp ixD (mVar 8) (mVar 5)) (mCons (mOp ixD (mVar 8) (mOp addD (mVar 5) (mRet (.int 1)))) (mNil))))) (sSeq (sPar2 9 10 (xConsP (mOp ixD (mVar 8) (mVar 5)) (xConsP (mOp ixD (mVar 8) (mOp addD (mVar 5) (mRet (.int 1)))) (xNil))))
  (g_put_together_vfdb7_2)) (sNext)
def g_put_together_vfdb7_4 : Mo Fl := sSeq (sFor (mRange range1D (mCons (mOp subD (mBuilt lenD (mCons (mVar 8) (mNil))) (mRet (.int 1))) (mNil))) (gSet 5) (g_put_together_vfdb7_3))
  (sRet (mVar 4))
def g_put_together_vfdb7_5 : Mo Fl := sSeq (sFor (mSeqS (mUn (fldD "Bend" "marks") (mVar 1))) (gSet 3) (g_put_together_vfdb7_1))
  (sSeq (sOwn 4 (mSized (mNil)))
  (g_put_together_vfdb7_4))
def g_put_together_vfdb7_6 : Mo Fl := sSeq (sPar3 6 7 8 (xConsP (mCall F_pieces_of (mCons (mVar 0) (mNil))) (xConsP (mCall F_pieces_of (mCons (mVar 1) (mNil))) (xConsP (mList (mListOf (mUn (fldD "Bend" "marks") (mVar 0)))) (xNil)))))
  (g_put_together_vfdb7_5)
def g_put_together_vfdb7 : Mo Fl := sSeq (sDrop (mCall F_need_alike (mCons (mVar 0) (mCons (mVar 1) (mNil)))))
  (g_put_together_vfdb7_6)
def F_put_together_vfdb7 : Fn := guard 3 (runF 12 g_put_together_vfdb7)
def g_is_above_v23b1 : Mo Fl := sRet (mOp eqD (mCall F_signs_in (mCons (mCall F_put_together_vfdb7 (mCons (mVar 0) (mCons (mVar 1) (mCons (mRet (fnD "poly_less")) (mNil))))) (mNil))) (mTup (mCons (mRet (.int 1)) (mNil))))
def F_is_above_v23b1 : Fn := guard 2 (runF 2 g_is_above_v23b1)
def g_never_below_vd7c6 : Mo Fl := sRet (mOp notInTD (mUn negD (mRet (.int 1))) (mCall F_signs_in (mCons (mCall F_put_together_vfdb7 (mCons (mVar 0) (mCons (mVar 1) (mCons (mRet (fnD "poly_less")) (mNil))))) (mNil))))
def F_never_below_vd7c6 : Fn := guard 2 (runF 2 g_never_below_vd7c6)
def g_law_case_right_1 : Mo Fl := sRet (mOp eqD (mM1 joinD (mRet (.str "")) (mList (mBlk [8] (mSeqS (mVar 7)) (lcBody [8] (gSet 8) (mRet true) (mIf (mTest (mOp isBD (mVar 8) (mRet (.bool true)))) (mRet (.str "y")) (mRet (.str "n"))))))) (mVar 4))
def g_law_case_right_2 : Mo Fl := sSeq (sSet 7 (mList (mSized (mCons (mCall F_rises (mCons (mVar 0) (mNil))) (mCons (mCall F_rises_always (mCons (mVar 0) (mNil))) (mCons (mCall F_bends_up (mCons (mVar 0) (mNil))) (mCons (mCall F_is_above_v23b1 (mCons (mVar 0) (mCons (mVar 5) (mNil)))) (mCons (mCall F_never_below_vd7c6 (mCons (mVar 0) (mCons (mVar 5) (mNil)))) (mNil)))))))))
  (g_law_case_right_1)
def g_law_case_right_3 : Mo Fl := sSeq (sIf (mTest (mOp neD (mTup (mCons (mVar 6) (mCons (mCall F_crossings (mCons (mVar 0) (mNil))) (mCons (mCall F_touches (mCons (mVar 0) (mNil))) (mNil))))) (mTup (mCons (mVar 1) (mCons (mVar 2) (mCons (mVar 3) (mNil))))))) (sRet (mRet (.bool false))) (sNext))
  (g_law_case_right_2)
def g_law_case_right_4 : Mo Fl := sSeq (sSet 6 (mM1 joinD (mRet (.str "")) (mList (mBlk [8] (mSeqS (mCall F_sign_row (mCons (mVar 0) (mNil)))) (lcBody [8] (gSet 8) (mRet true) (mUn (dicD [((-1), "-"), (0, "0"), (1, "+")]) (mVar 8)))))))
  (g_law_case_right_3)
def g_law_case_right : Mo Fl := sSeq (sSet 5 (mMake "Bend" I_Bend (mCons (mRet (.int 0)) (mCons (mList (mSized (mCons (mOp ixD (mUn (fldD "Bend" "marks") (mVar 0)) (mRet (.int 0))) (mCons (mOp ixD (mUn (fldD "Bend" "marks") (mVar 0)) (mUn negD (mRet (.int 1)))) (mNil))))) (mCons (mList (mSized (mCons (mRet (.int 0)) (mNil)))) (mNil))))))
  (g_law_case_right_4)
def F_law_case_right : Fn := guard 5 (runF 9 g_law_case_right)
def g_law_cases_v9df0_1 : Mo Fl := sSeq (sChg 0 (mCons (mTup (mCons (mRet (.int 2)) (mCons (mList (mSized (mCons (mRet (.int 0)) (mCons (mRet (.int 1)) (mCons (mRet (.int 1)) (mCons (mRet (.int 2)) (mNil))))))) (mCons (mList (mSized (mCons (mRet (.int 1)) (mCons (mRet (.int 0)) (mCons (mRet (.int 0)) (mCons (mRet (.int 0)) (mCons (mRet (.int 1)) (mNil)))))))) (mCons (mRet (.str "+0+")) (mCons (mRet (.int 0)) (mCons (mRet (.int 1)) (mCons (mRet (.str "nnyny")) (mNil))))))))) (mNil)) appC)
  (sRet (mVar 0))
def g_law_cases_v9df0_2 : Mo Fl := sSeq (sChg 0 (mCons (mTup (mCons (mRet (.int 2)) (mCons (mList (mSized (mCons (mRet (.int 0)) (mCons (mRet (.int 1)) (mCons (mRet (.int 1)) (mCons (mRet (.int 2)) (mNil))))))) (mCons (mList (mSized (mCons (mUn negD (mRet (.int 1))) (mCons (mRet (.int 0)) (mCons (mRet (.int 0)) (mCons (mRet (.int 0)) (mCons (mRet (.int 1)) (mNil)))))))) (mCons (mRet (.str "-0+")) (mCons (mRet (.int 1)) (mCons (mRet (.int 0)) (mCons (mRet (.str "yynnn")) (mNil))))))))) (mNil)) appC)
  (g_law_cases_v9df0_1)
def g_law_cases_v9df0_3 : Mo Fl := sSeq (sChg 0 (mCons (mTup (mCons (mRet (.int 2)) (mCons (mList (mSized (mCons (mRet (.int 0)) (mCons (mRet (.int 2)) (mNil))))) (mCons (mList (mSized (mCons (mRet (.int 2)) (mCons (mUn negD (mRet (.int 1))) (mCons (mRet (.int 2)) (mNil)))))) (mCons (mRet (.str "+")) (mCons (mRet (.int 0)) (mCons (mRet (.int 0)) (mCons (mRet (.str "nnyyy")) (mNil))))))))) (mNil)) appC)
  (g_law_cases_v9df0_2)
def g_law_cases_v9df0_4 : Mo Fl := sSeq (sChg 0 (mCons (mTup (mCons (mRet (.int 1)) (mCons (mList (mSized (mCons (mRet (.int 0)) (mCons (mRet (.int 1)) (mNil))))) (mCons (mList (mSized (mCons (mUn negD (mRet (.int 1))) (mCons (mRet (.int 2)) (mNil))))) (mCons (mRet (.str "-0+")) (mCons (mRet (.int 1)) (mCons (mRet (.int 0)) (mCons (mRet (.str "yyynn")) (mNil))))))))) (mNil)) appC)
  (g_law_cases_v9df0_3)
def g_law_cases_v9df0_5 : Mo Fl := sSeq (sChg 0 (mCons (mTup (mCons (mRet (.int 0)) (mCons (mList (mSized (mCons (mRet (.int 0)) (mCons (mRet (.int 5)) (mNil))))) (mCons (mList (mSized (mCons (mRet (.int 2)) (mNil)))) (mCons (mRet (.str "+")) (mCons (mRet (.int 0)) (mCons (mRet (.int 0)) (mCons (mRet (.str "ynyyy")) (mNil))))))))) (mNil)) appC)
  (g_law_cases_v9df0_4)
def g_law_cases_v9df0_6 : Mo Fl := sSeq (sChg 0 (mCons (mTup (mCons (mRet (.int 0)) (mCons (mList (mSized (mCons (mRet (.int 0)) (mCons (mRet (.int 5)) (mNil))))) (mCons (mList (mSized (mCons (mRet (.int 0)) (mNil)))) (mCons (mRet (.str "0")) (mCons (mRet (.int 0)) (mCons (mRet (.int 0)) (mCons (mRet (.str "ynyny")) (mNil))))))))) (mNil)) appC)
  (g_law_cases_v9df0_5)
def g_law_cases_v9df0_7 : Mo Fl := sSeq (sChg 0 (mCons (mTup (mCons (mRet (.int 2)) (mCons (mList (mSized (mCons (mRet (.int 0)) (mCons (mRet (.int 1)) (mCons (mRet (.int 2)) (mNil)))))) (mCons (mList (mSized (mCons (mRet (.int 0)) (mCons (mRet (.int 0)) (mCons (mRet (.int 0)) (mCons (mRet (.int 1)) (mNil))))))) (mCons (mRet (.str "0+")) (mCons (mRet (.int 0)) (mCons (mRet (.int 0)) (mCons (mRet (.str "ynyny")) (mNil))))))))) (mNil)) appC)
  (g_law_cases_v9df0_6)
def g_law_cases_v9df0_8 : Mo Fl := sSeq (sChg 0 (mCons (mTup (mCons (mRet (.int 2)) (mCons (mList (mSized (mCons (mRet (.int 0)) (mCons (mRet (.int 1)) (mCons (mRet (.int 2)) (mNil)))))) (mCons (mList (mSized (mCons (mRet (.int 1)) (mCons (mRet (.int 0)) (mCons (mRet (.int 0)) (mCons (mRet (.int 1)) (mNil))))))) (mCons (mRet (.str "+0+")) (mCons (mRet (.int 0)) (mCons (mRet (.int 1)) (mCons (mRet (.str "nnyny")) (mNil))))))))) (mNil)) appC)
  (g_law_cases_v9df0_7)
def g_law_cases_v9df0_9 : Mo Fl := sSeq (sChg 0 (mCons (mTup (mCons (mRet (.int 1)) (mCons (mList (mSized (mCons (mRet (.int 0)) (mCons (mRet (.int 1)) (mCons (mRet (.int 2)) (mCons (mRet (.int 3)) (mNil))))))) (mCons (mList (mSized (mCons (mUn negD (mRet (.int 1))) (mCons (mRet (.int 0)) (mCons (mRet (.int 0)) (mCons (mRet (.int 1)) (mNil))))))) (mCons (mRet (.str "-0+")) (mCons (mRet (.int 1)) (mCons (mRet (.int 0)) (mCons (mRet (.str "ynnnn")) (mNil))))))))) (mNil)) appC)
  (g_law_cases_v9df0_8)
def g_law_cases_v9df0_10 : Mo Fl := sSeq (sChg 0 (mCons (mTup (mCons (mRet (.int 1)) (mCons (mList (mSized (mCons (mRet (.int 0)) (mCons (mRet (.int 1)) (mCons (mRet (.int 2)) (mCons (mRet (.int 3)) (mNil))))))) (mCons (mList (mSized (mCons (mRet (.int 1)) (mCons (mRet (.int 0)) (mCons (mRet (.int 0)) (mCons (mRet (.int 1)) (mNil))))))) (mCons (mRet (.str "+0+")) (mCons (mRet (.int 0)) (mCons (mRet (.int 1)) (mCons (mRet (.str "nnyny")) (mNil))))))))) (mNil)) appC)
  (g_law_cases_v9df0_9)
def g_law_cases_v9df0_11 : Mo Fl := sSeq (sChg 0 (mCons (mTup (mCons (mRet (.int 1)) (mCons (mList (mSized (mCons (mRet (.int 0)) (mCons (mRet (.int 1)) (mCons (mRet (.int 2)) (mCons (mRet (.int 3)) (mNil))))))) (mCons (mList (mSized (mCons (mRet (.int 1)) (mCons (mRet (.int 0)) (mCons (mRet (.int 0)) (mCons (mUn negD (mRet (.int 1))) (mNil))))))) (mCons (mRet (.str "+0-")) (mCons (mRet (.int 1)) (mCons (mRet (.int 0)) (mCons (mRet (.str "nnnnn")) (mNil))))))))) (mNil)) appC)
  (g_law_cases_v9df0_10)
def g_law_cases_v9df0_12 : Mo Fl := sSeq (sChg 0 (mCons (mTup (mCons (mRet (.int 3)) (mCons (mList (mSized (mCons (mUn negD (mRet (.int 1))) (mCons (mRet (.int 1)) (mNil))))) (mCons (mList (mSized (mCons (mUn negD (mRet (.int 1))) (mCons (mRet (.int 1)) (mCons (mUn negD (mRet (.int 1))) (mCons (mRet (.int 1)) (mNil))))))) (mCons (mRet (.str "-0+")) (mCons (mRet (.int 1)) (mCons (mRet (.int 0)) (mCons (mRet (.str "yynnn")) (mNil))))))))) (mNil)) appC)
  (g_law_cases_v9df0_11)
def g_law_cases_v9df0_13 : Mo Fl := sSeq (sChg 0 (mCons (mTup (mCons (mRet (.int 2)) (mCons (mList (mSized (mCons (mRet (.int 0)) (mCons (mRet (.int 2)) (mNil))))) (mCons (mList (mSized (mCons (mRet (.int 1)) (mCons (mUn negD (mRet (.int 3))) (mCons (mRet (.int 1)) (mNil)))))) (mCons (mRet (.str "+0-0+")) (mCons (mRet (.int 2)) (mCons (mRet (.int 0)) (mCons (mRet (.str "nnynn")) (mNil))))))))) (mNil)) appC)
  (g_law_cases_v9df0_12)
def g_law_cases_v9df0 : Mo Fl := sSeq (sOwn 0 (mSized (mCons (mTup (mCons (mRet (.int 1)) (mCons (mList (mSized (mCons (mRet (.int 0)) (mCons (mRet (.int 1)) (mCons (mRet (.int 2)) (mNil)))))) (mCons (mList (mSized (mCons (mRet (.int 0)) (mCons (mRet (.int 1)) (mCons (mRet (.int 0)) (mNil)))))) (mCons (mRet (.str "0+0")) (mCons (mRet (.int 0)) (mCons (mRet (.int 0)) (mCons (mRet (.str "nnnny")) (mNil))))))))) (mCons (mTup (mCons (mRet (.int 2)) (mCons (mList (mSized (mCons (mRet (.int 0)) (mCons (mRet (.int 2)) (mNil))))) (mCons (mList (mSized (mCons (mRet (.int 1)) (mCons (mUn negD (mRet (.int 1))) (mCons (mRet (.int 1)) (mNil)))))) (mCons (mRet (.str "+0+")) (mCons (mRet (.int 0)) (mCons (mRet (.int 1)) (mCons (mRet (.str "nnyny")) (mNil))))))))) (mNil)))))
  (g_law_cases_v9df0_13)
def F_law_cases_v9df0 : Fn := guard 0 (runF 1 g_law_cases_v9df0)
end HB
namespace HB
open PySem L2
structure Say (K : PySem.W.Frag) (mg : Str → Option Value) : Prop where
  m_abs : mg "abs" = none
  m_all : mg "all" = none
  m_any : mg "any" = none
  m_bool : mg "bool" = none
  m_enumerate : mg "enumerate" = none
  m_int : mg "int" = none
  m_isinstance : mg "isinstance" = none
  m_len : mg "len" = none
  m_list : mg "list" = none
  m_max : mg "max" = none
  m_range : mg "range" = none
  m_str : mg "str" = none
  m_tuple : mg "tuple" = none
  c_DOWN : GlD K mg "DOWN" C_DOWN
  c_NONE : GlD K mg "NONE" C_NONE
  c_NOUGHT : GlD K mg "NOUGHT" C_NOUGHT
  c_ONE : GlD K mg "ONE" C_ONE
  c_PAIR : GlD K mg "PAIR" C_PAIR
  cl_Bend : Cls K (He.ga K "Bend")
  mk_Bend : Mk K (He.ga K "Bend") (He.ma K (He.ga K "Bend") "__init__")
  gc_Bend : mg "Bend" = some (.ref (He.ga K "Bend"))
  cl_Piece : Cls K (He.ga K "Piece")
  mk_Piece : Mk K (He.ga K "Piece") (He.ma K (He.ga K "Piece") "__init__")
  gc_Piece : mg "Piece" = some (.ref (He.ga K "Piece"))
  cl_Place : Cls K (He.ga K "Place")
  mk_Place : Mk K (He.ga K "Place") (He.ma K (He.ga K "Place") "__init__")
  gc_Place : mg "Place" = some (.ref (He.ga K "Place"))
  gc_BendError : mg "BendError" = some (.ref (He.ga K "BendError"))
  gc_InvalidBend : mg "InvalidBend" = some (.ref (He.ga K "InvalidBend"))
  gc_Unlike : mg "Unlike" = some (.ref (He.ga K "Unlike"))
  xf_InvalidBend : ExcF K "InvalidBend" "word"
  xf0_Unlike : ExcF0 K "Unlike"
  bot_BendError : BotF K "BendError"
  isx_Bend : IsxF K "Bend"
  ist_Bend : istB K "Bend" = true
  me_Place_is_known : Meth K (He.ga K "Place") "is_known" (He.ma K (He.ga K "Place") "is_known")
  na_Bend_degree : NoAttr K (He.ga K "Bend") "degree"
  na_Bend_handles : NoAttr K (He.ga K "Bend") "handles"
  na_Bend_marks : NoAttr K (He.ga K "Bend") "marks"
  na_Bend_text : NoAttr K (He.ga K "Bend") "text"
  na_Piece_end : NoAttr K (He.ga K "Piece") "end"
  na_Piece_poly : NoAttr K (He.ga K "Piece") "poly"
  na_Piece_start : NoAttr K (He.ga K "Piece") "start"
  na_Place_factor : NoAttr K (He.ga K "Place") "factor"
  na_Place_first : NoAttr K (He.ga K "Place") "first"
  na_Place_is_stretch : NoAttr K (He.ga K "Place") "is_stretch"
  na_Place_last : NoAttr K (He.ga K "Place") "last"
  na_Place_poly : NoAttr K (He.ga K "Place") "poly"
  d_InvalidBend_init : ∃ fd, FunD K "__init__" "InvalidBend.__init__" (defArgs s_InvalidBend_init) (defBody s_InvalidBend_init) (defScope s_InvalidBend_init) [] [] (He.ma K (He.ga K "InvalidBend") "__init__") fd
  d_is_less : ∃ fd, FunD K "is_less" "is_less" (defArgs s_is_less) (defBody s_is_less) (defScope s_is_less) [] [] (He.ga K "is_less") fd
  g_is_less : mg "is_less" = some (.ref (He.ga K "is_less"))
  d_is_sequence : ∃ fd, FunD K "is_sequence" "is_sequence" (defArgs s_is_sequence) (defBody s_is_sequence) (defScope s_is_sequence) [] [] (He.ga K "is_sequence") fd
  g_is_sequence : mg "is_sequence" = some (.ref (He.ga K "is_sequence"))
  d_common_part : ∃ fd, FunD K "common_part" "common_part" (defArgs s_common_part) (defBody s_common_part) (defScope s_common_part) [] [] (He.ga K "common_part") fd
  g_common_part : mg "common_part" = some (.ref (He.ga K "common_part"))
  d_is_integer : ∃ fd, FunD K "is_integer" "is_integer" (defArgs s_is_integer) (defBody s_is_integer) (defScope s_is_integer) [] [] (He.ga K "is_integer") fd
  g_is_integer : mg "is_integer" = some (.ref (He.ga K "is_integer"))
  d_is_value : ∃ fd, FunD K "is_value" "is_value" (defArgs s_is_value) (defBody s_is_value) (defScope s_is_value) [] [] (He.ga K "is_value") fd
  g_is_value : mg "is_value" = some (.ref (He.ga K "is_value"))
  d_value_of : ∃ fd, FunD K "value_of" "value_of" (defArgs s_value_of) (defBody s_value_of) (defScope s_value_of) [] [] (He.ga K "value_of") fd
  g_value_of : mg "value_of" = some (.ref (He.ga K "value_of"))
  d_are_marks : ∃ fd, FunD K "are_marks" "are_marks" (defArgs s_are_marks) (defBody s_are_marks) (defScope s_are_marks) [] [] (He.ga K "are_marks") fd
  g_are_marks : mg "are_marks" = some (.ref (He.ga K "are_marks"))
  d_text_of : ∃ fd, FunD K "text_of" "text_of" (defArgs s_text_of) (defBody s_text_of) (defScope s_text_of) [] [] (He.ga K "text_of") fd
  g_text_of : mg "text_of" = some (.ref (He.ga K "text_of"))
  d_text_of_bend : ∃ fd, FunD K "text_of_bend" "text_of_bend" (defArgs s_text_of_bend) (defBody s_text_of_bend) (defScope s_text_of_bend) [] [] (He.ga K "text_of_bend") fd
  g_text_of_bend : mg "text_of_bend" = some (.ref (He.ga K "text_of_bend"))
  d_Bend_init : ∃ fd, FunD K "__init__" "Bend.__init__" (defArgs s_Bend_init) (defBody s_Bend_init) (defScope s_Bend_init) [] [] (He.ma K (He.ga K "Bend") "__init__") fd
  d_in_lowest : ∃ fd, FunD K "in_lowest" "in_lowest" (defArgs s_in_lowest) (defBody s_in_lowest) (defScope s_in_lowest) [] [] (He.ga K "in_lowest") fd
  g_in_lowest : mg "in_lowest" = some (.ref (He.ga K "in_lowest"))
  d_added : ∃ fd, FunD K "added" "added" (defArgs s_added) (defBody s_added) (defScope s_added) [] [] (He.ga K "added") fd
  g_added : mg "added" = some (.ref (He.ga K "added"))
  d_multiplied : ∃ fd, FunD K "multiplied" "multiplied" (defArgs s_multiplied) (defBody s_multiplied) (defScope s_multiplied) [] [] (He.ga K "multiplied") fd
  g_multiplied : mg "multiplied" = some (.ref (He.ga K "multiplied"))
  d_poly_at : ∃ fd, FunD K "poly_at" "poly_at" (defArgs s_poly_at) (defBody s_poly_at) (defScope s_poly_at) [] [] (He.ga K "poly_at") fd
  g_poly_at : mg "poly_at" = some (.ref (He.ga K "poly_at"))
  d_is_at_most : ∃ fd, FunD K "is_at_most" "is_at_most" (defArgs s_is_at_most) (defBody s_is_at_most) (defScope s_is_at_most) [] [] (He.ga K "is_at_most") fd
  g_is_at_most : mg "is_at_most" = some (.ref (He.ga K "is_at_most"))
  d_poly_in : ∃ fd, FunD K "poly_in" "poly_in" (defArgs s_poly_in) (defBody s_poly_in) (defScope s_poly_in) [] [] (He.ga K "poly_in") fd
  g_poly_in : mg "poly_in" = some (.ref (He.ga K "poly_in"))
  d_curve_at : ∃ fd, FunD K "curve_at" "curve_at" (defArgs s_curve_at) (defBody s_curve_at) (defScope s_curve_at) [] [] (He.ga K "curve_at") fd
  g_curve_at : mg "curve_at" = some (.ref (He.ga K "curve_at"))
  d_Place_is_known : ∃ fd, FunD K "is_known" "Place.is_known" (defArgs s_Place_is_known) (defBody s_Place_is_known) (defScope s_Place_is_known) [] [] (He.ma K (He.ga K "Place") "is_known") fd
  d_quotient : ∃ fd, FunD K "quotient" "quotient" (defArgs s_quotient) (defBody s_quotient) (defScope s_quotient) [] [] (He.ga K "quotient") fd
  g_quotient : mg "quotient" = some (.ref (He.ga K "quotient"))
  d_middle_of : ∃ fd, FunD K "middle_of" "middle_of" (defArgs s_middle_of) (defBody s_middle_of) (defScope s_middle_of) [] [] (He.ga K "middle_of") fd
  g_middle_of : mg "middle_of" = some (.ref (He.ga K "middle_of"))
  d_gaps_in : ∃ fd, FunD K "gaps_in" "gaps_in" (defArgs s_gaps_in) (defBody s_gaps_in) (defScope s_gaps_in) [] [] (He.ga K "gaps_in") fd
  g_gaps_in : mg "gaps_in" = some (.ref (He.ga K "gaps_in"))
  d_Place_init : ∃ fd, FunD K "__init__" "Place.__init__" (defArgs s_Place_init) (defBody s_Place_init) (defScope s_Place_init) [] [] (He.ma K (He.ga K "Place") "__init__") fd
  d_changes_of : ∃ fd, FunD K "changes_of" "changes_of" (defArgs s_changes_of) (defBody s_changes_of) (defScope s_changes_of) [] [] (He.ga K "changes_of") fd
  g_changes_of : mg "changes_of" = some (.ref (He.ga K "changes_of"))
  d_sign_of : ∃ fd, FunD K "sign_of" "sign_of" (defArgs s_sign_of) (defBody s_sign_of) (defScope s_sign_of) [] [] (He.ga K "sign_of") fd
  g_sign_of : mg "sign_of" = some (.ref (He.ga K "sign_of"))
  d_changes_at : ∃ fd, FunD K "changes_at" "changes_at" (defArgs s_changes_at) (defBody s_changes_at) (defScope s_changes_at) [] [] (He.ga K "changes_at") fd
  g_changes_at : mg "changes_at" = some (.ref (He.ga K "changes_at"))
  d_less_by : ∃ fd, FunD K "less_by" "less_by" (defArgs s_less_by) (defBody s_less_by) (defScope s_less_by) [] [] (He.ga K "less_by") fd
  g_less_by : mg "less_by" = some (.ref (He.ga K "less_by"))
  d_power_at : ∃ fd, FunD K "power_at" "power_at" (defArgs s_power_at) (defBody s_power_at) (defScope s_power_at) [] [] (He.ga K "power_at") fd
  g_power_at : mg "power_at" = some (.ref (He.ga K "power_at"))
  d_trimmed : ∃ fd, FunD K "trimmed" "trimmed" (defArgs s_trimmed) (defBody s_trimmed) (defScope s_trimmed) [] [] (He.ga K "trimmed") fd
  g_trimmed : mg "trimmed" = some (.ref (He.ga K "trimmed"))
  d_poly_less : ∃ fd, FunD K "poly_less" "poly_less" (defArgs s_poly_less) (defBody s_poly_less) (defScope s_poly_less) [] [] (He.ga K "poly_less") fd
  g_poly_less : mg "poly_less" = some (.ref (He.ga K "poly_less"))
  d_poly_scaled : ∃ fd, FunD K "poly_scaled" "poly_scaled" (defArgs s_poly_scaled) (defBody s_poly_scaled) (defScope s_poly_scaled) [] [] (He.ga K "poly_scaled") fd
  g_poly_scaled : mg "poly_scaled" = some (.ref (He.ga K "poly_scaled"))
  d_divided : ∃ fd, FunD K "divided" "divided" (defArgs s_divided) (defBody s_divided) (defScope s_divided) [] [] (He.ga K "divided") fd
  g_divided : mg "divided" = some (.ref (He.ga K "divided"))
  d_common_factor : ∃ fd, FunD K "common_factor" "common_factor" (defArgs s_common_factor) (defBody s_common_factor) (defScope s_common_factor) [] [] (He.ga K "common_factor") fd
  g_common_factor : mg "common_factor" = some (.ref (He.ga K "common_factor"))
  d_poly_slope : ∃ fd, FunD K "poly_slope" "poly_slope" (defArgs s_poly_slope) (defBody s_poly_slope) (defScope s_poly_slope) [] [] (He.ga K "poly_slope") fd
  g_poly_slope : mg "poly_slope" = some (.ref (He.ga K "poly_slope"))
  d_plain_part : ∃ fd, FunD K "plain_part" "plain_part" (defArgs s_plain_part) (defBody s_plain_part) (defScope s_plain_part) [] [] (He.ga K "plain_part") fd
  g_plain_part : mg "plain_part" = some (.ref (He.ga K "plain_part"))
  d_sorted_places : ∃ fd, FunD K "sorted_places" "sorted_places" (defArgs s_sorted_places) (defBody s_sorted_places) (defScope s_sorted_places) [] [] (He.ga K "sorted_places") fd
  g_sorted_places : mg "sorted_places" = some (.ref (He.ga K "sorted_places"))
  d_sturm_row : ∃ fd, FunD K "sturm_row" "sturm_row" (defArgs s_sturm_row) (defBody s_sturm_row) (defScope s_sturm_row) [] [] (He.ga K "sturm_row") fd
  g_sturm_row : mg "sturm_row" = some (.ref (He.ga K "sturm_row"))
  d_without_zero : ∃ fd, FunD K "without_zero" "without_zero" (defArgs s_without_zero) (defBody s_without_zero) (defScope s_without_zero) [] [] (He.ga K "without_zero") fd
  g_without_zero : mg "without_zero" = some (.ref (He.ga K "without_zero"))
  d_times_between : ∃ fd, FunD K "times_between" "times_between" (defArgs s_times_between) (defBody s_times_between) (defScope s_times_between) [] [] (He.ga K "times_between") fd
  g_times_between : mg "times_between" = some (.ref (He.ga K "times_between"))
  d_with_stretch : ∃ fd, FunD K "with_stretch" "with_stretch" (defArgs s_with_stretch) (defBody s_with_stretch) (defScope s_with_stretch) [] [] (He.ga K "with_stretch") fd
  g_with_stretch : mg "with_stretch" = some (.ref (He.ga K "with_stretch"))
  d_places_in : ∃ fd, FunD K "places_in" "places_in" (defArgs s_places_in) (defBody s_places_in) (defScope s_places_in) [] [] (He.ga K "places_in") fd
  g_places_in : mg "places_in" = some (.ref (He.ga K "places_in"))
  d_signs_in : ∃ fd, FunD K "signs_in" "signs_in" (defArgs s_signs_in) (defBody s_signs_in) (defScope s_signs_in) [] [] (He.ga K "signs_in") fd
  g_signs_in : mg "signs_in" = some (.ref (He.ga K "signs_in"))
  d_is_kept_up : ∃ fd, FunD K "is_kept_up" "is_kept_up" (defArgs s_is_kept_up) (defBody s_is_kept_up) (defScope s_is_kept_up) [] [] (He.ga K "is_kept_up") fd
  g_is_kept_up : mg "is_kept_up" = some (.ref (He.ga K "is_kept_up"))
  d_knots_of : ∃ fd, FunD K "knots_of" "knots_of" (defArgs s_knots_of) (defBody s_knots_of) (defScope s_knots_of) [] [] (He.ga K "knots_of") fd
  g_knots_of : mg "knots_of" = some (.ref (He.ga K "knots_of"))
  d_Piece_init : ∃ fd, FunD K "__init__" "Piece.__init__" (defArgs s_Piece_init) (defBody s_Piece_init) (defScope s_Piece_init) [] [] (He.ma K (He.ga K "Piece") "__init__") fd
  d_poly_sum : ∃ fd, FunD K "poly_sum" "poly_sum" (defArgs s_poly_sum) (defBody s_poly_sum) (defScope s_poly_sum) [] [] (He.ga K "poly_sum") fd
  g_poly_sum : mg "poly_sum" = some (.ref (He.ga K "poly_sum"))
  d_poly_times : ∃ fd, FunD K "poly_times" "poly_times" (defArgs s_poly_times) (defBody s_poly_times) (defScope s_poly_times) [] [] (He.ga K "poly_times") fd
  g_poly_times : mg "poly_times" = some (.ref (He.ga K "poly_times"))
  d_share_poly : ∃ fd, FunD K "share_poly" "share_poly" (defArgs s_share_poly) (defBody s_share_poly) (defScope s_share_poly) [] [] (He.ga K "share_poly") fd
  g_share_poly : mg "share_poly" = some (.ref (He.ga K "share_poly"))
  d_piece_at : ∃ fd, FunD K "piece_at" "piece_at" (defArgs s_piece_at) (defBody s_piece_at) (defScope s_piece_at) [] [] (He.ga K "piece_at") fd
  g_piece_at : mg "piece_at" = some (.ref (He.ga K "piece_at"))
  d_pieces_of : ∃ fd, FunD K "pieces_of" "pieces_of" (defArgs s_pieces_of) (defBody s_pieces_of) (defScope s_pieces_of) [] [] (He.ga K "pieces_of") fd
  g_pieces_of : mg "pieces_of" = some (.ref (He.ga K "pieces_of"))
  d_slopes_of : ∃ fd, FunD K "slopes_of" "slopes_of" (defArgs s_slopes_of) (defBody s_slopes_of) (defScope s_slopes_of) [] [] (He.ga K "slopes_of") fd
  g_slopes_of : mg "slopes_of" = some (.ref (He.ga K "slopes_of"))
  d_bends_up : ∃ fd, FunD K "bends_up" "bends_up" (defArgs s_bends_up) (defBody s_bends_up) (defScope s_bends_up) [] [] (He.ga K "bends_up") fd
  g_bends_up : mg "bends_up" = some (.ref (He.ga K "bends_up"))
  d_sign_row : ∃ fd, FunD K "sign_row" "sign_row" (defArgs s_sign_row) (defBody s_sign_row) (defScope s_sign_row) [] [] (He.ga K "sign_row") fd
  g_sign_row : mg "sign_row" = some (.ref (He.ga K "sign_row"))
  d_inner_places : ∃ fd, FunD K "inner_places" "inner_places" (defArgs s_inner_places) (defBody s_inner_places) (defScope s_inner_places) [] [] (He.ga K "inner_places") fd
  g_inner_places : mg "inner_places" = some (.ref (He.ga K "inner_places"))
  d_crossings : ∃ fd, FunD K "crossings" "crossings" (defArgs s_crossings) (defBody s_crossings) (defScope s_crossings) [] [] (He.ga K "crossings") fd
  g_crossings : mg "crossings" = some (.ref (He.ga K "crossings"))
  d_Unlike_init : ∃ fd, FunD K "__init__" "Unlike.__init__" (defArgs s_Unlike_init) (defBody s_Unlike_init) (defScope s_Unlike_init) [] [] (He.ma K (He.ga K "Unlike") "__init__") fd
  d_need_alike : ∃ fd, FunD K "need_alike" "need_alike" (defArgs s_need_alike) (defBody s_need_alike) (defScope s_need_alike) [] [] (He.ga K "need_alike") fd
  g_need_alike : mg "need_alike" = some (.ref (He.ga K "need_alike"))
  d_put_together_vfdb7 : ∃ fd, FunD K "put_together" "put_together" (defArgs s_put_together_vfdb7) (defBody s_put_together_vfdb7) (defScope s_put_together_vfdb7) [] [] (He.ga K "put_together") fd
  g_put_together_vfdb7 : mg "put_together" = some (.ref (He.ga K "put_together"))
  d_is_above_v23b1 : ∃ fd, FunD K "is_above" "is_above" (defArgs s_is_above_v23b1) (defBody s_is_above_v23b1) (defScope s_is_above_v23b1) [] [] (He.ga K "is_above") fd
  g_is_above_v23b1 : mg "is_above" = some (.ref (He.ga K "is_above"))
  d_never_below_vd7c6 : ∃ fd, FunD K "never_below" "never_below" (defArgs s_never_below_vd7c6) (defBody s_never_below_vd7c6) (defScope s_never_below_vd7c6) [] [] (He.ga K "never_below") fd
  g_never_below_vd7c6 : mg "never_below" = some (.ref (He.ga K "never_below"))
  d_rises : ∃ fd, FunD K "rises" "rises" (defArgs s_rises) (defBody s_rises) (defScope s_rises) [] [] (He.ga K "rises") fd
  g_rises : mg "rises" = some (.ref (He.ga K "rises"))
  d_rises_always : ∃ fd, FunD K "rises_always" "rises_always" (defArgs s_rises_always) (defBody s_rises_always) (defScope s_rises_always) [] [] (He.ga K "rises_always") fd
  g_rises_always : mg "rises_always" = some (.ref (He.ga K "rises_always"))
  d_touches : ∃ fd, FunD K "touches" "touches" (defArgs s_touches) (defBody s_touches) (defScope s_touches) [] [] (He.ga K "touches") fd
  g_touches : mg "touches" = some (.ref (He.ga K "touches"))
  d_law_case_right : ∃ fd, FunD K "_law_case_right" "_law_case_right" (defArgs s_law_case_right) (defBody s_law_case_right) (defScope s_law_case_right) [] [] (He.ga K "_law_case_right") fd
  g_law_case_right : mg "_law_case_right" = some (.ref (He.ga K "_law_case_right"))
  d_law_cases_v9df0 : ∃ fd, FunD K "_law_cases" "_law_cases" (defArgs s_law_cases_v9df0) (defBody s_law_cases_v9df0) (defScope s_law_cases_v9df0) [] [] (He.ga K "_law_cases") fd
  g_law_cases_v9df0 : mg "_law_cases" = some (.ref (He.ga K "_law_cases"))
  d_law_deal : ∃ fd, FunD K "_law_deal" "_law_deal" (defArgs s_law_deal) (defBody s_law_deal) (defScope s_law_deal) [] [] (He.ga K "_law_deal") fd
  g_law_deal : mg "_law_deal" = some (.ref (He.ga K "_law_deal"))
  d_law_draw : ∃ fd, FunD K "_law_draw" "_law_draw" (defArgs s_law_draw) (defBody s_law_draw) (defScope s_law_draw) [] [] (He.ga K "_law_draw") fd
  g_law_draw : mg "_law_draw" = some (.ref (He.ga K "_law_draw"))
  d_law_mixed_v3e4d : ∃ fd, FunD K "_law_mixed" "_law_mixed" (defArgs s_law_mixed_v3e4d) (defBody s_law_mixed_v3e4d) (defScope s_law_mixed_v3e4d) [] [] (He.ga K "_law_mixed") fd
  g_law_mixed_v3e4d : mg "_law_mixed" = some (.ref (He.ga K "_law_mixed"))
  d_places : ∃ fd, FunD K "places" "places" (defArgs s_places) (defBody s_places) (defScope s_places) [] [] (He.ga K "places") fd
  g_places : mg "places" = some (.ref (He.ga K "places"))
  d_is_pair : ∃ fd, FunD K "is_pair" "is_pair" (defArgs s_is_pair) (defBody s_is_pair) (defScope s_is_pair) [] [] (He.ga K "is_pair") fd
  g_is_pair : mg "is_pair" = some (.ref (He.ga K "is_pair"))
  d_side_of : ∃ fd, FunD K "side_of" "side_of" (defArgs s_side_of) (defBody s_side_of) (defScope s_side_of) [] [] (He.ga K "side_of") fd
  g_side_of : mg "side_of" = some (.ref (He.ga K "side_of"))
  d_is_in : ∃ fd, FunD K "is_in" "is_in" (defArgs s_is_in) (defBody s_is_in) (defScope s_is_in) [] [] (He.ga K "is_in") fd
  g_is_in : mg "is_in" = some (.ref (He.ga K "is_in"))
  d_is_told_by : ∃ fd, FunD K "is_told_by" "is_told_by" (defArgs s_is_told_by) (defBody s_is_told_by) (defScope s_is_told_by) [] [] (He.ga K "is_told_by") fd
  g_is_told_by : mg "is_told_by" = some (.ref (He.ga K "is_told_by"))
  d_places_hold : ∃ fd, FunD K "places_hold" "places_hold" (defArgs s_places_hold) (defBody s_places_hold) (defScope s_places_hold) [] [] (He.ga K "places_hold") fd
  g_places_hold : mg "places_hold" = some (.ref (He.ga K "places_hold"))
  d_order_at : ∃ fd, FunD K "order_at" "order_at" (defArgs s_order_at) (defBody s_order_at) (defScope s_order_at) [] [] (He.ga K "order_at") fd
  g_order_at : mg "order_at" = some (.ref (He.ga K "order_at"))
  d_alike_slopes : ∃ fd, FunD K "alike_slopes" "alike_slopes" (defArgs s_alike_slopes) (defBody s_alike_slopes) (defScope s_alike_slopes) [] [] (He.ga K "alike_slopes") fd
  g_alike_slopes : mg "alike_slopes" = some (.ref (He.ga K "alike_slopes"))
  d_merged : ∃ fd, FunD K "merged" "merged" (defArgs s_merged) (defBody s_merged) (defScope s_merged) [] [] (He.ga K "merged") fd
  g_merged : mg "merged" = some (.ref (He.ga K "merged"))
  d_choices : ∃ fd, FunD K "choices" "choices" (defArgs s_choices) (defBody s_choices) (defScope s_choices) [] [] (He.ga K "choices") fd
  g_choices : mg "choices" = some (.ref (He.ga K "choices"))
  d_shared : ∃ fd, FunD K "shared" "shared" (defArgs s_shared) (defBody s_shared) (defScope s_shared) [] [] (He.ga K "shared") fd
  g_shared : mg "shared" = some (.ref (He.ga K "shared"))
  d_bend_with : ∃ fd, FunD K "bend_with" "bend_with" (defArgs s_bend_with) (defBody s_bend_with) (defScope s_bend_with) [] [] (He.ga K "bend_with") fd
  g_bend_with : mg "bend_with" = some (.ref (He.ga K "bend_with"))
  d_least_of : ∃ fd, FunD K "least_of" "least_of" (defArgs s_least_of) (defBody s_least_of) (defScope s_least_of) [] [] (He.ga K "least_of") fd
  g_least_of : mg "least_of" = some (.ref (He.ga K "least_of"))
  d_scaled : ∃ fd, FunD K "scaled" "scaled" (defArgs s_scaled) (defBody s_scaled) (defScope s_scaled) [] [] (He.ga K "scaled") fd
  g_scaled : mg "scaled" = some (.ref (He.ga K "scaled"))
  d_law : ∃ fd, FunD K "law" "law" (defArgs s_law) (defBody s_law) (defScope s_law) [] [] (He.ga K "law") fd
  g_law : mg "law" = some (.ref (He.ga K "law"))
end HB
namespace HB
open PySem L2
theorem tabOk_no {K : PySem.W.Frag} {H : Hp} (all : ∀ x ∈ makers, noFd K x = true) : TabOk K H := by
  refine ⟨fun x hx T at_ => ?_⟩
  obtain ⟨fd, c, ⟨oc, od, osl, lk⟩, hc, hcd, _⟩ := at_
  have h := all x hx
  unfold noFd at h
  rw [lk] at h
  cases h
theorem ob_eq (s : PySem.W.SharedT) : ob s = hk.obs s.abs := obsF_eq (HandSHeadRun.getT_eq s)
theorem say {K : PySem.W.Frag} {h : Heap} {mg : Str → Option Value} (X : K.In h) (G : h.Ns mainGlobals mg) (c : He.SaysD fa fn K) (t : (tp.all fun p => tupN K p.1 p.2) = true) (q : (xs.all fun p => p K) = true) : Say K mg where
  m_abs := He.free_ok X G (c.fact 0 (f := .free "abs") rfl)
  m_all := He.free_ok X G (c.fact 1 (f := .free "all") rfl)
  m_any := He.free_ok X G (c.fact 2 (f := .free "any") rfl)
  m_bool := He.free_ok X G (c.fact 3 (f := .free "bool") rfl)
  m_enumerate := He.free_ok X G (c.fact 4 (f := .free "enumerate") rfl)
  m_int := He.free_ok X G (c.fact 5 (f := .free "int") rfl)
  m_isinstance := He.free_ok X G (c.fact 6 (f := .free "isinstance") rfl)
  m_len := He.free_ok X G (c.fact 7 (f := .free "len") rfl)
  m_list := He.free_ok X G (c.fact 8 (f := .free "list") rfl)
  m_max := He.free_ok X G (c.fact 9 (f := .free "max") rfl)
  m_range := He.free_ok X G (c.fact 10 (f := .free "range") rfl)
  m_str := He.free_ok X G (c.fact 11 (f := .free "str") rfl)
  m_tuple := He.free_ok X G (c.fact 12 (f := .free "tuple") rfl)
  c_DOWN := gl_tup X G (c.fact 13 (f := .glo "DOWN") rfl) (tp_ok t 0 rfl) rfl rfl
  c_NONE := gl_tup X G (c.fact 14 (f := .glo "NONE") rfl) (tp_ok t 1 rfl) rfl rfl
  c_NOUGHT := gl_tup X G (c.fact 15 (f := .glo "NOUGHT") rfl) (tp_ok t 2 rfl) rfl rfl
  c_ONE := gl_tup X G (c.fact 16 (f := .glo "ONE") rfl) (tp_ok t 3 rfl) rfl rfl
  c_PAIR := gl_int X G (c.fact 17 (f := .int "PAIR" 2) rfl)
  cl_Bend := He.cls_ok (c.fact 18 (f := .cls "Bend") rfl)
  mk_Bend := He.mkr_ok (c.fact 19 (f := .mkr "Bend") rfl)
  gc_Bend := He.glo_ok X G (c.fact 20 (f := .glo "Bend") rfl)
  cl_Piece := He.cls_ok (c.fact 21 (f := .cls "Piece") rfl)
  mk_Piece := He.mkr_ok (c.fact 22 (f := .mkr "Piece") rfl)
  gc_Piece := He.glo_ok X G (c.fact 23 (f := .glo "Piece") rfl)
  cl_Place := He.cls_ok (c.fact 24 (f := .cls "Place") rfl)
  mk_Place := He.mkr_ok (c.fact 25 (f := .mkr "Place") rfl)
  gc_Place := He.glo_ok X G (c.fact 26 (f := .glo "Place") rfl)
  me_Place_is_known := He.meth_ok (c.fact 27 (f := .meth "Place" "is_known") rfl)
  gc_BendError := He.glo_ok X G (c.fact 28 (f := .glo "BendError") rfl)
  gc_InvalidBend := He.glo_ok X G (c.fact 29 (f := .glo "InvalidBend") rfl)
  gc_Unlike := He.glo_ok X G (c.fact 30 (f := .glo "Unlike") rfl)
  xf_InvalidBend := excB_ok (xs_ok q 0 rfl)
  xf0_Unlike := excB0_ok (xs_ok q 1 rfl)
  bot_BendError := botB_ok (xs_ok q 2 rfl)
  isx_Bend := isxB_ok (xs_ok q 3 rfl)
  ist_Bend := xs_ok q 4 rfl
  na_Bend_degree := He.noat_ok (c.fact 31 (f := .noat "Bend" "degree") rfl)
  na_Bend_handles := He.noat_ok (c.fact 32 (f := .noat "Bend" "handles") rfl)
  na_Bend_marks := He.noat_ok (c.fact 33 (f := .noat "Bend" "marks") rfl)
  na_Bend_text := He.noat_ok (c.fact 34 (f := .noat "Bend" "text") rfl)
  na_Piece_end := He.noat_ok (c.fact 35 (f := .noat "Piece" "end") rfl)
  na_Piece_poly := He.noat_ok (c.fact 36 (f := .noat "Piece" "poly") rfl)
  na_Piece_start := He.noat_ok (c.fact 37 (f := .noat "Piece" "start") rfl)
  na_Place_factor := He.noat_ok (c.fact 38 (f := .noat "Place" "factor") rfl)
  na_Place_first := He.noat_ok (c.fact 39 (f := .noat "Place" "first") rfl)
  na_Place_is_stretch := He.noat_ok (c.fact 40 (f := .noat "Place" "is_stretch") rfl)
  na_Place_last := He.noat_ok (c.fact 41 (f := .noat "Place" "last") rfl)
  na_Place_poly := He.noat_ok (c.fact 42 (f := .noat "Place" "poly") rfl)
  d_InvalidBend_init := c.def_ 0 rfl
  d_is_less := c.def_ 1 rfl
  g_is_less := He.glo_ok X G (c.fact 43 (f := .glo "is_less") rfl)
  d_is_sequence := c.def_ 2 rfl
  g_is_sequence := He.glo_ok X G (c.fact 44 (f := .glo "is_sequence") rfl)
  d_common_part := c.def_ 3 rfl
  g_common_part := He.glo_ok X G (c.fact 45 (f := .glo "common_part") rfl)
  d_is_integer := c.def_ 4 rfl
  g_is_integer := He.glo_ok X G (c.fact 46 (f := .glo "is_integer") rfl)
  d_is_value := c.def_ 5 rfl
  g_is_value := He.glo_ok X G (c.fact 47 (f := .glo "is_value") rfl)
  d_value_of := c.def_ 6 rfl
  g_value_of := He.glo_ok X G (c.fact 48 (f := .glo "value_of") rfl)
  d_are_marks := c.def_ 7 rfl
  g_are_marks := He.glo_ok X G (c.fact 49 (f := .glo "are_marks") rfl)
  d_text_of := c.def_ 8 rfl
  g_text_of := He.glo_ok X G (c.fact 50 (f := .glo "text_of") rfl)
  d_text_of_bend := c.def_ 9 rfl
  g_text_of_bend := He.glo_ok X G (c.fact 51 (f := .glo "text_of_bend") rfl)
  d_Bend_init := c.def_ 10 rfl
  d_in_lowest := c.def_ 11 rfl
  g_in_lowest := He.glo_ok X G (c.fact 52 (f := .glo "in_lowest") rfl)
  d_added := c.def_ 12 rfl
  g_added := He.glo_ok X G (c.fact 53 (f := .glo "added") rfl)
  d_multiplied := c.def_ 13 rfl
  g_multiplied := He.glo_ok X G (c.fact 54 (f := .glo "multiplied") rfl)
  d_poly_at := c.def_ 14 rfl
  g_poly_at := He.glo_ok X G (c.fact 55 (f := .glo "poly_at") rfl)
  d_is_at_most := c.def_ 15 rfl
  g_is_at_most := He.glo_ok X G (c.fact 56 (f := .glo "is_at_most") rfl)
  d_poly_in := c.def_ 16 rfl
  g_poly_in := He.glo_ok X G (c.fact 57 (f := .glo "poly_in") rfl)
  d_curve_at := c.def_ 17 rfl
  g_curve_at := He.glo_ok X G (c.fact 58 (f := .glo "curve_at") rfl)
  d_Place_is_known := c.def_ 18 rfl
  d_quotient := c.def_ 19 rfl
  g_quotient := He.glo_ok X G (c.fact 59 (f := .glo "quotient") rfl)
  d_middle_of := c.def_ 20 rfl
  g_middle_of := He.glo_ok X G (c.fact 60 (f := .glo "middle_of") rfl)
  d_gaps_in := c.def_ 21 rfl
  g_gaps_in := He.glo_ok X G (c.fact 61 (f := .glo "gaps_in") rfl)
  d_Place_init := c.def_ 22 rfl
  d_changes_of := c.def_ 23 rfl
  g_changes_of := He.glo_ok X G (c.fact 62 (f := .glo "changes_of") rfl)
  d_sign_of := c.def_ 24 rfl
  g_sign_of := He.glo_ok X G (c.fact 63 (f := .glo "sign_of") rfl)
  d_changes_at := c.def_ 25 rfl
  g_changes_at := He.glo_ok X G (c.fact 64 (f := .glo "changes_at") rfl)
  d_less_by := c.def_ 26 rfl
  g_less_by := He.glo_ok X G (c.fact 65 (f := .glo "less_by") rfl)
  d_power_at := c.def_ 27 rfl
  g_power_at := He.glo_ok X G (c.fact 66 (f := .glo "power_at") rfl)
  d_trimmed := c.def_ 28 rfl
  g_trimmed := He.glo_ok X G (c.fact 67 (f := .glo "trimmed") rfl)
  d_poly_less := c.def_ 29 rfl
  g_poly_less := He.glo_ok X G (c.fact 68 (f := .glo "poly_less") rfl)
  d_poly_scaled := c.def_ 30 rfl
  g_poly_scaled := He.glo_ok X G (c.fact 69 (f := .glo "poly_scaled") rfl)
  d_divided := c.def_ 31 rfl
  g_divided := He.glo_ok X G (c.fact 70 (f := .glo "divided") rfl)
  d_common_factor := c.def_ 32 rfl
  g_common_factor := He.glo_ok X G (c.fact 71 (f := .glo "common_factor") rfl)
  d_poly_slope := c.def_ 33 rfl
  g_poly_slope := He.glo_ok X G (c.fact 72 (f := .glo "poly_slope") rfl)
  d_plain_part := c.def_ 34 rfl
  g_plain_part := He.glo_ok X G (c.fact 73 (f := .glo "plain_part") rfl)
  d_sorted_places := c.def_ 35 rfl
  g_sorted_places := He.glo_ok X G (c.fact 74 (f := .glo "sorted_places") rfl)
  d_sturm_row := c.def_ 36 rfl
  g_sturm_row := He.glo_ok X G (c.fact 75 (f := .glo "sturm_row") rfl)
  d_without_zero := c.def_ 37 rfl
  g_without_zero := He.glo_ok X G (c.fact 76 (f := .glo "without_zero") rfl)
  d_times_between := c.def_ 38 rfl
  g_times_between := He.glo_ok X G (c.fact 77 (f := .glo "times_between") rfl)
  d_with_stretch := c.def_ 39 rfl
  g_with_stretch := He.glo_ok X G (c.fact 78 (f := .glo "with_stretch") rfl)
  d_places_in := c.def_ 40 rfl
  g_places_in := He.glo_ok X G (c.fact 79 (f := .glo "places_in") rfl)
  d_signs_in := c.def_ 41 rfl
  g_signs_in := He.glo_ok X G (c.fact 80 (f := .glo "signs_in") rfl)
  d_is_kept_up := c.def_ 42 rfl
  g_is_kept_up := He.glo_ok X G (c.fact 81 (f := .glo "is_kept_up") rfl)
  d_knots_of := c.def_ 43 rfl
  g_knots_of := He.glo_ok X G (c.fact 82 (f := .glo "knots_of") rfl)
  d_Piece_init := c.def_ 44 rfl
  d_poly_sum := c.def_ 45 rfl
  g_poly_sum := He.glo_ok X G (c.fact 83 (f := .glo "poly_sum") rfl)
  d_poly_times := c.def_ 46 rfl
  g_poly_times := He.glo_ok X G (c.fact 84 (f := .glo "poly_times") rfl)
  d_share_poly := c.def_ 47 rfl
  g_share_poly := He.glo_ok X G (c.fact 85 (f := .glo "share_poly") rfl)
  d_piece_at := c.def_ 48 rfl
  g_piece_at := He.glo_ok X G (c.fact 86 (f := .glo "piece_at") rfl)
  d_pieces_of := c.def_ 49 rfl
  g_pieces_of := He.glo_ok X G (c.fact 87 (f := .glo "pieces_of") rfl)
  d_slopes_of := c.def_ 50 rfl
  g_slopes_of := He.glo_ok X G (c.fact 88 (f := .glo "slopes_of") rfl)
  d_bends_up := c.def_ 51 rfl
  g_bends_up := He.glo_ok X G (c.fact 89 (f := .glo "bends_up") rfl)
  d_sign_row := c.def_ 52 rfl
  g_sign_row := He.glo_ok X G (c.fact 90 (f := .glo "sign_row") rfl)
  d_inner_places := c.def_ 53 rfl
  g_inner_places := He.glo_ok X G (c.fact 91 (f := .glo "inner_places") rfl)
  d_crossings := c.def_ 54 rfl
  g_crossings := He.glo_ok X G (c.fact 92 (f := .glo "crossings") rfl)
  d_Unlike_init := c.def_ 55 rfl
  d_need_alike := c.def_ 56 rfl
  g_need_alike := He.glo_ok X G (c.fact 93 (f := .glo "need_alike") rfl)
  d_put_together_vfdb7 := c.def_ 57 rfl
  g_put_together_vfdb7 := He.glo_ok X G (c.fact 94 (f := .glo "put_together") rfl)
  d_is_above_v23b1 := c.def_ 58 rfl
  g_is_above_v23b1 := He.glo_ok X G (c.fact 95 (f := .glo "is_above") rfl)
  d_never_below_vd7c6 := c.def_ 59 rfl
  g_never_below_vd7c6 := He.glo_ok X G (c.fact 96 (f := .glo "never_below") rfl)
  d_rises := c.def_ 60 rfl
  g_rises := He.glo_ok X G (c.fact 97 (f := .glo "rises") rfl)
  d_rises_always := c.def_ 61 rfl
  g_rises_always := He.glo_ok X G (c.fact 98 (f := .glo "rises_always") rfl)
  d_touches := c.def_ 62 rfl
  g_touches := He.glo_ok X G (c.fact 99 (f := .glo "touches") rfl)
  d_law_case_right := c.def_ 63 rfl
  g_law_case_right := He.glo_ok X G (c.fact 100 (f := .glo "_law_case_right") rfl)
  d_law_cases_v9df0 := c.def_ 64 rfl
  g_law_cases_v9df0 := He.glo_ok X G (c.fact 101 (f := .glo "_law_cases") rfl)
  d_law_deal := c.def_ 65 rfl
  g_law_deal := He.glo_ok X G (c.fact 102 (f := .glo "_law_deal") rfl)
  d_law_draw := c.def_ 66 rfl
  g_law_draw := He.glo_ok X G (c.fact 103 (f := .glo "_law_draw") rfl)
  d_law_mixed_v3e4d := c.def_ 67 rfl
  g_law_mixed_v3e4d := He.glo_ok X G (c.fact 104 (f := .glo "_law_mixed") rfl)
  d_places := c.def_ 68 rfl
  g_places := He.glo_ok X G (c.fact 105 (f := .glo "places") rfl)
  d_is_pair := c.def_ 69 rfl
  g_is_pair := He.glo_ok X G (c.fact 106 (f := .glo "is_pair") rfl)
  d_side_of := c.def_ 70 rfl
  g_side_of := He.glo_ok X G (c.fact 107 (f := .glo "side_of") rfl)
  d_is_in := c.def_ 71 rfl
  g_is_in := He.glo_ok X G (c.fact 108 (f := .glo "is_in") rfl)
  d_is_told_by := c.def_ 72 rfl
  g_is_told_by := He.glo_ok X G (c.fact 109 (f := .glo "is_told_by") rfl)
  d_places_hold := c.def_ 73 rfl
  g_places_hold := He.glo_ok X G (c.fact 110 (f := .glo "places_hold") rfl)
  d_order_at := c.def_ 74 rfl
  g_order_at := He.glo_ok X G (c.fact 111 (f := .glo "order_at") rfl)
  d_alike_slopes := c.def_ 75 rfl
  g_alike_slopes := He.glo_ok X G (c.fact 112 (f := .glo "alike_slopes") rfl)
  d_merged := c.def_ 76 rfl
  g_merged := He.glo_ok X G (c.fact 113 (f := .glo "merged") rfl)
  d_choices := c.def_ 77 rfl
  g_choices := He.glo_ok X G (c.fact 114 (f := .glo "choices") rfl)
  d_shared := c.def_ 78 rfl
  g_shared := He.glo_ok X G (c.fact 115 (f := .glo "shared") rfl)
  d_bend_with := c.def_ 79 rfl
  g_bend_with := He.glo_ok X G (c.fact 116 (f := .glo "bend_with") rfl)
  d_least_of := c.def_ 80 rfl
  g_least_of := He.glo_ok X G (c.fact 117 (f := .glo "least_of") rfl)
  d_scaled := c.def_ 81 rfl
  g_scaled := He.glo_ok X G (c.fact 118 (f := .glo "scaled") rfl)
  d_law := c.def_ 82 rfl
  g_law := He.glo_ok X G (c.fact 119 (f := .glo "law") rfl)
end HB
namespace HB
open PySem L2
def g_law_1 : Mo Fl := sIf (mTest (mOp isNotBD (mCall F_places_hold (mCons (mVar 4) (mCons (mCall F_places (mCons (mVar 4) (mNil))) (mNil)))) (mRet (.bool true)))) (sRet (mRet (.bool false))) (sNext)
def g_law_2 : Mo Fl := sSeq (sIf (mOr (mTest (mOp neD (mCall F_sign_row (mCons (mVar 4) (mNil))) (mCall F_sign_row (mCons (mVar 12) (mNil))))) (mTest (mOp neD (mCall F_crossings (mCons (mVar 4) (mNil))) (mVar 9)))) (sRet (mRet (.bool false))) (sNext))
  (g_law_1)
def g_law_3 : Mo Fl := sSeq (sSet 4 (mMake "Bend" I_Bend (mCons (mVar 5) (mCons (mList (mBlk [14] (mSeqS (mVar 6)) (lcBody [14] (gSet 14) (mRet true) (mOp addD (mVar 14) (mOp mulD (mRet (.int 3)) (mVar 13)))))) (mCons (mList (mBlk [15] (mSeqS (mVar 7)) (lcBody [15] (gSet 15) (mRet true) (mOp mulD (mRet (.int 7)) (mVar 15))))) (mNil))))))
  (g_law_2)
def g_law_4 : Mo Fl := sSeq (sIf (mNot (mTest (mCall F_law_case_right (mCons (mVar 3) (mCons (mVar 8) (mCons (mVar 9) (mCons (mVar 10) (mCons (mVar 11) (mNil))))))))) (sRet (mRet (.bool false))) (sNext))
  (g_law_3)
def g_law_5 : Mo Fl := sSeq (sSet 3 (mCall F_scaled (mCons (mVar 12) (mCons (mVar 13) (mNil)))))
  (g_law_4)
def g_law_6 : Mo Fl := sSeq (sIf (mNot (mTest (mCall F_law_case_right (mCons (mVar 12) (mCons (mVar 8) (mCons (mVar 9) (mCons (mVar 10) (mCons (mVar 11) (mNil))))))))) (sRet (mRet (.bool false))) (sNext))
  (g_law_5)
def g_law_7 : Mo Fl := sSeq (sAsg (gTupD 2 (gConsD (gSet 12) (gConsD (gSet 13) (gNilD)))) (mTup (mCons (mMake "Bend" I_Bend (mCons (mVar 5) (mCons (mVar 6) (mCons (mVar 7) (mNil))))) (mCons (mOp addD (mRet (.int 1)) (mCallD F_law_draw 1 (mCons (mRet (.int 9)) (mNil)))) (mNil)))))
  (g_law_6)
def g_law_8 : Mo Fl := sSeq (sAsg (gTupD 7 (gConsD (gSet 5) (gConsD (gSet 6) (gConsD (gSet 7) (gConsD (gSet 8) (gConsD (gSet 9) (gConsD (gSet 10) (gConsD (gSet 11) (gNilD))))))))) (mVar 2))
  (g_law_7)
def g_law_9 : Mo Fl := sSeq (sFor (mSeqS (mCallD F_law_mixed_v3e4d 1 (mCons (mCall F_law_cases_v9df0 mNil) (mNil)))) (gSet 2) (g_law_8))
  (sRet (mRet (.bool true)))
def g_law : Mo Fl := sSeq (sOwnD 1 16 F_law_deal (mCons (mVar 0) (mCons (mRet (.int 0)) (mNil))))
  (g_law_9)
def F_law : Fn := guard 1 (runF 17 g_law)
end HB
namespace HB
open PySem L2
def enc (q : Rat) : D := .tuple [.int q.num, .int q.den]
theorem log_lt {n B : Nat} (h : n < 2 ^ B) (hB : 0 < B) : n.log2 < B := by
  by_cases e : n = 0
  · subst e
    exact hB
  · exact (Nat.log2_lt e).mpr h
theorem fit_by {i j : Int} {A B : Nat} (hi : i.natAbs < 2 ^ A) (hj : j.natAbs < 2 ^ B) (pA : 0 < A) (pB : 0 < B) (h : A + B ≤ 1000000) : mulFit i j = true := by
  have h1 := log_lt hi pA
  have h2 := log_lt hj pB
  unfold mulFit
  exact Nat.ble_eq_true_of_le (by omega)
end HB
namespace HB
open PySem L2
theorem set_set (ρ : En) (v : Nat) (a b : Sl) : (ρ.set v a).set v b = ρ.set v b := List.set_set _
theorem rest1 (ρ : En) (v : Nat) : restE ρ (ρ.set v .no) [v] = ρ := by
  show (ρ.set v .no).set v (ρ.getD v .no) = ρ
  rw [set_set]
  apply List.ext_getElem?
  intro i
  by_cases e : v = i
  · subst e
    by_cases h : v < ρ.length
    · rw [List.getElem?_set_self h, List.getD_eq_getElem?_getD, List.getElem?_eq_getElem h]
      rfl
    · rw [List.getElem?_eq_none (by rw [List.length_set]; omega), List.getElem?_eq_none (by omega)]
  · rw [List.getElem?_set_ne e]
section
variable {α : Type}
theorem lc_sel {v : Nat} {test : Mo Bool} {elt : Mo D} {ρ : En} (c : α → D) (P : α → Bool) (F : α → D) : ∀ (L : List α), (∀ a ∈ L, test (ρ.set v (.pur (c a))) = some (.ok (ρ.set v (.pur (c a)), P a))) → (∀ a ∈ L, P a = true → elt (ρ.set v (.pur (c a))) = some (.ok (ρ.set v (.pur (c a)), F a))) →
    lcL [v] (gSet v) test elt (L.map c) (ρ.set v .no) = some (ρ.set v .no, (L.filter P).map F)
  | [], _, _ => rfl
  | a :: L, ht, he => by
    have ih := lc_sel c P F L (fun b hb => ht b (List.mem_cons_of_mem _ hb)) (fun b hb => he b (List.mem_cons_of_mem _ hb))
    have t1 := ht a List.mem_cons_self
    have w : wipeE (ρ.set v (.pur (c a))) [v] = ρ.set v .no := set_set _ _ _ _
    simp only [List.map_cons, lcL, gSet, set_set, t1]
    cases hP : P a with
    | false => rw [List.filter_cons_of_neg (by simp [hP])]; simp only [w, ih]
    | true =>
      rw [List.filter_cons_of_pos hP]
      simp only [he a List.mem_cons_self hP, w, ih, List.map_cons]
theorem blk_sel {v : Nat} {src : Mo Src} {test : Mo Bool} {elt : Mo D} {ρ : En} (L : List α) (c : α → D) (P : α → Bool) (F : α → D) (hs : src ρ = some (.ok (ρ, constS (L.map c)))) (hl : L.length < 1000000) (ho : noOwn ρ [v] = true)
    (ht : ∀ a ∈ L, test (ρ.set v (.pur (c a))) = some (.ok (ρ.set v (.pur (c a)), P a))) (he : ∀ a ∈ L, P a = true → elt (ρ.set v (.pur (c a))) = some (.ok (ρ.set v (.pur (c a)), F a))) :
    mBlk [v] src (lcBody [v] (gSet v) test elt) ρ = some (.ok (ρ, (L.filter P).map F)) := by
  have hb : Nat.blt (L.map c).length 1000000 = true := Nat.ble_eq_true_of_le (by rw [List.length_map]; exact hl)
  unfold mBlk mBind
  simp only [hs, ho, lcBody, constS, hb]
  rw [show wipeE ρ [v] = ρ.set v .no from rfl, lc_sel c P F L ht he]
  simp only [rest1]
theorem blk_map {v : Nat} {src : Mo Src} {elt : Mo D} {ρ : En} (L : List α) (c : α → D) (F : α → D) (hs : src ρ = some (.ok (ρ, constS (L.map c)))) (hl : L.length < 1000000) (ho : noOwn ρ [v] = true)
    (he : ∀ a ∈ L, elt (ρ.set v (.pur (c a))) = some (.ok (ρ.set v (.pur (c a)), F a))) :
    mBlk [v] src (lcBody [v] (gSet v) (mRet true) elt) ρ = some (.ok (ρ, L.map F)) := by
  have h := blk_sel (test := mRet true) L c (fun _ => true) F hs hl ho (fun a _ => rfl) fun a ha _ => he a ha
  rwa [List.filter_eq_self.mpr (fun _ _ => Eq.refl true)] at h
theorem for_pre {v : Nat} {body : Mo Fl} (c : α → D) (I : List α → En → Prop) : ∀ (L d : List α) (ρ : En), (∀ d1 a r ρ, d ++ L = d1 ++ a :: r → I d1 ρ → ∃ ρ' f, body (ρ.set v (.pur (c a))) = some (.ok (ρ', f)) ∧ (f = .nx ∨ f = .ct) ∧ I (d1 ++ [a]) ρ') → I d ρ →
    ∃ ρ', forL (gSet v) body (L.map c) ρ = some (.ok (ρ', .nx)) ∧ I (d ++ L) ρ'
  | [], d, ρ, _, h0 => ⟨ρ, rfl, by rwa [List.append_nil]⟩
  | a :: L, d, ρ, h, h0 => by
    obtain ⟨ρ1, f, e1, e2, e3⟩ := h d a L ρ rfl h0
    obtain ⟨ρ', e4, e5⟩ := for_pre c I L (d ++ [a]) ρ1 (fun d1 b r ρ2 e => h d1 b r ρ2 (by rw [← e]; simp)) e3
    refine ⟨ρ', ?_, by rwa [List.append_assoc] at e5⟩
    rcases e2 with rfl | rfl
    · simp only [List.map_cons, forL, gSet, e1]; exact e4
    · simp only [List.map_cons, forL, gSet, e1]; exact e4
theorem for_ok {v : Nat} {src : Mo Src} {body : Mo Fl} {ρ ρ0 : En} (L : List α) (c : α → D) (I : List α → En → Prop) (hs : src ρ0 = some (.ok (ρ, constS (L.map c)))) (h0 : I [] ρ)
    (h : ∀ d a r ρ, L = d ++ a :: r → I d ρ → ∃ ρ' f, body (ρ.set v (.pur (c a))) = some (.ok (ρ', f)) ∧ (f = .nx ∨ f = .ct) ∧ I (d ++ [a]) ρ') : ∃ ρ', sFor src (gSet v) body ρ0 = some (.ok (ρ', .nx)) ∧ I L ρ' := by
  obtain ⟨ρ', e1, e2⟩ := for_pre (v := v) (body := body) c I L [] ρ (fun d a r ρ e => h d a r ρ e) h0
  refine ⟨ρ', ?_, e2⟩
  unfold sFor mBind
  simp only [hs, constS]
  exact e1
end
def natD (i : Nat) : D := .int (i : Int)
theorem atI_last {α : Type} {xs : List α} (h : xs ≠ []) : L2.atI xs (-1) = some (xs.getLast h) := by
  have hp := List.length_pos_iff.mpr h
  unfold L2.atI ixN
  rw [if_neg (by omega), if_pos (by omega), show (-1 + (xs.length : Int)).toNat = xs.length - 1 by omega]
  simp [List.getLast_eq_getElem, hp]
/-- the i-th of some fractions, nought beyond -/
def at0 (ks : List Rat) (i : Nat) : Rat := ks.getD i 0
def encL (ks : List Rat) : List D := ks.map enc
theorem len_encL (ks : List Rat) : (encL ks).length = ks.length := by unfold encL; exact List.length_map _
def bd {α β : Type} (o : Option (Except Exn (En × α))) (f : En → α → Option (Except Exn (En × β))) : Option (Except Exn (En × β)) := match o with
  | none => none
  | some (.error x) => some (.error x)
  | some (.ok (ρ, a)) => f ρ a
theorem bd_ok {α β : Type} (ρ : En) (a : α) (f : En → α → Option (Except Exn (En × β))) : bd (some (.ok (ρ, a))) f = f ρ a := id rfl
def lf {α : Type} (ρ : En) (o : Option α) : Option (Except Exn (En × α)) := match o with
  | none => none
  | some a => some (.ok (ρ, a))
theorem lf_some {α : Type} (ρ : En) (a : α) : lf ρ (some a) = some (.ok (ρ, a)) := id rfl
def cl {α : Type} (ρ : En) (o : Option (Except Exn α)) : Option (Except Exn (En × α)) := match o with
  | none => none
  | some (.error x) => some (.error x)
  | some (.ok a) => some (.ok (ρ, a))
theorem cl_ok {α : Type} (ρ : En) (a : α) : cl ρ (some (.ok a)) = some (.ok (ρ, a)) := id rfl
section
variable {ρ : En}
theorem a_ret {α : Type} (a : α) : mRet a ρ = some (.ok (ρ, a)) := id rfl
theorem a_op (f : D → D → Option D) (a b : Mo D) : mOp f a b ρ = bd (a ρ) fun ρ1 x => bd (b ρ1) fun ρ2 y => lf ρ2 (f x y) := id rfl
theorem a_un (f : D → Option D) (a : Mo D) : mUn f a ρ = bd (a ρ) fun ρ1 x => lf ρ1 (f x) := id rfl
theorem a_test (a : Mo D) : mTest a ρ = bd (a ρ) fun ρ1 x => lf ρ1 (boolD x) := id rfl
theorem a_and (a b : Mo Bool) : mAnd a b ρ = bd (a ρ) fun ρ1 c => bif c then b ρ1 else some (.ok (ρ1, false)) := by
  unfold mAnd mBind bd
  split <;> rename_i h <;> simp only [h]
  rename_i c; cases c <;> rfl
theorem a_or (a b : Mo Bool) : mOr a b ρ = bd (a ρ) fun ρ1 c => bif c then some (.ok (ρ1, true)) else b ρ1 := by
  unfold mOr mBind bd
  split <;> rename_i h <;> simp only [h]
  rename_i c; cases c <;> rfl
theorem a_not (a : Mo Bool) : mNot a ρ = bd (a ρ) fun ρ1 c => some (.ok (ρ1, !c)) := id rfl
theorem a_andV (a b : Mo D) : mAndV a b ρ = bd (mTest a ρ) fun ρ1 c => bif c then b ρ1 else some (.ok (ρ1, .bool false)) := by
  unfold mAndV mBind bd
  split <;> rename_i h <;> simp only [h]
  rename_i c; cases c <;> rfl
theorem a_orV (a b : Mo D) : mOrV a b ρ = bd (mTest a ρ) fun ρ1 c => bif c then some (.ok (ρ1, .bool true)) else b ρ1 := by
  unfold mOrV mBind bd
  split <;> rename_i h <;> simp only [h]
  rename_i c; cases c <;> rfl
theorem a_notV (a : Mo D) : mNotV a ρ = bd (mTest a ρ) fun ρ1 c => some (.ok (ρ1, .bool (!c))) := id rfl
theorem a_if (c : Mo Bool) (a b : Mo D) : mIf c a b ρ = bd (c ρ) fun ρ1 c => bif c then a ρ1 else b ρ1 := by
  unfold mIf mBind bd
  split <;> rename_i h <;> simp only [h]
  rename_i c; cases c <;> rfl
theorem a_sif (c : Mo Bool) (a b : Mo Fl) : sIf c a b ρ = bd (c ρ) fun ρ1 c => bif c then a ρ1 else b ρ1 := by
  unfold sIf mBind bd
  split <;> rename_i h <;> simp only [h]
  rename_i c; cases c <;> rfl
theorem a_nil : mNil ρ = some (.ok (ρ, [])) := id rfl
theorem a_cons (a : Mo D) (r : Mo (List D)) : mCons a r ρ = bd (a ρ) fun ρ1 x => bd (r ρ1) fun ρ2 xs => some (.ok (ρ2, x :: xs)) := id rfl
theorem a_star (a : Mo D) (r : Mo (List D)) : mStar a r ρ = bd (a ρ) fun ρ1 x => bd (lf ρ1 (itemsD x)) fun ρ1 ys => bd (r ρ1) fun ρ2 xs => some (.ok (ρ2, ys ++ xs)) := id rfl
theorem a_list (a : Mo (List D)) : mList a ρ = bd (a ρ) fun ρ1 x => some (.ok (ρ1, .list x)) := id rfl
theorem a_tup (a : Mo (List D)) : mTup a ρ = bd (a ρ) fun ρ1 ds => lf ρ1 (if sizeOk ds = true then some (.tuple ds) else none) := id rfl
theorem a_sized (a : Mo (List D)) : mSized a ρ = bd (a ρ) fun ρ1 ds => lf ρ1 (if sizeOk ds = true then some ds else none) := id rfl
theorem a_call (F : Fn) (a : Mo (List D)) : mCall F a ρ = bd (a ρ) fun ρ1 ds => cl ρ1 (F ds) := by
  unfold mCall mBind bd
  cases h : a ρ with
  | none => rfl
  | some r =>
    cases r with
    | error x => rfl
    | ok pr =>
      obtain ⟨ρ1, ds⟩ := pr
      simp only
      unfold cl
      cases F ds with
      | none => rfl
      | some q => cases q <;> rfl
theorem a_built (f : List D → Option D) (a : Mo (List D)) : mBuilt f a ρ = bd (a ρ) fun ρ1 ds => lf ρ1 (f ds) := id rfl
theorem a_seq (a b : Mo Fl) : sSeq a b ρ = bd (a ρ) fun ρ1 f => match f with
  | .nx => b ρ1
  | .rt d => some (.ok (ρ1, .rt d))
  | .bk => some (.ok (ρ1, .bk))
  | .ct => some (.ok (ρ1, .ct)) := by
  unfold sSeq mBind bd
  split <;> rename_i h <;> simp only [h]
  rename_i c; cases c <;> rfl
theorem a_set (i : Nat) (f : Mo D) : sSet i f ρ = bd (f ρ) fun ρ1 d => some (.ok (ρ1.set i (.pur d), .nx)) := id rfl
theorem a_own (i : Nat) (f : Mo (List D)) : sOwn i f ρ = bd (f ρ) fun ρ1 d => some (.ok (ρ1.set i (.own d), .nx)) := id rfl
theorem a_sret (f : Mo D) : sRet f ρ = bd (f ρ) fun ρ1 d => some (.ok (ρ1, .rt d)) := id rfl
theorem a_next : sNext ρ = some (.ok (ρ, .nx)) := id rfl
theorem a_isi (tb : D → Option Bool) (f : Mo D) : mIsi tb f ρ = bd (f ρ) fun ρ1 d => lf ρ1 ((tb d).map .bool) := id rfl
theorem a_slice (f : Mo D) (lo hi : Mo (Option Int)) : mSlice f lo hi ρ = bd (f ρ) fun ρ1 d => bd (lo ρ1) fun ρ2 l => bd (hi ρ2) fun ρ3 h => lf ρ3 (slD l h d) := id rfl
theorem a_part (f : Mo D) : mPart f ρ = bd (f ρ) fun ρ1 d => lf ρ1 ((intOf d).map some) := id rfl
theorem a_nopart : mNoPart ρ = some (.ok (ρ, none)) := id rfl
theorem a_range (f : List D → Option Src) (a : Mo (List D)) : mRange f a ρ = bd (a ρ) fun ρ1 ds => lf ρ1 (f ds) := id rfl
theorem a_seqS (f : Mo D) : mSeqS f ρ = bd (f ρ) fun ρ1 d => lf ρ1 ((itemsD d).map constS) := id rfl
theorem a_varP {i : Nat} : mVar i ρ = match ρ[i]? with
  | some (.pur d) => some (.ok (ρ, d))
  | some (.own ds) => some (.ok (ρ.set i (.pur (.list ds)), .list ds))
  | _ => none := id rfl
theorem a_par2 (i j : Nat) (f : Mo (List Tm)) : sPar2 i j f ρ = bd (f ρ) fun ρ1 ts => match ts with
  | [x, y] => some (.ok ((ρ1.set i (slOf x)).set j (slOf y), .nx))
  | _ => none := id rfl
theorem a_xp (a : Mo D) (r : Mo (List Tm)) : xConsP a r ρ = bd (a ρ) fun ρ1 d => bd (r ρ1) fun ρ2 ts => some (.ok (ρ2, .p d :: ts)) := id rfl
theorem a_xo (a : Mo (List D)) (r : Mo (List Tm)) : xConsO a r ρ = bd (a ρ) fun ρ1 d => bd (r ρ1) fun ρ2 ts => some (.ok (ρ2, .o d :: ts)) := id rfl
theorem a_xn : xNil ρ = some (.ok (ρ, [])) := id rfl
theorem a_asg (g : D → En → Option En) (f : Mo D) : sAsg g f ρ = bd (f ρ) fun ρ1 d => match g d ρ1 with
  | some ρ2 => some (.ok (ρ2, .nx))
  | none => none := id rfl
theorem a_make (c : Str) (F : FnI) (a : Mo (List D)) : mMake c F a ρ = bd (a ρ) fun ρ1 ds => match F ds with
  | none => none
  | some (.error x) => some (.error x)
  | some (.ok kvs) => some (.ok (ρ1, .dict ((.str c, .none) :: kvs))) := id rfl
theorem a_chg (i : Nat) (f : Mo (List D)) (c : List D → List D → Option (List D)) : sChg i f c ρ = match ρ[i]? with
  | some (.own _) => bd (f ρ) fun ρ1 as => (match ρ1[i]? with
    | some (.own ds) => match c ds as with
      | some es => some (.ok (ρ1.set i (.own es), .nx))
      | none => none
    | _ => none)
  | _ => none := id rfl
theorem a_ixO (i : Nat) (f : Mo D) : mIxO i f ρ = match ρ[i]? with
  | some (.own _) => bd (f ρ) fun ρ1 k => (match ρ1[i]? with
    | some (.own ds) => lf ρ1 (ixD (.list ds) k)
    | _ => none)
  | some (.pur d) => bd (f ρ) fun ρ1 k => lf ρ1 (ixD d k)
  | _ => none := id rfl
theorem a_lenO (i : Nat) : mLenO i ρ = match ρ[i]? with
  | some (.own ds) => some (.ok (ρ, .int ds.length))
  | some (.pur d) => lf ρ (lenD [d])
  | _ => none := id rfl
theorem a_cntO (i : Nat) (f : Mo D) : mCntO i f ρ = match ρ[i]? with
  | some (.own _) => bd (f ρ) fun ρ1 d => (match ρ1[i]? with
    | some (.own ds) => lf ρ1 (bothD d (.list ds) (.int (ds.countP fun z => PyData.eqv z d : Nat)))
    | _ => none)
  | _ => none := id rfl
theorem items_lst (ds : List D) : itemsD (.list ds) = some ds := id rfl
theorem items_tup (ds : List D) : itemsD (.tuple ds) = some ds := id rfl
end
theorem intOf_int (i : Int) : intOf (.int i) = some i := id rfl
/-- a def's end -/
def ans : Option (Except Exn (En × Fl)) → Option (Except Exn D)
  | none => none
  | some (.error x) => some (.error x)
  | some (.ok (_, .nx)) => some (.ok .none)
  | some (.ok (_, .rt d)) => some (.ok d)
  | some (.ok (_, _)) => none
theorem ans_rt (ρ : En) (d : D) : ans (some (.ok (ρ, .rt d))) = some (.ok d) := id rfl
theorem a_fn {n m : Nat} {g : Mo Fl} {ds : List D} (h : ds.length = n) : guard n (runF m g) ds = ans (g (ds.map Sl.pur ++ List.replicate (m - ds.length) .no)) := by
  unfold guard
  rw [show Nat.beq ds.length n = true by rw [h]; exact Nat.beq_refl n]
  rfl
end HB
namespace HB
open PySem L2
def bO (x : Option (Except Exn (List (D × D)))) : D := match x with
  | some (.ok k) => .dict ((.str "Bend", .none) :: k)
  | _ => .none
def kO (x : Option (Except Exn (List (D × D)))) : List (D × D) := match x with
  | some (.ok k) => k
  | _ => []
def okK (x : Option (Except Exn (List (D × D)))) : Bool := match x with
  | some (.ok _) => true
  | _ => false
theorem okK_eq {x : Option (Except Exn (List (D × D)))} (h : okK x = true) : x = some (.ok (kO x)) ∧ PyData.dict ((.str "Bend", .none) :: kO x) = bO x := by
  match x, h with
  | some (.ok k), _ => exact ⟨rfl, rfl⟩
def isTr (x : Option (Except Exn D)) : Bool := match x with
  | some (.ok (.bool true)) => true
  | _ => false
theorem isTr_eq {x : Option (Except Exn D)} (h : isTr x = true) : x = some (.ok (.bool true)) := by
  unfold isTr at h
  split at h
  · rfl
  · cases h
def isFa (x : Option D) : Bool := match x with
  | some (.bool false) => true
  | _ => false
theorem isFa_eq {x : Option D} (h : isFa x = true) : x = some (.bool false) := by
  unfold isFa at h
  split at h
  · rfl
  · cases h
def vO (x : Option (Except Exn D)) : D := match x with
  | some (.ok d) => d
  | _ => .none
def isO (x : Option (Except Exn D)) : Bool := match x with
  | some (.ok _) => true
  | _ => false
theorem vO_eq {x : Option (Except Exn D)} (h : isO x = true) : x = some (.ok (vO x)) := by
  match x, h with
  | some (.ok d), _ => rfl
/-- a told bend -/
def mk38 (n : D) (ms hs : List Int) : Option (Except Exn (List (D × D))) := I_Bend [n, .list (ms.map PyData.int), .list (hs.map PyData.int)]
def up38 (ms : List Int) (a : Int) : List Int := ms.map fun m => m + 3 * a
def by38 (hs : List Int) : List Int := hs.map fun h => 7 * h
def far38 (n : D) (ms hs : List Int) (sg cr to an : D) (a : Int) : Bool :=
  isO (F_scaled [bO (mk38 n ms hs), .int a]) && (isTr (F_law_case_right [vO (F_scaled [bO (mk38 n ms hs), .int a]), sg, cr, to, an]) && (okK (mk38 n (up38 ms a) (by38 hs)) &&
    (isO (F_sign_row [bO (mk38 n (up38 ms a) (by38 hs))]) && (isO (F_sign_row [bO (mk38 n ms hs)]) && (isFa (neD (vO (F_sign_row [bO (mk38 n (up38 ms a) (by38 hs))])) (vO (F_sign_row [bO (mk38 n ms hs)]))) &&
    (isO (F_crossings [bO (mk38 n (up38 ms a) (by38 hs))]) && (isFa (neD (vO (F_crossings [bO (mk38 n (up38 ms a) (by38 hs))])) cr) && (isO (F_places [bO (mk38 n (up38 ms a) (by38 hs))]) && isTr (F_places_hold [bO (mk38 n (up38 ms a) (by38 hs)), vO (F_places [bO (mk38 n (up38 ms a) (by38 hs))])])))))))))
def made38 (n : D) (ms hs : List Int) (sg cr to an : D) : Bool := okK (mk38 n ms hs) && isTr (F_law_case_right [bO (mk38 n ms hs), sg, cr, to, an])
/-- what the law needs of a case -/
structure Case38 (n : D) (ms hs : List Int) (sg cr to an : D) : Prop where
  made : made38 n ms hs sg cr to an = true
  far : ∀ r : Int, 0 ≤ r → r < 9 → far38 n ms hs sg cr to an (1 + r) = true
end HB
namespace HB
open PySem L2
theorem m_0 : made38 (.int 1) [0, 1, 2] [0, 1, 0] (.str "0+0") (.int 0) (.int 0) (.str "nnnny") = true := by kernel_rfl
theorem f_0_0 : far38 (.int 1) [0, 1, 2] [0, 1, 0] (.str "0+0") (.int 0) (.int 0) (.str "nnnny") 1 = true := by kernel_rfl
theorem f_0_1 : far38 (.int 1) [0, 1, 2] [0, 1, 0] (.str "0+0") (.int 0) (.int 0) (.str "nnnny") 2 = true := by kernel_rfl
theorem f_0_2 : far38 (.int 1) [0, 1, 2] [0, 1, 0] (.str "0+0") (.int 0) (.int 0) (.str "nnnny") 3 = true := by kernel_rfl
theorem f_0_3 : far38 (.int 1) [0, 1, 2] [0, 1, 0] (.str "0+0") (.int 0) (.int 0) (.str "nnnny") 4 = true := by kernel_rfl
theorem f_0_4 : far38 (.int 1) [0, 1, 2] [0, 1, 0] (.str "0+0") (.int 0) (.int 0) (.str "nnnny") 5 = true := by kernel_rfl
theorem f_0_5 : far38 (.int 1) [0, 1, 2] [0, 1, 0] (.str "0+0") (.int 0) (.int 0) (.str "nnnny") 6 = true := by kernel_rfl
theorem f_0_6 : far38 (.int 1) [0, 1, 2] [0, 1, 0] (.str "0+0") (.int 0) (.int 0) (.str "nnnny") 7 = true := by kernel_rfl
theorem f_0_7 : far38 (.int 1) [0, 1, 2] [0, 1, 0] (.str "0+0") (.int 0) (.int 0) (.str "nnnny") 8 = true := by kernel_rfl
theorem f_0_8 : far38 (.int 1) [0, 1, 2] [0, 1, 0] (.str "0+0") (.int 0) (.int 0) (.str "nnnny") 9 = true := by kernel_rfl
theorem m_5 : made38 (.int 1) [0, 1, 2, 3] [1, 0, 0, 1] (.str "+0+") (.int 0) (.int 1) (.str "nnyny") = true := by kernel_rfl
theorem f_5_0 : far38 (.int 1) [0, 1, 2, 3] [1, 0, 0, 1] (.str "+0+") (.int 0) (.int 1) (.str "nnyny") 1 = true := by kernel_rfl
theorem f_5_1 : far38 (.int 1) [0, 1, 2, 3] [1, 0, 0, 1] (.str "+0+") (.int 0) (.int 1) (.str "nnyny") 2 = true := by kernel_rfl
theorem f_5_2 : far38 (.int 1) [0, 1, 2, 3] [1, 0, 0, 1] (.str "+0+") (.int 0) (.int 1) (.str "nnyny") 3 = true := by kernel_rfl
theorem f_5_3 : far38 (.int 1) [0, 1, 2, 3] [1, 0, 0, 1] (.str "+0+") (.int 0) (.int 1) (.str "nnyny") 4 = true := by kernel_rfl
theorem f_5_4 : far38 (.int 1) [0, 1, 2, 3] [1, 0, 0, 1] (.str "+0+") (.int 0) (.int 1) (.str "nnyny") 5 = true := by kernel_rfl
theorem f_5_5 : far38 (.int 1) [0, 1, 2, 3] [1, 0, 0, 1] (.str "+0+") (.int 0) (.int 1) (.str "nnyny") 6 = true := by kernel_rfl
theorem f_5_6 : far38 (.int 1) [0, 1, 2, 3] [1, 0, 0, 1] (.str "+0+") (.int 0) (.int 1) (.str "nnyny") 7 = true := by kernel_rfl
theorem f_5_7 : far38 (.int 1) [0, 1, 2, 3] [1, 0, 0, 1] (.str "+0+") (.int 0) (.int 1) (.str "nnyny") 8 = true := by kernel_rfl
theorem f_5_8 : far38 (.int 1) [0, 1, 2, 3] [1, 0, 0, 1] (.str "+0+") (.int 0) (.int 1) (.str "nnyny") 9 = true := by kernel_rfl
theorem m_10 : made38 (.int 0) [0, 5] [2] (.str "+") (.int 0) (.int 0) (.str "ynyyy") = true := by kernel_rfl
theorem f_10_0 : far38 (.int 0) [0, 5] [2] (.str "+") (.int 0) (.int 0) (.str "ynyyy") 1 = true := by kernel_rfl
theorem f_10_1 : far38 (.int 0) [0, 5] [2] (.str "+") (.int 0) (.int 0) (.str "ynyyy") 2 = true := by kernel_rfl
theorem f_10_2 : far38 (.int 0) [0, 5] [2] (.str "+") (.int 0) (.int 0) (.str "ynyyy") 3 = true := by kernel_rfl
theorem f_10_3 : far38 (.int 0) [0, 5] [2] (.str "+") (.int 0) (.int 0) (.str "ynyyy") 4 = true := by kernel_rfl
theorem f_10_4 : far38 (.int 0) [0, 5] [2] (.str "+") (.int 0) (.int 0) (.str "ynyyy") 5 = true := by kernel_rfl
theorem f_10_5 : far38 (.int 0) [0, 5] [2] (.str "+") (.int 0) (.int 0) (.str "ynyyy") 6 = true := by kernel_rfl
theorem f_10_6 : far38 (.int 0) [0, 5] [2] (.str "+") (.int 0) (.int 0) (.str "ynyyy") 7 = true := by kernel_rfl
theorem f_10_7 : far38 (.int 0) [0, 5] [2] (.str "+") (.int 0) (.int 0) (.str "ynyyy") 8 = true := by kernel_rfl
theorem f_10_8 : far38 (.int 0) [0, 5] [2] (.str "+") (.int 0) (.int 0) (.str "ynyyy") 9 = true := by kernel_rfl
end HB
namespace HB
open PySem L2
theorem m_1 : made38 (.int 2) [0, 2] [1, -1, 1] (.str "+0+") (.int 0) (.int 1) (.str "nnyny") = true := by kernel_rfl
theorem f_1_0 : far38 (.int 2) [0, 2] [1, -1, 1] (.str "+0+") (.int 0) (.int 1) (.str "nnyny") 1 = true := by kernel_rfl
theorem f_1_1 : far38 (.int 2) [0, 2] [1, -1, 1] (.str "+0+") (.int 0) (.int 1) (.str "nnyny") 2 = true := by kernel_rfl
theorem f_1_2 : far38 (.int 2) [0, 2] [1, -1, 1] (.str "+0+") (.int 0) (.int 1) (.str "nnyny") 3 = true := by kernel_rfl
theorem f_1_3 : far38 (.int 2) [0, 2] [1, -1, 1] (.str "+0+") (.int 0) (.int 1) (.str "nnyny") 4 = true := by kernel_rfl
theorem f_1_4 : far38 (.int 2) [0, 2] [1, -1, 1] (.str "+0+") (.int 0) (.int 1) (.str "nnyny") 5 = true := by kernel_rfl
theorem f_1_5 : far38 (.int 2) [0, 2] [1, -1, 1] (.str "+0+") (.int 0) (.int 1) (.str "nnyny") 6 = true := by kernel_rfl
theorem f_1_6 : far38 (.int 2) [0, 2] [1, -1, 1] (.str "+0+") (.int 0) (.int 1) (.str "nnyny") 7 = true := by kernel_rfl
theorem f_1_7 : far38 (.int 2) [0, 2] [1, -1, 1] (.str "+0+") (.int 0) (.int 1) (.str "nnyny") 8 = true := by kernel_rfl
theorem f_1_8 : far38 (.int 2) [0, 2] [1, -1, 1] (.str "+0+") (.int 0) (.int 1) (.str "nnyny") 9 = true := by kernel_rfl
theorem m_6 : made38 (.int 1) [0, 1, 2, 3] [-1, 0, 0, 1] (.str "-0+") (.int 1) (.int 0) (.str "ynnnn") = true := by kernel_rfl
theorem f_6_0 : far38 (.int 1) [0, 1, 2, 3] [-1, 0, 0, 1] (.str "-0+") (.int 1) (.int 0) (.str "ynnnn") 1 = true := by kernel_rfl
theorem f_6_1 : far38 (.int 1) [0, 1, 2, 3] [-1, 0, 0, 1] (.str "-0+") (.int 1) (.int 0) (.str "ynnnn") 2 = true := by kernel_rfl
theorem f_6_2 : far38 (.int 1) [0, 1, 2, 3] [-1, 0, 0, 1] (.str "-0+") (.int 1) (.int 0) (.str "ynnnn") 3 = true := by kernel_rfl
theorem f_6_3 : far38 (.int 1) [0, 1, 2, 3] [-1, 0, 0, 1] (.str "-0+") (.int 1) (.int 0) (.str "ynnnn") 4 = true := by kernel_rfl
theorem f_6_4 : far38 (.int 1) [0, 1, 2, 3] [-1, 0, 0, 1] (.str "-0+") (.int 1) (.int 0) (.str "ynnnn") 5 = true := by kernel_rfl
theorem f_6_5 : far38 (.int 1) [0, 1, 2, 3] [-1, 0, 0, 1] (.str "-0+") (.int 1) (.int 0) (.str "ynnnn") 6 = true := by kernel_rfl
theorem f_6_6 : far38 (.int 1) [0, 1, 2, 3] [-1, 0, 0, 1] (.str "-0+") (.int 1) (.int 0) (.str "ynnnn") 7 = true := by kernel_rfl
theorem f_6_7 : far38 (.int 1) [0, 1, 2, 3] [-1, 0, 0, 1] (.str "-0+") (.int 1) (.int 0) (.str "ynnnn") 8 = true := by kernel_rfl
theorem f_6_8 : far38 (.int 1) [0, 1, 2, 3] [-1, 0, 0, 1] (.str "-0+") (.int 1) (.int 0) (.str "ynnnn") 9 = true := by kernel_rfl
theorem m_11 : made38 (.int 1) [0, 1] [-1, 2] (.str "-0+") (.int 1) (.int 0) (.str "yyynn") = true := by kernel_rfl
theorem f_11_0 : far38 (.int 1) [0, 1] [-1, 2] (.str "-0+") (.int 1) (.int 0) (.str "yyynn") 1 = true := by kernel_rfl
theorem f_11_1 : far38 (.int 1) [0, 1] [-1, 2] (.str "-0+") (.int 1) (.int 0) (.str "yyynn") 2 = true := by kernel_rfl
theorem f_11_2 : far38 (.int 1) [0, 1] [-1, 2] (.str "-0+") (.int 1) (.int 0) (.str "yyynn") 3 = true := by kernel_rfl
theorem f_11_3 : far38 (.int 1) [0, 1] [-1, 2] (.str "-0+") (.int 1) (.int 0) (.str "yyynn") 4 = true := by kernel_rfl
theorem f_11_4 : far38 (.int 1) [0, 1] [-1, 2] (.str "-0+") (.int 1) (.int 0) (.str "yyynn") 5 = true := by kernel_rfl
theorem f_11_5 : far38 (.int 1) [0, 1] [-1, 2] (.str "-0+") (.int 1) (.int 0) (.str "yyynn") 6 = true := by kernel_rfl
theorem f_11_6 : far38 (.int 1) [0, 1] [-1, 2] (.str "-0+") (.int 1) (.int 0) (.str "yyynn") 7 = true := by kernel_rfl
theorem f_11_7 : far38 (.int 1) [0, 1] [-1, 2] (.str "-0+") (.int 1) (.int 0) (.str "yyynn") 8 = true := by kernel_rfl
theorem f_11_8 : far38 (.int 1) [0, 1] [-1, 2] (.str "-0+") (.int 1) (.int 0) (.str "yyynn") 9 = true := by kernel_rfl
end HB
namespace HB
open PySem L2
theorem m_2 : made38 (.int 2) [0, 2] [1, -3, 1] (.str "+0-0+") (.int 2) (.int 0) (.str "nnynn") = true := by kernel_rfl
theorem f_2_0 : far38 (.int 2) [0, 2] [1, -3, 1] (.str "+0-0+") (.int 2) (.int 0) (.str "nnynn") 1 = true := by kernel_rfl
theorem f_2_1 : far38 (.int 2) [0, 2] [1, -3, 1] (.str "+0-0+") (.int 2) (.int 0) (.str "nnynn") 2 = true := by kernel_rfl
theorem f_2_2 : far38 (.int 2) [0, 2] [1, -3, 1] (.str "+0-0+") (.int 2) (.int 0) (.str "nnynn") 3 = true := by kernel_rfl
theorem f_2_3 : far38 (.int 2) [0, 2] [1, -3, 1] (.str "+0-0+") (.int 2) (.int 0) (.str "nnynn") 4 = true := by kernel_rfl
theorem f_2_4 : far38 (.int 2) [0, 2] [1, -3, 1] (.str "+0-0+") (.int 2) (.int 0) (.str "nnynn") 5 = true := by kernel_rfl
theorem f_2_5 : far38 (.int 2) [0, 2] [1, -3, 1] (.str "+0-0+") (.int 2) (.int 0) (.str "nnynn") 6 = true := by kernel_rfl
theorem f_2_6 : far38 (.int 2) [0, 2] [1, -3, 1] (.str "+0-0+") (.int 2) (.int 0) (.str "nnynn") 7 = true := by kernel_rfl
theorem f_2_7 : far38 (.int 2) [0, 2] [1, -3, 1] (.str "+0-0+") (.int 2) (.int 0) (.str "nnynn") 8 = true := by kernel_rfl
theorem f_2_8 : far38 (.int 2) [0, 2] [1, -3, 1] (.str "+0-0+") (.int 2) (.int 0) (.str "nnynn") 9 = true := by kernel_rfl
theorem m_7 : made38 (.int 2) [0, 1, 2] [1, 0, 0, 1] (.str "+0+") (.int 0) (.int 1) (.str "nnyny") = true := by kernel_rfl
theorem f_7_0 : far38 (.int 2) [0, 1, 2] [1, 0, 0, 1] (.str "+0+") (.int 0) (.int 1) (.str "nnyny") 1 = true := by kernel_rfl
theorem f_7_1 : far38 (.int 2) [0, 1, 2] [1, 0, 0, 1] (.str "+0+") (.int 0) (.int 1) (.str "nnyny") 2 = true := by kernel_rfl
theorem f_7_2 : far38 (.int 2) [0, 1, 2] [1, 0, 0, 1] (.str "+0+") (.int 0) (.int 1) (.str "nnyny") 3 = true := by kernel_rfl
theorem f_7_3 : far38 (.int 2) [0, 1, 2] [1, 0, 0, 1] (.str "+0+") (.int 0) (.int 1) (.str "nnyny") 4 = true := by kernel_rfl
theorem f_7_4 : far38 (.int 2) [0, 1, 2] [1, 0, 0, 1] (.str "+0+") (.int 0) (.int 1) (.str "nnyny") 5 = true := by kernel_rfl
theorem f_7_5 : far38 (.int 2) [0, 1, 2] [1, 0, 0, 1] (.str "+0+") (.int 0) (.int 1) (.str "nnyny") 6 = true := by kernel_rfl
theorem f_7_6 : far38 (.int 2) [0, 1, 2] [1, 0, 0, 1] (.str "+0+") (.int 0) (.int 1) (.str "nnyny") 7 = true := by kernel_rfl
theorem f_7_7 : far38 (.int 2) [0, 1, 2] [1, 0, 0, 1] (.str "+0+") (.int 0) (.int 1) (.str "nnyny") 8 = true := by kernel_rfl
theorem f_7_8 : far38 (.int 2) [0, 1, 2] [1, 0, 0, 1] (.str "+0+") (.int 0) (.int 1) (.str "nnyny") 9 = true := by kernel_rfl
theorem m_12 : made38 (.int 2) [0, 2] [2, -1, 2] (.str "+") (.int 0) (.int 0) (.str "nnyyy") = true := by kernel_rfl
theorem f_12_0 : far38 (.int 2) [0, 2] [2, -1, 2] (.str "+") (.int 0) (.int 0) (.str "nnyyy") 1 = true := by kernel_rfl
theorem f_12_1 : far38 (.int 2) [0, 2] [2, -1, 2] (.str "+") (.int 0) (.int 0) (.str "nnyyy") 2 = true := by kernel_rfl
theorem f_12_2 : far38 (.int 2) [0, 2] [2, -1, 2] (.str "+") (.int 0) (.int 0) (.str "nnyyy") 3 = true := by kernel_rfl
theorem f_12_3 : far38 (.int 2) [0, 2] [2, -1, 2] (.str "+") (.int 0) (.int 0) (.str "nnyyy") 4 = true := by kernel_rfl
theorem f_12_4 : far38 (.int 2) [0, 2] [2, -1, 2] (.str "+") (.int 0) (.int 0) (.str "nnyyy") 5 = true := by kernel_rfl
theorem f_12_5 : far38 (.int 2) [0, 2] [2, -1, 2] (.str "+") (.int 0) (.int 0) (.str "nnyyy") 6 = true := by kernel_rfl
theorem f_12_6 : far38 (.int 2) [0, 2] [2, -1, 2] (.str "+") (.int 0) (.int 0) (.str "nnyyy") 7 = true := by kernel_rfl
theorem f_12_7 : far38 (.int 2) [0, 2] [2, -1, 2] (.str "+") (.int 0) (.int 0) (.str "nnyyy") 8 = true := by kernel_rfl
theorem f_12_8 : far38 (.int 2) [0, 2] [2, -1, 2] (.str "+") (.int 0) (.int 0) (.str "nnyyy") 9 = true := by kernel_rfl
end HB
namespace HB
open PySem L2
theorem m_3 : made38 (.int 3) [-1, 1] [-1, 1, -1, 1] (.str "-0+") (.int 1) (.int 0) (.str "yynnn") = true := by kernel_rfl
theorem f_3_0 : far38 (.int 3) [-1, 1] [-1, 1, -1, 1] (.str "-0+") (.int 1) (.int 0) (.str "yynnn") 1 = true := by kernel_rfl
theorem f_3_1 : far38 (.int 3) [-1, 1] [-1, 1, -1, 1] (.str "-0+") (.int 1) (.int 0) (.str "yynnn") 2 = true := by kernel_rfl
theorem f_3_2 : far38 (.int 3) [-1, 1] [-1, 1, -1, 1] (.str "-0+") (.int 1) (.int 0) (.str "yynnn") 3 = true := by kernel_rfl
theorem f_3_3 : far38 (.int 3) [-1, 1] [-1, 1, -1, 1] (.str "-0+") (.int 1) (.int 0) (.str "yynnn") 4 = true := by kernel_rfl
theorem f_3_4 : far38 (.int 3) [-1, 1] [-1, 1, -1, 1] (.str "-0+") (.int 1) (.int 0) (.str "yynnn") 5 = true := by kernel_rfl
theorem f_3_5 : far38 (.int 3) [-1, 1] [-1, 1, -1, 1] (.str "-0+") (.int 1) (.int 0) (.str "yynnn") 6 = true := by kernel_rfl
theorem f_3_6 : far38 (.int 3) [-1, 1] [-1, 1, -1, 1] (.str "-0+") (.int 1) (.int 0) (.str "yynnn") 7 = true := by kernel_rfl
theorem f_3_7 : far38 (.int 3) [-1, 1] [-1, 1, -1, 1] (.str "-0+") (.int 1) (.int 0) (.str "yynnn") 8 = true := by kernel_rfl
theorem f_3_8 : far38 (.int 3) [-1, 1] [-1, 1, -1, 1] (.str "-0+") (.int 1) (.int 0) (.str "yynnn") 9 = true := by kernel_rfl
theorem m_8 : made38 (.int 2) [0, 1, 2] [0, 0, 0, 1] (.str "0+") (.int 0) (.int 0) (.str "ynyny") = true := by kernel_rfl
theorem f_8_0 : far38 (.int 2) [0, 1, 2] [0, 0, 0, 1] (.str "0+") (.int 0) (.int 0) (.str "ynyny") 1 = true := by kernel_rfl
theorem f_8_1 : far38 (.int 2) [0, 1, 2] [0, 0, 0, 1] (.str "0+") (.int 0) (.int 0) (.str "ynyny") 2 = true := by kernel_rfl
theorem f_8_2 : far38 (.int 2) [0, 1, 2] [0, 0, 0, 1] (.str "0+") (.int 0) (.int 0) (.str "ynyny") 3 = true := by kernel_rfl
theorem f_8_3 : far38 (.int 2) [0, 1, 2] [0, 0, 0, 1] (.str "0+") (.int 0) (.int 0) (.str "ynyny") 4 = true := by kernel_rfl
theorem f_8_4 : far38 (.int 2) [0, 1, 2] [0, 0, 0, 1] (.str "0+") (.int 0) (.int 0) (.str "ynyny") 5 = true := by kernel_rfl
theorem f_8_5 : far38 (.int 2) [0, 1, 2] [0, 0, 0, 1] (.str "0+") (.int 0) (.int 0) (.str "ynyny") 6 = true := by kernel_rfl
theorem f_8_6 : far38 (.int 2) [0, 1, 2] [0, 0, 0, 1] (.str "0+") (.int 0) (.int 0) (.str "ynyny") 7 = true := by kernel_rfl
theorem f_8_7 : far38 (.int 2) [0, 1, 2] [0, 0, 0, 1] (.str "0+") (.int 0) (.int 0) (.str "ynyny") 8 = true := by kernel_rfl
theorem f_8_8 : far38 (.int 2) [0, 1, 2] [0, 0, 0, 1] (.str "0+") (.int 0) (.int 0) (.str "ynyny") 9 = true := by kernel_rfl
theorem m_13 : made38 (.int 2) [0, 1, 1, 2] [-1, 0, 0, 0, 1] (.str "-0+") (.int 1) (.int 0) (.str "yynnn") = true := by kernel_rfl
theorem f_13_0 : far38 (.int 2) [0, 1, 1, 2] [-1, 0, 0, 0, 1] (.str "-0+") (.int 1) (.int 0) (.str "yynnn") 1 = true := by kernel_rfl
theorem f_13_1 : far38 (.int 2) [0, 1, 1, 2] [-1, 0, 0, 0, 1] (.str "-0+") (.int 1) (.int 0) (.str "yynnn") 2 = true := by kernel_rfl
theorem f_13_2 : far38 (.int 2) [0, 1, 1, 2] [-1, 0, 0, 0, 1] (.str "-0+") (.int 1) (.int 0) (.str "yynnn") 3 = true := by kernel_rfl
theorem f_13_3 : far38 (.int 2) [0, 1, 1, 2] [-1, 0, 0, 0, 1] (.str "-0+") (.int 1) (.int 0) (.str "yynnn") 4 = true := by kernel_rfl
theorem f_13_4 : far38 (.int 2) [0, 1, 1, 2] [-1, 0, 0, 0, 1] (.str "-0+") (.int 1) (.int 0) (.str "yynnn") 5 = true := by kernel_rfl
theorem f_13_5 : far38 (.int 2) [0, 1, 1, 2] [-1, 0, 0, 0, 1] (.str "-0+") (.int 1) (.int 0) (.str "yynnn") 6 = true := by kernel_rfl
theorem f_13_6 : far38 (.int 2) [0, 1, 1, 2] [-1, 0, 0, 0, 1] (.str "-0+") (.int 1) (.int 0) (.str "yynnn") 7 = true := by kernel_rfl
theorem f_13_7 : far38 (.int 2) [0, 1, 1, 2] [-1, 0, 0, 0, 1] (.str "-0+") (.int 1) (.int 0) (.str "yynnn") 8 = true := by kernel_rfl
theorem f_13_8 : far38 (.int 2) [0, 1, 1, 2] [-1, 0, 0, 0, 1] (.str "-0+") (.int 1) (.int 0) (.str "yynnn") 9 = true := by kernel_rfl
end HB
namespace HB
open PySem L2
theorem m_4 : made38 (.int 1) [0, 1, 2, 3] [1, 0, 0, -1] (.str "+0-") (.int 1) (.int 0) (.str "nnnnn") = true := by kernel_rfl
theorem f_4_0 : far38 (.int 1) [0, 1, 2, 3] [1, 0, 0, -1] (.str "+0-") (.int 1) (.int 0) (.str "nnnnn") 1 = true := by kernel_rfl
theorem f_4_1 : far38 (.int 1) [0, 1, 2, 3] [1, 0, 0, -1] (.str "+0-") (.int 1) (.int 0) (.str "nnnnn") 2 = true := by kernel_rfl
theorem f_4_2 : far38 (.int 1) [0, 1, 2, 3] [1, 0, 0, -1] (.str "+0-") (.int 1) (.int 0) (.str "nnnnn") 3 = true := by kernel_rfl
theorem f_4_3 : far38 (.int 1) [0, 1, 2, 3] [1, 0, 0, -1] (.str "+0-") (.int 1) (.int 0) (.str "nnnnn") 4 = true := by kernel_rfl
theorem f_4_4 : far38 (.int 1) [0, 1, 2, 3] [1, 0, 0, -1] (.str "+0-") (.int 1) (.int 0) (.str "nnnnn") 5 = true := by kernel_rfl
theorem f_4_5 : far38 (.int 1) [0, 1, 2, 3] [1, 0, 0, -1] (.str "+0-") (.int 1) (.int 0) (.str "nnnnn") 6 = true := by kernel_rfl
theorem f_4_6 : far38 (.int 1) [0, 1, 2, 3] [1, 0, 0, -1] (.str "+0-") (.int 1) (.int 0) (.str "nnnnn") 7 = true := by kernel_rfl
theorem f_4_7 : far38 (.int 1) [0, 1, 2, 3] [1, 0, 0, -1] (.str "+0-") (.int 1) (.int 0) (.str "nnnnn") 8 = true := by kernel_rfl
theorem f_4_8 : far38 (.int 1) [0, 1, 2, 3] [1, 0, 0, -1] (.str "+0-") (.int 1) (.int 0) (.str "nnnnn") 9 = true := by kernel_rfl
theorem m_9 : made38 (.int 0) [0, 5] [0] (.str "0") (.int 0) (.int 0) (.str "ynyny") = true := by kernel_rfl
theorem f_9_0 : far38 (.int 0) [0, 5] [0] (.str "0") (.int 0) (.int 0) (.str "ynyny") 1 = true := by kernel_rfl
theorem f_9_1 : far38 (.int 0) [0, 5] [0] (.str "0") (.int 0) (.int 0) (.str "ynyny") 2 = true := by kernel_rfl
theorem f_9_2 : far38 (.int 0) [0, 5] [0] (.str "0") (.int 0) (.int 0) (.str "ynyny") 3 = true := by kernel_rfl
theorem f_9_3 : far38 (.int 0) [0, 5] [0] (.str "0") (.int 0) (.int 0) (.str "ynyny") 4 = true := by kernel_rfl
theorem f_9_4 : far38 (.int 0) [0, 5] [0] (.str "0") (.int 0) (.int 0) (.str "ynyny") 5 = true := by kernel_rfl
theorem f_9_5 : far38 (.int 0) [0, 5] [0] (.str "0") (.int 0) (.int 0) (.str "ynyny") 6 = true := by kernel_rfl
theorem f_9_6 : far38 (.int 0) [0, 5] [0] (.str "0") (.int 0) (.int 0) (.str "ynyny") 7 = true := by kernel_rfl
theorem f_9_7 : far38 (.int 0) [0, 5] [0] (.str "0") (.int 0) (.int 0) (.str "ynyny") 8 = true := by kernel_rfl
theorem f_9_8 : far38 (.int 0) [0, 5] [0] (.str "0") (.int 0) (.int 0) (.str "ynyny") 9 = true := by kernel_rfl
theorem m_14 : made38 (.int 2) [0, 1, 1, 2] [1, 0, 0, 0, 1] (.str "+0+") (.int 0) (.int 1) (.str "nnyny") = true := by kernel_rfl
theorem f_14_0 : far38 (.int 2) [0, 1, 1, 2] [1, 0, 0, 0, 1] (.str "+0+") (.int 0) (.int 1) (.str "nnyny") 1 = true := by kernel_rfl
theorem f_14_1 : far38 (.int 2) [0, 1, 1, 2] [1, 0, 0, 0, 1] (.str "+0+") (.int 0) (.int 1) (.str "nnyny") 2 = true := by kernel_rfl
theorem f_14_2 : far38 (.int 2) [0, 1, 1, 2] [1, 0, 0, 0, 1] (.str "+0+") (.int 0) (.int 1) (.str "nnyny") 3 = true := by kernel_rfl
theorem f_14_3 : far38 (.int 2) [0, 1, 1, 2] [1, 0, 0, 0, 1] (.str "+0+") (.int 0) (.int 1) (.str "nnyny") 4 = true := by kernel_rfl
theorem f_14_4 : far38 (.int 2) [0, 1, 1, 2] [1, 0, 0, 0, 1] (.str "+0+") (.int 0) (.int 1) (.str "nnyny") 5 = true := by kernel_rfl
theorem f_14_5 : far38 (.int 2) [0, 1, 1, 2] [1, 0, 0, 0, 1] (.str "+0+") (.int 0) (.int 1) (.str "nnyny") 6 = true := by kernel_rfl
theorem f_14_6 : far38 (.int 2) [0, 1, 1, 2] [1, 0, 0, 0, 1] (.str "+0+") (.int 0) (.int 1) (.str "nnyny") 7 = true := by kernel_rfl
theorem f_14_7 : far38 (.int 2) [0, 1, 1, 2] [1, 0, 0, 0, 1] (.str "+0+") (.int 0) (.int 1) (.str "nnyny") 8 = true := by kernel_rfl
theorem f_14_8 : far38 (.int 2) [0, 1, 1, 2] [1, 0, 0, 0, 1] (.str "+0+") (.int 0) (.int 1) (.str "nnyny") 9 = true := by kernel_rfl
end HB
namespace HB
open PySem L2
theorem case_0 : Case38 (.int 1) [0, 1, 2] [0, 1, 0] (.str "0+0") (.int 0) (.int 0) (.str "nnnny") := ⟨m_0, fun r h0 h1 => by
  obtain ⟨i, rfl⟩ := Int.eq_ofNat_of_zero_le h0
  have i9 : i < 9 := by omega
  match i, i9 with
  | 0, _ => exact f_0_0
  | 1, _ => exact f_0_1
  | 2, _ => exact f_0_2
  | 3, _ => exact f_0_3
  | 4, _ => exact f_0_4
  | 5, _ => exact f_0_5
  | 6, _ => exact f_0_6
  | 7, _ => exact f_0_7
  | 8, _ => exact f_0_8
  | i + 9, h => exact absurd h (by omega)⟩
theorem case_1 : Case38 (.int 2) [0, 2] [1, -1, 1] (.str "+0+") (.int 0) (.int 1) (.str "nnyny") := ⟨m_1, fun r h0 h1 => by
  obtain ⟨i, rfl⟩ := Int.eq_ofNat_of_zero_le h0
  have i9 : i < 9 := by omega
  match i, i9 with
  | 0, _ => exact f_1_0
  | 1, _ => exact f_1_1
  | 2, _ => exact f_1_2
  | 3, _ => exact f_1_3
  | 4, _ => exact f_1_4
  | 5, _ => exact f_1_5
  | 6, _ => exact f_1_6
  | 7, _ => exact f_1_7
  | 8, _ => exact f_1_8
  | i + 9, h => exact absurd h (by omega)⟩
theorem case_2 : Case38 (.int 2) [0, 2] [1, -3, 1] (.str "+0-0+") (.int 2) (.int 0) (.str "nnynn") := ⟨m_2, fun r h0 h1 => by
  obtain ⟨i, rfl⟩ := Int.eq_ofNat_of_zero_le h0
  have i9 : i < 9 := by omega
  match i, i9 with
  | 0, _ => exact f_2_0
  | 1, _ => exact f_2_1
  | 2, _ => exact f_2_2
  | 3, _ => exact f_2_3
  | 4, _ => exact f_2_4
  | 5, _ => exact f_2_5
  | 6, _ => exact f_2_6
  | 7, _ => exact f_2_7
  | 8, _ => exact f_2_8
  | i + 9, h => exact absurd h (by omega)⟩
theorem case_3 : Case38 (.int 3) [-1, 1] [-1, 1, -1, 1] (.str "-0+") (.int 1) (.int 0) (.str "yynnn") := ⟨m_3, fun r h0 h1 => by
  obtain ⟨i, rfl⟩ := Int.eq_ofNat_of_zero_le h0
  have i9 : i < 9 := by omega
  match i, i9 with
  | 0, _ => exact f_3_0
  | 1, _ => exact f_3_1
  | 2, _ => exact f_3_2
  | 3, _ => exact f_3_3
  | 4, _ => exact f_3_4
  | 5, _ => exact f_3_5
  | 6, _ => exact f_3_6
  | 7, _ => exact f_3_7
  | 8, _ => exact f_3_8
  | i + 9, h => exact absurd h (by omega)⟩
theorem case_4 : Case38 (.int 1) [0, 1, 2, 3] [1, 0, 0, -1] (.str "+0-") (.int 1) (.int 0) (.str "nnnnn") := ⟨m_4, fun r h0 h1 => by
  obtain ⟨i, rfl⟩ := Int.eq_ofNat_of_zero_le h0
  have i9 : i < 9 := by omega
  match i, i9 with
  | 0, _ => exact f_4_0
  | 1, _ => exact f_4_1
  | 2, _ => exact f_4_2
  | 3, _ => exact f_4_3
  | 4, _ => exact f_4_4
  | 5, _ => exact f_4_5
  | 6, _ => exact f_4_6
  | 7, _ => exact f_4_7
  | 8, _ => exact f_4_8
  | i + 9, h => exact absurd h (by omega)⟩
theorem case_5 : Case38 (.int 1) [0, 1, 2, 3] [1, 0, 0, 1] (.str "+0+") (.int 0) (.int 1) (.str "nnyny") := ⟨m_5, fun r h0 h1 => by
  obtain ⟨i, rfl⟩ := Int.eq_ofNat_of_zero_le h0
  have i9 : i < 9 := by omega
  match i, i9 with
  | 0, _ => exact f_5_0
  | 1, _ => exact f_5_1
  | 2, _ => exact f_5_2
  | 3, _ => exact f_5_3
  | 4, _ => exact f_5_4
  | 5, _ => exact f_5_5
  | 6, _ => exact f_5_6
  | 7, _ => exact f_5_7
  | 8, _ => exact f_5_8
  | i + 9, h => exact absurd h (by omega)⟩
theorem case_6 : Case38 (.int 1) [0, 1, 2, 3] [-1, 0, 0, 1] (.str "-0+") (.int 1) (.int 0) (.str "ynnnn") := ⟨m_6, fun r h0 h1 => by
  obtain ⟨i, rfl⟩ := Int.eq_ofNat_of_zero_le h0
  have i9 : i < 9 := by omega
  match i, i9 with
  | 0, _ => exact f_6_0
  | 1, _ => exact f_6_1
  | 2, _ => exact f_6_2
  | 3, _ => exact f_6_3
  | 4, _ => exact f_6_4
  | 5, _ => exact f_6_5
  | 6, _ => exact f_6_6
  | 7, _ => exact f_6_7
  | 8, _ => exact f_6_8
  | i + 9, h => exact absurd h (by omega)⟩
theorem case_7 : Case38 (.int 2) [0, 1, 2] [1, 0, 0, 1] (.str "+0+") (.int 0) (.int 1) (.str "nnyny") := ⟨m_7, fun r h0 h1 => by
  obtain ⟨i, rfl⟩ := Int.eq_ofNat_of_zero_le h0
  have i9 : i < 9 := by omega
  match i, i9 with
  | 0, _ => exact f_7_0
  | 1, _ => exact f_7_1
  | 2, _ => exact f_7_2
  | 3, _ => exact f_7_3
  | 4, _ => exact f_7_4
  | 5, _ => exact f_7_5
  | 6, _ => exact f_7_6
  | 7, _ => exact f_7_7
  | 8, _ => exact f_7_8
  | i + 9, h => exact absurd h (by omega)⟩
theorem case_8 : Case38 (.int 2) [0, 1, 2] [0, 0, 0, 1] (.str "0+") (.int 0) (.int 0) (.str "ynyny") := ⟨m_8, fun r h0 h1 => by
  obtain ⟨i, rfl⟩ := Int.eq_ofNat_of_zero_le h0
  have i9 : i < 9 := by omega
  match i, i9 with
  | 0, _ => exact f_8_0
  | 1, _ => exact f_8_1
  | 2, _ => exact f_8_2
  | 3, _ => exact f_8_3
  | 4, _ => exact f_8_4
  | 5, _ => exact f_8_5
  | 6, _ => exact f_8_6
  | 7, _ => exact f_8_7
  | 8, _ => exact f_8_8
  | i + 9, h => exact absurd h (by omega)⟩
theorem case_9 : Case38 (.int 0) [0, 5] [0] (.str "0") (.int 0) (.int 0) (.str "ynyny") := ⟨m_9, fun r h0 h1 => by
  obtain ⟨i, rfl⟩ := Int.eq_ofNat_of_zero_le h0
  have i9 : i < 9 := by omega
  match i, i9 with
  | 0, _ => exact f_9_0
  | 1, _ => exact f_9_1
  | 2, _ => exact f_9_2
  | 3, _ => exact f_9_3
  | 4, _ => exact f_9_4
  | 5, _ => exact f_9_5
  | 6, _ => exact f_9_6
  | 7, _ => exact f_9_7
  | 8, _ => exact f_9_8
  | i + 9, h => exact absurd h (by omega)⟩
theorem case_10 : Case38 (.int 0) [0, 5] [2] (.str "+") (.int 0) (.int 0) (.str "ynyyy") := ⟨m_10, fun r h0 h1 => by
  obtain ⟨i, rfl⟩ := Int.eq_ofNat_of_zero_le h0
  have i9 : i < 9 := by omega
  match i, i9 with
  | 0, _ => exact f_10_0
  | 1, _ => exact f_10_1
  | 2, _ => exact f_10_2
  | 3, _ => exact f_10_3
  | 4, _ => exact f_10_4
  | 5, _ => exact f_10_5
  | 6, _ => exact f_10_6
  | 7, _ => exact f_10_7
  | 8, _ => exact f_10_8
  | i + 9, h => exact absurd h (by omega)⟩
theorem case_11 : Case38 (.int 1) [0, 1] [-1, 2] (.str "-0+") (.int 1) (.int 0) (.str "yyynn") := ⟨m_11, fun r h0 h1 => by
  obtain ⟨i, rfl⟩ := Int.eq_ofNat_of_zero_le h0
  have i9 : i < 9 := by omega
  match i, i9 with
  | 0, _ => exact f_11_0
  | 1, _ => exact f_11_1
  | 2, _ => exact f_11_2
  | 3, _ => exact f_11_3
  | 4, _ => exact f_11_4
  | 5, _ => exact f_11_5
  | 6, _ => exact f_11_6
  | 7, _ => exact f_11_7
  | 8, _ => exact f_11_8
  | i + 9, h => exact absurd h (by omega)⟩
theorem case_12 : Case38 (.int 2) [0, 2] [2, -1, 2] (.str "+") (.int 0) (.int 0) (.str "nnyyy") := ⟨m_12, fun r h0 h1 => by
  obtain ⟨i, rfl⟩ := Int.eq_ofNat_of_zero_le h0
  have i9 : i < 9 := by omega
  match i, i9 with
  | 0, _ => exact f_12_0
  | 1, _ => exact f_12_1
  | 2, _ => exact f_12_2
  | 3, _ => exact f_12_3
  | 4, _ => exact f_12_4
  | 5, _ => exact f_12_5
  | 6, _ => exact f_12_6
  | 7, _ => exact f_12_7
  | 8, _ => exact f_12_8
  | i + 9, h => exact absurd h (by omega)⟩
theorem case_13 : Case38 (.int 2) [0, 1, 1, 2] [-1, 0, 0, 0, 1] (.str "-0+") (.int 1) (.int 0) (.str "yynnn") := ⟨m_13, fun r h0 h1 => by
  obtain ⟨i, rfl⟩ := Int.eq_ofNat_of_zero_le h0
  have i9 : i < 9 := by omega
  match i, i9 with
  | 0, _ => exact f_13_0
  | 1, _ => exact f_13_1
  | 2, _ => exact f_13_2
  | 3, _ => exact f_13_3
  | 4, _ => exact f_13_4
  | 5, _ => exact f_13_5
  | 6, _ => exact f_13_6
  | 7, _ => exact f_13_7
  | 8, _ => exact f_13_8
  | i + 9, h => exact absurd h (by omega)⟩
theorem case_14 : Case38 (.int 2) [0, 1, 1, 2] [1, 0, 0, 0, 1] (.str "+0+") (.int 0) (.int 1) (.str "nnyny") := ⟨m_14, fun r h0 h1 => by
  obtain ⟨i, rfl⟩ := Int.eq_ofNat_of_zero_le h0
  have i9 : i < 9 := by omega
  match i, i9 with
  | 0, _ => exact f_14_0
  | 1, _ => exact f_14_1
  | 2, _ => exact f_14_2
  | 3, _ => exact f_14_3
  | 4, _ => exact f_14_4
  | 5, _ => exact f_14_5
  | 6, _ => exact f_14_6
  | 7, _ => exact f_14_7
  | 8, _ => exact f_14_8
  | i + 9, h => exact absurd h (by omega)⟩
def cs38 : List D := [.tuple [.int 1, .list (List.map PyData.int [0, 1, 2]), .list (List.map PyData.int [0, 1, 0]), .str "0+0", .int 0, .int 0, .str "nnnny"], .tuple [.int 2, .list (List.map PyData.int [0, 2]), .list (List.map PyData.int [1, -1, 1]), .str "+0+", .int 0, .int 1, .str "nnyny"], .tuple [.int 2, .list (List.map PyData.int [0, 2]), .list (List.map PyData.int [1, -3, 1]), .str "+0-0+", .int 2, .int 0, .str "nnynn"], .tuple [.int 3, .list (List.map PyData.int [-1, 1]), .list (List.map PyData.int [-1, 1, -1, 1]), .str "-0+", .int 1, .int 0, .str "yynnn"], .tuple [.int 1, .list (List.map PyData.int [0, 1, 2, 3]), .list (List.map PyData.int [1, 0, 0, -1]), .str "+0-", .int 1, .int 0, .str "nnnnn"], .tuple [.int 1, .list (List.map PyData.int [0, 1, 2, 3]), .list (List.map PyData.int [1, 0, 0, 1]), .str "+0+", .int 0, .int 1, .str "nnyny"], .tuple [.int 1, .list (List.map PyData.int [0, 1, 2, 3]), .list (List.map PyData.int [-1, 0, 0, 1]), .str "-0+", .int 1, .int 0, .str "ynnnn"], .tuple [.int 2, .list (List.map PyData.int [0, 1, 2]), .list (List.map PyData.int [1, 0, 0, 1]), .str "+0+", .int 0, .int 1, .str "nnyny"], .tuple [.int 2, .list (List.map PyData.int [0, 1, 2]), .list (List.map PyData.int [0, 0, 0, 1]), .str "0+", .int 0, .int 0, .str "ynyny"], .tuple [.int 0, .list (List.map PyData.int [0, 5]), .list (List.map PyData.int [0]), .str "0", .int 0, .int 0, .str "ynyny"], .tuple [.int 0, .list (List.map PyData.int [0, 5]), .list (List.map PyData.int [2]), .str "+", .int 0, .int 0, .str "ynyyy"], .tuple [.int 1, .list (List.map PyData.int [0, 1]), .list (List.map PyData.int [-1, 2]), .str "-0+", .int 1, .int 0, .str "yyynn"], .tuple [.int 2, .list (List.map PyData.int [0, 2]), .list (List.map PyData.int [2, -1, 2]), .str "+", .int 0, .int 0, .str "nnyyy"], .tuple [.int 2, .list (List.map PyData.int [0, 1, 1, 2]), .list (List.map PyData.int [-1, 0, 0, 0, 1]), .str "-0+", .int 1, .int 0, .str "yynnn"], .tuple [.int 2, .list (List.map PyData.int [0, 1, 1, 2]), .list (List.map PyData.int [1, 0, 0, 0, 1]), .str "+0+", .int 0, .int 1, .str "nnyny"]]
theorem cases_run : F_law_cases_v9df0 [] = some (.ok (.list cs38)) := by kernel_rfl
/-- a case of the list -/
structure Is38 (c n : D) (ms hs : List Int) (sg cr to an : D) : Prop where
  eq : c = .tuple [n, .list (ms.map PyData.int), .list (hs.map PyData.int), sg, cr, to, an]
  ok : Case38 n ms hs sg cr to an
  sm : ∀ h ∈ ms ++ hs, h.natAbs ≤ 9
  ln : ms.length ≤ 9 ∧ hs.length ≤ 9
theorem is_case {c : D} (hc : c ∈ cs38) : ∃ n ms hs sg cr to an, Is38 c n ms hs sg cr to an := by
  unfold cs38 at hc
  simp only [List.not_mem_nil, List.mem_cons, or_false] at hc
  rcases hc with h | h | h | h | h | h | h | h | h | h | h | h | h | h | h
  · exact ⟨_, _, _, _, _, _, _, h, case_0, by decide, by decide⟩
  · exact ⟨_, _, _, _, _, _, _, h, case_1, by decide, by decide⟩
  · exact ⟨_, _, _, _, _, _, _, h, case_2, by decide, by decide⟩
  · exact ⟨_, _, _, _, _, _, _, h, case_3, by decide, by decide⟩
  · exact ⟨_, _, _, _, _, _, _, h, case_4, by decide, by decide⟩
  · exact ⟨_, _, _, _, _, _, _, h, case_5, by decide, by decide⟩
  · exact ⟨_, _, _, _, _, _, _, h, case_6, by decide, by decide⟩
  · exact ⟨_, _, _, _, _, _, _, h, case_7, by decide, by decide⟩
  · exact ⟨_, _, _, _, _, _, _, h, case_8, by decide, by decide⟩
  · exact ⟨_, _, _, _, _, _, _, h, case_9, by decide, by decide⟩
  · exact ⟨_, _, _, _, _, _, _, h, case_10, by decide, by decide⟩
  · exact ⟨_, _, _, _, _, _, _, h, case_11, by decide, by decide⟩
  · exact ⟨_, _, _, _, _, _, _, h, case_12, by decide, by decide⟩
  · exact ⟨_, _, _, _, _, _, _, h, case_13, by decide, by decide⟩
  · exact ⟨_, _, _, _, _, _, _, h, case_14, by decide, by decide⟩
end HB
namespace HB
open PySem L2
section
variable {a b t : Rat} {A B C : Nat}
/-- how far t is on the way -/
def share (a b t : Rat) : Rat := if a = b then 0 else (t - a) / (b - a)
end
def knots (n : Nat) (ks : List Rat) : List Rat := List.replicate n (at0 ks 0) ++ (ks ++ List.replicate n (at0 ks (ks.length - 1)))
end HB
namespace HB
open PySem L2
def Nb (k : Nat → Rat) (t : Rat) (s : Nat) : Nat → Nat → Rat
  | 0, i => if i = s then 1 else 0
  | d + 1, i => share (k i) (k (i + d + 1)) t * Nb k t s d i + share (k (i + d + 2)) (k (i + 1)) t * Nb k t s d (i + 1)
end HB
namespace HB
section
variable {k : Nat → Rat} {t : Rat} {s : Nat}
/-- sums of the first n -/
def sm (n : Nat) (f : Nat → Rat) : Rat := match n with
  | 0 => 0
  | n + 1 => sm n f + f n
end
end HB
namespace HB
section
variable {p L : Nat} {k : Nat → Rat} {t : Rat} {s : Nat}
theorem later {s' : Nat} {d : Nat} (h : ∀ i, Nb k t s d i = Nb k t s' d i) : ∀ e i, Nb k t s (d + e) i = Nb k t s' (d + e) i
  | 0, i => h i
  | e + 1, i => by
    show Nb k t s (d + e + 1) i = Nb k t s' (d + e + 1) i
    unfold Nb
    rw [later h e i, later h e (i + 1)]
end
end HB
namespace HB
open PySem L2
def trimR : List Rat → List Rat
  | [] => []
  | a :: p => match trimR p with
    | [] => if a = 0 then [] else [a]
    | b :: r => a :: b :: r
/-- so many coefficients, trimmed -/
def mkP (n : Nat) (f : Nat → Rat) : List Rat := trimR ((List.range n).map f)
def psum (p q : List Rat) : List Rat := mkP (max p.length q.length) fun k => at0 p k + at0 q k
def pscale (p : List Rat) (c : Rat) : List Rat := trimR (p.map (· * c))
end HB
namespace HB
open PySem L2
theorem for_seq {α : Type} {g : D → En → Option En} {src : Mo Src} {body : Mo Fl} {ρ0 ρ : En} (L : List α) (c : α → D) (I : Nat → En → Prop) (hs : src ρ0 = some (.ok (ρ, constS (L.map c)))) (h0 : I 0 ρ)
    (h : ∀ i a ρ, L[i]? = some a → I i ρ → ∃ ρ1 ρ2 f, g (c a) ρ = some ρ1 ∧ body ρ1 = some (.ok (ρ2, f)) ∧ (f = .nx ∨ f = .ct) ∧ I (i + 1) ρ2) : ∃ ρ', sFor src g body ρ0 = some (.ok (ρ', .nx)) ∧ I L.length ρ' := by
  have key : ∀ (M : List α) (i : Nat) (ρ : En), L.drop i = M → I i ρ → ∃ ρ', forL g body (M.map c) ρ = some (.ok (ρ', .nx)) ∧ I (i + M.length) ρ' := by
    intro M
    induction M with
    | nil => exact fun i ρ _ hi => ⟨ρ, rfl, hi⟩
    | cons a M ih =>
      intro i ρ hd hi
      have ha : L[i]? = some a := by
        have := congrArg (fun l => l[0]?) hd
        simpa using this
      have hd2 : L.drop (i + 1) = M := by
        have := congrArg (List.drop 1) hd
        simpa using this
      obtain ⟨ρ1, ρ2, f, e1, e2, e3, i2⟩ := h i a ρ ha hi
      obtain ⟨ρ3, e4, i3⟩ := ih (i + 1) ρ2 hd2 i2
      refine ⟨ρ3, ?_, by rw [List.length_cons, show i + (M.length + 1) = i + 1 + M.length by omega]; exact i3⟩
      rcases e3 with rfl | rfl
      · simp only [List.map_cons, forL, e1, e2]; exact e4
      · simp only [List.map_cons, forL, e1, e2]; exact e4
  obtain ⟨ρ', e, i⟩ := key L 0 ρ rfl h0
  refine ⟨ρ', ?_, by simpa using i⟩
  unfold sFor mBind
  simp only [hs, constS]
  exact e
/-- what the first so many of one row give -/
def cv (p q : List Rat) (a k : Nat) : Rat := sm a fun i => if i ≤ k then at0 p i * at0 q (k - i) else 0
end HB
namespace HB
open PySem L2
structure Pc where
  a : Rat
  b : Rat
  p : List Rat
end HB
namespace HB
open PySem L2
def mg : Pc → List Pc → Pc × List Pc
  | l, [] => (l, [])
  | l, r :: rs => if r.p = l.p then mg ⟨l.a, r.b, r.p⟩ rs else (l, (mg r rs).1 :: (mg r rs).2)
end HB
namespace HB
open PySem L2
def esS (s : List Rat) (t : Rat) : List Rat := psum s (0 :: pscale s t)
def es (g : List Rat) : List Rat := g.foldl esS [1]
end HB
namespace HB
open PySem L2
def rowT (m : Nat) (f : Nat → Rat) : List Rat := (List.range (m + 1)).map f
def tb (m : Nat) (f : Nat → Nat → Rat) : List D := (List.range m).map fun k => .list (encL (rowT m (f k)))
end HB
namespace HB
open PySem L2
section
variable {n : Nat} {ks hs : List Rat}
theorem pw2 (a b : Nat) : 2 ^ a * 2 ^ b = 2 ^ (a + b) := (Nat.pow_add 2 a b).symm
end
end HB
namespace HB
open PySem L2
def prodL (zs : List Rat) (t : Rat) : Rat := match zs with
  | [] => 1
  | z :: zs => (t - z) * prodL zs t
def hmp (o : Option Rat) (t : Rat) : Rat := match o with
  | none => 1
  | some m => (t - m) * (t - m) + 1
end HB
namespace HB
open PySem L2
def sg (x : Rat) : Int := if 0 < x then 1 else if x < 0 then -1 else 0
def chg : List Int → Nat
  | a :: b :: r => (if a = b then 0 else 1) + chg (b :: r)
  | _ => 0
def vr (s : List Int) : Nat := chg (s.filter fun a => decide (a ≠ 0))
end HB
namespace HB
open PySem L2
structure Pl where
  a : Rat
  b : Rat
  s : Bool
  p : List Rat
  f : List Rat
end HB
namespace HB
open PySem L2
/-- numbers that are not below nought, and a number below a bound -/
structure Deal (xs : List D) (z : D) : Prop where
  is : ∃ (ns : List Int) (v : Int), xs = ns.map .int ∧ z = .int v ∧ (∀ n ∈ ns, 0 ≤ n) ∧ ns.length ≤ 100 ∧ 0 ≤ v ∧ v < 2147483647
theorem lay_ns : ∀ ns : List Int, PyData.canLayAll0 (ns.map .int) = true ∧ PyData.depthAll (ns.map .int) ≤ 1
  | [] => ⟨rfl, by simp [PyData.depthAll]⟩
  | n :: ns => by
    have ⟨i1, i2⟩ := lay_ns ns
    constructor
    · simp [PyData.canLayAll0, PyData.canLay0, i1]
    · rw [List.map_cons]
      simp only [PyData.depthAll, PyData.depth]
      omega
theorem shaped_ns (ns : List Int) : SeqAt.shaped (.list (ns.map .int)) = true := by
  have ⟨i1, i2⟩ := lay_ns ns
  have d : PyData.depth (.list (ns.map .int)) ≤ 64 := by
    simp only [PyData.depth]
    omega
  have l : PyData.canLay0 (.list (ns.map .int)) = true := by simp [PyData.canLay0, i1]
  unfold SeqAt.shaped
  rw [l, decide_eq_true d]
  rfl
theorem ne_ns (ns : List Int) : neD (.list (ns.map .int)) (.list []) = some (.bool (!decide (ns = []))) := by
  have h2 := shaped_ns ns
  have h3 : SeqAt.shaped (.list []) = true := rfl
  show (if SeqAt.shaped (.list (ns.map .int)) = true ∧ SeqAt.shaped (.list []) = true then some (PyData.bool (!PyData.eqv (.list (ns.map .int)) (.list []))) else none) = _
  rw [if_pos ⟨h2, h3⟩]
  cases ns with
  | nil => rfl
  | cons n ns => simp [PyData.eqv, PyData.eqvAll]
theorem eq_zz (a b : Int) : eqD (.int a) (.int b) = some (.bool (decide (a = b))) := by
  show (if SeqAt.shaped (.int a) = true ∧ SeqAt.shaped (.int b) = true then some (PyData.bool (PyData.eqv (.int a) (.int b))) else none) = _
  rw [if_pos ⟨rfl, rfl⟩]
  by_cases c : a = b
  · subst c; simp [PyData.eqv]
  · simp [PyData.eqv, c]
section
variable {ns : List Int} {z : D} {b s2 : Sl}
abbrev eD (z : D) (b s2 : Sl) (xs : List D) : En := [.dl false 3 z, b, s2, .gst false xs]
theorem at_eD (xs : List D) : dlAt (eD z b s2 xs) 0 = some (false, 3, z, false, xs) := rfl
theorem put_eD (xs ys : List D) (y : D) : dlPut (eD z b s2 xs) 0 false 3 y false ys = eD y b s2 ys := rfl
theorem pd_eD (xs : List D) : pDl 0 (eD z b s2 xs) = some (.list [.list xs, z]) := rfl
/-- is there a number left -/
theorem some_left : mTest (mP (pOp neD (pOp ixD (pDl 0) (fun _ => some (.int 0))) (fun _ => some (.list [])))) (eD z b s2 (ns.map .int)) = some (.ok (eD z b s2 (ns.map .int), !decide (ns = []))) := by
  have h : pOp neD (pOp ixD (pDl 0) (fun _ => some (.int 0))) (fun _ => some (.list [])) (eD z b s2 (ns.map .int)) = some (.bool (!decide (ns = []))) := by
    have i0 : ixD (.list [.list (ns.map PyData.int), z]) (.int 0) = some (.list (ns.map .int)) := rfl
    unfold pOp
    simp only [pd_eD, i0, ne_ns]
  rw [a_test]
  unfold mP
  rw [h]
  rfl
theorem last_ns (h : ns ≠ []) : ixD (.list (ns.map PyData.int)) (.int (-1)) = some (.int (ns.getLast h)) := by
  have e := atI_last (xs := ns.map PyData.int) (by simpa using h)
  rw [List.getLast_map] at e
  exact e
theorem is_nought (h : ns ≠ []) : mTest (mP (pOp eqD (pOp ixD (pOp ixD (pDl 0) (fun _ => some (.int 0))) (pUn negD (fun _ => some (.int 1)))) (fun _ => some (.int 0)))) (eD z b s2 (ns.map .int)) = some (.ok (eD z b s2 (ns.map .int), decide (ns.getLast h = 0))) := by
  have e : pOp eqD (pOp ixD (pOp ixD (pDl 0) (fun _ => some (.int 0))) (pUn negD (fun _ => some (.int 1)))) (fun _ => some (.int 0)) (eD z b s2 (ns.map .int)) = some (.bool (decide (ns.getLast h = 0))) := by
    have i0 : ixD (.list [.list (ns.map PyData.int), z]) (.int 0) = some (.list (ns.map .int)) := rfl
    have ng : negD (.int 1) = some (.int (-1)) := rfl
    unfold pOp pUn
    simp only [pd_eD, i0, ng, last_ns h, eq_zz]
  rw [a_test]
  unfold mP
  rw [e]
  rfl
theorem popped (h : ns ≠ []) : mPopD 0 (eD z b s2 (ns.map .int)) = some (.ok (eD z b s2 (ns.dropLast.map .int), .int (ns.getLast h))) := by
  have hl : (ns.map PyData.int)[(ns.map PyData.int).length - 1]? = some (.int (ns.getLast h)) := by
    rw [List.length_map, List.getElem?_map, ← List.getLast?_eq_getElem?, List.getLast?_eq_some_getLast h]
    rfl
  unfold mPopD
  rw [at_eD]
  simp only [hl, put_eD]
  rw [List.map_dropLast]
theorem loop_ok : ∀ (k : Nat) (ns : List Int), ns.length < k → (∀ n ∈ ns, 0 ≤ n) → ∃ ms : List Int, whileL (mAnd (mTest (mP (pOp neD (pOp ixD (pDl 0) (fun _ => some (.int 0))) (fun _ => some (.list []))))) (mTest (mP (pOp eqD (pOp ixD (pOp ixD (pDl 0) (fun _ => some (.int 0))) (pUn negD (fun _ => some (.int 1)))) (fun _ => some (.int 0)))))) (sDrop (mPopD 0)) k (eD z b s2 (ns.map .int)) = some (.ok (eD z b s2 (ms.map .int), .nx)) ∧ (∀ n ∈ ms, 0 ≤ n) ∧ ms.length ≤ ns.length ∧ ∀ h : ms ≠ [], 0 < ms.getLast h
  | 0, ns, hk, _ => absurd hk (Nat.not_lt_zero _)
  | k + 1, ns, hk, hp => by
    by_cases c : ns = []
    · refine ⟨[], ?_, by simp, by simp, fun h => absurd rfl h⟩
      subst c
      unfold whileL
      rw [a_and, some_left, bd_ok]
      rfl
    · by_cases c2 : ns.getLast c = 0
      · obtain ⟨ms, h1, h2, h3, h4⟩ := loop_ok k ns.dropLast (by rw [List.length_dropLast]; have := List.length_pos_iff.mpr c; omega) fun n hn => hp n (List.dropLast_subset _ hn)
        refine ⟨ms, ?_, h2, by rw [List.length_dropLast] at h3; omega, h4⟩
        have e : mAnd (mTest (mP (pOp neD (pOp ixD (pDl 0) (fun _ => some (.int 0))) (fun _ => some (.list []))))) (mTest (mP (pOp eqD (pOp ixD (pOp ixD (pDl 0) (fun _ => some (.int 0))) (pUn negD (fun _ => some (.int 1)))) (fun _ => some (.int 0))))) (eD z b s2 (ns.map .int)) = some (.ok (eD z b s2 (ns.map .int), true)) := by
          rw [a_and, some_left, bd_ok, decide_eq_false c]
          show mTest _ _ = _
          rw [is_nought c, decide_eq_true c2]
        have e2 : sDrop (mPopD 0) (eD z b s2 (ns.map .int)) = some (.ok (eD z b s2 (ns.dropLast.map .int), .nx)) := by
          show bd (mPopD 0 _) _ = _
          rw [popped c, bd_ok]
          rfl
        unfold whileL
        simp only [e, e2]
        exact h1
      · have gp : 0 < ns.getLast c := by
          have := hp _ (List.getLast_mem c)
          omega
        refine ⟨ns, ?_, hp, Nat.le_refl _, fun _ => gp⟩
        have e : mAnd (mTest (mP (pOp neD (pOp ixD (pDl 0) (fun _ => some (.int 0))) (fun _ => some (.list []))))) (mTest (mP (pOp eqD (pOp ixD (pOp ixD (pDl 0) (fun _ => some (.int 0))) (pUn negD (fun _ => some (.int 1)))) (fun _ => some (.int 0))))) (eD z b s2 (ns.map .int)) = some (.ok (eD z b s2 (ns.map .int), false)) := by
          rw [a_and, some_left, bd_ok, decide_eq_false c]
          show mTest _ _ = _
          rw [is_nought c, decide_eq_false c2]
        unfold whileL
        simp only [e]
end
theorem a_doD {ρ : En} (i : Nat) (f : Mo (List D)) : sAppD i f ρ = match dlAt ρ i with
    | none => none
    | some (_, g0, _, _, _) => bd (f ρ) fun ρ1 as => appDk i g0 as ρ1 := id rfl
theorem a_putD {ρ : En} (i : Nat) (f : Mo D) : sPutD i f ρ = bd (f ρ) fun ρ1 d => match dlAt ρ1 i with
    | some (o, g, _, o', xs) => some (.ok (dlPut ρ1 i o g d o' xs, .nx))
    | none => none := id rfl
/-- a draw -/
theorem draw_run {xs : List D} {z : D} {n : Int} (hd : Deal xs z) (h0 : 0 < n) (hn : n < 1099511627776) : ∃ xs' z' r, F_law_draw xs z [.int n] = some (.ok (xs', z', .int r)) ∧ Deal xs' z' ∧ 0 ≤ r ∧ r < n := by
  obtain ⟨ns, v, rfl, rfl, hp, hl, v0, v1⟩ := hd.is
  obtain ⟨ms, w1, w2, w3, w4⟩ := loop_ok (z := .int v) (b := .pur (.int n)) (s2 := .no) 4000 ns (by omega) hp
  have lg : Nat.blt n.natAbs.log2 9000 = true := by
    have : n.natAbs.log2 < 200 := log_small (by omega)
    exact Nat.ble_eq_true_of_le (by omega)
  have e0 : F_law_draw (ns.map .int) (.int v) [.int n] = runDl 3 g_law_draw (ns.map .int) (.int v) [.int n] := rfl
  have st : startDl 3 (ns.map .int) (.int v) [.int n] = eD (.int v) (.pur (.int n)) .no (ns.map .int) := rfl
  have md : ∀ i, modD (.int i) (.int n) = some (.int (i % n)) := fun i => mod_of h0
  have fd : ∀ i, fdivD (.int i) (.int n) = some (.int (i / n)) := fun i => fdiv_of h0 lg
  have head : g_law_draw (eD (.int v) (.pur (.int n)) .no (ns.map .int)) = g_law_draw_5 (eD (.int v) (.pur (.int n)) .no (ms.map .int)) := by
    unfold g_law_draw
    rw [a_seq]
    show bd (whileL _ _ 4000 _) _ = _
    rw [w1, bd_ok]
  rw [e0]
  unfold runDl
  rw [st, head]
  by_cases c : ms = []
  · subst c
    have m1 : modD (.int (v * 41077 + 53)) (.int 2147483647) = some (.int ((v * 41077 + 53) % 2147483647)) := mod_of (by decide)
    have f1 : ∀ i, fdivD (.int i) (.int 64) = some (.int (i / 64)) := fun i => fdiv_of (by decide) (by decide)
    have ml : mulD (.int v) (.int 41077) = some (.int (v * 41077)) := mul_of (fit_of (by omega) (by decide))
    have i1 : ∀ y : D, ixD (.list [.list [], y]) (.int 1) = some y := fun _ => rfl
    have p1 : ∀ (y : Int) (s : Sl), mP (pOp ixD (pDl 0) (fun _ => some (.int 1))) (eD (.int y) (.pur (.int n)) s []) = some (.ok (eD (.int y) (.pur (.int n)) s [], .int y)) := fun y s => rfl
    have q5 : g_law_draw_5 (eD (.int v) (.pur (.int n)) .no ([].map .int)) = some (.ok (eD (.int ((v * 41077 + 53) % 2147483647)) (.pur (.int n)) .no [], .rt (.int ((v * 41077 + 53) % 2147483647 / 64 % n)))) := by
      have sl := some_left (ns := []) (z := .int v) (b := .pur (.int n)) (s2 := .no)
      have q : sSeq (sIf (mTest (mP (pOp neD (pOp ixD (pDl 0) (fun _ => some (.int 0))) (fun _ => some (.list []))))) (sSeq (sSet 2 (mPopD 0)) g_law_draw_2) sNext) g_law_draw_4 (eD (.int v) (.pur (.int n)) .no ([].map .int)) = g_law_draw_4 (eD (.int v) (.pur (.int n)) .no ([].map .int)) := by
        rw [a_seq, a_sif, sl, bd_ok]
        rfl
      have q2 : mOp modD (mBuilt intD (mCons (mOp addD (mOp mulD (mP (pOp ixD (pDl 0) (fun _ => some (.int 1)))) (mRet (.int 41077))) (mRet (.int 53))) (mNil))) (mRet (.int 2147483647)) (eD (.int v) (.pur (.int n)) .no []) = some (.ok (eD (.int v) (.pur (.int n)) .no [], .int ((v * 41077 + 53) % 2147483647))) := by
        simp [bd_ok, lf_some, cl_ok, a_ret, a_op, a_un, a_test, a_and, a_or, a_not, a_andV, a_orV, a_notV, a_if, a_sif, a_nil, a_cons, a_star, a_list, a_tup, a_sized, a_call, a_built, a_seq, a_set, a_own, a_sret, a_next, a_isi, a_slice, a_part, a_nopart, a_range, a_seqS, a_varP, a_par2, a_xp, a_xo, a_xn, a_asg, a_make, a_chg, a_ixO, a_lenO, a_cntO, items_lst, items_tup, sizeOk, boolD, cmpD, slOf, intOf_int, len_encL, ans_rt, a_fn, List.replicate, p1, ml, addD, intD, m1]
      have q4 : g_law_draw_4 (eD (.int v) (.pur (.int n)) .no ([].map .int)) = g_law_draw_3 (eD (.int ((v * 41077 + 53) % 2147483647)) (.pur (.int n)) .no []) := by
        unfold g_law_draw_4
        rw [a_seq, a_putD]
        show bd (bd (mOp modD _ _ (eD (.int v) (.pur (.int n)) .no [])) _) _ = _
        rw [q2, bd_ok]
        rfl
      have q3 : g_law_draw_3 (eD (.int ((v * 41077 + 53) % 2147483647)) (.pur (.int n)) .no []) = some (.ok (eD (.int ((v * 41077 + 53) % 2147483647)) (.pur (.int n)) .no [], .rt (.int ((v * 41077 + 53) % 2147483647 / 64 % n)))) := by
        generalize (v * 41077 + 53) % 2147483647 = w
        unfold g_law_draw_3
        have p2 := p1 w .no
        simp [bd_ok, lf_some, cl_ok, a_ret, a_op, a_un, a_test, a_and, a_or, a_not, a_andV, a_orV, a_notV, a_if, a_sif, a_nil, a_cons, a_star, a_list, a_tup, a_sized, a_call, a_built, a_seq, a_set, a_own, a_sret, a_next, a_isi, a_slice, a_part, a_nopart, a_range, a_seqS, a_varP, a_par2, a_xp, a_xo, a_xn, a_asg, a_make, a_chg, a_ixO, a_lenO, a_cntO, items_lst, items_tup, sizeOk, boolD, cmpD, slOf, intOf_int, len_encL, ans_rt, a_fn, List.replicate, p2, f1, intD, md]
      unfold g_law_draw_5
      rw [q, q4, q3]
    rw [q5]
    refine ⟨[], _, _, rfl, ⟨[], _, rfl, rfl, by simp, by simp, Int.emod_nonneg _ (by decide), Int.emod_lt_of_pos _ (by decide)⟩, Int.emod_nonneg _ (by omega), Int.emod_lt_of_pos _ h0⟩
  · have gp := w4 c
    have q5 : g_law_draw_5 (eD (.int v) (.pur (.int n)) .no (ms.map .int)) = some (.ok (eD (.int v) (.pur (.int n)) (.pur (.int (ms.getLast c))) ((ms.dropLast ++ [ms.getLast c / n]).map .int), .rt (.int (ms.getLast c % n)))) := by
      have sl := some_left (ns := ms) (z := .int v) (b := .pur (.int n)) (s2 := .no)
      have pp := popped (z := .int v) (b := .pur (.int n)) (s2 := .no) c
      have lt : Nat.blt (ms.dropLast.map PyData.int).length 1000000 = true := Nat.ble_eq_true_of_le (by rw [List.length_map, List.length_dropLast]; omega)
      have k1 : sSet 2 (mPopD 0) (eD (.int v) (.pur (.int n)) .no (ms.map .int)) = some (.ok (eD (.int v) (.pur (.int n)) (.pur (.int (ms.getLast c))) (ms.dropLast.map .int), .nx)) := by
        rw [a_set, pp, bd_ok]
        rfl
      have k2 : g_law_draw_2 (eD (.int v) (.pur (.int n)) (.pur (.int (ms.getLast c))) (ms.dropLast.map .int)) = some (.ok (eD (.int v) (.pur (.int n)) (.pur (.int (ms.getLast c))) ((ms.dropLast ++ [ms.getLast c / n]).map .int), .rt (.int (ms.getLast c % n)))) := by
        generalize ms.getLast c = g at *
        have ar : mCons (mOp fdivD (mVar 2) (mVar 1)) mNil (eD (.int v) (.pur (.int n)) (.pur (.int g)) (ms.dropLast.map .int)) = some (.ok (eD (.int v) (.pur (.int n)) (.pur (.int g)) (ms.dropLast.map .int), [.int (g / n)])) := by
          simp [bd_ok, lf_some, cl_ok, a_ret, a_op, a_un, a_test, a_and, a_or, a_not, a_andV, a_orV, a_notV, a_if, a_sif, a_nil, a_cons, a_star, a_list, a_tup, a_sized, a_call, a_built, a_seq, a_set, a_own, a_sret, a_next, a_isi, a_slice, a_part, a_nopart, a_range, a_seqS, a_varP, a_par2, a_xp, a_xo, a_xn, a_asg, a_make, a_chg, a_ixO, a_lenO, a_cntO, items_lst, items_tup, sizeOk, boolD, cmpD, slOf, intOf_int, len_encL, ans_rt, a_fn, List.replicate, fd]
        have ap : sAppD 0 (mCons (mOp fdivD (mVar 2) (mVar 1)) mNil) (eD (.int v) (.pur (.int n)) (.pur (.int g)) (ms.dropLast.map .int)) = some (.ok (eD (.int v) (.pur (.int n)) (.pur (.int g)) ((ms.dropLast ++ [g / n]).map .int), .nx)) := by
          rw [a_doD]
          simp only [at_eD, ar, bd_ok]
          unfold appDk
          rw [at_eD]
          simp only [lt, Bool.and_true, put_eD]
          rw [List.map_append]
          rfl
        unfold g_law_draw_2
        rw [a_seq, ap, bd_ok]
        simp [bd_ok, lf_some, cl_ok, a_ret, a_op, a_un, a_test, a_and, a_or, a_not, a_andV, a_orV, a_notV, a_if, a_sif, a_nil, a_cons, a_star, a_list, a_tup, a_sized, a_call, a_built, a_seq, a_set, a_own, a_sret, a_next, a_isi, a_slice, a_part, a_nopart, a_range, a_seqS, a_varP, a_par2, a_xp, a_xo, a_xn, a_asg, a_make, a_chg, a_ixO, a_lenO, a_cntO, items_lst, items_tup, sizeOk, boolD, cmpD, slOf, intOf_int, len_encL, ans_rt, a_fn, List.replicate, g_law_draw_1, intD, md]
      unfold g_law_draw_5
      rw [a_seq, a_sif, sl, bd_ok, decide_eq_false c]
      show bd (sSeq _ _ _) _ = _
      rw [a_seq, k1, bd_ok]
      show bd (g_law_draw_2 _) _ = _
      rw [k2, bd_ok]
    rw [q5]
    refine ⟨_, _, _, rfl, ⟨_, v, rfl, rfl, fun x hx => ?_, ?_, v0, v1⟩, Int.emod_nonneg _ (by omega), Int.emod_lt_of_pos _ h0⟩
    · rcases List.mem_append.mp hx with y | y
      · exact w2 x (List.dropLast_subset _ y)
      · rw [List.mem_singleton.mp y]
        exact Int.ediv_nonneg (by omega) (by omega)
    · rw [List.length_append, List.length_dropLast, List.length_singleton]
      have := List.length_pos_iff.mpr c
      omega
end HB
namespace HB
open PySem L2
section
variable {C A B n N0 M0 V : Nat} {σ : Rat} {f : Rat → Rat} {Cs : List Pc} {s e x : Rat}
/-- from one end of a gap to the other one -/
def gapsL : Rat → List (Rat × Rat) → Rat → List (Rat × Rat)
  | p, [], e => [(p, e)]
  | p, i :: L, e => (p, i.1) :: gapsL i.2 L e
end
end HB
namespace HB
open PySem L2
theorem cut_map {α β : Type} (f : α → β) (xs : List α) (lo hi : Option Int) : cutD (xs.map f) lo hi = (cutD xs lo hi).map f := by
  unfold cutD
  rw [List.length_map, List.map_take, List.map_drop]
theorem cut_len {α : Type} (xs : List α) (lo hi : Option Int) : (cutD xs lo hi).length ≤ xs.length := by
  unfold cutD
  rw [List.length_take]; rw [List.length_drop]
  omega
theorem deal_run (ns : List Int) (k : Nat) (hl : ns.length ≤ 63) (hk : k < 1000) : ∃ xs z, F_law_deal [scr ns, natD k] = some (.ok (xs, z)) ∧ Deal xs z := by
  obtain ⟨ms, hms⟩ : ∃ ms, ms = cutD ns (some (k : Int)) (some 56) := ⟨_, rfl⟩
  have ml : ms.length ≤ 63 := by rw [hms]; exact Nat.le_trans (cut_len _ _ _) hl
  obtain ⟨as, has⟩ : ∃ as : List Int, as = ms.map fun n => if n < 0 then -n else n := ⟨_, rfl⟩
  have al : as.length ≤ 63 := by rw [has, List.length_map]; exact ml
  have ap : ∀ n ∈ as, 0 ≤ n := fun n hn => by
    rw [has] at hn
    obtain ⟨m, _, e⟩ := List.mem_map.mp hn
    subst e
    split <;> omega
  have sl : slD (some (k : Int)) (some 56) (scr ns) = some (.list (ms.map .int)) := by
    have e : slD (some (k : Int)) (some 56) (scr ns) = some (.list (cutD (ns.map PyData.int) (some (k : Int)) (some 56))) := rfl
    rw [e, cut_map, ← hms]
  have b1 : mBlk [4] (mSeqS (mSlice (mVar 0) (mPart (mVar 1)) (mPart (mRet (.int 56))))) (lcBody [4] (gSet 4) (mRet true) (mBuilt absD (mCons (mVar 4) (mNil)))) [.pur (scr ns), .pur (natD k), .no, .no, .no] = some (.ok ([.pur (scr ns), .pur (natD k), .no, .no, .no], as.map .int)) := by
    have h := blk_map (v := 4) (src := mSeqS (mSlice (mVar 0) (mPart (mVar 1)) (mPart (mRet (.int 56))))) (elt := mBuilt absD (mCons (mVar 4) (mNil))) (ρ := [.pur (scr ns), .pur (natD k), .no, .no, .no]) ms PyData.int (fun n => .int (if n < 0 then -n else n))
      (by simp [bd_ok, lf_some, cl_ok, a_ret, a_op, a_un, a_test, a_and, a_or, a_not, a_andV, a_orV, a_notV, a_if, a_sif, a_nil, a_cons, a_star, a_list, a_tup, a_sized, a_call, a_built, a_seq, a_set, a_own, a_sret, a_next, a_isi, a_slice, a_part, a_nopart, a_range, a_seqS, a_varP, a_par2, a_xp, a_xo, a_xn, a_asg, a_make, a_chg, a_ixO, a_lenO, a_cntO, items_lst, items_tup, sizeOk, boolD, cmpD, slOf, intOf_int, len_encL, ans_rt, a_fn, List.replicate, natD, sl]) (by omega) rfl fun n _ => by simp [bd_ok, lf_some, cl_ok, a_ret, a_op, a_un, a_test, a_and, a_or, a_not, a_andV, a_orV, a_notV, a_if, a_sif, a_nil, a_cons, a_star, a_list, a_tup, a_sized, a_call, a_built, a_seq, a_set, a_own, a_sret, a_next, a_isi, a_slice, a_part, a_nopart, a_range, a_seqS, a_varP, a_par2, a_xp, a_xo, a_xn, a_asg, a_make, a_chg, a_ixO, a_lenO, a_cntO, items_lst, items_tup, sizeOk, boolD, cmpD, slOf, intOf_int, len_encL, ans_rt, a_fn, List.replicate, absD]
    rw [h, has, List.map_map]
    rfl
  have e0 : F_law_deal [scr ns, natD k] = runND 5 g_law_deal [scr ns, natD k] := rfl
  have st1 : sSet 2 (mList (mBlk [4] (mSeqS (mSlice (mVar 0) (mPart (mVar 1)) (mPart (mRet (.int 56))))) (lcBody [4] (gSet 4) (mRet true) (mBuilt absD (mCons (mVar 4) (mNil)))))) [.pur (scr ns), .pur (natD k), .no, .no, .no] = some (.ok ([.pur (scr ns), .pur (natD k), .pur (.list (as.map .int)), .no, .no], .nx)) := by
    rw [a_set, a_list, b1, bd_ok, bd_ok]
    rfl
  obtain ⟨v0, hv0, hv1, st2⟩ : ∃ v0 : Int, 0 ≤ v0 ∧ v0 < 2147483647 ∧ sSet 3 (mOp addD (mRet (.int 86028121)) (mOp mulD (mRet (.int 47)) (mVar 1))) [.pur (scr ns), .pur (natD k), .pur (.list (as.map .int)), .no, .no] = some (.ok ([.pur (scr ns), .pur (natD k), .pur (.list (as.map .int)), .pur (.int v0), .no], .nx)) := by
    have ml : mulD (.int 47) (.int (k : Int)) = some (.int (47 * (k : Int))) := mul_of (fit_of (by decide) (by omega))
    refine ⟨86028121 + 47 * (k : Int), by omega, by omega, ?_⟩
    generalize scr ns = S
    simp [bd_ok, lf_some, cl_ok, a_ret, a_op, a_un, a_test, a_and, a_or, a_not, a_andV, a_orV, a_notV, a_if, a_sif, a_nil, a_cons, a_star, a_list, a_tup, a_sized, a_call, a_built, a_seq, a_set, a_own, a_sret, a_next, a_isi, a_slice, a_part, a_nopart, a_range, a_seqS, a_varP, a_par2, a_xp, a_xo, a_xn, a_asg, a_make, a_chg, a_ixO, a_lenO, a_cntO, items_lst, items_tup, sizeOk, boolD, cmpD, slOf, intOf_int, len_encL, ans_rt, a_fn, List.replicate, natD, ml, addD]
  have src : mSeqS (mVar 2) [.pur (scr ns), .pur (natD k), .pur (.list (as.map .int)), .pur (.int v0), .no] = some (.ok ([.pur (scr ns), .pur (natD k), .pur (.list (as.map .int)), .pur (.int v0), .no], constS (as.map .int))) := by
    simp [bd_ok, lf_some, cl_ok, a_ret, a_op, a_un, a_test, a_and, a_or, a_not, a_andV, a_orV, a_notV, a_if, a_sif, a_nil, a_cons, a_star, a_list, a_tup, a_sized, a_call, a_built, a_seq, a_set, a_own, a_sret, a_next, a_isi, a_slice, a_part, a_nopart, a_range, a_seqS, a_varP, a_par2, a_xp, a_xo, a_xn, a_asg, a_make, a_chg, a_ixO, a_lenO, a_cntO, items_lst, items_tup, sizeOk, boolD, cmpD, slOf, intOf_int, len_encL, ans_rt, a_fn, List.replicate]
  obtain ⟨ρ', f1, v, s4, f2, ⟨f3, f4⟩, f5⟩ := for_ok (v := 4) (body := g_law_deal_1) as PyData.int (fun _ ρ => ∃ (v : Int) (s4 : Sl), ρ = [.pur (scr ns), .pur (natD k), .pur (.list (as.map .int)), .pur (.int v), s4] ∧ (0 ≤ v ∧ v < 2147483647) ∧ (s4 = .no ∨ ∃ d, s4 = .pur d)) src ⟨v0, .no, rfl, ⟨hv0, hv1⟩, .inl rfl⟩ fun d a r ρ _ ⟨v, s4, hρ, ⟨h1, h2⟩, _⟩ => by
    subst hρ
    have ml : mulD (.int v) (.int 41077) = some (.int (v * 41077)) := mul_of (fit_of (by omega) (by decide))
    have m1 : modD (.int a) (.int 2147483543) = some (.int (a % 2147483543)) := mod_of (by decide)
    have m2 : ∀ i, modD (.int i) (.int 2147483647) = some (.int (i % 2147483647)) := fun i => mod_of (by decide)
    refine ⟨[.pur (scr ns), .pur (natD k), .pur (.list (as.map .int)), .pur (.int ((v * 41077 + a % 2147483543 + 29) % 2147483647)), .pur (.int a)], .nx, ?_, .inl rfl, _, _, rfl, ⟨Int.emod_nonneg _ (by decide), Int.emod_lt_of_pos _ (by decide)⟩, .inr ⟨_, rfl⟩⟩
    generalize scr ns = S
    generalize as.map PyData.int = A
    simp [bd_ok, lf_some, cl_ok, a_ret, a_op, a_un, a_test, a_and, a_or, a_not, a_andV, a_orV, a_notV, a_if, a_sif, a_nil, a_cons, a_star, a_list, a_tup, a_sized, a_call, a_built, a_seq, a_set, a_own, a_sret, a_next, a_isi, a_slice, a_part, a_nopart, a_range, a_seqS, a_varP, a_par2, a_xp, a_xo, a_xn, a_asg, a_make, a_chg, a_ixO, a_lenO, a_cntO, items_lst, items_tup, sizeOk, boolD, cmpD, slOf, intOf_int, len_encL, ans_rt, a_fn, List.replicate, g_law_deal_1, ml, m1, m2, addD, intD]
  subst f2
  have pw : powD (.int 10) (.int 18) = some (.int 1000000000000000000) := rfl
  have b2 : mBlk [4] (mSeqS (mVar 2)) (lcBody [4] (gSet 4) (mTest (mOp (cmpD geI) (mVar 4) (mOp powD (mRet (.int 10)) (mRet (.int 18))))) (mVar 4)) [.pur (scr ns), .pur (natD k), .pur (.list (as.map .int)), .pur (.int v), s4] = some (.ok ([.pur (scr ns), .pur (natD k), .pur (.list (as.map .int)), .pur (.int v), s4], (as.filter fun n => geI n 1000000000000000000).map .int)) := by
    have no : noOwn [.pur (scr ns), .pur (natD k), .pur (.list (as.map PyData.int)), .pur (.int v), s4] [4] = true := by
      rcases f5 with e | ⟨d, e⟩ <;> subst e <;> rfl
    exact blk_sel as PyData.int (fun n => geI n 1000000000000000000) PyData.int (by simp [bd_ok, lf_some, cl_ok, a_ret, a_op, a_un, a_test, a_and, a_or, a_not, a_andV, a_orV, a_notV, a_if, a_sif, a_nil, a_cons, a_star, a_list, a_tup, a_sized, a_call, a_built, a_seq, a_set, a_own, a_sret, a_next, a_isi, a_slice, a_part, a_nopart, a_range, a_seqS, a_varP, a_par2, a_xp, a_xo, a_xn, a_asg, a_make, a_chg, a_ixO, a_lenO, a_cntO, items_lst, items_tup, sizeOk, boolD, cmpD, slOf, intOf_int, len_encL, ans_rt, a_fn, List.replicate]) (by omega) no (fun n _ => by
      generalize scr ns = S
      generalize as.map PyData.int = A
      simp [bd_ok, lf_some, cl_ok, a_ret, a_op, a_un, a_test, a_and, a_or, a_not, a_andV, a_orV, a_notV, a_if, a_sif, a_nil, a_cons, a_star, a_list, a_tup, a_sized, a_call, a_built, a_seq, a_set, a_own, a_sret, a_next, a_isi, a_slice, a_part, a_nopart, a_range, a_seqS, a_varP, a_par2, a_xp, a_xo, a_xn, a_asg, a_make, a_chg, a_ixO, a_lenO, a_cntO, items_lst, items_tup, sizeOk, boolD, cmpD, slOf, intOf_int, len_encL, ans_rt, a_fn, List.replicate, pw]) fun n _ _ => by
      generalize scr ns = S
      generalize as.map PyData.int = A
      simp [bd_ok, lf_some, cl_ok, a_ret, a_op, a_un, a_test, a_and, a_or, a_not, a_andV, a_orV, a_notV, a_if, a_sif, a_nil, a_cons, a_star, a_list, a_tup, a_sized, a_call, a_built, a_seq, a_set, a_own, a_sret, a_next, a_isi, a_slice, a_part, a_nopart, a_range, a_seqS, a_varP, a_par2, a_xp, a_xo, a_xn, a_asg, a_make, a_chg, a_ixO, a_lenO, a_cntO, items_lst, items_tup, sizeOk, boolD, cmpD, slOf, intOf_int, len_encL, ans_rt, a_fn, List.replicate]
  have last : rRetD (mRevN (mList (mBlk [4] (mSeqS (mVar 2)) (lcBody [4] (gSet 4) (mTest (mOp (cmpD geI) (mVar 4) (mOp powD (mRet (.int 10)) (mRet (.int 18))))) (mVar 4)))) (mPart (mUn negD (mRet (.int 1))))) (mVar 3) [.pur (scr ns), .pur (natD k), .pur (.list (as.map .int)), .pur (.int v), s4] =
      some (.ok ([.pur (scr ns), .pur (natD k), .pur (.list (as.map .int)), .pur (.int v), s4], (as.filter fun n => geI n 1000000000000000000).reverse.map .int, .int v)) := by
    have e1 : mList (mBlk [4] (mSeqS (mVar 2)) (lcBody [4] (gSet 4) (mTest (mOp (cmpD geI) (mVar 4) (mOp powD (mRet (.int 10)) (mRet (.int 18))))) (mVar 4))) [.pur (scr ns), .pur (natD k), .pur (.list (as.map .int)), .pur (.int v), s4] = some (.ok ([.pur (scr ns), .pur (natD k), .pur (.list (as.map .int)), .pur (.int v), s4], .list ((as.filter fun n => geI n 1000000000000000000).map .int))) := by
      rw [a_list, b2, bd_ok]
    have e2 : mPart (mUn negD (mRet (.int 1))) [.pur (scr ns), .pur (natD k), .pur (.list (as.map .int)), .pur (.int v), s4] = some (.ok ([.pur (scr ns), .pur (natD k), .pur (.list (as.map .int)), .pur (.int v), s4], some (-1))) := rfl
    have e3 : mRevN (mList (mBlk [4] (mSeqS (mVar 2)) (lcBody [4] (gSet 4) (mTest (mOp (cmpD geI) (mVar 4) (mOp powD (mRet (.int 10)) (mRet (.int 18))))) (mVar 4)))) (mPart (mUn negD (mRet (.int 1)))) [.pur (scr ns), .pur (natD k), .pur (.list (as.map .int)), .pur (.int v), s4] = some (.ok ([.pur (scr ns), .pur (natD k), .pur (.list (as.map .int)), .pur (.int v), s4], (as.filter fun n => geI n 1000000000000000000).reverse.map .int)) := by
      unfold mRevN mBind
      simp only [e1, e2]
      rw [List.map_reverse]
      rfl
    unfold rRetD
    simp only [e3]
    rfl
  have all : g_law_deal [.pur (scr ns), .pur (natD k), .no, .no, .no] = some (.ok ([.pur (scr ns), .pur (natD k), .pur (.list (as.map .int)), .pur (.int v), s4], (as.filter fun n => geI n 1000000000000000000).reverse.map .int, .int v)) := by
    unfold g_law_deal rSeqD
    simp only [st1, st2, f1, last]
  refine ⟨(as.filter fun n => geI n 1000000000000000000).reverse.map .int, .int v, ?_, ⟨_, v, rfl, rfl, fun n hn => ap n (List.mem_filter.mp (List.mem_reverse.mp hn)).1, ?_, f3, f4⟩⟩
  · rw [e0]
    show (match g_law_deal [.pur (scr ns), .pur (natD k), .no, .no, .no] with
      | some (.ok (_, r)) => some (.ok r)
      | _ => none : Option (Except Exn (List D × D))) = _
    rw [all]
  · rw [List.length_reverse]
    exact Nat.le_trans (List.length_filter_le _ _) (by omega)
/-- a call that draws, as things stand -/
theorem a_callD {ρ : En} (F : FnDl) (i : Nat) (f : Mo (List D)) : mCallD F i f ρ = match dlAt ρ i with
    | none => none
    | some _ => bd (f ρ) fun ρ1 as => match dlAt ρ1 i with
      | none => none
      | some (o, g, z, o', xs) => match F xs z as with
        | some (.ok (xs', z', d)) => some (.ok (dlPut ρ1 i o g z' o' xs', d))
        | _ => none := by
  unfold mCallD mBind bd
  cases dlAt ρ i with
  | none => rfl
  | some t =>
    cases f ρ with
    | none => rfl
    | some r => cases r <;> rfl
end HB
namespace HB
open PySem L2
theorem a_listOf {ρ : En} (f : Mo D) : mListOf f ρ = bd (f ρ) fun ρ1 d => lf ρ1 (itemsD d) := id rfl
end HB
namespace HB
open PySem L2
theorem drawn_at {ρ : En} {f : Mo (List D)} {i : Nat} {k : Int} {o : Bool} {g : Nat} {z : D} {o' : Bool} {xs : List D} (hf : f ρ = some (.ok (ρ, [.int k]))) (hA : dlAt ρ i = some (o, g, z, o', xs)) (hd : Deal xs z) (k0 : 0 < k) (k1 : k < 1000000) :
    ∃ xs' z' r, mCallD F_law_draw i f ρ = some (.ok (dlPut ρ i o g z' o' xs', .int r)) ∧ Deal xs' z' ∧ 0 ≤ r ∧ r < k := by
  obtain ⟨xs', z', r, e, hd', r0, r1⟩ := draw_run (n := k) hd k0 (by omega)
  refine ⟨xs', z', r, ?_, hd', r0, r1⟩
  rw [a_callD]
  simp only [hA, hf, bd_ok, e]
end HB
namespace HB
open PySem L2
def numL : List Rat := [1, -1, 2, -1 / 2]
end HB
namespace HB
open PySem L2
structure Rw where
  a : Rat
  b : Rat
  c : Rat
  zs : List Rat
  o : Option Rat
def rv (r : Rw) (t : Rat) : Rat := r.c * prodL r.zs t * hmp r.o t
end HB
namespace HB
open PySem L2
section
variable {deg : Nat} {R : List Rw} {s e : Rat}
theorem gaps_in : ∀ (L : List (Rat × Rat)) (p e : Rat), (∀ i ∈ L, i.1 ≤ i.2 ∧ p ≤ i.1 ∧ i.2 ≤ e) → p ≤ e → (L.Pairwise fun i j => i.2 < j.1) → ∀ g ∈ gapsL p L e, p ≤ g.1 ∧ g.1 ≤ g.2 ∧ g.2 ≤ e
  | [], p, e, _, pe, _, g, hg => by rw [List.mem_singleton.mp hg]; exact ⟨Rat.le_refl, pe, Rat.le_refl⟩
  | i :: L, p, e, h, pe, pw, g, hg => by
    have hi := h i (by simp)
    have pw2 := List.pairwise_cons.mp pw
    rcases List.mem_cons.mp hg with x | x
    · rw [x]; exact ⟨Rat.le_refl, hi.2.1, by have := hi.1; have := hi.2.2; show i.1 ≤ e; grind⟩
    · obtain ⟨a, b, c⟩ := gaps_in L i.2 e (fun j hj => ⟨(h j (List.mem_cons_of_mem _ hj)).1, Rat.le_of_lt (pw2.1 j hj), (h j (List.mem_cons_of_mem _ hj)).2.2⟩) hi.2.2 pw2.2 g x
      exact ⟨by have := hi.1; have := hi.2.1; grind, b, c⟩
end
end HB
namespace HB
open PySem L2
theorem dcall_at {ρ ρ1 : En} {F : FnDl} {f : Mo (List D)} {i : Nat} {as : List D} {o o1 : Bool} {g g1 : Nat} {z z1 : D} {o' o1' : Bool} {xs xs1 xs' : List D} {z' d : D} (hA : dlAt ρ i = some (o, g, z, o', xs)) (hf : f ρ = some (.ok (ρ1, as))) (hB : dlAt ρ1 i = some (o1, g1, z1, o1', xs1)) (h : F xs1 z1 as = some (.ok (xs', z', d))) : mCallD F i f ρ = some (.ok (dlPut ρ1 i o1 g1 z' o1' xs', d)) := by
  rw [a_callD]
  simp only [hA, hf, bd_ok, hB, h]
theorem ccall {F : Fn} {a : Mo (List D)} {ds : List D} {d : D} {ρ : En} (ha : a ρ = some (.ok (ρ, ds))) (h : F ds = some (.ok d)) : mCall F a ρ = some (.ok (ρ, d)) := by
  rw [a_call, ha, bd_ok, h, cl_ok]
theorem one_arg {ρ : En} {m : Mo D} {d : D} {ρ1 : En} (h : m ρ = some (.ok (ρ1, d))) : mCons m (mNil) ρ = some (.ok (ρ1, [d])) := by
  rw [a_cons, h, bd_ok, a_nil, bd_ok]
/-- a test that finds nothing wrong -/
theorem past {ρ ρ1 : En} {t : Mo Bool} (h : t ρ = some (.ok (ρ1, false))) (a r : Mo Fl) : sSeq (sIf t a (sNext)) r ρ = r ρ1 := by
  rw [a_seq, a_sif, h, bd_ok, cond_false, a_next, bd_ok]
theorem past1 {ρ ρ1 : En} {t : Mo Bool} (h : t ρ = some (.ok (ρ1, false))) (a : Mo Fl) : sIf t a (sNext) ρ = some (.ok (ρ1, .nx)) := by
  rw [a_sif, h, bd_ok, cond_false, a_next]
end HB
namespace HB
open PySem L2
abbrev EMx (z L : D) (rest found : List D) (xs : List D) : En := [.dl false 4 z, .pur L, .own rest, .own found, .gst false xs]
theorem ixn_at {n i : Nat} (h : i < n) : ixN n (i : Int) = some i := by
  unfold ixN
  rw [if_pos (show _ by omega)]; rw [if_pos (show _ by omega)]
  rfl
end HB
namespace HB
open PySem L2
def okD (d : D) : Prop := PyData.canLay0 d = true ∧ PyData.depth d ≤ 20
theorem shaped_okL {L : List D} (h : ∀ d ∈ L, okD d) : SeqAt.shaped (.list L) = true := by
  have h1 : PyData.canLayAll0 L = true := by
    induction L with
    | nil => rfl
    | cons d L ih =>
      have a := (h d List.mem_cons_self).1
      simp [PyData.canLayAll0, a, ih fun x hx => h x (List.mem_cons_of_mem _ hx)]
  have h2 : PyData.depthAll L ≤ 20 := by
    clear h1
    induction L with
    | nil => simp [PyData.depthAll]
    | cons d L ih =>
      have a := (h d List.mem_cons_self).2
      have b := ih fun x hx => h x (List.mem_cons_of_mem _ hx)
      simp only [PyData.depthAll]
      omega
  have e1 : PyData.canLay0 (.list L) = true := by simp [PyData.canLay0, h1]
  have e2 : PyData.depth (.list L) = PyData.depthAll L + 1 := by simp [PyData.depth]
  unfold SeqAt.shaped
  rw [e1, e2, decide_eq_true (by omega)]
  rfl
theorem mixed_condA {z L : D} {rest found : List D} {xs : List D} (hs : SeqAt.shaped (.list rest) = true) : mTest (mEqO true 2) (EMx z L rest found xs) = some (.ok (EMx z L rest found xs, !rest.isEmpty)) := by
  have e : mEqO true 2 (EMx z L rest found xs) = some (.ok (EMx z L rest found xs, .bool (!rest.isEmpty))) := by
    show mLift (if SeqAt.shaped (.list rest) = true then some (PyData.bool (true ^^ PyData.eqv (.list rest) (.list []))) else none) _ = _
    rw [if_pos hs]
    cases rest with
    | nil => rfl
    | cons a r => simp [PyData.eqv, PyData.eqvAll, mLift]
  rw [a_test, e, bd_ok]
  rfl
theorem mixed_turnA {z L : D} {rest found : List D} {xs : List D} (hd : Deal xs z) (h0 : rest ≠ []) (hl : rest.length ≤ 100) (hf : found.length ≤ 100) :
    ∃ xs' z' i u, i < rest.length ∧ rest[i]? = some u ∧ g_law_mixed_v3e4d_1 (EMx z L rest found xs) = some (.ok (EMx z' L (rest.eraseIdx i) (found ++ [u]) xs', .nx)) ∧ Deal xs' z' := by
  have n0 : 0 < rest.length := List.length_pos_iff.mpr h0
  have ar : mCons (mLenO 2) (mNil) (EMx z L rest found xs) = some (.ok (EMx z L rest found xs, [.int ((rest.length : Nat) : Int)])) := by
    have e : mLenO 2 (EMx z L rest found xs) = some (.ok (EMx z L rest found xs, .int (rest.length : Nat))) := rfl
    rw [a_cons, e, bd_ok, a_nil, bd_ok]
  obtain ⟨xs', z', r, e1, hd1, r0, r1⟩ := drawn_at (i := 0) (k := (rest.length : Nat)) ar rfl hd (by omega) (by omega)
  obtain ⟨i, rfl⟩ := Int.eq_ofNat_of_zero_le r0
  have il : i < rest.length := by omega
  refine ⟨xs', z', i, rest[i], il, List.getElem?_eq_getElem il, ?_, hd1⟩
  have e1' : mCallD F_law_draw 0 (mCons (mLenO 2) (mNil)) (EMx z L rest found xs) = some (.ok (EMx z' L rest found xs', .int (i : Int))) := e1
  have pop : mPop 2 (mCallD F_law_draw 0 (mCons (mLenO 2) (mNil))) (EMx z L rest found xs) = some (.ok (EMx z' L (rest.eraseIdx i) found xs', rest[i])) := by
    have ix : ixN rest.length (i : Int) = some i := ixn_at il
    have gt : rest[i]? = some rest[i] := List.getElem?_eq_getElem il
    have bl : Nat.blt rest.length 1000000 = true := Nat.ble_eq_true_of_le (by omega)
    have er : rest.take i ++ rest.drop (i + 1) = rest.eraseIdx i := (List.eraseIdx_eq_take_drop_succ _ _).symm
    show mBind (mCallD F_law_draw 0 (mCons (mLenO 2) (mNil))) _ _ = _
    unfold mBind
    simp only [e1']
    show (match ixN rest.length (i : Int) with | some m => _ | none => none) = _
    rw [ix]
    show (match rest[i]? with | some d => _ | none => none) = _
    rw [gt]
    show (match Nat.blt rest.length 1000000 with | true => _ | false => none) = _
    rw [bl]
    rfl
  have ap : appC found [rest[i]] = some (found ++ [rest[i]]) := by
    have hb : Nat.blt found.length 1000000 = true := Nat.ble_eq_true_of_le (by omega)
    unfold appC
    simp only [hb]
  unfold g_law_mixed_v3e4d_1
  rw [a_chg]
  show bd (mCons (mPop 2 (mCallD F_law_draw 0 (mCons (mLenO 2) (mNil)))) (mNil) (EMx z L rest found xs)) _ = _
  rw [one_arg pop, bd_ok]
  show (match appC found [rest[i]] with | some es => _ | none => none) = _
  rw [ap]
  rfl
theorem mixed_loop {L : D} : ∀ (n k : Nat) (rest found : List D) (z : D) (xs : List D), rest.length = n → n < k → found.length + n ≤ 100 → (∀ d ∈ rest, okD d) → Deal xs z →
    ∃ xs' z' R, whileL (mTest (mEqO true 2)) (g_law_mixed_v3e4d_1) k (EMx z L rest found xs) = some (.ok (EMx z' L [] (found ++ R) xs', .nx)) ∧ Deal xs' z' ∧ (∀ d ∈ R, d ∈ rest) ∧ R.length = n
  | 0, k + 1, rest, found, z, xs, hn, _, _, hs, hd => by
    have e : rest = [] := List.length_eq_zero_iff.mp hn
    subst e
    have c := mixed_condA (z := z) (L := L) (found := found) (xs := xs) (shaped_okL hs)
    refine ⟨xs, z, [], ?_, hd, by simp, rfl⟩
    have c' : mTest (mEqO true 2) (EMx z L [] found xs) = some (.ok (EMx z L [] found xs, false)) := c
    simp only [whileL, c', List.append_nil]
  | n + 1, k + 1, rest, found, z, xs, hn, hk, hf, hs, hd => by
    have ne : rest ≠ [] := fun w => by rw [w] at hn; simp at hn
    have c := mixed_condA (z := z) (L := L) (found := found) (xs := xs) (shaped_okL hs)
    have em : rest.isEmpty = false := by
      cases rest with
      | nil => exact absurd rfl ne
      | cons a r => rfl
    rw [em] at c
    obtain ⟨xs1, z1, i, u, i1, iu, t1, hd1⟩ := mixed_turnA (z := z) (L := L) (found := found) hd ne (by omega) (by omega)
    have sub : ∀ d ∈ rest.eraseIdx i, d ∈ rest := fun d hd => List.mem_of_mem_eraseIdx hd
    obtain ⟨xs2, z2, R, e2, hd2, m2, l2⟩ := mixed_loop (L := L) n k (rest.eraseIdx i) (found ++ [u]) z1 xs1 (by rw [List.length_eraseIdx_of_lt i1]; omega) (by omega) (by rw [List.length_append, List.length_singleton]; omega) (fun d hd => hs d (sub d hd)) hd1
    refine ⟨xs2, z2, u :: R, ?_, hd2, fun d hd => ?_, by simp [l2]⟩
    · have ea : found ++ [u] ++ R = found ++ u :: R := by simp
      rw [ea] at e2
      have c' : mTest (mEqO true 2) (EMx z L rest found xs) = some (.ok (EMx z L rest found xs, true)) := c
      simp only [whileL, c', t1, e2]
    · rcases List.mem_cons.mp hd with w | w
      · rw [w]; exact List.mem_of_getElem? iu
      · exact sub d (m2 d w)
theorem mixed_any {z : D} {xs : List D} (hd : Deal xs z) (L : List D) (hs : ∀ d ∈ L, okD d) (hl : L.length ≤ 100) : ∃ xs' z' R, F_law_mixed_v3e4d xs z [.list L] = some (.ok (xs', z', .list R)) ∧ Deal xs' z' ∧ (∀ d ∈ R, d ∈ L) ∧ R.length = L.length := by
  obtain ⟨Y, hY⟩ : ∃ Y, Y = PyData.list L := ⟨_, rfl⟩
  obtain ⟨xs2, z2, R, e2, hd2, m2, l2⟩ := mixed_loop (L := Y) L.length 4000 L [] z xs rfl (by omega) (by simp; omega) hs hd
  rw [List.nil_append] at e2
  refine ⟨xs2, z2, R, ?_, hd2, m2, l2⟩
  have st : startDl 4 xs z [Y] = [.dl false 4 z, .pur Y, .no, .no, .gst false xs] := rfl
  have p : sPar2 2 3 (xConsO (mListOf (mVar 1)) (xConsO (mSized (mNil)) (xNil))) [.dl false 4 z, .pur Y, .no, .no, .gst false xs] = some (.ok (EMx z Y L [] xs, .nx)) := by
    rw [hY]
    have so : sizeOk L = true := by
      unfold sizeOk
      exact (decide_eq_true (by omega))
    have v1 : mVar 1 [.dl false 4 z, .pur (.list L), .no, .no, .gst false xs] = some (.ok ([.dl false 4 z, .pur (.list L), .no, .no, .gst false xs], .list L)) := rfl
    have x1 : mListOf (mVar 1) [.dl false 4 z, .pur (.list L), .no, .no, .gst false xs] = some (.ok ([.dl false 4 z, .pur (.list L), .no, .no, .gst false xs], L)) := by
      rw [a_listOf]
      rw [v1, bd_ok]
      rfl
    have x2 : mSized (mNil) [.dl false 4 z, .pur (.list L), .no, .no, .gst false xs] = some (.ok ([.dl false 4 z, .pur (.list L), .no, .no, .gst false xs], [])) := rfl
    rw [a_par2, a_xo, x1, bd_ok, a_xo, x2, bd_ok, a_xn, bd_ok, bd_ok, bd_ok]
    rfl
  have w : sWhile (fun _ => 4000) (mTest (mEqO true 2)) (g_law_mixed_v3e4d_1) (EMx z Y L [] xs) = some (.ok (EMx z2 Y [] R xs2, .nx)) := e2
  have all : g_law_mixed_v3e4d [.dl false 4 z, .pur Y, .no, .no, .gst false xs] = some (.ok (EMx z2 Y [] R xs2 |>.set 3 (.pur (.list R)), .rt (.list R))) := by
    unfold g_law_mixed_v3e4d
    rw [a_seq, p, bd_ok]
    show g_law_mixed_v3e4d_2 _ = _
    unfold g_law_mixed_v3e4d_2
    rw [a_seq, w, bd_ok]
    rfl
  rw [← hY]
  show runDl 4 g_law_mixed_v3e4d xs z [Y] = _
  unfold runDl
  rw [st]
  simp only [all]
  rfl
end HB
namespace HB
open PySem L2
abbrev S38 (S z : D) (s2 s3 s4 s5 s6 s7 s8 s9 s10 s11 s12 s13 s14 s15 : Sl) (xs : List D) : En := [.pur S, .dl true 16 z, s2, s3, s4, s5, s6, s7, s8, s9, s10, s11, s12, s13, s14, s15, .gst true xs]
section
variable {S z n sg cr to an : D} {xs : List D} {ms hs : List Int} {s2 s3 s4 s5 s6 s7 s8 s9 s10 s11 s12 s13 : Sl} {a : Int}
theorem two_a {ρ : En} {m1 m2 : Mo D} {d1 d2 : D} {ρ1 ρ2 : En} (h1 : m1 ρ = some (.ok (ρ1, d1))) (h2 : m2 ρ1 = some (.ok (ρ2, d2))) : mCons m1 (mCons m2 (mNil)) ρ = some (.ok (ρ2, [d1, d2])) := by
  rw [a_cons, h1, bd_ok, a_cons, h2, bd_ok, a_nil, bd_ok, bd_ok]
theorem made_get (h : made38 n ms hs sg cr to an = true) : mk38 n ms hs = some (.ok (kO (mk38 n ms hs))) ∧ PyData.dict ((.str "Bend", .none) :: kO (mk38 n ms hs)) = bO (mk38 n ms hs) ∧ F_law_case_right [bO (mk38 n ms hs), sg, cr, to, an] = some (.ok (.bool true)) := by
  unfold made38 at h
  simp only [and_true, Bool.and_eq_true] at h
  obtain ⟨h1, h2⟩ := (h)
  exact ⟨(okK_eq h1).1, (okK_eq h1).2, isTr_eq h2⟩
theorem far_get (h : far38 n ms hs sg cr to an a = true) : ∃ (L : D) (k : List (D × D)) (M r1 r2 c P : D), F_scaled [bO (mk38 n ms hs), .int a] = some (.ok L) ∧ F_law_case_right [L, sg, cr, to, an] = some (.ok (.bool true)) ∧ mk38 n (up38 ms a) (by38 hs) = some (.ok k) ∧ PyData.dict ((.str "Bend", .none) :: k) = M ∧
    F_sign_row [M] = some (.ok r1) ∧ F_sign_row [bO (mk38 n ms hs)] = some (.ok r2) ∧ neD r1 r2 = some (.bool false) ∧ F_crossings [M] = some (.ok c) ∧ neD c cr = some (.bool false) ∧ F_places [M] = some (.ok P) ∧ F_places_hold [M, P] = some (.ok (.bool true)) := by
  unfold far38 at h
  simp only [and_true, Bool.and_eq_true] at h
  obtain ⟨h1, h2, h3, h4, h5, h6, h7, h8, h9, h10⟩ := (h)
  exact ⟨_, _, _, _, _, _, _, vO_eq h1, isTr_eq h2, (okK_eq h3).1, (okK_eq h3).2, vO_eq h4, vO_eq h5, isFa_eq h6, vO_eq h7, isFa_eq h8, vO_eq h9, isTr_eq h10⟩
theorem turn38 {c : D} (hc : Is38 c n ms hs sg cr to an) (hd : Deal xs z) : ∃ xs' z' t3 t4 t12 t13, g_law_8 (S38 S z (.pur c) s3 s4 s5 s6 s7 s8 s9 s10 s11 s12 s13 .no .no xs) =
    some (.ok (S38 S z' (.pur c) (.pur t3) (.pur t4) (.pur n) (.pur (.list (ms.map PyData.int))) (.pur (.list (hs.map PyData.int))) (.pur sg) (.pur cr) (.pur to) (.pur an) (.pur t12) (.pur t13) .no .no xs', .nx)) ∧ Deal xs' z' := by
  obtain ⟨mk1, mk2, rt⟩ := made_get hc.ok.made
  obtain ⟨B, hB⟩ : ∃ B, B = bO (mk38 n ms hs) := ⟨_, rfl⟩
  rw [← hB] at mk2 rt
  obtain ⟨Ms, hMs⟩ : ∃ Ms, Ms = PyData.list (ms.map PyData.int) := ⟨_, rfl⟩
  obtain ⟨Hs, hHs⟩ : ∃ Hs, Hs = PyData.list (hs.map PyData.int) := ⟨_, rfl⟩
  have iM : itemsD Ms = some (ms.map PyData.int) := by rw [hMs]; rfl
  have iH : itemsD Hs = some (hs.map PyData.int) := by rw [hHs]; rfl
  have mk0 : I_Bend [n, Ms, Hs] = some (.ok (kO (mk38 n ms hs))) := by rw [hMs, hHs]; exact mk1
  have ce : c = .tuple [n, Ms, Hs, sg, cr, to, an] := by rw [hMs, hHs]; exact hc.eq
  rw [← hMs, ← hHs]
  -- told
  obtain ⟨ρ0, hρ0⟩ : ∃ ρ0, ρ0 = S38 S z (.pur c) s3 s4 (.pur n) (.pur Ms) (.pur Hs) (.pur sg) (.pur cr) (.pur to) (.pur an) s12 s13 .no .no xs := ⟨_, rfl⟩
  have k0 : sAsg (gTupD 7 (gConsD (gSet 5) (gConsD (gSet 6) (gConsD (gSet 7) (gConsD (gSet 8) (gConsD (gSet 9) (gConsD (gSet 10) (gConsD (gSet 11) (gNilD))))))))) (mVar 2) (S38 S z (.pur c) s3 s4 s5 s6 s7 s8 s9 s10 s11 s12 s13 .no .no xs) = some (.ok (ρ0, .nx)) := by
    rw [hρ0, ce]
    rfl
  -- made
  obtain ⟨xs1, z1, r, dr, hd1, r0, r1⟩ := drawn_at (ρ := ρ0) (i := 1) (f := mCons (mRet (.int 9)) (mNil)) (k := 9) rfl (by rw [hρ0]; rfl) hd (by decide) (by decide)
  obtain ⟨L, k, M, q1, q2, cc, P, f1, f2, f3, f4, f5, f6, f7, f8, f9, f10, f11⟩ := far_get (hc.ok.far r r0 r1)
  rw [← hB] at f1 f6
  obtain ⟨b, hb⟩ : ∃ b, b = 1 + r := ⟨_, rfl⟩
  rw [← hb] at f1 f3
  obtain ⟨ρ1, hρ1⟩ : ∃ ρ1, ρ1 = S38 S z1 (.pur c) s3 s4 (.pur n) (.pur Ms) (.pur Hs) (.pur sg) (.pur cr) (.pur to) (.pur an) (.pur B) (.pur (.int b)) .no .no xs1 := ⟨_, rfl⟩
  have k1 : sAsg (gTupD 2 (gConsD (gSet 12) (gConsD (gSet 13) (gNilD)))) (mTup (mCons (mMake "Bend" I_Bend (mCons (mVar 5) (mCons (mVar 6) (mCons (mVar 7) (mNil))))) (mCons (mOp addD (mRet (.int 1)) (mCallD F_law_draw 1 (mCons (mRet (.int 9)) (mNil)))) (mNil)))) ρ0 = some (.ok (ρ1, .nx)) := by
    have v5 : mVar 5 ρ0 = some (.ok (ρ0, n)) := by rw [hρ0]; rfl
    have v6 : mVar 6 ρ0 = some (.ok (ρ0, Ms)) := by rw [hρ0]; rfl
    have v7 : mVar 7 ρ0 = some (.ok (ρ0, Hs)) := by rw [hρ0]; rfl
    have mm : mMake "Bend" I_Bend (mCons (mVar 5) (mCons (mVar 6) (mCons (mVar 7) (mNil)))) ρ0 = some (.ok (ρ0, B)) := by
      rw [a_make, a_cons, v5, bd_ok, a_cons, v6, bd_ok, a_cons, v7, bd_ok, a_nil, bd_ok, bd_ok, bd_ok, bd_ok, mk0]
      simp only [mk2]
    have ad : addD (.int 1) (.int r) = some (.int b) := by rw [hb]; rfl
    have sz : sizeOk [B, .int b] = true := rfl
    have tp : mTup (mCons (mMake "Bend" I_Bend (mCons (mVar 5) (mCons (mVar 6) (mCons (mVar 7) (mNil))))) (mCons (mOp addD (mRet (.int 1)) (mCallD F_law_draw 1 (mCons (mRet (.int 9)) (mNil)))) (mNil))) ρ0 = some (.ok (dlPut ρ0 1 true 16 z1 true xs1, .tuple [B, .int b])) := by
      rw [a_tup, a_cons, mm, bd_ok, a_cons, a_op, a_ret, bd_ok, dr, bd_ok, ad, lf_some, bd_ok, a_nil, bd_ok, bd_ok, bd_ok, sz, if_pos rfl, lf_some]
    rw [a_asg, tp, bd_ok, hρ0, hρ1]
    rfl
  have two : ∀ (x y : D) (ρ : En) (m : Mo D), m ρ = some (.ok (ρ, x)) → mVar 8 ρ = some (.ok (ρ, sg)) → mVar 9 ρ = some (.ok (ρ, cr)) → mVar 10 ρ = some (.ok (ρ, to)) → mVar 11 ρ = some (.ok (ρ, an)) → F_law_case_right [x, sg, cr, to, an] = some (.ok (.bool true)) →
      mNot (mTest (mCall F_law_case_right (mCons m (mCons (mVar 8) (mCons (mVar 9) (mCons (mVar 10) (mCons (mVar 11) (mNil)))))))) ρ = some (.ok (ρ, false)) := fun x y ρ m h1 h2 h3 h4 h5 hf => by
    rw [a_not, a_test, a_call, a_cons, h1, bd_ok, a_cons, h2, bd_ok, a_cons, h3, bd_ok, a_cons, h4, bd_ok, a_cons, h5, bd_ok, a_nil, bd_ok, bd_ok, bd_ok, bd_ok, bd_ok, bd_ok, hf, cl_ok, bd_ok]
    rfl
  have t6 := two B B ρ1 (mVar 12) (by rw [hρ1]; rfl) (by rw [hρ1]; rfl) (by rw [hρ1]; rfl) (by rw [hρ1]; rfl) (by rw [hρ1]; rfl) rt
  -- larger
  obtain ⟨ρ2, hρ2⟩ : ∃ ρ2, ρ2 = S38 S z1 (.pur c) (.pur L) s4 (.pur n) (.pur Ms) (.pur Hs) (.pur sg) (.pur cr) (.pur to) (.pur an) (.pur B) (.pur (.int b)) .no .no xs1 := ⟨_, rfl⟩
  have k3 : sSet 3 (mCall F_scaled (mCons (mVar 12) (mCons (mVar 13) (mNil)))) ρ1 = some (.ok (ρ2, .nx)) := by
    have v12 : mVar 12 ρ1 = some (.ok (ρ1, B)) := by rw [hρ1]; rfl
    have v13 : mVar 13 ρ1 = some (.ok (ρ1, .int b)) := by rw [hρ1]; rfl
    rw [a_set, ccall (two_a v12 v13) f1, bd_ok, hρ1, hρ2]
    rfl
  have t4 := two L L ρ2 (mVar 3) (by rw [hρ2]; rfl) (by rw [hρ2]; rfl) (by rw [hρ2]; rfl) (by rw [hρ2]; rfl) (by rw [hρ2]; rfl) f2
  -- moved
  obtain ⟨ρ3, hρ3⟩ : ∃ ρ3, ρ3 = S38 S z1 (.pur c) (.pur L) (.pur M) (.pur n) (.pur Ms) (.pur Hs) (.pur sg) (.pur cr) (.pur to) (.pur an) (.pur B) (.pur (.int b)) .no .no xs1 := ⟨_, rfl⟩
  have b9 : 1 ≤ b ∧ b ≤ 9 := by omega
  have bm : mBlk [14] (mSeqS (mVar 6)) (lcBody [14] (gSet 14) (mRet true) (mOp addD (mVar 14) (mOp mulD (mRet (.int 3)) (mVar 13)))) ρ2 = some (.ok (ρ2, ms.map fun m => .int (m + 3 * b))) := by
    have v6 : mVar 6 ρ2 = some (.ok (ρ2, Ms)) := by rw [hρ2]; rfl
    refine blk_map (v := 14) ms PyData.int (fun m => .int (m + 3 * b)) (by rw [a_seqS, v6, bd_ok, iM]; rfl) (by have := hc.ln.1; omega) (by rw [hρ2]; rfl) fun m hm => ?_
    obtain ⟨ρ4, hρ4⟩ : ∃ ρ4, ρ4 = ρ2.set 14 (.pur (.int m)) := ⟨_, rfl⟩
    rw [← hρ4]
    have v14 : mVar 14 ρ4 = some (.ok (ρ4, .int m)) := by rw [hρ4, hρ2]; rfl
    have v13 : mVar 13 ρ4 = some (.ok (ρ4, .int b)) := by rw [hρ4, hρ2]; rfl
    have fit : mulFit 3 b = true := fit_by (A := 4) (B := 4) (by decide) (by omega) (by decide) (by decide) (by decide)
    have ad : addD (.int m) (.int (3 * b)) = some (.int (m + 3 * b)) := rfl
    rw [a_op, v14, bd_ok, a_op, a_ret, bd_ok, v13, bd_ok, mul_of fit, lf_some, bd_ok, ad, lf_some]
  have bh : mBlk [15] (mSeqS (mVar 7)) (lcBody [15] (gSet 15) (mRet true) (mOp mulD (mRet (.int 7)) (mVar 15))) ρ2 = some (.ok (ρ2, hs.map fun h => .int (7 * h))) := by
    have v7 : mVar 7 ρ2 = some (.ok (ρ2, Hs)) := by rw [hρ2]; rfl
    refine blk_map (v := 15) hs PyData.int (fun h => .int (7 * h)) (by rw [a_seqS, v7, bd_ok, iH]; rfl) (by have := hc.ln.2; omega) (by rw [hρ2]; rfl) fun h hh => ?_
    obtain ⟨ρ4, hρ4⟩ : ∃ ρ4, ρ4 = ρ2.set 15 (.pur (.int h)) := ⟨_, rfl⟩
    rw [← hρ4]
    have v15 : mVar 15 ρ4 = some (.ok (ρ4, .int h)) := by rw [hρ4, hρ2]; rfl
    have sm := hc.sm h (List.mem_append_right _ hh)
    have fit : mulFit 7 h = true := fit_by (A := 4) (B := 4) (by decide) (by omega) (by decide) (by decide) (by decide)
    rw [a_op, a_ret, bd_ok, v15, bd_ok, mul_of fit, lf_some]
  have k4 : sSet 4 (mMake "Bend" I_Bend (mCons (mVar 5) (mCons (mList (mBlk [14] (mSeqS (mVar 6)) (lcBody [14] (gSet 14) (mRet true) (mOp addD (mVar 14) (mOp mulD (mRet (.int 3)) (mVar 13)))))) (mCons (mList (mBlk [15] (mSeqS (mVar 7)) (lcBody [15] (gSet 15) (mRet true) (mOp mulD (mRet (.int 7)) (mVar 15))))) (mNil))))) ρ2 = some (.ok (ρ3, .nx)) := by
    have v5 : mVar 5 ρ2 = some (.ok (ρ2, n)) := by rw [hρ2]; rfl
    have mk3 : I_Bend [n, .list (ms.map fun m => .int (m + 3 * b)), .list (hs.map fun h => .int (7 * h))] = some (.ok k) := by
      rw [← f3]
      unfold mk38 up38 by38
      simp only [List.map_map]
      rfl
    rw [a_set, a_make, a_cons, v5, bd_ok, a_cons, a_list, bm, bd_ok, bd_ok, a_cons, a_list, bh, bd_ok, bd_ok, a_nil, bd_ok, bd_ok, bd_ok, bd_ok, mk3]
    simp only [f4]
    rw [bd_ok, hρ2, hρ3]
    rfl
  have v4 : mVar 4 ρ3 = some (.ok (ρ3, M)) := by rw [hρ3]; rfl
  have v12 : mVar 12 ρ3 = some (.ok (ρ3, B)) := by rw [hρ3]; rfl
  have v9 : mVar 9 ρ3 = some (.ok (ρ3, cr)) := by rw [hρ3]; rfl
  have t2 : mOr (mTest (mOp neD (mCall F_sign_row (mCons (mVar 4) (mNil))) (mCall F_sign_row (mCons (mVar 12) (mNil))))) (mTest (mOp neD (mCall F_crossings (mCons (mVar 4) (mNil))) (mVar 9))) ρ3 = some (.ok (ρ3, false)) := by
    have w1 : mTest (mOp neD (mCall F_sign_row (mCons (mVar 4) (mNil))) (mCall F_sign_row (mCons (mVar 12) (mNil)))) ρ3 = some (.ok (ρ3, false)) := by
      rw [a_test, a_op, ccall (one_arg v4) f5, bd_ok, ccall (one_arg v12) f6, bd_ok, f7, lf_some, bd_ok]
      rfl
    have w2 : mTest (mOp neD (mCall F_crossings (mCons (mVar 4) (mNil))) (mVar 9)) ρ3 = some (.ok (ρ3, false)) := by
      rw [a_test, a_op, ccall (one_arg v4) f8, bd_ok, v9, bd_ok, f9, lf_some, bd_ok]
      rfl
    rw [a_or, w1, bd_ok, cond_false, w2]
  have t1 : mTest (mOp isNotBD (mCall F_places_hold (mCons (mVar 4) (mCons (mCall F_places (mCons (mVar 4) (mNil))) (mNil)))) (mRet (.bool true))) ρ3 = some (.ok (ρ3, false)) := by
    have nb : isNotBD (.bool true) (.bool true) = some (.bool false) := rfl
    rw [a_test, a_op, ccall (two_a v4 (ccall (one_arg v4) f10)) f11, bd_ok, a_ret, bd_ok, nb, lf_some, bd_ok]
    rfl
  refine ⟨xs1, z1, L, M, B, .int b, ?_, hd1⟩
  unfold g_law_8
  rw [a_seq, k0, bd_ok]
  show g_law_7 ρ0 = _
  unfold g_law_7
  rw [a_seq, k1, bd_ok]
  show g_law_6 ρ1 = _
  unfold g_law_6
  rw [past t6]
  unfold g_law_5
  rw [a_seq, k3, bd_ok]
  show g_law_4 ρ2 = _
  unfold g_law_4
  rw [past t4]
  unfold g_law_3
  rw [a_seq, k4, bd_ok]
  show g_law_2 ρ3 = _
  unfold g_law_2
  rw [past t2]
  unfold g_law_1
  rw [past1 t1, hρ3]
end
theorem cs38_ok : ∀ d ∈ cs38, okD d := by
  have h : cs38.all (fun d => PyData.canLay0 d && decide (PyData.depth d ≤ 20)) = true := by decide +kernel
  intro d hd
  have := (List.all_eq_true.mp h) d hd
  simp only [Bool.and_eq_true, decide_eq_true_eq] at this
  exact this
theorem law_true (ns : List Int) (hn : ns.length ≤ 63) : isT (F_law [scr ns]) = true := by
  obtain ⟨S, hS⟩ : ∃ S, S = scr ns := ⟨_, rfl⟩
  have e0 : F_law [scr ns] = ans (g_law [.pur S, .no, .no, .no, .no, .no, .no, .no, .no, .no, .no, .no, .no, .no, .no, .no, .no]) := by rw [hS]; rfl
  obtain ⟨xs, z, e1, hd⟩ := deal_run ns 0 hn (by decide)
  have e1' : F_law_deal [S, .int 0] = some (.ok (xs, z)) := by rw [hS]; exact e1
  have o1 : sOwnD 1 16 F_law_deal (mCons (mVar 0) (mCons (mRet (.int 0)) (mNil))) [.pur S, .no, .no, .no, .no, .no, .no, .no, .no, .no, .no, .no, .no, .no, .no, .no, .no] = some (.ok (S38 S z .no .no .no .no .no .no .no .no .no .no .no .no .no .no xs, .nx)) := by
    have a1 : mCons (mVar 0) (mCons (mRet (.int 0)) (mNil)) [.pur S, .no, .no, .no, .no, .no, .no, .no, .no, .no, .no, .no, .no, .no, .no, .no, .no] = some (.ok ([.pur S, .no, .no, .no, .no, .no, .no, .no, .no, .no, .no, .no, .no, .no, .no, .no, .no], [S, .int 0])) := rfl
    have c : (Nat.beq 1 16 || (([.pur S, .no, .no, .no, .no, .no, .no, .no, .no, .no, .no, .no, .no, .no, .no, .no, .no] : En).set 1 .no).any isDl || !(Nat.blt 1 ([.pur S, .no, .no, .no, .no, .no, .no, .no, .no, .no, .no, .no, .no, .no, .no, .no, .no] : En).length && Nat.blt 16 ([.pur S, .no, .no, .no, .no, .no, .no, .no, .no, .no, .no, .no, .no, .no, .no, .no, .no] : En).length)) = false := by
      have ip : ∀ d, isDl (.pur d) = false := fun _ => rfl
      have io : isDl .no = false := rfl
      show (Nat.beq 1 16 || ([.pur S, .no, .no, .no, .no, .no, .no, .no, .no, .no, .no, .no, .no, .no, .no, .no, .no] : En).any isDl || !(Nat.blt 1 17 && Nat.blt 16 17)) = false
      simp only [List.any_cons, List.any_nil, ip, io]
      rfl
    unfold sOwnD mBind
    simp only [a1, e1', c]
    rfl
  obtain ⟨xs1, z1, R, e2, hd1, m2, l2⟩ := mixed_any hd cs38 cs38_ok (by decide)
  have src : mSeqS (mCallD F_law_mixed_v3e4d 1 (mCons (mCall F_law_cases_v9df0 mNil) (mNil))) (S38 S z .no .no .no .no .no .no .no .no .no .no .no .no .no .no xs) = some (.ok (S38 S z1 .no .no .no .no .no .no .no .no .no .no .no .no .no .no xs1, constS (R.map id))) := by
    have ar : mCons (mCall F_law_cases_v9df0 mNil) (mNil) (S38 S z .no .no .no .no .no .no .no .no .no .no .no .no .no .no xs) = some (.ok (S38 S z .no .no .no .no .no .no .no .no .no .no .no .no .no .no xs, [.list cs38])) := by
      rw [a_cons, a_call, a_nil, bd_ok, cases_run, cl_ok, bd_ok, a_nil, bd_ok]
    have at1 : dlAt (S38 S z .no .no .no .no .no .no .no .no .no .no .no .no .no .no xs) 1 = some (true, 16, z, true, xs) := rfl
    have it : itemsD (.list R) = some R := rfl
    rw [a_seqS, dcall_at at1 ar at1 e2, bd_ok, it, List.map_id]
    rfl
  obtain ⟨ρ', f1, hI⟩ := for_seq (g := gSet 2) (body := g_law_8) R id (fun _ ρ => ∃ xs z s2 s3 s4 s5 s6 s7 s8 s9 s10 s11 s12 s13, ρ = S38 S z s2 s3 s4 s5 s6 s7 s8 s9 s10 s11 s12 s13 .no .no xs ∧ Deal xs z) src ⟨xs1, z1, .no, .no, .no, .no, .no, .no, .no, .no, .no, .no, .no, .no, rfl, hd1⟩ fun i c ρ hc ⟨xs, z, s2, s3, s4, s5, s6, s7, s8, s9, s10, s11, s12, s13, hρ, hd⟩ => by
    subst hρ
    obtain ⟨n, ms, hs, sg, cr, to, an, ic⟩ := is_case (m2 c (List.mem_of_getElem? hc))
    obtain ⟨xs', z', t3, t4, t12, t13, e, hd'⟩ := turn38 (S := S) (s3 := s3) (s4 := s4) (s5 := s5) (s6 := s6) (s7 := s7) (s8 := s8) (s9 := s9) (s10 := s10) (s11 := s11) (s12 := s12) (s13 := s13) ic hd
    exact ⟨_, _, .nx, rfl, e, .inl rfl, xs', z', _, _, _, _, _, _, _, _, _, _, _, _, rfl, hd'⟩
  rw [e0]
  unfold g_law
  rw [a_seq, o1, bd_ok]
  show isT (ans (g_law_9 _)) = true
  unfold g_law_9
  rw [a_seq, f1, bd_ok]
  rfl
end HB
namespace HB
open PySem L2
theorem u_o1 {X : Cx} (h : X.A.units + 65 < cLine) : X.A.units + 1 < cLine := by omega
theorem sc_InvalidBend_init : FnScope ["self", "word"] ["self", "word"] (defScope s_InvalidBend_init) := ⟨rfl, rfl, rfl, by decide +kernel, rfl, by decide +kernel, by decide +kernel⟩
theorem xc_InvalidBend {P : Program} {w : World} {K : PySem.W.Frag} {mg : Str → Option Value} {base : Heap} (T : Say K mg) : XcE P w K mg base 1 "InvalidBend" "word" := by
  obtain ⟨fd, F⟩ := T.d_InvalidBend_init
  exact exc_ok F sc_InvalidBend_init T.xf_InvalidBend T.gc_InvalidBend (fun _ _ _ _ _ _ us hl => match us, hl with | [_, _], _ => rfl) fun cdv A outer s H E => exc_suite rfl rfl (by first | exact Or.inl rfl | exact Or.inr (Or.inl rfl) | exact Or.inr (Or.inr rfl)) (by first | exact Or.inl rfl | exact Or.inr (Or.inl rfl) | exact Or.inr (Or.inr rfl)) rfl T.gc_BendError T.bot_BendError T.xf_InvalidBend.o T.xf_InvalidBend.n (by decide) (by decide) (by decide) rfl rfl rfl
theorem sc_is_less : FnScope ["one", "other"] ["one", "other"] (defScope s_is_less) := ⟨rfl, rfl, rfl, by decide +kernel, rfl, by decide +kernel, by decide +kernel⟩
theorem ok_is_less {P : Program} {w : World} {K : PySem.W.Frag} {mg : Str → Option Value} {base : Heap} (T : Say K mg) : FnE P w K mg base 1 "is_less" ["one", "other"] F_is_less := by
  obtain ⟨fd, F⟩ := T.d_is_less
  exact FnE.by (F := guard 2 (runF 2 g_is_less)) (fn_ok F sc_is_less T.g_is_less (fun _ _ _ _ _ _ us hl => match us, hl with | [_, _], _ => rfl) fun cdv A outer s H E hr =>
    ss_one (s_ret (ev_cmp dop_lt (ev_op dop_mul (ev_ix (ev_var 0) (ev_int)) (ev_ix (ev_var 1) (ev_int))) (ev_op dop_mul (ev_ix (ev_var 1) (ev_int)) (ev_ix (ev_var 0) (ev_int))) (nomark _)))) mir_is_less
theorem sc_is_sequence : FnScope ["value"] ["value"] (defScope s_is_sequence) := ⟨rfl, rfl, rfl, by decide +kernel, rfl, by decide +kernel, by decide +kernel⟩
theorem ok_is_sequence {P : Program} {w : World} {K : PySem.W.Frag} {mg : Str → Option Value} {base : Heap} (T : Say K mg) : FnE P w K mg base 1 "is_sequence" ["value"] F_is_sequence := by
  obtain ⟨fd, F⟩ := T.d_is_sequence
  exact fn_ok F sc_is_sequence T.g_is_sequence (fun _ _ _ _ _ _ us hl => match us, hl with | [_], _ => rfl) fun cdv A outer s H E hr =>
    ss_one (s_ret (ev_isiLT (ev_var 0) (T.m_isinstance) (T.m_list) (T.m_tuple)))
theorem sc_common_part : FnScope ["one", "other"] ["one", "other"] (defScope s_common_part) := ⟨rfl, rfl, rfl, by decide +kernel, rfl, by decide +kernel, by decide +kernel⟩
theorem ok_common_part {P : Program} {w : World} {K : PySem.W.Frag} {mg : Str → Option Value} {base : Heap} (T : Say K mg) : FnE P w K mg base 1 "common_part" ["one", "other"] F_common_part := by
  obtain ⟨fd, F⟩ := T.d_common_part
  exact FnE.by (F := guard 2 (runF 2 g_common_part)) (fn_ok F sc_common_part T.g_common_part (fun _ _ _ _ _ _ us hl => match us, hl with | [_, _], _ => rfl) fun cdv A outer s H E hr =>
    ss_cons (s_par2 (i := 0) (j := 1) rfl sc_common_part.nd (ex_consP (ev_callB dc_abs (T.m_abs) (by decide +kernel) (ea_cons (ev_var 0) (ea_nil))) (ex_consP (ev_callB dc_abs (T.m_abs) (by decide +kernel) (ea_cons (ev_var 1) (ea_nil))) (ex_nil))))
    (ss_cons (s_while (fuelInt 1) pass_own (et_cmp dop_gt (ev_var 1) (ev_int) (nomark _)) (ss_one (s_par2 (i := 0) (j := 1) rfl sc_common_part.nd (ex_consP (ev_var 1) (ex_consP (ev_op dop_mod (ev_var 0) (ev_var 1)) (ex_nil))))))
    (ss_one (s_ret (ev_var 0))))) mir_common_part
theorem sc_is_integer : FnScope ["value"] ["value"] (defScope s_is_integer) := ⟨rfl, rfl, rfl, by decide +kernel, rfl, by decide +kernel, by decide +kernel⟩
theorem ok_is_integer {P : Program} {w : World} {K : PySem.W.Frag} {mg : Str → Option Value} {base : Heap} (T : Say K mg) : FnE P w K mg base 1 "is_integer" ["value"] F_is_integer := by
  obtain ⟨fd, F⟩ := T.d_is_integer
  exact fn_ok F sc_is_integer T.g_is_integer (fun _ _ _ _ _ _ us hl => match us, hl with | [_], _ => rfl) fun cdv A outer s H E hr =>
    ss_one (s_ret (ev_and (ev_isi tab_int (ev_var 0) (T.m_isinstance) (T.m_int) (by decide +kernel)) (ev_one (ev_not (ev_isi tab_bool (ev_var 0) (T.m_isinstance) (T.m_bool) (by decide +kernel))))))
theorem sc_is_value : FnScope ["value"] ["value"] (defScope s_is_value) := ⟨rfl, rfl, rfl, by decide +kernel, rfl, by decide +kernel, by decide +kernel⟩
theorem ok_is_value {P : Program} {w : World} {K : PySem.W.Frag} {mg : Str → Option Value} {base : Heap} (T : Say K mg) : FnE P w K mg base 2 "is_value" ["value"] F_is_value := by
  obtain ⟨fd, F⟩ := T.d_is_value
  exact fn_ok F sc_is_value T.g_is_value (fun _ _ _ _ _ _ us hl => match us, hl with | [_], _ => rfl) fun cdv A outer s H E hr =>
    ss_cons (s_if (et_val (ev_call (ok_is_integer T) (hr.mono (by decide)) pass_cx (ea_cons (ev_var 0) (ea_nil)))) (ss_one (s_ret (ev_bl))) (ss_nil))
    (ss_cons (s_if ((ew_or (et_not (et_val (ev_isi tab_tup (ev_var 0) (T.m_isinstance) (T.m_tuple) (by decide +kernel)))) (ew_or (et_cmp (dop_ne hr.units) (ev_callB dc_len (T.m_len) (by decide +kernel) (ea_cons (ev_var 0) (ea_nil))) (ev_glob T.c_PAIR) (nomark _)) (ew_or (et_not (et_val (ev_call (ok_is_integer T) (hr.mono (by decide)) pass_cx (ea_cons (ev_ix (ev_var 0) (ev_int)) (ea_nil))))) (ew_or1 (et_not (et_val (ev_call (ok_is_integer T) (hr.mono (by decide)) pass_cx (ea_cons (ev_ix (ev_var 0) (ev_int)) (ea_nil))))))))).et) (ss_one (s_ret (ev_bl))) (ss_nil))
    (ss_one (s_ret (ev_and (ev_cmp dop_gt (ev_ix (ev_var 0) (ev_int)) (ev_int) (nomark _)) (ev_one (ev_cmp (dop_eq hr.units) (ev_call (ok_common_part T) (hr.mono (by decide)) pass_cx (ea_cons (ev_ix (ev_var 0) (ev_int)) (ea_cons (ev_ix (ev_var 0) (ev_int)) (ea_nil)))) (ev_int) (nomark _)))))))
theorem sc_value_of : FnScope ["value"] ["value"] (defScope s_value_of) := ⟨rfl, rfl, rfl, by decide +kernel, rfl, by decide +kernel, by decide +kernel⟩
theorem ok_value_of {P : Program} {w : World} {K : PySem.W.Frag} {mg : Str → Option Value} {base : Heap} (T : Say K mg) : FnE P w K mg base 2 "value_of" ["value"] F_value_of := by
  obtain ⟨fd, F⟩ := T.d_value_of
  exact fn_ok F sc_value_of T.g_value_of (fun _ _ _ _ _ _ us hl => match us, hl with | [_], _ => rfl) fun cdv A outer s H E hr =>
    ss_one (s_ret (ev_if (et_val (ev_call (ok_is_integer T) (hr.mono (by decide)) pass_cx (ea_cons (ev_var 0) (ea_nil)))) (ev_tup (ea_cons (ev_var 0) (ea_cons (ev_int) (ea_nil)))) (ev_var 0)))
theorem sc_are_marks : FnScope ["degree", "marks", "rows", "counts", "one", "row", "at", "many"] ["degree", "marks"] (defScope s_are_marks) := ⟨rfl, rfl, rfl, by decide +kernel, rfl, by decide +kernel, by decide +kernel⟩
theorem ok_are_marks {P : Program} {w : World} {K : PySem.W.Frag} {mg : Str → Option Value} {base : Heap} (T : Say K mg) : FnE P w K mg base 3 "are_marks" ["degree", "marks"] F_are_marks := by
  obtain ⟨fd, F⟩ := T.d_are_marks
  exact fn_ok F sc_are_marks T.g_are_marks (fun _ _ _ _ _ _ us hl => match us, hl with | [_, _], _ => rfl) fun cdv A outer s H E hr =>
    ss_cons (s_if ((ew_or (et_not (et_val (ev_call (ok_is_sequence T) (hr.mono (by decide)) pass_cx (ea_cons (ev_var 1) (ea_nil))))) (ew_or (et_cmp dop_le (ev_callB dc_len (T.m_len) (by decide +kernel) (ea_cons (ev_var 1) (ea_nil))) (ev_int) (nomark _)) (ew_or1 (et_not (et_val (ev_callB (dc_all rfl) (T.m_all) (by decide +kernel) (ea_cons (((lc_c (own := [("one", 4)]) (iv_seq (ev_var 1)) const_seq (blkOk_by (own := [("one", 4)]) (by kernel_rfl)) (fun _ _ _ _ _ => gv_name (i := 4) sc_are_marks.nd) (fun _ _ _ _ _ => eif_nil) (fun _ _ _ _ _ => ev_call (ok_is_value T) (hr.mono (by decide)) passL (ea_cons (ev_var 4) (ea_nil)))).en rfl sc_are_marks.nd).ev) (ea_nil)))))))).et) (ss_one (s_ret (ev_bl))) (ss_nil))
    (ss_cons (s_set (i := 2) (((lc_c (own := [("one", 4)]) (iv_seq (ev_var 1)) const_seq (blkOk_by (own := [("one", 4)]) (by kernel_rfl)) (fun _ _ _ _ _ => gv_name (i := 4) sc_are_marks.nd) (fun _ _ _ _ _ => eif_nil) (fun _ _ _ _ _ => ev_call (ok_value_of T) (hr.mono (by decide)) passL (ea_cons (ev_var 4) (ea_nil)))).en rfl sc_are_marks.nd).ev) sc_are_marks.nd)
    (ss_cons (s_if (et_val (ev_callB (dc_any rfl) (T.m_any) (by decide +kernel) (ea_cons (((lc_c (own := [("at", 6)]) (iv_range1 (T.m_range) (ea_cons (ev_op dop_sub (ev_callB dc_len (T.m_len) (by decide +kernel) (ea_cons (ev_var 2) (ea_nil))) (ev_int)) (ea_nil))) const_range1 (blkOk_by (own := [("at", 6)]) (by kernel_rfl)) (fun _ _ _ _ _ => gv_name (i := 6) sc_are_marks.nd) (fun _ _ _ _ _ => eif_nil) (fun _ _ _ _ _ => ev_call (ok_is_less T) (hr.mono (by decide)) passL (ea_cons (ev_ix (ev_var 2) (ev_op dop_add (ev_var 6) (ev_int))) (ea_cons (ev_ix (ev_var 2) (ev_var 6)) (ea_nil))))).en rfl sc_are_marks.nd).ev) (ea_nil)))) (ss_one (s_ret (ev_bl))) (ss_nil))
    (ss_cons ((lc_c (own := [("row", 5)]) (iv_seq (ev_var 2)) const_seq (blkOk_by (own := [("row", 5)]) (by kernel_rfl)) (fun _ _ _ _ _ => gv_name (i := 5) sc_are_marks.nd) (fun _ _ _ _ _ => eif_nil) (fun _ _ _ _ _ => ev_callB dc_len (T.m_len) (by decide +kernel) (ea_cons (((lc_c (own := [("one", 4)]) (iv_seq (ev_var 2)) const_seq (blkOk_by (own := [("one", 4)]) (by kernel_rfl)) (fun _ _ _ _ _ => gv_name (i := 4) sc_are_marks.nd) (fun _ _ _ _ _ => eif_one (et_cmp (dop_eq hr.units) (ev_var 4) (ev_var 5) (nomark _))) (fun _ _ _ _ _ => ev_var 4)).en rfl sc_are_marks.nd).ev) (ea_nil)))).set (i := 3) rfl sc_are_marks.nd (sw_true rfl rfl rfl (by kernel_rfl)))
    (ss_one (s_ret (ev_and (ev_cmp (dop_eq hr.units) (ev_ix (ev_var 3) (ev_int)) (ev_int) (nomark _)) (ev_and (ev_cmp (dop_eq hr.units) (ev_ix (ev_var 3) (ev_neg (ev_int))) (ev_int) (nomark _)) (ev_one (ev_callB (dc_all rfl) (T.m_all) (by decide +kernel) (ea_cons (((lc_c (own := [("many", 7)]) (iv_seq (ev_slice (ev_var 3) (eo_some (ev_int)) (eo_some (ev_neg (ev_int))))) const_seq (blkOk_by (own := [("many", 7)]) (by kernel_rfl)) (fun _ _ _ _ _ => gv_name (i := 7) sc_are_marks.nd) (fun _ _ _ _ _ => eif_nil) (fun _ _ _ _ _ => ev_cmp dop_le (ev_var 7) (ev_var 0) (nomark _))).en rfl sc_are_marks.nd).ev) (ea_nil)))))))))))
theorem sc_text_of : FnScope ["value"] ["value"] (defScope s_text_of) := ⟨rfl, rfl, rfl, by decide +kernel, rfl, by decide +kernel, by decide +kernel⟩
theorem ok_text_of {P : Program} {w : World} {K : PySem.W.Frag} {mg : Str → Option Value} {base : Heap} (T : Say K mg) : FnE P w K mg base 1 "text_of" ["value"] F_text_of := by
  obtain ⟨fd, F⟩ := T.d_text_of
  exact fn_ok F sc_text_of T.g_text_of (fun _ _ _ _ _ _ us hl => match us, hl with | [_], _ => rfl) fun cdv A outer s H E hr =>
    ss_one (s_ret (ev_if (et_cmp (dop_eq hr.units) (ev_ix (ev_var 0) (ev_int)) (ev_int) (nomark _)) (ev_callTy dc_str (T.m_str) (by decide +kernel) (ea_cons (ev_ix (ev_var 0) (ev_int)) (ea_nil))) (ev_joined (ej_cons (ev_fmt (ev_ix (ev_var 0) (ev_int))) (ej_cons (ev_str) (ej_cons (ev_fmt (ev_ix (ev_var 0) (ev_int))) (ej_nil)))))))
theorem sc_text_of_bend : FnScope ["degree", "marks", "handles", "here", "there", "one"] ["degree", "marks", "handles"] (defScope s_text_of_bend) := ⟨rfl, rfl, rfl, by decide +kernel, rfl, by decide +kernel, by decide +kernel⟩
theorem ok_text_of_bend {P : Program} {w : World} {K : PySem.W.Frag} {mg : Str → Option Value} {base : Heap} (T : Say K mg) : FnE P w K mg base 2 "text_of_bend" ["degree", "marks", "handles"] F_text_of_bend := by
  obtain ⟨fd, F⟩ := T.d_text_of_bend
  exact fn_ok F sc_text_of_bend T.g_text_of_bend (fun _ _ _ _ _ _ us hl => match us, hl with | [_, _, _], _ => rfl) fun cdv A outer s H E hr =>
    ss_cons (s_par2 (i := 3) (j := 4) rfl sc_text_of_bend.nd (ex_consP (((lc_c (own := [("one", 5)]) (iv_seq (ev_var 1)) const_seq (blkOk_by (own := [("one", 5)]) (by kernel_rfl)) (fun _ _ _ _ _ => gv_name (i := 5) sc_text_of_bend.nd) (fun _ _ _ _ _ => eif_nil) (fun _ _ _ _ _ => ev_call (ok_text_of T) (hr.mono (by decide)) passL (ea_cons (ev_var 5) (ea_nil)))).en rfl sc_text_of_bend.nd).ev) (ex_consP (((lc_c (own := [("one", 5)]) (iv_seq (ev_var 2)) const_seq (blkOk_by (own := [("one", 5)]) (by kernel_rfl)) (fun _ _ _ _ _ => gv_name (i := 5) sc_text_of_bend.nd) (fun _ _ _ _ _ => eif_nil) (fun _ _ _ _ _ => ev_call (ok_text_of T) (hr.mono (by decide)) passL (ea_cons (ev_var 5) (ea_nil)))).en rfl sc_text_of_bend.nd).ev) (ex_nil))))
    (ss_one (s_ret (ev_join (ev_str) ((en_lst (ea_cons (ev_str) (ea_cons (ev_callTy dc_str (T.m_str) (by decide +kernel) (ea_cons (ev_var 0) (ea_nil))) (ea_cons (ev_str) (ea_star (ev_var 3) (ea_cons (ev_str) (ea_star (ev_var 4) (ea_nil)))))))).ev))))
theorem sc_Bend_init : FnScope ["self", "degree", "marks", "handles", "one"] ["self", "degree", "marks", "handles"] (defScope s_Bend_init) := ⟨rfl, rfl, rfl, by decide +kernel, rfl, by decide +kernel, by decide +kernel⟩
theorem mk_Bend {P : Program} {w : World} {K : PySem.W.Frag} {mg : Str → Option Value} {base : Heap} (T : Say K mg) : MkE P w K mg base 4 "Bend" 3 I_Bend := by
  obtain ⟨fd, F⟩ := T.d_Bend_init
  exact init_ok F sc_Bend_init T.mk_Bend T.gc_Bend (fun _ _ _ _ _ _ us hl => match us, hl with | [_, _, _, _], _ => rfl) fun cdv A outer s H E hr =>
    so_if ((ew_or (et_not (et_val (ev_call (ok_is_integer T) (hr.mono (by decide)) pass_cx (ea_cons (ev_var 1) (ea_nil))))) (ew_or1 (et_cmp dop_lt (ev_var 1) (ev_int) (nomark _)))).et) (ss_one (s_raise (xc_InvalidBend T) (hr.mono (by decide)) rfl (takes_of rfl rfl rfl rfl) (ev_str))) (so_if (et_not (et_val (ev_call (ok_are_marks T) (hr.mono (by decide)) pass_cx (ea_cons (ev_var 1) (ea_cons (ev_var 2) (ea_nil)))))) (ss_one (s_raise (xc_InvalidBend T) (hr.mono (by decide)) rfl (takes_of rfl rfl rfl rfl) (ev_str))) (so_if ((ew_or (et_not (et_val (ev_call (ok_is_sequence T) (hr.mono (by decide)) pass_cx (ea_cons (ev_var 3) (ea_nil))))) (ew_or1 (et_not (et_val (ev_callB (dc_all rfl) (T.m_all) (by decide +kernel) (ea_cons (((lc_c (own := [("one", 4)]) (iv_seq (ev_var 3)) const_seq (blkOk_by (own := [("one", 4)]) (by kernel_rfl)) (fun _ _ _ _ _ => gv_name (i := 4) sc_Bend_init.nd) (fun _ _ _ _ _ => eif_nil) (fun _ _ _ _ _ => ev_call (ok_is_value T) (hr.mono (by decide)) passL (ea_cons (ev_var 4) (ea_nil)))).en rfl sc_Bend_init.nd).ev) (ea_nil))))))).et) (ss_one (s_raise (xc_InvalidBend T) (hr.mono (by decide)) rfl (takes_of rfl rfl rfl rfl) (ev_str))) (so_if (et_cmp (dop_ne hr.units) (ev_callB dc_len (T.m_len) (by decide +kernel) (ea_cons (ev_var 3) (ea_nil))) (ev_op dop_sub (ev_op dop_add (ev_var 1) (ev_callB dc_len (T.m_len) (by decide +kernel) (ea_cons (ev_var 2) (ea_nil)))) (ev_int)) (nomark _)) (ss_one (s_raise (xc_InvalidBend T) (hr.mono (by decide)) rfl (takes_of rfl rfl rfl rfl) (ev_str))) (so_put (evo_of (ev_var 1))
    (so_put (evo_of (ev_callTy dc_tuple (T.m_tuple) (by decide +kernel) (ea_cons (((lc_c (own := [("one", 4)]) (iv_seq (ev_var 2)) const_seq (blkOk_by (own := [("one", 4)]) (by kernel_rfl)) (fun _ _ _ _ _ => gv_name (i := 4) sc_Bend_init.nd) (fun _ _ _ _ _ => eif_nil) (fun _ _ _ _ _ => ev_call (ok_value_of T) (hr.mono (by decide)) passL (ea_cons (ev_var 4) (ea_nil)))).en rfl sc_Bend_init.nd).ev) (ea_nil))))
    (so_put (evo_of (ev_callTy dc_tuple (T.m_tuple) (by decide +kernel) (ea_cons (((lc_c (own := [("one", 4)]) (iv_seq (ev_var 3)) const_seq (blkOk_by (own := [("one", 4)]) (by kernel_rfl)) (fun _ _ _ _ _ => gv_name (i := 4) sc_Bend_init.nd) (fun _ _ _ _ _ => eif_nil) (fun _ _ _ _ _ => ev_call (ok_value_of T) (hr.mono (by decide)) passL (ea_cons (ev_var 4) (ea_nil)))).en rfl sc_Bend_init.nd).ev) (ea_nil))))
    (so_put (evo_call (ok_text_of_bend T) (hr.mono (by decide)) pass_cx (eao_cons (evo_of (ev_var 1)) (eao_cons (evo_fld (hc := T.cl_Bend) (hn := T.na_Bend_marks)) (eao_cons (evo_fld (hc := T.cl_Bend) (hn := T.na_Bend_handles)) (eao_nil)))))
    (so_nil) T.cl_Bend T.na_Bend_text) T.cl_Bend T.na_Bend_handles) T.cl_Bend T.na_Bend_marks) T.cl_Bend T.na_Bend_degree))))
theorem sc_in_lowest : FnScope ["top", "bottom", "part"] ["top", "bottom"] (defScope s_in_lowest) := ⟨rfl, rfl, rfl, by decide +kernel, rfl, by decide +kernel, by decide +kernel⟩
theorem ok_in_lowest {P : Program} {w : World} {K : PySem.W.Frag} {mg : Str → Option Value} {base : Heap} (T : Say K mg) : FnE P w K mg base 2 "in_lowest" ["top", "bottom"] F_in_lowest := by
  obtain ⟨fd, F⟩ := T.d_in_lowest
  exact FnE.by (F := guard 2 (runF 3 g_in_lowest)) (fn_ok F sc_in_lowest T.g_in_lowest (fun _ _ _ _ _ _ us hl => match us, hl with | [_, _], _ => rfl) fun cdv A outer s H E hr =>
    ss_cons (s_set (i := 2) (ev_call (ok_common_part T) (hr.mono (by decide)) pass_cx (ea_cons (ev_var 0) (ea_cons (ev_var 1) (ea_nil)))) sc_in_lowest.nd)
    (ss_one (s_ret (ev_if (et_cmp dop_gt (ev_var 1) (ev_int) (nomark _)) (ev_tup (ea_cons (ev_op dop_fdiv (ev_var 0) (ev_var 2)) (ea_cons (ev_op dop_fdiv (ev_var 1) (ev_var 2)) (ea_nil)))) (ev_tup (ea_cons (ev_op dop_fdiv (ev_neg (ev_var 0)) (ev_var 2)) (ea_cons (ev_op dop_fdiv (ev_neg (ev_var 1)) (ev_var 2)) (ea_nil)))))))) mir_in_lowest
theorem sc_added : FnScope ["one", "other"] ["one", "other"] (defScope s_added) := ⟨rfl, rfl, rfl, by decide +kernel, rfl, by decide +kernel, by decide +kernel⟩
theorem ok_added {P : Program} {w : World} {K : PySem.W.Frag} {mg : Str → Option Value} {base : Heap} (T : Say K mg) : FnE P w K mg base 3 "added" ["one", "other"] F_added := by
  obtain ⟨fd, F⟩ := T.d_added
  exact FnE.by (F := guard 2 (runF 2 g_added)) (fn_ok F sc_added T.g_added (fun _ _ _ _ _ _ us hl => match us, hl with | [_, _], _ => rfl) fun cdv A outer s H E hr =>
    ss_one (s_ret (ev_call (ok_in_lowest T) (hr.mono (by decide)) pass_cx (ea_cons (ev_op dop_add (ev_op dop_mul (ev_ix (ev_var 0) (ev_int)) (ev_ix (ev_var 1) (ev_int))) (ev_op dop_mul (ev_ix (ev_var 1) (ev_int)) (ev_ix (ev_var 0) (ev_int)))) (ea_cons (ev_op dop_mul (ev_ix (ev_var 0) (ev_int)) (ev_ix (ev_var 1) (ev_int))) (ea_nil)))))) mir_added
theorem sc_multiplied : FnScope ["one", "other"] ["one", "other"] (defScope s_multiplied) := ⟨rfl, rfl, rfl, by decide +kernel, rfl, by decide +kernel, by decide +kernel⟩
theorem ok_multiplied {P : Program} {w : World} {K : PySem.W.Frag} {mg : Str → Option Value} {base : Heap} (T : Say K mg) : FnE P w K mg base 3 "multiplied" ["one", "other"] F_multiplied := by
  obtain ⟨fd, F⟩ := T.d_multiplied
  exact FnE.by (F := guard 2 (runF 2 g_multiplied)) (fn_ok F sc_multiplied T.g_multiplied (fun _ _ _ _ _ _ us hl => match us, hl with | [_, _], _ => rfl) fun cdv A outer s H E hr =>
    ss_one (s_ret (ev_call (ok_in_lowest T) (hr.mono (by decide)) pass_cx (ea_cons (ev_op dop_mul (ev_ix (ev_var 0) (ev_int)) (ev_ix (ev_var 1) (ev_int))) (ea_cons (ev_op dop_mul (ev_ix (ev_var 0) (ev_int)) (ev_ix (ev_var 1) (ev_int))) (ea_nil)))))) mir_multiplied
theorem sc_poly_at : FnScope ["poly", "time", "found", "value"] ["poly", "time"] (defScope s_poly_at) := ⟨rfl, rfl, rfl, by decide +kernel, rfl, by decide +kernel, by decide +kernel⟩
theorem ok_poly_at {P : Program} {w : World} {K : PySem.W.Frag} {mg : Str → Option Value} {base : Heap} (T : Say K mg) : FnE P w K mg base 4 "poly_at" ["poly", "time"] F_poly_at := by
  obtain ⟨fd, F⟩ := T.d_poly_at
  exact fn_ok F sc_poly_at T.g_poly_at (fun _ _ _ _ _ _ us hl => match us, hl with | [_, _], _ => rfl) fun cdv A outer s H E hr =>
    ss_cons (s_set (i := 2) (ev_glob T.c_NOUGHT) sc_poly_at.nd)
    (ss_cons (s_for pass_own rfl (iv_seq (ev_rev (ev_var 0) (eo_some (ev_neg (ev_int))))) const_seq (gv_name (i := 3) sc_poly_at.nd) (ss_one (s_set (i := 2) (ev_call (ok_added T) (hr.mono (by decide)) pass_cx (ea_cons (ev_call (ok_multiplied T) (hr.mono (by decide)) pass_cx (ea_cons (ev_var 2) (ea_cons (ev_var 1) (ea_nil)))) (ea_cons (ev_var 3) (ea_nil)))) sc_poly_at.nd)))
    (ss_one (s_ret (ev_var 2))))
theorem sc_is_at_most : FnScope ["one", "other"] ["one", "other"] (defScope s_is_at_most) := ⟨rfl, rfl, rfl, by decide +kernel, rfl, by decide +kernel, by decide +kernel⟩
theorem ok_is_at_most {P : Program} {w : World} {K : PySem.W.Frag} {mg : Str → Option Value} {base : Heap} (T : Say K mg) : FnE P w K mg base 2 "is_at_most" ["one", "other"] F_is_at_most := by
  obtain ⟨fd, F⟩ := T.d_is_at_most
  exact fn_ok F sc_is_at_most T.g_is_at_most (fun _ _ _ _ _ _ us hl => match us, hl with | [_, _], _ => rfl) fun cdv A outer s H E hr =>
    ss_one (s_ret (ev_not (ev_call (ok_is_less T) (hr.mono (by decide)) pass_cx (ea_cons (ev_var 1) (ea_cons (ev_var 0) (ea_nil))))))
theorem sc_poly_in : FnScope ["rows", "here", "there", "row"] ["rows", "here", "there"] (defScope s_poly_in) := ⟨rfl, rfl, rfl, by decide +kernel, rfl, by decide +kernel, by decide +kernel⟩
theorem ok_poly_in {P : Program} {w : World} {K : PySem.W.Frag} {mg : Str → Option Value} {base : Heap} (T : Say K mg) : FnE P w K mg base 3 "poly_in" ["rows", "here", "there"] F_poly_in := by
  obtain ⟨fd, F⟩ := T.d_poly_in
  exact fn_ok F sc_poly_in T.g_poly_in (fun _ _ _ _ _ _ us hl => match us, hl with | [_, _, _], _ => rfl) fun cdv A outer s H E hr =>
    ss_one (s_ret (ev_ix (((lc_c (own := [("row", 3)]) (iv_seq (ev_var 0)) const_seq (blkOk_by (own := [("row", 3)]) (by kernel_rfl)) (fun _ _ _ _ _ => gv_name (i := 3) sc_poly_in.nd) (fun _ _ _ _ _ => eif_one ((ew_and (et_val (ev_call (ok_is_at_most T) (hr.mono (by decide)) passL (ea_cons (ev_fld (ev_var 3) T.cl_Piece T.na_Piece_start) (ea_cons (ev_var 1) (ea_nil))))) (ew_and1 (et_val (ev_call (ok_is_at_most T) (hr.mono (by decide)) passL (ea_cons (ev_var 2) (ea_cons (ev_fld (ev_var 3) T.cl_Piece T.na_Piece_end) (ea_nil))))))).et)) (fun _ _ _ _ _ => ev_fld (ev_var 3) T.cl_Piece T.na_Piece_poly)).en rfl sc_poly_in.nd).ev) (ev_int)))
theorem sc_curve_at : FnScope ["rows", "time"] ["rows", "time"] (defScope s_curve_at) := ⟨rfl, rfl, rfl, by decide +kernel, rfl, by decide +kernel, by decide +kernel⟩
theorem ok_curve_at {P : Program} {w : World} {K : PySem.W.Frag} {mg : Str → Option Value} {base : Heap} (T : Say K mg) : FnE P w K mg base 5 "curve_at" ["rows", "time"] F_curve_at := by
  obtain ⟨fd, F⟩ := T.d_curve_at
  exact fn_ok F sc_curve_at T.g_curve_at (fun _ _ _ _ _ _ us hl => match us, hl with | [_, _], _ => rfl) fun cdv A outer s H E hr =>
    ss_one (s_ret (ev_call (ok_poly_at T) (hr.mono (by decide)) pass_cx (ea_cons (ev_call (ok_poly_in T) (hr.mono (by decide)) pass_cx (ea_cons (ev_var 0) (ea_cons (ev_var 1) (ea_cons (ev_var 1) (ea_nil))))) (ea_cons (ev_var 1) (ea_nil)))))
theorem sc_Place_is_known : FnScope ["self"] ["self"] (defScope s_Place_is_known) := ⟨rfl, rfl, rfl, by decide +kernel, rfl, by decide +kernel, by decide +kernel⟩
theorem me_Place_is_known {P : Program} {w : World} {K : PySem.W.Frag} {mg : Str → Option Value} {base : Heap} (T : Say K mg) : MeE P w K mg base 1 "Place" "is_known" 1 F_Place_is_known := by
  obtain ⟨fd, F⟩ := T.d_Place_is_known
  exact meth_ok F sc_Place_is_known T.cl_Place T.me_Place_is_known (fun _ _ _ _ _ _ us hl => match us, hl with | [_], _ => rfl) fun cdv A outer s H E hr =>
    ss_one (s_ret (ev_or (ev_fld (ev_var 0) T.cl_Place T.na_Place_is_stretch) (ev_one (ev_cmp (dop_eq hr.units) (ev_fld (ev_var 0) T.cl_Place T.na_Place_first) (ev_fld (ev_var 0) T.cl_Place T.na_Place_last) (nomark _)))))
theorem sc_quotient : FnScope ["one", "other"] ["one", "other"] (defScope s_quotient) := ⟨rfl, rfl, rfl, by decide +kernel, rfl, by decide +kernel, by decide +kernel⟩
theorem ok_quotient {P : Program} {w : World} {K : PySem.W.Frag} {mg : Str → Option Value} {base : Heap} (T : Say K mg) : FnE P w K mg base 3 "quotient" ["one", "other"] F_quotient := by
  obtain ⟨fd, F⟩ := T.d_quotient
  exact FnE.by (F := guard 2 (runF 2 g_quotient)) (fn_ok F sc_quotient T.g_quotient (fun _ _ _ _ _ _ us hl => match us, hl with | [_, _], _ => rfl) fun cdv A outer s H E hr =>
    ss_one (s_ret (ev_call (ok_in_lowest T) (hr.mono (by decide)) pass_cx (ea_cons (ev_op dop_mul (ev_ix (ev_var 0) (ev_int)) (ev_ix (ev_var 1) (ev_int))) (ea_cons (ev_op dop_mul (ev_ix (ev_var 0) (ev_int)) (ev_ix (ev_var 1) (ev_int))) (ea_nil)))))) mir_quotient
theorem sc_middle_of : FnScope ["one", "other"] ["one", "other"] (defScope s_middle_of) := ⟨rfl, rfl, rfl, by decide +kernel, rfl, by decide +kernel, by decide +kernel⟩
theorem ok_middle_of {P : Program} {w : World} {K : PySem.W.Frag} {mg : Str → Option Value} {base : Heap} (T : Say K mg) : FnE P w K mg base 4 "middle_of" ["one", "other"] F_middle_of := by
  obtain ⟨fd, F⟩ := T.d_middle_of
  exact fn_ok F sc_middle_of T.g_middle_of (fun _ _ _ _ _ _ us hl => match us, hl with | [_, _], _ => rfl) fun cdv A outer s H E hr =>
    ss_one (s_ret (ev_call (ok_quotient T) (hr.mono (by decide)) pass_cx (ea_cons (ev_call (ok_added T) (hr.mono (by decide)) pass_cx (ea_cons (ev_var 0) (ea_cons (ev_var 1) (ea_nil)))) (ea_cons (ev_tup (ea_cons (ev_glob T.c_PAIR) (ea_cons (ev_int) (ea_nil)))) (ea_nil)))))
theorem sc_gaps_in : FnScope ["rows", "found", "front", "gaps", "at", "start", "end", "here", "there"] ["rows", "found"] (defScope s_gaps_in) := ⟨rfl, rfl, rfl, by decide +kernel, rfl, by decide +kernel, by decide +kernel⟩
theorem ok_gaps_in {P : Program} {w : World} {K : PySem.W.Frag} {mg : Str → Option Value} {base : Heap} (T : Say K mg) : FnE P w K mg base 5 "gaps_in" ["rows", "found"] F_gaps_in := by
  obtain ⟨fd, F⟩ := T.d_gaps_in
  exact fn_ok F sc_gaps_in T.g_gaps_in (fun _ _ _ _ _ _ us hl => match us, hl with | [_, _], _ => rfl) fun cdv A outer s H E hr =>
    ss_cons (s_par2 (i := 5) (j := 6) rfl sc_gaps_in.nd (ex_consP (ev_fld (ev_ix (ev_var 0) (ev_int)) T.cl_Piece T.na_Piece_start) (ex_consP (ev_fld (ev_ix (ev_var 0) (ev_neg (ev_int))) T.cl_Piece T.na_Piece_end) (ex_nil))))
    (ss_cons (s_if (et_cmp (dop_eq hr.units) (ev_callB dc_len (T.m_len) (by decide +kernel) (ea_cons (ev_var 1) (ea_nil))) (ev_int) (nomark _)) (ss_one (s_ret ((en_lst (ea_cons (ev_var 5) (ea_nil))).ev))) (ss_nil))
    (ss_cons (s_set (i := 2) (ev_if ((ew_and (et_val (ev_meth0 (me_Place_is_known T) (hr.mono (by decide)) pass_cx (ev_ix (ev_var 1) (ev_int)))) (ew_and1 (et_cmp (dop_eq hr.units) (ev_fld (ev_ix (ev_var 1) (ev_int)) T.cl_Place T.na_Place_first) (ev_var 5) (nomark _)))).et) (ev_non) (ev_var 5)) sc_gaps_in.nd)
    (ss_cons (s_own (i := 3) (en_lst (ea_cons (ev_var 2) (ea_nil))) sc_gaps_in.nd)
    (ss_cons (s_for pass_own rfl (iv_range1 (T.m_range) (ea_cons (ev_op dop_sub (ev_callB dc_len (T.m_len) (by decide +kernel) (ea_cons (ev_var 1) (ea_nil))) (ev_int)) (ea_nil))) const_range1 (gv_name (i := 4) sc_gaps_in.nd) (ss_cons (s_par2 (i := 7) (j := 8) rfl sc_gaps_in.nd (ex_consP (ev_ix (ev_var 1) (ev_var 4)) (ex_consP (ev_ix (ev_var 1) (ev_op dop_add (ev_var 4) (ev_int))) (ex_nil))))
    (ss_one (s_if (et_not (et_val (ev_meth0 (me_Place_is_known T) (hr.mono (by decide)) pass_cx (ev_var 7)))) (ss_one (s_app (i := 3) (ea_cons (ev_fld (ev_var 7) T.cl_Place T.na_Place_last) (ea_nil)))) (ss_one (s_app (i := 3) (ea_cons (ev_if (et_val (ev_meth0 (me_Place_is_known T) (hr.mono (by decide)) pass_cx (ev_var 8))) (ev_call (ok_middle_of T) (hr.mono (by decide)) pass_cx (ea_cons (ev_fld (ev_var 7) T.cl_Place T.na_Place_last) (ea_cons (ev_fld (ev_var 8) T.cl_Place T.na_Place_first) (ea_nil)))) (ev_fld (ev_var 8) T.cl_Place T.na_Place_first)) (ea_nil))))))))
    (ss_one (s_ret ((en_lst (ea_star (ev_var 3) (ea_cons (ev_if ((ew_and (et_val (ev_meth0 (me_Place_is_known T) (hr.mono (by decide)) pass_cx (ev_ix (ev_var 1) (ev_neg (ev_int))))) (ew_and1 (et_cmp (dop_eq hr.units) (ev_fld (ev_ix (ev_var 1) (ev_neg (ev_int))) T.cl_Place T.na_Place_last) (ev_var 6) (nomark _)))).et) (ev_non) (ev_var 6)) (ea_nil)))).ev)))))))
theorem sc_Place_init : FnScope ["self", "first", "last", "is_stretch", "poly", "factor"] ["self", "first", "last", "is_stretch", "poly", "factor"] (defScope s_Place_init) := ⟨rfl, rfl, rfl, by decide +kernel, rfl, by decide +kernel, by decide +kernel⟩
theorem mk_Place {P : Program} {w : World} {K : PySem.W.Frag} {mg : Str → Option Value} {base : Heap} (T : Say K mg) : MkE P w K mg base 1 "Place" 5 I_Place := by
  obtain ⟨fd, F⟩ := T.d_Place_init
  exact init_ok F sc_Place_init T.mk_Place T.gc_Place (fun _ _ _ _ _ _ us hl => match us, hl with | [_, _, _, _, _, _], _ => rfl) fun cdv A outer s H E hr =>
    so_put (evo_of (ev_var 1))
    (so_put (evo_of (ev_var 2))
    (so_put (evo_of (ev_var 3))
    (so_put (evo_of (ev_var 4))
    (so_put (evo_of (ev_var 5))
    (so_nil) T.cl_Place T.na_Place_factor) T.cl_Place T.na_Place_poly) T.cl_Place T.na_Place_is_stretch) T.cl_Place T.na_Place_last) T.cl_Place T.na_Place_first
theorem sc_changes_of : FnScope ["signs", "left", "sign", "at"] ["signs"] (defScope s_changes_of) := ⟨rfl, rfl, rfl, by decide +kernel, rfl, by decide +kernel, by decide +kernel⟩
theorem ok_changes_of {P : Program} {w : World} {K : PySem.W.Frag} {mg : Str → Option Value} {base : Heap} (T : Say K mg) : FnE P w K mg base 1 "changes_of" ["signs"] F_changes_of := by
  obtain ⟨fd, F⟩ := T.d_changes_of
  exact fn_ok F sc_changes_of T.g_changes_of (fun _ _ _ _ _ _ us hl => match us, hl with | [_], _ => rfl) fun cdv A outer s H E hr =>
    ss_cons (s_set (i := 1) (((lc_c (own := [("sign", 2)]) (iv_seq (ev_var 0)) const_seq (blkOk_by (own := [("sign", 2)]) (by kernel_rfl)) (fun _ _ _ _ _ => gv_name (i := 2) sc_changes_of.nd) (fun _ _ _ _ _ => eif_one (et_cmp (dop_ne hr.units) (ev_var 2) (ev_int) (nomark _))) (fun _ _ _ _ _ => ev_var 2)).en rfl sc_changes_of.nd).ev) sc_changes_of.nd)
    (ss_one (s_ret (ev_callB dc_len (T.m_len) (by decide +kernel) (ea_cons (((lc_c (own := [("at", 3)]) (iv_range1 (T.m_range) (ea_cons (ev_op dop_sub (ev_callB dc_len (T.m_len) (by decide +kernel) (ea_cons (ev_var 1) (ea_nil))) (ev_int)) (ea_nil))) const_range1 (blkOk_by (own := [("at", 3)]) (by kernel_rfl)) (fun _ _ _ _ _ => gv_name (i := 3) sc_changes_of.nd) (fun _ _ _ _ _ => eif_one (et_cmp (dop_ne hr.units) (ev_ix (ev_var 1) (ev_var 3)) (ev_ix (ev_var 1) (ev_op dop_add (ev_var 3) (ev_int))) (nomark _))) (fun _ _ _ _ _ => ev_var 3)).en rfl sc_changes_of.nd).ev) (ea_nil)))))
theorem sc_sign_of : FnScope ["value"] ["value"] (defScope s_sign_of) := ⟨rfl, rfl, rfl, by decide +kernel, rfl, by decide +kernel, by decide +kernel⟩
theorem ok_sign_of {P : Program} {w : World} {K : PySem.W.Frag} {mg : Str → Option Value} {base : Heap} (T : Say K mg) : FnE P w K mg base 1 "sign_of" ["value"] F_sign_of := by
  obtain ⟨fd, F⟩ := T.d_sign_of
  exact fn_ok F sc_sign_of T.g_sign_of (fun _ _ _ _ _ _ us hl => match us, hl with | [_], _ => rfl) fun cdv A outer s H E hr =>
    ss_one (s_ret (ev_op dop_subB (ev_cmp dop_gt (ev_ix (ev_var 0) (ev_int)) (ev_int) (nomark _)) (ev_cmp dop_lt (ev_ix (ev_var 0) (ev_int)) (ev_int) (nomark _))))
theorem sc_changes_at : FnScope ["row", "time", "poly"] ["row", "time"] (defScope s_changes_at) := ⟨rfl, rfl, rfl, by decide +kernel, rfl, by decide +kernel, by decide +kernel⟩
theorem ok_changes_at {P : Program} {w : World} {K : PySem.W.Frag} {mg : Str → Option Value} {base : Heap} (T : Say K mg) : FnE P w K mg base 5 "changes_at" ["row", "time"] F_changes_at := by
  obtain ⟨fd, F⟩ := T.d_changes_at
  exact fn_ok F sc_changes_at T.g_changes_at (fun _ _ _ _ _ _ us hl => match us, hl with | [_, _], _ => rfl) fun cdv A outer s H E hr =>
    ss_one (s_ret (ev_call (ok_changes_of T) (hr.mono (by decide)) pass_cx (ea_cons (((lc_c (own := [("poly", 2)]) (iv_seq (ev_var 0)) const_seq (blkOk_by (own := [("poly", 2)]) (by kernel_rfl)) (fun _ _ _ _ _ => gv_name (i := 2) sc_changes_at.nd) (fun _ _ _ _ _ => eif_nil) (fun _ _ _ _ _ => ev_call (ok_sign_of T) (hr.mono (by decide)) passL (ea_cons (ev_call (ok_poly_at T) (hr.mono (by decide)) passL (ea_cons (ev_var 2) (ea_cons (ev_var 1) (ea_nil)))) (ea_nil)))).en rfl sc_changes_at.nd).ev) (ea_nil))))
theorem sc_less_by : FnScope ["one", "other"] ["one", "other"] (defScope s_less_by) := ⟨rfl, rfl, rfl, by decide +kernel, rfl, by decide +kernel, by decide +kernel⟩
theorem ok_less_by {P : Program} {w : World} {K : PySem.W.Frag} {mg : Str → Option Value} {base : Heap} (T : Say K mg) : FnE P w K mg base 3 "less_by" ["one", "other"] F_less_by := by
  obtain ⟨fd, F⟩ := T.d_less_by
  exact FnE.by (F := guard 2 (runF 2 g_less_by)) (fn_ok F sc_less_by T.g_less_by (fun _ _ _ _ _ _ us hl => match us, hl with | [_, _], _ => rfl) fun cdv A outer s H E hr =>
    ss_one (s_ret (ev_call (ok_in_lowest T) (hr.mono (by decide)) pass_cx (ea_cons (ev_op dop_sub (ev_op dop_mul (ev_ix (ev_var 0) (ev_int)) (ev_ix (ev_var 1) (ev_int))) (ev_op dop_mul (ev_ix (ev_var 1) (ev_int)) (ev_ix (ev_var 0) (ev_int)))) (ea_cons (ev_op dop_mul (ev_ix (ev_var 0) (ev_int)) (ev_ix (ev_var 1) (ev_int))) (ea_nil)))))) mir_less_by
theorem sc_power_at : FnScope ["poly", "k"] ["poly", "k"] (defScope s_power_at) := ⟨rfl, rfl, rfl, by decide +kernel, rfl, by decide +kernel, by decide +kernel⟩
theorem ok_power_at {P : Program} {w : World} {K : PySem.W.Frag} {mg : Str → Option Value} {base : Heap} (T : Say K mg) : FnE P w K mg base 1 "power_at" ["poly", "k"] F_power_at := by
  obtain ⟨fd, F⟩ := T.d_power_at
  exact fn_ok F sc_power_at T.g_power_at (fun _ _ _ _ _ _ us hl => match us, hl with | [_, _], _ => rfl) fun cdv A outer s H E hr =>
    ss_one (s_ret (ev_if (et_cmp dop_lt (ev_var 1) (ev_callB dc_len (T.m_len) (by decide +kernel) (ea_cons (ev_var 0) (ea_nil))) (nomark _)) (ev_ix (ev_var 0) (ev_var 1)) (ev_glob T.c_NOUGHT)))
theorem sc_trimmed : FnScope ["powers", "size"] ["powers"] (defScope s_trimmed) := ⟨rfl, rfl, rfl, by decide +kernel, rfl, by decide +kernel, by decide +kernel⟩
theorem ok_trimmed {P : Program} {w : World} {K : PySem.W.Frag} {mg : Str → Option Value} {base : Heap} (T : Say K mg) : FnE P w K mg base 1 "trimmed" ["powers"] F_trimmed := by
  obtain ⟨fd, F⟩ := T.d_trimmed
  exact fn_ok F sc_trimmed T.g_trimmed (fun _ _ _ _ _ _ us hl => match us, hl with | [_], _ => rfl) fun cdv A outer s H E hr =>
    ss_cons (s_set (i := 1) (ev_callB dc_len (T.m_len) (by decide +kernel) (ea_cons (ev_var 0) (ea_nil))) sc_trimmed.nd)
    (ss_cons (s_while (fun _ => 4000) pass_own ((ew_and (et_cmp dop_gt (ev_var 1) (ev_int) (nomark _)) (ew_and1 (et_cmp (dop_eq hr.units) (ev_ix (ev_var 0) (ev_op dop_sub (ev_var 1) (ev_int))) (ev_glob T.c_NOUGHT) (nomark _)))).et) (ss_one (s_aug (i := 1) ip_sub sc_trimmed.nd (ev_int))))
    (ss_one (s_ret (ev_callTy dc_tuple (T.m_tuple) (by decide +kernel) (ea_cons (ev_slice (ev_var 0) (eo_none) (eo_some (ev_var 1))) (ea_nil))))))
theorem sc_poly_less : FnScope ["one", "other", "k"] ["one", "other"] (defScope s_poly_less) := ⟨rfl, rfl, rfl, by decide +kernel, rfl, by decide +kernel, by decide +kernel⟩
theorem ok_poly_less {P : Program} {w : World} {K : PySem.W.Frag} {mg : Str → Option Value} {base : Heap} (T : Say K mg) : FnE P w K mg base 4 "poly_less" ["one", "other"] F_poly_less := by
  obtain ⟨fd, F⟩ := T.d_poly_less
  exact fn_ok F sc_poly_less T.g_poly_less (fun _ _ _ _ _ _ us hl => match us, hl with | [_, _], _ => rfl) fun cdv A outer s H E hr =>
    ss_one (s_ret (ev_call (ok_trimmed T) (hr.mono (by decide)) pass_cx (ea_cons (((lc_c (own := [("k", 2)]) (iv_range1 (T.m_range) (ea_cons (ev_callB (dc_max rfl) (T.m_max) (by decide +kernel) (ea_cons (ev_callB dc_len (T.m_len) (by decide +kernel) (ea_cons (ev_var 0) (ea_nil))) (ea_cons (ev_callB dc_len (T.m_len) (by decide +kernel) (ea_cons (ev_var 1) (ea_nil))) (ea_nil)))) (ea_nil))) const_range1 (blkOk_by (own := [("k", 2)]) (by kernel_rfl)) (fun _ _ _ _ _ => gv_name (i := 2) sc_poly_less.nd) (fun _ _ _ _ _ => eif_nil) (fun _ _ _ _ _ => ev_call (ok_less_by T) (hr.mono (by decide)) passL (ea_cons (ev_call (ok_power_at T) (hr.mono (by decide)) passL (ea_cons (ev_var 0) (ea_cons (ev_var 2) (ea_nil)))) (ea_cons (ev_call (ok_power_at T) (hr.mono (by decide)) passL (ea_cons (ev_var 1) (ea_cons (ev_var 2) (ea_nil)))) (ea_nil))))).en rfl sc_poly_less.nd).ev) (ea_nil))))
theorem sc_poly_scaled : FnScope ["poly", "number", "value"] ["poly", "number"] (defScope s_poly_scaled) := ⟨rfl, rfl, rfl, by decide +kernel, rfl, by decide +kernel, by decide +kernel⟩
theorem ok_poly_scaled {P : Program} {w : World} {K : PySem.W.Frag} {mg : Str → Option Value} {base : Heap} (T : Say K mg) : FnE P w K mg base 4 "poly_scaled" ["poly", "number"] F_poly_scaled := by
  obtain ⟨fd, F⟩ := T.d_poly_scaled
  exact fn_ok F sc_poly_scaled T.g_poly_scaled (fun _ _ _ _ _ _ us hl => match us, hl with | [_, _], _ => rfl) fun cdv A outer s H E hr =>
    ss_one (s_ret (ev_call (ok_trimmed T) (hr.mono (by decide)) pass_cx (ea_cons (((lc_c (own := [("value", 2)]) (iv_seq (ev_var 0)) const_seq (blkOk_by (own := [("value", 2)]) (by kernel_rfl)) (fun _ _ _ _ _ => gv_name (i := 2) sc_poly_scaled.nd) (fun _ _ _ _ _ => eif_nil) (fun _ _ _ _ _ => ev_call (ok_multiplied T) (hr.mono (by decide)) passL (ea_cons (ev_var 2) (ea_cons (ev_var 1) (ea_nil))))).en rfl sc_poly_scaled.nd).ev) (ea_nil))))
theorem sc_divided : FnScope ["one", "other", "rest", "found", "shift", "factor", "part", "k"] ["one", "other"] (defScope s_divided) := ⟨rfl, rfl, rfl, by decide +kernel, rfl, by decide +kernel, by decide +kernel⟩
theorem ok_divided {P : Program} {w : World} {K : PySem.W.Frag} {mg : Str → Option Value} {base : Heap} (T : Say K mg) : FnE P w K mg base 5 "divided" ["one", "other"] F_divided := by
  obtain ⟨fd, F⟩ := T.d_divided
  exact fn_ok F sc_divided T.g_divided (fun _ _ _ _ _ _ us hl => match us, hl with | [_, _], _ => rfl) fun cdv A outer s H E hr =>
    ss_cons (s_par2 (i := 2) (j := 3) rfl sc_divided.nd (ex_consP ((en_list (T.m_list) (ev_var 0)).ev) (ex_consO ((lc_c (own := [("k", 7)]) (iv_range1 (T.m_range) (ea_cons (ev_callB dc_len (T.m_len) (by decide +kernel) (ea_cons (ev_var 0) (ea_nil))) (ea_nil))) const_range1 (blkOk_by (own := [("k", 7)]) (by kernel_rfl)) (fun _ _ _ _ _ => gv_name (i := 7) sc_divided.nd) (fun _ _ _ _ _ => eif_nil) (fun _ _ _ _ _ => ev_glob T.c_NOUGHT)).en rfl sc_divided.nd) (ex_nil))))
    (ss_cons (s_while (fun _ => 4000) pass_own (et_cmp dop_ge (ev_callB dc_len (T.m_len) (by decide +kernel) (ea_cons (ev_var 2) (ea_nil))) (ev_callB dc_len (T.m_len) (by decide +kernel) (ea_cons (ev_var 1) (ea_nil))) (nomark _)) (ss_cons (s_set (i := 4) (ev_op dop_sub (ev_callB dc_len (T.m_len) (by decide +kernel) (ea_cons (ev_var 2) (ea_nil))) (ev_callB dc_len (T.m_len) (by decide +kernel) (ea_cons (ev_var 1) (ea_nil)))) sc_divided.nd)
    (ss_cons (s_set (i := 5) (ev_call (ok_quotient T) (hr.mono (by decide)) pass_cx (ea_cons (ev_ix (ev_var 2) (ev_neg (ev_int))) (ea_cons (ev_ix (ev_var 1) (ev_neg (ev_int))) (ea_nil)))) sc_divided.nd)
    (ss_cons (s_put (i := 3) (ev_var 5) (ev_var 4))
    (ss_cons (s_set (i := 6) (ev_tup (ea_star (((lc_c (own := [("k", 7)]) (iv_range1 (T.m_range) (ea_cons (ev_var 4) (ea_nil))) const_range1 (blkOk_by (own := [("k", 7)]) (by kernel_rfl)) (fun _ _ _ _ _ => gv_name (i := 7) sc_divided.nd) (fun _ _ _ _ _ => eif_nil) (fun _ _ _ _ _ => ev_glob T.c_NOUGHT)).en rfl sc_divided.nd).ev) (ea_star (ev_call (ok_poly_scaled T) (hr.mono (by decide)) pass_cx (ea_cons (ev_var 1) (ea_cons (ev_var 5) (ea_nil)))) (ea_nil)))) sc_divided.nd)
    (ss_one (s_set (i := 2) ((en_list (T.m_list) (ev_call (ok_poly_less T) (hr.mono (by decide)) pass_cx (ea_cons (ev_callTy dc_tuple (T.m_tuple) (by decide +kernel) (ea_cons (ev_var 2) (ea_nil))) (ea_cons (ev_var 6) (ea_nil))))).ev) sc_divided.nd)))))))
    (ss_one (s_ret (ev_tup (ea_cons (ev_call (ok_trimmed T) (hr.mono (by decide)) pass_cx (ea_cons (ev_var 3) (ea_nil))) (ea_cons (ev_callTy dc_tuple (T.m_tuple) (by decide +kernel) (ea_cons (ev_var 2) (ea_nil))) (ea_nil)))))))
theorem sc_common_factor : FnScope ["one", "other"] ["one", "other"] (defScope s_common_factor) := ⟨rfl, rfl, rfl, by decide +kernel, rfl, by decide +kernel, by decide +kernel⟩
theorem ok_common_factor {P : Program} {w : World} {K : PySem.W.Frag} {mg : Str → Option Value} {base : Heap} (T : Say K mg) : FnE P w K mg base 6 "common_factor" ["one", "other"] F_common_factor := by
  obtain ⟨fd, F⟩ := T.d_common_factor
  exact fn_ok F sc_common_factor T.g_common_factor (fun _ _ _ _ _ _ us hl => match us, hl with | [_, _], _ => rfl) fun cdv A outer s H E hr =>
    ss_cons (s_while (fun _ => 4000) pass_own (et_cmp dop_gt (ev_callB dc_len (T.m_len) (by decide +kernel) (ea_cons (ev_var 1) (ea_nil))) (ev_int) (nomark _)) (ss_one (s_par2 (i := 0) (j := 1) rfl sc_common_factor.nd (ex_consP (ev_var 1) (ex_consP (ev_ix (ev_call (ok_divided T) (hr.mono (by decide)) pass_cx (ea_cons (ev_var 0) (ea_cons (ev_var 1) (ea_nil)))) (ev_int)) (ex_nil))))))
    (ss_one (s_ret (ev_if (et_cmp dop_gt (ev_callB dc_len (T.m_len) (by decide +kernel) (ea_cons (ev_var 0) (ea_nil))) (ev_int) (nomark _)) (ev_call (ok_poly_scaled T) (hr.mono (by decide)) pass_cx (ea_cons (ev_var 0) (ea_cons (ev_call (ok_quotient T) (hr.mono (by decide)) pass_cx (ea_cons (ev_glob T.c_ONE) (ea_cons (ev_ix (ev_var 0) (ev_neg (ev_int))) (ea_nil)))) (ea_nil)))) (ev_glob T.c_NONE))))
theorem sc_poly_slope : FnScope ["poly", "k", "value"] ["poly"] (defScope s_poly_slope) := ⟨rfl, rfl, rfl, by decide +kernel, rfl, by decide +kernel, by decide +kernel⟩
theorem ok_poly_slope {P : Program} {w : World} {K : PySem.W.Frag} {mg : Str → Option Value} {base : Heap} (T : Say K mg) : FnE P w K mg base 4 "poly_slope" ["poly"] F_poly_slope := by
  obtain ⟨fd, F⟩ := T.d_poly_slope
  exact fn_ok F sc_poly_slope T.g_poly_slope (fun _ _ _ _ _ _ us hl => match us, hl with | [_], _ => rfl) fun cdv A outer s H E hr =>
    ss_one (s_ret (ev_call (ok_trimmed T) (hr.mono (by decide)) pass_cx (ea_cons (ev_slice (((lc_c (own := [("k", 1), ("value", 2)]) (iv_enum (T.m_enumerate) (ev_var 0)) const_enum (blkOk_by (own := [("k", 1), ("value", 2)]) (by kernel_rfl)) (fun _ _ _ _ _ => gv_tup rfl (gvs_cons (gv_name (i := 1) sc_poly_slope.nd) (gvs_cons (gv_name (i := 2) sc_poly_slope.nd) (gvs_nil)))) (fun _ _ _ _ _ => eif_nil) (fun _ _ _ _ _ => ev_call (ok_multiplied T) (hr.mono (by decide)) passL (ea_cons (ev_var 2) (ea_cons (ev_tup (ea_cons (ev_var 1) (ea_cons (ev_int) (ea_nil)))) (ea_nil))))).en rfl sc_poly_slope.nd).ev) (eo_some (ev_int)) (eo_none)) (ea_nil))))
theorem sc_plain_part : FnScope ["poly"] ["poly"] (defScope s_plain_part) := ⟨rfl, rfl, rfl, by decide +kernel, rfl, by decide +kernel, by decide +kernel⟩
theorem ok_plain_part {P : Program} {w : World} {K : PySem.W.Frag} {mg : Str → Option Value} {base : Heap} (T : Say K mg) : FnE P w K mg base 7 "plain_part" ["poly"] F_plain_part := by
  obtain ⟨fd, F⟩ := T.d_plain_part
  exact fn_ok F sc_plain_part T.g_plain_part (fun _ _ _ _ _ _ us hl => match us, hl with | [_], _ => rfl) fun cdv A outer s H E hr =>
    ss_one (s_ret (ev_ix (ev_call (ok_divided T) (hr.mono (by decide)) pass_cx (ea_cons (ev_var 0) (ea_cons (ev_call (ok_common_factor T) (hr.mono (by decide)) pass_cx (ea_cons (ev_var 0) (ea_cons (ev_call (ok_poly_slope T) (hr.mono (by decide)) pass_cx (ea_cons (ev_var 0) (ea_nil))) (ea_nil)))) (ea_nil)))) (ev_int)))
theorem sc_sorted_places : FnScope ["some", "found", "place", "one"] ["some"] (defScope s_sorted_places) := ⟨rfl, rfl, rfl, by decide +kernel, rfl, by decide +kernel, by decide +kernel⟩
theorem ok_sorted_places {P : Program} {w : World} {K : PySem.W.Frag} {mg : Str → Option Value} {base : Heap} (T : Say K mg) : FnE P w K mg base 2 "sorted_places" ["some"] F_sorted_places := by
  obtain ⟨fd, F⟩ := T.d_sorted_places
  exact fn_ok F sc_sorted_places T.g_sorted_places (fun _ _ _ _ _ _ us hl => match us, hl with | [_], _ => rfl) fun cdv A outer s H E hr =>
    ss_cons (s_set (i := 1) ((en_lst (ea_nil)).ev) sc_sorted_places.nd)
    (ss_cons (s_for pass_own rfl (iv_seq (ev_var 0)) const_seq (gv_name (i := 2) sc_sorted_places.nd) (ss_one (s_set (i := 1) ((en_lst (ea_star (((lc_c (own := [("one", 3)]) (iv_seq (ev_var 1)) const_seq (blkOk_by (own := [("one", 3)]) (by kernel_rfl)) (fun _ _ _ _ _ => gv_name (i := 3) sc_sorted_places.nd) (fun _ _ _ _ _ => eif_one (et_val (ev_call (ok_is_less T) (hr.mono (by decide)) passL (ea_cons (ev_fld (ev_var 3) T.cl_Place T.na_Place_first) (ea_cons (ev_fld (ev_var 2) T.cl_Place T.na_Place_first) (ea_nil)))))) (fun _ _ _ _ _ => ev_var 3)).en rfl sc_sorted_places.nd).ev) (ea_cons (ev_var 2) (ea_star (((lc_c (own := [("one", 3)]) (iv_seq (ev_var 1)) const_seq (blkOk_by (own := [("one", 3)]) (by kernel_rfl)) (fun _ _ _ _ _ => gv_name (i := 3) sc_sorted_places.nd) (fun _ _ _ _ _ => eif_one (et_val (ev_call (ok_is_less T) (hr.mono (by decide)) passL (ea_cons (ev_fld (ev_var 2) T.cl_Place T.na_Place_first) (ea_cons (ev_fld (ev_var 3) T.cl_Place T.na_Place_first) (ea_nil)))))) (fun _ _ _ _ _ => ev_var 3)).en rfl sc_sorted_places.nd).ev) (ea_nil))))).ev) sc_sorted_places.nd)))
    (ss_one (s_ret (ev_var 1))))
theorem sc_sturm_row : FnScope ["poly", "row"] ["poly"] (defScope s_sturm_row) := ⟨rfl, rfl, rfl, by decide +kernel, rfl, by decide +kernel, by decide +kernel⟩
theorem ok_sturm_row {P : Program} {w : World} {K : PySem.W.Frag} {mg : Str → Option Value} {base : Heap} (T : Say K mg) : FnE P w K mg base 6 "sturm_row" ["poly"] F_sturm_row := by
  obtain ⟨fd, F⟩ := T.d_sturm_row
  exact fn_ok F sc_sturm_row T.g_sturm_row (fun _ _ _ _ _ _ us hl => match us, hl with | [_], _ => rfl) fun cdv A outer s H E hr =>
    ss_cons (s_own (i := 1) (en_lst (ea_cons (ev_var 0) (ea_cons (ev_call (ok_poly_slope T) (hr.mono (by decide)) pass_cx (ea_cons (ev_var 0) (ea_nil))) (ea_nil)))) sc_sturm_row.nd)
    (ss_cons (s_while (fun _ => 4000) pass_own (et_cmp dop_gt (ev_callB dc_len (T.m_len) (by decide +kernel) (ea_cons (ev_ixO (i := 1) (ev_neg (ev_int))) (ea_nil))) (ev_int) (nomark _)) (ss_one (s_app (i := 1) (ea_cons (ev_call (ok_poly_scaled T) (hr.mono (by decide)) pass_cx (ea_cons (ev_ix (ev_call (ok_divided T) (hr.mono (by decide)) pass_cx (ea_cons (ev_ixO (i := 1) (ev_neg (ev_int))) (ea_cons (ev_ixO (i := 1) (ev_neg (ev_int))) (ea_nil)))) (ev_int)) (ea_cons (ev_glob T.c_DOWN) (ea_nil)))) (ea_nil)))))
    (ss_one (s_ret (ev_slice (ev_var 1) (eo_none) (eo_some (ev_neg (ev_int)))))))
theorem sc_without_zero : FnScope ["poly", "time"] ["poly", "time"] (defScope s_without_zero) := ⟨rfl, rfl, rfl, by decide +kernel, rfl, by decide +kernel, by decide +kernel⟩
theorem ok_without_zero {P : Program} {w : World} {K : PySem.W.Frag} {mg : Str → Option Value} {base : Heap} (T : Say K mg) : FnE P w K mg base 6 "without_zero" ["poly", "time"] F_without_zero := by
  obtain ⟨fd, F⟩ := T.d_without_zero
  exact fn_ok F sc_without_zero T.g_without_zero (fun _ _ _ _ _ _ us hl => match us, hl with | [_, _], _ => rfl) fun cdv A outer s H E hr =>
    ss_one (s_ret (ev_if (et_cmp (dop_eq hr.units) (ev_call (ok_poly_at T) (hr.mono (by decide)) pass_cx (ea_cons (ev_var 0) (ea_cons (ev_var 1) (ea_nil)))) (ev_glob T.c_NOUGHT) (nomark _)) (ev_ix (ev_call (ok_divided T) (hr.mono (by decide)) pass_cx (ea_cons (ev_var 0) (ea_cons (ev_tup (ea_cons (ev_call (ok_less_by T) (hr.mono (by decide)) pass_cx (ea_cons (ev_glob T.c_NOUGHT) (ea_cons (ev_var 1) (ea_nil)))) (ea_cons (ev_glob T.c_ONE) (ea_nil)))) (ea_nil)))) (ev_int)) (ev_var 0)))
theorem sc_times_between : FnScope ["poly", "start", "end", "whole", "noughts", "row", "part", "found", "waiting", "many", "middle", "time", "first", "last"] ["poly", "start", "end"] (defScope s_times_between) := ⟨rfl, rfl, rfl, by decide +kernel, rfl, by decide +kernel, by decide +kernel⟩
theorem ok_times_between {P : Program} {w : World} {K : PySem.W.Frag} {mg : Str → Option Value} {base : Heap} (T : Say K mg) : FnE P w K mg base 8 "times_between" ["poly", "start", "end"] F_times_between := by
  obtain ⟨fd, F⟩ := T.d_times_between
  exact fn_ok F sc_times_between T.g_times_between (fun _ _ _ _ _ _ us hl => match us, hl with | [_, _, _], _ => rfl) fun cdv A outer s H E hr =>
    ss_cons (s_set (i := 3) (ev_call (ok_plain_part T) (hr.mono (by decide)) pass_cx (ea_cons (ev_var 0) (ea_nil))) sc_times_between.nd)
    (ss_cons ((lc_c (own := [("time", 11)]) (iv_seq (ev_tup (ea_cons (ev_var 1) (ea_cons (ev_var 2) (ea_nil))))) const_seq (blkOk_by (own := [("time", 11)]) (by kernel_rfl)) (fun _ _ _ _ _ => gv_name (i := 11) sc_times_between.nd) (fun _ _ _ _ _ => eif_one (et_cmp (dop_eq hr.units) (ev_call (ok_poly_at T) (hr.mono (by decide)) passL (ea_cons (ev_var 3) (ea_cons (ev_var 11) (ea_nil)))) (ev_glob T.c_NOUGHT) (nomark _))) (fun _ _ _ _ _ => ev_var 11)).own (i := 4) rfl sc_times_between.nd (sw_true rfl rfl rfl (by kernel_rfl)))
    (ss_cons (s_par3 (i := 6) (j := 7) (l := 8) rfl sc_times_between.nd (ex_consP (ev_call (ok_without_zero T) (hr.mono (by decide)) pass_cx (ea_cons (ev_call (ok_without_zero T) (hr.mono (by decide)) pass_cx (ea_cons (ev_var 3) (ea_cons (ev_var 1) (ea_nil)))) (ea_cons (ev_var 2) (ea_nil)))) (ex_consO (en_lst (ea_nil)) (ex_consO (en_lst (ea_cons (ev_tup (ea_cons (ev_var 1) (ea_cons (ev_var 2) (ea_nil)))) (ea_nil))) (ex_nil)))))
    (ss_cons (s_set (i := 5) (ev_call (ok_sturm_row T) (hr.mono (by decide)) pass_cx (ea_cons (ev_var 6) (ea_nil))) sc_times_between.nd)
    (ss_cons (s_while (fun _ => 4000) pass_own (et_cmp dop_gt (ev_lenO (i := 8) (T.m_len)) (ev_int) (nomark _)) (ss_cons (s_asg (ev_pop0 (i := 8)) (gv_tup rfl (gvs_cons (gv_name (i := 12) sc_times_between.nd) (gvs_cons (gv_name (i := 13) sc_times_between.nd) (gvs_nil)))))
    (ss_cons (s_set (i := 9) (ev_op dop_sub (ev_call (ok_changes_at T) (hr.mono (by decide)) pass_cx (ea_cons (ev_var 5) (ea_cons (ev_var 12) (ea_nil)))) (ev_call (ok_changes_at T) (hr.mono (by decide)) pass_cx (ea_cons (ev_var 5) (ea_cons (ev_var 13) (ea_nil))))) sc_times_between.nd)
    (ss_cons (s_if (et_cmp (dop_eq hr.units) (ev_var 9) (ev_int) (nomark _)) (ss_one (s_continue)) (ss_nil))
    (ss_cons (s_if ((ew_and (et_cmp (dop_eq hr.units) (ev_var 9) (ev_int) (nomark _)) (ew_and (et_notInO (i := 4) (ev_var 12) (hu65 hr)) (ew_and1 (et_notInO (i := 4) (ev_var 13) (hu65 hr))))).et) (ss_cons (s_app (i := 7) (ea_cons (ev_make (mk_Place T) (hr.mono (by decide)) pass_cx (ea_cons (ev_var 12) (ea_cons (ev_var 13) (ea_cons (ev_bl) (ea_cons (ev_var 0) (ea_cons (ev_var 3) (ea_nil))))))) (ea_nil)))
    (ss_one (s_continue))) (ss_nil))
    (ss_cons (s_set (i := 10) (ev_call (ok_middle_of T) (hr.mono (by decide)) pass_cx (ea_cons (ev_var 12) (ea_cons (ev_var 13) (ea_nil)))) sc_times_between.nd)
    (ss_cons (s_if (et_cmp (dop_eq hr.units) (ev_call (ok_poly_at T) (hr.mono (by decide)) pass_cx (ea_cons (ev_var 6) (ea_cons (ev_var 10) (ea_nil)))) (ev_glob T.c_NOUGHT) (nomark _)) (ss_cons (s_app (i := 7) (ea_cons (ev_make (mk_Place T) (hr.mono (by decide)) pass_cx (ea_cons (ev_var 10) (ea_cons (ev_var 10) (ea_cons (ev_bl) (ea_cons (ev_var 0) (ea_cons (ev_var 3) (ea_nil))))))) (ea_nil)))
    (ss_cons (s_app (i := 4) (ea_cons (ev_var 10) (ea_nil)))
    (ss_cons (s_set (i := 6) (ev_call (ok_without_zero T) (hr.mono (by decide)) pass_cx (ea_cons (ev_var 6) (ea_cons (ev_var 10) (ea_nil)))) sc_times_between.nd)
    (ss_one (s_set (i := 5) (ev_call (ok_sturm_row T) (hr.mono (by decide)) pass_cx (ea_cons (ev_var 6) (ea_nil))) sc_times_between.nd))))) (ss_nil))
    (ss_one (s_ext (i := 8) (ea_cons ((en_lst (ea_cons (ev_tup (ea_cons (ev_var 12) (ea_cons (ev_var 10) (ea_nil)))) (ea_cons (ev_tup (ea_cons (ev_var 10) (ea_cons (ev_var 13) (ea_nil)))) (ea_nil)))).ev) (ea_nil)))))))))))
    (ss_one (s_ret (ev_call (ok_sorted_places T) (hr.mono (by decide)) pass_cx (ea_cons (ev_var 7) (ea_nil)))))))))
theorem sc_with_stretch : FnScope ["found", "row", "first"] ["found", "row"] (defScope s_with_stretch) := ⟨rfl, rfl, rfl, by decide +kernel, rfl, by decide +kernel, by decide +kernel⟩
theorem ok_with_stretch {P : Program} {w : World} {K : PySem.W.Frag} {mg : Str → Option Value} {base : Heap} (T : Say K mg) : FnNE P w K mg base 3 "with_stretch" 2 F_with_stretch := by
  obtain ⟨fd, F⟩ := T.d_with_stretch
  exact fn_okN F sc_with_stretch T.g_with_stretch (fun _ _ _ _ _ _ us hl => match us, hl with | [_, _], _ => rfl) fun cdv A outer s H E hr =>
    svn_cons (s_set (i := 2) (ev_fld (ev_var 1) T.cl_Piece T.na_Piece_start) sc_with_stretch.nd)
    (svn_cons (s_if ((ew_and (et_cmp dop_gt (ev_callB dc_len (T.m_len) (by decide +kernel) (ea_cons (ev_var 0) (ea_nil))) (ev_int) (nomark _)) (ew_and1 (et_cmp (dop_eq hr.units) (ev_fld (ev_ix (ev_var 0) (ev_neg (ev_int))) T.cl_Place T.na_Place_last) (ev_fld (ev_var 1) T.cl_Piece T.na_Piece_start) (nomark _)))).et) (ss_cons (s_set (i := 2) (ev_fld (ev_ix (ev_var 0) (ev_neg (ev_int))) T.cl_Place T.na_Place_first) sc_with_stretch.nd)
    (ss_one (s_set (i := 0) (ev_slice (ev_var 0) (eo_none) (eo_some (ev_neg (ev_int)))) sc_with_stretch.nd))) (ss_nil))
    (svn_ret (en_lst (ea_star (ev_var 0) (ea_cons (ev_make (mk_Place T) (hr.mono (by decide)) pass_cx (ea_cons (ev_var 2) (ea_cons (ev_fld (ev_var 1) T.cl_Piece T.na_Piece_end) (ea_cons (ev_bl) (ea_cons (ev_fld (ev_var 1) T.cl_Piece T.na_Piece_poly) (ea_cons (ev_fld (ev_var 1) T.cl_Piece T.na_Piece_poly) (ea_nil))))))) (ea_nil))))))
theorem sc_places_in : FnScope ["rows", "found", "row", "is_told"] ["rows"] (defScope s_places_in) := ⟨rfl, rfl, rfl, by decide +kernel, rfl, by decide +kernel, by decide +kernel⟩
theorem ok_places_in {P : Program} {w : World} {K : PySem.W.Frag} {mg : Str → Option Value} {base : Heap} (T : Say K mg) : FnE P w K mg base 9 "places_in" ["rows"] F_places_in := by
  obtain ⟨fd, F⟩ := T.d_places_in
  exact fn_ok F sc_places_in T.g_places_in (fun _ _ _ _ _ _ us hl => match us, hl with | [_], _ => rfl) fun cdv A outer s H E hr =>
    ss_cons (s_own (i := 1) (en_lst (ea_nil)) sc_places_in.nd)
    (ss_cons (s_for pass_own rfl (iv_seq (ev_var 0)) const_seq (gv_name (i := 2) sc_places_in.nd) (ss_cons (s_if (et_cmp (dop_eq hr.units) (ev_callB dc_len (T.m_len) (by decide +kernel) (ea_cons (ev_fld (ev_var 2) T.cl_Piece T.na_Piece_poly) (ea_nil))) (ev_int) (nomark _)) (ss_cons (s_own (i := 1) (en_call (ok_with_stretch T) (hr.mono (by decide)) pass_cx (ea_cons (ev_var 1) (ea_cons (ev_var 2) (ea_nil)))) sc_places_in.nd)
    (ss_one (s_continue))) (ss_nil))
    (ss_cons (s_set (i := 3) (ev_and (ev_cmp dop_gt (ev_lenO (i := 1) (T.m_len)) (ev_int) (nomark _)) (ev_and (ev_cmp (dop_eq hr.units) (ev_fld (ev_ixO (i := 1) (ev_neg (ev_int))) T.cl_Place T.na_Place_last) (ev_fld (ev_var 2) T.cl_Piece T.na_Piece_start) (nomark _)) (ev_one (ev_meth0 (me_Place_is_known T) (hr.mono (by decide)) pass_cx (ev_ixO (i := 1) (ev_neg (ev_int))))))) sc_places_in.nd)
    (ss_cons (s_if ((ew_and (et_cmp (dop_eq hr.units) (ev_call (ok_poly_at T) (hr.mono (by decide)) pass_cx (ea_cons (ev_fld (ev_var 2) T.cl_Piece T.na_Piece_poly) (ea_cons (ev_fld (ev_var 2) T.cl_Piece T.na_Piece_start) (ea_nil)))) (ev_glob T.c_NOUGHT) (nomark _)) (ew_and1 (et_not (et_val (ev_var 3))))).et) (ss_one (s_app (i := 1) (ea_cons (ev_make (mk_Place T) (hr.mono (by decide)) pass_cx (ea_cons (ev_fld (ev_var 2) T.cl_Piece T.na_Piece_start) (ea_cons (ev_fld (ev_var 2) T.cl_Piece T.na_Piece_start) (ea_cons (ev_bl) (ea_cons (ev_fld (ev_var 2) T.cl_Piece T.na_Piece_poly) (ea_cons (ev_fld (ev_var 2) T.cl_Piece T.na_Piece_poly) (ea_nil))))))) (ea_nil)))) (ss_nil))
    (ss_cons (s_ext (i := 1) (ea_cons (ev_call (ok_times_between T) (hr.mono (by decide)) pass_cx (ea_cons (ev_fld (ev_var 2) T.cl_Piece T.na_Piece_poly) (ea_cons (ev_fld (ev_var 2) T.cl_Piece T.na_Piece_start) (ea_cons (ev_fld (ev_var 2) T.cl_Piece T.na_Piece_end) (ea_nil))))) (ea_nil)))
    (ss_one (s_if (et_cmp (dop_eq hr.units) (ev_call (ok_poly_at T) (hr.mono (by decide)) pass_cx (ea_cons (ev_fld (ev_var 2) T.cl_Piece T.na_Piece_poly) (ea_cons (ev_fld (ev_var 2) T.cl_Piece T.na_Piece_end) (ea_nil)))) (ev_glob T.c_NOUGHT) (nomark _)) (ss_one (s_app (i := 1) (ea_cons (ev_make (mk_Place T) (hr.mono (by decide)) pass_cx (ea_cons (ev_fld (ev_var 2) T.cl_Piece T.na_Piece_end) (ea_cons (ev_fld (ev_var 2) T.cl_Piece T.na_Piece_end) (ea_cons (ev_bl) (ea_cons (ev_fld (ev_var 2) T.cl_Piece T.na_Piece_poly) (ea_cons (ev_fld (ev_var 2) T.cl_Piece T.na_Piece_poly) (ea_nil))))))) (ea_nil)))) (ss_nil))))))))
    (ss_one (s_ret (ev_var 1))))
theorem sc_signs_in : FnScope ["rows", "found", "signs", "at", "time"] ["rows"] (defScope s_signs_in) := ⟨rfl, rfl, rfl, by decide +kernel, rfl, by decide +kernel, by decide +kernel⟩
theorem ok_signs_in {P : Program} {w : World} {K : PySem.W.Frag} {mg : Str → Option Value} {base : Heap} (T : Say K mg) : FnE P w K mg base 10 "signs_in" ["rows"] F_signs_in := by
  obtain ⟨fd, F⟩ := T.d_signs_in
  exact fn_ok F sc_signs_in T.g_signs_in (fun _ _ _ _ _ _ us hl => match us, hl with | [_], _ => rfl) fun cdv A outer s H E hr =>
    ss_cons (s_par2 (i := 1) (j := 2) rfl sc_signs_in.nd (ex_consP (ev_call (ok_places_in T) (hr.mono (by decide)) pass_cx (ea_cons (ev_var 0) (ea_nil))) (ex_consO (en_lst (ea_nil)) (ex_nil))))
    (ss_cons (s_for pass_own rfl (iv_enum (T.m_enumerate) (ev_call (ok_gaps_in T) (hr.mono (by decide)) pass_cx (ea_cons (ev_var 0) (ea_cons (ev_var 1) (ea_nil))))) const_enum (gv_tup rfl (gvs_cons (gv_name (i := 3) sc_signs_in.nd) (gvs_cons (gv_name (i := 4) sc_signs_in.nd) (gvs_nil)))) (ss_cons (s_if (et_cmp dop_gt (ev_var 3) (ev_int) (nomark _)) (ss_one (s_app (i := 2) (ea_cons (ev_int) (ea_nil)))) (ss_nil))
    (ss_one (s_if (et_cmp dop_isNot (ev_var 4) (ev_non) (nomark _)) (ss_one (s_app (i := 2) (ea_cons (ev_call (ok_sign_of T) (hr.mono (by decide)) pass_cx (ea_cons (ev_call (ok_curve_at T) (hr.mono (by decide)) pass_cx (ea_cons (ev_var 0) (ea_cons (ev_var 4) (ea_nil)))) (ea_nil))) (ea_nil)))) (ss_nil)))))
    (ss_one (s_ret (ev_callTy dc_tuple (T.m_tuple) (by decide +kernel) (ea_cons (ev_var 2) (ea_nil))))))
theorem sc_is_kept_up : FnScope ["rows", "row"] ["rows"] (defScope s_is_kept_up) := ⟨rfl, rfl, rfl, by decide +kernel, rfl, by decide +kernel, by decide +kernel⟩
theorem ok_is_kept_up {P : Program} {w : World} {K : PySem.W.Frag} {mg : Str → Option Value} {base : Heap} (T : Say K mg) : FnE P w K mg base 11 "is_kept_up" ["rows"] F_is_kept_up := by
  obtain ⟨fd, F⟩ := T.d_is_kept_up
  exact fn_ok F sc_is_kept_up T.g_is_kept_up (fun _ _ _ _ _ _ us hl => match us, hl with | [_], _ => rfl) fun cdv A outer s H E hr =>
    ss_one (s_ret (ev_not (ev_callB (dc_any rfl) (T.m_any) (by decide +kernel) (ea_cons (((lc_c (own := [("row", 1)]) (iv_seq (ev_var 0)) const_seq (blkOk_by (own := [("row", 1)]) (by kernel_rfl)) (fun _ _ _ _ _ => gv_name (i := 1) sc_is_kept_up.nd) (fun _ _ _ _ _ => eif_nil) (fun _ _ _ _ _ => ev_cmp (dop_inT (hu65 hr)) (ev_neg (ev_int)) (ev_call (ok_signs_in T) (hr.mono (by decide)) passL (ea_cons ((en_lst (ea_cons (ev_var 1) (ea_nil))).ev) (ea_nil))) (by rfl))).en rfl sc_is_kept_up.nd).ev) (ea_nil)))))
theorem sc_knots_of : FnScope ["degree", "marks", "rows", "one", "k"] ["degree", "marks"] (defScope s_knots_of) := ⟨rfl, rfl, rfl, by decide +kernel, rfl, by decide +kernel, by decide +kernel⟩
theorem ok_knots_of {P : Program} {w : World} {K : PySem.W.Frag} {mg : Str → Option Value} {base : Heap} (T : Say K mg) : FnE P w K mg base 3 "knots_of" ["degree", "marks"] F_knots_of := by
  obtain ⟨fd, F⟩ := T.d_knots_of
  exact fn_ok F sc_knots_of T.g_knots_of (fun _ _ _ _ _ _ us hl => match us, hl with | [_, _], _ => rfl) fun cdv A outer s H E hr =>
    ss_cons (s_set (i := 2) (((lc_c (own := [("one", 3)]) (iv_seq (ev_var 1)) const_seq (blkOk_by (own := [("one", 3)]) (by kernel_rfl)) (fun _ _ _ _ _ => gv_name (i := 3) sc_knots_of.nd) (fun _ _ _ _ _ => eif_nil) (fun _ _ _ _ _ => ev_call (ok_value_of T) (hr.mono (by decide)) passL (ea_cons (ev_var 3) (ea_nil)))).en rfl sc_knots_of.nd).ev) sc_knots_of.nd)
    (ss_one (s_ret (ev_tup (ea_star (((lc_c (own := [("k", 4)]) (iv_range1 (T.m_range) (ea_cons (ev_var 0) (ea_nil))) const_range1 (blkOk_by (own := [("k", 4)]) (by kernel_rfl)) (fun _ _ _ _ _ => gv_name (i := 4) sc_knots_of.nd) (fun _ _ _ _ _ => eif_nil) (fun _ _ _ _ _ => ev_ix (ev_var 2) (ev_int))).en rfl sc_knots_of.nd).ev) (ea_star (ev_var 2) (ea_star (((lc_c (own := [("k", 4)]) (iv_range1 (T.m_range) (ea_cons (ev_var 0) (ea_nil))) const_range1 (blkOk_by (own := [("k", 4)]) (by kernel_rfl)) (fun _ _ _ _ _ => gv_name (i := 4) sc_knots_of.nd) (fun _ _ _ _ _ => eif_nil) (fun _ _ _ _ _ => ev_ix (ev_var 2) (ev_neg (ev_int)))).en rfl sc_knots_of.nd).ev) (ea_nil)))))))
theorem sc_Piece_init : FnScope ["self", "start", "end", "poly"] ["self", "start", "end", "poly"] (defScope s_Piece_init) := ⟨rfl, rfl, rfl, by decide +kernel, rfl, by decide +kernel, by decide +kernel⟩
theorem mk_Piece {P : Program} {w : World} {K : PySem.W.Frag} {mg : Str → Option Value} {base : Heap} (T : Say K mg) : MkE P w K mg base 1 "Piece" 3 I_Piece := by
  obtain ⟨fd, F⟩ := T.d_Piece_init
  exact init_ok F sc_Piece_init T.mk_Piece T.gc_Piece (fun _ _ _ _ _ _ us hl => match us, hl with | [_, _, _, _], _ => rfl) fun cdv A outer s H E hr =>
    so_put (evo_of (ev_var 1))
    (so_put (evo_of (ev_var 2))
    (so_put (evo_of (ev_var 3))
    (so_nil) T.cl_Piece T.na_Piece_poly) T.cl_Piece T.na_Piece_end) T.cl_Piece T.na_Piece_start
theorem sc_poly_sum : FnScope ["one", "other", "k"] ["one", "other"] (defScope s_poly_sum) := ⟨rfl, rfl, rfl, by decide +kernel, rfl, by decide +kernel, by decide +kernel⟩
theorem ok_poly_sum {P : Program} {w : World} {K : PySem.W.Frag} {mg : Str → Option Value} {base : Heap} (T : Say K mg) : FnE P w K mg base 4 "poly_sum" ["one", "other"] F_poly_sum := by
  obtain ⟨fd, F⟩ := T.d_poly_sum
  exact fn_ok F sc_poly_sum T.g_poly_sum (fun _ _ _ _ _ _ us hl => match us, hl with | [_, _], _ => rfl) fun cdv A outer s H E hr =>
    ss_one (s_ret (ev_call (ok_trimmed T) (hr.mono (by decide)) pass_cx (ea_cons (((lc_c (own := [("k", 2)]) (iv_range1 (T.m_range) (ea_cons (ev_callB (dc_max rfl) (T.m_max) (by decide +kernel) (ea_cons (ev_callB dc_len (T.m_len) (by decide +kernel) (ea_cons (ev_var 0) (ea_nil))) (ea_cons (ev_callB dc_len (T.m_len) (by decide +kernel) (ea_cons (ev_var 1) (ea_nil))) (ea_nil)))) (ea_nil))) const_range1 (blkOk_by (own := [("k", 2)]) (by kernel_rfl)) (fun _ _ _ _ _ => gv_name (i := 2) sc_poly_sum.nd) (fun _ _ _ _ _ => eif_nil) (fun _ _ _ _ _ => ev_call (ok_added T) (hr.mono (by decide)) passL (ea_cons (ev_call (ok_power_at T) (hr.mono (by decide)) passL (ea_cons (ev_var 0) (ea_cons (ev_var 2) (ea_nil)))) (ea_cons (ev_call (ok_power_at T) (hr.mono (by decide)) passL (ea_cons (ev_var 1) (ea_cons (ev_var 2) (ea_nil)))) (ea_nil))))).en rfl sc_poly_sum.nd).ev) (ea_nil))))
theorem sc_poly_times : FnScope ["one", "other", "found", "at", "here", "k", "spot", "there"] ["one", "other"] (defScope s_poly_times) := ⟨rfl, rfl, rfl, by decide +kernel, rfl, by decide +kernel, by decide +kernel⟩
theorem ok_poly_times {P : Program} {w : World} {K : PySem.W.Frag} {mg : Str → Option Value} {base : Heap} (T : Say K mg) : FnE P w K mg base 4 "poly_times" ["one", "other"] F_poly_times := by
  obtain ⟨fd, F⟩ := T.d_poly_times
  exact fn_ok F sc_poly_times T.g_poly_times (fun _ _ _ _ _ _ us hl => match us, hl with | [_, _], _ => rfl) fun cdv A outer s H E hr =>
    ss_cons ((lc_c (own := [("k", 5)]) (iv_range1 (T.m_range) (ea_cons (ev_op dop_add (ev_callB dc_len (T.m_len) (by decide +kernel) (ea_cons (ev_var 0) (ea_nil))) (ev_callB dc_len (T.m_len) (by decide +kernel) (ea_cons (ev_var 1) (ea_nil)))) (ea_nil))) const_range1 (blkOk_by (own := [("k", 5)]) (by kernel_rfl)) (fun _ _ _ _ _ => gv_name (i := 5) sc_poly_times.nd) (fun _ _ _ _ _ => eif_nil) (fun _ _ _ _ _ => ev_glob T.c_NOUGHT)).own (i := 2) rfl sc_poly_times.nd (sw_true rfl rfl rfl (by kernel_rfl)))
    (ss_cons (s_for pass_own rfl (iv_enum (T.m_enumerate) (ev_var 0)) const_enum (gv_tup rfl (gvs_cons (gv_name (i := 3) sc_poly_times.nd) (gvs_cons (gv_name (i := 4) sc_poly_times.nd) (gvs_nil)))) (ss_one (s_for pass_own rfl (iv_enum (T.m_enumerate) (ev_var 1)) const_enum (gv_tup rfl (gvs_cons (gv_name (i := 6) sc_poly_times.nd) (gvs_cons (gv_name (i := 7) sc_poly_times.nd) (gvs_nil)))) (ss_one (s_put (i := 2) (ev_call (ok_added T) (hr.mono (by decide)) pass_cx (ea_cons (ev_ixO (i := 2) (ev_op dop_add (ev_var 3) (ev_var 6))) (ea_cons (ev_call (ok_multiplied T) (hr.mono (by decide)) pass_cx (ea_cons (ev_var 4) (ea_cons (ev_var 7) (ea_nil)))) (ea_nil)))) (ev_op dop_add (ev_var 3) (ev_var 6)))))))
    (ss_one (s_ret (ev_call (ok_trimmed T) (hr.mono (by decide)) pass_cx (ea_cons (ev_var 2) (ea_nil))))))
theorem sc_share_poly : FnScope ["here", "there", "width"] ["here", "there"] (defScope s_share_poly) := ⟨rfl, rfl, rfl, by decide +kernel, rfl, by decide +kernel, by decide +kernel⟩
theorem ok_share_poly {P : Program} {w : World} {K : PySem.W.Frag} {mg : Str → Option Value} {base : Heap} (T : Say K mg) : FnE P w K mg base 4 "share_poly" ["here", "there"] F_share_poly := by
  obtain ⟨fd, F⟩ := T.d_share_poly
  exact fn_ok F sc_share_poly T.g_share_poly (fun _ _ _ _ _ _ us hl => match us, hl with | [_, _], _ => rfl) fun cdv A outer s H E hr =>
    ss_cons (s_set (i := 2) (ev_call (ok_less_by T) (hr.mono (by decide)) pass_cx (ea_cons (ev_var 1) (ea_cons (ev_var 0) (ea_nil)))) sc_share_poly.nd)
    (ss_one (s_ret (ev_call (ok_trimmed T) (hr.mono (by decide)) pass_cx (ea_cons ((en_lst (ea_cons (ev_call (ok_quotient T) (hr.mono (by decide)) pass_cx (ea_cons (ev_call (ok_less_by T) (hr.mono (by decide)) pass_cx (ea_cons (ev_glob T.c_NOUGHT) (ea_cons (ev_var 0) (ea_nil)))) (ea_cons (ev_var 2) (ea_nil)))) (ea_cons (ev_call (ok_quotient T) (hr.mono (by decide)) pass_cx (ea_cons (ev_glob T.c_ONE) (ea_cons (ev_var 2) (ea_nil)))) (ea_nil)))).ev) (ea_nil)))))
theorem sc_piece_at : FnScope ["bend", "knots", "at", "degree", "row", "deep", "later", "spot", "handle", "first", "share", "one", "other"] ["bend", "knots", "at"] (defScope s_piece_at) := ⟨rfl, rfl, rfl, by decide +kernel, rfl, by decide +kernel, by decide +kernel⟩
theorem ok_piece_at {P : Program} {w : World} {K : PySem.W.Frag} {mg : Str → Option Value} {base : Heap} (T : Say K mg) : FnE P w K mg base 5 "piece_at" ["bend", "knots", "at"] F_piece_at := by
  obtain ⟨fd, F⟩ := T.d_piece_at
  exact fn_ok F sc_piece_at T.g_piece_at (fun _ _ _ _ _ _ us hl => match us, hl with | [_, _, _], _ => rfl) fun cdv A outer s H E hr =>
    ss_cons (s_set (i := 3) (ev_fld (ev_var 0) T.cl_Bend T.na_Bend_degree) sc_piece_at.nd)
    (ss_cons ((lc_c (own := [("handle", 8)]) (iv_seq (ev_slice (ev_fld (ev_var 0) T.cl_Bend T.na_Bend_handles) (eo_some (ev_op dop_sub (ev_var 2) (ev_var 3))) (eo_some (ev_op dop_add (ev_var 2) (ev_int))))) const_seq (blkOk_by (own := [("handle", 8)]) (by kernel_rfl)) (fun _ _ _ _ _ => gv_name (i := 8) sc_piece_at.nd) (fun _ _ _ _ _ => eif_nil) (fun _ _ _ _ _ => ev_call (ok_trimmed T) (hr.mono (by decide)) passL (ea_cons ((en_lst (ea_cons (ev_var 8) (ea_nil))).ev) (ea_nil)))).set (i := 4) rfl sc_piece_at.nd (sw_true rfl rfl rfl (by kernel_rfl)))
    (ss_cons (s_for pass_own rfl (iv_range2 (T.m_range) (ea_cons (ev_int) (ea_cons (ev_op dop_add (ev_var 3) (ev_int)) (ea_nil)))) const_range2 (gv_name (i := 5) sc_piece_at.nd) (ss_cons (s_own (i := 6) (en_lst (ea_nil)) sc_piece_at.nd)
    (ss_cons (s_for pass_own rfl (iv_range2 (T.m_range) (ea_cons (ev_var 5) (ea_cons (ev_op dop_add (ev_var 3) (ev_int)) (ea_nil)))) const_range2 (gv_name (i := 7) sc_piece_at.nd) (ss_cons (s_set (i := 9) (ev_op dop_add (ev_op dop_sub (ev_var 2) (ev_var 3)) (ev_var 7)) sc_piece_at.nd)
    (ss_cons (s_set (i := 10) (ev_call (ok_share_poly T) (hr.mono (by decide)) pass_cx (ea_cons (ev_ix (ev_var 1) (ev_var 9)) (ea_cons (ev_ix (ev_var 1) (ev_op dop_sub (ev_op dop_add (ev_op dop_add (ev_var 9) (ev_var 3)) (ev_int)) (ev_var 5))) (ea_nil)))) sc_piece_at.nd)
    (ss_cons (s_par2 (i := 11) (j := 12) rfl sc_piece_at.nd (ex_consP (ev_ix (ev_var 4) (ev_op dop_sub (ev_var 7) (ev_var 5))) (ex_consP (ev_ix (ev_var 4) (ev_op dop_add (ev_op dop_sub (ev_var 7) (ev_var 5)) (ev_int))) (ex_nil))))
    (ss_one (s_app (i := 6) (ea_cons (ev_call (ok_poly_sum T) (hr.mono (by decide)) pass_cx (ea_cons (ev_var 11) (ea_cons (ev_call (ok_poly_times T) (hr.mono (by decide)) pass_cx (ea_cons (ev_var 10) (ea_cons (ev_call (ok_poly_less T) (hr.mono (by decide)) pass_cx (ea_cons (ev_var 12) (ea_cons (ev_var 11) (ea_nil)))) (ea_nil)))) (ea_nil)))) (ea_nil))))))))
    (ss_one (s_set (i := 4) (ev_var 6) sc_piece_at.nd)))))
    (ss_one (s_ret (ev_make (mk_Piece T) (hr.mono (by decide)) pass_cx (ea_cons (ev_ix (ev_var 1) (ev_var 2)) (ea_cons (ev_ix (ev_var 1) (ev_op dop_add (ev_var 2) (ev_int))) (ea_cons (ev_ix (ev_var 4) (ev_int)) (ea_nil)))))))))
theorem sc_pieces_of : FnScope ["bend", "knots", "at"] ["bend"] (defScope s_pieces_of) := ⟨rfl, rfl, rfl, by decide +kernel, rfl, by decide +kernel, by decide +kernel⟩
theorem ok_pieces_of {P : Program} {w : World} {K : PySem.W.Frag} {mg : Str → Option Value} {base : Heap} (T : Say K mg) : FnE P w K mg base 6 "pieces_of" ["bend"] F_pieces_of := by
  obtain ⟨fd, F⟩ := T.d_pieces_of
  exact fn_ok F sc_pieces_of T.g_pieces_of (fun _ _ _ _ _ _ us hl => match us, hl with | [_], _ => rfl) fun cdv A outer s H E hr =>
    ss_cons (s_set (i := 1) (ev_call (ok_knots_of T) (hr.mono (by decide)) pass_cx (ea_cons (ev_fld (ev_var 0) T.cl_Bend T.na_Bend_degree) (ea_cons (ev_fld (ev_var 0) T.cl_Bend T.na_Bend_marks) (ea_nil)))) sc_pieces_of.nd)
    (ss_one (s_ret (((lc_c (own := [("at", 2)]) (iv_range1 (T.m_range) (ea_cons (ev_op dop_sub (ev_callB dc_len (T.m_len) (by decide +kernel) (ea_cons (ev_var 1) (ea_nil))) (ev_int)) (ea_nil))) const_range1 (blkOk_by (own := [("at", 2)]) (by kernel_rfl)) (fun _ _ _ _ _ => gv_name (i := 2) sc_pieces_of.nd) (fun _ _ _ _ _ => eif_one (et_val (ev_call (ok_is_less T) (hr.mono (by decide)) passL (ea_cons (ev_ix (ev_var 1) (ev_var 2)) (ea_cons (ev_ix (ev_var 1) (ev_op dop_add (ev_var 2) (ev_int))) (ea_nil)))))) (fun _ _ _ _ _ => ev_call (ok_piece_at T) (hr.mono (by decide)) passL (ea_cons (ev_var 0) (ea_cons (ev_var 1) (ea_cons (ev_var 2) (ea_nil)))))).en rfl sc_pieces_of.nd).ev)))
theorem sc_slopes_of : FnScope ["rows", "row"] ["rows"] (defScope s_slopes_of) := ⟨rfl, rfl, rfl, by decide +kernel, rfl, by decide +kernel, by decide +kernel⟩
theorem ok_slopes_of {P : Program} {w : World} {K : PySem.W.Frag} {mg : Str → Option Value} {base : Heap} (T : Say K mg) : FnE P w K mg base 5 "slopes_of" ["rows"] F_slopes_of := by
  obtain ⟨fd, F⟩ := T.d_slopes_of
  exact fn_ok F sc_slopes_of T.g_slopes_of (fun _ _ _ _ _ _ us hl => match us, hl with | [_], _ => rfl) fun cdv A outer s H E hr =>
    ss_one (s_ret (((lc_c (own := [("row", 1)]) (iv_seq (ev_var 0)) const_seq (blkOk_by (own := [("row", 1)]) (by kernel_rfl)) (fun _ _ _ _ _ => gv_name (i := 1) sc_slopes_of.nd) (fun _ _ _ _ _ => eif_nil) (fun _ _ _ _ _ => ev_make (mk_Piece T) (hr.mono (by decide)) passL (ea_cons (ev_fld (ev_var 1) T.cl_Piece T.na_Piece_start) (ea_cons (ev_fld (ev_var 1) T.cl_Piece T.na_Piece_end) (ea_cons (ev_call (ok_poly_slope T) (hr.mono (by decide)) passL (ea_cons (ev_fld (ev_var 1) T.cl_Piece T.na_Piece_poly) (ea_nil))) (ea_nil)))))).en rfl sc_slopes_of.nd).ev))
theorem sc_bends_up : FnScope ["bend", "rows", "at", "spot"] ["bend"] (defScope s_bends_up) := ⟨rfl, rfl, rfl, by decide +kernel, rfl, by decide +kernel, by decide +kernel⟩
theorem ok_bends_up {P : Program} {w : World} {K : PySem.W.Frag} {mg : Str → Option Value} {base : Heap} (T : Say K mg) : FnE P w K mg base 12 "bends_up" ["bend"] F_bends_up := by
  obtain ⟨fd, F⟩ := T.d_bends_up
  exact fn_ok F sc_bends_up T.g_bends_up (fun _ _ _ _ _ _ us hl => match us, hl with | [_], _ => rfl) fun cdv A outer s H E hr =>
    ss_cons (s_set (i := 1) (ev_call (ok_slopes_of T) (hr.mono (by decide)) pass_cx (ea_cons (ev_call (ok_pieces_of T) (hr.mono (by decide)) pass_cx (ea_cons (ev_var 0) (ea_nil))) (ea_nil))) sc_bends_up.nd)
    (ss_cons (s_for pass_own rfl (iv_range1 (T.m_range) (ea_cons (ev_op dop_sub (ev_callB dc_len (T.m_len) (by decide +kernel) (ea_cons (ev_var 1) (ea_nil))) (ev_int)) (ea_nil))) const_range1 (gv_name (i := 2) sc_bends_up.nd) (ss_cons (s_set (i := 3) (ev_fld (ev_ix (ev_var 1) (ev_var 2)) T.cl_Piece T.na_Piece_end) sc_bends_up.nd)
    (ss_one (s_if (et_val (ev_call (ok_is_less T) (hr.mono (by decide)) pass_cx (ea_cons (ev_call (ok_poly_at T) (hr.mono (by decide)) pass_cx (ea_cons (ev_fld (ev_ix (ev_var 1) (ev_op dop_add (ev_var 2) (ev_int))) T.cl_Piece T.na_Piece_poly) (ea_cons (ev_var 3) (ea_nil)))) (ea_cons (ev_call (ok_poly_at T) (hr.mono (by decide)) pass_cx (ea_cons (ev_fld (ev_ix (ev_var 1) (ev_var 2)) T.cl_Piece T.na_Piece_poly) (ea_cons (ev_var 3) (ea_nil)))) (ea_nil))))) (ss_one (s_ret (ev_bl))) (ss_nil)))))
    (ss_one (s_ret (ev_call (ok_is_kept_up T) (hr.mono (by decide)) pass_cx (ea_cons (ev_call (ok_slopes_of T) (hr.mono (by decide)) pass_cx (ea_cons (ev_var 1) (ea_nil))) (ea_nil))))))
theorem sc_sign_row : FnScope ["bend"] ["bend"] (defScope s_sign_row) := ⟨rfl, rfl, rfl, by decide +kernel, rfl, by decide +kernel, by decide +kernel⟩
theorem ok_sign_row {P : Program} {w : World} {K : PySem.W.Frag} {mg : Str → Option Value} {base : Heap} (T : Say K mg) : FnE P w K mg base 11 "sign_row" ["bend"] F_sign_row := by
  obtain ⟨fd, F⟩ := T.d_sign_row
  exact fn_ok F sc_sign_row T.g_sign_row (fun _ _ _ _ _ _ us hl => match us, hl with | [_], _ => rfl) fun cdv A outer s H E hr =>
    ss_one (s_ret (ev_call (ok_signs_in T) (hr.mono (by decide)) pass_cx (ea_cons (ev_call (ok_pieces_of T) (hr.mono (by decide)) pass_cx (ea_cons (ev_var 0) (ea_nil))) (ea_nil))))
theorem sc_inner_places : FnScope ["bend", "signs", "at"] ["bend"] (defScope s_inner_places) := ⟨rfl, rfl, rfl, by decide +kernel, rfl, by decide +kernel, by decide +kernel⟩
theorem ok_inner_places {P : Program} {w : World} {K : PySem.W.Frag} {mg : Str → Option Value} {base : Heap} (T : Say K mg) : FnE P w K mg base 12 "inner_places" ["bend"] F_inner_places := by
  obtain ⟨fd, F⟩ := T.d_inner_places
  exact fn_ok F sc_inner_places T.g_inner_places (fun _ _ _ _ _ _ us hl => match us, hl with | [_], _ => rfl) fun cdv A outer s H E hr =>
    ss_cons (s_set (i := 1) (ev_call (ok_sign_row T) (hr.mono (by decide)) pass_cx (ea_cons (ev_var 0) (ea_nil))) sc_inner_places.nd)
    (ss_one (s_ret (((lc_c (own := [("at", 2)]) (iv_range2 (T.m_range) (ea_cons (ev_int) (ea_cons (ev_op dop_sub (ev_callB dc_len (T.m_len) (by decide +kernel) (ea_cons (ev_var 1) (ea_nil))) (ev_int)) (ea_nil)))) const_range2 (blkOk_by (own := [("at", 2)]) (by kernel_rfl)) (fun _ _ _ _ _ => gv_name (i := 2) sc_inner_places.nd) (fun _ _ _ _ _ => eif_one (et_cmp (dop_eq hr.units) (ev_ix (ev_var 1) (ev_var 2)) (ev_int) (nomark _))) (fun _ _ _ _ _ => ev_tup (ea_cons (ev_ix (ev_var 1) (ev_op dop_sub (ev_var 2) (ev_int))) (ea_cons (ev_ix (ev_var 1) (ev_op dop_add (ev_var 2) (ev_int))) (ea_nil))))).en rfl sc_inner_places.nd).ev)))
theorem sc_crossings : FnScope ["bend", "here", "there"] ["bend"] (defScope s_crossings) := ⟨rfl, rfl, rfl, by decide +kernel, rfl, by decide +kernel, by decide +kernel⟩
theorem ok_crossings {P : Program} {w : World} {K : PySem.W.Frag} {mg : Str → Option Value} {base : Heap} (T : Say K mg) : FnE P w K mg base 13 "crossings" ["bend"] F_crossings := by
  obtain ⟨fd, F⟩ := T.d_crossings
  exact fn_ok F sc_crossings T.g_crossings (fun _ _ _ _ _ _ us hl => match us, hl with | [_], _ => rfl) fun cdv A outer s H E hr =>
    ss_one (s_ret (ev_callB dc_len (T.m_len) (by decide +kernel) (ea_cons (((lc_c (own := [("here", 1), ("there", 2)]) (iv_seq (ev_call (ok_inner_places T) (hr.mono (by decide)) pass_cx (ea_cons (ev_var 0) (ea_nil)))) const_seq (blkOk_by (own := [("here", 1), ("there", 2)]) (by kernel_rfl)) (fun _ _ _ _ _ => gv_tup rfl (gvs_cons (gv_name (i := 1) sc_crossings.nd) (gvs_cons (gv_name (i := 2) sc_crossings.nd) (gvs_nil)))) (fun _ _ _ _ _ => eif_one (et_cmp (dop_ne hr.units) (ev_var 1) (ev_var 2) (nomark _))) (fun _ _ _ _ _ => ev_int)).en rfl sc_crossings.nd).ev) (ea_nil))))
theorem sc_Unlike_init : FnScope ["self"] ["self"] (defScope s_Unlike_init) := ⟨rfl, rfl, rfl, by decide +kernel, rfl, by decide +kernel, by decide +kernel⟩
theorem xc0_Unlike {P : Program} {w : World} {K : PySem.W.Frag} {mg : Str → Option Value} {base : Heap} (T : Say K mg) : XcE0 P w K mg base 1 "Unlike" := by
  obtain ⟨fd, F⟩ := T.d_Unlike_init
  exact exc0_ok F sc_Unlike_init T.xf0_Unlike T.gc_Unlike (fun _ _ _ _ _ _ us hl => match us, hl with | [_], _ => rfl) fun cdv A outer s H E => exc0_suite rfl (by first | exact Or.inl rfl | exact Or.inr (Or.inl rfl) | exact Or.inr (Or.inr rfl)) rfl T.gc_BendError T.bot_BendError T.xf0_Unlike.o (by decide) rfl rfl
theorem sc_need_alike : FnScope ["p", "q"] ["p", "q"] (defScope s_need_alike) := ⟨rfl, rfl, rfl, by decide +kernel, rfl, by decide +kernel, by decide +kernel⟩
theorem ok_need_alike {P : Program} {w : World} {K : PySem.W.Frag} {mg : Str → Option Value} {base : Heap} (T : Say K mg) : FnE P w K mg base 3 "need_alike" ["p", "q"] F_need_alike := by
  obtain ⟨fd, F⟩ := T.d_need_alike
  exact fn_ok F sc_need_alike T.g_need_alike (fun _ _ _ _ _ _ us hl => match us, hl with | [_, _], _ => rfl) fun cdv A outer s H E hr =>
    ss_one (s_if ((ew_or (et_cmp (dop_ne hr.units) (ev_ix (ev_fld (ev_var 0) T.cl_Bend T.na_Bend_marks) (ev_int)) (ev_ix (ev_fld (ev_var 1) T.cl_Bend T.na_Bend_marks) (ev_int)) (nomark _)) (ew_or1 (et_cmp (dop_ne hr.units) (ev_ix (ev_fld (ev_var 0) T.cl_Bend T.na_Bend_marks) (ev_neg (ev_int))) (ev_ix (ev_fld (ev_var 1) T.cl_Bend T.na_Bend_marks) (ev_neg (ev_int))) (nomark _)))).et) (ss_one (s_raise0 (xc0_Unlike T) (hr.mono (by decide)) rfl (takes_of rfl rfl rfl rfl))) (ss_nil))
theorem sc_put_together_vfdb7 : FnScope ["p", "q", "work", "mark", "found", "at", "here", "there", "marks", "first", "last", "one"] ["p", "q", "work"] (defScope s_put_together_vfdb7) := ⟨rfl, rfl, rfl, by decide +kernel, rfl, by decide +kernel, by decide +kernel⟩
theorem ok_put_together_vfdb7 {P : Program} {w : World} {K : PySem.W.Frag} {mg : Str → Option Value} {base : Heap} (T : Say K mg) : FnE P w K mg base 7 "put_together" ["p", "q", "work"] F_put_together_vfdb7 := by
  obtain ⟨fd, F⟩ := T.d_put_together_vfdb7
  exact fn_ok F sc_put_together_vfdb7 T.g_put_together_vfdb7 (fun _ _ _ _ _ _ us hl => match us, hl with | [_, _, _], _ => rfl) fun cdv A outer s H E hr =>
    ss_cons (s_expr (ev_call (ok_need_alike T) (hr.mono (by decide)) pass_cx (ea_cons (ev_var 0) (ea_cons (ev_var 1) (ea_nil)))))
    (ss_cons (s_par3 (i := 6) (j := 7) (l := 8) rfl sc_put_together_vfdb7.nd (ex_consP (ev_call (ok_pieces_of T) (hr.mono (by decide)) pass_cx (ea_cons (ev_var 0) (ea_nil))) (ex_consP (ev_call (ok_pieces_of T) (hr.mono (by decide)) pass_cx (ea_cons (ev_var 1) (ea_nil))) (ex_consP ((en_list (T.m_list) (ev_fld (ev_var 0) T.cl_Bend T.na_Bend_marks)).ev) (ex_nil)))))
    (ss_cons (s_for pass_own rfl (iv_seq (ev_fld (ev_var 1) T.cl_Bend T.na_Bend_marks)) const_seq (gv_name (i := 3) sc_put_together_vfdb7.nd) (ss_one (s_if (et_cmp (dop_notInT (hu65 hr)) (ev_var 3) (ev_var 8) (by rfl)) (ss_one (s_set (i := 8) ((en_lst (ea_star (((lc_c (own := [("one", 11)]) (iv_seq (ev_var 8)) const_seq (blkOk_by (own := [("one", 11)]) (by kernel_rfl)) (fun _ _ _ _ _ => gv_name (i := 11) sc_put_together_vfdb7.nd) (fun _ _ _ _ _ => eif_one (et_val (ev_call (ok_is_less T) (hr.mono (by decide)) passL (ea_cons (ev_var 11) (ea_cons (ev_var 3) (ea_nil)))))) (fun _ _ _ _ _ => ev_var 11)).en rfl sc_put_together_vfdb7.nd).ev) (ea_cons (ev_var 3) (ea_star (((lc_c (own := [("one", 11)]) (iv_seq (ev_var 8)) const_seq (blkOk_by (own := [("one", 11)]) (by kernel_rfl)) (fun _ _ _ _ _ => gv_name (i := 11) sc_put_together_vfdb7.nd) (fun _ _ _ _ _ => eif_one (et_val (ev_call (ok_is_less T) (hr.mono (by decide)) passL (ea_cons (ev_var 3) (ea_cons (ev_var 11) (ea_nil)))))) (fun _ _ _ _ _ => ev_var 11)).en rfl sc_put_together_vfdb7.nd).ev) (ea_nil))))).ev) sc_put_together_vfdb7.nd)) (ss_nil))))
    (ss_cons (s_own (i := 4) (en_lst (ea_nil)) sc_put_together_vfdb7.nd)
    (ss_cons (s_for pass_own rfl (iv_range1 (T.m_range) (ea_cons (ev_op dop_sub (ev_callB dc_len (T.m_len) (by decide +kernel) (ea_cons (ev_var 8) (ea_nil))) (ev_int)) (ea_nil))) const_range1 (gv_name (i := 5) sc_put_together_vfdb7.nd) (ss_one (s_if (et_val (ev_call (ok_is_less T) (hr.mono (by decide)) pass_cx (ea_cons (ev_ix (ev_var 8) (ev_var 5)) (ea_cons (ev_ix (ev_var 8) (ev_op dop_add (ev_var 5) (ev_int))) (ea_nil))))) (ss_cons (s_par2 (i := 9) (j := 10) rfl sc_put_together_vfdb7.nd (ex_consP (ev_ix (ev_var 8) (ev_var 5)) (ex_consP (ev_ix (ev_var 8) (ev_op dop_add (ev_var 5) (ev_int))) (ex_nil))))
    (ss_one (s_app (i := 4) (ea_cons (ev_make (mk_Piece T) (hr.mono (by decide)) pass_cx (ea_cons (ev_var 9) (ea_cons (ev_var 10) (ea_cons (ev_callV (i := 2) (k := 4) (tabE_cons (ok_poly_less T) (tabE_nil)) (hr.mono (by decide)) pass_cx (ea_cons (ev_call (ok_poly_in T) (hr.mono (by decide)) pass_cx (ea_cons (ev_var 6) (ea_cons (ev_var 9) (ea_cons (ev_var 10) (ea_nil))))) (ea_cons (ev_call (ok_poly_in T) (hr.mono (by decide)) pass_cx (ea_cons (ev_var 7) (ea_cons (ev_var 9) (ea_cons (ev_var 10) (ea_nil))))) (ea_nil)))) (ea_nil))))) (ea_nil))))) (ss_nil))))
    (ss_one (s_ret (ev_var 4)))))))
theorem sc_is_above_v23b1 : FnScope ["p", "q"] ["p", "q"] (defScope s_is_above_v23b1) := ⟨rfl, rfl, rfl, by decide +kernel, rfl, by decide +kernel, by decide +kernel⟩
theorem ok_is_above_v23b1 {P : Program} {w : World} {K : PySem.W.Frag} {mg : Str → Option Value} {base : Heap} (T : Say K mg) : FnE P w K mg base 11 "is_above" ["p", "q"] F_is_above_v23b1 := by
  obtain ⟨fd, F⟩ := T.d_is_above_v23b1
  exact fn_ok F sc_is_above_v23b1 T.g_is_above_v23b1 (fun _ _ _ _ _ _ us hl => match us, hl with | [_, _], _ => rfl) fun cdv A outer s H E hr =>
    ss_one (s_ret (ev_cmp (dop_eq hr.units) (ev_call (ok_signs_in T) (hr.mono (by decide)) pass_cx (ea_cons (ev_call (ok_put_together_vfdb7 T) (hr.mono (by decide)) pass_cx (ea_cons (ev_var 0) (ea_cons (ev_var 1) (ea_cons (ev_fn T.g_poly_less) (ea_nil))))) (ea_nil))) (ev_tup (ea_cons (ev_int) (ea_nil))) (nomark _)))
theorem sc_never_below_vd7c6 : FnScope ["p", "q"] ["p", "q"] (defScope s_never_below_vd7c6) := ⟨rfl, rfl, rfl, by decide +kernel, rfl, by decide +kernel, by decide +kernel⟩
theorem ok_never_below_vd7c6 {P : Program} {w : World} {K : PySem.W.Frag} {mg : Str → Option Value} {base : Heap} (T : Say K mg) : FnE P w K mg base 11 "never_below" ["p", "q"] F_never_below_vd7c6 := by
  obtain ⟨fd, F⟩ := T.d_never_below_vd7c6
  exact fn_ok F sc_never_below_vd7c6 T.g_never_below_vd7c6 (fun _ _ _ _ _ _ us hl => match us, hl with | [_, _], _ => rfl) fun cdv A outer s H E hr =>
    ss_one (s_ret (ev_cmp (dop_notInT (hu65 hr)) (ev_neg (ev_int)) (ev_call (ok_signs_in T) (hr.mono (by decide)) pass_cx (ea_cons (ev_call (ok_put_together_vfdb7 T) (hr.mono (by decide)) pass_cx (ea_cons (ev_var 0) (ea_cons (ev_var 1) (ea_cons (ev_fn T.g_poly_less) (ea_nil))))) (ea_nil))) (by rfl)))
theorem sc_rises : FnScope ["bend"] ["bend"] (defScope s_rises) := ⟨rfl, rfl, rfl, by decide +kernel, rfl, by decide +kernel, by decide +kernel⟩
theorem ok_rises {P : Program} {w : World} {K : PySem.W.Frag} {mg : Str → Option Value} {base : Heap} (T : Say K mg) : FnE P w K mg base 12 "rises" ["bend"] F_rises := by
  obtain ⟨fd, F⟩ := T.d_rises
  exact fn_ok F sc_rises T.g_rises (fun _ _ _ _ _ _ us hl => match us, hl with | [_], _ => rfl) fun cdv A outer s H E hr =>
    ss_one (s_ret (ev_call (ok_is_kept_up T) (hr.mono (by decide)) pass_cx (ea_cons (ev_call (ok_slopes_of T) (hr.mono (by decide)) pass_cx (ea_cons (ev_call (ok_pieces_of T) (hr.mono (by decide)) pass_cx (ea_cons (ev_var 0) (ea_nil))) (ea_nil))) (ea_nil))))
theorem sc_rises_always : FnScope ["bend", "rows", "row"] ["bend"] (defScope s_rises_always) := ⟨rfl, rfl, rfl, by decide +kernel, rfl, by decide +kernel, by decide +kernel⟩
theorem ok_rises_always {P : Program} {w : World} {K : PySem.W.Frag} {mg : Str → Option Value} {base : Heap} (T : Say K mg) : FnE P w K mg base 12 "rises_always" ["bend"] F_rises_always := by
  obtain ⟨fd, F⟩ := T.d_rises_always
  exact fn_ok F sc_rises_always T.g_rises_always (fun _ _ _ _ _ _ us hl => match us, hl with | [_], _ => rfl) fun cdv A outer s H E hr =>
    ss_cons (s_set (i := 1) (ev_call (ok_slopes_of T) (hr.mono (by decide)) pass_cx (ea_cons (ev_call (ok_pieces_of T) (hr.mono (by decide)) pass_cx (ea_cons (ev_var 0) (ea_nil))) (ea_nil))) sc_rises_always.nd)
    (ss_one (s_ret (ev_and (ev_call (ok_is_kept_up T) (hr.mono (by decide)) pass_cx (ea_cons (ev_var 1) (ea_nil))) (ev_one (ev_callB (dc_all rfl) (T.m_all) (by decide +kernel) (ea_cons (((lc_c (own := [("row", 2)]) (iv_seq (ev_var 1)) const_seq (blkOk_by (own := [("row", 2)]) (by kernel_rfl)) (fun _ _ _ _ _ => gv_name (i := 2) sc_rises_always.nd) (fun _ _ _ _ _ => eif_nil) (fun _ _ _ _ _ => ev_cmp dop_gt (ev_callB dc_len (T.m_len) (by decide +kernel) (ea_cons (ev_fld (ev_var 2) T.cl_Piece T.na_Piece_poly) (ea_nil))) (ev_int) (nomark _))).en rfl sc_rises_always.nd).ev) (ea_nil)))))))
theorem sc_touches : FnScope ["bend", "here", "there"] ["bend"] (defScope s_touches) := ⟨rfl, rfl, rfl, by decide +kernel, rfl, by decide +kernel, by decide +kernel⟩
theorem ok_touches {P : Program} {w : World} {K : PySem.W.Frag} {mg : Str → Option Value} {base : Heap} (T : Say K mg) : FnE P w K mg base 13 "touches" ["bend"] F_touches := by
  obtain ⟨fd, F⟩ := T.d_touches
  exact fn_ok F sc_touches T.g_touches (fun _ _ _ _ _ _ us hl => match us, hl with | [_], _ => rfl) fun cdv A outer s H E hr =>
    ss_one (s_ret (ev_callB dc_len (T.m_len) (by decide +kernel) (ea_cons (((lc_c (own := [("here", 1), ("there", 2)]) (iv_seq (ev_call (ok_inner_places T) (hr.mono (by decide)) pass_cx (ea_cons (ev_var 0) (ea_nil)))) const_seq (blkOk_by (own := [("here", 1), ("there", 2)]) (by kernel_rfl)) (fun _ _ _ _ _ => gv_tup rfl (gvs_cons (gv_name (i := 1) sc_touches.nd) (gvs_cons (gv_name (i := 2) sc_touches.nd) (gvs_nil)))) (fun _ _ _ _ _ => eif_one (et_cmp (dop_eq hr.units) (ev_var 1) (ev_var 2) (nomark _))) (fun _ _ _ _ _ => ev_int)).en rfl sc_touches.nd).ev) (ea_nil))))
theorem sc_law_case_right : FnScope ["_law_made", "_law_signs", "_law_crossed", "_law_touched", "_law_answers", "_law_nought", "_law_told", "_law_some", "_law_one"] ["_law_made", "_law_signs", "_law_crossed", "_law_touched", "_law_answers"] (defScope s_law_case_right) := ⟨rfl, rfl, rfl, by decide +kernel, rfl, by decide +kernel, by decide +kernel⟩
theorem ok_law_case_right {P : Program} {w : World} {K : PySem.W.Frag} {mg : Str → Option Value} {base : Heap} (T : Say K mg) : FnE P w K mg base 14 "_law_case_right" ["_law_made", "_law_signs", "_law_crossed", "_law_touched", "_law_answers"] F_law_case_right := by
  obtain ⟨fd, F⟩ := T.d_law_case_right
  exact fn_ok F sc_law_case_right T.g_law_case_right (fun _ _ _ _ _ _ us hl => match us, hl with | [_, _, _, _, _], _ => rfl) fun cdv A outer s H E hr =>
    ss_cons (s_set (i := 5) (ev_make (mk_Bend T) (hr.mono (by decide)) pass_cx (ea_cons (ev_int) (ea_cons ((en_lst (ea_cons (ev_ix (ev_fld (ev_var 0) T.cl_Bend T.na_Bend_marks) (ev_int)) (ea_cons (ev_ix (ev_fld (ev_var 0) T.cl_Bend T.na_Bend_marks) (ev_neg (ev_int))) (ea_nil)))).ev) (ea_cons ((en_lst (ea_cons (ev_int) (ea_nil))).ev) (ea_nil))))) sc_law_case_right.nd)
    (ss_cons (s_set (i := 6) (ev_join (ev_str) (((lc_c (own := [("_law_one", 8)]) (iv_seq (ev_call (ok_sign_row T) (hr.mono (by decide)) pass_cx (ea_cons (ev_var 0) (ea_nil)))) const_seq (blkOk_by (own := [("_law_one", 8)]) (by kernel_rfl)) (fun _ _ _ _ _ => gv_name (i := 8) sc_law_case_right.nd) (fun _ _ _ _ _ => eif_nil) (fun _ _ _ _ _ => ev_dic (tab := [((-1), "-"), (0, "0"), (1, "+")]) (u_o1 (hu65 hr)) (.cons (ev_neg (ev_int)) (fun _ => rfl) (ev_str) (fun _ => rfl) (.cons (ev_int) (fun _ => rfl) (ev_str) (fun _ => rfl) (.cons (ev_int) (fun _ => rfl) (ev_str) (fun _ => rfl) .nil))) (by simp) (by decide) (ev_var 8))).en rfl sc_law_case_right.nd).ev)) sc_law_case_right.nd)
    (ss_cons (s_if (et_cmp (dop_ne hr.units) (ev_tup (ea_cons (ev_var 6) (ea_cons (ev_call (ok_crossings T) (hr.mono (by decide)) pass_cx (ea_cons (ev_var 0) (ea_nil))) (ea_cons (ev_call (ok_touches T) (hr.mono (by decide)) pass_cx (ea_cons (ev_var 0) (ea_nil))) (ea_nil))))) (ev_tup (ea_cons (ev_var 1) (ea_cons (ev_var 2) (ea_cons (ev_var 3) (ea_nil))))) (nomark _)) (ss_one (s_ret (ev_bl))) (ss_nil))
    (ss_cons (s_set (i := 7) ((en_lst (ea_cons (ev_call (ok_rises T) (hr.mono (by decide)) pass_cx (ea_cons (ev_var 0) (ea_nil))) (ea_cons (ev_call (ok_rises_always T) (hr.mono (by decide)) pass_cx (ea_cons (ev_var 0) (ea_nil))) (ea_cons (ev_call (ok_bends_up T) (hr.mono (by decide)) pass_cx (ea_cons (ev_var 0) (ea_nil))) (ea_cons (ev_call (ok_is_above_v23b1 T) (hr.mono (by decide)) pass_cx (ea_cons (ev_var 0) (ea_cons (ev_var 5) (ea_nil)))) (ea_cons (ev_call (ok_never_below_vd7c6 T) (hr.mono (by decide)) pass_cx (ea_cons (ev_var 0) (ea_cons (ev_var 5) (ea_nil)))) (ea_nil))))))).ev) sc_law_case_right.nd)
    (ss_one (s_ret (ev_cmp (dop_eq hr.units) (ev_join (ev_str) (((lc_c (own := [("_law_one", 8)]) (iv_seq (ev_var 7)) const_seq (blkOk_by (own := [("_law_one", 8)]) (by kernel_rfl)) (fun _ _ _ _ _ => gv_name (i := 8) sc_law_case_right.nd) (fun _ _ _ _ _ => eif_nil) (fun _ _ _ _ _ => ev_if (et_cmp dop_isB (ev_var 8) (ev_bl) (nomark _)) (ev_str) (ev_str))).en rfl sc_law_case_right.nd).ev)) (ev_var 4) (nomark _)))))))
theorem sc_law_cases_v9df0 : FnScope ["_law_found"] [] (defScope s_law_cases_v9df0) := ⟨rfl, rfl, rfl, by decide +kernel, rfl, by decide +kernel, by decide +kernel⟩
theorem ok_law_cases_v9df0 {P : Program} {w : World} {K : PySem.W.Frag} {mg : Str → Option Value} {base : Heap} (T : Say K mg) : FnE P w K mg base 1 "_law_cases" [] F_law_cases_v9df0 := by
  obtain ⟨fd, F⟩ := T.d_law_cases_v9df0
  exact fn_ok F sc_law_cases_v9df0 T.g_law_cases_v9df0 (fun _ _ _ _ _ _ us hl => match us, hl with | [], _ => rfl) fun cdv A outer s H E hr =>
    ss_cons (s_own (i := 0) (en_lst (ea_cons (ev_tup (ea_cons (ev_int) (ea_cons ((en_lst (ea_cons (ev_int) (ea_cons (ev_int) (ea_cons (ev_int) (ea_nil))))).ev) (ea_cons ((en_lst (ea_cons (ev_int) (ea_cons (ev_int) (ea_cons (ev_int) (ea_nil))))).ev) (ea_cons (ev_str) (ea_cons (ev_int) (ea_cons (ev_int) (ea_cons (ev_str) (ea_nil))))))))) (ea_cons (ev_tup (ea_cons (ev_int) (ea_cons ((en_lst (ea_cons (ev_int) (ea_cons (ev_int) (ea_nil)))).ev) (ea_cons ((en_lst (ea_cons (ev_int) (ea_cons (ev_neg (ev_int)) (ea_cons (ev_int) (ea_nil))))).ev) (ea_cons (ev_str) (ea_cons (ev_int) (ea_cons (ev_int) (ea_cons (ev_str) (ea_nil))))))))) (ea_nil)))) sc_law_cases_v9df0.nd)
    (ss_cons (s_app (i := 0) (ea_cons (ev_tup (ea_cons (ev_int) (ea_cons ((en_lst (ea_cons (ev_int) (ea_cons (ev_int) (ea_nil)))).ev) (ea_cons ((en_lst (ea_cons (ev_int) (ea_cons (ev_neg (ev_int)) (ea_cons (ev_int) (ea_nil))))).ev) (ea_cons (ev_str) (ea_cons (ev_int) (ea_cons (ev_int) (ea_cons (ev_str) (ea_nil))))))))) (ea_nil)))
    (ss_cons (s_app (i := 0) (ea_cons (ev_tup (ea_cons (ev_int) (ea_cons ((en_lst (ea_cons (ev_neg (ev_int)) (ea_cons (ev_int) (ea_nil)))).ev) (ea_cons ((en_lst (ea_cons (ev_neg (ev_int)) (ea_cons (ev_int) (ea_cons (ev_neg (ev_int)) (ea_cons (ev_int) (ea_nil)))))).ev) (ea_cons (ev_str) (ea_cons (ev_int) (ea_cons (ev_int) (ea_cons (ev_str) (ea_nil))))))))) (ea_nil)))
    (ss_cons (s_app (i := 0) (ea_cons (ev_tup (ea_cons (ev_int) (ea_cons ((en_lst (ea_cons (ev_int) (ea_cons (ev_int) (ea_cons (ev_int) (ea_cons (ev_int) (ea_nil)))))).ev) (ea_cons ((en_lst (ea_cons (ev_int) (ea_cons (ev_int) (ea_cons (ev_int) (ea_cons (ev_neg (ev_int)) (ea_nil)))))).ev) (ea_cons (ev_str) (ea_cons (ev_int) (ea_cons (ev_int) (ea_cons (ev_str) (ea_nil))))))))) (ea_nil)))
    (ss_cons (s_app (i := 0) (ea_cons (ev_tup (ea_cons (ev_int) (ea_cons ((en_lst (ea_cons (ev_int) (ea_cons (ev_int) (ea_cons (ev_int) (ea_cons (ev_int) (ea_nil)))))).ev) (ea_cons ((en_lst (ea_cons (ev_int) (ea_cons (ev_int) (ea_cons (ev_int) (ea_cons (ev_int) (ea_nil)))))).ev) (ea_cons (ev_str) (ea_cons (ev_int) (ea_cons (ev_int) (ea_cons (ev_str) (ea_nil))))))))) (ea_nil)))
    (ss_cons (s_app (i := 0) (ea_cons (ev_tup (ea_cons (ev_int) (ea_cons ((en_lst (ea_cons (ev_int) (ea_cons (ev_int) (ea_cons (ev_int) (ea_cons (ev_int) (ea_nil)))))).ev) (ea_cons ((en_lst (ea_cons (ev_neg (ev_int)) (ea_cons (ev_int) (ea_cons (ev_int) (ea_cons (ev_int) (ea_nil)))))).ev) (ea_cons (ev_str) (ea_cons (ev_int) (ea_cons (ev_int) (ea_cons (ev_str) (ea_nil))))))))) (ea_nil)))
    (ss_cons (s_app (i := 0) (ea_cons (ev_tup (ea_cons (ev_int) (ea_cons ((en_lst (ea_cons (ev_int) (ea_cons (ev_int) (ea_cons (ev_int) (ea_nil))))).ev) (ea_cons ((en_lst (ea_cons (ev_int) (ea_cons (ev_int) (ea_cons (ev_int) (ea_cons (ev_int) (ea_nil)))))).ev) (ea_cons (ev_str) (ea_cons (ev_int) (ea_cons (ev_int) (ea_cons (ev_str) (ea_nil))))))))) (ea_nil)))
    (ss_cons (s_app (i := 0) (ea_cons (ev_tup (ea_cons (ev_int) (ea_cons ((en_lst (ea_cons (ev_int) (ea_cons (ev_int) (ea_cons (ev_int) (ea_nil))))).ev) (ea_cons ((en_lst (ea_cons (ev_int) (ea_cons (ev_int) (ea_cons (ev_int) (ea_cons (ev_int) (ea_nil)))))).ev) (ea_cons (ev_str) (ea_cons (ev_int) (ea_cons (ev_int) (ea_cons (ev_str) (ea_nil))))))))) (ea_nil)))
    (ss_cons (s_app (i := 0) (ea_cons (ev_tup (ea_cons (ev_int) (ea_cons ((en_lst (ea_cons (ev_int) (ea_cons (ev_int) (ea_nil)))).ev) (ea_cons ((en_lst (ea_cons (ev_int) (ea_nil))).ev) (ea_cons (ev_str) (ea_cons (ev_int) (ea_cons (ev_int) (ea_cons (ev_str) (ea_nil))))))))) (ea_nil)))
    (ss_cons (s_app (i := 0) (ea_cons (ev_tup (ea_cons (ev_int) (ea_cons ((en_lst (ea_cons (ev_int) (ea_cons (ev_int) (ea_nil)))).ev) (ea_cons ((en_lst (ea_cons (ev_int) (ea_nil))).ev) (ea_cons (ev_str) (ea_cons (ev_int) (ea_cons (ev_int) (ea_cons (ev_str) (ea_nil))))))))) (ea_nil)))
    (ss_cons (s_app (i := 0) (ea_cons (ev_tup (ea_cons (ev_int) (ea_cons ((en_lst (ea_cons (ev_int) (ea_cons (ev_int) (ea_nil)))).ev) (ea_cons ((en_lst (ea_cons (ev_neg (ev_int)) (ea_cons (ev_int) (ea_nil)))).ev) (ea_cons (ev_str) (ea_cons (ev_int) (ea_cons (ev_int) (ea_cons (ev_str) (ea_nil))))))))) (ea_nil)))
    (ss_cons (s_app (i := 0) (ea_cons (ev_tup (ea_cons (ev_int) (ea_cons ((en_lst (ea_cons (ev_int) (ea_cons (ev_int) (ea_nil)))).ev) (ea_cons ((en_lst (ea_cons (ev_int) (ea_cons (ev_neg (ev_int)) (ea_cons (ev_int) (ea_nil))))).ev) (ea_cons (ev_str) (ea_cons (ev_int) (ea_cons (ev_int) (ea_cons (ev_str) (ea_nil))))))))) (ea_nil)))
    (ss_cons (s_app (i := 0) (ea_cons (ev_tup (ea_cons (ev_int) (ea_cons ((en_lst (ea_cons (ev_int) (ea_cons (ev_int) (ea_cons (ev_int) (ea_cons (ev_int) (ea_nil)))))).ev) (ea_cons ((en_lst (ea_cons (ev_neg (ev_int)) (ea_cons (ev_int) (ea_cons (ev_int) (ea_cons (ev_int) (ea_cons (ev_int) (ea_nil))))))).ev) (ea_cons (ev_str) (ea_cons (ev_int) (ea_cons (ev_int) (ea_cons (ev_str) (ea_nil))))))))) (ea_nil)))
    (ss_cons (s_app (i := 0) (ea_cons (ev_tup (ea_cons (ev_int) (ea_cons ((en_lst (ea_cons (ev_int) (ea_cons (ev_int) (ea_cons (ev_int) (ea_cons (ev_int) (ea_nil)))))).ev) (ea_cons ((en_lst (ea_cons (ev_int) (ea_cons (ev_int) (ea_cons (ev_int) (ea_cons (ev_int) (ea_cons (ev_int) (ea_nil))))))).ev) (ea_cons (ev_str) (ea_cons (ev_int) (ea_cons (ev_int) (ea_cons (ev_str) (ea_nil))))))))) (ea_nil)))
    (ss_one (s_ret (ev_var 0))))))))))))))))
theorem sc_law_deal : FnScope ["_law_script", "_law_base", "_law_cells", "_law_blend", "_law_cell"] ["_law_script", "_law_base"] (defScope s_law_deal) := ⟨rfl, rfl, rfl, by decide +kernel, rfl, by decide +kernel, by decide +kernel⟩
theorem ok_law_deal {P : Program} {w : World} {K : PySem.W.Frag} {mg : Str → Option Value} {base : Heap} (T : Say K mg) : FnNDE P w K mg base 1 "_law_deal" 2 F_law_deal := by
  obtain ⟨fd, F⟩ := T.d_law_deal
  exact fn_okND F sc_law_deal T.g_law_deal (fun _ _ _ _ _ _ us hl => match us, hl with | [_, _], _ => rfl) fun cdv A outer s H E hr =>
    svd_cons ((lc_c (own := [("_law_cell", 4)]) (iv_seq (ev_slice (ev_var 0) (eo_some (ev_var 1)) (eo_some (ev_int)))) const_seq (blkOk_by (own := [("_law_cell", 4)]) (by kernel_rfl)) (fun _ _ _ _ _ => gv_name (i := 4) sc_law_deal.nd) (fun _ _ _ _ _ => eif_nil) (fun _ _ _ _ _ => ev_callB dc_abs (T.m_abs) (by decide +kernel) (ea_cons (ev_var 4) (ea_nil)))).set (i := 2) rfl sc_law_deal.nd (sw_true rfl rfl rfl (by kernel_rfl)))
    (svd_cons (s_set (i := 3) (ev_op dop_add (ev_int) (ev_op dop_mul (ev_int) (ev_var 1))) sc_law_deal.nd)
    (svd_cons (s_for pass_own rfl (iv_seq (ev_var 2)) const_seq (gv_name (i := 4) sc_law_deal.nd) (ss_one (s_set (i := 3) (ev_op dop_mod (ev_callTy dc_int (T.m_int) (by decide +kernel) (ea_cons (ev_op dop_add (ev_op dop_add (ev_op dop_mul (ev_var 3) (ev_int)) (ev_op dop_mod (ev_callTy dc_int (T.m_int) (by decide +kernel) (ea_cons (ev_var 4) (ea_nil))) (ev_int))) (ev_int)) (ea_nil))) (ev_int)) sc_law_deal.nd)))
    (svd_ret (en_rev (((lc_c (own := [("_law_cell", 4)]) (iv_seq (ev_var 2)) const_seq (blkOk_by (own := [("_law_cell", 4)]) (by kernel_rfl)) (fun _ _ _ _ _ => gv_name (i := 4) sc_law_deal.nd) (fun _ _ _ _ _ => eif_one (et_cmp dop_ge (ev_var 4) (ev_op dop_pow (ev_int) (ev_int)) (nomark _))) (fun _ _ _ _ _ => ev_var 4)).en rfl sc_law_deal.nd).ev) (eo_some (ev_neg (ev_int)))) (ev_var 3))))
theorem sc_law_draw : FnScope ["_law_deal_here", "_law_bound", "_law_rest", "$deal"] ["_law_deal_here", "_law_bound"] (defScope s_law_draw) := ⟨rfl, rfl, rfl, by decide +kernel, rfl, by decide +kernel, by decide +kernel⟩
theorem ok_law_draw {P : Program} {w : World} {K : PySem.W.Frag} {mg : Str → Option Value} {base : Heap} (T : Say K mg) : FnDlE P w K mg base 1 "_law_draw" 1 F_law_draw := by
  obtain ⟨fd, F⟩ := T.d_law_draw
  exact fn_okD F sc_law_draw T.g_law_draw rfl rfl (by decide) (fun _ _ _ _ _ _ us hl => match us, hl with | [_, _], _ => rfl) fun cdv A outer s H E hr =>
    ss_cons (s_while (fun _ => 4000) pass_own ((ew_and (et_cmpP (dop_ne hr.units) (evp_ix (evp_dl 0) (evp_int)) (evp_nilL) (nomark _)) (ew_and1 (et_cmpP (dop_eq hr.units) (evp_ix (evp_ix (evp_dl 0) (evp_int)) (evp_neg (evp_int))) (evp_int) (nomark _)))).et) (ss_one (s_expr (ev_popD (i := 0)))))
    (ss_cons (s_if (et_cmpP (dop_ne hr.units) (evp_ix (evp_dl 0) (evp_int)) (evp_nilL) (nomark _)) (ss_cons (s_set (i := 2) (ev_popD (i := 0)) sc_law_draw.nd)
    (ss_cons (s_appD (i := 0) (ea_cons (ev_op dop_fdiv (ev_var 2) (ev_var 1)) (ea_nil)))
    (ss_one (s_ret (ev_op dop_mod (ev_callTy dc_int (T.m_int) (by decide +kernel) (ea_cons (ev_var 2) (ea_nil))) (ev_var 1)))))) (ss_nil))
    (ss_cons (s_putD (i := 0) (ev_op dop_mod (ev_callTy dc_int (T.m_int) (by decide +kernel) (ea_cons (ev_op dop_add (ev_op dop_mul (ev_p (evp_ix (evp_dl 0) (evp_int))) (ev_int)) (ev_int)) (ea_nil))) (ev_int)))
    (ss_one (s_ret (ev_op dop_mod (ev_callTy dc_int (T.m_int) (by decide +kernel) (ea_cons (ev_op dop_fdiv (ev_p (evp_ix (evp_dl 0) (evp_int))) (ev_int)) (ea_nil))) (ev_var 1))))))
theorem sc_law_mixed_v3e4d : FnScope ["_law_deal_here", "_law_some", "_law_rest", "_law_found", "$deal"] ["_law_deal_here", "_law_some"] (defScope s_law_mixed_v3e4d) := ⟨rfl, rfl, rfl, by decide +kernel, rfl, by decide +kernel, by decide +kernel⟩
theorem ok_law_mixed_v3e4d {P : Program} {w : World} {K : PySem.W.Frag} {mg : Str → Option Value} {base : Heap} (T : Say K mg) : FnDlE P w K mg base 2 "_law_mixed" 1 F_law_mixed_v3e4d := by
  obtain ⟨fd, F⟩ := T.d_law_mixed_v3e4d
  exact fn_okD F sc_law_mixed_v3e4d T.g_law_mixed_v3e4d rfl rfl (by decide) (fun _ _ _ _ _ _ us hl => match us, hl with | [_, _], _ => rfl) fun cdv A outer s H E hr =>
    ss_cons (s_par2 (i := 2) (j := 3) rfl sc_law_mixed_v3e4d.nd (ex_consO (en_list (T.m_list) (ev_var 1)) (ex_consO (en_lst (ea_nil)) (ex_nil))))
    (ss_cons (s_while (fun _ => 4000) pass_own (et_neO (i := 2) (en_lst ea_nil) (hu65 hr)) (ss_one (s_app (i := 3) (ea_cons (ev_pop (i := 2) (ev_callD (i := 0) (ok_law_draw T) (hr.mono (by decide)) pass_cx (ea_cons (ev_lenO (i := 2) (T.m_len)) (ea_nil)))) (ea_nil)))))
    (ss_one (s_ret (ev_var 3))))
theorem sc_places : FnScope ["bend", "place"] ["bend"] (defScope s_places) := ⟨rfl, rfl, rfl, by decide +kernel, rfl, by decide +kernel, by decide +kernel⟩
theorem ok_places {P : Program} {w : World} {K : PySem.W.Frag} {mg : Str → Option Value} {base : Heap} (T : Say K mg) : FnE P w K mg base 10 "places" ["bend"] F_places := by
  obtain ⟨fd, F⟩ := T.d_places
  exact fn_ok F sc_places T.g_places (fun _ _ _ _ _ _ us hl => match us, hl with | [_], _ => rfl) fun cdv A outer s H E hr =>
    ss_one (s_ret (ev_callTy dc_tuple (T.m_tuple) (by decide +kernel) (ea_cons (((lc_c (own := [("place", 1)]) (iv_seq (ev_call (ok_places_in T) (hr.mono (by decide)) pass_cx (ea_cons (ev_call (ok_pieces_of T) (hr.mono (by decide)) pass_cx (ea_cons (ev_var 0) (ea_nil))) (ea_nil)))) const_seq (blkOk_by (own := [("place", 1)]) (by kernel_rfl)) (fun _ _ _ _ _ => gv_name (i := 1) sc_places.nd) (fun _ _ _ _ _ => eif_nil) (fun _ _ _ _ _ => ev_tup (ea_cons (ev_fld (ev_var 1) T.cl_Place T.na_Place_first) (ea_cons (ev_fld (ev_var 1) T.cl_Place T.na_Place_last) (ea_nil))))).en rfl sc_places.nd).ev) (ea_nil))))
theorem sc_is_pair : FnScope ["value"] ["value"] (defScope s_is_pair) := ⟨rfl, rfl, rfl, by decide +kernel, rfl, by decide +kernel, by decide +kernel⟩
theorem ok_is_pair {P : Program} {w : World} {K : PySem.W.Frag} {mg : Str → Option Value} {base : Heap} (T : Say K mg) : FnE P w K mg base 3 "is_pair" ["value"] F_is_pair := by
  obtain ⟨fd, F⟩ := T.d_is_pair
  exact fn_ok F sc_is_pair T.g_is_pair (fun _ _ _ _ _ _ us hl => match us, hl with | [_], _ => rfl) fun cdv A outer s H E hr =>
    ss_cons (s_if ((ew_or (et_not (et_val (ev_isi tab_tup (ev_var 0) (T.m_isinstance) (T.m_tuple) (by decide +kernel)))) (ew_or (et_cmp (dop_ne hr.units) (ev_callB dc_len (T.m_len) (by decide +kernel) (ea_cons (ev_var 0) (ea_nil))) (ev_glob T.c_PAIR) (nomark _)) (ew_or (et_not (et_val (ev_call (ok_is_value T) (hr.mono (by decide)) pass_cx (ea_cons (ev_ix (ev_var 0) (ev_int)) (ea_nil))))) (ew_or1 (et_not (et_val (ev_call (ok_is_value T) (hr.mono (by decide)) pass_cx (ea_cons (ev_ix (ev_var 0) (ev_int)) (ea_nil))))))))).et) (ss_one (s_ret (ev_bl))) (ss_nil))
    (ss_one (s_ret (ev_call (ok_is_at_most T) (hr.mono (by decide)) pass_cx (ea_cons (ev_call (ok_value_of T) (hr.mono (by decide)) pass_cx (ea_cons (ev_ix (ev_var 0) (ev_int)) (ea_nil))) (ea_cons (ev_call (ok_value_of T) (hr.mono (by decide)) pass_cx (ea_cons (ev_ix (ev_var 0) (ev_int)) (ea_nil))) (ea_nil))))))
theorem sc_side_of : FnScope ["place", "time", "here"] ["place", "time"] (defScope s_side_of) := ⟨rfl, rfl, rfl, by decide +kernel, rfl, by decide +kernel, by decide +kernel⟩
theorem ok_side_of {P : Program} {w : World} {K : PySem.W.Frag} {mg : Str → Option Value} {base : Heap} (T : Say K mg) : FnE P w K mg base 5 "side_of" ["place", "time"] F_side_of := by
  obtain ⟨fd, F⟩ := T.d_side_of
  exact fn_ok F sc_side_of T.g_side_of (fun _ _ _ _ _ _ us hl => match us, hl with | [_, _], _ => rfl) fun cdv A outer s H E hr =>
    ss_cons (s_if (et_val (ev_meth0 (me_Place_is_known T) (hr.mono (by decide)) pass_cx (ev_var 0))) (ss_one (s_ret (ev_op dop_sub (ev_callTy dc_int (T.m_int) (by decide +kernel) (ea_cons (ev_call (ok_is_less T) (hr.mono (by decide)) pass_cx (ea_cons (ev_var 1) (ea_cons (ev_fld (ev_var 0) T.cl_Place T.na_Place_first) (ea_nil)))) (ea_nil))) (ev_callTy dc_int (T.m_int) (by decide +kernel) (ea_cons (ev_call (ok_is_less T) (hr.mono (by decide)) pass_cx (ea_cons (ev_fld (ev_var 0) T.cl_Place T.na_Place_first) (ea_cons (ev_var 1) (ea_nil)))) (ea_nil)))))) (ss_nil))
    (ss_cons (s_if ((ew_or (et_val (ev_call (ok_is_at_most T) (hr.mono (by decide)) pass_cx (ea_cons (ev_var 1) (ea_cons (ev_fld (ev_var 0) T.cl_Place T.na_Place_first) (ea_nil))))) (ew_or1 (et_val (ev_call (ok_is_at_most T) (hr.mono (by decide)) pass_cx (ea_cons (ev_fld (ev_var 0) T.cl_Place T.na_Place_last) (ea_cons (ev_var 1) (ea_nil))))))).et) (ss_one (s_ret (ev_if (et_val (ev_call (ok_is_at_most T) (hr.mono (by decide)) pass_cx (ea_cons (ev_var 1) (ea_cons (ev_fld (ev_var 0) T.cl_Place T.na_Place_first) (ea_nil))))) (ev_int) (ev_neg (ev_int))))) (ss_nil))
    (ss_cons (s_set (i := 2) (ev_call (ok_sign_of T) (hr.mono (by decide)) pass_cx (ea_cons (ev_call (ok_poly_at T) (hr.mono (by decide)) pass_cx (ea_cons (ev_fld (ev_var 0) T.cl_Place T.na_Place_factor) (ea_cons (ev_var 1) (ea_nil)))) (ea_nil))) sc_side_of.nd)
    (ss_cons (s_if (et_cmp (dop_eq hr.units) (ev_var 2) (ev_int) (nomark _)) (ss_one (s_ret (ev_int))) (ss_nil))
    (ss_one (s_ret (ev_if (et_cmp (dop_eq hr.units) (ev_var 2) (ev_call (ok_sign_of T) (hr.mono (by decide)) pass_cx (ea_cons (ev_call (ok_poly_at T) (hr.mono (by decide)) pass_cx (ea_cons (ev_fld (ev_var 0) T.cl_Place T.na_Place_factor) (ea_cons (ev_fld (ev_var 0) T.cl_Place T.na_Place_first) (ea_nil)))) (ea_nil))) (nomark _)) (ev_int) (ev_neg (ev_int))))))))
theorem sc_is_in : FnScope ["place", "first", "last"] ["place", "first", "last"] (defScope s_is_in) := ⟨rfl, rfl, rfl, by decide +kernel, rfl, by decide +kernel, by decide +kernel⟩
theorem ok_is_in {P : Program} {w : World} {K : PySem.W.Frag} {mg : Str → Option Value} {base : Heap} (T : Say K mg) : FnE P w K mg base 6 "is_in" ["place", "first", "last"] F_is_in := by
  obtain ⟨fd, F⟩ := T.d_is_in
  exact fn_ok F sc_is_in T.g_is_in (fun _ _ _ _ _ _ us hl => match us, hl with | [_, _, _], _ => rfl) fun cdv A outer s H E hr =>
    ss_cons (s_if (et_val (ev_fld (ev_var 0) T.cl_Place T.na_Place_is_stretch)) (ss_one (s_ret (ev_and (ev_call (ok_is_at_most T) (hr.mono (by decide)) pass_cx (ea_cons (ev_var 1) (ea_cons (ev_fld (ev_var 0) T.cl_Place T.na_Place_last) (ea_nil)))) (ev_one (ev_call (ok_is_at_most T) (hr.mono (by decide)) pass_cx (ea_cons (ev_fld (ev_var 0) T.cl_Place T.na_Place_first) (ea_cons (ev_var 2) (ea_nil)))))))) (ss_nil))
    (ss_one (s_ret (ev_and (ev_cmp dop_ge (ev_call (ok_side_of T) (hr.mono (by decide)) pass_cx (ea_cons (ev_var 0) (ea_cons (ev_var 1) (ea_nil)))) (ev_int) (nomark _)) (ev_one (ev_cmp dop_le (ev_call (ok_side_of T) (hr.mono (by decide)) pass_cx (ea_cons (ev_var 0) (ea_cons (ev_var 2) (ea_nil)))) (ev_int) (nomark _))))))
theorem sc_is_told_by : FnScope ["place", "others", "first", "last", "other"] ["place", "others", "first", "last"] (defScope s_is_told_by) := ⟨rfl, rfl, rfl, by decide +kernel, rfl, by decide +kernel, by decide +kernel⟩
theorem ok_is_told_by {P : Program} {w : World} {K : PySem.W.Frag} {mg : Str → Option Value} {base : Heap} (T : Say K mg) : FnE P w K mg base 7 "is_told_by" ["place", "others", "first", "last"] F_is_told_by := by
  obtain ⟨fd, F⟩ := T.d_is_told_by
  exact fn_ok F sc_is_told_by T.g_is_told_by (fun _ _ _ _ _ _ us hl => match us, hl with | [_, _, _, _], _ => rfl) fun cdv A outer s H E hr =>
    ss_cons (s_if (et_val (ev_fld (ev_var 0) T.cl_Place T.na_Place_is_stretch)) (ss_one (s_ret (ev_cmp (dop_eq hr.units) (ev_tup (ea_cons (ev_var 2) (ea_cons (ev_var 3) (ea_nil)))) (ev_tup (ea_cons (ev_fld (ev_var 0) T.cl_Place T.na_Place_first) (ea_cons (ev_fld (ev_var 0) T.cl_Place T.na_Place_last) (ea_nil)))) (nomark _)))) (ss_nil))
    (ss_one (s_ret (ev_and (ev_call (ok_is_in T) (hr.mono (by decide)) pass_cx (ea_cons (ev_var 0) (ea_cons (ev_var 2) (ea_cons (ev_var 3) (ea_nil))))) (ev_one (ev_not (ev_callB (dc_any rfl) (T.m_any) (by decide +kernel) (ea_cons (((lc_c (own := [("other", 4)]) (iv_seq (ev_var 1)) const_seq (blkOk_by (own := [("other", 4)]) (by kernel_rfl)) (fun _ _ _ _ _ => gv_name (i := 4) sc_is_told_by.nd) (fun _ _ _ _ _ => eif_nil) (fun _ _ _ _ _ => ev_call (ok_is_in T) (hr.mono (by decide)) passL (ea_cons (ev_var 4) (ea_cons (ev_var 2) (ea_cons (ev_var 3) (ea_nil)))))).en rfl sc_is_told_by.nd).ev) (ea_nil))))))))
theorem sc_places_hold : FnScope ["bend", "value", "found", "start", "end", "at", "place", "first", "last", "pair"] ["bend", "value"] (defScope s_places_hold) := ⟨rfl, rfl, rfl, by decide +kernel, rfl, by decide +kernel, by decide +kernel⟩
theorem ok_places_hold {P : Program} {w : World} {K : PySem.W.Frag} {mg : Str → Option Value} {base : Heap} (T : Say K mg) : FnE P w K mg base 10 "places_hold" ["bend", "value"] F_places_hold := by
  obtain ⟨fd, F⟩ := T.d_places_hold
  exact fn_ok F sc_places_hold T.g_places_hold (fun _ _ _ _ _ _ us hl => match us, hl with | [_, _], _ => rfl) fun cdv A outer s H E hr =>
    ss_cons (s_set (i := 2) (ev_call (ok_places_in T) (hr.mono (by decide)) pass_cx (ea_cons (ev_call (ok_pieces_of T) (hr.mono (by decide)) pass_cx (ea_cons (ev_var 0) (ea_nil))) (ea_nil))) sc_places_hold.nd)
    (ss_cons (s_if ((ew_or (et_not (et_val (ev_isTO T.cl_Bend T.isx_Bend T.ist_Bend (ev_var 1) (T.m_isinstance) (T.m_tuple)))) (ew_or (et_cmp (dop_ne hr.units) (ev_callB dc_len (T.m_len) (by decide +kernel) (ea_cons (ev_var 1) (ea_nil))) (ev_callB dc_len (T.m_len) (by decide +kernel) (ea_cons (ev_var 2) (ea_nil))) (nomark _)) (ew_or1 (et_not (et_val (ev_callB (dc_all rfl) (T.m_all) (by decide +kernel) (ea_cons (((lc_c (own := [("pair", 9)]) (iv_seq (ev_var 1)) const_seq (blkOk_by (own := [("pair", 9)]) (by kernel_rfl)) (fun _ _ _ _ _ => gv_name (i := 9) sc_places_hold.nd) (fun _ _ _ _ _ => eif_nil) (fun _ _ _ _ _ => ev_call (ok_is_pair T) (hr.mono (by decide)) passL (ea_cons (ev_var 9) (ea_nil)))).en rfl sc_places_hold.nd).ev) (ea_nil)))))))).et) (ss_one (s_ret (ev_bl))) (ss_nil))
    (ss_cons (s_par2 (i := 3) (j := 4) rfl sc_places_hold.nd (ex_consP (ev_ix (ev_fld (ev_var 0) T.cl_Bend T.na_Bend_marks) (ev_int)) (ex_consP (ev_ix (ev_fld (ev_var 0) T.cl_Bend T.na_Bend_marks) (ev_neg (ev_int))) (ex_nil))))
    (ss_cons (s_for pass_own rfl (iv_enum (T.m_enumerate) (ev_var 2)) const_enum (gv_tup rfl (gvs_cons (gv_name (i := 5) sc_places_hold.nd) (gvs_cons (gv_name (i := 6) sc_places_hold.nd) (gvs_nil)))) (ss_cons (s_par2 (i := 7) (j := 8) rfl sc_places_hold.nd (ex_consP (ev_call (ok_value_of T) (hr.mono (by decide)) pass_cx (ea_cons (ev_ix (ev_ix (ev_var 1) (ev_var 5)) (ev_int)) (ea_nil))) (ex_consP (ev_call (ok_value_of T) (hr.mono (by decide)) pass_cx (ea_cons (ev_ix (ev_ix (ev_var 1) (ev_var 5)) (ev_int)) (ea_nil))) (ex_nil))))
    (ss_cons (s_if ((ew_or (et_val (ev_call (ok_is_less T) (hr.mono (by decide)) pass_cx (ea_cons (ev_var 7) (ea_cons (ev_var 3) (ea_nil))))) (ew_or1 (et_val (ev_call (ok_is_less T) (hr.mono (by decide)) pass_cx (ea_cons (ev_var 4) (ea_cons (ev_var 8) (ea_nil))))))).et) (ss_one (s_ret (ev_bl))) (ss_nil))
    (ss_one (s_if (et_not (et_val (ev_call (ok_is_told_by T) (hr.mono (by decide)) pass_cx (ea_cons (ev_var 6) (ea_cons ((en_lst (ea_star (ev_slice (ev_var 2) (eo_none) (eo_some (ev_var 5))) (ea_star (ev_slice (ev_var 2) (eo_some (ev_op dop_add (ev_var 5) (ev_int))) (eo_none)) (ea_nil)))).ev) (ea_cons (ev_var 7) (ea_cons (ev_var 8) (ea_nil)))))))) (ss_one (s_ret (ev_bl))) (ss_nil))))))
    (ss_one (s_ret (ev_bl))))))
theorem sc_order_at : FnScope ["poly", "time", "found", "factor"] ["poly", "time"] (defScope s_order_at) := ⟨rfl, rfl, rfl, by decide +kernel, rfl, by decide +kernel, by decide +kernel⟩
theorem ok_order_at {P : Program} {w : World} {K : PySem.W.Frag} {mg : Str → Option Value} {base : Heap} (T : Say K mg) : FnE P w K mg base 6 "order_at" ["poly", "time"] F_order_at := by
  obtain ⟨fd, F⟩ := T.d_order_at
  exact fn_ok F sc_order_at T.g_order_at (fun _ _ _ _ _ _ us hl => match us, hl with | [_, _], _ => rfl) fun cdv A outer s H E hr =>
    ss_cons (s_par2 (i := 2) (j := 3) rfl sc_order_at.nd (ex_consP (ev_int) (ex_consP (ev_tup (ea_cons (ev_call (ok_less_by T) (hr.mono (by decide)) pass_cx (ea_cons (ev_glob T.c_NOUGHT) (ea_cons (ev_var 1) (ea_nil)))) (ea_cons (ev_glob T.c_ONE) (ea_nil)))) (ex_nil))))
    (ss_cons (s_while (fun _ => 4000) pass_own (et_cmp (dop_eq hr.units) (ev_call (ok_poly_at T) (hr.mono (by decide)) pass_cx (ea_cons (ev_var 0) (ea_cons (ev_var 1) (ea_nil)))) (ev_glob T.c_NOUGHT) (nomark _)) (ss_cons (s_set (i := 0) (ev_ix (ev_call (ok_divided T) (hr.mono (by decide)) pass_cx (ea_cons (ev_var 0) (ea_cons (ev_var 3) (ea_nil)))) (ev_int)) sc_order_at.nd)
    (ss_one (s_aug (i := 2) ip_add sc_order_at.nd (ev_int)))))
    (ss_one (s_ret (ev_var 2))))
theorem sc_alike_slopes : FnScope ["one", "other", "time", "rest"] ["one", "other", "time"] (defScope s_alike_slopes) := ⟨rfl, rfl, rfl, by decide +kernel, rfl, by decide +kernel, by decide +kernel⟩
theorem ok_alike_slopes {P : Program} {w : World} {K : PySem.W.Frag} {mg : Str → Option Value} {base : Heap} (T : Say K mg) : FnE P w K mg base 7 "alike_slopes" ["one", "other", "time"] F_alike_slopes := by
  obtain ⟨fd, F⟩ := T.d_alike_slopes
  exact fn_ok F sc_alike_slopes T.g_alike_slopes (fun _ _ _ _ _ _ us hl => match us, hl with | [_, _, _], _ => rfl) fun cdv A outer s H E hr =>
    ss_cons (s_set (i := 3) (ev_call (ok_poly_less T) (hr.mono (by decide)) pass_cx (ea_cons (ev_var 0) (ea_cons (ev_var 1) (ea_nil)))) sc_alike_slopes.nd)
    (ss_one (s_ret (ev_if (et_cmp (dop_eq hr.units) (ev_callB dc_len (T.m_len) (by decide +kernel) (ea_cons (ev_var 3) (ea_nil))) (ev_int) (nomark _)) (ev_non) (ev_op dop_sub (ev_call (ok_order_at T) (hr.mono (by decide)) pass_cx (ea_cons (ev_var 3) (ea_cons (ev_var 2) (ea_nil)))) (ev_int)))))
theorem sc_merged : FnScope ["rows", "found", "row"] ["rows"] (defScope s_merged) := ⟨rfl, rfl, rfl, by decide +kernel, rfl, by decide +kernel, by decide +kernel⟩
theorem ok_merged {P : Program} {w : World} {K : PySem.W.Frag} {mg : Str → Option Value} {base : Heap} (T : Say K mg) : FnE P w K mg base 3 "merged" ["rows"] F_merged := by
  obtain ⟨fd, F⟩ := T.d_merged
  exact fn_ok F sc_merged T.g_merged (fun _ _ _ _ _ _ us hl => match us, hl with | [_], _ => rfl) fun cdv A outer s H E hr =>
    ss_cons (s_own (i := 1) (en_lst (ea_cons (ev_ix (ev_var 0) (ev_int)) (ea_nil))) sc_merged.nd)
    (ss_cons (s_for pass_own rfl (iv_seq (ev_slice (ev_var 0) (eo_some (ev_int)) (eo_none))) const_seq (gv_name (i := 2) sc_merged.nd) (ss_one (s_if (et_cmp (dop_eq hr.units) (ev_fld (ev_var 2) T.cl_Piece T.na_Piece_poly) (ev_fld (ev_ixO (i := 1) (ev_neg (ev_int))) T.cl_Piece T.na_Piece_poly) (nomark _)) (ss_one (s_put (i := 1) (ev_make (mk_Piece T) (hr.mono (by decide)) pass_cx (ea_cons (ev_fld (ev_ixO (i := 1) (ev_neg (ev_int))) T.cl_Piece T.na_Piece_start) (ea_cons (ev_fld (ev_var 2) T.cl_Piece T.na_Piece_end) (ea_cons (ev_fld (ev_var 2) T.cl_Piece T.na_Piece_poly) (ea_nil))))) (ev_neg (ev_int)))) (ss_one (s_app (i := 1) (ea_cons (ev_var 2) (ea_nil)))))))
    (ss_one (s_ret (ev_var 1))))
theorem sc_choices : FnScope ["size", "many", "found", "k"] ["size", "many"] (defScope s_choices) := ⟨rfl, rfl, rfl, by decide +kernel, rfl, by decide +kernel, by decide +kernel⟩
theorem ok_choices {P : Program} {w : World} {K : PySem.W.Frag} {mg : Str → Option Value} {base : Heap} (T : Say K mg) : FnE P w K mg base 1 "choices" ["size", "many"] F_choices := by
  obtain ⟨fd, F⟩ := T.d_choices
  exact fn_ok F sc_choices T.g_choices (fun _ _ _ _ _ _ us hl => match us, hl with | [_, _], _ => rfl) fun cdv A outer s H E hr =>
    ss_cons (s_set (i := 2) (ev_int) sc_choices.nd)
    (ss_cons (s_for pass_own rfl (iv_range1 (T.m_range) (ea_cons (ev_var 1) (ea_nil))) const_range1 (gv_name (i := 3) sc_choices.nd) (ss_one (s_set (i := 2) (ev_op dop_fdiv (ev_op dop_mul (ev_var 2) (ev_op dop_sub (ev_var 0) (ev_var 3))) (ev_op dop_add (ev_var 3) (ev_int))) sc_choices.nd)))
    (ss_one (s_ret (ev_var 2))))
theorem sc_shared : FnScope ["poly", "degree", "given", "sums", "time", "found", "k", "value"] ["poly", "degree", "given"] (defScope s_shared) := ⟨rfl, rfl, rfl, by decide +kernel, rfl, by decide +kernel, by decide +kernel⟩
theorem ok_shared {P : Program} {w : World} {K : PySem.W.Frag} {mg : Str → Option Value} {base : Heap} (T : Say K mg) : FnE P w K mg base 5 "shared" ["poly", "degree", "given"] F_shared := by
  obtain ⟨fd, F⟩ := T.d_shared
  exact fn_ok F sc_shared T.g_shared (fun _ _ _ _ _ _ us hl => match us, hl with | [_, _, _], _ => rfl) fun cdv A outer s H E hr =>
    ss_cons (s_set (i := 3) (ev_tup (ea_cons (ev_glob T.c_ONE) (ea_nil))) sc_shared.nd)
    (ss_cons (s_for pass_own rfl (iv_seq (ev_var 2)) const_seq (gv_name (i := 4) sc_shared.nd) (ss_one (s_set (i := 3) (ev_call (ok_poly_sum T) (hr.mono (by decide)) pass_cx (ea_cons (ev_var 3) (ea_cons (ev_tup (ea_cons (ev_glob T.c_NOUGHT) (ea_star (ev_call (ok_poly_scaled T) (hr.mono (by decide)) pass_cx (ea_cons (ev_var 3) (ea_cons (ev_var 4) (ea_nil)))) (ea_nil)))) (ea_nil)))) sc_shared.nd)))
    (ss_cons (s_set (i := 5) (ev_glob T.c_NOUGHT) sc_shared.nd)
    (ss_cons (s_for pass_own rfl (iv_enum (T.m_enumerate) (ev_var 0)) const_enum (gv_tup rfl (gvs_cons (gv_name (i := 6) sc_shared.nd) (gvs_cons (gv_name (i := 7) sc_shared.nd) (gvs_nil)))) (ss_one (s_set (i := 5) (ev_call (ok_added T) (hr.mono (by decide)) pass_cx (ea_cons (ev_var 5) (ea_cons (ev_call (ok_quotient T) (hr.mono (by decide)) pass_cx (ea_cons (ev_call (ok_multiplied T) (hr.mono (by decide)) pass_cx (ea_cons (ev_var 7) (ea_cons (ev_call (ok_power_at T) (hr.mono (by decide)) pass_cx (ea_cons (ev_var 3) (ea_cons (ev_var 6) (ea_nil)))) (ea_nil)))) (ea_cons (ev_tup (ea_cons (ev_call (ok_choices T) (hr.mono (by decide)) pass_cx (ea_cons (ev_var 1) (ea_cons (ev_var 6) (ea_nil)))) (ea_cons (ev_int) (ea_nil)))) (ea_nil)))) (ea_nil)))) sc_shared.nd)))
    (ss_one (s_ret (ev_var 5))))))
theorem sc_bend_with : FnScope ["degree", "marks", "rows", "at", "knots", "handles", "parts", "spot", "poly", "k"] ["degree", "marks", "rows"] (defScope s_bend_with) := ⟨rfl, rfl, rfl, by decide +kernel, rfl, by decide +kernel, by decide +kernel⟩
theorem ok_bend_with {P : Program} {w : World} {K : PySem.W.Frag} {mg : Str → Option Value} {base : Heap} (T : Say K mg) : FnE P w K mg base 6 "bend_with" ["degree", "marks", "rows"] F_bend_with := by
  obtain ⟨fd, F⟩ := T.d_bend_with
  exact fn_ok F sc_bend_with T.g_bend_with (fun _ _ _ _ _ _ us hl => match us, hl with | [_, _, _], _ => rfl) fun cdv A outer s H E hr =>
    ss_cons (s_parN rfl (nv_cons (i := 4) (nv_cons (i := 5) (nv_cons (i := 6) (nv_nil) sc_bend_with.nd) sc_bend_with.nd) sc_bend_with.nd) (ex_consP (ev_call (ok_knots_of T) (hr.mono (by decide)) pass_cx (ea_cons (ev_var 0) (ea_cons (ev_var 1) (ea_nil)))) (ex_consO (en_lst (ea_nil)) (ex_consP (ev_call (ok_merged T) (hr.mono (by decide)) pass_cx (ea_cons (ev_var 2) (ea_nil))) (ex_nil)))))
    (ss_cons (s_for pass_own rfl (iv_range1 (T.m_range) (ea_cons (ev_op dop_add (ev_op dop_sub (ev_callB dc_len (T.m_len) (by decide +kernel) (ea_cons (ev_var 1) (ea_nil))) (ev_int)) (ev_var 0)) (ea_nil))) const_range1 (gv_name (i := 3) sc_bend_with.nd) (ss_cons (s_set (i := 7) (ev_ix (((lc_c (own := [("k", 9)]) (iv_range2 (T.m_range) (ea_cons (ev_var 3) (ea_cons (ev_op dop_add (ev_op dop_add (ev_var 3) (ev_var 0)) (ev_int)) (ea_nil)))) const_range2 (blkOk_by (own := [("k", 9)]) (by kernel_rfl)) (fun _ _ _ _ _ => gv_name (i := 9) sc_bend_with.nd) (fun _ _ _ _ _ => eif_one (et_val (ev_call (ok_is_less T) (hr.mono (by decide)) passL (ea_cons (ev_ix (ev_var 4) (ev_var 9)) (ea_cons (ev_ix (ev_var 4) (ev_op dop_add (ev_var 9) (ev_int))) (ea_nil)))))) (fun _ _ _ _ _ => ev_var 9)).en rfl sc_bend_with.nd).ev) (ev_int)) sc_bend_with.nd)
    (ss_cons (s_set (i := 8) (ev_call (ok_poly_in T) (hr.mono (by decide)) pass_cx (ea_cons (ev_var 6) (ea_cons (ev_ix (ev_var 4) (ev_var 7)) (ea_cons (ev_ix (ev_var 4) (ev_op dop_add (ev_var 7) (ev_int))) (ea_nil))))) sc_bend_with.nd)
    (ss_one (s_app (i := 5) (ea_cons (ev_call (ok_shared T) (hr.mono (by decide)) pass_cx (ea_cons (ev_var 8) (ea_cons (ev_var 0) (ea_cons (ev_slice (ev_var 4) (eo_some (ev_op dop_add (ev_var 3) (ev_int))) (eo_some (ev_op dop_add (ev_op dop_add (ev_var 3) (ev_var 0)) (ev_int)))) (ea_nil))))) (ea_nil)))))))
    (ss_one (s_ret (ev_make (mk_Bend T) (hr.mono (by decide)) pass_cx (ea_cons (ev_var 0) (ea_cons (ev_var 1) (ea_cons (ev_var 5) (ea_nil))))))))
theorem sc_least_of : FnScope ["rows", "parts", "degree", "marks", "at", "alike", "k", "row"] ["rows"] (defScope s_least_of) := ⟨rfl, rfl, rfl, by decide +kernel, rfl, by decide +kernel, by decide +kernel⟩
theorem ok_least_of {P : Program} {w : World} {K : PySem.W.Frag} {mg : Str → Option Value} {base : Heap} (T : Say K mg) : FnE P w K mg base 8 "least_of" ["rows"] F_least_of := by
  obtain ⟨fd, F⟩ := T.d_least_of
  exact fn_ok F sc_least_of T.g_least_of (fun _ _ _ _ _ _ us hl => match us, hl with | [_], _ => rfl) fun cdv A outer s H E hr =>
    ss_cons (s_set (i := 1) (ev_call (ok_merged T) (hr.mono (by decide)) pass_cx (ea_cons (ev_var 0) (ea_nil))) sc_least_of.nd)
    (ss_cons (s_set (i := 2) (ev_callB (dc_max1 rfl) (T.m_max) (by decide +kernel) (ea_cons ((en_lst (ea_cons (ev_int) (ea_star (((lc_c (own := [("row", 7)]) (iv_seq (ev_var 1)) const_seq (blkOk_by (own := [("row", 7)]) (by kernel_rfl)) (fun _ _ _ _ _ => gv_name (i := 7) sc_least_of.nd) (fun _ _ _ _ _ => eif_nil) (fun _ _ _ _ _ => ev_op dop_sub (ev_callB dc_len (T.m_len) (by decide +kernel) (ea_cons (ev_fld (ev_var 7) T.cl_Piece T.na_Piece_poly) (ea_nil))) (ev_int))).en rfl sc_least_of.nd).ev) (ea_nil)))).ev) (ea_nil))) sc_least_of.nd)
    (ss_cons (s_own (i := 3) (en_lst (ea_cons (ev_fld (ev_ix (ev_var 1) (ev_int)) T.cl_Piece T.na_Piece_start) (ea_nil))) sc_least_of.nd)
    (ss_cons (s_for pass_own rfl (iv_range1 (T.m_range) (ea_cons (ev_op dop_sub (ev_callB dc_len (T.m_len) (by decide +kernel) (ea_cons (ev_var 1) (ea_nil))) (ev_int)) (ea_nil))) const_range1 (gv_name (i := 4) sc_least_of.nd) (ss_cons (s_set (i := 5) (ev_call (ok_alike_slopes T) (hr.mono (by decide)) pass_cx (ea_cons (ev_fld (ev_ix (ev_var 1) (ev_var 4)) T.cl_Piece T.na_Piece_poly) (ea_cons (ev_fld (ev_ix (ev_var 1) (ev_op dop_add (ev_var 4) (ev_int))) T.cl_Piece T.na_Piece_poly) (ea_cons (ev_fld (ev_ix (ev_var 1) (ev_var 4)) T.cl_Piece T.na_Piece_end) (ea_nil))))) sc_least_of.nd)
    (ss_one (s_ext (i := 3) (ea_cons (((lc_c (own := [("k", 6)]) (iv_range1 (T.m_range) (ea_cons (ev_op dop_sub (ev_var 2) (ev_var 5)) (ea_nil))) const_range1 (blkOk_by (own := [("k", 6)]) (by kernel_rfl)) (fun _ _ _ _ _ => gv_name (i := 6) sc_least_of.nd) (fun _ _ _ _ _ => eif_nil) (fun _ _ _ _ _ => ev_fld (ev_ix (ev_var 1) (ev_var 4)) T.cl_Piece T.na_Piece_end)).en rfl sc_least_of.nd).ev) (ea_nil))))))
    (ss_one (s_ret (ev_call (ok_bend_with T) (hr.mono (by decide)) pass_cx (ea_cons (ev_var 2) (ea_cons ((en_lst (ea_star (ev_var 3) (ea_cons (ev_fld (ev_ix (ev_var 1) (ev_neg (ev_int))) T.cl_Piece T.na_Piece_end) (ea_nil)))).ev) (ea_cons (ev_var 1) (ea_nil))))))))))
theorem sc_scaled : FnScope ["bend", "number", "factor", "row"] ["bend", "number"] (defScope s_scaled) := ⟨rfl, rfl, rfl, by decide +kernel, rfl, by decide +kernel, by decide +kernel⟩
theorem ok_scaled {P : Program} {w : World} {K : PySem.W.Frag} {mg : Str → Option Value} {base : Heap} (T : Say K mg) : FnE P w K mg base 9 "scaled" ["bend", "number"] F_scaled := by
  obtain ⟨fd, F⟩ := T.d_scaled
  exact fn_ok F sc_scaled T.g_scaled (fun _ _ _ _ _ _ us hl => match us, hl with | [_, _], _ => rfl) fun cdv A outer s H E hr =>
    ss_cons (s_set (i := 2) (ev_call (ok_value_of T) (hr.mono (by decide)) pass_cx (ea_cons (ev_var 1) (ea_nil))) sc_scaled.nd)
    (ss_one (s_ret (ev_call (ok_least_of T) (hr.mono (by decide)) pass_cx (ea_cons (((lc_c (own := [("row", 3)]) (iv_seq (ev_call (ok_pieces_of T) (hr.mono (by decide)) pass_cx (ea_cons (ev_var 0) (ea_nil)))) const_seq (blkOk_by (own := [("row", 3)]) (by kernel_rfl)) (fun _ _ _ _ _ => gv_name (i := 3) sc_scaled.nd) (fun _ _ _ _ _ => eif_nil) (fun _ _ _ _ _ => ev_make (mk_Piece T) (hr.mono (by decide)) passL (ea_cons (ev_fld (ev_var 3) T.cl_Piece T.na_Piece_start) (ea_cons (ev_fld (ev_var 3) T.cl_Piece T.na_Piece_end) (ea_cons (ev_call (ok_poly_scaled T) (hr.mono (by decide)) passL (ea_cons (ev_fld (ev_var 3) T.cl_Piece T.na_Piece_poly) (ea_cons (ev_var 2) (ea_nil)))) (ea_nil)))))).en rfl sc_scaled.nd).ev) (ea_nil)))))
theorem sc_law : FnScope ["_law_script", "_law_deal_here", "_law_case", "_law_larger", "_law_moved", "_law_degree", "_law_marks", "_law_handles", "_law_signs", "_law_crossed", "_law_touched", "_law_answers", "_law_made", "_law_far", "_law_mark", "_law_one", "$deal"] ["_law_script"] (defScope s_law) := ⟨rfl, rfl, rfl, by decide +kernel, rfl, by decide +kernel, by decide +kernel⟩
theorem ok_law {P : Program} {w : World} {K : PySem.W.Frag} {mg : Str → Option Value} {base : Heap} {fd : FuncData} (F : FunD K "law" "law" (defArgs s_law) (defBody s_law) (defScope s_law) [] [] (He.ga K "law") fd) (T : Say K mg) : FnOk P w K mg base (L2.CX P w) 15 (He.ga K "law") fd ["_law_script"] (spP K 1 F_law) :=
  fn_ok0 F sc_law fun cdv A outer s H E hr =>
    ss_cons (s_ownD (i := 1) (g := 16) (ok_law_deal T) (hr.mono (by decide)) pass_cx (ea_cons (ev_var 0) (ea_cons (ev_int) (ea_nil))) sc_law.nd)
    (ss_cons (s_for pass_own rfl (iv_seq (ev_callD (i := 1) (ok_law_mixed_v3e4d T) (hr.mono (by decide)) pass_cx (ea_cons (ev_call0 (ok_law_cases_v9df0 T) (hr.mono (by decide)) pass_cx) (ea_nil)))) const_seq (gv_name (i := 2) sc_law.nd) (ss_cons (s_asg (ev_var 2) (gv_tup rfl (gvs_cons (gv_name (i := 5) sc_law.nd) (gvs_cons (gv_name (i := 6) sc_law.nd) (gvs_cons (gv_name (i := 7) sc_law.nd) (gvs_cons (gv_name (i := 8) sc_law.nd) (gvs_cons (gv_name (i := 9) sc_law.nd) (gvs_cons (gv_name (i := 10) sc_law.nd) (gvs_cons (gv_name (i := 11) sc_law.nd) (gvs_nil))))))))))
    (ss_cons (s_asg (ev_tup (ea_cons (ev_make (mk_Bend T) (hr.mono (by decide)) pass_cx (ea_cons (ev_var 5) (ea_cons (ev_var 6) (ea_cons (ev_var 7) (ea_nil))))) (ea_cons (ev_op dop_add (ev_int) (ev_callD (i := 1) (ok_law_draw T) (hr.mono (by decide)) pass_cx (ea_cons (ev_int) (ea_nil)))) (ea_nil)))) (gv_tup rfl (gvs_cons (gv_name (i := 12) sc_law.nd) (gvs_cons (gv_name (i := 13) sc_law.nd) (gvs_nil)))))
    (ss_cons (s_if (et_not (et_val (ev_call (ok_law_case_right T) (hr.mono (by decide)) pass_cx (ea_cons (ev_var 12) (ea_cons (ev_var 8) (ea_cons (ev_var 9) (ea_cons (ev_var 10) (ea_cons (ev_var 11) (ea_nil))))))))) (ss_one (s_ret (ev_bl))) (ss_nil))
    (ss_cons (s_set (i := 3) (ev_call (ok_scaled T) (hr.mono (by decide)) pass_cx (ea_cons (ev_var 12) (ea_cons (ev_var 13) (ea_nil)))) sc_law.nd)
    (ss_cons (s_if (et_not (et_val (ev_call (ok_law_case_right T) (hr.mono (by decide)) pass_cx (ea_cons (ev_var 3) (ea_cons (ev_var 8) (ea_cons (ev_var 9) (ea_cons (ev_var 10) (ea_cons (ev_var 11) (ea_nil))))))))) (ss_one (s_ret (ev_bl))) (ss_nil))
    (ss_cons (s_set (i := 4) (ev_make (mk_Bend T) (hr.mono (by decide)) pass_cx (ea_cons (ev_var 5) (ea_cons (((lc_c (own := [("_law_mark", 14)]) (iv_seq (ev_var 6)) const_seq (blkOk_by (own := [("_law_mark", 14)]) (by kernel_rfl)) (fun _ _ _ _ _ => gv_name (i := 14) sc_law.nd) (fun _ _ _ _ _ => eif_nil) (fun _ _ _ _ _ => ev_op dop_add (ev_var 14) (ev_op dop_mul (ev_int) (ev_var 13)))).en rfl sc_law.nd).ev) (ea_cons (((lc_c (own := [("_law_one", 15)]) (iv_seq (ev_var 7)) const_seq (blkOk_by (own := [("_law_one", 15)]) (by kernel_rfl)) (fun _ _ _ _ _ => gv_name (i := 15) sc_law.nd) (fun _ _ _ _ _ => eif_nil) (fun _ _ _ _ _ => ev_op dop_mul (ev_int) (ev_var 15))).en rfl sc_law.nd).ev) (ea_nil))))) sc_law.nd)
    (ss_cons (s_if ((ew_or (et_cmp (dop_ne hr.units) (ev_call (ok_sign_row T) (hr.mono (by decide)) pass_cx (ea_cons (ev_var 4) (ea_nil))) (ev_call (ok_sign_row T) (hr.mono (by decide)) pass_cx (ea_cons (ev_var 12) (ea_nil))) (nomark _)) (ew_or1 (et_cmp (dop_ne hr.units) (ev_call (ok_crossings T) (hr.mono (by decide)) pass_cx (ea_cons (ev_var 4) (ea_nil))) (ev_var 9) (nomark _)))).et) (ss_one (s_ret (ev_bl))) (ss_nil))
    (ss_one (s_if (et_cmp dop_isNotB (ev_call (ok_places_hold T) (hr.mono (by decide)) pass_cx (ea_cons (ev_var 4) (ea_cons (ev_call (ok_places T) (hr.mono (by decide)) pass_cx (ea_cons (ev_var 4) (ea_nil))) (ea_nil)))) (ev_bl) (nomark _)) (ss_one (s_ret (ev_bl))) (ss_nil)))))))))))
    (ss_one (s_ret (ev_bl))))
end HB
open PyProof.Rows PySem PySem.Calls PySem.W
theorem PySem.Challenge.cw_handlebends_k38_curves_known_by_hand_holds : PySem.Challenge.rw_handlebends_k38_curves_known_by_hand.Holds := by
  w_on; o_law
  refine HandSHeadRun.head_any (r := OpenLaw.row PySem.Challenge.rw_handlebends_k38_curves_known_by_hand) (q := view (OpenLaw.row PySem.Challenge.rw_handlebends_k38_curves_known_by_hand).prog [104]) (H := HB.hk) (ob := HB.ob) (M := 6000) (loose := HB.loo) (d := HandSHeadRun.topDef (OpenLaw.row PySem.Challenge.rw_handlebends_k38_curves_known_by_hand).prog 104) (kwd := []) HB.ob_eq
    (by kernel_rfl) (fun s => by kernel_rfl) HB.topRun (by kernel_rfl) (by kernel_rfl) (by kernel_rfl) (by rfl) (by first | assumption | decide +kernel) (by decide +kernel) ⟨rfl, rfl, rfl, rfl, rfl, by decide +kernel⟩ ?hw ?hc
  case hw => w_witness2
  case hc =>
    refine L2.walk_ofE (l := PySem.Challenge.rw_handlebends_k38_curves_known_by_hand) (n := 63) (k := 15) (x := "_law_script") (CX := L2.CX0) rfl (by decide) (by kernel_rfl) ⟨rfl, by decide, by decide⟩ ?F (fun _ _ _ _ z => z)
    intro w mg fa h Y G hmg0
    obtain ⟨K, KX, c, t, q⟩ := Y
    have nm : (HandSHeadRun.topDef (OpenLaw.row PySem.Challenge.rw_handlebends_k38_curves_known_by_hand).prog 104).name = ("law" : PySem.Str) := by kernel_rfl
    have hmg := nm ▸ hmg0
    have T := HB.say KX G c t q
    have e2 := hmg.symm.trans T.g_law
    cases e2
    obtain ⟨fd, F⟩ := T.d_law
    have b := L2.FunD.bindsA (ps := ["_law_script"]) F fun _ _ _ _ _ _ us hl => match us, hl with | [_], _ => rfl
    refine ⟨K, fd, HB.spE (HB.spP K 1 HB.F_law), KX, fun s v => b s [v] rfl, fun H a ns hl _ hS => HB.law_sp HB.law_true H a ns hl hS (HB.tabOk_no fun x hx => ?_), fun base _ _ => ?_⟩
    · match x, hx with
      | _, .head _ => exact HB.xs_ok q 5 rfl
      | _, .tail _ (.head _) => exact HB.xs_ok q 6 rfl
    exact HB.ok_cx0 (HB.ok_law F T)

