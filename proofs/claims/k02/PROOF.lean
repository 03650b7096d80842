import PyProof.Rows.All
import Wide.All
import OpenK.AllK
import Wide.FinOn
import HandS.ForMost
import HandS.ForExc
import HandS.Wide
import HandS.IsInst
import HandS.Deep
import HandS.Star
import HandS.Flow
import HandS.Zip
import HandS.FStr
import HandS.Style
import HandS.TupAny
import HandS.Conv
import HandS.Codes
import HandS.HeadHook2
import KE.KRevSl
import KE.GoesEnumKw
import KE.GoesMore
import HandS.Head0
import HandS.Head1
import HandS.Head2
import HandS.HeadEnd
import HandS.HeadHook1
import HandS.CallLocal
import KE.KCallOwn
import PyProof.ReprReads
import PyProof.ReprRoads
import HandS.Exc
import HandS.ExcInit
import HandS.ExcOwn
import HandS.ExcField
import KE.KExcIs
import PyProof.InstNe
import PyProof.Rows.StrBin
import PyProof.ReprLen
import PyProof.FitsInt
import PySem.Challenge.RW_handlebends_k02_bends_made
set_option Elab.async false
set_option linter.all false
set_option autoImplicit false
set_option maxRecDepth 100000
set_option maxHeartbeats 0
namespace HB
open PySem L2
abbrev D := PyData
abbrev Exn := Str × List (Str × D)
/-- a tuple whose object has no dict -/
def SqP (K : PySem.W.Frag) (H : Hp) (a : Addr) (xs : List V) : Prop := (∃ o, H a = some (.frz o (.tup xs)) ∧ o.dict = none) ∨
  ∃ (o : Obj) (its : Array Value) (n : Nat), K.lookup a = some o ∧ o.dict = none ∧ o.cls = .type "tuple" ∧ o.data = .seq its n ∧ its.size ≤ sizeLine ∧ Vals xs its.toList
theorem SqP.t {K : PySem.W.Frag} {H : Hp} {a : Addr} {xs : List V} (h : SqP K H a xs) : SqT K H a xs :=
  h.elim (fun ⟨o, e, _⟩ => .inl (.inr ⟨o, e⟩)) fun ⟨o, its, n, l, _, c, d, z, r⟩ => .inr ⟨o, its, n, l, c, d, z, r⟩
theorem sqP_mono {K : PySem.W.Frag} {H H' : Hp} {a : Addr} {xs : List V} (s : Same H H') (h : SqP K H a xs) : SqP K H' a xs := h.elim (fun ⟨o, e, n⟩ => .inl ⟨o, s _ _ e, n⟩) .inr
theorem SqP.new {K : PySem.W.Frag} {H : Hp} {p : Addr} {o : Obj} {xs : List V} (n : o.dict = none) : SqP K (upd H p (.frz o (.tup xs))) p xs := .inl ⟨o, upd_same, n⟩
mutual
inductive Rp (K : PySem.W.Frag) (H : Hp) : V → D → Prop
  | non : Rp K H .non .none
  | bl (b : Bool) : Rp K H (.bl b) (.bool b)
  | int (i : Int) : Rp K H (.int i) (.int i)
  | str (x : Str) : Rp K H (.str x) (.str x)
  | lst {a : Addr} {xs : List V} {ds : List D} : H a = some (.lst xs) → RpAll K H xs ds → Rp K H (.ref a) (.list ds)
  | tup {a : Addr} {xs : List V} {ds : List D} : SqP K H a xs → RpAll K H xs ds → Rp K H (.ref a) (.tuple ds)
  | frz {a : Addr} {xs : List V} {ds : List D} : SqL K H a xs → RpAll K H xs ds → Rp K H (.ref a) (.dict [(.none, .list ds)])
  | obj {a dx : Addr} {c : Str} {fs : List (Str × V)} {kvs : List (D × D)} : H a = some (.ins (He.ga K c) dx fs) → RpF K H fs kvs → Rp K H (.ref a) (.dict ((.str c, .none) :: kvs))
  | adr (a : Addr) : Rp K H (.ref a) (.dict [(.int a, .none)])
  | fn (x : Str) : Rp K H (.ref (He.ga K x)) (.dict [(.none, .str x)])
inductive RpAll (K : PySem.W.Frag) (H : Hp) : List V → List D → Prop
  | nil : RpAll K H [] []
  | cons {v : V} {vs : List V} {d : D} {ds : List D} : Rp K H v d → RpAll K H vs ds → RpAll K H (v :: vs) (d :: ds)
inductive RpF (K : PySem.W.Frag) (H : Hp) : List (Str × V) → List (D × D) → Prop
  | nil : RpF K H [] []
  | cons {f : Str} {v : V} {fs : List (Str × V)} {d : D} {kvs : List (D × D)} : Rp K H v d → RpF K H fs kvs → RpF K H ((f, v) :: fs) ((.str f, d) :: kvs)
end
theorem sqT_mono {K : PySem.W.Frag} {H H' : Hp} {a : Addr} {xs : List V} (s : Same H H') (h : SqT K H a xs) : SqT K H' a xs := by
  exact h.elim (fun z => .inl (z.elim (fun y => .inl (s _ _ y)) fun ⟨o, y⟩ => .inr ⟨o, s _ _ y⟩)) .inr
theorem Rp.mono {K : PySem.W.Frag} {H H' : Hp} (s : Same H H') {v : V} {d : D} (r : Rp K H v d) : Rp K H' v d :=
  @Rp.rec K H (fun v d _ => Rp K H' v d) (fun vs ds _ => RpAll K H' vs ds) (fun fs kvs _ => RpF K H' fs kvs)
    .non (fun b => .bl b) (fun i => .int i) (fun x => .str x) (fun h _ ih => .lst (s _ _ h) ih) (fun h _ ih => .tup (sqP_mono s h) ih) (fun h _ ih => .frz (s.seq h) ih) (fun h _ ih => .obj (s _ _ h) ih) (fun a => .adr a) (fun x => .fn x)
    .nil (fun _ _ h t => .cons h t) .nil (fun _ _ h t => .cons h t) v d r
theorem RpAll.mono {K : PySem.W.Frag} {H H' : Hp} (s : Same H H') : ∀ {vs : List V} {ds : List D}, RpAll K H vs ds → RpAll K H' vs ds
  | _, _, .nil => .nil
  | _, _, .cons r t => .cons (r.mono s) (RpAll.mono s t)
theorem RpAll.length {K : PySem.W.Frag} {H : Hp} : ∀ {vs : List V} {ds : List D}, RpAll K H vs ds → vs.length = ds.length
  | _, _, .nil => rfl
  | _, _, .cons _ t => congrArg (· + 1) t.length
theorem RpAll.get {K : PySem.W.Frag} {H : Hp} : ∀ {vs : List V} {ds : List D} {i : Nat} {d : D}, RpAll K H vs ds → ds[i]? = some d → ∃ v, vs[i]? = some v ∧ Rp K H v d
  | _, _, _, _, .nil, no => by simp at no
  | _, _, 0, _, .cons r _, e => by
    have e2 := Option.some.inj (show some _ = some _ from e)
    subst e2
    exact ⟨_, rfl, r⟩
  | _, _, i + 1, _, .cons _ t, e => by
    obtain ⟨v, h1, h2⟩ := RpAll.get (i := i) t e
    exact ⟨v, h1, h2⟩
theorem RpAll.append {K : PySem.W.Frag} {H : Hp} : ∀ {vs ws : List V} {ds es : List D}, RpAll K H vs ds → RpAll K H ws es → RpAll K H (vs ++ ws) (ds ++ es)
  | _, _, _, _, .nil, s => s
  | _, _, _, _, .cons r t, s => .cons r (t.append s)
theorem RpAll.set {K : PySem.W.Frag} {H : Hp} {v : V} {d : D} (r : Rp K H v d) : ∀ {vs : List V} {ds : List D} (i : Nat), RpAll K H vs ds → RpAll K H (vs.set i v) (ds.set i d)
  | _, _, _, .nil => .nil
  | _, _, 0, .cons _ rest => .cons r rest
  | _, _, i + 1, .cons q t => .cons q (RpAll.set r i t)
theorem RpAll.take {K : PySem.W.Frag} {H : Hp} : ∀ {vs : List V} {ds : List D} (n : Nat), RpAll K H vs ds → RpAll K H (vs.take n) (ds.take n)
  | _, _, 0, _ => .nil
  | _, _, _ + 1, .nil => .nil
  | _, _, n + 1, .cons r t => .cons r (t.take n)
theorem RpAll.drop {K : PySem.W.Frag} {H : Hp} : ∀ {vs : List V} {ds : List D} (n : Nat), RpAll K H vs ds → RpAll K H (vs.drop n) (ds.drop n)
  | _, _, 0, r => r
  | _, _, _ + 1, .nil => .nil
  | _, _, n + 1, .cons _ t => t.drop n
inductive Sl where
  | no
  | pur (d : D)
  | own (ds : List D)
  | box (ds : List D)
def Sl.ls : Sl → Option (List D)
  | .own ds => some ds
  | .box ds => some ds
  | _ => none
abbrev En := List Sl
/-- a list that is the slot's alone stands at b -/
def Ownd (ρ : En) (σ : St) (b : Addr) : Prop := ∃ (i : Nat) (s : Sl) (ds : List D), ρ[i]? = some s ∧ s.ls = some ds ∧ σ[i]? = some (some (.ref b))
structure J (K : PySem.W.Frag) (G : Hp) (ρ : En) (σ : St) (H : Hp) : Prop where
  sub : Same G H
  len : ρ.length = σ.length
  pur : ∀ (i : Nat) (d : D), ρ[i]? = some (.pur d) → ∃ v, σ[i]? = some (some v) ∧ Rp K G v d
  own : ∀ (i : Nat) (s : Sl) (ds : List D), ρ[i]? = some s → s.ls = some ds → ∃ (a : Addr) (vs : List V), σ[i]? = some (some (.ref a)) ∧ H a = some (.lst vs) ∧ G a = none ∧ RpAll K G vs ds
  dis : ∀ (i j : Nat) (s t : Sl) (ds es : List D) (b : Addr), ρ[i]? = some s → s.ls = some ds → ρ[j]? = some t → t.ls = some es → σ[i]? = some (some (.ref b)) → σ[j]? = some (some (.ref b)) → i = j
/-- what may have happened -/
structure Ex (K : PySem.W.Frag) (G : Hp) (ρ : En) (σ : St) (H : Hp) (G' : Hp) (ρ' : En) (σ' : St) (H' : Hp) : Prop where
  j : J K G' ρ' σ' H'
  g : Same G G'
  new : ∀ b, G' b ≠ none → G b ≠ none ∨ H b = none ∨ Ownd ρ σ b
  kept : ∀ b o, H b = some o → ¬ Ownd ρ σ b → H' b = some o
  ow : ∀ b, Ownd ρ' σ' b → Ownd ρ σ b ∨ H b = none
  dom : ∀ b, H' b = none → H b = none
  bx : ∀ (i : Nat) (ds : List D), ρ'[i]? = some (.box ds) → (∃ es, ρ[i]? = some (.box es)) ∧ σ'[i]? = σ[i]?
/-- nothing that was there is changed -/
structure PX (G H G' H' : Hp) : Prop where
  h : Same H H'
  g : Same G G'
  s : Same G' H'
  new : ∀ b, G' b ≠ none → G b ≠ none ∨ H b = none
theorem PX.refl {G H : Hp} (s : Same G H) : PX G H G H := ⟨.refl _, .refl _, s, fun _ h => .inl h⟩
theorem PX.trans {G H G1 H1 G2 H2 : Hp} (a : PX G H G1 H1) (b : PX G1 H1 G2 H2) : PX G H G2 H2 :=
  ⟨a.h.trans b.h, a.g.trans b.g, b.s, fun c hc => (b.new c hc).elim (fun z => a.new c z) fun z => .inr (a.h.free z)⟩
theorem same_upd {H : Hp} {p : Addr} {o : HO} (np : H p = none) : Same H (upd H p o) := fun b x e => (upd_ne (ne_of_none e np)).trans e
theorem same_upd2 {G H : Hp} {p : Addr} {o : HO} (s : Same G H) : Same (upd G p o) (upd H p o) := fun b x e => by
  by_cases hb : b = p
  · subst hb; rw [upd_same] at e ⊢; exact e
  · rw [upd_ne hb] at e ⊢; exact s _ _ e
/-- a new object -/
theorem PX.alloc {G H : Hp} (s : Same G H) {p : Addr} (hp : H p = none) (o : HO) : PX G H (upd G p o) (upd H p o) :=
  ⟨same_upd hp, same_upd (s.free hp), same_upd2 s, fun b hb => by
    by_cases e : b = p
    · subst e; exact .inr hp
    · rw [upd_ne e] at hb; exact .inl hb⟩
section
variable {K : PySem.W.Frag} {G H G' H' : Hp} {ρ ρ' : En} {σ σ' : St}
theorem J.px (j : J K G ρ σ H) (x : PX G H G' H') : J K G' ρ σ H' where
  sub := x.s
  len := j.len
  pur := fun i d e => let ⟨v, h1, h2⟩ := j.pur i d e; ⟨v, h1, h2.mono x.g⟩
  own := fun i s ds e hl => by
    obtain ⟨a, vs, h1, h2, h3, h4⟩ := j.own i s ds e hl
    refine ⟨a, vs, h1, x.h _ _ h2, ?_, h4.mono x.g⟩
    cases q : G' a with
    | none => rfl
    | some o =>
      rcases x.new a (by rw [q]; simp) with z | z
      · exact absurd h3 z
      · rw [h2] at z; cases z
  dis := j.dis
theorem J.ex (j : J K G ρ σ H) (x : PX G H G' H') : Ex K G ρ σ H G' ρ σ H' :=
  ⟨j.px x, x.g, fun b hb => (x.new b hb).elim .inl fun z => .inr (.inl z), fun b o e _ => x.h _ _ e, fun b h => .inl h, fun b h => x.h.free h, fun i ds h => ⟨⟨ds, h⟩, rfl⟩⟩
theorem J.refl (j : J K G ρ σ H) : Ex K G ρ σ H G ρ σ H := j.ex (.refl j.sub)
theorem J.ownd (j : J K G ρ σ H) {b : Addr} (h : Ownd ρ σ b) : ∃ vs, H b = some (.lst vs) ∧ G b = none := by
  obtain ⟨i, s, ds, h1, hl, h2⟩ := h
  obtain ⟨a, vs, h3, h4, h5, _⟩ := j.own i s ds h1 hl
  rw [h2] at h3
  cases h3
  exact ⟨vs, h4, h5⟩
theorem Ex.trans {G1 G2 H1 H2 : Hp} {ρ1 ρ2 : En} {σ1 σ2 : St} (a : Ex K G ρ σ H G1 ρ1 σ1 H1) (b : Ex K G1 ρ1 σ1 H1 G2 ρ2 σ2 H2) : Ex K G ρ σ H G2 ρ2 σ2 H2 where
  j := b.j
  g := a.g.trans b.g
  new := fun c hc => by
    rcases b.new c hc with z | z | z
    · exact a.new c z
    · exact .inr (.inl (a.dom c z))
    · rcases a.ow c z with z | z
      · exact .inr (.inr z)
      · exact .inr (.inl z)
  kept := fun c o e n => b.kept c o (a.kept c o e n) fun z => by
    rcases a.ow c z with z | z
    · exact n z
    · rw [e] at z; cases z
  ow := fun c hc => by
    rcases b.ow c hc with z | z
    · exact a.ow c z
    · exact .inr (a.dom c z)
  dom := fun c hc => a.dom c (b.dom c hc)
  bx := fun i ds h => by
    obtain ⟨⟨es, h1⟩, h2⟩ := b.bx i ds h
    obtain ⟨h3, h4⟩ := a.bx i es h1
    exact ⟨h3, h2.trans h4⟩
end
end HB
namespace HB
open PySem L2
abbrev tupO (us : List Value) : Obj := { cls := .type "tuple", data := .seq us.toArray }
/-- what is asked of whoever makes a tuple of xs -/
def NewT (H : Hp) (xs : List V) (Q : VK) : Prop := ∀ p o, H p = none → o.dict = none → Q (.ref p) (upd H p (.frz o (.tup xs)))
section
variable {X : Cx}
theorem new_tuple {pins : List (Addr × Obj)} {σ : St} {H : Hp} {s : Shared} {xs : List V} {us : List Value} {Q : VK} (I : Inv X pins σ H s) (r : Vals xs us) (z : xs.length ≤ sizeLine) (q : NewT H xs Q) :
    EP X pins σ Q (.ref s.heap.objs.size) { s with heap := s.heap.push (tupO us) } := by
  have here : (s.heap.push (tupO us)).get? s.heap.objs.size = some (tupO us) := Heap.get?_push_size _ rfl
  have ok : ObjOk X.prog X.w (upd H s.heap.objs.size (.frz (tupO us) (.tup xs))) (s.heap.push (tupO us)) s.heap.objs.size (.frz (tupO us) (.tup xs)) := ⟨here, z, us, r, _, here, rfl, _, rfl⟩
  exact ⟨.ref s.heap.objs.size, _, I.laid (t' := s.toks) (fun _ _ e => Heap.get?_push_of_some _ e) (Nat.le_refl _) ok, rfl, q _ _ (I.hok.fresh (Nat.le_refl _)) rfl⟩
/-- a display -/
def tTupP (t : TA) : TE := fun σ H Q => t σ H fun xs H1 => xs.length ≤ sizeLine ∧ NewT H1 xs Q
theorem pe_tupP {es : List Expr} {t : TA} {k : Nat} {pos : Pos} (h : PA X es t) : PE X (.Tuple es k pos) (tTupP t) :=
  PE.mk fun pins s σ H Q I hq => wpAny_Tuple_spliced (thn (h.run pos pins s σ H _ I hq) fun us s1 ⟨xs, H1, I1, r, z, q⟩ => ⟨r.length ▸ z, new_tuple I1 r z q⟩)
/-- tuple(x) of a list -/
def rTupP (K : PySem.W.Frag) : List V → Hp → VK → Prop := fun vs H Q => ∃ a xs, vs = [.ref a] ∧ SqL K H a xs ∧ NewT H xs Q
theorem call_tupP : CallR X (.type "tuple") (rTupP X.K) := fun pins s σ H vs us Q I r ⟨a, xs, e, hs, q⟩ => by
  subst e
  match us, r with
  | [_], .cons rfl .nil =>
    have ⟨its, rv, pl, hz⟩ := I.list hs
    refine call_tuple_list pl.isList (fun h' kp => ?_) (by simpa [← rv.length] using hz)
    exact new_tuple (s := { s with heap := h' }) (I.kept (t' := s.toks) kp) rv hz q
/-- t[lo:hi], not the whole of it -/
def rSlP (K : PySem.W.Frag) : V → Option Int → Option Int → Hp → VK → Prop := fun x lo hi H Q => ∃ a xs, x = .ref a ∧ SqT K H a xs ∧
  ¬ (HT.sIx xs.length 0 lo = 0 ∧ HT.sIx xs.length xs.length hi = xs.length) ∧ NewT H (cutV xs lo hi) Q
theorem cut_vals {xs : List V} {us : List Value} (r : Vals xs us) (lo hi : Option Int) : Vals (cutV xs lo hi) ((us.drop (HT.sIx us.length 0 lo)).take (HT.sIx us.length us.length hi - HT.sIx us.length 0 lo)) := by
  unfold cutV
  rw [r.length]
  exact (r.drop _).take _
theorem sl_tupP : SlR X (rSlP X.K) := fun pins s σ H x v vl vu lo hi sl Q I rx hs pl pu ⟨a, xs, e, hx, hw, q⟩ => by
  subst e
  cases rx
  have ⟨its, r, ht, hz⟩ := I.tuple hx
  have len : xs.length = its.toArray.size := by simp [r.length]
  have all := HT.getItem_tuple_cut (prog := X.prog) (w := X.w) (E := X.xe) (A := X.A) (Q := EP X pins σ Q) ht hs pl pu (len ▸ hw) (new_tuple I (by simpa using cut_vals r lo hi) (Nat.le_trans (cutV_length xs lo hi) hz) q) (len ▸ hz)
  exact ⟨"tuple", _, PyProof.Rows.slot_tuple_getitem.lookup, ht.typeIs, all⟩
/-- t + u, both not empty -/
def rCatP (K : PySem.W.Frag) : R2 := fun x y H Q => ∃ a b xs ys, x = .ref a ∧ y = .ref b ∧ SqT K H a xs ∧ SqT K H b ys ∧ xs ≠ [] ∧ ys ≠ [] ∧ xs.length + ys.length ≤ sizeLine ∧ NewT H (xs ++ ys) Q
theorem op_catP : OpR X (binaryOp .Add) (rCatP X.K) := fun pins s σ H x y v u Q I rx ry ⟨a, b, xs, ys, ex, ey, ha, hb, nx, ny, hz, q⟩ => by
  subst ex ey
  cases rx
  cases ry
  have ⟨us, r1, p1, _⟩ := I.tuple ha
  have ⟨ws, r2, p2, _⟩ := I.tuple hb
  have lens : us.length + ws.length ≤ sizeLine := by have := r1.length; have := r2.length; omega
  exact HT.cat_tup p1 p2 (fun z => nx (r1.nil_iff.mp z)) (fun z => absurd (r2.nil_iff.mp z) ny) (fun _ => new_tuple I (r1.append r2) (by simpa using hz) q) lens
/-- t + u where one is empty: the other one itself -/
def rCat0 (K : PySem.W.Frag) : R2 := fun x y H Q => ∃ a b xs ys, x = .ref a ∧ y = .ref b ∧ SqT K H a xs ∧ SqT K H b ys ∧ xs.length + ys.length ≤ sizeLine ∧ ((xs = [] ∧ Q y H) ∨ (xs ≠ [] ∧ ys = [] ∧ Q x H))
theorem op_cat0 : OpR X (binaryOp .Add) (rCat0 X.K) := fun pins s σ H x y v u Q I rx ry ⟨a, b, xs, ys, ex, ey, ha, hb, hz, q⟩ => by
  subst ex ey
  refine op_catA pins s σ H _ _ v u Q I rx ry ⟨a, b, xs, ys, rfl, rfl, ha, hb, hz, fun e => ?_, fun n e => ?_, fun n m => ?_⟩
  · exact q.elim (fun z => z.2) fun z => absurd e z.1
  · exact q.elim (fun z => absurd z.1 n) fun z => z.2.2
  · exact q.elim (fun z => absurd z.1 n) fun z => absurd z.2.1 m
end
section
variable {s : Shared} {A : Around} {prog : Program} {w : World} {E : Value → Shared → Prop}
/-- how many places [::-1] goes over -/
theorem many_back (n : Nat) : Builtin.Slice.slicePlaces ((n : Int) - 1) (-1) (-1) = n := by
  cases n with
  | zero => rfl
  | succ k =>
    have e : ((k + 1 : Nat) : Int) - 1 = k := by omega
    rw [e]
    simp only [Builtin.Slice.slicePlaces]
    rw [if_neg (by decide), if_pos (by omega), show (- -1 : Int) = 1 from rfl, Int.ediv_one]
    omega
theorem picked_back (xs : Array Value) : ((List.range xs.size).filterMap fun (m : Nat) => xs[(((xs.size : Int) - 1) + (m : Int) * (-1)).toNat]?) = xs.toList.reverse := by
  have places : (List.range xs.size).map (fun m : Nat => (((xs.size : Int) - 1) + (m : Int) * (-1)).toNat) = (List.range xs.size).reverse := by
    rw [← PySem.W.krv_range]
    exact List.map_congr_left fun k hk => by have := List.mem_range.mp hk; omega
  calc _ = ((List.range xs.size).map fun m : Nat => (((xs.size : Int) - 1) + (m : Int) * (-1)).toNat).filterMap (xs[·]?) := (List.filterMap_map ..).symm
    _ = _ := by rw [places, List.filterMap_reverse, PySem.W.krv_all]
/-- the slice object [::-1] -/
structure Back (h : Heap) (sl : Addr) : Prop where
  ex : ∃ vl vu vs, h.IsSliceOf sl vl vu vs ∧ IsPart vl none ∧ IsPart vu none ∧ IsPart vs (some (-1))
theorem back_applied {sl : Addr} {n : Nat} {Q : Int × Int × Nat → Shared → Prop} (b : Back s.heap sl) (h : Q ((n : Int) - 1, -1, n) s) : wpAny (model prog w) A (Builtin.Slice.sliceApplied (.ref sl) (pure (n : Int))) Q E s := by
  obtain ⟨vl, vu, vs, ⟨ob, at_, _, dat⟩, pl, pu, ps⟩ := b.ex
  have f0 : ∀ {R : Value → Shared → Prop}, R vl s → wpAny (model prog w) A (field (.ref sl) 0) R E s := fun k => wpAny_field at_ dat rfl k
  have f1 : ∀ {R : Value → Shared → Prop}, R vu s → wpAny (model prog w) A (field (.ref sl) 1) R E s := fun k => wpAny_field at_ dat rfl k
  have f2 : ∀ {R : Value → Shared → Prop}, R vs s → wpAny (model prog w) A (field (.ref sl) 2) R E s := fun k => wpAny_field at_ dat rfl k
  wp_walk using f0, f1, f2, HT.slicePart_ pl, HT.slicePart_ pu, HT.slicePart_ ps
  show Q ((n : Int) - 1, -1, Builtin.Slice.slicePlaces ((n : Int) - 1) (-1) (-1)) s
  exact (many_back n).symm ▸ h
theorem tuple_back {t sl : Addr} {items : Array Value} {Q : Value → Shared → Prop} (ht : PyProof.Rows.IsTup s.heap t items) (b : Back s.heap sl) (hz : items.size ≤ sizeLine) (h : Q (.ref s.heap.objs.size) { s with heap := s.heap.push (tupO items.toList.reverse) }) :
    wpAny (model prog w) A (getItem (.ref t) (.ref sl)) Q E s := by
  have ty := ht.typeIs
  have tys : s.TypeIs (.ref sl) "slice" := let ⟨_, _, _, ⟨ob, at_, c, _⟩, _⟩ := b.ex; ⟨ob, at_, c⟩
  have run : wpAny (model prog w) A.in1 (Builtin.«tuple.__getitem__» ⟨[.ref t, .ref sl], []⟩) (fun r s' => ∃ v, r = .done (.ret v) ∧ Q v s') E s := by
    have ⟨⟨c, dd, dt, sls⟩, ho, hc, n, hd⟩ := ht
    dsimp only at hc hd
    subst hc hd
    wp_walk using wpAny_load ho, wpAny_typeOf tys, back_applied b
    rw [picked_back, if_neg (by simpa using hz)]
    wp_walk
    exact ⟨_, rfl, h⟩
  have made : wpAny (model prog w) A (call (.builtin "tuple.__getitem__") [.ref t, .ref sl]) Q E s := wpAny_call_entry PyProof.Rows.slot_tuple_getitem ty PyProof.Rows.entry_tuple_getitem run (PyProof.Rows.args_tuple_getitem _ _)
  unfold getItem
  apply wpAny_holding
  apply wpAny_bind
  apply wpAny_sequenceKey ty (by decide)
  apply wpAny_bind
  exact wpAny_callSpecial?_slot (name := Str.ofString "__getitem__") ty PyProof.Rows.slot_tuple_getitem (wpAny_mono made (fun _ _ q => wpAny_pure q) fun _ _ e => e)
end
section
variable {X : Cx}
theorem slice_back {st : Expr} {ts : TO} {p3 : Pos} {pins : List (Addr × Obj)} {s : Shared} {σ : St} {H : Hp} {R : Hp → Prop} {Q : Value → Shared → Prop} (hst : PO X (some st) ts) (I : Inv X pins σ H s) (h : ts σ H fun o H2 => o = some (-1) ∧ R H2)
    (k : ∀ sl s2 H2, Inv X pins σ H2 s2 → Back s2.heap sl → R H2 → Q (.ref sl) s2) : wpAny (model X.prog X.w) X.A (eval (.Slice none none (some st) p3) X.env) Q X.xe s := by
  have no : ∀ s1 H1, Inv X pins σ H1 s1 → wpAny (model X.prog X.w) X.A (evalPart none X.env) (fun u s2 => Inv X pins σ H1 s2 ∧ IsPart u none) X.xe s1 := fun s1 H1 I1 =>
    thn (po_none.run pins s1 σ H1 (fun o H2 => o = none ∧ H2 = H1) I1 ⟨rfl, rfl⟩) fun u s2 ⟨o, H2, I2, pt, e⟩ => ⟨e.2 ▸ I2, e.1 ▸ pt⟩
  refine wpAny_Slice (thn (no s H I) fun vl s1 ⟨I1, pl⟩ => thn (no s1 H I1) fun vu s2 ⟨I2, pu⟩ => thn (hst.run pins s2 σ H _ I2 h) fun vs s3 ⟨o, H3, I3, ps, e, r⟩ => ?_)
  subst e
  exact k _ _ H3 (I3.kept (t' := s3.toks) fun _ _ e => Heap.get?_push_of_some _ e) ⟨vl, vu, vs, Heap.IsSliceOf.new _ vl vu vs, pl, pu, ps⟩ r
def tBack (K : PySem.W.Frag) (te : TE) (ts : TO) : TE := fun σ H Q => te σ H fun x H1 => ts σ H1 fun o H2 => o = some (-1) ∧
  ((∃ a xs, x = .ref a ∧ SqL K H2 a xs ∧ ∀ p, H2 p = none → Q (.ref p) (upd H2 p (.lst xs.reverse))) ∨ (∃ a xs, x = .ref a ∧ SqT K H2 a xs ∧ NewT H2 xs.reverse Q))
theorem pe_back {e st : Expr} {te : TE} {ts : TO} {p3 pos : Pos} (he : PE X e te) (hst : PO X (some st) ts) : PE X (.Subscript e (.Slice none none (some st) p3) pos) (tBack X.K te ts) :=
  PE.mk fun pins s σ H Q I h => PyProof.Rows.Subscript_ (thn (he.run pins s σ H _ I h) fun v s1 ⟨x, H1, I1, r1, q1⟩ => slice_back hst I1 q1 fun sl s2 H2 I2 b q2 => by
    rcases q2 with ⟨a, xs, ex, hx, q⟩ | ⟨a, xs, ex, hx, q⟩
    · subst ex
      cases r1
      have ⟨its, r, pl, hz⟩ := I2.list hx
      have ⟨vl, vu, vs, so, p1, p2, p3⟩ := b.ex
      refine PyProof.Rows.tail_any (ops := [.ref a, .ref sl]) pl.isList.typeIs PySem.slot_list_getitem.lookup (wpAny_getItem_list_slice pl.isList so p1 p2 p3 (by decide) ?_ (by simpa [← r.length] using hz)) (by with_unfolding_all rfl)
      have there := Heap.get?_push_size s2.heap (o := { cls := .type "list", data := .seq its.reverse.toArray }) rfl
      rw [PySem.W.krv_pick]
      exact ⟨.ref s2.heap.objs.size, _, I2.laid (t' := s2.toks) (fun _ _ e => Heap.get?_push_of_some _ e) (Nat.le_refl _) (o := .lst xs.reverse) ⟨by simpa using hz, its.reverse, 0, r.reverse, there⟩, rfl, q _ (I2.hok.fresh (Nat.le_refl _))⟩
    · subst ex
      cases r1
      have ⟨its, r, tp, hz⟩ := I2.tuple hx
      refine PyProof.Rows.tail_any (ops := [.ref a, .ref sl]) tp.typeIs PyProof.Rows.slot_tuple_getitem.lookup (tuple_back tp b (by simpa [← r.length] using hz) ?_) (by with_unfolding_all rfl)
      exact new_tuple I2 r.reverse (by simpa using hz) q)
theorem SqP.obj {pins : List (Addr × Obj)} {σ : St} {H : Hp} {s : Shared} {a : Addr} {xs : List V} (I : Inv X pins σ H s) (h : SqP X.K H a xs) : ∃ o, s.heap.get? a = some o ∧ o.dict = none ∧ o.cls = .type "tuple" := by
  rcases h with ⟨o, e, n⟩ | ⟨o, _, _, l, n, c, _⟩
  · have ⟨e1, _, _, _, o2, e2, c, _⟩ := I.hok a _ e
    exact ⟨o, e1, n, Option.some.inj (e1.symm.trans e2) ▸ c⟩
  · exact ⟨o, I.kIn a o l, n, c⟩
def tTM (K : PySem.W.Frag) (r : V → List V → Hp → VK → Prop) (to : TE) (t : TA) : TE := fun σ H Q => to σ H fun x H1 => (∃ a xs, x = .ref a ∧ SqP K H1 a xs) ∧ t σ H1 fun ys H2 => r x ys H2 Q
/-- few arguments, none of them starred -/
abbrev Few (X : Cx) (pos : Pos) (es : List Expr) : Prop := ((backTo pos (starEach es X.env)).all (fun a => !a.1) && (backToKw pos (keywordEach [] X.env)).all (fun a => a.1.isSome) && decide (es.length + ([] : List Keyword).length + (if ([] : List Keyword).isEmpty then 0 else 1) < 30)) = true
theorem pe_tm {name : Str} {id : String} {r : V → List V → Hp → VK → Prop} {o e : Expr} {to : TE} {t : TA} {apos pos : Pos} (slot : Slot "tuple" name id) (ty : typeOf (.builtin id) = pure (.type "method_descriptor")) (m : MtR X id r) (ho : PE X o to) (ha : PA X [e] t)
    (base : attributeBase o name X.env (eval o X.env) = eval o X.env) (few : Few X pos [e]) (line : (apos.endLine == pos.line) = true) (st : starEach [e] X.env = [(false, eval e X.env)]) : PE X (.Call (.Attribute o name apos) [e] [] pos) (tTM X.K r to t) :=
  PE.mk fun pins s σ H Q I h => wpAny_Call_method_late base few line rfl (thn (ho.run pins s σ H _ I h) fun v s1 ⟨x, H1, I1, r1, ⟨a, xs, ex, sq⟩, q1⟩ => by
    subst ex
    cases r1
    have ⟨ob, at_, nd, c⟩ := sq.obj I1
    refine ⟨"tuple", id, PySem.F.plainAttrs_tuple, slot, ty, ⟨ob, at_, c⟩, fun b eb => ⟨ob, by cases eb; exact at_, nd⟩, ?_⟩
    have args := ha.run pos pins s1 σ H1 _ I1 q1
    rw [st] at args ⊢
    exact Calls.callWith_builtin rfl (Calls.evalArgs_plain (thn args fun us s2 ⟨ys, H2, I2, rs, q⟩ => m pins s2 σ H2 (.ref a) ys _ us Q I2 rfl rs q)))
/-- t.count(x) -/
def rCntT (K : PySem.W.Frag) : V → List V → Hp → VK → Prop := fun x ys H Q => ∃ (a : Addr) (y : V) (d : PyData) (ds : List PyData), x = .ref a ∧ ys = [y] ∧ Dp K H (.ref a) (.tuple ds) ∧ Dp K H y d ∧
  SeqAt.shaped (.tuple ds) = true ∧ SeqAt.shaped d = true ∧ Q (.int (ds.countP fun z => PyData.eqv z d : Nat)) H
theorem mt_cntT (hu : X.A.units + 65 < cLine) : MtR X "tuple.count" (rCntT X.K) := fun pins s σ H x ys v us Q I rx rys ⟨a, y, d, ds, ex, ey, hl, hy, sl, sd, q⟩ => by
  subst ex ey
  match us, rys with
  | [uy], .cons ry .nil =>
    cases rx
    have ⟨bs, rd⟩ := Dp.reads I d y uy hy ry
    have lay := SeqAt.canLay_of_shaped sl
    cases hl with
    | tup hs ha =>
      have ⟨its, rv, ⟨⟨c, dd, dt, sls⟩, at_, hc, n, hd⟩, _⟩ := I.tuple hs
      dsimp only at hc hd
      subst hc hd
      have ⟨as, rs⟩ := Dp.readsAll I ds _ its ha rv
      have back : its.map (SeqAt.readOf s.heap) = ds := SeqAt.readsAll_map ds its as lay rs
      have eqs := SeqAt.items_eqAt (A := X.A) (vs := its.toArray) (by simpa using rs) rd lay (SeqAt.canLay_of_shaped sd) (PyProof.Rows.room_in_shaped sd hu)
      refine call_meets PySem.F.slot_tuple_count ⟨_, at_, rfl⟩ PySem.F.entry_tuple_count (PySem.F.args_tuple_count_2 _ _) (SeqAt.tuple_countAt a its.toArray n dd sls uy _) ⟨at_, eqs, .int _, H, I.tok _, ⟨_, rfl⟩, ?_⟩
      rw [← back, List.countP_map] at q
      exact q
end
end HB
namespace HB
open PySem L2
abbrev Mo (α : Type) := En → Option (Except Exn (En × α))
def mRet {α : Type} (a : α) : Mo α := fun ρ => some (.ok (ρ, a))
def mBind {α β : Type} (m : Mo α) (f : α → Mo β) : Mo β := fun ρ => match m ρ with
  | none => none
  | some (.error x) => some (.error x)
  | some (.ok (ρ', a)) => f a ρ'
def mLift {α : Type} (o : Option α) : Mo α := fun ρ => match o with
  | none => none
  | some a => some (.ok (ρ, a))
/-- an exception as it lies -/
def XP (K : PySem.W.Frag) (G : Hp) (ρ : En) (σ : St) (H : Hp) (x : Exn) (C : Value) (dx : Option Addr) (H' : Hp) : Prop :=
  C = .ref (He.ga K x.1) ∧ ∃ G' : Hp, Same G G' ∧ Same G' H' ∧ (∀ b, G' b ≠ none → G b ≠ none ∨ H b = none ∨ Ownd ρ σ b) ∧ (∀ b o, H b = some o → ¬ Ownd ρ σ b → H' b = some o) ∧ (∀ b, H' b = none → H b = none) ∧
    ((dx = none ∧ x.2 = []) ∨ ∃ d fs, dx = some d ∧ H' d = some (.xd fs) ∧ RpF K G' fs (x.2.map fun p => (.str p.1, p.2)))
section
variable {K : PySem.W.Frag} {E : XK} {α β : Type}
def Post (K : PySem.W.Frag) (E : XK) (R : Hp → β → α → Prop) (G : Hp) (ρ : En) (σ : St) (H : Hp) (Q : β → Hp → Prop) : Option (Except Exn (En × α)) → Prop
  | none => False
  | some (.error x) => ∀ C dx H', XP K G ρ σ H x C dx H' → E C dx H'
  | some (.ok (ρ', a)) => ∀ G' v H', Ex K G ρ σ H G' ρ' σ H' → R G' v a → Q v H'
variable {G G1 H H1 : Hp} {ρ ρ1 : En} {σ σ1 : St} {R : Hp → β → α → Prop} {Q : β → Hp → Prop}
theorem XP.trans (e : Ex K G ρ σ H G1 ρ1 σ1 H1) {x : Exn} {C : Value} {dx : Option Addr} {H' : Hp} (h : XP K G1 ρ1 σ1 H1 x C dx H') : XP K G ρ σ H x C dx H' := by
  obtain ⟨h1, G', h2, h3, h4, h5, h6, h7⟩ := h
  refine ⟨h1, G', e.g.trans h2, h3, fun b hb => ?_, fun b o q n => h5 b o (e.kept b o q n) fun z => ?_, fun b hb => e.dom b (h6 b hb), h7⟩
  · rcases h4 b hb with z | z | z
    · exact e.new b z
    · exact .inr (.inl (e.dom b z))
    · rcases e.ow b z with z | z
      · exact .inr (.inr z)
      · exact .inr (.inl z)
  · rcases e.ow b z with z | z
    · exact n z
    · rw [q] at z; cases z
theorem Post.ex {o : Option (Except Exn (En × α))} (e : Ex K G ρ σ H G1 ρ1 σ H1) (h : Post K E R G ρ σ H Q o) : Post K E R G1 ρ1 σ H1 Q o := by
  match o, h with
  | some (.error x), h => exact fun C dx H' z => h C dx H' (XP.trans e z)
  | some (.ok (ρ', a)), h => exact fun G' v H' z r => h G' v H' (e.trans z) r
theorem Post.imp {γ δ : Type} {R' : Hp → δ → γ → Prop} {Q' : δ → Hp → Prop} {m : Mo γ} {f : γ → Mo α} (h : Post K E R G ρ σ H Q (mBind m f ρ))
    (k : ∀ G1 ρ1 v H1 a, Ex K G ρ σ H G1 ρ1 σ H1 → R' G1 v a → Post K E R G1 ρ1 σ H1 Q (f a ρ1) → Q' v H1) : Post K E R' G ρ σ H Q' (m ρ) := by
  unfold mBind at h
  cases q : m ρ with
  | none => rw [q] at h; exact h
  | some r =>
    rw [q] at h
    cases r with
    | error x => exact h
    | ok p =>
      obtain ⟨ρ', a⟩ := p
      exact fun G' v H' z r => k G' ρ' v H' a z r (Post.ex z h)
theorem Post.lift {o : Option α} {ρ' : En} (h : Post K E R G ρ σ H Q (mLift o ρ)) : ∃ a, o = some a ∧ ∀ G' v H', Ex K G ρ σ H G' ρ σ H' → R G' v a → Q v H' := by
  cases o with
  | none => exact False.elim h
  | some a => exact ⟨a, rfl, h⟩
end
/-- an expression -/
def EV (X : Cx) (E : XK) (e : Expr) (f : Mo D) : Prop := ∃ t, PE X e t ∧ ∀ G ρ σ H Q, J X.K G ρ σ H → Post X.K E (Rp X.K) G ρ σ H Q (f ρ) → t σ H Q
/-- a test -/
def ET (X : Cx) (E : XK) (e : Expr) (f : Mo Bool) : Prop := ∃ t, PT X e t ∧ ∀ G ρ σ H Q, J X.K G ρ σ H → Post X.K E (fun _ b c => b = c) G ρ σ H Q (f ρ) → t σ H Q
/-- a BoolOp's tests -/
def EW (X : Cx) (E : XK) (e : Expr) (f : Mo Bool) : Prop := ∃ t, PW X e t ∧ ∀ G ρ σ H Q, J X.K G ρ σ H → Post X.K E (fun _ b c => b = c) G ρ σ H Q (f ρ) → t σ H Q
/-- arguments -/
def EA (X : Cx) (E : XK) (es : List Expr) (f : Mo (List D)) : Prop := ∃ t, PA X es t ∧ ∀ G ρ σ H Q, J X.K G ρ σ H → Post X.K E (RpAll X.K) G ρ σ H Q (f ρ) → t σ H Q
/-- a list that nobody else holds -/
def RpN (K : PySem.W.Frag) (H0 H' : Hp) (G' : Hp) (ρ' : En) (σ : St) (v : V) (ds : List D) : Prop := ∃ a vs, v = .ref a ∧ H0 a = none ∧ G' a = none ∧ H' a = some (.lst vs) ∧ ¬ Ownd ρ' σ a ∧ RpAll K G' vs ds
def PostN (K : PySem.W.Frag) (E : XK) (G : Hp) (ρ : En) (σ : St) (H : Hp) (Q : VK) : Option (Except Exn (En × List D)) → Prop
  | none => False
  | some (.error x) => ∀ C dx H', XP K G ρ σ H x C dx H' → E C dx H'
  | some (.ok (ρ', ds)) => ∀ G' v H', Ex K G ρ σ H G' ρ' σ H' → RpN K H H' G' ρ' σ v ds → Q v H'
/-- an expression that makes a new list -/
def EN (X : Cx) (E : XK) (e : Expr) (f : Mo (List D)) : Prop := ∃ t, PE X e t ∧ ∀ G ρ σ H Q, J X.K G ρ σ H → PostN X.K E G ρ σ H Q (f ρ) → t σ H Q
inductive Fl where
  | nx
  | rt (d : D)
  | bk
  | ct
def PostS (K : PySem.W.Frag) (E : XK) (G : Hp) (ρ : En) (σ : St) (H : Hp) (De : Ends) : Option (Except Exn (En × Fl)) → Prop
  | none => False
  | some (.error x) => ∀ C dx H', XP K G ρ σ H x C dx H' → E C dx H'
  | some (.ok (ρ', .nx)) => ∀ G' σ' H', Ex K G ρ σ H G' ρ' σ' H' → De.nx σ' H'
  | some (.ok (ρ', .bk)) => ∀ G' σ' H', Ex K G ρ σ H G' ρ' σ' H' → De.bk σ' H'
  | some (.ok (ρ', .ct)) => ∀ G' σ' H', Ex K G ρ σ H G' ρ' σ' H' → De.ct σ' H'
  | some (.ok (ρ', .rt d)) => ∀ G' σ' v H', Ex K G ρ σ H G' ρ' σ' H' → Rp K G' v d → De.rt v H'
def SV (X : Cx) (E : XK) (s : Stmt) (g : Mo Fl) : Prop := ∃ t, PS X s t ∧ ∀ G ρ σ H De, J X.K G ρ σ H → PostS X.K E G ρ σ H De (g ρ) → t De σ H
def SVs (X : Cx) (E : XK) (s : List Stmt) (g : Mo Fl) : Prop := ∃ t, PSs X s t ∧ ∀ G ρ σ H De, J X.K G ρ σ H → PostS X.K E G ρ σ H De (g ρ) → t De σ H
section
variable {X : Cx} {E : XK}
theorem PostS.ex {G G1 H H1 : Hp} {ρ ρ1 : En} {σ σ1 : St} {K : PySem.W.Frag} {De : Ends} {o : Option (Except Exn (En × Fl))} (e : Ex K G ρ σ H G1 ρ1 σ1 H1) (h : PostS K E G ρ σ H De o) : PostS K E G1 ρ1 σ1 H1 De o := by
  match o, h with
  | some (.error x), h => exact fun C dx H' z => h C dx H' (XP.trans e z)
  | some (.ok (ρ', .nx)), h => exact fun G' v H' z => h G' v H' (e.trans z)
  | some (.ok (ρ', .bk)), h => exact fun G' v H' z => h G' v H' (e.trans z)
  | some (.ok (ρ', .ct)), h => exact fun G' v H' z => h G' v H' (e.trans z)
  | some (.ok (ρ', .rt d)), h => exact fun G' s' v H' z r => h G' s' v H' (e.trans z) r
/-- an expression first, then a statement -/
theorem PostS.imp {K : PySem.W.Frag} {G H : Hp} {ρ : En} {σ : St} {De : Ends} {γ δ : Type} {R' : Hp → δ → γ → Prop} {Q' : δ → Hp → Prop} {m : Mo γ} {f : γ → Mo Fl} (h : PostS K E G ρ σ H De (mBind m f ρ))
    (k : ∀ G1 ρ1 v H1 a, Ex K G ρ σ H G1 ρ1 σ H1 → R' G1 v a → PostS K E G1 ρ1 σ H1 De (f a ρ1) → Q' v H1) : Post K E R' G ρ σ H Q' (m ρ) := by
  unfold mBind at h
  cases q : m ρ with
  | none => rw [q] at h; exact h
  | some r =>
    rw [q] at h
    cases r with
    | error x => exact h
    | ok p =>
      obtain ⟨ρ', a⟩ := p
      exact fun G' v H' z r => k G' ρ' v H' a z r (PostS.ex z h)
theorem PostS.impN {K : PySem.W.Frag} {G H : Hp} {ρ : En} {σ : St} {De : Ends} {Q' : VK} {m : Mo (List D)} {f : List D → Mo Fl} (h : PostS K E G ρ σ H De (mBind m f ρ))
    (k : ∀ G1 ρ1 v H1 a, Ex K G ρ σ H G1 ρ1 σ H1 → RpN K H H1 G1 ρ1 σ v a → PostS K E G1 ρ1 σ H1 De (f a ρ1) → Q' v H1) : PostN K E G ρ σ H Q' (m ρ) := by
  unfold mBind at h
  cases q : m ρ with
  | none => rw [q] at h; exact h
  | some r =>
    rw [q] at h
    cases r with
    | error x => exact h
    | ok p =>
      obtain ⟨ρ', a⟩ := p
      exact fun G' v H' z r => k G' ρ' v H' a z r (PostS.ex z h)
/-- a name of the def; a list of its own is held by others too from then on -/
def mVar (i : Nat) : Mo D := fun ρ => match ρ[i]? with
  | some (.pur d) => some (.ok (ρ, d))
  | some (.own ds) => some (.ok (ρ.set i (.pur (.list ds)), .list ds))
  | _ => none
theorem J.freeze {K : PySem.W.Frag} {G H : Hp} {ρ : En} {σ : St} (j : J K G ρ σ H) {i : Nat} {ds : List D} (h : ρ[i]? = some (.own ds)) :
    ∃ a vs, σ[i]? = some (some (.ref a)) ∧ Ex K G ρ σ H (upd G a (.lst vs)) (ρ.set i (.pur (.list ds))) σ H ∧ Rp K (upd G a (.lst vs)) (.ref a) (.list ds) := by
  obtain ⟨a, vs, h1, h2, h3, h4⟩ := j.own i _ ds h rfl
  have sg : Same G (upd G a (.lst vs)) := same_upd h3
  have hi : i < ρ.length := (List.getElem?_eq_some_iff.mp h).1
  have r : Rp K (upd G a (.lst vs)) (.ref a) (.list ds) := .lst upd_same (h4.mono sg)
  have at_ : ∀ (k : Nat) (s : Sl), (ρ.set i (.pur (.list ds)))[k]? = some s → (k = i ∧ s = .pur (.list ds)) ∨ (k ≠ i ∧ ρ[k]? = some s) := fun k s e => by
    by_cases hk : k = i
    · subst hk
      rw [List.getElem?_set_self hi] at e
      exact .inl ⟨rfl, (Option.some.inj e).symm⟩
    · rw [List.getElem?_set_ne (Ne.symm hk)] at e
      exact .inr ⟨hk, e⟩
  refine ⟨a, vs, h1, ⟨⟨fun b o e => ?_, by rw [List.length_set]; exact j.len, fun k d e => ?_, fun k s es e hl => ?_, fun k l s t es fs b e1 l1 e2 l2 e3 e4 => ?_⟩, sg, fun b hb => ?_, fun b o e _ => e, fun b hb => ?_, fun _ z => z, fun k es e => ?_⟩, r⟩
  · by_cases hb : b = a
    · subst hb; rw [upd_same] at e; rw [← e]; exact h2
    · rw [upd_ne hb] at e; exact j.sub _ _ e
  · rcases at_ k _ e with ⟨rfl, e'⟩ | ⟨_, e'⟩
    · cases e'
      exact ⟨_, h1, r⟩
    · obtain ⟨v, q1, q2⟩ := j.pur k d e'
      exact ⟨v, q1, q2.mono sg⟩
  · rcases at_ k _ e with ⟨_, e'⟩ | ⟨hk, e'⟩
    · subst e'; cases hl
    · obtain ⟨a', ws, q1, q2, q3, q4⟩ := j.own k s es e' hl
      have ne : a' ≠ a := fun z => by
        subst z
        exact hk (j.dis k i _ _ es ds a' e' hl h rfl q1 h1)
      exact ⟨a', ws, q1, q2, by rw [upd_ne ne]; exact q3, q4.mono sg⟩
  · rcases at_ k _ e1 with ⟨_, e'⟩ | ⟨hk, e'⟩
    · subst e'; cases l1
    · rcases at_ l _ e2 with ⟨_, f'⟩ | ⟨hl, f'⟩
      · subst f'; cases l2
      · exact j.dis k l _ _ es fs b e' l1 f' l2 e3 e4
  · by_cases e : b = a
    · subst e
      exact .inr (.inr ⟨i, _, ds, h, rfl, h1⟩)
    · rw [upd_ne e] at hb
      exact .inl hb
  · obtain ⟨k, s, es, e1, l1, e2⟩ := hb
    rcases at_ k _ e1 with ⟨_, e'⟩ | ⟨hk, e'⟩
    · subst e'; cases l1
    · exact .inl ⟨k, s, es, e', l1, e2⟩
  · rcases at_ k _ e with ⟨_, e'⟩ | ⟨_, e'⟩
    · cases e'
    · exact ⟨⟨es, e'⟩, rfl⟩
theorem ev_var (i : Nat) {x : Str} {pos : Pos} (hN : X.N[i]? = some x := by rfl) (hv : Vis X.env.scope x := by first | exact Or.inl rfl | exact Or.inr (Or.inl rfl) | exact Or.inr (Or.inr rfl)) (hd : (x == ("__debug__" : Str)) = false := by decide)
    (hcd : (x == ("__classdict__" : Str)) = false := by decide) : EV X E (.Name x pos) (mVar i) := by
  refine ⟨tVar i, pe_var hN hv hd hcd, fun G ρ σ H Q j h => ?_⟩
  unfold mVar at h
  cases q : ρ[i]? with
  | none => rw [q] at h; exact h.elim
  | some s =>
    rw [q] at h
    cases s with
    | no => exact h.elim
    | box _ => exact h.elim
    | pur d =>
      obtain ⟨v, h1, h2⟩ := j.pur i d q
      exact ⟨v, h1, h G v H j.refl h2⟩
    | own ds =>
      obtain ⟨a, vs, h1, h2, h3⟩ := j.freeze q
      exact ⟨_, h1, h _ _ _ h2 h3⟩
theorem ev_int {i : Int} {k : Nat} {pos : Pos} : EV X E (.Constant (.int i) k pos) (mRet (.int i)) := ⟨_, pe_int, fun G ρ σ H Q j h => h G _ H j.refl (.int i)⟩
theorem ev_bl {i : Bool} {k : Nat} {pos : Pos} : EV X E (.Constant (.bool i) k pos) (mRet (.bool i)) := ⟨_, pe_bl, fun G ρ σ H Q j h => h G _ H j.refl (.bl i)⟩
theorem ev_non {k : Nat} {pos : Pos} : EV X E (.Constant .none k pos) (mRet .none) := ⟨_, pe_non, fun G ρ σ H Q j h => h G _ H j.refl .non⟩
theorem ev_str {x : Str} {k : Nat} {pos : Pos} : EV X E (.Constant (.str x) k pos) (mRet (.str x)) := ⟨_, pe_str, fun G ρ σ H Q j h => h G _ H j.refl (.str x)⟩
/-- a module's constant -/
def GlD (K : PySem.W.Frag) (mg : Str → Option Value) (x : Str) (d : D) : Prop := ∃ v u, mg x = some u ∧ RelV v u ∧ ∀ H, Rp K H v d
theorem ev_glob {x : Str} {pos : Pos} {d : D} (g : GlD X.K X.mg x d) (hg : Gl X x := by rfl) (hd : (x == ("__debug__" : Str)) = false := by decide) : EV X E (.Name x pos) (mRet d) := by
  obtain ⟨v, u, h1, h2, h3⟩ := g
  exact ⟨_, pe_glob hg h1 h2 hd, fun G ρ σ H Q j h => h G _ H j.refl (h3 G)⟩
/-- a two-place operation on data -/
def DOp (X : Cx) (sem : Value → Value → Sem Value) (f : D → D → Option D) : Prop := ∃ r, OpR X sem r ∧ ∀ G H x y a b c Q, Same G H → Rp X.K G x a → Rp X.K G y b → f a b = some c →
  (∀ G' v H', PX G H G' H' → Rp X.K G' v c → Q v H') → r x y H Q
def mOp (f : D → D → Option D) (a b : Mo D) : Mo D := mBind a fun x => mBind b fun y => mLift (f x y)
theorem bin_sem {ta tb : TE} {r : R2} {fa fb : Mo D} {f : D → D → Option D} {sem : Value → Value → Sem Value}
    (ha : ∀ G ρ σ H Q, J X.K G ρ σ H → Post X.K E (Rp X.K) G ρ σ H Q (fa ρ) → ta σ H Q) (hb : ∀ G ρ σ H Q, J X.K G ρ σ H → Post X.K E (Rp X.K) G ρ σ H Q (fb ρ) → tb σ H Q)
    (hr : ∀ G H x y a b c Q, Same G H → Rp X.K G x a → Rp X.K G y b → f a b = some c → (∀ G' v H', PX G H G' H' → Rp X.K G' v c → Q v H') → r x y H Q) :
    ∀ G ρ σ H Q, J X.K G ρ σ H → Post X.K E (Rp X.K) G ρ σ H Q (mOp f fa fb ρ) → tOp r ta tb σ H Q := by
  intro G ρ σ H Q j h
  refine ha G ρ σ H _ j (Post.imp h fun G1 ρ1 x H1 a e1 r1 h1 => ?_)
  refine hb G1 ρ1 σ H1 _ e1.j (Post.imp h1 fun G2 ρ2 y H2 b e2 r2 h2 => ?_)
  obtain ⟨c, hc, k⟩ := Post.lift (ρ' := ρ2) h2
  exact hr G2 H2 x y a b c Q e2.j.sub (r1.mono e2.g) r2 hc fun G' v H' p q => k G' v H' (e2.j.ex p) q
theorem ev_op {op : Operator} {a b : Expr} {pos : Pos} {fa fb : Mo D} {f : D → D → Option D} (ho : DOp X (binaryOp op) f) (ha : EV X E a fa) (hb : EV X E b fb) : EV X E (.BinOp a op b pos) (mOp f fa fb) := by
  obtain ⟨r, o, hr⟩ := ho
  obtain ⟨ta, pa, qa⟩ := ha
  obtain ⟨tb, pb, qb⟩ := hb
  exact ⟨_, pe_op o pa pb, bin_sem (sem := binaryOp op) qa qb hr⟩
theorem ev_cmp {op : CmpOp} {a b : Expr} {pos : Pos} {fa fb : Mo D} {f : D → D → Option D} (ho : DOp X (compareOp op) f) (ha : EV X E a fa) (hb : EV X E b fb) (hm : behindInMarks op b = false) : EV X E (.Compare a [op] [b] pos) (mOp f fa fb) := by
  obtain ⟨r, o, hr⟩ := ho
  obtain ⟨ta, pa, qa⟩ := ha
  obtain ⟨tb, pb, qb⟩ := hb
  exact ⟨_, pe_cmpR o pa pb hm, bin_sem (sem := compareOp op) qa qb hr⟩
/-- a value as a test: it must be a bool -/
def boolD : D → Option Bool
  | .bool b => some b
  | _ => none
def mTest (f : Mo D) : Mo Bool := mBind f fun d => mLift (boolD d)
theorem test_sem {t : TE} {f : Mo D} (ha : ∀ G ρ σ H Q, J X.K G ρ σ H → Post X.K E (Rp X.K) G ρ σ H Q (f ρ) → t σ H Q) :
    ∀ G ρ σ H Q, J X.K G ρ σ H → Post X.K E (fun _ b c => b = c) G ρ σ H Q (mTest f ρ) → tTest t σ H Q := by
  intro G ρ σ H Q j h
  refine ha G ρ σ H _ j (Post.imp h fun G1 ρ1 x H1 a e1 r1 h1 => ?_)
  obtain ⟨c, hc, k⟩ := Post.lift (ρ' := ρ1) h1
  cases r1 with
  | bl b =>
    cases hc
    exact ⟨_, rfl, k G1 _ H1 e1.j.refl rfl⟩
  | _ => cases hc
theorem et_cmp {op : CmpOp} {a b : Expr} {pos : Pos} {fa fb : Mo D} {f : D → D → Option D} (ho : DOp X (compareOp op) f) (ha : EV X E a fa) (hb : EV X E b fb) (hm : behindInMarks op b = false) : ET X E (.Compare a [op] [b] pos) (mTest (mOp f fa fb)) := by
  obtain ⟨r, o, hr⟩ := ho
  obtain ⟨ta, pa, qa⟩ := ha
  obtain ⟨tb, pb, qb⟩ := hb
  exact ⟨_, pt_cmpR o pa pb hm, test_sem (bin_sem (sem := compareOp op) qa qb hr)⟩
theorem et_val {e : Expr} {f : Mo D} (h : EV X E e f) (he : ∀ whole, isTrue e X.env whole = (do let v ← whole; standAt e.pos; holding [v] (truthy v)) := by intro _; rfl) : ET X E e (mTest f) := by
  obtain ⟨t, p, q⟩ := h
  exact ⟨_, pt_val p he, fun G ρ σ H Q j h => test_sem q G ρ σ H Q j h⟩
def mAnd (a b : Mo Bool) : Mo Bool := mBind a fun c => match c with
  | true => b
  | false => mRet false
def mOr (a b : Mo Bool) : Mo Bool := mBind a fun c => match c with
  | true => mRet true
  | false => b
def mNot (a : Mo Bool) : Mo Bool := mBind a fun c => mRet (!c)
theorem ew_and1 {a : Expr} {pos : Pos} {f : Mo Bool} (h : ET X E a f) : EW X E (.BoolOp .And [a] pos) f := let ⟨t, p, q⟩ := h; ⟨t, pw_and1 p, q⟩
theorem ew_or1 {a : Expr} {pos : Pos} {f : Mo Bool} (h : ET X E a f) : EW X E (.BoolOp .Or [a] pos) f := let ⟨t, p, q⟩ := h; ⟨t, pw_or1 p, q⟩
theorem ew_and {a b : Expr} {rest : List Expr} {pos : Pos} {f g : Mo Bool} (h : ET X E a f) (hb : EW X E (.BoolOp .And (b :: rest) pos) g) : EW X E (.BoolOp .And (a :: b :: rest) pos) (mAnd f g) := by
  obtain ⟨t, p, q⟩ := h
  obtain ⟨t2, p2, q2⟩ := hb
  refine ⟨_, pw_and p p2, fun G ρ σ H Q j h => q G ρ σ H _ j (Post.imp h fun G1 ρ1 x H1 a e1 r1 h1 => ?_)⟩
  subst r1
  cases x with
  | true => exact (q2 G1 ρ1 σ H1 Q e1.j h1 : _)
  | false => exact (h1 G1 false H1 e1.j.refl rfl : _)
theorem ew_or {a b : Expr} {rest : List Expr} {pos : Pos} {f g : Mo Bool} (h : ET X E a f) (hb : EW X E (.BoolOp .Or (b :: rest) pos) g) : EW X E (.BoolOp .Or (a :: b :: rest) pos) (mOr f g) := by
  obtain ⟨t, p, q⟩ := h
  obtain ⟨t2, p2, q2⟩ := hb
  refine ⟨_, pw_or p p2, fun G ρ σ H Q j h => q G ρ σ H _ j (Post.imp h fun G1 ρ1 x H1 a e1 r1 h1 => ?_)⟩
  subst r1
  cases x with
  | false => exact (q2 G1 ρ1 σ H1 Q e1.j h1 : _)
  | true => exact (h1 G1 true H1 e1.j.refl rfl : _)
theorem EW.et {e : Expr} {f : Mo Bool} (h : EW X E e f) : ET X E e f := let ⟨t, p, q⟩ := h; ⟨t, p.pt, q⟩
theorem et_not {a : Expr} {pos : Pos} {f : Mo Bool} (h : ET X E a f) : ET X E (.UnaryOp .Not a pos) (mNot f) := by
  obtain ⟨t, p, q⟩ := h
  refine ⟨_, pt_not p, fun G ρ σ H Q j h => q G ρ σ H _ j (Post.imp h fun G1 ρ1 x H1 a e1 r1 h1 => ?_)⟩
  subst r1
  exact h1 G1 _ H1 e1.j.refl rfl
/-- .. as values, all of them bools -/
def mAndV (a b : Mo D) : Mo D := mBind (mTest a) fun c => match c with
  | true => b
  | false => mRet (.bool false)
def mOrV (a b : Mo D) : Mo D := mBind (mTest a) fun c => match c with
  | true => mRet (.bool true)
  | false => b
def mNotV (a : Mo D) : Mo D := mBind (mTest a) fun c => mRet (.bool (!c))
theorem ev_one {a : Expr} {op : BoolOp} {pos : Pos} {f : Mo D} (h : EV X E a f) : EV X E (.BoolOp op [a] pos) f := let ⟨t, p, q⟩ := h; ⟨t, pe_one p, q⟩
theorem ev_and {a b : Expr} {rest : List Expr} {pos : Pos} {f g : Mo D} (h : EV X E a f) (hb : EV X E (.BoolOp .And (b :: rest) pos) g) : EV X E (.BoolOp .And (a :: b :: rest) pos) (mAndV f g) := by
  obtain ⟨t, p, q⟩ := h
  obtain ⟨t2, p2, q2⟩ := hb
  refine ⟨_, pe_and p p2, fun G ρ σ H Q j h => ?_⟩
  refine test_sem q G ρ σ H (fun c H1 => if c = true then t2 σ H1 Q else Q (.bl false) H1) j (Post.imp h fun G1 ρ1 x H1 a e1 r1 h1 => ?_)
  subst r1
  cases x with
  | true => exact (q2 G1 ρ1 σ H1 Q e1.j h1 : _)
  | false => exact (h1 G1 _ H1 e1.j.refl (.bl false) : _)
theorem ev_or {a b : Expr} {rest : List Expr} {pos : Pos} {f g : Mo D} (h : EV X E a f) (hb : EV X E (.BoolOp .Or (b :: rest) pos) g) : EV X E (.BoolOp .Or (a :: b :: rest) pos) (mOrV f g) := by
  obtain ⟨t, p, q⟩ := h
  obtain ⟨t2, p2, q2⟩ := hb
  refine ⟨_, pe_or p p2, fun G ρ σ H Q j h => ?_⟩
  refine test_sem q G ρ σ H (fun c H1 => if c = true then Q (.bl true) H1 else t2 σ H1 Q) j (Post.imp h fun G1 ρ1 x H1 a e1 r1 h1 => ?_)
  subst r1
  cases x with
  | false => exact (q2 G1 ρ1 σ H1 Q e1.j h1 : _)
  | true => exact (h1 G1 _ H1 e1.j.refl (.bl true) : _)
theorem ev_not {a : Expr} {pos : Pos} {f : Mo D} (h : EV X E a f) : EV X E (.UnaryOp .Not a pos) (mNotV f) := by
  obtain ⟨t, p, q⟩ := h
  refine ⟨_, pe_not p, fun G ρ σ H Q j h => ?_⟩
  refine test_sem q G ρ σ H (fun c H1 => Q (.bl (!c)) H1) j (Post.imp h fun G1 ρ1 x H1 a e1 r1 h1 => ?_)
  subst r1
  exact h1 G1 _ H1 e1.j.refl (.bl _)
def mIf (c : Mo Bool) (a b : Mo D) : Mo D := mBind c fun c => match c with
  | true => a
  | false => b
theorem ev_if {c a b : Expr} {pos : Pos} {fc : Mo Bool} {fa fb : Mo D} (hc : ET X E c fc) (ha : EV X E a fa) (hb : EV X E b fb) : EV X E (.IfExp c a b pos) (mIf fc fa fb) := by
  obtain ⟨t, p, q⟩ := hc
  obtain ⟨ta, pa, qa⟩ := ha
  obtain ⟨tb, pb, qb⟩ := hb
  refine ⟨_, pe_ifExp p pa pb, fun G ρ σ H Q j h => q G ρ σ H _ j (Post.imp h fun G1 ρ1 x H1 a e1 r1 h1 => ?_)⟩
  subst r1
  cases x with
  | true => exact (qa G1 ρ1 σ H1 Q e1.j h1 : _)
  | false => exact (qb G1 ρ1 σ H1 Q e1.j h1 : _)
end
end HB
namespace HB
open PySem L2
section
variable {X : Cx} {E : XK}
def mNil : Mo (List D) := mRet []
def mCons (a : Mo D) (r : Mo (List D)) : Mo (List D) := mBind a fun x => mBind r fun xs => mRet (x :: xs)
def itemsD : D → Option (List D)
  | .list ds => some ds
  | .tuple ds => some ds
  | .dict [(.none, .list ds)] => some ds
  | _ => none
def mStar (a : Mo D) (r : Mo (List D)) : Mo (List D) := mBind a fun x => mBind (mLift (itemsD x)) fun ys => mBind r fun xs => mRet (ys ++ xs)
theorem Rp.items {K : PySem.W.Frag} {G : Hp} {v : V} {d : D} {ds : List D} (r : Rp K G v d) (h : itemsD d = some ds) : ∃ p xs, v = .ref p ∧ (SqT K G p xs ∨ SqL K G p xs) ∧ RpAll K G xs ds := by
  cases r with
  | lst h1 h2 => cases h; exact ⟨_, _, rfl, .inr (.of h1), h2⟩
  | tup h1 h2 => cases h; exact ⟨_, _, rfl, .inl h1.t, h2⟩
  | frz h1 h2 => cases h; exact ⟨_, _, rfl, .inr h1, h2⟩
  | obj h1 h2 => cases h
  | _ => cases h
theorem ea_nil : EA X E [] mNil := ⟨_, pa_nil, fun G ρ σ H Q j h => h G _ H j.refl .nil⟩
theorem ea_cons {e : Expr} {es : List Expr} {f : Mo D} {g : Mo (List D)} (h : EV X E e f) (hr : EA X E es g) (hs : starEach (e :: es) X.env = (false, eval e X.env) :: starEach es X.env := by rfl) : EA X E (e :: es) (mCons f g) := by
  obtain ⟨t, p, q⟩ := h
  obtain ⟨t2, p2, q2⟩ := hr
  refine ⟨_, pa_cons p p2 hs, fun G ρ σ H Q j h => q G ρ σ H _ j (Post.imp h fun G1 ρ1 x H1 a e1 r1 h1 => ?_)⟩
  refine q2 G1 ρ1 σ H1 _ e1.j (Post.imp h1 fun G2 ρ2 y H2 b e2 r2 h2 => ?_)
  exact h2 G2 _ H2 e2.j.refl (.cons (r1.mono e2.g) r2)
theorem sq_mono {K : PySem.W.Frag} {H H' : Hp} {a : Addr} {xs : List V} (s : Same H H') (h : SqT K H a xs ∨ SqL K H a xs) : SqT K H' a xs ∨ SqL K H' a xs := h.elim (fun z => .inl (sqT_mono s z)) fun z => .inr (s.seq z)
theorem ea_star {e : Expr} {es : List Expr} {f : Mo D} {g : Mo (List D)} {sp : Pos} (h : EV X E e f) (hr : EA X E es g) (hs : starEach (.Starred e sp :: es) X.env = (true, eval e X.env) :: starEach es X.env := by rfl) : EA X E (.Starred e sp :: es) (mStar f g) := by
  obtain ⟨t, p, q⟩ := h
  obtain ⟨t2, p2, q2⟩ := hr
  refine ⟨_, StX.pa_star p p2 hs, fun G ρ σ H Q j h => q G ρ σ H _ j (Post.imp h fun G1 ρ1 x H1 a e1 r1 h1 => ?_)⟩
  have h1' : Post X.K E (RpAll X.K) G1 ρ1 σ H1 Q (mBind (mLift (itemsD a)) (fun ys => mBind g fun xs => mRet (ys ++ xs)) ρ1) := h1
  unfold mBind mLift at h1'
  cases hi : itemsD a with
  | none => rw [hi] at h1'; exact h1'.elim
  | some ys =>
    rw [hi] at h1'
    obtain ⟨p0, xs0, rfl, s0, r0⟩ := r1.items hi
    refine ⟨p0, xs0, rfl, sq_mono e1.j.sub s0, ?_⟩
    refine q2 G1 ρ1 σ H1 _ e1.j (Post.imp (f := fun xs => mRet (ys ++ xs)) h1' fun G2 ρ2 y H2 b e2 r2 h2 => ?_)
    exact h2 G2 _ H2 e2.j.refl ((r0.mono e2.g).append r2)
def sizeOk {α : Type} (xs : List α) : Bool := decide (xs.length ≤ 1000000)
theorem line_of {n : Nat} (h : n ≤ 1000000) : n ≤ sizeLine := Nat.le_trans h (by decide)
def mSized (f : Mo (List D)) : Mo (List D) := mBind f fun ds => mLift (if sizeOk ds = true then some ds else none)
def mTup (f : Mo (List D)) : Mo D := mBind f fun ds => mLift (if sizeOk ds = true then some (.tuple ds) else none)
theorem sized {α : Type} {ds : List α} {β : Type} {b c : β} (h : (if sizeOk ds = true then some b else none) = some c) : ds.length ≤ 1000000 ∧ b = c := by
  split at h
  · rename_i q
    exact ⟨of_decide_eq_true q, Option.some.inj h⟩
  · cases h
theorem ev_tup {es : List Expr} {f : Mo (List D)} {k : Nat} {pos : Pos} (h : EA X E es f) : EV X E (.Tuple es k pos) (mTup f) := by
  obtain ⟨t, p, q⟩ := h
  refine ⟨_, pe_tupP p, fun G ρ σ H Q j h => q G ρ σ H _ j (Post.imp h fun G1 ρ1 xs H1 ds e1 r1 h1 => ?_)⟩
  obtain ⟨c, hc, k⟩ := Post.lift (ρ' := ρ1) h1
  obtain ⟨h3, rfl⟩ := sized hc
  refine ⟨by rw [r1.length]; exact line_of h3, fun p o hp nd => ?_⟩
  have px : PX G1 H1 _ _ := .alloc e1.j.sub hp (.frz o (.tup xs))
  exact k _ _ _ (e1.j.ex px) (.tup (.new nd) (r1.mono px.g))
/-- a new list comes -/
theorem new_list {K : PySem.W.Frag} {G H : Hp} {ρ : En} {σ : St} (j : J K G ρ σ H) {p : Addr} (hp : H p = none) {xs : List V} {ds : List D} (r : RpAll K G xs ds) : Ex K G ρ σ H G ρ σ (upd H p (.lst xs)) := by
  have sh : Same H (upd H p (.lst xs)) := same_upd hp
  refine ⟨⟨j.sub.trans sh, j.len, j.pur, fun i s ds e hl => ?_, j.dis⟩, .refl _, fun b hb => .inl hb, fun b o e _ => sh _ _ e, fun b hb => .inl hb, fun b hb => sh.free hb, fun i ds h => ⟨⟨ds, h⟩, rfl⟩⟩
  obtain ⟨a, vs, h1, h2, h3, h4⟩ := j.own i s ds e hl
  exact ⟨a, vs, h1, sh _ _ h2, h3, h4⟩
theorem Post.impN {K : PySem.W.Frag} {G H : Hp} {ρ : En} {σ : St} {Q : VK} {γ δ : Type} {R' : Hp → δ → γ → Prop} {Q' : δ → Hp → Prop} {m : Mo γ} {f : γ → Mo (List D)} (h : PostN K E G ρ σ H Q (mBind m f ρ))
    (k : ∀ G1 ρ1 v H1 a, Ex K G ρ σ H G1 ρ1 σ H1 → R' G1 v a → PostN K E G1 ρ1 σ H1 Q (f a ρ1) → Q' v H1) : Post K E R' G ρ σ H Q' (m ρ) := by
  unfold mBind at h
  cases q : m ρ with
  | none => rw [q] at h; exact h
  | some r =>
    rw [q] at h
    cases r with
    | error x => exact h
    | ok p =>
      obtain ⟨ρ', a⟩ := p
      refine fun G' v H' z r => k G' ρ' v H' a z r ?_
      have h2 : PostN K E G ρ σ H Q (f a ρ') := h
      match hh : f a ρ', h2 with
      | some (.error x), h2 => exact fun C dx H' y => h2 C dx H' (XP.trans z y)
      | some (.ok (ρ2, ds)), h2 =>
        refine fun G2 v2 H2 y r2 => h2 G2 v2 H2 (z.trans y) ?_
        obtain ⟨a2, vs2, e1, e2, e3, e4, e5, e6⟩ := r2
        exact ⟨a2, vs2, e1, z.dom _ e2, e3, e4, e5, e6⟩
theorem Post.liftN {K : PySem.W.Frag} {G H : Hp} {ρ : En} {σ : St} {Q : VK} {o : Option (List D)} (h : PostN K E G ρ σ H Q (mLift o ρ)) : ∃ a, o = some a ∧ ∀ G' v H', Ex K G ρ σ H G' ρ σ H' → RpN K H H' G' ρ σ v a → Q v H' := by
  cases o with
  | none => exact False.elim h
  | some a => exact ⟨a, rfl, h⟩
theorem J.free {K : PySem.W.Frag} {G H : Hp} {ρ : En} {σ : St} (j : J K G ρ σ H) {p : Addr} (hp : H p = none) : G p = none := j.sub.free hp
theorem J.nown {K : PySem.W.Frag} {G H : Hp} {ρ : En} {σ : St} (j : J K G ρ σ H) {p : Addr} (hp : H p = none) : ¬ Ownd ρ σ p := fun z => by
  obtain ⟨ws, z1, _⟩ := j.ownd z
  rw [hp] at z1; cases z1
theorem en_lst {es : List Expr} {f : Mo (List D)} {pos : Pos} (h : EA X E es f) : EN X E (.List es pos) (mSized f) := by
  obtain ⟨t, p, q⟩ := h
  refine ⟨_, pe_lst p, fun G ρ σ H Q j h => q G ρ σ H _ j (Post.impN h fun G1 ρ1 xs H1 ds e1 r1 h1 => ?_)⟩
  obtain ⟨c, hc, k⟩ := Post.liftN h1
  obtain ⟨h3, rfl⟩ := sized hc
  refine ⟨by rw [r1.length]; exact line_of h3, fun p hp => ?_⟩
  exact k _ _ _ (new_list e1.j hp r1) ⟨p, xs, rfl, hp, e1.j.free hp, upd_same, e1.j.nown hp, r1⟩
/-- a new list, as data -/
def mList (f : Mo (List D)) : Mo D := mBind f fun ds => mRet (.list ds)
/-- from now on it is data: nobody changes it -/
theorem Ex.still {K : PySem.W.Frag} {G H G' H' : Hp} {ρ ρ' : En} {σ : St} (e : Ex K G ρ σ H G' ρ' σ H') {a : Addr} {vs : List V} (h1 : H a = none) (h2 : G' a = none) (h3 : H' a = some (.lst vs)) (no : ¬ Ownd ρ' σ a) : Ex K G ρ σ H (upd G' a (.lst vs)) ρ' σ H' := by
  have sg : Same G' (upd G' a (.lst vs)) := same_upd h2
  refine ⟨⟨fun b o q => ?_, e.j.len, fun i d q => ?_, fun i s es q hl => ?_, e.j.dis⟩, e.g.trans sg, fun b hb => ?_, e.kept, e.ow, e.dom, e.bx⟩
  · by_cases hb : b = a
    · subst hb; rw [upd_same] at q; rw [← q]; exact h3
    · rw [upd_ne hb] at q; exact e.j.sub _ _ q
  · obtain ⟨v, q1, q2⟩ := e.j.pur i d q
    exact ⟨v, q1, q2.mono sg⟩
  · obtain ⟨a', ws, q1, q2, q3, q4⟩ := e.j.own i s es q hl
    have ne : a' ≠ a := fun z => by
      subst z
      exact no ⟨i, s, es, q, hl, q1⟩
    exact ⟨a', ws, q1, q2, by rw [upd_ne ne]; exact q3, q4.mono sg⟩
  · by_cases z : b = a
    · subst z; exact .inr (.inl h1)
    · rw [upd_ne z] at hb; exact e.new b hb
theorem EN.ev {e : Expr} {f : Mo (List D)} (h : EN X E e f) : EV X E e (mList f) := by
  obtain ⟨t, p, q⟩ := h
  refine ⟨t, p, fun G ρ σ H Q j h => q G ρ σ H Q j ?_⟩
  unfold mList mBind at h
  cases hh : f ρ with
  | none => rw [hh] at h; exact h
  | some r =>
    rw [hh] at h
    cases r with
    | error x => exact h
    | ok pr =>
      obtain ⟨ρ', ds⟩ := pr
      intro G' v H' e r
      obtain ⟨a, vs, rfl, h1, h2, h3, no, h4⟩ := r
      exact h (upd G' a (.lst vs)) _ H' (e.still h1 h2 h3 no) (.lst upd_same (h4.mono (same_upd h2)))
def ixD : D → D → Option D
  | .list ds, .int i => atI ds i
  | .tuple ds, .int i => atI ds i
  | .dict [(.none, .list ds)], .int i => atI ds i
  | .str z, .int i => if z.length ≤ 1000000 then (atI z.cps.toList i).map fun c => .str ⟨#[c]⟩ else none
  | _, _ => none
theorem RpAll.atI {K : PySem.W.Frag} {G : Hp} {vs : List V} {ds : List D} {i : Int} {d : D} (r : RpAll K G vs ds) (h : atI ds i = some d) : ∃ v, L2.atI vs i = some v ∧ Rp K G v d := by
  unfold L2.atI at h ⊢
  rw [r.length]
  cases q : ixN ds.length i with
  | none => rw [q] at h; cases h
  | some j =>
    rw [q] at h
    exact r.get h
theorem ix_sem {G H : Hp} {x y : V} {a b c : D} {Q : VK} (s : Same G H) (hx : Rp X.K G x a) (hy : Rp X.K G y b) (h : ixD a b = some c) (k : ∀ v, Rp X.K G v c → Q v H) : rIx X.K x y H Q := by
  cases hy with
  | int i =>
    cases hx with
    | lst h1 h2 =>
      obtain ⟨v, q1, q2⟩ := h2.atI h
      exact .inl ⟨_, _, _, _, rfl, rfl, .of (s _ _ h1), q1, k _ q2⟩
    | tup h1 h2 =>
      obtain ⟨v, q1, q2⟩ := h2.atI h
      exact .inr (.inl ⟨_, _, _, _, rfl, rfl, sqT_mono s h1.t, q1, k _ q2⟩)
    | frz h1 h2 =>
      obtain ⟨v, q1, q2⟩ := h2.atI h
      exact .inl ⟨_, _, _, _, rfl, rfl, s.seq h1, q1, k _ q2⟩
    | str z =>
      have h' : (if z.length ≤ 1000000 then (L2.atI z.cps.toList i).map fun c => PyData.str ⟨#[c]⟩ else none) = some c := h
      split at h'
      · rename_i hz
        cases q : L2.atI z.cps.toList i with
        | none => rw [q] at h'; cases h'
        | some cc =>
          rw [q] at h'
          cases h'
          exact .inr (.inr ⟨_, _, _, rfl, rfl, line_of hz, q, k _ (.str _)⟩)
      · cases h'
    | obj h1 h2 => cases h
    | _ => cases h
  | _ => cases hx <;> cases h
theorem ev_ix {a b : Expr} {pos : Pos} {fa fb : Mo D} (ha : EV X E a fa) (hb : EV X E b fb) (hs : PlainIx b := by exact fun _ _ => rfl) : EV X E (.Subscript a b pos) (mOp ixD fa fb) := by
  obtain ⟨ta, pa, qa⟩ := ha
  obtain ⟨tb, pb, qb⟩ := hb
  refine ⟨_, pe_ix ix_seq pa pb hs, bin_sem (sem := fun _ _ => pure .none) qa qb fun G H x y a b c Q s hx hy h k => ix_sem s hx hy h fun v r => k G v H (.refl s) r⟩
end
end HB
namespace HB
open PySem L2
abbrev Fn := List D → Option (Except Exn D)
def PostF (K : PySem.W.Frag) (E : XK) (G H : Hp) (Q : VK) : Option (Except Exn D) → Prop
  | none => False
  | some (.error x) => ∀ C dx H', XP K G [] [] H x C dx H' → E C dx H'
  | some (.ok d) => ∀ G' v H', PX G H G' H' → Rp K G' v d → Q v H'
def spP (K : PySem.W.Frag) (n : Nat) (F : Fn) : Sp := fun vs H Q E => ∃ G ds, Same G H ∧ RpAll K G vs ds ∧ ds.length = n ∧ PostF K E G H Q (F ds)
/-- the function that stands at f -/
def IsFd (K : PySem.W.Frag) (f : Addr) (fd : FuncData) : Prop := ∃ oc od osl, K.lookup f = some ⟨oc, od, .func fd, osl⟩
theorem IsFd.one {K : PySem.W.Frag} {f : Addr} {fd fd' : FuncData} (a : IsFd K f fd) (b : IsFd K f fd') : fd' = fd := by
  obtain ⟨_, _, _, a⟩ := a
  obtain ⟨_, _, _, b⟩ := b
  have e := Option.some.inj (a.symm.trans b)
  injection e with _ _ e _
  injection e with e
  exact e.symm
/-- a def of the module and what it is worth -/
structure FnE (P : Program) (w : World) (K : PySem.W.Frag) (mg : Str → Option Value) (base : Heap) (k : Nat) (x : Str) (ps : List Str) (F : Fn) : Prop where
  ex : ∃ fd, FnOk P w K mg base (L2.CX P w) k (He.ga K x) fd ps (spP K ps.length F) ∧ Binds K fd ps []
  kp : PySem.W.keepIn K (.ref (He.ga K x)) = true
  gl : mg x = some (.ref (He.ga K x))
  ln : ∀ ds, F ds ≠ none → ds.length = ps.length
  at_ : ∀ fd, IsFd K (He.ga K x) fd → FnOk P w K mg base (L2.CX P w) k (He.ga K x) fd ps (spP K ps.length F)
def mCall (F : Fn) (a : Mo (List D)) : Mo D := mBind a fun ds ρ => match F ds with
  | none => none
  | some (.error x) => some (.error x)
  | some (.ok d) => some (.ok (ρ, d))
theorem XP.of0 {K : PySem.W.Frag} {G H : Hp} {ρ : En} {σ : St} {x : Exn} {C : Value} {dx : Option Addr} {H' : Hp} (h : XP K G [] [] H x C dx H') : XP K G ρ σ H x C dx H' := by
  obtain ⟨h1, G', h2, h3, h4, h5, h6, h7⟩ := h
  have no : ∀ b, ¬ Ownd [] [] b := fun b ⟨i, s, ds, z, _⟩ => by simp at z
  refine ⟨h1, G', h2, h3, fun b hb => ?_, fun b o q _ => h5 b o q (no b), h6, h7⟩
  rcases h4 b hb with z | z | z
  · exact .inl z
  · exact .inr (.inl z)
  · exact absurd z (no b)
section
variable {X : Cx} {E : XK}
theorem call_sem {F : Fn} {n : Nat} {t : TA} {f : Mo (List D)} (q : ∀ G ρ σ H Q, J X.K G ρ σ H → Post X.K E (RpAll X.K) G ρ σ H Q (f ρ) → t σ H Q) (hl : ∀ ds, F ds ≠ none → ds.length = n) :
    ∀ G ρ σ H Q, J X.K G ρ σ H → Post X.K E (Rp X.K) G ρ σ H Q (mCall F f ρ) → tCall (spP X.K n F) [] E t σ H Q := by
  intro G ρ σ H Q j h
  refine q G ρ σ H _ j (Post.imp h fun G1 ρ1 vs H1 ds e1 r1 h1 => ?_)
  show spP X.K n F (vs ++ []) H1 Q E
  rw [List.append_nil]
  have h1' : Post X.K E (Rp X.K) G1 ρ1 σ H1 Q (match F ds with
    | none => none
    | some (.error x) => some (.error x)
    | some (.ok d) => some (.ok (ρ1, d))) := h1
  cases hF : F ds with
  | none => rw [hF] at h1'; exact h1'.elim
  | some r =>
    refine ⟨G1, ds, e1.j.sub, r1, hl ds (by rw [hF]; simp), ?_⟩
    rw [hF] at h1' ⊢
    cases r with
    | error x => exact fun C dx H' z => h1' C dx H' z.of0
    | ok d => exact fun G' v H' p r => h1' G' v H' (e1.j.ex p) r
theorem ev_call {k : Nat} {x : Str} {ps : List Str} {F : Fn} {p pos : Pos} {e : Expr} {es : List Expr} {f : Mo (List D)} (hF : FnE X.prog X.w X.K X.mg X.base k x ps F) (hr : Room k X.A) (hx : Passes (L2.CX X.prog X.w) X E)
    (ha : EA X E (e :: es) f) (hg : Gl X x := by rfl) (hdb : (x == ("__debug__" : Str)) = false := by decide) (he : starEach (e :: es) X.env = (false, eval e X.env) :: starEach es X.env := by rfl)
    (hpl : (backTo pos (starEach es X.env)).any (·.1) = false := by rfl) : EV X E (.Call (.Name x p) (e :: es) [] pos) (mCall F f) := by
  obtain ⟨⟨fd, h1, h2⟩, kp, gl, hl⟩ := hF
  obtain ⟨t, pt, q⟩ := ha
  exact ⟨_, pe_call h1 hr hg gl kp h2 .nil hx pt hdb he hpl, call_sem q hl⟩
theorem ev_call0 {k : Nat} {x : Str} {F : Fn} {p pos : Pos} (hF : FnE X.prog X.w X.K X.mg X.base k x [] F) (hr : Room k X.A) (hx : Passes (L2.CX X.prog X.w) X E)
    (hg : Gl X x := by rfl) (hdb : (x == ("__debug__" : Str)) = false := by decide) : EV X E (.Call (.Name x p) [] [] pos) (mCall F mNil) := by
  obtain ⟨⟨fd, h1, h2⟩, kp, gl, hl⟩ := hF
  exact ⟨_, pe_call0 h1 hr hg gl kp h2 .nil hx hdb, call_sem (fun G ρ σ H Q j h => h G _ H j.refl .nil) hl⟩
def DCall (X : Cx) (fv : Value) (f : List D → Option D) : Prop := ∃ r, CallR X fv r ∧ ∀ G H xs ds c Q, Same G H → RpAll X.K G xs ds → f ds = some c → (∀ G' v H', PX G H G' H' → Rp X.K G' v c → Q v H') → r xs H Q
def mBuilt (f : List D → Option D) (a : Mo (List D)) : Mo D := mBind a fun ds => mLift (f ds)
theorem built_sem {t : TA} {g : Mo (List D)} {r : List V → Hp → VK → Prop} {f : List D → Option D} (q : ∀ G ρ σ H Q, J X.K G ρ σ H → Post X.K E (RpAll X.K) G ρ σ H Q (g ρ) → t σ H Q)
    (hr : ∀ G H xs ds c Q, Same G H → RpAll X.K G xs ds → f ds = some c → (∀ G' v H', PX G H G' H' → Rp X.K G' v c → Q v H') → r xs H Q) :
    ∀ G ρ σ H Q, J X.K G ρ σ H → Post X.K E (Rp X.K) G ρ σ H Q (mBuilt f g ρ) → tCB r t σ H Q := by
  intro G ρ σ H Q j h
  refine q G ρ σ H _ j (Post.imp h fun G1 ρ1 vs H1 ds e1 r1 h1 => ?_)
  obtain ⟨c, hc, k⟩ := Post.lift (ρ' := ρ1) h1
  exact hr G1 H1 vs ds c Q e1.j.sub r1 hc fun G' v H' p q => k G' v H' (e1.j.ex p) q
theorem ev_callB {id : String} {f : List D → Option D} {x : Str} {p pos : Pos} {e : Expr} {es : List Expr} {g : Mo (List D)} (hc : DCall X (.builtin id) f) (hm : X.mg x = none) (hv : bootBuiltins x = some (.builtin id)) (ha : EA X E (e :: es) g) (hg : Gl X x := by rfl)
    (hn : x ≠ "__name__" := by decide) (hdb : (x == ("__debug__" : Str)) = false := by decide) (he : starEach (e :: es) X.env = (false, eval e X.env) :: starEach es X.env := by rfl) (hpl : (backTo pos (starEach es X.env)).any (·.1) = false := by rfl) : EV X E (.Call (.Name x p) (e :: es) [] pos) (mBuilt f g) := by
  obtain ⟨r, h1, h2⟩ := hc
  obtain ⟨t, pt, q⟩ := ha
  exact ⟨_, pe_callB h1 hg hm hv pt hn hdb he hpl, built_sem q h2⟩
theorem ev_callTy {T : String} {f : List D → Option D} {x : Str} {p pos : Pos} {e : Expr} {es : List Expr} {g : Mo (List D)} (hc : DCall X (.type T) f) (hm : X.mg x = none) (hv : bootBuiltins x = some (.type T)) (ha : EA X E (e :: es) g) (hg : Gl X x := by rfl)
    (hn : x ≠ "__name__" := by decide) (hdb : (x == ("__debug__" : Str)) = false := by decide) (he : starEach (e :: es) X.env = (false, eval e X.env) :: starEach es X.env := by rfl) (hpl : (backTo pos (starEach es X.env)).any (·.1) = false := by rfl) : EV X E (.Call (.Name x p) (e :: es) [] pos) (mBuilt f g) := by
  obtain ⟨r, h1, h2⟩ := hc
  obtain ⟨t, pt, q⟩ := ha
  exact ⟨_, pe_callTy h1 hg hm hv pt hn hdb he hpl, built_sem q h2⟩
def sNext : Mo Fl := mRet .nx
def sSeq (a b : Mo Fl) : Mo Fl := mBind a fun f => match f with
  | .nx => b
  | .rt d => mRet (.rt d)
  | .bk => mRet .bk
  | .ct => mRet .ct
theorem ss_nil : SVs X E [] sNext := ⟨_, pss_nil, fun G ρ σ H De j h => h G σ H j.refl⟩
theorem PostS.seq {K : PySem.W.Frag} {G H : Hp} {ρ : En} {σ : St} {De : Ends} {a b : Mo Fl} {u : TS} (h : PostS K E G ρ σ H De (sSeq a b ρ)) (k : ∀ G1 ρ1 σ1 H1, J K G1 ρ1 σ1 H1 → PostS K E G1 ρ1 σ1 H1 De (b ρ1) → u De σ1 H1) : PostS K E G ρ σ H { De with nx := u De } (a ρ) := by
  unfold sSeq mBind at h
  cases q : a ρ with
  | none => rw [q] at h; exact h
  | some r =>
    rw [q] at h
    cases r with
    | error x => exact h
    | ok p =>
      obtain ⟨ρ', f⟩ := p
      cases f with
      | nx => exact fun G' σ' H' z => k G' ρ' σ' H' z.j (PostS.ex z h)
      | rt d => exact h
      | bk => exact h
      | ct => exact h
theorem ss_cons {s : Stmt} {rest : List Stmt} {a b : Mo Fl} (h1 : SV X E s a) (h2 : SVs X E rest b) : SVs X E (s :: rest) (sSeq a b) := by
  obtain ⟨t, p, q⟩ := h1
  obtain ⟨u, p2, q2⟩ := h2
  exact ⟨_, pss_cons p p2, fun G ρ σ H De j h => q G ρ σ H _ j (PostS.seq h fun G1 ρ1 σ1 H1 j1 k => q2 G1 ρ1 σ1 H1 De j1 k)⟩
theorem ss_one {s : Stmt} {a : Mo Fl} (h1 : SV X E s a) : SVs X E [s] a := let ⟨t, p, q⟩ := h1; ⟨t, pss_one p, q⟩
def sNever : Mo Fl := fun _ => none
theorem s_never {s : Stmt} : SV X E s sNever := ⟨_, ps_never, fun _ _ _ _ _ _ h => h.elim⟩
theorem ss_never {s : List Stmt} : SVs X E s sNever := ⟨_, pss_never, fun _ _ _ _ _ _ h => h.elim⟩
theorem s_pass {pos : Pos} : SV X E (.Pass pos) sNext := ⟨_, ps_pass, fun G ρ σ H De j h => h G σ H j.refl⟩
theorem s_break {pos : Pos} : SV X E (.Break pos) (mRet .bk) := ⟨_, ps_break, fun G ρ σ H De j h => h G σ H j.refl⟩
theorem s_continue {pos : Pos} : SV X E (.Continue pos) (mRet .ct) := ⟨_, ps_continue, fun G ρ σ H De j h => h G σ H j.refl⟩
def sRet (f : Mo D) : Mo Fl := mBind f fun d => mRet (.rt d)
theorem s_ret {e : Expr} {f : Mo D} {pos : Pos} (h : EV X E e f) : SV X E (.Return (some e) pos) (sRet f) := by
  obtain ⟨t, p, q⟩ := h
  exact ⟨_, ps_ret p, fun G ρ σ H De j h => q G ρ σ H _ j (PostS.imp h fun G1 ρ1 v H1 a e1 r1 h1 => h1 G1 σ v H1 e1.j.refl r1)⟩
def sDrop (f : Mo D) : Mo Fl := mBind f fun _ => mRet .nx
theorem s_expr {e : Expr} {f : Mo D} {pos : Pos} (h : EV X E e f) (hs : swapsWith e none pos.line X.env = pure false := by rfl) : SV X E (.Expr e pos) (sDrop f) := by
  obtain ⟨t, p, q⟩ := h
  exact ⟨_, ps_expr p hs, fun G ρ σ H De j h => q G ρ σ H _ j (PostS.imp h fun G1 ρ1 v H1 a e1 r1 h1 => h1 G1 σ H1 e1.j.refl)⟩
def sIf (c : Mo Bool) (a b : Mo Fl) : Mo Fl := mBind c fun c => match c with
  | true => a
  | false => b
theorem s_if {c : Expr} {a b : List Stmt} {pos : Pos} {fc : Mo Bool} {fa fb : Mo Fl} (hc : ET X E c fc) (ha : SVs X E a fa) (hb : SVs X E b fb) : SV X E (.If c a b pos) (sIf fc fa fb) := by
  obtain ⟨t, p, q⟩ := hc
  obtain ⟨ta, pa, qa⟩ := ha
  obtain ⟨tb, pb, qb⟩ := hb
  refine ⟨_, ps_if p pa pb, fun G ρ σ H De j h => q G ρ σ H _ j (PostS.imp h fun G1 ρ1 x H1 a e1 r1 h1 => ?_)⟩
  subst r1
  cases x with
  | true => exact (qa G1 ρ1 σ H1 De e1.j h1 : _)
  | false => exact (qb G1 ρ1 σ H1 De e1.j h1 : _)
theorem getElem?_set_cases {α : Type} {l : List α} {i k : Nat} {a b : α} (h : (l.set i a)[k]? = some b) : (k = i ∧ b = a) ∨ (k ≠ i ∧ l[k]? = some b) := by
  by_cases hk : k = i
  · subst hk
    by_cases hl : k < l.length
    · rw [List.getElem?_set_self hl] at h
      exact .inl ⟨rfl, (Option.some.inj h).symm⟩
    · rw [List.getElem?_eq_none (by rw [List.length_set]; omega)] at h
      cases h
  · rw [List.getElem?_set_ne (Ne.symm hk)] at h
    exact .inr ⟨hk, h⟩
theorem Ex.set {K : PySem.W.Frag} {G H : Hp} {ρ : En} {σ : St} (j : J K G ρ σ H) (i : Nat) {v : V} {d : D} (r : Rp K G v d) : Ex K G ρ σ H G (ρ.set i (.pur d)) (σ.set i (some v)) H := by
  have hn : ∀ (k : Nat) (s : Sl) (es : List D), (ρ.set i (.pur d))[k]? = some s → s.ls = some es → k ≠ i ∧ ρ[k]? = some s ∧ (σ.set i (some v))[k]? = σ[k]? := fun k s es q hl => by
    rcases getElem?_set_cases q with ⟨_, z⟩ | ⟨z, q'⟩
    · subst z; cases hl
    · exact ⟨z, q', List.getElem?_set_ne (Ne.symm z)⟩
  refine ⟨⟨j.sub, by rw [List.length_set, List.length_set]; exact j.len, fun k e q => ?_, fun k s es q hl => ?_, fun k l s t es fs b q1 l1 q2 l2 q3 q4 => ?_⟩, .refl _, fun b hb => .inl hb, fun b o q _ => q, fun b hb => ?_, fun _ z => z, fun k es q => ?_⟩
  · rcases getElem?_set_cases q with ⟨rfl, z⟩ | ⟨z, q'⟩
    · cases z
      have hl : k < ρ.length := by
        have := (List.getElem?_eq_some_iff.mp q).1
        rw [List.length_set] at this
        exact this
      exact ⟨v, List.getElem?_set_self (by rw [← j.len]; exact hl), r⟩
    · obtain ⟨u, h1, h2⟩ := j.pur k e q'
      exact ⟨u, by rw [List.getElem?_set_ne (Ne.symm z)]; exact h1, h2⟩
  · obtain ⟨z, q', e⟩ := hn k s es q hl
    rw [e]
    exact j.own k s es q' hl
  · obtain ⟨z1, q1', e1⟩ := hn k s es q1 l1
    obtain ⟨z2, q2', e2⟩ := hn l t fs q2 l2
    rw [e1] at q3
    rw [e2] at q4
    exact j.dis k l s t es fs b q1' l1 q2' l2 q3 q4
  · obtain ⟨k, s, es, q1, hl, q2⟩ := hb
    obtain ⟨z, q', e⟩ := hn k s es q1 hl
    rw [e] at q2
    exact .inl ⟨k, s, es, q', hl, q2⟩
  · obtain ⟨z, q', e⟩ := hn k _ es q rfl
    exact ⟨⟨es, q'⟩, e⟩
theorem Ex.setOwn {K : PySem.W.Frag} {G H G' H' : Hp} {ρ ρ' : En} {σ σ' : St} (e : Ex K G ρ σ H G' ρ' σ' H') (i : Nat) {v : V} {ds : List D} (r : RpN K H H' G' ρ' σ' v ds) : Ex K G ρ σ H G' (ρ'.set i (.own ds)) (σ'.set i (some v)) H' := by
  obtain ⟨a, vs, rfl, h1, h2, h3, no, h4⟩ := r
  have j := e.j
  have hn : ∀ (k : Nat) (s : Sl) (es : List D), (ρ'.set i (.own ds))[k]? = some s → s.ls = some es → (k = i ∧ es = ds ∧ s = .own ds ∧ (σ'.set i (some (.ref a)))[k]? = some (some (.ref a))) ∨ (k ≠ i ∧ ρ'[k]? = some s ∧ (σ'.set i (some (.ref a)))[k]? = σ'[k]?) := fun k s es q hl => by
    rcases getElem?_set_cases q with ⟨z1, z⟩ | ⟨z, q'⟩
    · subst z1
      subst z
      cases hl
      have hl : k < ρ'.length := by
        have := (List.getElem?_eq_some_iff.mp q).1
        rw [List.length_set] at this
        exact this
      exact .inl ⟨rfl, rfl, rfl, List.getElem?_set_self (by rw [← j.len]; exact hl)⟩
    · exact .inr ⟨z, q', List.getElem?_set_ne (Ne.symm z)⟩
  refine ⟨⟨j.sub, by rw [List.length_set, List.length_set]; exact j.len, fun k f q => ?_, fun k s es q hl => ?_, fun k l s t es fs b q1 l1 q2 l2 q3 q4 => ?_⟩, e.g, e.new, e.kept, fun b hb => ?_, e.dom, fun k es q => ?_⟩
  · rcases getElem?_set_cases q with ⟨rfl, z⟩ | ⟨z, q'⟩
    · cases z
    · obtain ⟨u, g1, g2⟩ := j.pur k f q'
      exact ⟨u, by rw [List.getElem?_set_ne (Ne.symm z)]; exact g1, g2⟩
  · rcases hn k s es q hl with ⟨rfl, rfl, _, z⟩ | ⟨z, q', e2⟩
    · exact ⟨a, vs, z, h3, h2, h4⟩
    · rw [e2]
      exact j.own k s es q' hl
  · rcases hn k s es q1 l1 with ⟨rfl, rfl, _, z⟩ | ⟨z, q1', e1⟩
    · rw [z] at q3
      cases q3
      rcases hn l t fs q2 l2 with ⟨rfl, rfl, _, z⟩ | ⟨z, q2', e2⟩
      · rfl
      · rw [e2] at q4
        exact absurd ⟨l, t, fs, q2', l2, q4⟩ no
    · rcases hn l t fs q2 l2 with ⟨rfl, rfl, _, z⟩ | ⟨z, q2', e2⟩
      · rw [z] at q4
        cases q4
        rw [e1] at q3
        exact absurd ⟨k, s, es, q1', l1, q3⟩ no
      · rw [e1] at q3
        rw [e2] at q4
        exact j.dis k l s t es fs b q1' l1 q2' l2 q3 q4
  · obtain ⟨k, s, es, q1, hl, q2⟩ := hb
    rcases hn k s es q1 hl with ⟨rfl, rfl, _, z⟩ | ⟨z, q', e2⟩
    · rw [z] at q2
      cases q2
      exact .inr h1
    · rw [e2] at q2
      exact e.ow b ⟨k, s, es, q', hl, q2⟩
  · rcases hn k _ es q rfl with ⟨_, _, z, _⟩ | ⟨z, q', e2⟩
    · cases z
    · obtain ⟨w1, w2⟩ := e.bx k es q'
      exact ⟨w1, e2.trans w2⟩
def setSl (i : Nat) (s : Sl) : Mo Fl := fun ρ => some (.ok (ρ.set i s, .nx))
def sSet (i : Nat) (f : Mo D) : Mo Fl := mBind f fun d => setSl i (.pur d)
def sOwn (i : Nat) (f : Mo (List D)) : Mo Fl := mBind f fun ds => setSl i (.own ds)
theorem s_set {i : Nat} {x : Str} {e : Expr} {f : Mo D} {pos pos' : Pos} (h : EV X E e f) (hN : X.N.Nodup) (hi : X.N[i]? = some x := by rfl) (hx : Loc X.env.scope x := by first | exact Or.inl rfl | exact Or.inr rfl)
    (hs : swapsWith e (some (.Name x pos')) pos.line X.env = pure false := by rfl) (hf : X.fn x = true ∨ X.env.scope.names.lookup x = some .local := by first | exact .inl rfl | exact .inr rfl | assumption) : SV X E (.Assign [.Name x pos'] e pos) (sSet i f) := by
  obtain ⟨t, p, q⟩ := h
  refine ⟨_, ps_set hN hi hx p hs hf, fun G ρ σ H De j h => q G ρ σ H _ j (PostS.imp h fun G1 ρ1 v H1 a e1 r1 h1 => ?_)⟩
  exact h1 G1 _ H1 (Ex.set e1.j i r1)
theorem s_own {i : Nat} {x : Str} {e : Expr} {f : Mo (List D)} {pos pos' : Pos} (h : EN X E e f) (hN : X.N.Nodup) (hi : X.N[i]? = some x := by rfl) (hx : Loc X.env.scope x := by first | exact Or.inl rfl | exact Or.inr rfl)
    (hs : swapsWith e (some (.Name x pos')) pos.line X.env = pure false := by rfl) (hf : X.fn x = true ∨ X.env.scope.names.lookup x = some .local := by first | exact .inl rfl | exact .inr rfl | assumption) : SV X E (.Assign [.Name x pos'] e pos) (sOwn i f) := by
  obtain ⟨t, p, q⟩ := h
  refine ⟨_, ps_set hN hi hx p hs hf, fun G ρ σ H De j h => q G ρ σ H _ j ?_⟩
  unfold sOwn mBind at h
  cases hh : f ρ with
  | none => rw [hh] at h; exact h
  | some r =>
    rw [hh] at h
    cases r with
    | error x => exact h
    | ok pr =>
      obtain ⟨ρ', ds⟩ := pr
      exact fun G' v H' e r => h G' _ H' (e.setOwn i r)
/-- the end of a def's body -/
def runF (n : Nat) (g : Mo Fl) : Fn := fun ds => match g (ds.map Sl.pur ++ List.replicate (n - ds.length) Sl.no) with
  | none => none
  | some (.error x) => some (.error x)
  | some (.ok (_, .nx)) => some (.ok .none)
  | some (.ok (_, .rt d)) => some (.ok d)
  | some (.ok (_, _)) => none
def guard (n : Nat) (F : Fn) : Fn := fun ds => match Nat.beq ds.length n with
  | true => F ds
  | false => none
end
end HB
namespace HB
open PySem L2
theorem start_no {N : List Str} {ds : List D} {σ : St} {b : Addr} : ¬ Ownd (ds.map Sl.pur ++ List.replicate (N.length - ds.length) Sl.no) σ b := by
  rintro ⟨i, s, es, h, hl, _⟩
  rw [List.getElem?_append] at h
  split at h
  · rw [List.getElem?_map] at h
    cases q : ds[i]? with
    | none => rw [q] at h; cases h
    | some d => rw [q] at h; cases h; cases hl
  · rw [List.getElem?_replicate] at h
    split at h
    · cases h; cases hl
    · cases h
theorem start_j {K : PySem.W.Frag} {G H : Hp} {N : List Str} {vs : List V} {ds : List D} (s : Same G H) (r : RpAll K G vs ds) : J K G (ds.map Sl.pur ++ List.replicate (N.length - ds.length) Sl.no) (start N vs) H := by
  have hl := r.length
  refine ⟨s, ?_, fun i d h => ?_, fun i s es h hl => absurd hl ?_, fun i k s t ds' es b h hl _ _ _ _ => absurd hl ?_⟩
  · unfold L2.start
    simp only [List.length_append, List.length_map, List.length_replicate]
    omega
  · rw [List.getElem?_append] at h
    split at h
    · rename_i hi
      rw [List.length_map] at hi
      rw [List.getElem?_map] at h
      cases q : ds[i]? with
      | none => rw [q] at h; cases h
      | some e =>
        rw [q] at h
        cases h
        obtain ⟨v, h1, h2⟩ := r.get q
        refine ⟨v, ?_, h2⟩
        unfold L2.start
        rw [List.getElem?_append_left (by rw [List.length_map, hl]; exact hi), List.getElem?_map, h1]
        rfl
    · rw [List.getElem?_replicate] at h
      split at h <;> cases h
  · intro hl
    rw [List.getElem?_append] at h
    split at h
    · rw [List.getElem?_map] at h
      cases q : ds[i]? with
      | none => rw [q] at h; cases h
      | some d => rw [q] at h; cases h; cases hl
    · rw [List.getElem?_replicate] at h
      split at h
      · cases h; cases hl
      · cases h
  · intro hl
    rw [List.getElem?_append] at h
    split at h
    · rw [List.getElem?_map] at h
      cases q : ds[i]? with
      | none => rw [q] at h; cases h
      | some d => rw [q] at h; cases h; cases hl
    · rw [List.getElem?_replicate] at h
      split at h
      · cases h; cases hl
      · cases h
theorem Ex.px {K : PySem.W.Frag} {G H G' H' : Hp} {ρ ρ' : En} {σ σ' : St} (e : Ex K G ρ σ H G' ρ' σ' H') (no : ∀ b, ¬ Ownd ρ σ b) : PX G H G' H' :=
  ⟨fun b o q => e.kept b o q (no b), e.g, e.j.sub, fun b hb => (e.new b hb).elim .inl fun z => z.elim .inr fun z => absurd z (no b)⟩
theorem XP.to0 {K : PySem.W.Frag} {G H : Hp} {ρ : En} {σ : St} {x : Exn} {C : Value} {dx : Option Addr} {H' : Hp} (no : ∀ b, ¬ Ownd ρ σ b) (h : XP K G ρ σ H x C dx H') : XP K G [] [] H x C dx H' := by
  obtain ⟨h1, G', h2, h3, h4, h5, h6, h7⟩ := h
  refine ⟨h1, G', h2, h3, fun b hb => ?_, fun b o q _ => h5 b o q (no b), h6, h7⟩
  rcases h4 b hb with z | z | z
  · exact .inl z
  · exact .inr (.inl z)
  · exact absurd z (no b)
theorem guard_len {n : Nat} {F : Fn} {ds : List D} (h : guard n F ds ≠ none) : ds.length = n := by
  unfold guard at h
  cases q : Nat.beq ds.length n with
  | true => exact Nat.eq_of_beq_eq_true q
  | false => rw [q] at h; exact absurd rfl h
theorem guard_eq {n : Nat} {F : Fn} {ds : List D} (h : ds.length = n) : guard n F ds = F ds := by
  unfold guard
  subst h
  have e : Nat.beq ds.length ds.length = true := Nat.beq_refl _
  rw [e]
theorem body_sem {K : PySem.W.Frag} {E : XK} {N : List Str} {g : Mo Fl} {t : TS} {n : Nat} (q : ∀ G ρ σ H De, J K G ρ σ H → PostS K E G ρ σ H De (g ρ) → t De σ H) {vs : List V} {H : Hp} {Q : VK} (h : spP K n (guard n (runF N.length g)) vs H Q E) :
    t { nx := fun _ H' => Q .non H', rt := Q } (start N vs) H := by
  obtain ⟨G, ds, s, r, hl, k⟩ := h
  rw [guard_eq hl] at k
  refine q G _ _ H _ (start_j s r) ?_
  have no : ∀ b, ¬ Ownd (ds.map Sl.pur ++ List.replicate (N.length - ds.length) Sl.no) (start N vs) b := fun b => start_no
  unfold runF at k
  cases e : g (ds.map Sl.pur ++ List.replicate (N.length - ds.length) Sl.no) with
  | none => rw [e] at k; exact k.elim
  | some o =>
    rw [e] at k
    cases o with
    | error x => exact fun C dx H' z => k C dx H' (z.to0 no)
    | ok p =>
      obtain ⟨ρ', f⟩ := p
      cases f with
      | nx => exact fun G' σ' H' z => k G' .non H' (z.px no) .non
      | rt d => exact fun G' σ' v H' z r => k G' v H' (z.px no) r
      | bk => exact k.elim
      | ct => exact k.elim
theorem pass_cx {P : Program} {w : World} {K : PySem.W.Frag} {mg : Str → Option Value} {base : Heap} {N : List Str} {qual : Str} {scope : Scope} {f : Addr} {cd : Value} {A : Around} {outer : List PySem.Env} {s : Shared} {H : Hp} {E : XK} :
    Passes (L2.CX P w) (cxOf (L2.CX P w) P w K mg base N qual scope f cd A outer s H E) E := passes_call (takes_of rfl rfl rfl rfl) fun _ _ _ _ h => h
theorem fn_ok {P : Program} {w : World} {K : PySem.W.Frag} {mg : Str → Option Value} {base : Heap} {x : Str} {st : Stmt} {fd : FuncData} {N ps : List Str} {k : Nat} {g : Mo Fl} (F : FunD K x x (defArgs st) (defBody st) (defScope st) [] [] (He.ga K x) fd) (S : FnScope N ps (defScope st)) (gl : mg x = some (.ref (He.ga K x)))
    (b : ∀ (kV doc pm : Value) (an : Option Addr) (cdv ct : Value) (us : List Value), us.length = ps.length → bindArgs (PySem.W.fnOf x x (defArgs st) (defBody st) (defScope st) .none kV doc pm an cdv ct) ⟨us, []⟩ = pure (ps.zip us))
    (hb : ∀ (cdv : Value) (A : Around) (outer : List PySem.Env) (s : Shared) (H : Hp) (E : XK), Room k (A.deeper (PyProof.Rows.envOfC x (defScope st) s.heap.objs.size (He.ga K x) cdv)) → SVs (cxOf (L2.CX P w) P w K mg base N x (defScope st) (He.ga K x) cdv A outer s H E) E (defBody st) g) :
    FnE P w K mg base (k + 1) x ps (guard ps.length (runF N.length g)) := by
  have ok : FnOk P w K mg base (L2.CX P w) (k + 1) (He.ga K x) fd ps (spP K ps.length (guard ps.length (runF N.length g))) := by
    refine F.ok S (fun vs H Q E h => ?_) fun cdv A outer s H vs Q E hr h => ?_
    · obtain ⟨G, ds, _, r, hl, _⟩ := h
      rw [r.length, hl]
    · obtain ⟨t, p, q⟩ := hb cdv A outer s H E hr
      exact ⟨t, p, body_sem q h⟩
  have here : IsFd K (He.ga K x) fd := let ⟨oc, od, _, _, _, _, _, _, _, osl, _, lk, _⟩ := F.ex; ⟨oc, od, osl, lk⟩
  exact ⟨⟨fd, ok, F.bindsN b⟩, F.kp, gl, fun ds h => guard_len h, fun fd' h => here.one h ▸ ok⟩
/-- the same def by another reckoning -/
theorem FnE.by {P : Program} {w : World} {K : PySem.W.Frag} {mg : Str → Option Value} {base : Heap} {k : Nat} {x : Str} {ps : List Str} {F F' : Fn} (h : FnE P w K mg base k x ps F) (e : ∀ ds r, F' ds = some r → F ds = some r) : FnE P w K mg base k x ps F' := by
  obtain ⟨⟨fd, h1, h2⟩, kp, gl, hl, h3⟩ := h
  have weaker : ∀ vs H Q E, spP K ps.length F' vs H Q E → spP K ps.length F vs H Q E := fun vs H Q E q => by
    obtain ⟨G, ds, s, r, l, z⟩ := q
    refine ⟨G, ds, s, r, l, ?_⟩
    cases e1 : F' ds with
    | none => rw [e1] at z; exact z.elim
    | some o => rw [e ds o e1]; rw [e1] at z; exact z
  refine ⟨⟨fd, h1.imp weaker, h2⟩, kp, gl, fun ds q => ?_, fun fd' h => (h3 fd' h).imp weaker⟩
  · cases e1 : F' ds with
    | none => exact absurd e1 q
    | some o => exact hl ds (by rw [e ds o e1]; simp)
section
variable {X : Cx}
def addD : D → D → Option D
  | .int i, .int j => some (.int (i + j))
  | .str x, .str y => if x.length + y.length ≤ 1000000 then some (.str (x ++ y)) else none
  | .tuple xs, .tuple ys => if xs.length + ys.length ≤ 1000000 then some (.tuple (xs ++ ys)) else none
  | .list xs, .list ys => if xs.length + ys.length ≤ 1000000 then some (.list (xs ++ ys)) else none
  | _, _ => none
theorem ite_some {c : Prop} [Decidable c] {α : Type} {a b : α} (h : (if c then some a else none) = some b) : c ∧ a = b := by
  split at h
  · rename_i q
    exact ⟨q, Option.some.inj h⟩
  · cases h
theorem dop_add : DOp X (binaryOp .Add) addD := by
  refine ⟨_, op_add.or (op_add_str.or ((op_catP.or op_cat0).or op_cat)), fun G H x y a b c Q s hx hy h k => ?_⟩
  cases hx with
  | int i => cases hy with
    | int j => cases h; exact .inl ⟨i, j, rfl, rfl, k G _ H (.refl s) (.int _)⟩
    | _ => cases h
  | str z => cases hy with
    | str z' =>
      obtain ⟨h1, rfl⟩ := ite_some (show (if z.length + z'.length ≤ 1000000 then some (PyData.str (z ++ z')) else none) = some c from h)
      exact .inr (.inl ⟨z, z', rfl, rfl, line_of h1, k G _ H (.refl s) (.str _)⟩)
    | _ => cases h
  | @tup a xs ds h1 h2 => cases hy with
    | @tup a' ys es h3 h4 =>
      obtain ⟨hz, rfl⟩ := ite_some (show (if ds.length + es.length ≤ 1000000 then some (PyData.tuple (ds ++ es)) else none) = some c from h)
      have l1 := h2.length
      have l2 := h4.length
      have lz : xs.length + ys.length ≤ sizeLine := by rw [l1, l2]; exact line_of hz
      by_cases ex : xs = []
      · refine .inr (.inr (.inl (.inr ⟨a, a', xs, ys, rfl, rfl, sqT_mono s h1.t, sqT_mono s h3.t, lz, .inl ⟨ex, ?_⟩⟩)))
        subst ex
        cases h2
        exact k G _ H (.refl s) (.tup h3 h4)
      · by_cases ey : ys = []
        · refine .inr (.inr (.inl (.inr ⟨a, a', xs, ys, rfl, rfl, sqT_mono s h1.t, sqT_mono s h3.t, lz, .inr ⟨ex, ey, ?_⟩⟩)))
          subst ey
          cases h4
          exact k G _ H (.refl s) (by rw [List.append_nil]; exact .tup h1 h2)
        · refine .inr (.inr (.inl (.inl ⟨a, a', xs, ys, rfl, rfl, sqT_mono s h1.t, sqT_mono s h3.t, ex, ey, lz, fun p o hp nd => ?_⟩)))
          have px : PX G H _ _ := .alloc s hp (.frz o (.tup (xs ++ ys)))
          exact k _ _ _ px (.tup (.new nd) ((h2.append h4).mono px.g))
    | _ => cases h
  | @lst a xs ds h1 h2 => cases hy with
    | @lst a' ys es h3 h4 =>
      obtain ⟨hz, rfl⟩ := ite_some (show (if ds.length + es.length ≤ 1000000 then some (PyData.list (ds ++ es)) else none) = some c from h)
      refine .inr (.inr (.inr ⟨a, a', xs, ys, rfl, rfl, s _ _ h1, s _ _ h3, by rw [h2.length, h4.length]; exact line_of hz, fun p hp => ?_⟩))
      have px : PX G H _ _ := .alloc s hp (.lst (xs ++ ys))
      exact k _ _ _ px (.lst upd_same ((h2.append h4).mono px.g))
    | _ => cases h
  | obj h1 h2 => cases h
  | _ => cases h
def subD : D → D → Option D
  | .int i, .int j => some (.int (i - j))
  | _, _ => none
theorem dop_sub : DOp X (binaryOp .Sub) subD := by
  refine ⟨_, op_sub, fun G H x y a b c Q s hx hy h k => ?_⟩
  cases hx with
  | int i => cases hy with
    | int j => cases h; exact ⟨i, j, rfl, rfl, k G _ H (.refl s) (.int _)⟩
    | _ => cases h
  | _ => cases h
/-- the factors have together less than a million bits -/
def mulFit (i j : Int) : Bool := Nat.blt (i.natAbs.log2 + j.natAbs.log2) 1000000
def mulD : D → D → Option D
  | .int i, .int j => match mulFit i j with
    | true => some (.int (i * j))
    | false => none
  | .list xs, .int k => if xs.length * k.toNat ≤ 1000000 ∧ k < 1000000 ∧ -1000000 < k then some (.list (List.replicate k.toNat xs).flatten) else none
  | _, _ => none
theorem RpAll.flat {K : PySem.W.Frag} {G : Hp} {xs : List V} {ds : List D} (r : RpAll K G xs ds) : ∀ n : Nat, RpAll K G (List.replicate n xs).flatten (List.replicate n ds).flatten
  | 0 => .nil
  | n + 1 => by
    simp only [List.replicate_succ, List.flatten_cons]
    exact r.append (RpAll.flat r n)
theorem dop_mul : DOp X (binaryOp .Mult) mulD := by
  refine ⟨_, op_mulW.or op_rep, fun G H x y a b c Q s hx hy h k => ?_⟩
  cases hx with
  | int i => cases hy with
    | int j =>
      have h' : (match mulFit i j with
        | true => some (PyData.int (i * j))
        | false => none) = some c := h
      cases q : mulFit i j with
      | true =>
        rw [q] at h'
        cases h'
        refine .inl ⟨i, j, rfl, rfl, ?_, k G _ H (.refl s) (.int _)⟩
        unfold mulFit Nat.blt at q
        exact Nat.le_of_ble_eq_true q
      | false => rw [q] at h'; cases h'
    | _ => cases h
  | @lst a xs ds h1 h2 => cases hy with
    | int j =>
      obtain ⟨⟨hz, h3, h4⟩, rfl⟩ := ite_some (show (if ds.length * j.toNat ≤ 1000000 ∧ j < 1000000 ∧ -1000000 < j then some (PyData.list (List.replicate j.toNat ds).flatten) else none) = some c from h)
      refine .inr ⟨a, j, xs, rfl, rfl, s _ _ h1, by omega, by omega, by rw [h2.length]; exact line_of hz, fun p hp => ?_⟩
      have px : PX G H _ _ := .alloc s hp (.lst (List.replicate j.toNat xs).flatten)
      exact k _ _ _ px (.lst upd_same ((h2.flat _).mono px.g))
    | _ => cases h
  | obj h1 h2 => cases h
  | _ => cases h
def fdivD : D → D → Option D
  | .int i, .int j => if 0 < j ∧ j.natAbs.log2 < 9000 then some (.int (i / j)) else none
  | _, _ => none
theorem dop_fdiv : DOp X (binaryOp .FloorDiv) fdivD := by
  refine ⟨_, op_fdivW, fun G H x y a b c Q s hx hy h k => ?_⟩
  cases hx with
  | int i => cases hy with
    | int j =>
      obtain ⟨h1, rfl⟩ := ite_some (show (if 0 < j ∧ j.natAbs.log2 < 9000 then some (PyData.int (i / j)) else none) = some c from h)
      exact ⟨i, j, rfl, rfl, h1, k G _ H (.refl s) (.int _)⟩
    | _ => cases h
  | _ => cases h
def modD : D → D → Option D
  | .int i, .int j => if 0 < j then some (.int (i % j)) else none
  | _, _ => none
theorem dop_mod : DOp X (binaryOp .Mod) modD := by
  refine ⟨_, op_mod, fun G H x y a b c Q s hx hy h k => ?_⟩
  cases hx with
  | int i => cases hy with
    | int j =>
      obtain ⟨h1, rfl⟩ := ite_some (show (if 0 < j then some (PyData.int (i % j)) else none) = some c from h)
      exact ⟨i, j, rfl, rfl, h1, k G _ H (.refl s) (.int _)⟩
    | _ => cases h
  | _ => cases h
def powD : D → D → Option D
  | .int i, .int j => if 0 ≤ j ∧ j ≤ 1000000 ∧ i.natAbs < 2 ^ 64 then some (.int (i ^ j.toNat)) else none
  | _, _ => none
theorem dop_pow : DOp X (binaryOp .Pow) powD := by
  refine ⟨_, op_pow, fun G H x y a b c Q s hx hy h k => ?_⟩
  cases hx with
  | int i => cases hy with
    | int j =>
      obtain ⟨h1, rfl⟩ := ite_some (show (if 0 ≤ j ∧ j ≤ 1000000 ∧ i.natAbs < 2 ^ 64 then some (PyData.int (i ^ j.toNat)) else none) = some c from h)
      exact ⟨i, j, rfl, rfl, h1, k G _ H (.refl s) (.int _)⟩
    | _ => cases h
  | _ => cases h
/-- comparisons of ints -/
def cmpD (p : Int → Int → Bool) : D → D → Option D
  | .int i, .int j => some (.bool (p i j))
  | _, _ => none
theorem dop_cmp {sem : Value → Value → Sem Value} {p : Int → Int → Bool} (h : OpR X sem (rI0 fun i j => .bl (p i j))) : DOp X sem (cmpD p) := by
  refine ⟨_, h, fun G H x y a b c Q s hx hy h k => ?_⟩
  cases hx with
  | int i => cases hy with
    | int j => cases h; exact ⟨i, j, rfl, rfl, k G _ H (.refl s) (.bl _)⟩
    | _ => cases h
  | _ => cases h
def ltI (i j : Int) : Bool := decide (i < j)
def leI (i j : Int) : Bool := decide (i ≤ j)
def gtI (i j : Int) : Bool := decide (j < i)
def geI (i j : Int) : Bool := decide (j ≤ i)
theorem dop_lt : DOp X (compareOp .Lt) (cmpD ltI) := dop_cmp op_lt
theorem dop_le : DOp X (compareOp .LtE) (cmpD leI) := dop_cmp op_le
theorem dop_gt : DOp X (compareOp .Gt) (cmpD gtI) := dop_cmp op_gt
theorem dop_ge : DOp X (compareOp .GtE) (cmpD geI) := dop_cmp op_ge
mutual
theorem Rp.dp {K : PySem.W.Frag} {H : Hp} : ∀ {v : V} (d : D), d.canLay0 = true → Rp K H v d → Dp K H v d
  | _, .none, _, r => by cases r; exact .non
  | _, .bool b, _, r => by cases r; exact .bl _
  | _, .int b, _, r => by cases r; exact .int _
  | _, .str b, _, r => by cases r; exact .str _
  | _, .list ds, c, r => by
    cases r with
    | lst h1 h2 => exact .lst (.of h1) (RpAll.dp ds (by simpa [PyData.canLay0] using c) h2)
  | _, .tuple ds, c, r => by
    cases r with
    | tup h1 h2 => exact .tup h1.t (RpAll.dp ds (by simpa [PyData.canLay0] using c) h2)
  | _, .dict _, c, r => by simp [PyData.canLay0] at c
theorem RpAll.dp {K : PySem.W.Frag} {H : Hp} : ∀ {vs : List V} (ds : List D), PyData.canLayAll0 ds = true → RpAll K H vs ds → DpAll K H vs ds
  | _, [], _, r => by cases r; exact .nil
  | _, d :: ds, c, r => by
    cases r with
    | cons h t =>
      have c2 : (d.canLay0 && PyData.canLayAll0 ds) = true := by simpa [PyData.canLayAll0] using c
      obtain ⟨c3, c4⟩ := Bool.and_eq_true_iff.mp c2
      exact .cons (Rp.dp d c3 h) (RpAll.dp ds c4 t)
end
def eqD : D → D → Option D
  | .int i, .int j => some (.bool (i == j))
  | a, b => if SeqAt.shaped a = true ∧ SeqAt.shaped b = true then some (.bool (PyData.eqv a b)) else none
def neD : D → D → Option D
  | .int i, .int j => some (.bool (!(i == j)))
  | a, b => if SeqAt.shaped a = true ∧ SeqAt.shaped b = true then some (.bool (!PyData.eqv a b)) else none
theorem eqD_is {a b c : D} (h : eqD a b = some c) : SeqAt.shaped a = true ∧ SeqAt.shaped b = true ∧ c = .bool (PyData.eqv a b) := by
  unfold eqD at h
  split at h
  · cases h
    exact ⟨rfl, rfl, by simp only [PyData.eqv]⟩
  · obtain ⟨⟨h1, h2⟩, rfl⟩ := ite_some h
    exact ⟨h1, h2, rfl⟩
theorem neD_is {a b c : D} (h : neD a b = some c) : SeqAt.shaped a = true ∧ SeqAt.shaped b = true ∧ c = .bool (!PyData.eqv a b) := by
  unfold neD at h
  split at h
  · cases h
    exact ⟨rfl, rfl, by simp only [PyData.eqv]⟩
  · obtain ⟨⟨h1, h2⟩, rfl⟩ := ite_some h
    exact ⟨h1, h2, rfl⟩
theorem Rp.shaped {K : PySem.W.Frag} {G H : Hp} {v : V} {d : D} (s : Same G H) (c : SeqAt.shaped d = true) (r : Rp K G v d) : Dp K H v d := (r.mono s).dp d (SeqAt.canLay_of_shaped c)
theorem dop_eq (hu : X.A.units + 64 < cLine) : DOp X (compareOp .Eq) eqD := by
  refine ⟨_, op_eqD hu, fun G H x y a b c Q s hx hy h k => ?_⟩
  obtain ⟨h1, h2, rfl⟩ := eqD_is h
  exact ⟨a, b, hx.shaped s h1, hy.shaped s h2, h1, h2, k G _ H (.refl s) (.bl _)⟩
theorem dop_ne (hu : X.A.units + 64 < cLine) : DOp X (compareOp .NotEq) neD := by
  refine ⟨_, op_neD hu, fun G H x y a b c Q s hx hy h k => ?_⟩
  obtain ⟨h1, h2, rfl⟩ := neD_is h
  exact ⟨a, b, hx.shaped s h1, hy.shaped s h2, h1, h2, k G _ H (.refl s) (.bl _)⟩
def isN : D → Bool
  | .none => true
  | _ => false
theorem isN_V {K : PySem.W.Frag} {G : Hp} {v : V} {d : D} (r : Rp K G v d) : decide (v = .non) = isN d := by
  cases r <;> simp [isN]
/-- is None -/
def isD : D → D → Option D
  | a, .none => some (.bool (isN a))
  | _, _ => none
def isNotD : D → D → Option D
  | a, .none => some (.bool (!isN a))
  | _, _ => none
theorem dop_is : DOp X (compareOp .Is) isD := by
  refine ⟨_, op_isN, fun G H x y a b c Q s hx hy h k => ?_⟩
  cases hy with
  | non => cases h; exact ⟨rfl, by rw [isN_V hx]; exact k G _ H (.refl s) (.bl _)⟩
  | _ => cases h
theorem dop_isNot : DOp X (compareOp .IsNot) isNotD := by
  refine ⟨_, op_notN, fun G H x y a b c Q s hx hy h k => ?_⟩
  cases hy with
  | non => cases h; exact ⟨rfl, by rw [isN_V hx]; exact k G _ H (.refl s) (.bl _)⟩
  | _ => cases h
end
end HB
namespace HB
open PySem L2
section
variable {X : Cx} {E : XK}
def inD : D → D → Option D
  | d, .list ds => if SeqAt.shaped d = true ∧ SeqAt.shaped (.list ds) = true then some (.bool (ds.any fun z => PyData.eqv z d)) else none
  | .str i, .str j => some (.bool (!(Builtin.Str.occurrences j i 0 j.length 1).isEmpty))
  | _, _ => none
def notInD : D → D → Option D
  | d, .list ds => if SeqAt.shaped d = true ∧ SeqAt.shaped (.list ds) = true then some (.bool (!ds.any fun z => PyData.eqv z d)) else none
  | .str i, .str j => some (.bool (!!(Builtin.Str.occurrences j i 0 j.length 1).isEmpty))
  | _, _ => none
theorem dop_in (hu : X.A.units + 65 < cLine) : DOp X (compareOp .In) inD := by
  refine ⟨_, (op_inD hu).or op_in_str, fun G H x y a b c Q s hx hy h k => ?_⟩
  cases hy with
  | @lst p xs ds h1 h2 =>
    obtain ⟨⟨h3, h4⟩, rfl⟩ := ite_some (show (if SeqAt.shaped a = true ∧ SeqAt.shaped (.list ds) = true then some (PyData.bool (ds.any fun z => PyData.eqv z a)) else none) = some c by
      cases a <;> exact h)
    exact .inl ⟨a, ds, hx.shaped s h3, (Rp.lst h1 h2).shaped s h4, h3, h4, k G _ H (.refl s) (.bl _)⟩
  | str z => cases hx with
    | str z' => cases h; exact .inr ⟨z', z, rfl, rfl, k G _ H (.refl s) (.bl _)⟩
    | _ => cases h
  | _ => cases hx <;> cases h
theorem dop_notIn (hu : X.A.units + 65 < cLine) : DOp X (compareOp .NotIn) notInD := by
  refine ⟨_, (op_notInD hu).or op_notin_str, fun G H x y a b c Q s hx hy h k => ?_⟩
  cases hy with
  | @lst p xs ds h1 h2 =>
    obtain ⟨⟨h3, h4⟩, rfl⟩ := ite_some (show (if SeqAt.shaped a = true ∧ SeqAt.shaped (.list ds) = true then some (PyData.bool (!ds.any fun z => PyData.eqv z a)) else none) = some c by
      cases a <;> exact h)
    exact .inl ⟨a, ds, hx.shaped s h3, (Rp.lst h1 h2).shaped s h4, h3, h4, k G _ H (.refl s) (.bl _)⟩
  | str z => cases hx with
    | str z' => cases h; exact .inr ⟨z', z, rfl, rfl, k G _ H (.refl s) (.bl _)⟩
    | _ => cases h
  | _ => cases hx <;> cases h
/-- -a -/
def negD : D → Option D
  | .int i => some (.int (-i))
  | _ => none
def mUn (f : D → Option D) (a : Mo D) : Mo D := mBind a fun x => mLift (f x)
theorem ev_neg {a : Expr} {pos : Pos} {f : Mo D} (h : EV X E a f) : EV X E (.UnaryOp .USub a pos) (mUn negD f) := by
  obtain ⟨t, p, q⟩ := h
  refine ⟨_, pe_un un_neg p, fun G ρ σ H Q j h => q G ρ σ H _ j (Post.imp h fun G1 ρ1 x H1 a e1 r1 h1 => ?_)⟩
  obtain ⟨c, hc, k⟩ := Post.lift (ρ' := ρ1) h1
  cases r1 with
  | int i => cases hc; exact ⟨i, rfl, k G1 _ H1 e1.j.refl (.int _)⟩
  | _ => cases hc
/-- a op b op' c -/
def mChain (f g : D → D → Option D) (a b c : Mo D) : Mo D := mBind a fun x => mBind b fun y => mBind (mTest (mLift (f x y))) fun t => match t with
  | true => mBind c fun z => mLift (g y z)
  | false => mRet (.bool false)
theorem chain_sem {ta tb tc : TE} {r r' : R2} {fa fb fc : Mo D} {f g : D → D → Option D} (ha : ∀ G ρ σ H Q, J X.K G ρ σ H → Post X.K E (Rp X.K) G ρ σ H Q (fa ρ) → ta σ H Q) (hb : ∀ G ρ σ H Q, J X.K G ρ σ H → Post X.K E (Rp X.K) G ρ σ H Q (fb ρ) → tb σ H Q) (hc : ∀ G ρ σ H Q, J X.K G ρ σ H → Post X.K E (Rp X.K) G ρ σ H Q (fc ρ) → tc σ H Q)
    (hr : ∀ G H x y a b c Q, Same G H → Rp X.K G x a → Rp X.K G y b → f a b = some c → (∀ G' v H', PX G H G' H' → Rp X.K G' v c → Q v H') → r x y H Q)
    (hr' : ∀ G H x y a b c Q, Same G H → Rp X.K G x a → Rp X.K G y b → g a b = some c → (∀ G' v H', PX G H G' H' → Rp X.K G' v c → Q v H') → r' x y H Q) :
    ∀ G ρ σ H Q, J X.K G ρ σ H → Post X.K E (Rp X.K) G ρ σ H Q (mChain f g fa fb fc ρ) → tChain r r' ta tb tc σ H Q := by
  intro G ρ σ H Q j h
  refine ha G ρ σ H _ j (Post.imp h fun G1 ρ1 x H1 a e1 r1 h1 => ?_)
  refine hb G1 ρ1 σ H1 _ e1.j (Post.imp h1 fun G2 ρ2 y H2 b e2 r2 h2 => ?_)
  cases hf : f a b with
  | none =>
    have h2' : Post X.K E (Rp X.K) G2 ρ2 σ H2 Q (mBind (mTest (mLift (f a b))) _ ρ2) := h2
    unfold mBind mTest mBind mLift at h2'
    rw [hf] at h2'
    exact h2'.elim
  | some c =>
    have h2' : Post X.K E (Rp X.K) G2 ρ2 σ H2 Q (mBind (mTest (mLift (f a b))) _ ρ2) := h2
    unfold mBind mTest mBind mLift at h2'
    rw [hf] at h2'
    cases c with
    | bool t =>
      refine hr G2 H2 x y a b _ _ e2.j.sub (r1.mono e2.g) r2 hf fun G3 v H3 p3 r3 => ?_
      cases r3
      have e3 := e2.j.ex p3
      refine ⟨t, rfl, ?_⟩
      cases t with
      | true =>
        refine (hc G3 ρ2 σ H3 _ e3.j (Post.imp (f := fun z => mLift (g b z)) (Post.ex e3 h2') fun G4 ρ4 z H4 dc e4 r4 h4 => ?_) : _)
        obtain ⟨c, hc, k⟩ := Post.lift (ρ' := ρ4) h4
        exact hr' G4 H4 y z b dc c Q e4.j.sub ((r2.mono p3.g).mono e4.g) r4 hc fun G' v H' p q => k G' v H' (e4.j.ex p) q
      | false => exact ((Post.ex e3 h2' : Post X.K E (Rp X.K) G3 ρ2 σ H3 Q (some (.ok (ρ2, .bool false)))) G3 _ H3 e3.j.refl (.bl false) : _)
    | _ => exact h2'.elim
theorem ev_chain {op op' : CmpOp} {a b c : Expr} {pos : Pos} {fa fb fc : Mo D} {f g : D → D → Option D} (ho : DOp X (compareOp op) f) (ho' : DOp X (compareOp op') g) (ha : EV X E a fa) (hb : EV X E b fb) (hc : EV X E c fc) (h1 : lastMarks [op, op'] [b, c] = false := by with_unfolding_all rfl) :
    EV X E (.Compare a [op, op'] [b, c] pos) (mChain f g fa fb fc) := by
  obtain ⟨r, o, hr⟩ := ho
  obtain ⟨r', o', hr'⟩ := ho'
  obtain ⟨ta, pa, qa⟩ := ha
  obtain ⟨tb, pb, qb⟩ := hb
  obtain ⟨tc, pc, qc⟩ := hc
  exact ⟨_, pe_chain o o' pa pb pc h1, chain_sem qa qb qc hr hr'⟩
theorem et_chain {op op' : CmpOp} {a b c : Expr} {pos : Pos} {fa fb fc : Mo D} {f g : D → D → Option D} (ho : DOp X (compareOp op) f) (ho' : DOp X (compareOp op') g) (ha : EV X E a fa) (hb : EV X E b fb) (hc : EV X E c fc) (h1 : lastMarks [op, op'] [b, c] = false := by with_unfolding_all rfl) :
    ET X E (.Compare a [op, op'] [b, c] pos) (mTest (mChain f g fa fb fc)) := by
  obtain ⟨r, o, hr⟩ := ho
  obtain ⟨r', o', hr'⟩ := ho'
  obtain ⟨ta, pa, qa⟩ := ha
  obtain ⟨tb, pb, qb⟩ := hb
  obtain ⟨tc, pc, qc⟩ := hc
  exact ⟨_, pt_chain o o' pa pb pc h1, test_sem (chain_sem qa qb qc hr hr')⟩
def lenD : List D → Option D
  | [.list ds] => some (.int ds.length)
  | [.tuple ds] => some (.int ds.length)
  | [.dict [(.none, .list ds)]] => some (.int ds.length)
  | [.str x] => if x.length ≤ 1000000 then some (.int x.length) else none
  | _ => none
theorem RpAll.one {K : PySem.W.Frag} {G : Hp} {xs : List V} {d : D} (r : RpAll K G xs [d]) : ∃ x, xs = [x] ∧ Rp K G x d := by
  cases r with
  | cons h t => cases t; exact ⟨_, rfl, h⟩
theorem RpAll.two {K : PySem.W.Frag} {G : Hp} {xs : List V} {d e : D} (r : RpAll K G xs [d, e]) : ∃ x y, xs = [x, y] ∧ Rp K G x d ∧ Rp K G y e := by
  cases r with
  | cons h t =>
    obtain ⟨y, rfl, q⟩ := t.one
    exact ⟨_, y, rfl, h, q⟩
theorem dc_len : DCall X (.builtin "len") lenD := by
  refine ⟨_, call_len, fun G H xs ds c Q s hx h k => ?_⟩
  match ds, h with
  | [.list ds], h =>
    obtain ⟨x, rfl, r⟩ := hx.one
    cases h
    cases r with
    | lst h1 h2 => exact ⟨_, _, rfl, .inl ⟨_, .of (s _ _ h1), h2.length.symm⟩, k G _ H (.refl s) (.int _)⟩
  | [.tuple ds], h =>
    obtain ⟨x, rfl, r⟩ := hx.one
    cases h
    cases r with
    | tup h1 h2 => exact ⟨_, _, rfl, .inr ⟨_, sqT_mono s h1.t, h2.length.symm⟩, k G _ H (.refl s) (.int _)⟩
  | [.dict [(.none, .list ds)]], h =>
    obtain ⟨x, rfl, r⟩ := hx.one
    cases h
    cases r with
    | frz h1 h2 => exact ⟨_, _, rfl, .inl ⟨_, s.seq h1, h2.length.symm⟩, k G _ H (.refl s) (.int _)⟩
  | [.str z], h =>
    obtain ⟨x, rfl, r⟩ := hx.one
    obtain ⟨h1, rfl⟩ := ite_some (show (if z.length ≤ 1000000 then some (PyData.int z.length) else none) = some c from h)
    cases r
    exact ⟨_, _, rfl, ⟨line_of h1, rfl⟩, k G _ H (.refl s) (.int _)⟩
def absD : List D → Option D
  | [.int i] => some (.int (if i < 0 then -i else i))
  | _ => none
theorem dc_abs : DCall X (.builtin "abs") absD := by
  refine ⟨_, call_abs, fun G H xs ds c Q s hx h k => ?_⟩
  match ds, h with
  | [.int i], h =>
    obtain ⟨x, rfl, r⟩ := hx.one
    cases h
    cases r
    exact ⟨_, rfl, k G _ H (.refl s) (.int _)⟩
def maxD : List D → Option D
  | [.int i, .int j] => some (.int (if j > i then j else i))
  | _ => none
def minD : List D → Option D
  | [.int i, .int j] => some (.int (if j < i then j else i))
  | _ => none
theorem dc_max (hc : X.calm = true) : DCall X (.builtin "max") maxD := by
  refine ⟨_, call_max2 hc, fun G H xs ds c Q s hx h k => ?_⟩
  match ds, h with
  | [.int i, .int j], h =>
    obtain ⟨x, y, rfl, r, r2⟩ := hx.two
    cases h
    cases r
    cases r2
    exact ⟨_, _, rfl, k G _ H (.refl s) (.int _)⟩
theorem dc_min (hc : X.calm = true) : DCall X (.builtin "min") minD := by
  refine ⟨_, call_min2 hc, fun G H xs ds c Q s hx h k => ?_⟩
  match ds, h with
  | [.int i, .int j], h =>
    obtain ⟨x, y, rfl, r, r2⟩ := hx.two
    cases h
    cases r
    cases r2
    exact ⟨_, _, rfl, k G _ H (.refl s) (.int _)⟩
def intD : List D → Option D
  | [.int i] => some (.int i)
  | [.bool b] => some (.int (if b then 1 else 0))
  | _ => none
theorem dc_int : DCall X (.type "int") intD := by
  refine ⟨_, call_int1, fun G H xs ds c Q s hx h k => ?_⟩
  match ds, h with
  | [.int i], h =>
    obtain ⟨x, rfl, r⟩ := hx.one
    cases h
    cases r
    exact .inl ⟨_, rfl, k G _ H (.refl s) (.int _)⟩
  | [.bool i], h =>
    obtain ⟨x, rfl, r⟩ := hx.one
    cases h
    cases r
    exact .inr ⟨_, rfl, k G _ H (.refl s) (.int _)⟩
def boolsD : List D → Option (List Bool)
  | [] => some []
  | .bool b :: r => (boolsD r).map (b :: ·)
  | _ :: _ => none
theorem RpAll.bools {K : PySem.W.Frag} {G : Hp} : ∀ {xs : List V} {ds : List D} {bs : List Bool}, RpAll K G xs ds → boolsD ds = some bs → xs = bs.map V.bl
  | _, [], _, .nil, h => by cases h; rfl
  | _, .bool b :: r, bs, .cons h t, e => by
    cases h
    have e' : (boolsD r).map (b :: ·) = some bs := e
    cases q : boolsD r with
    | none => rw [q] at e'; cases e'
    | some cs =>
      rw [q] at e'
      cases e'
      rw [t.bools q]
      rfl
def allD : List D → Option D
  | [.list ds] => (boolsD ds).map fun bs => .bool (bs.all id)
  | _ => none
def anyD : List D → Option D
  | [.list ds] => (boolsD ds).map fun bs => .bool (bs.any id)
  | _ => none
theorem dc_all (hc : X.calm = true) : DCall X (.builtin "all") allD := by
  refine ⟨_, cr_all hc, fun G H xs ds c Q s hx h k => ?_⟩
  match ds, h with
  | [.list ds], h =>
    obtain ⟨x, rfl, r⟩ := hx.one
    have h' : (boolsD ds).map (fun bs => PyData.bool (bs.all id)) = some c := h
    cases q : boolsD ds with
    | none => rw [q] at h'; cases h'
    | some bs =>
      rw [q] at h'
      cases h'
      cases r with
      | lst h1 h2 => exact ⟨_, bs, rfl, .of (by rw [← h2.bools q]; exact s _ _ h1), k G _ H (.refl s) (.bl _)⟩
theorem dc_any (hc : X.calm = true) : DCall X (.builtin "any") anyD := by
  refine ⟨_, cr_any hc, fun G H xs ds c Q s hx h k => ?_⟩
  match ds, h with
  | [.list ds], h =>
    obtain ⟨x, rfl, r⟩ := hx.one
    have h' : (boolsD ds).map (fun bs => PyData.bool (bs.any id)) = some c := h
    cases q : boolsD ds with
    | none => rw [q] at h'; cases h'
    | some bs =>
      rw [q] at h'
      cases h'
      cases r with
      | lst h1 h2 => exact ⟨_, bs, rfl, .of (by rw [← h2.bools q]; exact s _ _ h1), k G _ H (.refl s) (.bl _)⟩
def tupleD : List D → Option D
  | [.list ds] => some (.tuple ds)
  | [.tuple ds] => some (.tuple ds)
  | _ => none
theorem dc_tuple : DCall X (.type "tuple") tupleD := by
  refine ⟨_, call_tupP.or call_tupleT, fun G H xs ds c Q s hx h k => ?_⟩
  match ds, h with
  | [.list ds], h =>
    obtain ⟨x, rfl, r⟩ := hx.one
    cases h
    cases r with
    | @lst a vs ds h1 h2 =>
      refine .inl ⟨_, vs, rfl, .of (s _ _ h1), fun p o hp nd => ?_⟩
      have px : PX G H _ _ := .alloc s hp (.frz o (.tup vs))
      exact k _ _ _ px (.tup (.new nd) (h2.mono px.g))
  | [.tuple ds], h =>
    obtain ⟨x, rfl, r⟩ := hx.one
    cases h
    cases r with
    | tup h1 h2 => exact .inr ⟨_, _, rfl, sqT_mono s h1.t, k G _ H (.refl s) (.tup h1 h2)⟩
def strD : List D → Option D
  | [.int i] => if i.natAbs.log2 < 1920 then some (.str (toString i)) else none
  | _ => none
theorem dc_str : DCall X (.type "str") strD := by
  refine ⟨_, call_str_int, fun G H xs ds c Q s hx h k => ?_⟩
  match ds, h with
  | [.int i], h =>
    obtain ⟨x, rfl, r⟩ := hx.one
    obtain ⟨h1, rfl⟩ := ite_some (show (if i.natAbs.log2 < 1920 then some (PyData.str (toString i)) else none) = some c from h)
    cases r
    exact ⟨_, rfl, h1, k G _ H (.refl s) (.str _)⟩
/-- list(x): a new list -/
def mListOf (f : Mo D) : Mo (List D) := mBind f fun d => mLift (itemsD d)
theorem en_list {e : Expr} {p pos : Pos} {f : Mo D} (hm : X.mg "list" = none) (h : EV X E e f) (hg : Gl X "list" := by rfl) (he : starEach [e] X.env = (false, eval e X.env) :: starEach [] X.env := by rfl) (hpl : (backTo pos (starEach [] X.env)).any (·.1) = false := by rfl) : EN X E (.Call (.Name "list" p) [e] [] pos) (mListOf f) := by
  obtain ⟨t, pt, q⟩ := h
  refine ⟨_, pe_callTy call_list_of hg hm (by decide +kernel) (pa_cons pt pa_nil he) (by decide) (by decide) he hpl, fun G ρ σ H Q j h => ?_⟩
  refine q G ρ σ H _ j (Post.impN h fun G1 ρ1 x H1 d e1 r1 h1 => ?_)
  obtain ⟨ds, hd, k⟩ := Post.liftN h1
  obtain ⟨p0, xs, rfl, s0, r0⟩ := r1.items hd
  refine ⟨p0, xs, rfl, (sq_mono e1.j.sub s0).symm, fun l hl => ?_⟩
  exact k _ _ _ (new_list e1.j hl r0) ⟨l, xs, rfl, hl, e1.j.free hl, upd_same, e1.j.nown hl, r0⟩
def tyD : D → Option String
  | .none => some "NoneType"
  | .bool _ => some "bool"
  | .int _ => some "int"
  | .str _ => some "str"
  | .list _ => some "list"
  | .tuple _ => some "tuple"
  | _ => none
theorem Rp.ty {K : PySem.W.Frag} {G H : Hp} {v : V} {d : D} {n : String} (s : Same G H) (r : Rp K G v d) (h : tyD d = some n) : TyX K H v (.type n) := by
  cases r with
  | non => cases h; exact .base .non
  | bl b => cases h; exact .base (.bl b)
  | int i => cases h; exact .base (.int i)
  | str x => cases h; exact .base (.str x)
  | lst h1 _ => cases h; exact .base (.lst (s _ _ h1))
  | @tup a xs ds h1 h2 =>
    cases h
    rcases sqT_mono s h1.t with (z | ⟨o, z⟩) | z
    · exact .base (.tup z)
    · exact .fTuple z
    · obtain ⟨o, its, n, z1, z2, z3⟩ := z
      exact .kTuple z1 z2
  | frz h1 h2 => cases h
  | obj h1 h2 => cases h
  | adr a => cases h
  | fn x => cases h
end
end HB
namespace HB
open PySem L2
abbrev Src := En → Option (List D)
/-- the iterator yields what the source tells, as things stand -/
def ItOk (K : PySem.W.Frag) (G : Hp) (σ : St) (Jt : It) (src : Src) (js : List Nat) : Prop := ∀ (i : Nat) (G2 : Hp) (ρ2 : En) (σ2 : St) (H2 : Hp) (items : List D), Same G G2 → J K G2 ρ2 σ2 H2 → (∀ j ∈ js, σ2[j]? = σ[j]?) → src ρ2 = some items →
  (∀ d, items[i]? = some d → Jt.go i H2 ∧ ∀ x H3, Jt.yld i H2 x H3 → ∃ G3, PX G2 H2 G3 H3 ∧ Rp K G3 x d) ∧ (items.length ≤ i → Jt.stop i H2)
def PostI (K : PySem.W.Frag) (E : XK) (js : List Nat) (G : Hp) (ρ : En) (σ : St) (H : Hp) (R : It → Hp → Prop) : Option (Except Exn (En × Src)) → Prop
  | none => False
  | some (.error x) => ∀ C dx H', XP K G ρ σ H x C dx H' → E C dx H'
  | some (.ok (ρ', src)) => ∀ G' H' Jt, Ex K G ρ σ H G' ρ' σ H' → ItOk K G' σ Jt src js → R Jt H'
def IV (X : Cx) (E : XK) (tg iter : Expr) (f : Mo Src) (js : List Nat) : Prop := ∃ wi, PI X tg iter wi ∧ ∀ G ρ σ H R, J X.K G ρ σ H → PostI X.K E js G ρ σ H R (f ρ) → wi σ H R
section
variable {X : Cx} {E : XK}
theorem PostI.imp {K : PySem.W.Frag} {js : List Nat} {G H : Hp} {ρ : En} {σ : St} {Rr : It → Hp → Prop} {γ δ : Type} {R' : Hp → δ → γ → Prop} {Q' : δ → Hp → Prop} {m : Mo γ} {f : γ → Mo Src} (h : PostI K E js G ρ σ H Rr (mBind m f ρ))
    (k : ∀ G1 ρ1 v H1 a, Ex K G ρ σ H G1 ρ1 σ H1 → R' G1 v a → PostI K E js G1 ρ1 σ H1 Rr (f a ρ1) → Q' v H1) : Post K E R' G ρ σ H Q' (m ρ) := by
  unfold mBind at h
  cases q : m ρ with
  | none => rw [q] at h; exact h
  | some r =>
    rw [q] at h
    cases r with
    | error x => exact h
    | ok p =>
      obtain ⟨ρ', a⟩ := p
      refine fun G' v H' z r => k G' ρ' v H' a z r ?_
      have h2 : PostI K E js G ρ σ H Rr (f a ρ') := h
      match hh : f a ρ', h2 with
      | some (.error x), h2 => exact fun C dx H' y => h2 C dx H' (XP.trans z y)
      | some (.ok (ρ2, ds)), h2 => exact fun G2 H2 Jt y r2 => h2 G2 H2 Jt (z.trans y) r2
theorem PostI.lift {K : PySem.W.Frag} {js : List Nat} {G H : Hp} {ρ : En} {σ : St} {Rr : It → Hp → Prop} {o : Option Src} (h : PostI K E js G ρ σ H Rr (mLift o ρ)) : ∃ a, o = some a ∧ ∀ G' H' Jt, Ex K G ρ σ H G' ρ σ H' → ItOk K G' σ Jt a js → Rr Jt H' := by
  cases o with
  | none => exact False.elim h
  | some a => exact ⟨a, rfl, h⟩
def constS (ds : List D) : Src := fun _ => some ds
/-- lists and tuples -/
def iSeq (K : PySem.W.Frag) (tl : TE) : TI := fun σ H R => tl σ H fun x H1 => ∃ a, x = .ref a ∧ (((∃ xs, SqL K H1 a xs) ∧ R (Itl K a) H1) ∨ ((∃ xs, SqT K H1 a xs) ∧ R (Itt K a) H1))
theorem pi_seq {tg l : Expr} {tl : TE} (hl : PE X l tl) : PI X tg l (iSeq X.K tl) :=
  PI.mk fun pins s σ H R I h => thn (hl.run pins s σ H _ I h) fun v s1 ⟨x, H1, I1, r1, a, e, q1⟩ => by
    subst e
    cases r1
    exact q1.elim
      (fun ⟨⟨_, hq⟩, q⟩ => have ⟨_, _, p, _⟩ := I1.list hq; wpAny_pyIter_list p.isList (pi_one I1 _ (turn_list a _) ⟨_, Heap.get?_push_size _ rfl, rfl, rfl⟩ q))
      (fun ⟨⟨_, hq⟩, q⟩ => have ⟨its, _, p, _⟩ := I1.tuple hq; wpAny_pyIter_tuple (items := its.toArray) p (pi_one I1 _ (turn_tuple a _) ⟨_, Heap.get?_push_size _ rfl, rfl, rfl⟩ q))
def mSeqS (f : Mo D) : Mo Src := mBind f fun d => mLift ((itemsD d).map constS)
theorem itl_ok {K : PySem.W.Frag} {G : Hp} {σ : St} {a : Addr} {xs : List V} {ds : List D} {js : List Nat} (h : SqL K G a xs) (r : RpAll K G xs ds) : ItOk K G σ (Itl K a) (constS ds) js := by
  intro i G2 ρ2 σ2 H2 items sg j _ e
  cases e
  have hs : SqL K H2 a xs := j.sub.seq (sg.seq h)
  refine ⟨fun d hd => ?_, fun hi => ⟨xs, hs, by rw [r.length]; exact hi⟩⟩
  obtain ⟨v, h1, h2⟩ := r.get hd
  refine ⟨⟨xs, v, hs, h1⟩, fun x H3 y => ?_⟩
  obtain ⟨rfl, y⟩ := y
  have e := Option.some.inj ((y xs hs).symm.trans h1)
  subst e
  exact ⟨G2, .refl j.sub, h2.mono sg⟩
theorem itt_ok {K : PySem.W.Frag} {G : Hp} {σ : St} {a : Addr} {xs : List V} {ds : List D} {js : List Nat} (h : SqT K G a xs) (r : RpAll K G xs ds) : ItOk K G σ (Itt K a) (constS ds) js := by
  intro i G2 ρ2 σ2 H2 items sg j _ e
  cases e
  have hs : SqT K H2 a xs := sqT_mono j.sub (sqT_mono sg h)
  refine ⟨fun d hd => ?_, fun hi => ⟨xs, hs, by rw [r.length]; exact hi⟩⟩
  obtain ⟨v, h1, h2⟩ := r.get hd
  refine ⟨⟨xs, v, hs, h1⟩, fun x H3 y => ?_⟩
  obtain ⟨rfl, y⟩ := y
  have e := Option.some.inj ((y xs hs).symm.trans h1)
  subst e
  exact ⟨G2, .refl j.sub, h2.mono sg⟩
theorem iv_seq {tg iter : Expr} {f : Mo D} (h : EV X E iter f) : IV X E tg iter (mSeqS f) [] := by
  obtain ⟨t, p, q⟩ := h
  refine ⟨_, pi_seq p, fun G ρ σ H R j h => q G ρ σ H _ j (PostI.imp h fun G1 ρ1 x H1 d e1 r1 h1 => ?_)⟩
  obtain ⟨src, hs, k⟩ := PostI.lift h1
  cases hi : itemsD d with
  | none => rw [hi] at hs; cases hs
  | some ds =>
    rw [hi] at hs
    cases hs
    obtain ⟨p0, xs, rfl, s0, r0⟩ := r1.items hi
    rcases s0 with s0 | s0
    · exact ⟨p0, rfl, .inr ⟨⟨xs, sqT_mono e1.j.sub s0⟩, k G1 H1 _ e1.j.refl (itt_ok s0 r0)⟩⟩
    · exact ⟨p0, rfl, .inl ⟨⟨xs, e1.j.sub.seq s0⟩, k G1 H1 _ e1.j.refl (itl_ok s0 r0)⟩⟩
/-- a list of the def's own -/
def ownS (j : Nat) : Src := fun ρ => match ρ[j]? with
  | some (.own ds) => some ds
  | _ => none
def mOwnS (i : Nat) : Mo Src := fun ρ => match ρ[i]? with
  | some (.own ds) => some (.ok (ρ, ownS i))
  | some (.pur d) => match itemsD d with
    | some ds => some (.ok (ρ, constS ds))
    | none => none
  | _ => none
theorem ownS_ok {K : PySem.W.Frag} {G : Hp} {σ : St} {i : Nat} {a : Addr} (h : σ[i]? = some (some (.ref a))) : ItOk K G σ (Itl K a) (ownS i) [i] := by
  intro n G2 ρ2 σ2 H2 items sg j hj e
  unfold ownS at e
  cases q : ρ2[i]? with
  | none => simp [q] at e
  | some s =>
    rw [q] at e
    cases s with
    | no => cases e
    | box _ => cases e
    | pur d => cases e
    | own ds =>
      have e := Option.some.inj e
      subst e
      obtain ⟨a', vs, h1, h2, h3, h4⟩ := j.own i _ ds q rfl
      rw [hj i List.mem_cons_self, h] at h1
      cases h1
      have hs : SqL K H2 a vs := .of h2
      refine ⟨fun d hd => ?_, fun hi => ⟨vs, hs, by rw [h4.length]; exact hi⟩⟩
      obtain ⟨v, q1, q2⟩ := h4.get hd
      refine ⟨⟨vs, v, hs, q1⟩, fun x H3 y => ?_⟩
      obtain ⟨rfl, y⟩ := y
      have e := Option.some.inj ((y vs hs).symm.trans q1)
      subst e
      exact ⟨G2, .refl j.sub, q2⟩
theorem iv_own {tg : Expr} (i : Nat) {x : Str} {pos : Pos} (hN : X.N[i]? = some x := by rfl) (hv : Vis X.env.scope x := by first | exact Or.inl rfl | exact Or.inr (Or.inl rfl) | exact Or.inr (Or.inr rfl)) (hd : (x == ("__debug__" : Str)) = false := by decide)
    (hcd : (x == ("__classdict__" : Str)) = false := by decide) : IV X E tg (.Name x pos) (mOwnS i) [i] := by
  refine ⟨_, pi_seq (pe_var hN hv hd hcd), fun G ρ σ H R j h => ?_⟩
  unfold mOwnS at h
  cases q : ρ[i]? with
  | none => rw [q] at h; exact h.elim
  | some s =>
    rw [q] at h
    cases s with
    | no => exact h.elim
    | box _ => exact h.elim
    | own ds =>
      obtain ⟨a, vs, h1, h2, h3, h4⟩ := j.own i _ ds q rfl
      exact ⟨_, h1, a, rfl, .inl ⟨⟨vs, .of h2⟩, h G H _ j.refl (ownS_ok h1)⟩⟩
    | pur d =>
      cases hi : itemsD d with
      | none => simp only [hi] at h; exact h.elim
      | some ds =>
        simp only [hi] at h
        obtain ⟨v, h1, h2⟩ := j.pur i d q
        obtain ⟨p0, xs, rfl, s0, r0⟩ := h2.items hi
        rcases s0 with s0 | s0
        · exact ⟨_, h1, p0, rfl, .inr ⟨⟨xs, sqT_mono j.sub s0⟩, h G H _ j.refl (itt_ok s0 r0)⟩⟩
        · exact ⟨_, h1, p0, rfl, .inl ⟨⟨xs, j.sub.seq s0⟩, h G H _ j.refl (itl_ok s0 r0)⟩⟩
/-- range -/
def rangeD (lo : Int) : Nat → List D
  | 0 => []
  | n + 1 => .int lo :: rangeD (lo + 1) n
theorem rangeD_get : ∀ (n : Nat) (lo : Int) (i : Nat), (rangeD lo n)[i]? = if i < n then some (.int (lo + i)) else none
  | 0, _, _ => by simp [rangeD]
  | n + 1, lo, 0 => by simp [rangeD]
  | n + 1, lo, i + 1 => by
    simp only [rangeD, List.getElem?_cons_succ, rangeD_get n (lo + 1) i]
    have e : lo + 1 + (i : Int) = lo + ((i + 1 : Nat) : Int) := by omega
    simp only [e, Nat.add_lt_add_iff_right]
theorem rangeD_len (lo : Int) (n : Nat) : (rangeD lo n).length = n := by
  induction n generalizing lo with
  | zero => rfl
  | succ n ih => simp [rangeD, ih]
theorem itr_ok {K : PySem.W.Frag} {G : Hp} {σ : St} {lo : Int} {n : Nat} {js : List Nat} : ItOk K G σ (Itr lo n) (constS (rangeD lo n)) js := by
  intro i G2 ρ2 σ2 H2 items sg j _ e
  cases e
  refine ⟨fun d hd => ?_, fun hi => by rw [rangeD_len] at hi; exact hi⟩
  rw [rangeD_get] at hd
  split at hd
  · rename_i hlt
    cases hd
    refine ⟨hlt, fun x H3 y => ?_⟩
    obtain ⟨rfl, rfl⟩ := y
    exact ⟨G2, .refl j.sub, .int _⟩
  · cases hd
def range1D : List D → Option Src
  | [.int j] => if -1000000000 ≤ j ∧ j ≤ 1000000000 then some (constS (rangeD 0 j.toNat)) else none
  | _ => none
def range2D : List D → Option Src
  | [.int i, .int j] => if -1000000000 ≤ i ∧ i ≤ 1000000000 ∧ -1000000000 ≤ j ∧ j ≤ 1000000000 then some (constS (rangeD i (j - i).toNat)) else none
  | _ => none
def mRange (f : List D → Option Src) (a : Mo (List D)) : Mo Src := mBind a fun ds => mLift (f ds)
theorem iv_range1 {tg a : Expr} {p pos : Pos} {f : Mo (List D)} (hm : X.mg "range" = none) (ha : EA X E [a] f) (hg : Gl X "range" := by rfl) (hs : starEach [a] X.env = [(false, eval a X.env)] := by rfl) : IV X E tg (.Call (.Name "range" p) [a] [] pos) (mRange range1D f) [] := by
  obtain ⟨t, pt, q⟩ := ha
  refine ⟨_, pi_range1 hg hm pt hs, fun G ρ σ H R j h => q G ρ σ H _ j (PostI.imp h fun G1 ρ1 vs H1 ds e1 r1 h1 => ?_)⟩
  obtain ⟨src, hs, k⟩ := PostI.lift h1
  match ds, hs with
  | [.int n], hs =>
    obtain ⟨hz, rfl⟩ := ite_some (show (if -1000000000 ≤ n ∧ n ≤ 1000000000 then some (constS (rangeD 0 n.toNat)) else none) = some src from hs)
    obtain ⟨x, rfl, r⟩ := r1.one
    cases r
    exact ⟨n, rfl, by omega, by omega, k G1 H1 _ e1.j.refl itr_ok⟩
theorem iv_range2 {tg a b : Expr} {p pos : Pos} {f : Mo (List D)} (hm : X.mg "range" = none) (ha : EA X E [a, b] f) (hg : Gl X "range" := by rfl) (hs : starEach [a, b] X.env = [(false, eval a X.env), (false, eval b X.env)] := by rfl) (hs2 : starEach [b] X.env = [(false, eval b X.env)] := by rfl) :
    IV X E tg (.Call (.Name "range" p) [a, b] [] pos) (mRange range2D f) [] := by
  obtain ⟨t, pt, q⟩ := ha
  refine ⟨_, pi_range2 hg hm pt hs hs2, fun G ρ σ H R j h => q G ρ σ H _ j (PostI.imp h fun G1 ρ1 vs H1 ds e1 r1 h1 => ?_)⟩
  obtain ⟨src, hs, k⟩ := PostI.lift h1
  match ds, hs with
  | [.int n, .int m], hs =>
    obtain ⟨hz, rfl⟩ := ite_some (show (if -1000000000 ≤ n ∧ n ≤ 1000000000 ∧ -1000000000 ≤ m ∧ m ≤ 1000000000 then some (constS (rangeD n (m - n).toNat)) else none) = some src from hs)
    obtain ⟨x, y, rfl, r, r2⟩ := r1.two
    cases r
    cases r2
    exact ⟨n, m, rfl, by omega, k G1 H1 _ e1.j.refl itr_ok⟩
/-- slots but for ws are as they were -/
def Sets (ws : List Nat) (σ σ' : St) : Prop := σ'.length = σ.length ∧ ∀ k, k ∉ ws → σ'[k]? = σ[k]?
theorem Sets.refl {ws : List Nat} {σ : St} : Sets ws σ σ := ⟨rfl, fun _ _ => rfl⟩
theorem Sets.trans {ws us : List Nat} {σ σ1 σ2 : St} (a : Sets ws σ σ1) (b : Sets us σ1 σ2) : Sets (ws ++ us) σ σ2 := ⟨b.1.trans a.1, fun k hk => (b.2 k fun z => hk (List.mem_append_right _ z)).trans (a.2 k fun z => hk (List.mem_append_left _ z))⟩
def GV (X : Cx) (tg : Expr) (g : D → En → Option En) (ws : List Nat) : Prop := ∃ t, PG X tg t ∧ ∀ G ρ σ H Q d v ρ', J X.K G ρ σ H → Rp X.K G v d → g d ρ = some ρ' → (∀ σ', Ex X.K G ρ σ H G ρ' σ' H → Sets ws σ σ' → Q σ' H) → t v σ H Q
def gSet (i : Nat) : D → En → Option En := fun d ρ => some (ρ.set i (.pur d))
theorem gv_name {i : Nat} {x : Str} {pos : Pos} (hN : X.N.Nodup) (hi : X.N[i]? = some x := by rfl) (hx : Loc X.env.scope x := by first | exact Or.inl rfl | exact Or.inr rfl) (hf : X.fn x = true ∨ X.env.scope.names.lookup x = some .local := by first | exact .inl rfl | exact .inr rfl | assumption) : GV X (.Name x pos) (gSet i) [i] :=
  ⟨_, pg_name hN hi hx hf, fun G ρ σ H Q d v ρ' j r h k => by cases h; exact k _ (Ex.set j i r) ⟨List.length_set, fun k hk => List.getElem?_set_ne fun e => hk (by rw [e]; exact List.mem_cons_self)⟩⟩
def GVs (X : Cx) (tgs : List Expr) (g : List D → En → Option En) (ws : List Nat) : Prop := ∃ t, PGs X tgs t ∧ ∀ G ρ σ H Q ds vs ρ', J X.K G ρ σ H → RpAll X.K G vs ds → g ds ρ = some ρ' → (∀ σ', Ex X.K G ρ σ H G ρ' σ' H → Sets ws σ σ' → Q σ' H) → t vs σ H Q
def gNilD : List D → En → Option En
  | [], ρ => some ρ
  | _, _ => none
def gConsD (g : D → En → Option En) (h : List D → En → Option En) : List D → En → Option En
  | d :: ds, ρ => (g d ρ).bind (h ds)
  | _, _ => none
theorem gvs_nil : GVs X [] gNilD [] := ⟨_, pgs_nil, fun G ρ σ H Q ds vs ρ' j r h k => by
  cases r with
  | nil => cases h; exact ⟨rfl, k σ j.refl .refl⟩
  | cons _ _ => cases h⟩
theorem gvs_cons {e : Expr} {es : List Expr} {g : D → En → Option En} {gs : List D → En → Option En} {ws us : List Nat} (h1 : GV X e g ws) (h2 : GVs X es gs us) (hs : (assignEach (e :: es) X.env).map (·.2) = assign e X.env :: (assignEach es X.env).map (·.2) := by rfl) : GVs X (e :: es) (gConsD g gs) (ws ++ us) := by
  obtain ⟨t, p, q⟩ := h1
  obtain ⟨u, p2, q2⟩ := h2
  refine ⟨_, pgs_cons p p2 hs, fun G ρ σ H Q ds vs ρ' j r h k => ?_⟩
  cases r with
  | nil => cases h
  | @cons v vr d dr hd ht =>
    have h' : (g d ρ).bind (gs dr) = some ρ' := h
    cases e1 : g d ρ with
    | none => rw [e1] at h'; cases h'
    | some ρ1 =>
      rw [e1] at h'
      exact ⟨_, _, rfl, q G ρ σ H _ d _ ρ1 j hd e1 fun σ1 x1 s1 => q2 G ρ1 σ1 H Q dr _ ρ' x1.j ht h' fun σ2 x2 s2 => k σ2 (x1.trans x2) (s1.trans s2)⟩
def gTupD (n : Nat) (g : List D → En → Option En) : D → En → Option En
  | .tuple ds, ρ => match Nat.beq ds.length n with
    | true => g ds ρ
    | false => none
  | _, _ => none
theorem gv_tup {es : List Expr} {k : Nat} {g : List D → En → Option En} {n : Nat} {ws : List Nat} {pos : Pos} (hc : X.calm = true) (h : GVs X es g ws) (hn : (assignEach es X.env).length = n := by rfl) (hst : (assignEach es X.env).findIdx? (·.1) = none := by rfl) : GV X (.Tuple es k pos) (gTupD n g) ws := by
  obtain ⟨t, p, q⟩ := h
  refine ⟨_, pg_tup hc p hn hst, fun G ρ σ H Q d v ρ' j r h k => ?_⟩
  cases r with
  | @tup a xs ds h1 h2 =>
    have h' : (match Nat.beq ds.length n with
      | true => g ds ρ
      | false => none) = some ρ' := h
    cases e : Nat.beq ds.length n with
    | false => rw [e] at h'; cases h'
    | true =>
      rw [e] at h'
      exact ⟨a, xs, rfl, sqT_mono j.sub h1.t, h2.length.trans (Nat.eq_of_beq_eq_true e), q G ρ σ H Q ds xs ρ' j h2 h' k⟩
  | _ => cases h
/-- target = value -/
def sAsg (g : D → En → Option En) (f : Mo D) : Mo Fl := mBind f fun d ρ => match g d ρ with
  | some ρ' => some (.ok (ρ', .nx))
  | none => none
theorem s_asg {tg e : Expr} {f : Mo D} {g : D → En → Option En} {ws : List Nat} {pos : Pos} (h : EV X E e f) (hg : GV X tg g ws) (hs : swapsWithSole [tg] e pos.line X.env = pure false := by rfl) (hw : swappedStores [tg] e X.env = pure none := by rfl)
    (ha : (assignEach [tg] X.env).map (·.2) = [assign tg X.env] := by rfl) : SV X E (.Assign [tg] e pos) (sAsg g f) := by
  obtain ⟨t, p, q⟩ := h
  obtain ⟨u, pg, qg⟩ := hg
  refine ⟨_, ps_asg p pg hs hw ha, fun G ρ σ H De j h => q G ρ σ H _ j (PostS.imp h fun G1 ρ1 v H1 d e1 r1 h1 => ?_)⟩
  have h1' : PostS X.K E G1 ρ1 σ H1 De (match g d ρ1 with
    | some ρ' => some (.ok (ρ', .nx))
    | none => none) := h1
  cases e : g d ρ1 with
  | none => rw [e] at h1'; exact h1'.elim
  | some ρ' =>
    rw [e] at h1'
    exact qg G1 ρ1 σ H1 _ d v ρ' e1.j r1 e fun σ' x _ => h1' G1 σ' H1 x
/-- a, b = x, y -/
def sPar (i j : Nat) (f : Mo (List D)) : Mo Fl := mBind f fun ds ρ => match ds with
  | [x, y] => some (.ok ((ρ.set i (.pur x)).set j (.pur y), .nx))
  | _ => none
theorem s_par {i j : Nat} {x y : Str} {a b : Expr} {f : Mo (List D)} {px py pt : Pos} {kt k2 : Nat} {pt2 pos : Pos} (hc : X.calm = true) (hN : X.N.Nodup) (h : EA X E [a, b] f) (hi : X.N[i]? = some x := by rfl) (hj : X.N[j]? = some y := by rfl) (hij : i ≠ j := by decide)
    (hx : X.env.scope.names.lookup x = some .local := by rfl) (hy : X.env.scope.names.lookup y = some .local := by rfl) (hw : swappedStores [.Tuple [.Name x px, .Name y py] kt pt] (.Tuple [a, b] k2 pt2) X.env = pure (some [x, y]) := by rfl) :
    SV X E (.Assign [.Tuple [.Name x px, .Name y py] kt pt] (.Tuple [a, b] k2 pt2) pos) (sPar i j f) := by
  obtain ⟨t, p, q⟩ := h
  refine ⟨_, ps_par hc hN hi hj hij hx hy p hw, fun G ρ σ H De j h => q G ρ σ H _ j (PostS.imp h fun G1 ρ1 vs H1 ds e1 r1 h1 => ?_)⟩
  match ds, h1 with
  | [d1, d2], h1 =>
    obtain ⟨x, y, rfl, r, r2⟩ := r1.two
    refine ⟨x, y, rfl, ?_⟩
    have x1 := Ex.set e1.j i r
    exact h1 G1 _ H1 (x1.trans (Ex.set x1.j _ r2))
/-- name op= e, ints -/
def sAug (op : Int → Int → Int) (i : Nat) (f : Mo D) : Mo Fl := fun ρ => match ρ[i]? with
  | some (.pur (.int a)) => mBind f (fun d => match d with
    | .int b => setSl i (.pur (.int (op a b)))
    | _ => fun _ => none) ρ
  | _ => none
theorem s_aug {i : Nat} {x : Str} {e : Expr} {f : Mo D} {op : Operator} {o : Int → Int → Int} {pos pos' : Pos} (ho : PIp X op (ipI o)) (hN : X.N.Nodup) (h : EV X E e f) (hi : X.N[i]? = some x := by rfl) (hx : Loc X.env.scope x := by first | exact Or.inl rfl | exact Or.inr rfl)
    (hf : X.fn x = true ∨ X.env.scope.names.lookup x = some .local := by first | exact .inl rfl | exact .inr rfl | assumption) : SV X E (.AugAssign (.Name x pos') op e pos) (sAug o i f) := by
  obtain ⟨t, p, q⟩ := h
  refine ⟨_, ps_aug hN hi hx p ho hf, fun G ρ σ H De j h => ?_⟩
  unfold sAug at h
  match hs : ρ[i]?, h with
  | some (.pur (.int a)), h =>
    obtain ⟨v, h1, h2⟩ := j.pur i _ hs
    cases h2
    refine ⟨_, h1, q G ρ σ H _ j (PostS.imp h fun G1 ρ1 y H1 d e1 r1 h1 => ?_)⟩
    cases r1 with
    | int b => exact ⟨a, b, rfl, rfl, h1 G1 _ H1 (Ex.set e1.j i (.int _))⟩
    | _ => exact h1.elim
/-- for x in items: body -/
def forL (g : D → En → Option En) (body : Mo Fl) : List D → Mo Fl
  | [] => fun ρ => some (.ok (ρ, .nx))
  | d :: ds => fun ρ => match g d ρ with
    | none => none
    | some ρ1 => match body ρ1 with
      | none => none
      | some (.error x) => some (.error x)
      | some (.ok (ρ2, .nx)) => forL g body ds ρ2
      | some (.ok (ρ2, .ct)) => forL g body ds ρ2
      | some (.ok (ρ2, .bk)) => some (.ok (ρ2, .nx))
      | some (.ok (ρ2, .rt d)) => some (.ok (ρ2, .rt d))
def sFor (src : Mo Src) (g : D → En → Option En) (body : Mo Fl) : Mo Fl := mBind src fun s ρ => match s [] with
  | none => none
  | some items => forL g body items ρ
/-- a source that tells the same whatever happens -/
def Const (s : Src) : Prop := ∀ ρ, s ρ = s []
theorem s_for {tg iter : Expr} {body : List Stmt} {src : Mo Src} {g : D → En → Option En} {b : Mo Fl} {ws : List Nat} {pos : Pos} (hp : PassesOwn (model X.prog X.w) X.A X.env X.xe) (hc : X.calm = true) (hi : IV X E tg iter src []) (hcs : ∀ ρ ρ' s, src ρ = some (.ok (ρ', s)) → Const s) (hg : GV X tg g ws) (hb : SVs X E body b)
    (hfs : ∀ x, foldedSetIterable iter X.env x = pure x := by intro _; rfl) : SV X E (.For tg iter body [] pos) (sFor src g b) := by
  obtain ⟨wi, pi, qi⟩ := hi
  obtain ⟨tg, pg, qg⟩ := hg
  obtain ⟨tb, pb, qb⟩ := hb
  refine ⟨_, ps_for hp hc pi pg pb hfs, fun G ρ σ H De j h => ?_⟩
  refine qi G ρ σ H _ j ?_
  unfold sFor mBind at h
  cases hs : src ρ with
  | none => rw [hs] at h; exact h
  | some r =>
    rw [hs] at h
    cases r with
    | error x => exact h
    | ok pr =>
      obtain ⟨ρ1, s⟩ := pr
      have hcon := hcs ρ ρ1 s hs
      intro G1 H1 Jt e1 hit
      have h' : PostS X.K E G ρ σ H De (match s [] with
        | none => none
        | some items => forL g b items ρ1) := h
      cases hi : s [] with
      | none => rw [hi] at h'; exact h'.elim
      | some items =>
        rw [hi] at h'
        refine ⟨fun i m σ2 H2 => m = items.length - i ∧ i ≤ items.length ∧ ∃ G2 ρ2, Ex X.K G1 ρ1 σ H1 G2 ρ2 σ2 H2 ∧ PostS X.K E G ρ σ H De (forL g b (items.drop i) ρ2), ⟨items.length, by omega, Nat.zero_le _, G1, ρ1, e1.j.refl, h'⟩, ?_⟩
        rintro i m σ2 H2 ⟨rfl, hile, G2, ρ2, e2, hpost⟩
        obtain ⟨hgo, hstop⟩ := hit i G2 ρ2 σ2 H2 items e2.g e2.j (fun _ z => nomatch z) ((hcon ρ2).trans hi)
        by_cases hlt : i < items.length
        · have hd : items[i]? = some items[i] := List.getElem?_eq_getElem hlt
          obtain ⟨go, yld⟩ := hgo _ hd
          rw [List.drop_eq_getElem_cons hlt] at hpost
          refine .inr ⟨go, fun σ' H' => ∃ G3 ρ3, Ex X.K G1 ρ1 σ H1 G3 ρ3 σ' H' ∧ PostS X.K E G ρ σ H De (forL g b (items.drop (i + 1)) ρ3), fun σ' H' ⟨G3, ρ3, e3, p3⟩ => ⟨items.length - (i + 1), by omega, rfl, hlt, G3, ρ3, e3, p3⟩, fun x H3 y => ?_⟩
          obtain ⟨G3, px, rx⟩ := yld x H3 y
          have e3 := e2.trans (e2.j.ex px)
          have hpost' : PostS X.K E G ρ σ H De (match g items[i] ρ2 with
            | none => none
            | some ρ1 => match b ρ1 with
              | none => none
              | some (.error x) => some (.error x)
              | some (.ok (ρ2, .nx)) => forL g b (items.drop (i + 1)) ρ2
              | some (.ok (ρ2, .ct)) => forL g b (items.drop (i + 1)) ρ2
              | some (.ok (ρ2, .bk)) => some (.ok (ρ2, .nx))
              | some (.ok (ρ2, .rt d)) => some (.ok (ρ2, .rt d))) := hpost
          cases eg : g items[i] ρ2 with
          | none => rw [eg] at hpost'; exact hpost'.elim
          | some ρ4 =>
            rw [eg] at hpost'
            refine qg G3 ρ2 σ2 H3 _ items[i] x ρ4 e3.j rx eg fun σ4 x4 _ => ?_
            have e4 := e3.trans x4
            have e04 := e1.trans e4
            refine qb G3 ρ4 σ4 H3 _ e4.j ?_
            cases eb : b ρ4 with
            | none => simp only [eb] at hpost'; exact hpost'.elim
            | some r =>
              cases r with
              | error x => simp only [eb] at hpost'; exact fun C dx H' z => hpost' C dx H' (XP.trans e04 z)
              | ok pr =>
                obtain ⟨ρ5, fl⟩ := pr
                cases fl with
                | nx => simp only [eb] at hpost'; exact fun G5 σ5 H5 x5 => ⟨G5, ρ5, e4.trans x5, hpost'⟩
                | ct => simp only [eb] at hpost'; exact fun G5 σ5 H5 x5 => ⟨G5, ρ5, e4.trans x5, hpost'⟩
                | bk => simp only [eb] at hpost'; exact fun G5 σ5 H5 x5 => hpost' G5 σ5 H5 (e04.trans x5)
                | rt d => simp only [eb] at hpost'; exact fun G5 σ5 v H5 x5 r => hpost' G5 σ5 v H5 (e04.trans x5) r
        · have e : i = items.length := by omega
          subst e
          rw [List.drop_length] at hpost
          exact .inl ⟨hstop (Nat.le_refl _), hpost G2 σ2 H2 (e1.trans e2)⟩
/-- while c: body, at most so many turns -/
def whileL (c : Mo Bool) (body : Mo Fl) : Nat → Mo Fl
  | 0 => fun _ => none
  | n + 1 => fun ρ => match c ρ with
    | none => none
    | some (.error x) => some (.error x)
    | some (.ok (ρ1, false)) => some (.ok (ρ1, .nx))
    | some (.ok (ρ1, true)) => match body ρ1 with
      | none => none
      | some (.error x) => some (.error x)
      | some (.ok (ρ2, .nx)) => whileL c body n ρ2
      | some (.ok (ρ2, .ct)) => whileL c body n ρ2
      | some (.ok (ρ2, .bk)) => some (.ok (ρ2, .nx))
      | some (.ok (ρ2, .rt d)) => some (.ok (ρ2, .rt d))
def sWhile (fuel : En → Nat) (c : Mo Bool) (body : Mo Fl) : Mo Fl := fun ρ => whileL c body (fuel ρ) ρ
theorem s_while {c : Expr} {body : List Stmt} {fc : Mo Bool} {b : Mo Fl} {pos : Pos} (fuel : En → Nat) (hp : PassesOwn (model X.prog X.w) X.A X.env X.xe) (hc : ET X E c fc) (hb : SVs X E body b) : SV X E (.While c body [] pos) (sWhile fuel fc b) := by
  obtain ⟨tc, pc, qc⟩ := hc
  obtain ⟨tb, pb, qb⟩ := hb
  refine ⟨_, ps_while hp pc pb, fun G ρ σ H De j h => ?_⟩
  refine ⟨fun m σ2 H2 => ∃ G2 ρ2, Ex X.K G ρ σ H G2 ρ2 σ2 H2 ∧ PostS X.K E G ρ σ H De (whileL fc b m ρ2), ⟨fuel ρ, G, ρ, j.refl, h⟩, ?_⟩
  rintro m σ2 H2 ⟨G2, ρ2, e2, hpost⟩
  cases m with
  | zero => exact hpost.elim
  | succ n =>
    have hpost' : PostS X.K E G ρ σ H De (match fc ρ2 with
      | none => none
      | some (.error x) => some (.error x)
      | some (.ok (ρ1, false)) => some (.ok (ρ1, .nx))
      | some (.ok (ρ1, true)) => match b ρ1 with
        | none => none
        | some (.error x) => some (.error x)
        | some (.ok (ρ2, .nx)) => whileL fc b n ρ2
        | some (.ok (ρ2, .ct)) => whileL fc b n ρ2
        | some (.ok (ρ2, .bk)) => some (.ok (ρ2, .nx))
        | some (.ok (ρ2, .rt d)) => some (.ok (ρ2, .rt d))) := hpost
    refine qc G2 ρ2 σ2 H2 _ e2.j ?_
    cases ec : fc ρ2 with
    | none => simp only [ec] at hpost'; exact hpost'.elim
    | some r =>
      cases r with
      | error x => simp only [ec] at hpost'; exact fun C dx H' z => hpost' C dx H' (XP.trans e2 z)
      | ok pr =>
        obtain ⟨ρ3, t⟩ := pr
        intro G3 t' H3 x3 ht
        subst ht
        have e3 := e2.trans x3
        cases t' with
        | false => simp only [ec] at hpost'; exact iteF (hpost' G3 σ2 H3 e3)
        | true =>
          simp only [ec] at hpost'
          refine iteT ⟨fun σ' H' => ∃ G4 ρ4, Ex X.K G ρ σ H G4 ρ4 σ' H' ∧ PostS X.K E G ρ σ H De (whileL fc b n ρ4), fun σ' H' ⟨G4, ρ4, x4, p4⟩ => ⟨n, Nat.lt_succ_self _, G4, ρ4, x4, p4⟩, ?_⟩
          refine qb G3 ρ3 σ2 H3 _ e3.j ?_
          cases eb : b ρ3 with
          | none => simp only [eb] at hpost'; exact hpost'.elim
          | some r =>
            cases r with
            | error x => simp only [eb] at hpost'; exact fun C dx H' z => hpost' C dx H' (XP.trans e3 z)
            | ok pr =>
              obtain ⟨ρ5, fl⟩ := pr
              cases fl with
              | nx => simp only [eb] at hpost'; exact fun G5 σ5 H5 x5 => ⟨G5, ρ5, e3.trans x5, hpost'⟩
              | ct => simp only [eb] at hpost'; exact fun G5 σ5 H5 x5 => ⟨G5, ρ5, e3.trans x5, hpost'⟩
              | bk => simp only [eb] at hpost'; exact fun G5 σ5 H5 x5 => hpost' G5 σ5 H5 (e3.trans x5)
              | rt d => simp only [eb] at hpost'; exact fun G5 σ5 v H5 x5 r => hpost' G5 σ5 v H5 (e3.trans x5) r
end
end HB
namespace HB
open PySem L2
def wipeE (ρ : En) : List Nat → En
  | [] => ρ
  | v :: vs => (wipeE ρ vs).set v .no
def restE (ρ0 ρ : En) : List Nat → En
  | [] => ρ
  | v :: vs => (restE ρ0 ρ vs).set v (ρ0.getD v .no)
def noOwn (ρ : En) : List Nat → Bool
  | [] => true
  | v :: vs => match ρ[v]? with
    | some (.own _) => false
    | some (.box _) => false
    | _ => noOwn ρ vs
theorem wipeE_len (ρ : En) : ∀ vs, (wipeE ρ vs).length = ρ.length
  | [] => rfl
  | v :: vs => by unfold wipeE; rw [List.length_set, wipeE_len ρ vs]
theorem restE_len (ρ0 ρ : En) : ∀ vs, (restE ρ0 ρ vs).length = ρ.length
  | [] => rfl
  | v :: vs => by unfold restE; rw [List.length_set, restE_len ρ0 ρ vs]
theorem wipeE_get {ρ : En} {k : Nat} {s : Sl} : ∀ {vs : List Nat}, (wipeE ρ vs)[k]? = some s → s = .no ∨ (k ∉ vs ∧ ρ[k]? = some s)
  | [], h => .inr ⟨by simp, h⟩
  | v :: vs, h => by
    unfold wipeE at h
    rcases getElem?_set_cases h with ⟨_, z⟩ | ⟨z, h'⟩
    · exact .inl z
    · rcases wipeE_get h' with z2 | ⟨z2, z3⟩
      · exact .inl z2
      · exact .inr ⟨by simp only [List.mem_cons, not_or]; exact ⟨z, z2⟩, z3⟩
theorem restE_get {ρ0 ρ : En} {k : Nat} {s : Sl} : ∀ {vs : List Nat}, (restE ρ0 ρ vs)[k]? = some s → (k ∈ vs ∧ s = ρ0.getD k .no) ∨ (k ∉ vs ∧ ρ[k]? = some s)
  | [], h => .inr ⟨by simp, h⟩
  | v :: vs, h => by
    unfold restE at h
    rcases getElem?_set_cases h with ⟨z1, z⟩ | ⟨z, h'⟩
    · exact .inl ⟨by rw [z1]; exact List.mem_cons_self, by rw [z, z1]⟩
    · rcases restE_get h' with ⟨z2, z3⟩ | ⟨z2, z3⟩
      · exact .inl ⟨List.mem_cons_of_mem _ z2, z3⟩
      · exact .inr ⟨by simp only [List.mem_cons, not_or]; exact ⟨z, z2⟩, z3⟩
theorem noOwn_at {ρ : En} {k : Nat} {s : Sl} {ds : List D} (hl : s.ls = some ds) : ∀ {vs : List Nat}, noOwn ρ vs = true → k ∈ vs → ρ[k]? ≠ some s
  | [], _, h => by cases h
  | v :: vs, h, hk => by
    unfold noOwn at h
    rcases List.mem_cons.mp hk with e | hk
    · subst e
      intro z
      rw [z] at h
      cases s with
      | no => cases hl
      | pur d => cases hl
      | own es => cases h
      | box es => cases h
    · refine noOwn_at hl (vs := vs) ?_ hk
      split at h
      · cases h
      · cases h
      · exact h
section
variable {K : PySem.W.Frag} {G H G' H' : Hp} {ρ ρ' : En} {σ σ' : St}
theorem J.wipe (j : J K G ρ σ H) (vs : List Nat) : J K G (wipeE ρ vs) (wipe σ vs) H where
  sub := j.sub
  len := by rw [wipeE_len, wipe_length]; exact j.len
  pur := fun i d h => by
    rcases wipeE_get h with z | ⟨z, h'⟩
    · cases z
    · rw [wipe_out z]; exact j.pur i d h'
  own := fun i s ds h hl => by
    rcases wipeE_get h with z | ⟨z, h'⟩
    · subst z; cases hl
    · rw [wipe_out z]; exact j.own i s ds h' hl
  dis := fun i k s t ds es b h1 l1 h2 l2 h3 h4 => by
    rcases wipeE_get h1 with z | ⟨z, h1'⟩
    · subst z; cases l1
    · rcases wipeE_get h2 with z2 | ⟨z2, h2'⟩
      · subst z2; cases l2
      · rw [wipe_out z] at h3
        rw [wipe_out z2] at h4
        exact j.dis i k s t ds es b h1' l1 h2' l2 h3 h4
theorem wipe_ownd {vs : List Nat} {b : Addr} (h : Ownd (wipeE ρ vs) (wipe σ vs) b) : Ownd ρ σ b := by
  obtain ⟨i, s, ds, h1, hl, h2⟩ := h
  rcases wipeE_get h1 with z | ⟨z, h1'⟩
  · subst z; cases hl
  · rw [wipe_out z] at h2
    exact ⟨i, s, ds, h1', hl, h2⟩
theorem Ex.wiped (e : Ex K G ρ σ H G' ρ' σ' H') (vs : List Nat) : Ex K G ρ σ H G' (wipeE ρ' vs) (L2.wipe σ' vs) H' :=
  ⟨e.j.wipe vs, e.g, e.new, e.kept, fun b hb => e.ow b (wipe_ownd hb), e.dom, fun i ds h => by
    rcases wipeE_get h with z | ⟨z, h'⟩
    · cases z
    · obtain ⟨w1, w2⟩ := e.bx i ds h'
      exact ⟨w1, by rw [wipe_out z]; exact w2⟩⟩
theorem wipe_ext {vs : List Nat} (h : Sets vs σ σ') : wipe σ' vs = wipe σ vs := by
  have key : ∀ (us : List Nat) (k : Nat) (τ : St), k < τ.length → (k ∈ us → (wipe τ us)[k]? = some none) := by
    intro us
    induction us with
    | nil => intro k τ _ hk; cases hk
    | cons u us ih =>
      intro k τ hl hk
      unfold L2.wipe
      by_cases hu : k = u
      · subst hu
        exact List.getElem?_set_self (by rw [wipe_length]; exact hl)
      · rw [List.getElem?_set_ne (Ne.symm hu)]
        exact ih k τ hl ((List.mem_cons.mp hk).resolve_left hu)
  apply List.ext_getElem?
  intro k
  by_cases hk : k ∈ vs
  · by_cases hl : k < σ.length
    · rw [key vs k σ hl hk, key vs k σ' (by rw [h.1]; exact hl) hk]
    · rw [List.getElem?_eq_none (by rw [wipe_length, h.1]; omega), List.getElem?_eq_none (by rw [wipe_length]; omega)]
  · rw [wipe_out hk, wipe_out hk]
    exact h.2 k hk
theorem rest_ownd {vs : List Nat} (no : noOwn ρ vs = true) {b : Addr} (h : Ownd (restE ρ ρ' vs) σ b) : Ownd ρ' (wipe σ vs) b := by
  obtain ⟨i, s0, ds, h1, hl, h2⟩ := h
  rcases restE_get h1 with ⟨z, h1'⟩ | ⟨z, h1'⟩
  · exfalso
    rw [List.getD_eq_getElem?_getD] at h1'
    cases q : ρ[i]? with
    | none => rw [q] at h1'; subst h1'; cases hl
    | some s =>
      rw [q] at h1'
      have e1 : s = s0 := h1'.symm
      subst e1
      exact noOwn_at hl no z q
  · exact ⟨i, s0, ds, h1', hl, by rw [wipe_out z]; exact h2⟩
theorem rest_out {vs : List Nat} (no : noOwn ρ vs = true) {m : Nat} {s0 : Sl} {fs : List D} (hm : (restE ρ ρ' vs)[m]? = some s0) (hl : s0.ls = some fs) : m ∉ vs ∧ ρ'[m]? = some s0 := by
  rcases restE_get hm with ⟨z, h'⟩ | z
  · exfalso
    rw [List.getD_eq_getElem?_getD] at h'
    cases q : ρ[m]? with
    | none => rw [q] at h'; subst h'; cases hl
    | some s =>
      rw [q] at h'
      have e1 : s = s0 := h'.symm
      subst e1
      exact noOwn_at hl no z q
  · exact z
/-- a thing of the block's own is changed -/
theorem Ex.poke {G1 H1 : Hp} {ρ1 : En} {σ1 : St} (e : Ex K G1 ρ1 σ1 H1 G ρ σ H) {p : Addr} {o : HO} (h1 : H1 p = none) (h2 : G p = none) (no : ¬ Ownd ρ σ p) : Ex K G1 ρ1 σ1 H1 G ρ σ (upd H p o) := by
  refine ⟨⟨fun b x q => ?_, e.j.len, e.j.pur, fun i s ds q hl => ?_, e.j.dis⟩, e.g, e.new, fun b x q n => ?_, e.ow, fun b hb => ?_, e.bx⟩
  · rw [upd_ne (ne_of_none q h2)]
    exact e.j.sub _ _ q
  · obtain ⟨a, vs, q1, q2, q3, q4⟩ := e.j.own i s ds q hl
    have ne : a ≠ p := fun z => by
      subst z
      exact no ⟨i, s, ds, q, hl, q1⟩
    exact ⟨a, vs, q1, by rw [upd_ne ne]; exact q2, q3, q4⟩
  · rw [upd_ne (ne_of_none q h1)]
    exact e.kept b x q n
  · by_cases z : b = p
    · subst z; exact h1
    · rw [upd_ne z] at hb
      exact e.dom b hb
/-- out of the block -/
theorem Ex.rest {vs : List Nat} (j : J K G ρ σ H) (no : noOwn ρ vs = true) (e : Ex K G (wipeE ρ vs) (wipe σ vs) H G' ρ' (wipe σ vs) H') : Ex K G ρ σ H G' (restE ρ ρ' vs) σ H' := by
  refine ⟨⟨e.j.sub, ?_, fun i d h => ?_, fun i s0 ds h hl => ?_, fun i k s0 t0 ds es b h1 l1 h2 l2 h3 h4 => ?_⟩, e.g, fun b hb => ?_, fun b o q n => e.kept b o q fun z => n (wipe_ownd z), fun b hb => ?_, e.dom, fun i ds h => ?_⟩
  · rw [restE_len, e.j.len, wipe_length]
  · rcases restE_get h with ⟨z, h'⟩ | ⟨z, h'⟩
    · rw [List.getD_eq_getElem?_getD] at h'
      cases q : ρ[i]? with
      | none => rw [q] at h'; cases h'
      | some s =>
        rw [q] at h'
        have e1 : s = .pur d := h'.symm
        subst e1
        obtain ⟨v, h1, h2⟩ := j.pur i d q
        exact ⟨v, h1, h2.mono e.g⟩
    · obtain ⟨v, h1, h2⟩ := e.j.pur i d h'
      rw [wipe_out z] at h1
      exact ⟨v, h1, h2⟩
  · obtain ⟨z, h'⟩ := rest_out no h hl
    obtain ⟨a, vs', h1, h2⟩ := e.j.own i s0 ds h' hl
    rw [wipe_out z] at h1
    exact ⟨a, vs', h1, h2⟩
  · obtain ⟨z1, h1'⟩ := rest_out no h1 l1
    obtain ⟨z2, h2'⟩ := rest_out no h2 l2
    exact e.j.dis i k s0 t0 ds es b h1' l1 h2' l2 (by rw [wipe_out z1]; exact h3) (by rw [wipe_out z2]; exact h4)
  · rcases e.new b hb with z | z | z
    · exact .inl z
    · exact .inr (.inl z)
    · exact .inr (.inr (wipe_ownd z))
  · rcases e.ow b (rest_ownd no hb) with z | z
    · exact .inl (wipe_ownd z)
    · exact .inr z
  · obtain ⟨z, h'⟩ := rest_out no h rfl
    obtain ⟨⟨es, w1⟩, w2⟩ := e.bx i ds h'
    rcases wipeE_get w1 with w3 | ⟨w3, w4⟩
    · cases w3
    · exact ⟨⟨es, w4⟩, rfl⟩
end
/-- turn by turn, as things stand -/
def lcI (vs : List Nat) (src : Src) (g : D → En → Option En) (test : Mo Bool) (elt : Mo D) : Nat → Nat → En → Option (En × List D)
  | 0, _, _ => none
  | n + 1, i, ρ => match src ρ with
    | none => none
    | some items => match items[i]? with
      | none => some (ρ, [])
      | some d => match g d ρ with
        | none => none
        | some ρ1 => match test ρ1 with
          | some (.ok (ρ2, true)) => match elt ρ2 with
            | some (.ok (ρ3, y)) => match lcI vs src g test elt n (i + 1) (wipeE ρ3 vs) with
              | some (ρ4, ys) => some (ρ4, y :: ys)
              | none => none
            | _ => none
          | some (.ok (ρ2, false)) => lcI vs src g test elt n (i + 1) (wipeE ρ2 vs)
          | _ => none
def mBlk (vs : List Nat) (src : Mo Src) (body : Src → En → Option (En × List D)) : Mo (List D) := mBind src fun s ρ => match noOwn ρ vs with
  | false => none
  | true => match body s (wipeE ρ vs) with
    | none => none
    | some (ρ', ys) => some (.ok (restE ρ ρ' vs, ys))
def tE (K : PySem.W.Frag) (E : XK) (f : Mo D) : TE := fun σ H Q => ∃ G ρ, J K G ρ σ H ∧ Post K E (Rp K) G ρ σ H Q (f ρ)
def tT (K : PySem.W.Frag) (E : XK) (f : Mo Bool) : TT := fun σ H Q => ∃ G ρ, J K G ρ σ H ∧ Post K E (fun _ b c => b = c) G ρ σ H Q (f ρ)
def tG (K : PySem.W.Frag) (g : D → En → Option En) (ws : List Nat) : TG := fun v σ H Q => ∃ G ρ d ρ', J K G ρ σ H ∧ Rp K G v d ∧ g d ρ = some ρ' ∧ ∀ σ', Ex K G ρ σ H G ρ' σ' H → Sets ws σ σ' → Q σ' H
section
variable {X : Cx} {E : XK}
theorem EV.pe {e : Expr} {f : Mo D} (h : EV X E e f) : PE X e (tE X.K E f) := by
  obtain ⟨t, p, q⟩ := h
  exact ⟨fun pins s σ H Q I ⟨G, ρ, j, z⟩ => p.run pins s σ H Q I (q G ρ σ H Q j z)⟩
theorem ET.pt {e : Expr} {f : Mo Bool} (h : ET X E e f) : PT X e (tT X.K E f) := by
  obtain ⟨t, p, q⟩ := h
  exact ⟨fun pins s σ H Q I ⟨G, ρ, j, z⟩ => p.run pins s σ H Q I (q G ρ σ H Q j z)⟩
theorem GV.pg {e : Expr} {g : D → En → Option En} {ws : List Nat} (h : GV X e g ws) : PG X e (tG X.K g ws) := by
  obtain ⟨t, p, q⟩ := h
  exact ⟨fun pins s σ H v u Q I r ⟨G, ρ, d, ρ', j, z, eg, k⟩ => p.run pins s σ H v u Q I r (q G ρ σ H Q d v ρ' j z eg k)⟩
/-- the tests of a clause -/
def EIf (X : Cx) (E : XK) (ifs : List Expr) (f : Mo Bool) : Prop := PTs X ifs (tT X.K E f)
theorem eif_nil : EIf X E [] (mRet true) := ⟨fun pins s σ H Q I ⟨G, ρ, j, z⟩ => pts_nil.run pins s σ H Q I (z G true H j.refl rfl)⟩
theorem eif_one {c : Expr} {f : Mo Bool} (h : ET X E c f) : EIf X E [c] f := pts_one h.pt
theorem lc_sem {wi : TI} {src : Mo Src} {js vs : List Nat} {g : D → En → Option En} {ws : List Nat} {test : Mo Bool} {elt : Mo D} (fuel : Nat) (hf : fuel ≤ 1000000)
    (qi : ∀ G ρ σ H R, J X.K G ρ σ H → PostI X.K E js G ρ σ H R (src ρ) → wi σ H R) (hjs : ∀ j ∈ js, j ∉ vs) (hws : ∀ k ∈ ws, k ∈ vs) :
    ∀ G ρ σ H Q, J X.K G ρ σ H → PostN X.K E G ρ σ H Q (mBlk vs src (fun s ρ => lcI vs s g test elt fuel 0 ρ) ρ) → tLc wi (tG X.K g ws) (tT X.K E0 test) (tE X.K E0 elt) vs σ H Q := by
  intro G ρ σ H Q j h
  refine qi G ρ σ H _ j ?_
  unfold mBlk mBind at h
  cases hs : src ρ with
  | none => rw [hs] at h; exact h
  | some r =>
    rw [hs] at h
    cases r with
    | error x => exact h
    | ok pr =>
      obtain ⟨ρ1, s⟩ := pr
      intro G1 H1 Jt e1 hit Dd hD
      have h' : PostN X.K E G ρ σ H Q (match noOwn ρ1 vs with
        | false => none
        | true => match lcI vs s g test elt fuel 0 (wipeE ρ1 vs) with
          | none => none
          | some (ρ', ys) => some (.ok (restE ρ1 ρ' vs, ys))) := h
      cases hno : noOwn ρ1 vs with
      | false => rw [hno] at h'; exact h'.elim
      | true =>
        simp only [hno] at h'
        cases hl : lcI vs s g test elt fuel 0 (wipeE ρ1 vs) with
        | none => simp only [hl] at h'; exact h'.elim
        | some out =>
          obtain ⟨ρE, ys⟩ := out
          simp only [hl] at h'
          have shD : Same H1 (upd H1 Dd (.lst [])) := same_upd hD
          have hGD : G1 Dd = none := e1.j.sub.free hD
          have x0 : Ex X.K G1 (wipeE ρ1 vs) (wipe σ vs) H1 G1 (wipeE ρ1 vs) (wipe σ vs) (upd H1 Dd (.lst [])) := new_list (e1.j.wipe vs) hD .nil
          refine ⟨fun i m H2 => ∃ (G2 : Hp) (ρ2 : En) (vacc : List V) (dacc rest : List D) (n : Nat), m = n ∧ n + i = fuel ∧ Ex X.K G1 (wipeE ρ1 vs) (wipe σ vs) H1 G2 ρ2 (wipe σ vs) H2 ∧ G2 Dd = none ∧ ¬ Ownd ρ2 (wipe σ vs) Dd ∧ H2 Dd = some (.lst vacc) ∧ RpAll X.K G2 vacc dacc ∧ dacc.length ≤ i ∧ lcI vs s g test elt n i ρ2 = some (ρE, rest) ∧ dacc ++ rest = ys,
            ⟨fuel, G1, wipeE ρ1 vs, [], [], ys, fuel, rfl, by omega, x0, hGD, (e1.j.wipe vs).nown hD, upd_same, .nil, Nat.le_refl _, hl, rfl⟩, ?_⟩
          rintro i m H2 ⟨G2, ρ2, vacc, dacc, rest, n, rfl, hfu, e2, hG2, hno2, hH2, racc, hla, hlc, hys⟩
          cases m with
          | zero => cases hlc
          | succ n =>
            unfold lcI at hlc
            cases hsrc : s ρ2 with
            | none => rw [hsrc] at hlc; cases hlc
            | some items =>
              rw [hsrc] at hlc
              obtain ⟨hgo, hstop⟩ := hit i G2 ρ2 (wipe σ vs) H2 items e2.g e2.j (fun jx hjx => wipe_out (hjs jx hjx)) hsrc
              cases hitem : items[i]? with
              | none =>
                simp only [hitem] at hlc
                cases hlc
                rw [List.append_nil] at hys
                subst hys
                have hle : items.length ≤ i := List.getElem?_eq_none_iff.mp hitem
                refine .inl ⟨hstop hle, ?_⟩
                have xr := Ex.rest e1.j hno e2
                refine h' G2 (.ref Dd) H2 (e1.trans xr) ⟨Dd, vacc, rfl, e1.dom _ hD, hG2, hH2, ?_, racc⟩
                exact fun z => hno2 (rest_ownd hno z)
              | some d =>
                obtain ⟨go, yld⟩ := hgo d hitem
                simp only [hitem] at hlc
                refine .inr ⟨go, fun H6 => ∃ (G6 : Hp) (ρ6 : En) (vacc' : List V) (dacc' rest' : List D), Ex X.K G1 (wipeE ρ1 vs) (wipe σ vs) H1 G6 ρ6 (wipe σ vs) H6 ∧ G6 Dd = none ∧ ¬ Ownd ρ6 (wipe σ vs) Dd ∧ H6 Dd = some (.lst vacc') ∧ RpAll X.K G6 vacc' dacc' ∧ dacc'.length ≤ i + 1 ∧ lcI vs s g test elt n (i + 1) ρ6 = some (ρE, rest') ∧ dacc' ++ rest' = ys,
                  fun H6 ⟨G6, ρ6, va, da, re, k1, k2, k3, k4, k5, k6, k7, k8⟩ => ⟨n, Nat.lt_succ_self _, G6, ρ6, va, da, re, n, rfl, by omega, k1, k2, k3, k4, k5, k6, k7, k8⟩, fun x H3 y => ?_⟩
                obtain ⟨G3, px, rx⟩ := yld x H3 y
                have e3 : Ex X.K G2 ρ2 (wipe σ vs) H2 G3 ρ2 (wipe σ vs) H3 := e2.j.ex px
                cases eg : g d ρ2 with
                | none => simp only [eg] at hlc; cases hlc
                | some ρ3 =>
                  simp only [eg] at hlc
                  refine ⟨G3, ρ2, d, ρ3, e3.j, rx, eg, fun σ4 x4 s4 => ⟨?_, G3, ρ3, x4.j, ?_⟩⟩
                  · have s5 : Sets vs (wipe σ vs) σ4 := ⟨s4.1, fun k hk => s4.2 k fun z => hk (hws k z)⟩
                    rw [wipe_ext s5]
                    exact wipe_ext ⟨wipe_length σ vs, fun k hk => wipe_out hk⟩
                  · have ew : wipe σ4 vs = wipe σ vs := by
                      have s5 : Sets vs (wipe σ vs) σ4 := ⟨s4.1, fun k hk => s4.2 k fun z => hk (hws k z)⟩
                      rw [wipe_ext s5]
                      exact wipe_ext ⟨wipe_length σ vs, fun k hk => wipe_out hk⟩
                    have e4 := e3.trans x4
                    cases et : test ρ3 with
                    | none => simp only [et] at hlc; cases hlc
                    | some rt =>
                      cases rt with
                      | error x => simp only [et] at hlc; cases hlc
                      | ok pt =>
                        obtain ⟨ρ5, b⟩ := pt
                        intro G5 b' H5 x5 hb
                        subst hb
                        have e5 := e4.trans x5
                        have out : ∀ {G7 : Hp} {ρ7 : En} {H7 : Hp}, Ex X.K G2 ρ2 (wipe σ vs) H2 G7 ρ7 σ4 H7 → Ex X.K G1 (wipeE ρ1 vs) (wipe σ vs) H1 G7 (wipeE ρ7 vs) (wipe σ vs) H7 ∧ G7 Dd = none ∧ ¬ Ownd (wipeE ρ7 vs) (wipe σ vs) Dd ∧ H7 Dd = some (.lst vacc) := by
                          intro G7 ρ7 H7 e7
                          have w7 := (e2.trans e7).wiped vs
                          rw [ew] at w7
                          refine ⟨w7, ?_, fun z => ?_, e7.kept Dd _ hH2 hno2⟩
                          · cases q : G7 Dd with
                            | none => rfl
                            | some o =>
                              rcases e7.new Dd (by rw [q]; simp) with z | z | z
                              · exact absurd hG2 z
                              · rw [hH2] at z; cases z
                              · exact absurd z hno2
                          · have w8 := e7.wiped vs
                            rw [ew] at w8
                            rcases w8.ow Dd z with z | z
                            · exact hno2 z
                            · rw [hH2] at z; cases z
                        cases b' with
                        | false =>
                          simp only [et] at hlc
                          obtain ⟨o1, o2, o3, o4⟩ := out e5
                          exact iteF ⟨G5, _, vacc, dacc, rest, o1, o2, o3, o4, racc.mono e5.g, by omega, hlc, hys⟩
                        | true =>
                          simp only [et] at hlc
                          refine iteT ⟨G5, ρ5, e5.j, ?_⟩
                          cases ee : elt ρ5 with
                          | none => simp only [ee] at hlc; cases hlc
                          | some re =>
                            cases re with
                            | error x => simp only [ee] at hlc; cases hlc
                            | ok pe =>
                              obtain ⟨ρ7, yd⟩ := pe
                              intro G7 yv H7 x7 ry
                              have e7 := e5.trans x7
                              simp only [ee] at hlc
                              cases er : lcI vs s g test elt n (i + 1) (wipeE ρ7 vs) with
                              | none => simp only [er] at hlc; cases hlc
                              | some ro =>
                                obtain ⟨ρ8, rest'⟩ := ro
                                simp only [er] at hlc
                                cases hlc
                                obtain ⟨o1, o2, o3, o4⟩ := out e7
                                refine ⟨vacc, o4, ?_, G7, _, vacc ++ [yv], dacc ++ [yd], rest', o1.poke hD o2 o3, o2, o3, upd_same, (racc.mono e7.g).append (.cons ry .nil), ?_, er, ?_⟩
                                · rw [racc.length]
                                  exact Nat.lt_of_lt_of_le (show dacc.length < 1000000 by omega) (by decide)
                                · simp only [List.length_append, List.length_singleton]
                                  omega
                                · rw [List.append_assoc]
                                  exact hys
/-- for sources that tell the same: by the list -/
def lcL (vs : List Nat) (g : D → En → Option En) (test : Mo Bool) (elt : Mo D) : List D → En → Option (En × List D)
  | [], ρ => some (ρ, [])
  | d :: ds, ρ => match g d ρ with
    | none => none
    | some ρ1 => match test ρ1 with
      | some (.ok (ρ2, true)) => match elt ρ2 with
        | some (.ok (ρ3, y)) => match lcL vs g test elt ds (wipeE ρ3 vs) with
          | some (ρ4, ys) => some (ρ4, y :: ys)
          | none => none
        | _ => none
      | some (.ok (ρ2, false)) => lcL vs g test elt ds (wipeE ρ2 vs)
      | _ => none
theorem lcI_of {vs : List Nat} {src : Src} {g : D → En → Option En} {test : Mo Bool} {elt : Mo D} {items : List D} (hc : ∀ ρ, src ρ = some items) : ∀ (n i : Nat) (ds : List D) (ρ : En) (r : En × List D), items.drop i = ds → ds.length < n → lcL vs g test elt ds ρ = some r → lcI vs src g test elt n i ρ = some r
  | 0, _, _, _, _, _, h, _ => absurd h (Nat.not_lt_zero _)
  | n + 1, i, [], ρ, r, hd, _, h => by
    unfold lcI
    rw [hc ρ]
    have e : items[i]? = none := by
      rw [List.getElem?_eq_none_iff]
      exact List.drop_eq_nil_iff.mp hd
    simp only [e]
    exact h
  | n + 1, i, d :: ds, ρ, r, hd, hl, h => by
    unfold lcI
    rw [hc ρ]
    have e : items[i]? = some d := by
      have e2 := congrArg (·[0]?) hd
      simpa using e2
    have e3 : items.drop (i + 1) = ds := by
      have e4 : (items.drop i).drop 1 = ds := by rw [hd]; rfl
      rw [List.drop_drop] at e4
      exact e4
    have hl2 : ds.length < n := by
      rw [List.length_cons] at hl
      omega
    simp only [e]
    unfold lcL at h
    cases eg : g d ρ with
    | none => simp only [eg] at h; cases h
    | some ρ1 =>
      simp only [eg] at h ⊢
      cases et : test ρ1 with
      | none => simp only [et] at h; cases h
      | some rt =>
        cases rt with
        | error x => simp only [et] at h; cases h
        | ok pt =>
          obtain ⟨ρ2, b⟩ := pt
          cases b with
          | false =>
            simp only [et] at h ⊢
            exact lcI_of hc n (i + 1) ds _ r e3 hl2 h
          | true =>
            simp only [et] at h ⊢
            cases ee : elt ρ2 with
            | none => simp only [ee] at h; cases h
            | some re =>
              cases re with
              | error x => simp only [ee] at h; cases h
              | ok pe =>
                obtain ⟨ρ3, y⟩ := pe
                simp only [ee] at h ⊢
                cases er : lcL vs g test elt ds (wipeE ρ3 vs) with
                | none => simp only [er] at h; cases h
                | some ro =>
                  simp only [er] at h
                  rw [lcI_of hc n (i + 1) ds _ ro e3 hl2 er]
                  exact h
def lcBody (vs : List Nat) (g : D → En → Option En) (test : Mo Bool) (elt : Mo D) : Src → En → Option (En × List D) := fun s ρ => match s [] with
  | none => none
  | some items => match Nat.blt items.length 1000000 with
    | false => none
    | true => lcL vs g test elt items ρ
/-- a comprehension -/
def LC (X : Cx) (E : XK) (elt tg iter : Expr) (ifs : List Expr) (scope : Scope) (f : Mo (List D)) : Prop := ∃ wi g tt te own, PI X tg iter wi ∧ BlkOk X.N X.env.scope scope own ∧
  (∀ (s : Shared) (H : Hp) (C : Addr) (cl : List (Str × Addr)) (fp : List Addr), PG (X.blk s H scope (compEnvC scope cl C X.env) fp) tg g) ∧ (∀ (s : Shared) (H : Hp) (C : Addr) (cl : List (Str × Addr)) (fp : List Addr), PTs (X.blk s H scope (compEnvC scope cl C X.env) fp) ifs tt) ∧
  (∀ (s : Shared) (H : Hp) (C : Addr) (cl : List (Str × Addr)) (fp : List Addr), PE (X.blk s H scope (compEnvC scope cl C X.env) fp) elt te) ∧ (∀ x, foldedSetIterable iter X.env x = pure x) ∧
  ∀ G ρ σ H Q, J X.K G ρ σ H → PostN X.K E G ρ σ H Q (f ρ) → tLc wi g tt te (own.map (·.2)) σ H Q
theorem lc_I {elt tg iter : Expr} {ifs : List Expr} {scope : Scope} {own : List (Str × Nat)} {src : Mo Src} {js ws : List Nat} {g : D → En → Option En} {test : Mo Bool} {fe : Mo D} (hi : IV X E tg iter src js) (ok : BlkOk X.N X.env.scope scope own)
    (hg : ∀ (s : Shared) (H : Hp) (C : Addr) (cl : List (Str × Addr)) (fp : List Addr), GV (X.blk s H scope (compEnvC scope cl C X.env) fp) tg g ws) (ht : ∀ (s : Shared) (H : Hp) (C : Addr) (cl : List (Str × Addr)) (fp : List Addr), EIf (X.blk s H scope (compEnvC scope cl C X.env) fp) E0 ifs test)
    (he : ∀ (s : Shared) (H : Hp) (C : Addr) (cl : List (Str × Addr)) (fp : List Addr), EV (X.blk s H scope (compEnvC scope cl C X.env) fp) E0 elt fe) (hjs : ∀ j ∈ js, j ∉ own.map (·.2) := by decide) (hws : ∀ k ∈ ws, k ∈ own.map (·.2) := by decide) (hs : ∀ x, foldedSetIterable iter X.env x = pure x := by intro _; rfl) :
    LC X E elt tg iter ifs scope (mBlk (own.map (·.2)) src fun s ρ => lcI (own.map (·.2)) s g test fe 1000000 0 ρ) := by
  obtain ⟨wi, pi, qi⟩ := hi
  exact ⟨wi, tG X.K g ws, tT X.K E0 test, tE X.K E0 fe, own, pi, ok, fun s H C cl fp => (hg s H C cl fp).pg, ht, fun s H C cl fp => (he s H C cl fp).pe, hs, lc_sem 1000000 (Nat.le_refl _) qi hjs hws⟩
theorem LC.by {elt tg iter : Expr} {ifs : List Expr} {scope : Scope} {f f' : Mo (List D)} (h : LC X E elt tg iter ifs scope f) (k : ∀ ρ r, f' ρ = some r → f ρ = some r) : LC X E elt tg iter ifs scope f' := by
  obtain ⟨wi, g, tt, te, own, h1, h2, h3, h4, h5, h6, q⟩ := h
  refine ⟨wi, g, tt, te, own, h1, h2, h3, h4, h5, h6, fun G ρ σ H Q j h => q G ρ σ H Q j ?_⟩
  cases e : f' ρ with
  | none => rw [e] at h; exact h.elim
  | some r => rw [k ρ r e]; rw [e] at h; exact h
theorem LC.en {elt tg iter : Expr} {ifs : List Expr} {scope : Scope} {f : Mo (List D)} {pos : Pos} (h : LC X E elt tg iter ifs scope f) (hc : X.calm = true) (hN : X.N.Nodup) : EN X E (.ListComp elt [⟨tg, iter, ifs, 0⟩] scope pos) f := by
  obtain ⟨wi, g, tt, te, own, h1, h2, h3, h4, h5, h6, q⟩ := h
  exact ⟨_, pe_lc hc hN h1 h2 h3 h4 h5 h6, q⟩
theorem LC.set {elt tg iter : Expr} {ifs : List Expr} {scope : Scope} {f : Mo (List D)} {pos spos : Pos} {i : Nat} {y : Str} {py : Pos} (h : LC X E elt tg iter ifs scope f) (hc : X.calm = true) (hN : X.N.Nodup) (hsw : swapsWith (.ListComp elt [⟨tg, iter, ifs, 0⟩] scope pos) (some (.Name y py)) spos.line X.env = pure true)
    (hy : X.N[i]? = some y := by rfl) (hyl : X.env.scope.names.lookup y = some .local := by rfl) : SV X E (.Assign [.Name y py] (.ListComp elt [⟨tg, iter, ifs, 0⟩] scope pos) spos) (sSet i (mList f)) := by
  obtain ⟨wi, g, tt, te, own, h1, h2, h3, h4, h5, h6, q⟩ := h
  refine ⟨_, ps_setLc hc hN hy hyl hsw h1 h2 h3 h4 h5 h6, fun G ρ σ H De j h => q G ρ σ H _ j ?_⟩
  unfold sSet mList mBind at h
  cases hh : f ρ with
  | none => simp only [hh] at h; exact h
  | some r =>
    cases r with
    | error x => simp only [hh] at h; exact h
    | ok pr =>
      obtain ⟨ρ', ds⟩ := pr
      simp only [hh] at h
      intro G' v H' e r
      obtain ⟨a, vs, rfl, z1, z2, z3, no, z4⟩ := r
      have e2 := e.still z1 z2 z3 no
      exact h _ _ H' (e2.trans (Ex.set e2.j i (.lst upd_same (z4.mono (same_upd z2)))))
theorem LC.own {elt tg iter : Expr} {ifs : List Expr} {scope : Scope} {f : Mo (List D)} {pos spos : Pos} {i : Nat} {y : Str} {py : Pos} (h : LC X E elt tg iter ifs scope f) (hc : X.calm = true) (hN : X.N.Nodup) (hsw : swapsWith (.ListComp elt [⟨tg, iter, ifs, 0⟩] scope pos) (some (.Name y py)) spos.line X.env = pure true)
    (hy : X.N[i]? = some y := by rfl) (hyl : X.env.scope.names.lookup y = some .local := by rfl) : SV X E (.Assign [.Name y py] (.ListComp elt [⟨tg, iter, ifs, 0⟩] scope pos) spos) (sOwn i f) := by
  obtain ⟨wi, g, tt, te, own, h1, h2, h3, h4, h5, h6, q⟩ := h
  refine ⟨_, ps_setLc hc hN hy hyl hsw h1 h2 h3 h4 h5 h6, fun G ρ σ H De j h => q G ρ σ H _ j ?_⟩
  unfold sOwn mBind at h
  cases hh : f ρ with
  | none => simp only [hh] at h; exact h
  | some r =>
    cases r with
    | error x => simp only [hh] at h; exact h
    | ok pr =>
      obtain ⟨ρ', ds⟩ := pr
      simp only [hh] at h
      exact fun G' v H' e r => h G' _ H' (e.setOwn i r)
theorem EN.by {e : Expr} {f f' : Mo (List D)} (h : EN X E e f) (k : ∀ ρ r, f' ρ = some r → f ρ = some r) : EN X E e f' := by
  obtain ⟨t, p, q⟩ := h
  refine ⟨t, p, fun G ρ σ H Q j h => q G ρ σ H Q j ?_⟩
  cases e : f' ρ with
  | none => rw [e] at h; exact h.elim
  | some r => rw [k ρ r e]; rw [e] at h; exact h
theorem blk_by {vs : List Nat} {src : Mo Src} {g : D → En → Option En} {test : Mo Bool} {fe : Mo D} (hcs : ∀ ρ ρ' s, src ρ = some (.ok (ρ', s)) → Const s) : ∀ ρ r, mBlk vs src (lcBody vs g test fe) ρ = some r → mBlk vs src (fun s ρ => lcI vs s g test fe 1000000 0 ρ) ρ = some r := by
  intro ρ r h
  unfold mBlk mBind at h ⊢
  cases hs : src ρ with
  | none => simp only [hs] at h; cases h
  | some o =>
    cases o with
    | error x => simp only [hs] at h ⊢; exact h
    | ok p =>
      obtain ⟨ρ1, s⟩ := p
      have hcon := hcs ρ ρ1 s hs
      simp only [hs] at h ⊢
      cases hno : noOwn ρ1 vs with
      | false => simp only [hno] at h; cases h
      | true =>
        simp only [hno] at h ⊢
        unfold lcBody at h
        cases hi : s [] with
        | none => simp only [hi] at h; cases h
        | some items =>
          simp only [hi] at h
          cases hb : Nat.blt items.length 1000000 with
          | false => simp only [hb] at h; cases h
          | true =>
            simp only [hb] at h
            cases hl : lcL vs g test fe items (wipeE ρ1 vs) with
            | none => simp only [hl] at h; cases h
            | some ro =>
              simp only [hl] at h
              have hlt : items.length < 1000000 := by
                unfold Nat.blt at hb
                exact Nat.le_of_ble_eq_true hb
              rw [lcI_of (fun ρ => (hcon ρ).trans hi) 1000000 0 items _ ro (by simp) hlt hl]
              exact h
theorem lc_c {elt tg iter : Expr} {ifs : List Expr} {scope : Scope} {own : List (Str × Nat)} {src : Mo Src} {ws : List Nat} {g : D → En → Option En} {test : Mo Bool} {fe : Mo D} (hi : IV X E tg iter src []) (hcs : ∀ ρ ρ' s, src ρ = some (.ok (ρ', s)) → Const s) (ok : BlkOk X.N X.env.scope scope own)
    (hg : ∀ (s : Shared) (H : Hp) (C : Addr) (cl : List (Str × Addr)) (fp : List Addr), GV (X.blk s H scope (compEnvC scope cl C X.env) fp) tg g ws) (ht : ∀ (s : Shared) (H : Hp) (C : Addr) (cl : List (Str × Addr)) (fp : List Addr), EIf (X.blk s H scope (compEnvC scope cl C X.env) fp) E0 ifs test)
    (he : ∀ (s : Shared) (H : Hp) (C : Addr) (cl : List (Str × Addr)) (fp : List Addr), EV (X.blk s H scope (compEnvC scope cl C X.env) fp) E0 elt fe) (hws : ∀ k ∈ ws, k ∈ own.map (·.2) := by decide) (hs : ∀ x, foldedSetIterable iter X.env x = pure x := by intro _; rfl) :
    LC X E elt tg iter ifs scope (mBlk (own.map (·.2)) src (lcBody (own.map (·.2)) g test fe)) :=
  (lc_I hi ok hg ht he (fun _ z => nomatch z) hws hs).by (blk_by hcs)
/-- sources that tell the same -/
theorem const_seq {f : Mo D} : ∀ ρ ρ' s, mSeqS f ρ = some (.ok (ρ', s)) → Const s := by
  intro ρ ρ' s h
  unfold mSeqS mBind mLift at h
  cases e : f ρ with
  | none => simp only [e] at h; cases h
  | some o =>
    cases o with
    | error x => simp only [e] at h; cases h
    | ok p =>
      obtain ⟨ρ1, d⟩ := p
      simp only [e] at h
      cases hi : itemsD d with
      | none => simp only [hi, Option.map] at h; cases h
      | some ds =>
        simp only [hi, Option.map] at h
        cases h
        exact fun _ => rfl
theorem const_range1 {f : Mo (List D)} : ∀ ρ ρ' s, mRange range1D f ρ = some (.ok (ρ', s)) → Const s := by
  intro ρ ρ' s h
  unfold mRange mBind mLift at h
  cases e : f ρ with
  | none => simp only [e] at h; cases h
  | some o =>
    cases o with
    | error x => simp only [e] at h; cases h
    | ok p =>
      obtain ⟨ρ1, ds⟩ := p
      simp only [e] at h
      cases hi : range1D ds with
      | none => simp only [hi] at h; cases h
      | some src =>
        simp only [hi] at h
        cases h
        match ds, hi with
        | [.int j], hi =>
          obtain ⟨_, rfl⟩ := ite_some (show (if -1000000000 ≤ j ∧ j ≤ 1000000000 then some (constS (rangeD 0 j.toNat)) else none) = some s from hi)
          exact fun _ => rfl
theorem const_range2 {f : Mo (List D)} : ∀ ρ ρ' s, mRange range2D f ρ = some (.ok (ρ', s)) → Const s := by
  intro ρ ρ' s h
  unfold mRange mBind mLift at h
  cases e : f ρ with
  | none => simp only [e] at h; cases h
  | some o =>
    cases o with
    | error x => simp only [e] at h; cases h
    | ok p =>
      obtain ⟨ρ1, ds⟩ := p
      simp only [e] at h
      cases hi : range2D ds with
      | none => simp only [hi] at h; cases h
      | some src =>
        simp only [hi] at h
        cases h
        match ds, hi with
        | [.int i, .int j], hi =>
          obtain ⟨_, rfl⟩ := ite_some (show (if -1000000000 ≤ i ∧ i ≤ 1000000000 ∧ -1000000000 ≤ j ∧ j ≤ 1000000000 then some (constS (rangeD i (j - i).toNat)) else none) = some s from hi)
          exact fun _ => rfl
end
end HB
namespace HB
open PySem L2
section
variable {X : Cx} {E : XK}
def isIntT : D → Option Bool
  | .bool _ => some true
  | .int _ => some true
  | .dict _ => none
  | _ => some false
def isBoolT : D → Option Bool
  | .bool _ => some true
  | .dict _ => none
  | _ => some false
def isStrT : D → Option Bool
  | .str _ => some true
  | .dict _ => none
  | _ => some false
def isTupT : D → Option Bool
  | .tuple _ => some true
  | .dict _ => none
  | _ => some false
def isLstT : D → Option Bool
  | .list _ => some true
  | .dict _ => none
  | _ => some false
def isSeqT : D → Option Bool
  | .list _ => some true
  | .tuple _ => some true
  | .dict _ => none
  | _ => some false
def IsTab (T : String) (tb : D → Option Bool) : Prop := ∀ d b, tb d = some b → ∃ n, tyD d = some n ∧ kitB n T = some b
theorem tab_int : IsTab "int" isIntT := by
  intro d b h
  cases d <;> first
    | (cases h; exact ⟨_, rfl, by decide +kernel⟩)
    | (cases h; done)
theorem tab_bool : IsTab "bool" isBoolT := by
  intro d b h
  cases d <;> first
    | (cases h; exact ⟨_, rfl, by decide +kernel⟩)
    | (cases h; done)
theorem tab_str : IsTab "str" isStrT := by
  intro d b h
  cases d <;> first
    | (cases h; exact ⟨_, rfl, by decide +kernel⟩)
    | (cases h; done)
theorem tab_tup : IsTab "tuple" isTupT := by
  intro d b h
  cases d <;> first
    | (cases h; exact ⟨_, rfl, by decide +kernel⟩)
    | (cases h; done)
theorem tab_lst : IsTab "list" isLstT := by
  intro d b h
  cases d <;> first
    | (cases h; exact ⟨_, rfl, by decide +kernel⟩)
    | (cases h; done)
def mIsi (tb : D → Option Bool) (f : Mo D) : Mo D := mBind f fun d => mLift ((tb d).map .bool)
theorem ev_isi {T : String} {x : Str} {tb : D → Option Bool} {e : Expr} {f : Mo D} {p p2 pos : Pos} (ht : IsTab T tb) (h : EV X E e f) (hm : X.mg "isinstance" = none) (hmT : X.mg x = none) (hvT : bootBuiltins x = some (.type T)) (hn : x ≠ "__name__" := by decide) (hdb : (x == ("__debug__" : Str)) = false := by decide)
    (hg : Gl X "isinstance" := by rfl) (hgT : Gl X x := by rfl) (he : starEach [e, .Name x p2] X.env = (false, eval e X.env) :: starEach [.Name x p2] X.env := by rfl) (hpl : (backTo pos (starEach [.Name x p2] X.env)).any (·.1) = false := by rfl) : EV X E (.Call (.Name "isinstance" p) [e, .Name x p2] [] pos) (mIsi tb f) := by
  obtain ⟨t, pt, q⟩ := h
  refine ⟨_, pe_callB call_isi hg hm (by decide +kernel) (pa_cons pt (pa_cons (pe_bltn (v := .ty T) hgT hmT hvT rfl hn hdb) pa_nil) he) (by decide) (by decide) he hpl, fun G ρ σ H Q j h => q G ρ σ H _ j (Post.imp h fun G1 ρ1 v H1 d e1 r1 h1 => ?_)⟩
  obtain ⟨c, hc, k⟩ := Post.lift (ρ' := ρ1) h1
  cases hb : tb d with
  | none => rw [hb] at hc; cases hc
  | some b =>
    rw [hb] at hc
    cases hc
    obtain ⟨n, h2, h3⟩ := ht d b hb
    exact ⟨v, .ty T, .type n, .type T, b, rfl, .ty T, r1.ty e1.j.sub h2, kit_ty h3, k G1 _ H1 e1.j.refl (.bl b)⟩
/-- isinstance(x, (list, tuple)) -/
theorem ev_isiLT {e : Expr} {f : Mo D} {p p2 p3 p4 pos : Pos} {kk : Nat} (h : EV X E e f) (hm : X.mg "isinstance" = none) (hmL : X.mg "list" = none) (hmT : X.mg "tuple" = none)
    (hg : Gl X "isinstance" := by rfl) (hgL : Gl X "list" := by rfl) (hgT : Gl X "tuple" := by rfl) (he : starEach [e, .Tuple [.Name "list" p2, .Name "tuple" p3] kk p4] X.env = (false, eval e X.env) :: starEach [.Tuple [.Name "list" p2, .Name "tuple" p3] kk p4] X.env := by rfl) (hpl : (backTo pos (starEach [.Tuple [.Name "list" p2, .Name "tuple" p3] kk p4] X.env)).any (·.1) = false := by rfl) :
    EV X E (.Call (.Name "isinstance" p) [e, .Tuple [.Name "list" p2, .Name "tuple" p3] kk p4] [] pos) (mIsi isSeqT f) := by
  obtain ⟨t, pt, q⟩ := h
  refine ⟨_, pe_callB call_isiT hg hm (by decide +kernel) (pa_cons pt (pa_cons (pe_tup (pa_cons (pe_bltn (v := .ty "list") hgL hmL (by decide +kernel) rfl) (pa_cons (pe_bltn (v := .ty "tuple") hgT hmT (by decide +kernel) rfl) pa_nil))) pa_nil) he) (by decide) (by decide) he hpl, fun G ρ σ H Q j h => q G ρ σ H _ j (Post.imp h fun G1 ρ1 v H1 d e1 r1 h1 => ?_)⟩
  obtain ⟨c, hc, k⟩ := Post.lift (ρ' := ρ1) h1
  refine ⟨by show 2 ≤ sizeLine; decide, fun tp htp => ?_⟩
  have sh : Same H1 (upd H1 tp (.tup [.ty "list", .ty "tuple"])) := same_upd htp
  have x2 : Ex X.K G1 ρ1 σ H1 G1 ρ1 σ (upd H1 tp (.tup [.ty "list", .ty "tuple"])) := by
    refine ⟨⟨e1.j.sub.trans sh, e1.j.len, e1.j.pur, fun i s ds e hl => ?_, e1.j.dis⟩, .refl _, fun b hb => .inl hb, fun b o e _ => sh _ _ e, fun b hb => .inl hb, fun b hb => sh.free hb, fun i ds h => ⟨⟨ds, h⟩, rfl⟩⟩
    obtain ⟨a, vs, z1, z2, z3, z4⟩ := e1.j.own i s ds e hl
    exact ⟨a, vs, z1, sh _ _ z2, z3, z4⟩
  have key : ∀ b, isSeqT d = some b → ∃ n, tyD d = some n ∧ PySem.W.kitAny X.K (.type n) [.type "list", .type "tuple"] = some b := by
    intro b hb
    cases d <;> first
      | (cases hb; exact ⟨_, rfl, by kernel_rfl⟩)
      | (cases hb; done)
  cases hb : isSeqT d with
  | none => rw [hb] at hc; cases hc
  | some b =>
    rw [hb] at hc
    cases hc
    obtain ⟨n, h2, h3⟩ := key b hb
    exact ⟨v, tp, [.ty "list", .ty "tuple"], .type n, [.type "list", .type "tuple"], b, rfl, upd_same, .cons (.ty _) (.cons (.ty _) .nil), r1.ty x2.j.sub h2, h3, k G1 _ _ x2 (.bl b)⟩
def mNoPart : Mo (Option Int) := mRet none
def intOf : D → Option Int
  | .int i => some i
  | _ => none
def mPart (f : Mo D) : Mo (Option Int) := mBind f fun d => mLift ((intOf d).map some)
def EO (X : Cx) (E : XK) (e : Option Expr) (f : Mo (Option Int)) : Prop := ∃ t, PO X e t ∧ ∀ G ρ σ H Q, J X.K G ρ σ H → Post X.K E (fun _ b c => b = c) G ρ σ H Q (f ρ) → t σ H Q
theorem eo_none : EO X E none mNoPart := ⟨_, po_none, fun G ρ σ H Q j h => h G none H j.refl rfl⟩
theorem eo_some {e : Expr} {f : Mo D} (h : EV X E e f) : EO X E (some e) (mPart f) := by
  obtain ⟨t, p, q⟩ := h
  refine ⟨_, po_some p, fun G ρ σ H Q j h => q G ρ σ H _ j (Post.imp h fun G1 ρ1 v H1 d e1 r1 h1 => ?_)⟩
  obtain ⟨c, hc, k⟩ := Post.lift (ρ' := ρ1) h1
  cases r1 with
  | int i => cases hc; exact ⟨i, rfl, k G1 _ H1 e1.j.refl rfl⟩
  | _ => cases hc
def cutD {α : Type} (xs : List α) (lo hi : Option Int) : List α := (xs.drop (HT.sIx xs.length 0 lo)).take (HT.sIx xs.length xs.length hi - HT.sIx xs.length 0 lo)
theorem RpAll.cut {K : PySem.W.Frag} {G : Hp} {vs : List V} {ds : List D} (r : RpAll K G vs ds) (lo hi : Option Int) : RpAll K G (cutV vs lo hi) (cutD ds lo hi) := by
  unfold cutV cutD
  rw [r.length]
  exact (r.drop _).take _
def slD (lo hi : Option Int) : D → Option D
  | .list ds => some (.list (cutD ds lo hi))
  | .tuple ds => some (.tuple (cutD ds lo hi))
  | .dict [(.none, .list ds)] => some (.list (cutD ds lo hi))
  | .str z => if z.length ≤ 1000000 then some (.str (cutS z lo hi)) else none
  | _ => none
def mSlice (f : Mo D) (lo hi : Mo (Option Int)) : Mo D := mBind f fun d => mBind lo fun l => mBind hi fun h => mLift (slD l h d)
theorem cutV_all {xs : List V} {lo hi : Option Int} (h1 : HT.sIx xs.length 0 lo = 0) (h2 : HT.sIx xs.length xs.length hi = xs.length) : cutV xs lo hi = xs := by
  unfold cutV
  rw [h1, h2]
  simp
theorem ev_slice {e : Expr} {lo hi : Option Expr} {f : Mo D} {fl fh : Mo (Option Int)} {p2 pos : Pos} (h : EV X E e f) (hl : EO X E lo fl) (hh : EO X E hi fh) : EV X E (.Subscript e (.Slice lo hi none p2) pos) (mSlice f fl fh) := by
  obtain ⟨t, p, q⟩ := h
  obtain ⟨tl, pl, ql⟩ := hl
  obtain ⟨th, ph, qh⟩ := hh
  refine ⟨_, pe_slice (sl_list.or ((sl_tupP.or sl_tupA).or sl_str)) p pl ph, fun G ρ σ H Q j h => q G ρ σ H _ j (Post.imp h fun G1 ρ1 v H1 d e1 r1 h1 => ?_)⟩
  refine ql G1 ρ1 σ H1 _ e1.j (Post.imp h1 fun G2 ρ2 l H2 l' e2 rl h2 => ?_)
  subst rl
  refine qh G2 ρ2 σ H2 _ e2.j (Post.imp h2 fun G3 ρ3 u H3 u' e3 ru h3 => ?_)
  subst ru
  obtain ⟨c, hc, k⟩ := Post.lift (ρ' := ρ3) h3
  have r3 : Rp X.K G3 v d := (r1.mono e2.g).mono e3.g
  have s3 := e3.j.sub
  cases r3 with
  | @lst a xs ds z1 z2 =>
    cases hc
    refine .inl ⟨a, xs, rfl, .of (s3 _ _ z1), fun p hp => ?_⟩
    have px : PX G3 H3 _ _ := .alloc s3 hp (.lst (cutV xs l u))
    exact k _ _ _ (e3.j.ex px) (.lst upd_same ((z2.cut l u).mono px.g))
  | @tup a xs ds z1 z2 =>
    cases hc
    by_cases hw : HT.sIx xs.length 0 l = 0 ∧ HT.sIx xs.length xs.length u = xs.length
    · refine .inr (.inl (.inr ⟨a, xs, rfl, sqT_mono s3 z1.t, fun _ => ?_, fun no => absurd hw no⟩))
      have e := z2.cut l u
      rw [cutV_all hw.1 hw.2] at e
      exact k G3 _ H3 e3.j.refl (.tup z1 e)
    · refine .inr (.inl (.inl ⟨a, xs, rfl, sqT_mono s3 z1.t, hw, fun p o hp nd => ?_⟩))
      have px : PX G3 H3 _ _ := .alloc s3 hp (.frz o (.tup (cutV xs l u)))
      exact k _ _ _ (e3.j.ex px) (.tup (.new nd) ((z2.cut l u).mono px.g))
  | @frz a xs ds z1 z2 =>
    cases hc
    refine .inl ⟨a, xs, rfl, s3.seq z1, fun p hp => ?_⟩
    have px : PX G3 H3 _ _ := .alloc s3 hp (.lst (cutV xs l u))
    exact k _ _ _ (e3.j.ex px) (.lst upd_same ((z2.cut l u).mono px.g))
  | str z =>
    obtain ⟨h4, rfl⟩ := ite_some (show (if z.length ≤ 1000000 then some (PyData.str (cutS z l u)) else none) = some c from hc)
    exact .inr (.inr ⟨z, rfl, line_of h4, k G3 _ H3 e3.j.refl (.str _)⟩)
  | obj z1 z2 => cases hc
  | _ => cases hc
def fldIn (f : Str) : List (D × D) → Option D
  | [] => none
  | (.str g, d) :: r => if g = f then some d else fldIn f r
  | _ :: _ => none
def fldD (c f : Str) : D → Option D
  | .dict ((.str c', .none) :: kvs) => if c' = c then fldIn f kvs else none
  | _ => none
theorem RpF.look {K : PySem.W.Frag} {G : Hp} {f : Str} : ∀ {fs : List (Str × V)} {kvs : List (D × D)} {d : D}, RpF K G fs kvs → fldIn f kvs = some d → ∃ v, fs.lookup f = some v ∧ Rp K G v d
  | _, _, _, .nil, h => by cases h
  | _, _, d, @RpF.cons _ _ g v fs e kvs h t, q => by
    have q' : (if g = f then some e else fldIn f kvs) = some d := q
    by_cases z : g = f
    · rw [if_pos z] at q'
      cases q'
      subst z
      exact ⟨v, by simp [List.lookup], h⟩
    · rw [if_neg z] at q'
      obtain ⟨v', h1, h2⟩ := RpF.look t q'
      refine ⟨v', ?_, h2⟩
      have e1 : (f == g) = false := beq_eq_false_iff_ne.mpr (Ne.symm z)
      simp only [List.lookup, e1]
      exact h1
theorem ev_fld {e : Expr} {f : Mo D} {c a : Str} {pos : Pos} (h : EV X E e f) (hc : Cls X.K (He.ga X.K c)) (hn : NoAttr X.K (He.ga X.K c) a) (hb : attributeBase e a X.env (eval e X.env) = eval e X.env := by rfl) : EV X E (.Attribute e a pos) (mUn (fldD c a) f) := by
  obtain ⟨t, p, q⟩ := h
  refine ⟨_, pe_fld p hb, fun G ρ σ H Q j h => q G ρ σ H _ j (Post.imp h fun G1 ρ1 v H1 d e1 r1 h1 => ?_)⟩
  obtain ⟨y, hy, k⟩ := Post.lift (ρ' := ρ1) h1
  cases r1 with
  | @obj ad dx c' fs kvs z1 z2 =>
    obtain ⟨rfl, h3⟩ : c' = c ∧ fldIn a kvs = some y := by
      have hy' : (if c' = c then fldIn a kvs else none) = some y := hy
      split at hy'
      · rename_i q
        exact ⟨q, hy'⟩
      · cases hy'
    obtain ⟨v', h4, h5⟩ := z2.look h3
    exact ⟨ad, _, dx, fs, v', rfl, e1.j.sub _ _ z1, hc, hn, h4, k G1 _ H1 e1.j.refl h5⟩
  | frz z1 z2 => cases hy
  | _ => cases hy
/-- xs.append(e), a statement -/
def sChg (i : Nat) (f : Mo (List D)) (c : List D → List D → Option (List D)) : Mo Fl := fun ρ => match ρ[i]? with
  | some (.own _) => mBind f (fun as ρ1 => match ρ1[i]? with
    | some (.own ds) => match c ds as with
      | some es => some (.ok (ρ1.set i (.own es), .nx))
      | none => none
    | _ => none) ρ
  | _ => none
def appC : List D → List D → Option (List D)
  | ds, [d] => match Nat.blt ds.length 1000000 with
    | true => some (ds ++ [d])
    | false => none
  | _, _ => none
def extC : List D → List D → Option (List D)
  | ds, [.list es] => match Nat.blt (ds.length + es.length) 1000000 with
    | true => some (ds ++ es)
    | false => none
  | _, _ => none
/-- another list in its place -/
def Sl.put : Sl → List D → Sl
  | .own _, es => .own es
  | .box _, es => .box es
  | s, _ => s
theorem Sl.put_ls {s : Sl} {ds es : List D} (h : s.ls = some ds) : (s.put es).ls = some es := by
  cases s with
  | no => cases h
  | pur d => cases h
  | own _ => rfl
  | box _ => rfl
/-- the slot's list is changed -/
theorem J.putS {K : PySem.W.Frag} {G H : Hp} {ρ : En} {σ : St} (j : J K G ρ σ H) {i : Nat} {s : Sl} {ds es : List D} {a : Addr} {ws : List V} (h : ρ[i]? = some s) (hl : s.ls = some ds) (ha : σ[i]? = some (some (.ref a))) (r : RpAll K G ws es) : Ex K G ρ σ H G (ρ.set i (s.put es)) σ (upd H a (.lst ws)) := by
  obtain ⟨a', vs, h1, h2, h3, h4⟩ := j.own i s ds h hl
  rw [ha] at h1
  cases h1
  have hi : i < ρ.length := (List.getElem?_eq_some_iff.mp h).1
  have od : Ownd ρ σ a := ⟨i, s, ds, h, hl, ha⟩
  have np : ∀ d, s.put es ≠ .pur d := fun d => by
    cases s with
    | no => cases hl
    | pur d => cases hl
    | own _ => intro z; cases z
    | box _ => intro z; cases z
  have c : ∀ (m : Nat) (t : Sl) (us : List D), (ρ.set i (s.put es))[m]? = some t → t.ls = some us → ∃ t' us', ρ[m]? = some t' ∧ t'.ls = some us' := fun m t us hm ht => by
    rcases getElem?_set_cases hm with ⟨z1, _⟩ | ⟨_, z⟩
    · subst z1; exact ⟨s, ds, h, hl⟩
    · exact ⟨t, us, z, ht⟩
  refine ⟨⟨fun b o q => ?_, by rw [List.length_set]; exact j.len, fun k d q => ?_, fun k t fs q ht => ?_, fun k l t u fs gs b q1 l1 q2 l2 q3 q4 => ?_⟩, .refl _, fun b hb => .inl hb, fun b o q n => ?_, fun b hb => ?_, fun b hb => ?_, fun k fs q => ?_⟩
  · rw [upd_ne (ne_of_none q h3)]
    exact j.sub _ _ q
  · rcases getElem?_set_cases q with ⟨_, z⟩ | ⟨_, q'⟩
    · exact absurd z.symm (np d)
    · exact j.pur k d q'
  · rcases getElem?_set_cases q with ⟨z1, z⟩ | ⟨z1, q'⟩
    · subst z
      subst z1
      rw [Sl.put_ls hl] at ht
      cases ht
      exact ⟨a, ws, ha, upd_same, h3, r⟩
    · obtain ⟨b, us, g1, g2, g3, g4⟩ := j.own k t fs q' ht
      have ne : b ≠ a := fun z => by
        subst z
        exact z1 (j.dis k i t s fs ds b q' ht h hl g1 ha)
      exact ⟨b, us, g1, by rw [upd_ne ne]; exact g2, g3, g4⟩
  · obtain ⟨t1, u1, c1, c2⟩ := c k t fs q1 l1
    obtain ⟨t2, u2, c3, c4⟩ := c l u gs q2 l2
    exact j.dis k l t1 t2 u1 u2 b c1 c2 c3 c4 q3 q4
  · have ne : b ≠ a := fun z => by
      subst z
      exact n od
    rw [upd_ne ne]
    exact q
  · obtain ⟨k, t, us, q1, l1, q2⟩ := hb
    obtain ⟨t1, u1, c1, c2⟩ := c k t us q1 l1
    exact .inl ⟨k, t1, u1, c1, c2, q2⟩
  · by_cases z : b = a
    · subst z; rw [upd_same] at hb; cases hb
    · rw [upd_ne z] at hb; exact hb
  · rcases getElem?_set_cases q with ⟨z1, z⟩ | ⟨z1, q'⟩
    · subst z1
      cases s with
      | no => cases hl
      | pur d => cases hl
      | own _ => cases z
      | box es0 => exact ⟨⟨es0, h⟩, rfl⟩
    · exact ⟨⟨fs, q'⟩, rfl⟩
theorem J.put {K : PySem.W.Frag} {G H : Hp} {ρ : En} {σ : St} (j : J K G ρ σ H) {i : Nat} {ds es : List D} {a : Addr} {ws : List V} (h : ρ[i]? = some (.own ds)) (ha : σ[i]? = some (some (.ref a))) (r : RpAll K G ws es) : Ex K G ρ σ H G (ρ.set i (.own es)) σ (upd H a (.lst ws)) :=
  j.putS h rfl ha r
theorem chg_sem {i : Nat} {t : TA} {f : Mo (List D)} {c : List D → List D → Option (List D)} {r : V → List V → Hp → VK → Prop} (q : ∀ G ρ σ H Q, J X.K G ρ σ H → Post X.K E (RpAll X.K) G ρ σ H Q (f ρ) → t σ H Q)
    (hr : ∀ G H a vs ds as us es Q, Same G H → H a = some (.lst vs) → G a = none → RpAll X.K G vs ds → RpAll X.K G us as → c ds as = some es → (∀ v ws, RpAll X.K G ws es → Q v (upd H a (.lst ws))) → r (.ref a) us H Q) :
    ∀ G ρ σ H De, J X.K G ρ σ H → PostS X.K E G ρ σ H De (sChg i f c ρ) → tDrop (tBM X.K "list" r (tVar i) t) De σ H := by
  intro G ρ σ H De j h
  unfold sChg at h
  cases hs : ρ[i]? with
  | none => rw [hs] at h; exact h.elim
  | some sl =>
    rw [hs] at h
    cases sl with
    | no => exact h.elim
    | box _ => exact h.elim
    | pur d => exact h.elim
    | own ds0 =>
      obtain ⟨a, vs, h1, h2, h3, h4⟩ := j.own i _ ds0 hs rfl
      refine ⟨.ref a, h1, .inl ⟨rfl, vs, .of h2⟩, q G ρ σ H _ j (PostS.imp h fun G1 ρ1 us H1 as e1 r1 k => ?_)⟩
      have k' : PostS X.K E G1 ρ1 σ H1 De (match ρ1[i]? with
        | some (.own ds) => match c ds as with
          | some es => some (.ok (ρ1.set i (.own es), .nx))
          | none => none
        | _ => none) := k
      cases hs1 : ρ1[i]? with
      | none => rw [hs1] at k'; exact k'.elim
      | some sl1 =>
        rw [hs1] at k'
        cases sl1 with
        | no => exact k'.elim
        | box _ => exact k'.elim
        | pur d => exact k'.elim
        | own ds =>
          cases hc : c ds as with
          | none => simp only [hc] at k'; exact k'.elim
          | some es =>
            simp only [hc] at k'
            obtain ⟨a1, vs1, g1, g2, g3, g4⟩ := e1.j.own i _ ds hs1 rfl
            rw [h1] at g1
            cases g1
            exact hr G1 H1 a vs1 ds as us es _ e1.j.sub g2 g3 g4 r1 hc fun v ws rw' => k' G1 σ _ (e1.j.put hs1 h1 rw')
theorem s_app {i : Nat} {x : Str} {e : Expr} {f : Mo (List D)} {p1 apos cpos pos : Pos} (h : EA X E [e] f) (hN : X.N[i]? = some x := by rfl) (hv : Vis X.env.scope x := by first | exact Or.inl rfl | exact Or.inr (Or.inl rfl) | exact Or.inr (Or.inr rfl)) (hd : (x == ("__debug__" : Str)) = false := by decide) (hcd : (x == ("__classdict__" : Str)) = false := by decide)
    (hs : swapsWith (.Call (.Attribute (.Name x p1) "append" apos) [e] [] cpos) none pos.line X.env = pure false := by rfl)
    (hbase : attributeBase (.Name x p1) "append" X.env (eval (.Name x p1) X.env) = eval (.Name x p1) X.env := by rfl)
    (hfew : ((backTo cpos (starEach [e] X.env)).all (fun x => !x.1) && (backToKw cpos (keywordEach [] X.env)).all (fun x => x.1.isSome) && decide ([e].length + ([] : List Keyword).length + (if ([] : List Keyword).isEmpty then 0 else 1) < 30)) = true := by rfl)
    (hline : (apos.endLine == cpos.line) = true := by rfl) (hst : starEach [e] X.env = (false, eval e X.env) :: starEach [] X.env := by rfl) (hplain : (backTo cpos (starEach [] X.env)).any (·.1) = false := by rfl) :
    SV X E (.Expr (.Call (.Attribute (.Name x p1) "append" apos) [e] [] cpos) pos) (sChg i f appC) := by
  obtain ⟨t, p, q⟩ := h
  refine ⟨_, ps_expr (pe_bm PySem.F.plainAttrs_list PySem.F.slot_list_append PySem.F.type_list_append mt_append (pe_var hN hv hd hcd) p hbase hfew hline hst hplain) hs, chg_sem q fun G H a vs ds as us es Q s z1 z2 z3 z4 hc k => ?_⟩
  match as, hc with
  | [d], hc =>
    obtain ⟨y, rfl, ry⟩ := z4.one
    have hc' : (match Nat.blt ds.length 1000000 with
      | true => some (ds ++ [d])
      | false => none) = some es := hc
    cases hb : Nat.blt ds.length 1000000 with
    | false => rw [hb] at hc'; cases hc'
    | true =>
      rw [hb] at hc'
      cases hc'
      have hlt : ds.length < 1000000 := by
        unfold Nat.blt at hb
        exact Nat.le_of_ble_eq_true hb
      exact ⟨a, vs, y, rfl, rfl, z1, by rw [z3.length]; exact Nat.lt_of_lt_of_le hlt (by decide), k _ _ (z3.append (.cons ry .nil))⟩
theorem s_ext {i : Nat} {x : Str} {e : Expr} {f : Mo (List D)} {p1 apos cpos pos : Pos} (h : EA X E [e] f) (hN : X.N[i]? = some x := by rfl) (hv : Vis X.env.scope x := by first | exact Or.inl rfl | exact Or.inr (Or.inl rfl) | exact Or.inr (Or.inr rfl)) (hd : (x == ("__debug__" : Str)) = false := by decide) (hcd : (x == ("__classdict__" : Str)) = false := by decide)
    (hs : swapsWith (.Call (.Attribute (.Name x p1) "extend" apos) [e] [] cpos) none pos.line X.env = pure false := by rfl)
    (hbase : attributeBase (.Name x p1) "extend" X.env (eval (.Name x p1) X.env) = eval (.Name x p1) X.env := by rfl)
    (hfew : ((backTo cpos (starEach [e] X.env)).all (fun x => !x.1) && (backToKw cpos (keywordEach [] X.env)).all (fun x => x.1.isSome) && decide ([e].length + ([] : List Keyword).length + (if ([] : List Keyword).isEmpty then 0 else 1) < 30)) = true := by rfl)
    (hline : (apos.endLine == cpos.line) = true := by rfl) (hst : starEach [e] X.env = (false, eval e X.env) :: starEach [] X.env := by rfl) (hplain : (backTo cpos (starEach [] X.env)).any (·.1) = false := by rfl) :
    SV X E (.Expr (.Call (.Attribute (.Name x p1) "extend" apos) [e] [] cpos) pos) (sChg i f extC) := by
  obtain ⟨t, p, q⟩ := h
  refine ⟨_, ps_expr (pe_bm PySem.F.plainAttrs_list PySem.F.slot_list_extend PySem.F.type_list_extend mt_extend (pe_var hN hv hd hcd) p hbase hfew hline hst hplain) hs, chg_sem q fun G H a vs ds as us es Q s z1 z2 z3 z4 hc k => ?_⟩
  match as, hc with
  | [.list zs], hc =>
    obtain ⟨y, rfl, ry⟩ := z4.one
    have hc' : (match Nat.blt (ds.length + zs.length) 1000000 with
      | true => some (ds ++ zs)
      | false => none) = some es := hc
    cases hb : Nat.blt (ds.length + zs.length) 1000000 with
    | false => rw [hb] at hc'; cases hc'
    | true =>
      rw [hb] at hc'
      cases hc'
      have hlt : ds.length + zs.length < 1000000 := by
        unfold Nat.blt at hb
        exact Nat.le_of_ble_eq_true hb
      cases ry with
      | @lst b ys _ y1 y2 => exact ⟨a, b, vs, ys, rfl, rfl, z1, s _ _ y1, by rw [z3.length, y2.length]; exact line_of (by omega), k _ _ (z3.append y2)⟩
/-- xs[i] = e -/
def sPut (i : Nat) (fi fe : Mo D) : Mo Fl := mBind fe fun d ρ => match ρ[i]? with
  | some (.own _) => mBind fi (fun k ρ1 => match ρ1[i]? with
    | some (.own ds) => match intOf k with
      | some n => match ixN ds.length n with
        | some m => some (.ok (ρ1.set i (.own (ds.set m d)), .nx))
        | none => none
      | none => none
    | _ => none) ρ
  | _ => none
theorem s_put {i : Nat} {x : Str} {e ie : Expr} {fi fe : Mo D} {p1 tpos pos : Pos} (h : EV X E e fe) (hi : EV X E ie fi) (hN : X.N[i]? = some x := by rfl) (hv : Vis X.env.scope x := by first | exact Or.inl rfl | exact Or.inr (Or.inl rfl) | exact Or.inr (Or.inr rfl)) (hd : (x == ("__debug__" : Str)) = false := by decide) (hcd : (x == ("__classdict__" : Str)) = false := by decide)
    (hpg : ∀ {to ti : TE} {t : TSet}, PE X (.Name x p1) to → PE X ie ti → PSet X t → PG X (.Subscript (.Name x p1) ie tpos) (gSub to ti t) := by exact fun a b c => pg_sub a b c)
    (hs : swapsWithSole [.Subscript (.Name x p1) ie tpos] e pos.line X.env = pure false := by rfl) (hw : swappedStores [.Subscript (.Name x p1) ie tpos] e X.env = pure none := by rfl)
    (ha : (assignEach [.Subscript (.Name x p1) ie tpos] X.env).map (·.2) = [assign (.Subscript (.Name x p1) ie tpos) X.env] := by rfl) : SV X E (.Assign [.Subscript (.Name x p1) ie tpos] e pos) (sPut i fi fe) := by
  obtain ⟨t, p, q⟩ := h
  obtain ⟨ti, pi, qi⟩ := hi
  refine ⟨_, ps_asg p (hpg (pe_var hN hv hd hcd) pi set_list) hs hw ha, fun G ρ σ H De j h => q G ρ σ H _ j (PostS.imp h fun G1 ρ1 v H1 d e1 r1 k => ?_)⟩
  have k' : PostS X.K E G1 ρ1 σ H1 De (match ρ1[i]? with
    | some (.own _) => mBind fi (fun k ρ1 => match ρ1[i]? with
      | some (.own ds) => match intOf k with
        | some n => match ixN ds.length n with
          | some m => some (.ok (ρ1.set i (.own (ds.set m d)), .nx))
          | none => none
        | none => none
      | _ => none) ρ1
    | _ => none) := k
  cases hs1 : ρ1[i]? with
  | none => rw [hs1] at k'; exact k'.elim
  | some sl1 =>
    rw [hs1] at k'
    cases sl1 with
    | no => exact k'.elim
    | box _ => exact k'.elim
    | pur d => exact k'.elim
    | own ds0 =>
      obtain ⟨a, vs, h1, h2, h3, h4⟩ := e1.j.own i _ ds0 hs1 rfl
      refine ⟨.ref a, h1, qi G1 ρ1 σ H1 _ e1.j (PostS.imp k' fun G2 ρ2 iv H2 kd e2 r2 k2 => ?_)⟩
      have k2' : PostS X.K E G2 ρ2 σ H2 De (match ρ2[i]? with
        | some (.own ds) => match intOf kd with
          | some n => match ixN ds.length n with
            | some m => some (.ok (ρ2.set i (.own (ds.set m d)), .nx))
            | none => none
          | none => none
        | _ => none) := k2
      cases hs2 : ρ2[i]? with
      | none => rw [hs2] at k2'; exact k2'.elim
      | some sl2 =>
        rw [hs2] at k2'
        cases sl2 with
        | no => exact k2'.elim
        | box _ => exact k2'.elim
        | pur d => exact k2'.elim
        | own ds =>
          obtain ⟨a2, vs2, g1, g2, g3, g4⟩ := e2.j.own i _ ds hs2 rfl
          rw [h1] at g1
          cases g1
          cases r2 with
          | int n =>
            simp only [intOf] at k2'
            cases hx : ixN ds.length n with
            | none => simp only [hx] at k2'; exact k2'.elim
            | some m =>
              simp only [hx] at k2'
              exact ⟨a, vs2, n, m, rfl, rfl, g2, by rw [g4.length]; exact hx, k2' G2 σ _ (e2.j.put hs2 h1 (RpAll.set (r1.mono e2.g) m g4))⟩
          | _ => exact k2'.elim
/-- xs.pop(k), xs.pop() as a value -/
def mPop (i : Nat) (f : Mo D) : Mo D := fun ρ => match ρ[i]? with
  | some (.own _) => mBind f (fun k ρ1 => match ρ1[i]? with
    | some (.own ds) => match intOf k with
      | some n => match ixN ds.length n with
        | some m => match ds[m]? with
          | some d => match Nat.blt ds.length 1000000 with
            | true => some (.ok (ρ1.set i (.own (ds.eraseIdx m)), d))
            | false => none
          | none => none
        | none => none
      | none => none
    | _ => none) ρ
  | _ => none
theorem RpAll.erase {K : PySem.W.Frag} {G : Hp} : ∀ {vs : List V} {ds : List D} (n : Nat), RpAll K G vs ds → RpAll K G (vs.eraseIdx n) (ds.eraseIdx n)
  | _, _, _, .nil => .nil
  | _, _, 0, .cons _ t => t
  | _, _, n + 1, .cons h t => .cons h (t.erase n)
theorem ev_pop {i : Nat} {x : Str} {e : Expr} {f : Mo D} {p1 apos cpos : Pos} (h : EV X E e f) (hN : X.N[i]? = some x := by rfl) (hv : Vis X.env.scope x := by first | exact Or.inl rfl | exact Or.inr (Or.inl rfl) | exact Or.inr (Or.inr rfl)) (hd : (x == ("__debug__" : Str)) = false := by decide) (hcd : (x == ("__classdict__" : Str)) = false := by decide)
    (hbase : attributeBase (.Name x p1) "pop" X.env (eval (.Name x p1) X.env) = eval (.Name x p1) X.env := by rfl)
    (hfew : ((backTo cpos (starEach [e] X.env)).all (fun x => !x.1) && (backToKw cpos (keywordEach [] X.env)).all (fun x => x.1.isSome) && decide ([e].length + ([] : List Keyword).length + (if ([] : List Keyword).isEmpty then 0 else 1) < 30)) = true := by rfl)
    (hline : (apos.endLine == cpos.line) = true := by rfl) (hst : starEach [e] X.env = (false, eval e X.env) :: starEach [] X.env := by rfl) (hplain : (backTo cpos (starEach [] X.env)).any (·.1) = false := by rfl) :
    EV X E (.Call (.Attribute (.Name x p1) "pop" apos) [e] [] cpos) (mPop i f) := by
  obtain ⟨t, p, q⟩ := h
  refine ⟨_, pe_bm PySem.F.plainAttrs_list PySem.F.slot_list_pop PySem.F.type_list_pop mt_popAt (pe_var hN hv hd hcd) (pa_cons p pa_nil hst) hbase hfew hline hst hplain, fun G ρ σ H Q j h => ?_⟩
  unfold mPop at h
  cases hs : ρ[i]? with
  | none => rw [hs] at h; exact h.elim
  | some sl =>
    rw [hs] at h
    cases sl with
    | no => exact h.elim
    | box _ => exact h.elim
    | pur d => exact h.elim
    | own ds0 =>
      obtain ⟨a, vs, h1, h2, h3, h4⟩ := j.own i _ ds0 hs rfl
      refine ⟨.ref a, h1, .inl ⟨rfl, vs, .of h2⟩, q G ρ σ H _ j (Post.imp h fun G1 ρ1 y H1 k e1 r1 h5 => ?_)⟩
      have k' : Post X.K E (Rp X.K) G1 ρ1 σ H1 Q (match ρ1[i]? with
        | some (.own ds) => match intOf k with
          | some n => match ixN ds.length n with
            | some m => match ds[m]? with
              | some d => match Nat.blt ds.length 1000000 with
                | true => some (.ok (ρ1.set i (.own (ds.eraseIdx m)), d))
                | false => none
              | none => none
            | none => none
          | none => none
        | _ => none) := h5
      cases hs1 : ρ1[i]? with
      | none => rw [hs1] at k'; exact k'.elim
      | some sl1 =>
        rw [hs1] at k'
        cases sl1 with
        | no => exact k'.elim
        | box _ => exact k'.elim
        | pur d => exact k'.elim
        | own ds =>
          obtain ⟨a1, vs1, g1, g2, g3, g4⟩ := e1.j.own i _ ds hs1 rfl
          rw [h1] at g1
          cases g1
          cases r1 with
          | int n =>
            simp only [intOf] at k'
            cases hx : ixN ds.length n with
            | none => simp only [hx] at k'; exact k'.elim
            | some m =>
              simp only [hx] at k'
              cases hd : ds[m]? with
              | none => simp only [hd] at k'; exact k'.elim
              | some d =>
                simp only [hd] at k'
                cases hb : Nat.blt ds.length 1000000 with
                | false => simp only [hb] at k'; exact k'.elim
                | true =>
                  simp only [hb] at k'
                  have hlt : ds.length < 1000000 := by
                    unfold Nat.blt at hb
                    exact Nat.le_of_ble_eq_true hb
                  obtain ⟨v, y1, y2⟩ := g4.get hd
                  obtain ⟨x1, x2, x3, x4⟩ := ixN_seq hx
                  refine ⟨a, vs1, n, m, v, rfl, rfl, g2, by omega, by omega, by rw [g4.length]; exact x1, y1, ?_⟩
                  exact k' G1 v _ (e1.j.put hs1 h1 (g4.erase m)) y2
          | _ => exact k'.elim
/-- xs[e], len(xs) of a list of the def's own -/
def mIxO (i : Nat) (f : Mo D) : Mo D := fun ρ => match ρ[i]? with
  | some (.own _) => mBind f (fun k ρ1 => match ρ1[i]? with
    | some (.own ds) => mLift (ixD (.list ds) k) ρ1
    | _ => none) ρ
  | some (.pur d) => mBind f (fun k => mLift (ixD d k)) ρ
  | _ => none
theorem ev_ixO {i : Nat} {x : Str} {e : Expr} {f : Mo D} {p1 pos : Pos} (h : EV X E e f) (hN : X.N[i]? = some x := by rfl) (hv : Vis X.env.scope x := by first | exact Or.inl rfl | exact Or.inr (Or.inl rfl) | exact Or.inr (Or.inr rfl)) (hd : (x == ("__debug__" : Str)) = false := by decide) (hcd : (x == ("__classdict__" : Str)) = false := by decide)
    (hs : PlainIx e := by exact fun _ _ => rfl) : EV X E (.Subscript (.Name x p1) e pos) (mIxO i f) := by
  obtain ⟨t, p, q⟩ := h
  refine ⟨_, pe_ix ix_seq (pe_var hN hv hd hcd) p hs, fun G ρ σ H Q j h => ?_⟩
  unfold mIxO at h
  cases hs : ρ[i]? with
  | none => rw [hs] at h; exact h.elim
  | some sl =>
    rw [hs] at h
    cases sl with
    | no => exact h.elim
    | box _ => exact h.elim
    | pur d =>
      obtain ⟨v, h1, h2⟩ := j.pur i d hs
      refine ⟨v, h1, q G ρ σ H _ j (Post.imp h fun G1 ρ1 y H1 k e1 r1 h5 => ?_)⟩
      obtain ⟨c, hc, kk⟩ := Post.lift (ρ' := ρ1) h5
      exact ix_sem e1.j.sub (h2.mono e1.g) r1 hc fun v r => kk G1 v H1 e1.j.refl r
    | own ds0 =>
      obtain ⟨a, vs, h1, h2, h3, h4⟩ := j.own i _ ds0 hs rfl
      refine ⟨.ref a, h1, q G ρ σ H _ j (Post.imp h fun G1 ρ1 y H1 k e1 r1 h5 => ?_)⟩
      have k' : Post X.K E (Rp X.K) G1 ρ1 σ H1 Q (match ρ1[i]? with
        | some (.own ds) => mLift (ixD (.list ds) k) ρ1
        | _ => none) := h5
      cases hs1 : ρ1[i]? with
      | none => rw [hs1] at k'; exact k'.elim
      | some sl1 =>
        rw [hs1] at k'
        cases sl1 with
        | no => exact k'.elim
        | box _ => exact k'.elim
        | pur d => exact k'.elim
        | own ds =>
          obtain ⟨c, hc, kk⟩ := Post.lift (ρ' := ρ1) k'
          obtain ⟨a1, vs1, g1, g2, g3, g4⟩ := e1.j.own i _ ds hs1 rfl
          rw [h1] at g1
          cases g1
          cases r1 with
          | int n =>
            obtain ⟨v, q1, q2⟩ := g4.atI hc
            exact .inl ⟨_, _, _, _, rfl, rfl, .of g2, q1, kk G1 v H1 e1.j.refl q2⟩
          | _ => cases hc
def mLenO (i : Nat) : Mo D := fun ρ => match ρ[i]? with
  | some (.own ds) => some (.ok (ρ, .int ds.length))
  | some (.pur d) => mLift (lenD [d]) ρ
  | _ => none
theorem ev_lenO {i : Nat} {x : Str} {p1 p pos : Pos} (hm : X.mg "len" = none) (hN : X.N[i]? = some x := by rfl) (hv : Vis X.env.scope x := by first | exact Or.inl rfl | exact Or.inr (Or.inl rfl) | exact Or.inr (Or.inr rfl)) (hd : (x == ("__debug__" : Str)) = false := by decide) (hcd : (x == ("__classdict__" : Str)) = false := by decide)
    (hg : Gl X "len" := by rfl) (he : starEach [.Name x p1] X.env = (false, eval (.Name x p1) X.env) :: starEach [] X.env := by rfl) (hpl : (backTo pos (starEach [] X.env)).any (·.1) = false := by rfl) : EV X E (.Call (.Name "len" p) [.Name x p1] [] pos) (mLenO i) := by
  refine ⟨_, pe_callB call_len hg hm boot_len (pa_cons (pe_var hN hv hd hcd) pa_nil he) (by decide) (by decide) he hpl, fun G ρ σ H Q j h => ?_⟩
  unfold mLenO at h
  cases hs : ρ[i]? with
  | none => rw [hs] at h; exact h.elim
  | some sl =>
    rw [hs] at h
    cases sl with
    | no => exact h.elim
    | box _ => exact h.elim
    | own ds =>
      obtain ⟨a, vs, h1, h2, h3, h4⟩ := j.own i _ ds hs rfl
      exact ⟨.ref a, h1, _, ds.length, rfl, .inl ⟨_, .of h2, h4.length.symm⟩, h G _ H j.refl (.int _)⟩
    | pur d =>
      obtain ⟨v, h1, h2⟩ := j.pur i d hs
      refine ⟨v, h1, ?_⟩
      obtain ⟨c, hc, kk⟩ := Post.lift (ρ' := ρ) h
      cases h2 with
      | lst z1 z2 => cases hc; exact ⟨_, _, rfl, .inl ⟨_, .of (j.sub _ _ z1), z2.length.symm⟩, kk G _ H j.refl (.int _)⟩
      | tup z1 z2 => cases hc; exact ⟨_, _, rfl, .inr ⟨_, sqT_mono j.sub z1.t, z2.length.symm⟩, kk G _ H j.refl (.int _)⟩
      | frz z1 z2 => cases hc; exact ⟨_, _, rfl, .inl ⟨_, j.sub.seq z1, z2.length.symm⟩, kk G _ H j.refl (.int _)⟩
      | str z =>
        obtain ⟨h5, rfl⟩ := ite_some (show (if z.length ≤ 1000000 then some (PyData.int z.length) else none) = some c from hc)
        exact ⟨_, _, rfl, ⟨line_of h5, rfl⟩, kk G _ H j.refl (.int _)⟩
      | obj z1 z2 => cases hc
      | _ => cases hc
end
end HB
namespace HB
open PySem L2
/-- t: a list, else a tuple -/
def SIs (t : Bool) (h : Heap) (l : Addr) (its : Array Value) : Prop := match t with
  | true => h.IsList l its
  | false => h.IsTuple l its
def SIt (t : Bool) (h : Heap) (it l : Addr) (i : Nat) : Prop := match t with
  | true => h.IsListIter it l i
  | false => h.IsTupleIter it l i
def itObj (t : Bool) (l : Addr) : Obj := match t with
  | true => { cls := .type "list_iterator", data := .fields #[.ref l, .int 0 0] }
  | false => { cls := .type "tuple_iterator", data := .fields #[.ref l, .int 0 0] }
def SqB (K : PySem.W.Frag) (t : Bool) (H : Hp) (a : Addr) (xs : List V) : Prop := match t with
  | true => SqL K H a xs
  | false => SqT K H a xs
section
variable {prog : Program} {w : World} {A : Around} {E : Value → Shared → Prop} {s : Shared} {t t1 t2 : Bool}
theorem SIt.ext {h h' : Heap} {it l b : Addr} {i : Nat} (x : SIt t h it l i) (e : Heap.ExtBut b h h') (n : it ≠ b) : SIt t h' it l i := by
  cases t
  · exact Heap.IsTupleIter.extBut x e n
  · exact Heap.IsListIter.extBut x e n
theorem SIt.at {h h' : Heap} {it l : Addr} {i : Nat} (x : SIt t h it l i) (e : ∀ o, h.get? it = some o → h'.get? it = some o) : SIt t h' it l i := by
  cases t
  · exact Heap.IsTupleIter.at x e
  · exact Heap.IsListIter.at x e
theorem SIs.ext {h h' : Heap} {l b : Addr} {its : Array Value} (x : SIs t h l its) (e : Heap.ExtBut b h h') (n : l ≠ b) : SIs t h' l its := by
  cases t
  · exact Heap.IsTuple.extBut x e n
  · exact Heap.IsList.extBut x e n
theorem SIs.lt {h : Heap} {l : Addr} {its : Array Value} (x : SIs t h l its) : l < h.objs.size := by
  cases t
  · obtain ⟨o, e, _⟩ := (show h.IsTuple l its from x)
    exact Heap.lt_size e
  · obtain ⟨o, e, _⟩ := (show h.IsList l its from x)
    exact Heap.lt_size e
theorem SIt.obj {h : Heap} {it l : Addr} {i : Nat} (x : SIt t h it l i) : ∃ o, h.get? it = some o ∧ ∀ v, o.data ≠ .cell v := by
  cases t
  · obtain ⟨o, e, _, d⟩ := (show h.IsTupleIter it l i from x)
    exact ⟨o, e, fun v q => by rw [d] at q; cases q⟩
  · obtain ⟨o, e, _, d⟩ := (show h.IsListIter it l i from x)
    exact ⟨o, e, fun v q => by rw [d] at q; cases q⟩
theorem nx_item {it l : Addr} {i : Nat} {its : Array Value} {x : Value} {Q : Value → Shared → Prop} (hit : SIt t s.heap it l i) (hl : SIs t s.heap l its) (hx : its[i]? = some x)
    (k : ∀ h', SIt t h' it l (i + 1) → Heap.SameBut it s.heap h' → Q x { s with heap := h' }) : wpAny (model prog w) A (Builtin.SmallTypes.nextOf (.ref it)) Q E s := by
  cases t
  · exact RZ.nextOf_tuple_item hit hl hx k
  · exact wpAny_nextOf_list_item hit hl hx k
theorem nx_end {it l : Addr} {i : Nat} {its : Array Value} {Q : Value → Shared → Prop} (hh : A.handled = none) (hit : SIt t s.heap it l i) (hl : SIs t s.heap l its) (hx : its[i]? = none)
    (k : ∀ h' e, Heap.ExtBut it s.heap h' → (∃ o, h'.get? e = some o ∧ o.cls = .type "StopIteration") → E (.ref e) { s with heap := h' }) : wpAny (model prog w) A (Builtin.SmallTypes.nextOf (.ref it)) Q E s := by
  cases t
  · exact RZ.nextOf_tuple_end hh hit hl hx k
  · exact wpAny_nextOf_list_end hh hit hl hx k
theorem stopped {e : Addr} {Q : Bool → Shared → Prop} (b : ∃ o, s.heap.get? e = some o ∧ o.cls = .type "StopIteration") (k : Q true s) : wpAny (model prog w) A (isInstance (.ref e) (.type "StopIteration")) Q E s :=
  let ⟨o, ho, hc⟩ := b
  wpAny_isInstance ⟨o, ho, hc⟩ isSubtype_stop k
/-- with the end told -/
theorem nxo_item {it l : Addr} {i : Nat} {its : Array Value} {x : Value} {Q : Option Value → Shared → Prop} (hit : SIt t s.heap it l i) (hl : SIs t s.heap l its) (hx : its[i]? = some x)
    (k : ∀ h', SIt t h' it l (i + 1) → Heap.SameBut it s.heap h' → Q (some x) { s with heap := h' }) : wpAny (model prog w) A (Builtin.SmallTypes.nextOrEnd (.ref it)) Q E s := by
  unfold Builtin.SmallTypes.nextOrEnd
  exact wpAny_bind (wpAny_attempt (nx_item hit hl hx fun h' a b => wpAny_pure (k h' a b)))
theorem nxo_end {it l : Addr} {i : Nat} {its : Array Value} {Q : Option Value → Shared → Prop} (hh : A.handled = none) (hit : SIt t s.heap it l i) (hl : SIs t s.heap l its) (hx : its[i]? = none)
    (k : ∀ h', Heap.ExtBut it s.heap h' → Q none { s with heap := h' }) : wpAny (model prog w) A (Builtin.SmallTypes.nextOrEnd (.ref it)) Q E s := by
  unfold Builtin.SmallTypes.nextOrEnd
  exact wpAny_bind (wpAny_attempt (nx_end hh hit hl hx fun h' e a b => wpAny_bind (stopped b (wpAny_pure (k h' a)))))
/-- the zip object; b: strict -/
def IsZipB (b : Bool) (h : Heap) (z TI TO : Addr) (f0 : Value) : Prop := h.get? z = some { cls := .type "zip", data := .fields #[f0, .bool false, .bool b, .ref TI, .ref TO] }
section
variable {b : Bool} {z TI TO : Addr} {f0 : Value} {Q : Value → Shared → Prop}
theorem z0 (hz : IsZipB b s.heap z TI TO f0) (k : Q f0 s) : wpAny (model prog w) A (field (.ref z) 0) Q E s := wpAny_field hz rfl rfl k
theorem z2 (hz : IsZipB b s.heap z TI TO f0) (k : Q (.bool b) s) : wpAny (model prog w) A (field (.ref z) 2) Q E s := wpAny_field hz rfl rfl k
theorem z3 (hz : IsZipB b s.heap z TI TO f0) (k : Q (.ref TI) s) : wpAny (model prog w) A (field (.ref z) 3) Q E s := wpAny_field hz rfl rfl k
theorem z4 (hz : IsZipB b s.heap z TI TO f0) (k : Q (.ref TO) s) : wpAny (model prog w) A (field (.ref z) 4) Q E s := wpAny_field hz rfl rfl k
theorem zset {v : Value} {R : Unit → Shared → Prop} (hz : IsZipB b s.heap z TI TO f0) (k : ∀ h', IsZipB b h' z TI TO v → Heap.SameBut z s.heap h' → R () { s with heap := h' }) : wpAny (model prog w) A (setField (.ref z) 0 v) R E s :=
  wpAny_setField_rec hz (by simp) k
end
/-- what a turn of the zip leaves as it was -/
def ZKeep (z TO i1 i2 : Addr) (h h' : Heap) : Prop := ∀ c o, c ≠ z → c ≠ TO → c ≠ i1 → c ≠ i2 → h.get? c = some o → h'.get? c = some o
/-- zip's next -/
abbrev zNext (z : Addr) : Sem Fin := Builtin.«zip.__next__» ⟨[.ref z], []⟩
theorem zipS_item {z TI TO i1 i2 l1 l2 : Addr} {k1 k2 : Nat} {xs ys : Array Value} {x y a b : Value} {Q : Value → Shared → Prop} (Da : ZipApart z TI TO i1 i2 l1 l2) (hz : IsZipB true s.heap z TI TO .none) (hTI : IsPair s.heap TI (.ref i1) (.ref i2)) (hTO : IsPair s.heap TO a b)
    (h1 : SIt t1 s.heap i1 l1 k1) (h2 : SIt t2 s.heap i2 l2 k2) (hl1 : SIs t1 s.heap l1 xs) (hl2 : SIs t2 s.heap l2 ys) (hx : xs[k1]? = some x) (hy : ys[k2]? = some y)
    (k : ∀ h', IsZipB true h' z TI TO (rawInt s.heap.objs.size) → IsPair h' TO x y → SIt t1 h' i1 l1 (k1 + 1) → SIt t2 h' i2 l2 (k2 + 1) → IsPair h' s.heap.objs.size x y → h'.objs.size = s.heap.objs.size + 1 →
      ZKeep z TO i1 i2 s.heap h' → Q (.ref s.heap.objs.size) { s with heap := h' }) :
    wpAny (model prog w) A (zNext z) (fun r s' => ∃ v, r = .done (.ret v) ∧ Q v s') E s := by
  wp_walk using z2 hz, z3 hz, z0 hz, z4 hz, wpAny_seqItems hTI rfl, zset hz
  intro q1 hz1 e1
  wp_walk using wpAny_onRaise, nxo_item (h1.ext e1.extBut Da.i1z) (hl1.ext e1.extBut Da.l1z) hx
  intro q2 j1 e2
  have T2 : IsPair q2 TO a b := e2.extBut _ _ Da.TOi1 (e1.extBut _ _ Da.TOz hTO)
  wp_walk using wpAny_onRaise, wpAny_seqItems T2 rfl, wpAny_updateSeq_pair T2
  intro q3 T3 e3
  replace T3 : IsPair q3 TO x b := T3
  wp_walk using wpAny_onRaise, nxo_item (((h2.ext e1.extBut Da.i2z).ext e2.extBut Da.i12.symm).ext e3.extBut Da.TOi2.symm) (((hl2.ext e1.extBut Da.l2z).ext e2.extBut Da.l2i1).ext e3.extBut Da.l2TO) hy
  intro q4 j2 e4
  have T4 : IsPair q4 TO x b := e4.extBut _ _ Da.TOi2 T3
  wp_walk using wpAny_onRaise, wpAny_seqItems T4 rfl, wpAny_updateSeq_pair T4
  intro q5 T5 e5
  replace T5 : IsPair q5 TO x y := T5
  have Z5 : IsZipB true q5 z TI TO .ellipsis := e5.extBut _ _ Da.TOz.symm (e4.extBut _ _ Da.i2z.symm (e3.extBut _ _ Da.TOz.symm (e2.extBut _ _ Da.i1z.symm hz1)))
  have hsz : q5.objs.size = s.heap.objs.size := by rw [e5.1, e4.1, e3.1, e2.1, e1.1]
  have keep5 : ZKeep z TO i1 i2 s.heap q5 := fun c o c1 c2 c3 c4 e => e5.extBut _ _ c2 (e4.extBut _ _ c4 (e3.extBut _ _ c2 (e2.extBut _ _ c3 (e1.extBut _ _ c1 e))))
  have J1 : SIt t1 q5 i1 l1 (k1 + 1) := ((j1.ext e3.extBut Da.TOi1.symm).ext e4.extBut Da.i12).ext e5.extBut Da.TOi1.symm
  have J2 : SIt t2 q5 i2 l2 (k2 + 1) := j2.ext e5.extBut Da.TOi2.symm
  have zlt : z < q5.objs.size := Heap.lt_size Z5
  have Z6 : (q5.push { cls := .type "tuple", data := .seq #[x, y] }).get? z = some { cls := .type "zip", data := .fields #[.ellipsis, .bool false, .bool true, .ref TI, .ref TO] } := Heap.get?_push_of_some _ Z5
  wp_walk using wpAny_seqItems T5 rfl, wpAny_newTuple, wpAny_setField_rec Z6 (by simp)
  intro q7 hz7 e7
  wp_walk using wpAny_setField_rec hz7 (by simp)
  · intro q8 hz8 e8
    replace hz8 : IsZipB true q8 z TI TO (rawInt q5.objs.size) := hz8
    have up : ∀ c o, c ≠ z → q5.get? c = some o → q8.get? c = some o := fun c o c1 e => e8.extBut _ _ c1 (e7.extBut _ _ c1 (Heap.get?_push_of_some _ e))
    have T8 : IsPair q8 q5.objs.size x y := e8.extBut _ _ (Nat.ne_of_gt zlt) (e7.extBut _ _ (Nat.ne_of_gt zlt) (Heap.get?_push_size _ rfl))
    have z8 : q8.objs.size = q5.objs.size + 1 := by rw [e8.1, e7.1, Heap.size_push]
    rw [hsz] at hz8 T8 z8
    have fin := k q8 hz8 (up _ _ Da.TOz T5) (J1.at fun o e => up _ o Da.i1z e) (J2.at fun o e => up _ o Da.i2z e) T8 z8 fun c o c1 c2 c3 c4 e => up c o c1 (keep5 c o c1 c2 c3 c4 e)
    rw [← hsz] at fin
    exact wpAny_pure ⟨_, rfl, fin⟩
  · exact (by decide : 2 ≤ sizeLine)
theorem zipS_end {z TI TO i1 i2 l1 l2 : Addr} {k1 k2 : Nat} {xs ys : Array Value} {a b : Value} {Q : Fin → Shared → Prop} (hh : A.handled = none) (Da : ZipApart z TI TO i1 i2 l1 l2) (hz : IsZipB true s.heap z TI TO .none) (hTI : IsPair s.heap TI (.ref i1) (.ref i2)) (hTO : IsPair s.heap TO a b)
    (h1 : SIt t1 s.heap i1 l1 k1) (h2 : SIt t2 s.heap i2 l2 k2) (hl1 : SIs t1 s.heap l1 xs) (hl2 : SIs t2 s.heap l2 ys) (hx : xs[k1]? = none) (hy : ys[k2]? = none)
    (k : ∀ h' e, ZKeep z TO i1 i2 s.heap h' → (∃ o, h'.get? e = some o ∧ o.cls = .type "StopIteration") → E (.ref e) { s with heap := h' }) :
    wpAny (model prog w) A (zNext z) Q E s := by
  wp_walk using z2 hz, z3 hz, z0 hz, z4 hz, wpAny_seqItems hTI rfl, zset hz
  intro q1 hz1 e1
  wp_walk using wpAny_onRaise, nxo_end hh (h1.ext e1.extBut Da.i1z) (hl1.ext e1.extBut Da.l1z) hx
  intro q2 e2
  have Z2 : IsZipB true q2 z TI TO .ellipsis := e2 _ _ Da.i1z.symm hz1
  wp_walk using wpAny_onRaise, zset Z2
  intro q3 hz3 e3
  wp_walk using wpAny_onRaise, nxo_end hh (((h2.ext e1.extBut Da.i2z).ext e2 Da.i12.symm).ext e3.extBut Da.i2z) (((hl2.ext e1.extBut Da.l2z).ext e2 Da.l2i1).ext e3.extBut Da.l2z) hy
  intro q4 e4
  wp_walk
  simp only [raiseNew]
  wp_walk
  refine k _ _ (fun c o c1 c2 c3 c4 e => ?_) ⟨_, Heap.get?_push_size _ rfl, rfl⟩
  have f4 : q4.get? c = some o := e4 _ _ c4 (e3.extBut _ _ c1 (e2 _ _ c3 (e1.extBut _ _ c1 e)))
  exact Heap.get?_push_of_some _ (Heap.get?_push_of_some _ f4)
theorem pyNext_zipS_item {z TI TO i1 i2 l1 l2 : Addr} {k1 k2 : Nat} {xs ys : Array Value} {x y a b : Value} {Q : Option Value → Shared → Prop} (Da : ZipApart z TI TO i1 i2 l1 l2) (hz : IsZipB true s.heap z TI TO .none) (hTI : IsPair s.heap TI (.ref i1) (.ref i2)) (hTO : IsPair s.heap TO a b)
    (h1 : SIt t1 s.heap i1 l1 k1) (h2 : SIt t2 s.heap i2 l2 k2) (hl1 : SIs t1 s.heap l1 xs) (hl2 : SIs t2 s.heap l2 ys) (hx : xs[k1]? = some x) (hy : ys[k2]? = some y)
    (k : ∀ h', IsZipB true h' z TI TO (rawInt s.heap.objs.size) → IsPair h' TO x y → SIt t1 h' i1 l1 (k1 + 1) → SIt t2 h' i2 l2 (k2 + 1) → IsPair h' s.heap.objs.size x y → h'.objs.size = s.heap.objs.size + 1 →
      ZKeep z TO i1 i2 s.heap h' → Q (some (.ref s.heap.objs.size)) { s with heap := h' }) : wpAny (model prog w) A (pyNext (.ref z)) Q E s := by
  have ty : s.TypeIs (.ref z) "zip" := ⟨_, hz, rfl⟩
  unfold pyNext
  exact wpAny_bind (wpAny_attempt (wpAny_callSpecial?_slot (name := Str.ofString "__next__") ty F.slot_zip_next (wpAny_call_entry F.slot_zip_next ty F.entry_zip_next
    (zipS_item Da hz hTI hTO h1 h2 hl1 hl2 hx hy fun h' b1 b2 b3 b4 b5 b6 b7 => wpAny_pure (k h' b1 b2 b3 b4 b5 b6 b7)) (F.args_zip_next_1 _))))
theorem pyNext_zipS_end {z TI TO i1 i2 l1 l2 : Addr} {k1 k2 : Nat} {xs ys : Array Value} {a b : Value} {Q : Option Value → Shared → Prop} (hh : A.handled = none) (Da : ZipApart z TI TO i1 i2 l1 l2) (hz : IsZipB true s.heap z TI TO .none) (hTI : IsPair s.heap TI (.ref i1) (.ref i2)) (hTO : IsPair s.heap TO a b)
    (h1 : SIt t1 s.heap i1 l1 k1) (h2 : SIt t2 s.heap i2 l2 k2) (hl1 : SIs t1 s.heap l1 xs) (hl2 : SIs t2 s.heap l2 ys) (hx : xs[k1]? = none) (hy : ys[k2]? = none)
    (k : ∀ h', ZKeep z TO i1 i2 s.heap h' → Q none { s with heap := h' }) : wpAny (model prog w) A (pyNext (.ref z)) Q E s := by
  have ty : s.TypeIs (.ref z) "zip" := ⟨_, hz, rfl⟩
  unfold pyNext
  refine wpAny_bind (wpAny_attempt (wpAny_callSpecial?_slot (name := Str.ofString "__next__") ty F.slot_zip_next (wpAny_call_entry F.slot_zip_next ty F.entry_zip_next
    (zipS_end (A := A.in1) hh Da hz hTI hTO h1 h2 hl1 hl2 hx hy fun h' e kk he => ?_) (F.args_zip_next_1 _))))
  exact wpAny_bind (stopped he (wpAny_pure (k _ kk)))
/-- the loop gives a handed-out pair back -/
abbrev zBack (elts : List Expr) (x1 : Nat) (pos : Pos) (z T : Addr) : Sem Unit := letOwnedTupleGo (.Tuple elts x1 pos) (.ref z) (.ref T)
theorem letGo_zipS {elts : List Expr} {x1 : Nat} {pos : Pos} {z TI TO T : Addr} {Q : Unit → Shared → Prop} (hz : IsZipB true s.heap z TI TO (rawInt T)) (k : ∀ h', IsZipB true h' z TI TO .none → Heap.SameBut z s.heap h' → Q () { s with heap := h' }) :
    wpAny (model prog w) A (zBack elts x1 pos z T) Q E s := by
  unfold zBack letOwnedTupleGo
  exact wpAny_bind (wpAny_load hz (wpAny_ite_true (by simp) (wpAny_bind (wpAny_rule (zset hz k)))))
theorem pyIter_zipS {z TI TO : Addr} {f0 : Value} {Q : Value → Shared → Prop} (hz : IsZipB true s.heap z TI TO f0) (h : Q (.ref z) s) : wpAny (model prog w) A (pyIter (.ref z)) Q E s := by
  have ty : s.TypeIs (.ref z) "zip" := ⟨_, hz, rfl⟩
  refine wpAny_pyIter_slot ty F.slot_zip_iter (wpAny_call_entry F.slot_zip_iter ty F.entry_zip_iter (wpAny_pure ⟨_, rfl, "zip", _, ty, F.slot_zip_next.lookup, h⟩) (F.args_zip_iter_1 _))
theorem pyIter_S {l : Addr} {its : Array Value} {Q : Value → Shared → Prop} (hl : SIs t s.heap l its) (h : Q (.ref s.heap.objs.size) { s with heap := s.heap.push (itObj t l) }) : wpAny (model prog w) A (pyIter (.ref l)) Q E s := by
  cases t
  · exact wpAny_pyIter_tuple hl h
  · exact wpAny_pyIter_list hl h
abbrev zS1 (t1 : Bool) (h : Heap) (l1 : Addr) : Heap := h.push (itObj t1 l1)
abbrev zS2 (t1 t2 : Bool) (h : Heap) (l1 l2 : Addr) : Heap := (zS1 t1 h l1).push (itObj t2 l2)
abbrev zS3 (t1 t2 : Bool) (h : Heap) (l1 l2 : Addr) : Heap := (zS2 t1 t2 h l1 l2).push { cls := .type "tuple", data := .seq #[.ref h.objs.size, .ref (zS1 t1 h l1).objs.size] }
abbrev zS4 (t1 t2 : Bool) (h : Heap) (l1 l2 : Addr) : Heap := (zS3 t1 t2 h l1 l2).push { cls := .type "tuple", data := .seq #[.none, .none] }
abbrev zS5 (t1 t2 : Bool) (h : Heap) (l1 l2 : Addr) : Heap := (zS4 t1 t2 h l1 l2).push { cls := .type "zip", data := .fields #[.none, .bool false, .bool true, .ref (zS2 t1 t2 h l1 l2).objs.size, .ref (zS3 t1 t2 h l1 l2).objs.size] }
theorem SIs.push {h : Heap} {l : Addr} {its : Array Value} (x : SIs t h l its) (o : Obj) : SIs t (h.push o) l its := x.ext (b := h.objs.size) (fun b ob _ e => Heap.get?_push_of_some _ e) (Nat.ne_of_lt x.lt)
end
theorem meets_zipS (t1 t2 : Bool) (l1 l2 : Addr) (xs ys : Array Value) :
    Meets (Builtin.«zip.__new__» ⟨[.type "zip", .ref l1, .ref l2], [("strict", .bool true)]⟩) (fun _ R s => SIs t1 s.heap l1 xs ∧ SIs t2 s.heap l2 ys ∧
      R (.ok (.ret (.ref (zS4 t1 t2 s.heap l1 l2).objs.size))) { s with heap := zS5 t1 t2 s.heap l1 l2 }) :=
  .of_wp fun prog w A R ⟨hp, g, d, tk, os⟩ ⟨a1, a2, h⟩ => by
    have hsub : isSubtype (.type "zip") (.type "zip") = pure true := F.called_zip.sub
    have b1 : SIs t1 (Shared.heap ⟨hp, g, d, tk, os⟩) l1 xs := a1
    have b2 : SIs t2 (Shared.heap ⟨hp.push (itObj t1 l1), g, d, tk, os⟩) l2 ys := SIs.push a2 _
    wp_walk using pyIter_S b1, pyIter_S b2
    exact ⟨_, rfl, h⟩
section
variable {prog : Program} {w : World} {A : Around} {E : Value → Shared → Prop} {s : Shared} {t t1 t2 : Bool}
theorem call_zipS {l1 l2 : Addr} {xs ys : Array Value} {Q : Value → Shared → Prop} (a1 : SIs t1 s.heap l1 xs) (a2 : SIs t2 s.heap l2 ys)
    (k : ∀ h', IsZipB true h' (s.heap.objs.size + 4) (s.heap.objs.size + 2) (s.heap.objs.size + 3) .none → IsPair h' (s.heap.objs.size + 2) (.ref s.heap.objs.size) (.ref (s.heap.objs.size + 1)) → IsPair h' (s.heap.objs.size + 3) .none .none → SIt t1 h' s.heap.objs.size l1 0 → SIt t2 h' (s.heap.objs.size + 1) l2 0 → h'.objs.size = s.heap.objs.size + 5 →
      (∀ c o, s.heap.get? c = some o → h'.get? c = some o) → Q (.ref (s.heap.objs.size + 4)) { s with heap := h' }) : wpAny (model prog w) A (call (.type "zip") [.ref l1, .ref l2] [("strict", .bool true)]) Q E s := by
  refine callType_meetsKw (Q₁ := fun obj s1 => s1.TypeIs obj "zip" ∧ Q obj s1) F.called_zip (by kernel_rfl) (by kernel_rfl) F.entry_zip_new F.entry_object_init (meets_zipS t1 t2 l1 l2 xs ys) ⟨a1, a2, ?_⟩ fun obj s1 hq => ⟨hq.1, ?_, _, object_init_meetsKw F.called_zip.init.lookup F.called_zip.made (by decide), hq.1, rfl, hq.2⟩
  · have z1 : (zS1 t1 s.heap l1).objs.size = s.heap.objs.size + 1 := Heap.size_push ..
    have z2 : (zS2 t1 t2 s.heap l1 l2).objs.size = s.heap.objs.size + 2 := by rw [Heap.size_push, z1]
    have z3 : (zS3 t1 t2 s.heap l1 l2).objs.size = s.heap.objs.size + 3 := by rw [Heap.size_push, z2]
    have z4 : (zS4 t1 t2 s.heap l1 l2).objs.size = s.heap.objs.size + 4 := by rw [Heap.size_push, z3]
    have z5 : (zS5 t1 t2 s.heap l1 l2).objs.size = s.heap.objs.size + 5 := by rw [Heap.size_push, z4]
    have fr : ∀ (tt : Bool) (l : Addr), (itObj tt l).isFreed = false := fun tt l => by cases tt <;> rfl
    have g5 : (zS5 t1 t2 s.heap l1 l2).get? (zS4 t1 t2 s.heap l1 l2).objs.size = some _ := Heap.get?_push_size _ rfl
    have g4 : (zS5 t1 t2 s.heap l1 l2).get? (zS3 t1 t2 s.heap l1 l2).objs.size = some _ := Heap.get?_push_of_some _ (Heap.get?_push_size _ rfl)
    have g3 : (zS5 t1 t2 s.heap l1 l2).get? (zS2 t1 t2 s.heap l1 l2).objs.size = some _ := Heap.get?_push_of_some _ (Heap.get?_push_of_some _ (Heap.get?_push_size _ rfl))
    have g2 : (zS5 t1 t2 s.heap l1 l2).get? (zS1 t1 s.heap l1).objs.size = some _ := Heap.get?_push_of_some _ (Heap.get?_push_of_some _ (Heap.get?_push_of_some _ (Heap.get?_push_size _ (fr t2 l2))))
    have g1 : (zS5 t1 t2 s.heap l1 l2).get? s.heap.objs.size = some _ := Heap.get?_push_of_some _ (Heap.get?_push_of_some _ (Heap.get?_push_of_some _ (Heap.get?_push_of_some _ (Heap.get?_push_size _ (fr t1 l1)))))
    show _ ∧ _
    rw [z2, z3, z4] at g5
    rw [z1, z2] at g3
    rw [z3] at g4
    rw [z1] at g2
    rw [z4]
    have mk : ∀ (tt : Bool) (h : Heap) (it l : Addr), h.get? it = some (itObj tt l) → SIt tt h it l 0 := fun tt h it l e => by
      cases tt
      · exact ⟨_, e, rfl, rfl⟩
      · exact ⟨_, e, rfl, rfl⟩
    exact ⟨⟨_, g5, rfl⟩, k _ g5 g3 g4 (mk _ _ _ _ g1) (mk _ _ _ _ g2) z5 fun c o x => Heap.get?_push_of_some _ (Heap.get?_push_of_some _ (Heap.get?_push_of_some _ (Heap.get?_push_of_some _ (Heap.get?_push_of_some _ x))))⟩
  · unfold argsOk
    rw [signature?_of (id := "object.__init__") (n := "__init__".toList.reverse) (o := "object".toList.reverse) (by kernel_rfl) F.owner_object]
    kernel_rfl
def ItzS (K : PySem.W.Frag) (t1 t2 : Bool) (a b : Addr) : It :=
  ⟨fun i H => ∃ (xs ys : List V) (x y : V), SqB K t1 H a xs ∧ SqB K t2 H b ys ∧ xs[i]? = some x ∧ ys[i]? = some y,
    fun i H v H' => ∃ T x y o, v = .ref T ∧ H T = none ∧ o.dict = none ∧ H' = upd H T (.frz o (.tup [x, y])) ∧ (∀ xs, SqB K t1 H a xs → xs[i]? = some x) ∧ ∀ ys, SqB K t2 H b ys → ys[i]? = some y,
    fun i H => ∃ xs ys : List V, SqB K t1 H a xs ∧ SqB K t2 H b ys ∧ xs.length ≤ i ∧ ys.length ≤ i⟩
end
section
variable {X : Cx} {pins : List (Addr × Obj)} {σ : St} {H : Hp} {s : Shared} {t t1 t2 : Bool}
theorem inv_sqB {a : Addr} {xs : List V} (I : Inv X pins σ H s) (h : SqB X.K t H a xs) : ∃ its : List Value, Vals xs its ∧ SIs t s.heap a its.toArray ∧ xs.length ≤ sizeLine := by
  cases t
  · obtain ⟨its, r, p, z⟩ := I.tuple h
    exact ⟨its, r, p, z⟩
  · obtain ⟨its, r, p, z⟩ := I.list h
    exact ⟨its, r, p.isList, z⟩
theorem inv_sqB_inj {a : Addr} {xs ys : List V} (I : Inv X pins σ H s) (h : SqB X.K t H a xs) (h' : SqB X.K t H a ys) : xs = ys := by
  cases t
  · exact I.tuple_inj h h'
  · exact I.list_inj h h'
theorem SqB.mono {K : PySem.W.Frag} {H H' : Hp} {a : Addr} {xs : List V} (s : Same H H') (h : SqB K t H a xs) : SqB K t H' a xs := by
  cases t
  · exact sqT_mono s h
  · exact s.seq h
end
/-- how a zip stands ahead of its turn i -/
structure ZSt (t1 t2 : Bool) (a b z TI TO i1 i2 : Addr) (i : Nat) (h : Heap) : Prop where
  zp : IsZipB true h z TI TO .none
  ti : IsPair h TI (.ref i1) (.ref i2)
  to : ∃ x y, IsPair h TO x y
  l : SIt t1 h i1 a i
  r : SIt t2 h i2 b i
theorem ZSt.all {t1 t2 : Bool} {a b z TI TO i1 i2 : Addr} {i : Nat} {h : Heap} (q : ZSt t1 t2 a b z TI TO i1 i2 i h) : ∀ c ∈ [z, TI, TO, i1, i2], ∃ o, h.get? c = some o ∧ ∀ v, o.data ≠ .cell v := by
  obtain ⟨x, y, q3⟩ := q.to
  simp only [List.mem_cons, List.not_mem_nil, or_false, forall_eq_or_imp, forall_eq]
  exact ⟨⟨_, q.zp, fun v e => nomatch e⟩, ⟨_, q.ti, fun v e => nomatch e⟩, ⟨_, q3, fun v e => nomatch e⟩, q.l.obj, q.r.obj⟩
theorem ZSt.lt {t1 t2 : Bool} {a b z TI TO i1 i2 c : Addr} {i : Nat} {h : Heap} (q : ZSt t1 t2 a b z TI TO i1 i2 i h) (hc : c ∈ [z, TI, TO, i1, i2]) : c < h.objs.size := let ⟨_, e, _⟩ := q.all c hc; Heap.lt_size e
theorem turn_zipS {P : Program} {w : World} {K : PySem.W.Frag} {t1 t2 : Bool} {elts : List Expr} {kk : Nat} {tpos : Pos} {a b z TI TO i1 i2 : Addr} (Da : ZipApart z TI TO i1 i2 a b) :
    Turn P w K (.Tuple elts kk tpos) (ItzS K t1 t2 a b) [z, TI, TO, i1, i2] z (ZSt t1 t2 a b z TI TO i1 i2) where
  mem := by simp
  obj := fun i h q => q.all
  keep := fun i h h' q k => ⟨k z (by simp) _ q.zp, k TI (by simp) _ q.ti, let ⟨x, y, q3⟩ := q.to; ⟨x, y, k TO (by simp) _ q3⟩, q.l.at fun o e => k i1 (by simp) o e, q.r.at fun o e => k i2 (by simp) o e⟩
  item := by
    intro X hP hw hK hc i pins s σ H E I hf q ⟨xs, ys, x, y, g1, g2, hx, hy⟩
    subst hP hw hK
    obtain ⟨x0, y0, q3⟩ := q.to
    obtain ⟨its, rv, p, _⟩ := inv_sqB I g1
    obtain ⟨its2, rv2, p2, _⟩ := inv_sqB I g2
    have ⟨u, hu, ru⟩ := rv.get hx
    have ⟨u2, hu2, ru2⟩ := rv2.get hy
    refine pyNext_zipS_item Da q.zp q.ti q3 q.l q.r p p2 (x := u) (y := u2) (by simpa using hu) (by simpa using hu2) fun h' b1 b2 b3 b4 hT hsz hk => ⟨_, rfl, ?_⟩
    refine letGo_zipS (s := { s with heap := h' }) b1 fun g b5 sb => ?_
    have same : ∀ c o, c ∉ [z, TI, TO, i1, i2] → s.heap.get? c = some o → g.get? c = some o := fun c o hb e => by
      simp only [List.mem_cons, List.not_mem_nil, or_false, not_or] at hb
      exact (sb.2 c hb.1).trans (hk c o hb.1 hb.2.2.1 hb.2.2.2.1 hb.2.2.2.2 e)
    have pr : IsPair g s.heap.objs.size u u2 := (sb.2 _ (Nat.ne_of_gt (q.lt (by simp)))).trans hT
    have nw : ObjOk X.prog X.w (upd H s.heap.objs.size (.frz (tupO [u, u2]) (.tup [x, y]))) g s.heap.objs.size (.frz (tupO [u, u2]) (.tup [x, y])) := ⟨pr, by show 2 ≤ sizeLine; decide, [u, u2], .cons ru (.cons ru2 .nil), ⟨_, pr, rfl, _, rfl⟩⟩
    refine ⟨.ref s.heap.objs.size, _, I.turnedNew (t' := s.toks) (ch := [z, TI, TO, i1, i2]) same hf (Nat.le_refl _) nw, rfl, ⟨_, x, y, _, rfl, I.hok.fresh (Nat.le_refl _), rfl, rfl, fun l hl => by rw [inv_sqB_inj I hl g1]; exact hx, fun l hl => by rw [inv_sqB_inj I hl g2]; exact hy⟩,
      ⟨b5, (sb.2 _ Da.TIz).trans (hk _ _ Da.TIz Da.TITO Da.TIi1 Da.TIi2 q.ti), ⟨u, u2, (sb.2 _ Da.TOz).trans b2⟩, b3.at fun o e => (sb.2 _ Da.i1z).trans e, b4.at fun o e => (sb.2 _ Da.i2z).trans e⟩, fun c hcm => ?_⟩
    exact (upd_ne (Nat.ne_of_lt (q.lt hcm))).trans (hf c hcm).1
  done := by
    intro X hP hw hK hc i pins s σ H E I hf q ⟨xs, ys, g1, g2, e1, e2⟩
    subst hP hw hK
    obtain ⟨x0, y0, q3⟩ := q.to
    obtain ⟨its, rv, p, _⟩ := inv_sqB I g1
    obtain ⟨its2, rv2, p2, _⟩ := inv_sqB I g2
    have l1 := rv.length
    have l2 := rv2.length
    refine pyNext_zipS_end (I.ok.hd hc) Da q.zp q.ti q3 q.l q.r p p2 (by simp; omega) (by simp; omega) fun h' hk => ⟨rfl, I.turnedL (t' := s.toks) (ch := [z, TI, TO, i1, i2]) (fun c o hb e => ?_) hf⟩
    simp only [List.mem_cons, List.not_mem_nil, or_false, not_or] at hb
    exact hk c o hb.1 hb.2.2.1 hb.2.2.2.1 hb.2.2.2.2 e
  self := fun A i s Q E st h => pyIter_zipS st.zp h
section
variable {X : Cx} {E : XK}
theorem callWith_tyK {M : Model} {A : Around} {E : Value → Shared → Prop} {s : Shared} {env : PySem.Env} {pos : Pos} {T : String} {e : Expr} {rest : List Expr} {kws : List Keyword} {Q : Value → Shared → Prop}
    (hall : (backToKw pos (keywordEach kws env)).all (·.1.isSome) = true) (hn : (backToKw pos (keywordEach kws env)).any (·.1.isNone) = false)
    (h : wpAny M A (spliced (backTo pos (starEach (e :: rest) env))) (fun vs s1 => wpAny M A (evalAll ((backToKw pos (keywordEach kws env)).map (·.2))) (fun ks s2 => wpAny M A (call (.type T) vs (((backToKw pos (keywordEach kws env)).filterMap (·.1)).zip ks)) Q E s2) E s1) E s)
    (he : starEach (e :: rest) env = (false, eval e env) :: starEach rest env := by rfl) (hpl : (backTo pos (starEach rest env)).any (·.1) = false := by rfl) :
    wpAny M A (callWith pos (.type T) [] (backTo pos (starEach (e :: rest) env)) (backToKw pos (keywordEach kws env))) Q E s := by
  unfold callWith
  refine wpAny_bind (wpAny_holding (PyProof.Rows.evalArgs_kw2 hall (wpAny_mono h (fun vs s1 h1 => wpAny_mono h1 (fun ks s2 h2 => wpAny_bind (wpAny_standAt ?_)) fun _ _ x => x) fun _ _ x => x) he))
  have hp : (backTo pos (starEach (e :: rest) env)).any (·.1) = false := by
    rw [he]
    show (false || (backTo pos (starEach rest env)).any (·.1)) = false
    rw [hpl]
    rfl
  simp only [hp, hn, Bool.or_false]
  exact wpAny_bind (wpAny_pure (wpAny_bind (wpAny_mono h2 (fun r s3 hr => wpAny_bind (wpAny_holding (wpAny_point (wpAny_pure hr)))) fun _ _ x => x)))
def iZipS (K : PySem.W.Frag) (ta : TA) : TI := fun σ H R => ta σ H fun vs H1 => ∃ a b xs ys t1 t2, vs = [.ref a, .ref b] ∧ SqB K t1 H1 a xs ∧ SqB K t2 H1 b ys ∧ R (ItzS K t1 t2 a b) H1
theorem pi_zipS {e e2 : Expr} {ta : TA} {p pos tpos kp cp : Pos} {elts : List Expr} {kk ck : Nat} (hg : Gl X "zip") (hm : X.mg "zip" = none) (ha : PA X [e, e2] ta) (hs : starEach [e, e2] X.env = (false, eval e X.env) :: starEach [e2] X.env := by rfl) (hpl : (backTo pos (starEach [e2] X.env)).any (·.1) = false := by rfl) :
    PI X (.Tuple elts kk tpos) (.Call (.Name "zip" p) [e, e2] [⟨some "strict", .Constant (.bool true) ck cp, kp⟩] pos) (iZipS X.K ta) := by
  refine PI.mk fun pins s σ H R I h => ?_
  refine wpAny_Call_Name_kw (ld_blt I hg hm PyProof.Rows.boot_zip (callWith_tyK rfl rfl (thn (ha.run pos pins s σ H _ I h) fun us s1 ⟨vs, H1, I1, r1, q1⟩ => ?_) hs hpl))
  refine PyProof.Rows.kwAll_cons (PyProof.Rows.Constant_bool (PyProof.Rows.kwAll_nil ?_))
  obtain ⟨a, b, xs, ys, t1, t2, rfl, g1, g2, q⟩ := q1
  cases r1 with
  | cons r rr =>
    cases rr with
    | cons r' rr =>
      cases rr
      cases r
      cases r'
      obtain ⟨its, rv, p1, _⟩ := inv_sqB I1 g1
      obtain ⟨its2, rv2, p2, _⟩ := inv_sqB I1 g2
      refine call_zipS p1 p2 fun h' hz hTI hTO h1 h2 hsz hk => pyIter_zipS hz ?_
      refine ⟨s1.heap.objs.size + 4, [s1.heap.objs.size + 4, s1.heap.objs.size + 2, s1.heap.objs.size + 3, s1.heap.objs.size, s1.heap.objs.size + 1], _, _, H1, rfl, I1.kept (t' := s1.toks) hk, turn_zipS (PySem.W.ktu_apart s1.heap.objs.size a b p1.lt p2.lt), ⟨hz, hTI, ⟨_, _, hTO⟩, h1, h2⟩, fun c hcm => ?_, q⟩
      have up : s1.heap.objs.size ≤ c := by
        simp only [List.mem_cons, List.not_mem_nil, or_false] at hcm
        rcases hcm with e | e | e | e | e <;> rw [e] <;> first | exact Nat.le_refl _ | exact Nat.le_add_right _ _
      exact I1.fpOk up (I1.hok.fresh up)
/-- zip(a, b, strict=True) on data: of one length -/
def zipD : List D → List D → List D
  | x :: xs, y :: ys => .tuple [x, y] :: zipD xs ys
  | _, _ => []
theorem zipD_get : ∀ (xs ys : List D) (i : Nat) (d : D), (zipD xs ys)[i]? = some d → ∃ x y, xs[i]? = some x ∧ ys[i]? = some y ∧ d = .tuple [x, y]
  | [], _, _, _, h => by simp [zipD] at h
  | _ :: _, [], _, _, h => by simp [zipD] at h
  | x :: xs, y :: ys, 0, d, h => ⟨x, y, rfl, rfl, (Option.some.inj (show some _ = some d from h)).symm⟩
  | x :: xs, y :: ys, i + 1, d, h => zipD_get xs ys i d h
theorem zipD_len : ∀ (xs ys : List D), (zipD xs ys).length = min xs.length ys.length
  | [], _ => by simp [zipD]
  | _ :: _, [] => by simp [zipD]
  | x :: xs, y :: ys => by simp [zipD, zipD_len xs ys]
def zipStrictD : List D → Option Src
  | [a, b] => match itemsD a, itemsD b with
    | some xs, some ys => match Nat.beq xs.length ys.length with
      | true => some (constS (zipD xs ys))
      | false => none
    | _, _ => none
  | _ => none
def mZipStrict (f : Mo (List D)) : Mo Src := mRange zipStrictD f
theorem Rp.itemsB {K : PySem.W.Frag} {G : Hp} {v : V} {d : D} {ds : List D} (r : Rp K G v d) (h : itemsD d = some ds) : ∃ p xs t, v = .ref p ∧ SqB K t G p xs ∧ RpAll K G xs ds := by
  obtain ⟨p, xs, e, s, a⟩ := r.items h
  rcases s with s | s
  · exact ⟨p, xs, false, e, s, a⟩
  · exact ⟨p, xs, true, e, s, a⟩
theorem zip_ok {K : PySem.W.Frag} {G : Hp} {σ : St} {t1 t2 : Bool} {a b : Addr} {xs ys : List V} {ds es : List D} {js : List Nat} (g1 : SqB K t1 G a xs) (g2 : SqB K t2 G b ys) (r1 : RpAll K G xs ds) (r2 : RpAll K G ys es) (hl : ds.length = es.length) : ItOk K G σ (ItzS K t1 t2 a b) (constS (zipD ds es)) js := by
  intro i G2 ρ2 σ2 H2 items sg j _ e
  cases e
  have s1 : SqB K t1 H2 a xs := (g1.mono sg).mono j.sub
  have s2 : SqB K t2 H2 b ys := (g2.mono sg).mono j.sub
  have n1 := r1.length
  have n2 := r2.length
  refine ⟨fun d hd => ?_, fun hi => ⟨xs, ys, s1, s2, ?_, ?_⟩⟩
  · obtain ⟨x, y, hx, hy, rfl⟩ := zipD_get ds es i d hd
    obtain ⟨v, p1, p2⟩ := r1.get hx
    obtain ⟨u, p3, p4⟩ := r2.get hy
    refine ⟨⟨xs, ys, v, u, s1, s2, p1, p3⟩, fun z H3 yl => ?_⟩
    obtain ⟨T, x', y', o, rfl, hT, nd, rfl, f1, f2⟩ := yl
    have e1 := Option.some.inj ((f1 xs s1).symm.trans p1)
    have e2 := Option.some.inj ((f2 ys s2).symm.trans p3)
    subst e1 e2
    have px : PX G2 H2 _ _ := .alloc j.sub hT (.frz o (.tup [x', y']))
    exact ⟨_, px, .tup (.new nd) (.cons ((p2.mono sg).mono px.g) (.cons ((p4.mono sg).mono px.g) .nil))⟩
  · rw [zipD_len] at hi
    omega
  · rw [zipD_len] at hi
    omega
theorem iv_zipStrict {e e2 : Expr} {f : Mo (List D)} {p pos tpos kp cp : Pos} {elts : List Expr} {kk ck : Nat} (hm : X.mg "zip" = none) (ha : EA X E [e, e2] f) (hg : Gl X "zip" := by rfl) (hs : starEach [e, e2] X.env = (false, eval e X.env) :: starEach [e2] X.env := by rfl) (hpl : (backTo pos (starEach [e2] X.env)).any (·.1) = false := by rfl) :
    IV X E (.Tuple elts kk tpos) (.Call (.Name "zip" p) [e, e2] [⟨some "strict", .Constant (.bool true) ck cp, kp⟩] pos) (mZipStrict f) [] := by
  obtain ⟨t, pt, q⟩ := ha
  refine ⟨_, pi_zipS hg hm pt hs hpl, fun G ρ σ H R j h => q G ρ σ H _ j (PostI.imp h fun G1 ρ1 vs H1 ds e1 r1 h1 => ?_)⟩
  obtain ⟨src, hsr, k⟩ := PostI.lift h1
  match ds, hsr with
  | [d1, d2], hsr =>
    have hsr' : (match itemsD d1, itemsD d2 with
      | some xs, some ys => match Nat.beq xs.length ys.length with
        | true => some (constS (zipD xs ys))
        | false => none
      | _, _ => none) = some src := hsr
    cases hi1 : itemsD d1 with
    | none => simp only [hi1] at hsr'; cases hsr'
    | some xs =>
      cases hi2 : itemsD d2 with
      | none => simp only [hi1, hi2] at hsr'; cases hsr'
      | some ys =>
        simp only [hi1, hi2] at hsr'
        cases hb : Nat.beq xs.length ys.length with
        | false => rw [hb] at hsr'; cases hsr'
        | true =>
          rw [hb] at hsr'
          cases hsr'
          obtain ⟨x, y, rfl, ra, rb⟩ := r1.two
          obtain ⟨pa, vx, t1, rfl, sa, aa⟩ := ra.itemsB hi1
          obtain ⟨pb, vy, t2, rfl, sb, ab⟩ := rb.itemsB hi2
          exact ⟨pa, pb, vx, vy, t1, t2, rfl, sa.mono e1.j.sub, sb.mono e1.j.sub, k G1 H1 _ e1.j.refl (zip_ok sa sb aa ab (Nat.eq_of_beq_eq_true hb))⟩
theorem const_zipStrict {f : Mo (List D)} : ∀ ρ ρ' s, mZipStrict f ρ = some (.ok (ρ', s)) → Const s := by
  intro ρ ρ' s h
  unfold mZipStrict mRange mBind mLift at h
  cases e : f ρ with
  | none => simp only [e] at h; cases h
  | some o =>
    cases o with
    | error x => simp only [e] at h; cases h
    | ok p =>
      obtain ⟨ρ1, ds⟩ := p
      simp only [e] at h
      cases hi : zipStrictD ds with
      | none => simp only [hi] at h; cases h
      | some src =>
        simp only [hi] at h
        cases h
        unfold zipStrictD at hi
        split at hi
        · split at hi
          · split at hi
            · cases hi; exact fun _ => rfl
            · cases hi
          · cases hi
        · cases hi
end
end HB
namespace HB
open PySem L2
section
variable {prog : Program} {w : World} {A : Around} {E : Value → Shared → Prop} {s : Shared} {t : Bool}
theorem enum_item {e it l : Addr} {i : Nat} {its : Array Value} {x old : Value} {Q : Option Value → Shared → Prop} (hh : A.handled = none) (he : IsEnum s.heap e it i old) (hit : SIt t s.heap it l i) (hl : SIs t s.heap l its) (hx : its[i]? = some x) (hne : e ≠ it) (hel : e ≠ l) (hil : l ≠ it)
    (k : ∀ h' tk, IsEnumOut h' e it ((i : Int) + 1) x s.heap.objs.size → SIt t h' it l (i + 1) → h'.get? s.heap.objs.size = some { cls := .type "tuple", data := .seq #[.int i tk, x] } → h'.objs.size = s.heap.objs.size + 1 →
      (∀ b o, b ≠ e → b ≠ it → s.heap.get? b = some o → h'.get? b = some o) → Q (some (.ref s.heap.objs.size)) { s with heap := h', toks := tk + 1 }) : wpAny (model prog w) A (pyNext (.ref e)) Q E s := by
  have hlt : i < its.size := (Array.getElem?_eq_some_iff.mp hx).1
  have hef : e ∉ [it, l] := by simp [hne, hel]
  cases t
  · refine wpAny_pyNext_enum_itemD (Draws.tuple (A := A.in1) hh it l hil its) he ⟨hit, hl⟩ hlt hne hef fun y h' tk a b c d f g => ?_
    have e1 := Option.some.inj (hx.symm.trans a)
    subst e1
    exact k h' tk b c.1 d f g
  · refine wpAny_pyNext_enum_itemD (Draws.list (A := A.in1) hh it l hil its) he ⟨hit, hl⟩ hlt hne hef fun y h' tk a b c d f g => ?_
    have e1 := Option.some.inj (hx.symm.trans a)
    subst e1
    exact k h' tk b c.1 d f g
theorem SIs.at {h h' : Heap} {l : Addr} {its : Array Value} (x : SIs t h l its) (e : ∀ o, h.get? l = some o → h'.get? l = some o) : SIs t h' l its := by
  cases t
  · exact Heap.IsTuple.at x e
  · exact Heap.IsList.at x e
/-- an iterator at its end draws nothing -/
theorem drawsEnd {it l : Addr} {i : Nat} {its : Array Value} (hh : A.handled = none) (hx : its[i]? = none) : Draws prog w A it [it, l] 0 (fun _ _ => False) (fun _ h => SIt t h it l i ∧ SIs t h l its) where
  live := fun _ _ st => let ⟨o, e, _⟩ := st.1.obj; ⟨o, e⟩
  frame := fun _ _ _ st k => ⟨st.1.at (k it (by simp)), st.2.at (k l (by simp))⟩
  item := fun _ _ _ _ no => absurd no (Nat.not_lt_zero _)
  done := fun _ _ _ st k => nx_end hh st.1 st.2 hx k
theorem enum_end {e it l : Addr} {i : Nat} {c : Int} {its : Array Value} {old : Value} {Q : Option Value → Shared → Prop} (hh : A.handled = none) (he : IsEnum s.heap e it c old) (hit : SIt t s.heap it l i) (hl : SIs t s.heap l its) (hx : its[i]? = none)
    (k : ∀ h', Heap.ExtBut it s.heap h' → Q none { s with heap := h' }) : wpAny (model prog w) A (pyNext (.ref e)) Q E s := by
  exact wpAny_pyNext_enum_endD (drawsEnd (A := A.in1) hh hx) he ⟨hit, hl⟩ k
end
theorem meets_enumT (l : Addr) (its : Array Value) :
    Meets (Builtin.«enumerate.__new__» ⟨[.type "enumerate", .ref l], []⟩) (fun _ R s => s.heap.IsTuple l its ∧
      R (.ok (.ret (.ref (s.heap.push (itObj false l)).objs.size))) { s with heap := (s.heap.push (itObj false l)).push { cls := .type "enumerate", data := .fields #[.none, .bool false, .ref s.heap.objs.size, rawInt 0, .none, .none] } }) :=
  .of_wp fun prog w A R ⟨hp, g, d, tk, os⟩ ⟨a, h⟩ => by
    have hsub := F.called_enumerate.sub
    have b : Heap.IsTuple (Shared.heap ⟨hp, g, d, tk, os⟩) l its := a
    obtain ⟨ol, ho, hc, n, hd⟩ := id a
    wp_walk using AutoSeq1.wpAny_loadPart' ho
    apply wpAny_stack_any
    intro st
    apply wpAny_pure
    split
    · rename_i c _ _ _ _ _
      rcases Bool.eq_false_or_eq_true (c == Value.type "enumerate") with yes | yes <;> rw [yes]
      · wp_walk using AutoSeq1.wpAny_loadPart' ho, wpAny_pyIter_tuple b
        exact ⟨_, rfl, h⟩
      · wp_walk using AutoSeq1.wpAny_loadPart' ho, wpAny_pyIter_tuple b
        exact ⟨_, rfl, h⟩
    · wp_walk using AutoSeq1.wpAny_loadPart' ho, wpAny_pyIter_tuple b
      exact ⟨_, rfl, h⟩
section
variable {prog : Program} {w : World} {A : Around} {E : Value → Shared → Prop} {s : Shared} {t : Bool}
theorem call_enumB {l : Addr} {its : Array Value} {Q : Value → Shared → Prop} (hl : SIs t s.heap l its)
    (k : ∀ h', IsEnum h' (s.heap.objs.size + 1) s.heap.objs.size 0 .none → SIt t h' s.heap.objs.size l 0 → (∀ b o, s.heap.get? b = some o → h'.get? b = some o) → Q (.ref (s.heap.objs.size + 1)) { s with heap := h' }) : wpAny (model prog w) A (call (.type "enumerate") [.ref l]) Q E s := by
  cases t
  · refine callType_new F.called_enumerate (by decide) (F.typeCall_enumerate_1 _) (F.newCall_enumerate_1 _) (fun obj => F.args_object_init_2 obj _) F.entry_enumerate_new (meets_enumT l its) ⟨hl, ?_⟩
    have hz : (s.heap.push (itObj false l)).objs.size = s.heap.objs.size + 1 := Heap.size_push ..
    have he := Heap.get?_push_size (s.heap.push (itObj false l)) (o := { cls := .type "enumerate", data := .fields #[.none, .bool false, .ref s.heap.objs.size, rawInt 0, .none, .none] }) rfl
    show _ ∧ _
    rw [hz] at he ⊢
    exact ⟨⟨_, he, rfl⟩, k _ he ⟨_, Heap.get?_push_of_some _ (Heap.get?_push_size _ rfl), rfl, rfl⟩ fun b o x => Heap.get?_push_of_some _ (Heap.get?_push_of_some _ x)⟩
  · exact call_enumerate_list hl fun h' a b _ d => k h' a b d
end
def ItEn (K : PySem.W.Frag) (t : Bool) (a : Addr) : It :=
  ⟨fun i H => ∃ (xs : List V) (x : V), SqB K t H a xs ∧ xs[i]? = some x, fun i H v H' => ∃ T x o, v = .ref T ∧ H T = none ∧ o.dict = none ∧ H' = upd H T (.frz o (.tup [.int (i : Nat), x])) ∧ ∀ xs, SqB K t H a xs → xs[i]? = some x, fun i H => ∃ xs : List V, SqB K t H a xs ∧ xs.length ≤ i⟩
/-- how an enumerate stands ahead of its turn i -/
structure EnSt (t : Bool) (a e it : Addr) (i : Nat) (h : Heap) : Prop where
  en : ∃ old, IsEnum h e it ((i : Nat) : Int) old
  l : SIt t h it a i
theorem EnSt.all {t : Bool} {a e it : Addr} {i : Nat} {h : Heap} (q : EnSt t a e it i h) : ∀ c ∈ [e, it], ∃ o, h.get? c = some o ∧ ∀ v, o.data ≠ .cell v := by
  obtain ⟨old, he⟩ := q.en
  simp only [List.mem_cons, List.not_mem_nil, or_false, forall_eq_or_imp, forall_eq]
  exact ⟨⟨_, he, fun v z => nomatch z⟩, q.l.obj⟩
theorem EnSt.lt {t : Bool} {a e it c : Addr} {i : Nat} {h : Heap} (q : EnSt t a e it i h) (hc : c ∈ [e, it]) : c < h.objs.size := let ⟨_, z, _⟩ := q.all c hc; Heap.lt_size z
theorem turn_enumB {P : Program} {w : World} {K : PySem.W.Frag} {t : Bool} {elts : List Expr} {kk : Nat} {tpos : Pos} {a e it : Addr} (hne : e ≠ it) (hel : e ≠ a) (hil : a ≠ it) :
    Turn P w K (.Tuple elts kk tpos) (ItEn K t a) [e, it] e (EnSt t a e it) where
  mem := by simp
  obj := fun i h q => q.all
  keep := fun i h h' q k => ⟨let ⟨old, he⟩ := q.en; ⟨old, k e (by simp) _ he⟩, q.l.at fun o z => k it (by simp) o z⟩
  item := by
    intro X hP hw hK hc i pins s σ H E I hf q ⟨xs, x, hq, hx⟩
    subst hP hw hK
    obtain ⟨old, he⟩ := q.en
    have ⟨its, rv, p, hz⟩ := inv_sqB I hq
    have ⟨u, hu, ru⟩ := rv.get hx
    refine enum_item (I.ok.hd hc) he q.l p (x := u) (by simpa using hu) hne hel hil fun h' tk ho hit' hT hsz hk => ⟨_, rfl, ?_⟩
    refine wpAny_letOwnedTupleGo_enum (s := { s with heap := h', toks := tk + 1 }) ho fun g he' sb => ?_
    have same : ∀ c o, c ∉ [e, it] → s.heap.get? c = some o → g.get? c = some o := fun c o hb z => by
      simp only [List.mem_cons, List.not_mem_nil, or_false, not_or] at hb
      exact (sb.2 c hb.1).trans (hk c o hb.1 hb.2 z)
    have pr := (sb.2 _ (Nat.ne_of_gt (q.lt (by simp)))).trans hT
    have nw : ObjOk X.prog X.w (upd H s.heap.objs.size (.frz (tupO [.int i tk, u]) (.tup [.int (i : Nat), x]))) g s.heap.objs.size (.frz (tupO [.int i tk, u]) (.tup [.int (i : Nat), x])) := ⟨pr, by show 2 ≤ sizeLine; decide, [.int i tk, u], .cons ⟨_, rfl⟩ (.cons ru .nil), ⟨_, pr, rfl, _, rfl⟩⟩
    refine ⟨.ref s.heap.objs.size, _, I.turnedNew (t' := tk + 1) (ch := [e, it]) same hf (Nat.le_refl _) nw, rfl, ⟨_, x, _, rfl, I.hok.fresh (Nat.le_refl _), rfl, rfl, fun ys hy => by rw [inv_sqB_inj I hy hq]; exact hx⟩, ⟨⟨u, by rw [Int.natCast_succ]; exact he'⟩, hit'.at fun o z => (sb.2 it (Ne.symm hne)).trans z⟩, fun c hcm => ?_⟩
    exact (upd_ne (Nat.ne_of_lt (q.lt hcm))).trans (hf c hcm).1
  done := by
    intro X hP hw hK hc i pins s σ H E I hf q ⟨xs, hq, hx⟩
    subst hP hw hK
    obtain ⟨old, he⟩ := q.en
    have ⟨its, rv, p, hz⟩ := inv_sqB I hq
    have fi := hf it (by simp)
    have hl := rv.length
    exact enum_end (I.ok.hd hc) he q.l p (by simp; omega) fun h' eb => ⟨rfl, I.turned (t' := s.toks) (fun b o hb z => eb b o hb z) fi.1 fi.2.1 fi.2.2.2.1 fi.2.2.2.2.1 fi.2.2.2.2.2⟩
  self := fun A i s Q E st h => let ⟨_, he⟩ := st.en; wpAny_pyIter_enum he h
def enumD (n : Nat) : List D → List D
  | [] => []
  | d :: ds => .tuple [.int n, d] :: enumD (n + 1) ds
theorem enumD_get : ∀ (ds : List D) (n i : Nat) (d : D), (enumD n ds)[i]? = some d → ∃ x, ds[i]? = some x ∧ d = .tuple [.int ((n + i : Nat) : Int), x]
  | [], _, _, _, h => by simp [enumD] at h
  | x :: ds, n, 0, d, h => ⟨x, rfl, by cases h; rfl⟩
  | x :: ds, n, i + 1, d, h => by
    obtain ⟨y, h1, h2⟩ := enumD_get ds (n + 1) i d h
    exact ⟨y, h1, by rw [h2]; have e : n + 1 + i = n + (i + 1) := by omega
                     rw [e]⟩
theorem enumD_len : ∀ (ds : List D) (n : Nat), (enumD n ds).length = ds.length
  | [], _ => rfl
  | _ :: ds, n => congrArg (· + 1) (enumD_len ds (n + 1))
section
variable {X : Cx} {E : XK}
def iEnumB (K : PySem.W.Frag) (ta : TA) : TI := fun σ H R => ta σ H fun vs H1 => ∃ a xs t, vs = [.ref a] ∧ SqB K t H1 a xs ∧ R (ItEn K t a) H1
theorem pi_enumB {e : Expr} {ta : TA} {p pos tpos : Pos} {elts : List Expr} {kk : Nat} (hg : Gl X "enumerate") (hm : X.mg "enumerate" = none) (ha : PA X [e] ta) (hs : starEach [e] X.env = (false, eval e X.env) :: starEach [] X.env := by rfl) (hpl : (backTo pos (starEach [] X.env)).any (·.1) = false := by rfl) :
    PI X (.Tuple elts kk tpos) (.Call (.Name "enumerate" p) [e] [] pos) (iEnumB X.K ta) := by
  refine PI.mk fun pins s σ H R I h => ?_
  refine PyProof.Rows.Call_ (ld_blt I hg hm PyProof.Rows.boot_enumerate (PyProof.Rows.callWith_type1 (thn (ha.run pos pins s σ H _ I h) fun us s1 ⟨vs, H1, I1, r1, q1⟩ => ?_) hs hpl))
  obtain ⟨a, xs, t, rfl, hq, q⟩ := q1
  cases r1 with
  | cons r rr =>
    cases rr
    cases r
    obtain ⟨its, rv, p', hz⟩ := inv_sqB I1 hq
    refine call_enumB p' fun h' he hit hk => wpAny_pyIter_enum he ?_
    refine ⟨s1.heap.objs.size + 1, [s1.heap.objs.size + 1, s1.heap.objs.size], _, _, H1, rfl, I1.kept (t' := s1.toks) hk, turn_enumB (Nat.succ_ne_self _) (Nat.ne_of_gt (Nat.lt_succ_of_lt p'.lt)) (Nat.ne_of_lt p'.lt), ⟨⟨.none, he⟩, hit⟩, fun c hcm => ?_, q⟩
    have up : s1.heap.objs.size ≤ c := by
      simp only [List.mem_cons, List.not_mem_nil, or_false] at hcm
      rcases hcm with z | z <;> rw [z] <;> first | exact Nat.le_refl _ | exact Nat.le_add_right _ _
    exact I1.fpOk up (I1.hok.fresh up)
theorem enum_ok {K : PySem.W.Frag} {G : Hp} {σ : St} {t : Bool} {a : Addr} {xs : List V} {ds : List D} {js : List Nat} (h : SqB K t G a xs) (r : RpAll K G xs ds) : ItOk K G σ (ItEn K t a) (constS (enumD 0 ds)) js := by
  intro i G2 ρ2 σ2 H2 items sg j _ e
  cases e
  have hs : SqB K t H2 a xs := (h.mono sg).mono j.sub
  refine ⟨fun d hd => ?_, fun hi => ⟨xs, hs, by rw [r.length]; rw [enumD_len] at hi; exact hi⟩⟩
  obtain ⟨x, hx, rfl⟩ := enumD_get ds 0 i d hd
  obtain ⟨v, h1, h2⟩ := r.get hx
  refine ⟨⟨xs, v, hs, h1⟩, fun z H3 y => ?_⟩
  obtain ⟨T, x', o, rfl, hT, nd, rfl, y⟩ := y
  have e := Option.some.inj ((y xs hs).symm.trans h1)
  subst e
  have px : PX G2 H2 _ _ := .alloc j.sub hT (.frz o (.tup [.int (i : Nat), x']))
  exact ⟨_, px, .tup (.new nd) (.cons (by rw [Nat.zero_add]; exact .int _) (.cons ((h2.mono sg).mono px.g) .nil))⟩
def mEnum (f : Mo D) : Mo Src := mBind f fun d => mLift ((itemsD d).map fun ds => constS (enumD 0 ds))
theorem iv_enum {e : Expr} {f : Mo D} {p pos tpos : Pos} {elts : List Expr} {kk : Nat} (hm : X.mg "enumerate" = none) (h : EV X E e f) (hg : Gl X "enumerate" := by rfl) (hs : starEach [e] X.env = (false, eval e X.env) :: starEach [] X.env := by rfl) (hpl : (backTo pos (starEach [] X.env)).any (·.1) = false := by rfl) :
    IV X E (.Tuple elts kk tpos) (.Call (.Name "enumerate" p) [e] [] pos) (mEnum f) [] := by
  obtain ⟨t, pt, q⟩ := h
  refine ⟨_, pi_enumB hg hm (pa_cons pt pa_nil hs) hs hpl, fun G ρ σ H R j h => q G ρ σ H _ j (PostI.imp h fun G1 ρ1 v H1 d e1 r1 h1 => ?_)⟩
  obtain ⟨src, hsr, k⟩ := PostI.lift h1
  cases hi : itemsD d with
  | none => rw [hi] at hsr; cases hsr
  | some ds =>
    rw [hi] at hsr
    cases hsr
    obtain ⟨p0, xs, t, rfl, s0, r0⟩ := r1.itemsB hi
    exact ⟨p0, xs, t, rfl, s0.mono e1.j.sub, k G1 H1 _ e1.j.refl (enum_ok s0 r0)⟩
theorem const_enum {f : Mo D} : ∀ ρ ρ' s, mEnum f ρ = some (.ok (ρ', s)) → Const s := by
  intro ρ ρ' s h
  unfold mEnum mBind mLift at h
  cases e : f ρ with
  | none => simp only [e] at h; cases h
  | some o =>
    cases o with
    | error x => simp only [e] at h; cases h
    | ok p =>
      obtain ⟨ρ1, d⟩ := p
      simp only [e] at h
      cases hi : itemsD d with
      | none => simp only [hi, Option.map] at h; cases h
      | some ds =>
        simp only [hi, Option.map] at h
        cases h
        exact fun _ => rfl
def enumOS (j : Nat) : Src := fun ρ => match ρ[j]? with
  | some (.own ds) => some (enumD 0 ds)
  | _ => none
def mEnumO (i : Nat) : Mo Src := fun ρ => match ρ[i]? with
  | some (.own _) => some (.ok (ρ, enumOS i))
  | _ => none
theorem enumO_ok {K : PySem.W.Frag} {G : Hp} {σ : St} {i : Nat} {a : Addr} (h : σ[i]? = some (some (.ref a))) : ItOk K G σ (ItEn K true a) (enumOS i) [i] := by
  intro n G2 ρ2 σ2 H2 items sg j hj e
  unfold enumOS at e
  cases q : ρ2[i]? with
  | none => simp [q] at e
  | some s =>
    rw [q] at e
    cases s with
    | no => cases e
    | box _ => cases e
    | pur d => cases e
    | own ds =>
      have e := Option.some.inj e
      subst e
      obtain ⟨a', vs, h1, h2, h3, h4⟩ := j.own i _ ds q rfl
      rw [hj i List.mem_cons_self, h] at h1
      cases h1
      have hs : SqB K true H2 a vs := SqL.of h2
      refine ⟨fun d hd => ?_, fun hi => ⟨vs, hs, by rw [h4.length]; rw [enumD_len] at hi; exact hi⟩⟩
      obtain ⟨x, hx, rfl⟩ := enumD_get ds 0 n d hd
      obtain ⟨v, q1, q2⟩ := h4.get hx
      refine ⟨⟨vs, v, hs, q1⟩, fun z H3 y => ?_⟩
      obtain ⟨T, x', o, rfl, hT, nd, rfl, y⟩ := y
      have e := Option.some.inj ((y vs hs).symm.trans q1)
      subst e
      have px : PX G2 H2 _ _ := .alloc j.sub hT (.frz o (.tup [.int (n : Nat), x']))
      exact ⟨_, px, .tup (.new nd) (.cons (by rw [Nat.zero_add]; exact .int _) (.cons (q2.mono px.g) .nil))⟩
theorem iv_enumO {p pos tpos p1 : Pos} {elts : List Expr} {kk : Nat} {x : Str} (hm : X.mg "enumerate" = none) (i : Nat) (hN : X.N[i]? = some x := by rfl) (hv : Vis X.env.scope x := by first | exact Or.inl rfl | exact Or.inr (Or.inl rfl) | exact Or.inr (Or.inr rfl)) (hd : (x == ("__debug__" : Str)) = false := by decide)
    (hcd : (x == ("__classdict__" : Str)) = false := by decide) (hg : Gl X "enumerate" := by rfl) (hs : starEach [.Name x p1] X.env = (false, eval (.Name x p1) X.env) :: starEach [] X.env := by rfl) (hpl : (backTo pos (starEach [] X.env)).any (·.1) = false := by rfl) :
    IV X E (.Tuple elts kk tpos) (.Call (.Name "enumerate" p) [.Name x p1] [] pos) (mEnumO i) [i] := by
  refine ⟨_, pi_enumB hg hm (pa_cons (pe_var hN hv hd hcd) pa_nil hs) hs hpl, fun G ρ σ H R j h => ?_⟩
  unfold mEnumO at h
  cases q : ρ[i]? with
  | none => rw [q] at h; exact h.elim
  | some s =>
    rw [q] at h
    cases s with
    | no => exact h.elim
    | box _ => exact h.elim
    | pur d => exact h.elim
    | own ds =>
      obtain ⟨a, vs, h1, h2, h3, h4⟩ := j.own i _ ds q rfl
      exact ⟨_, h1, a, vs, true, rfl, SqL.of h2, h G H _ j.refl (enumO_ok h1)⟩
inductive Tm where
  | p (d : D)
  | o (ds : List D)
/-- new lists among them are nobody else's, and apart -/
def RT (K : PySem.W.Frag) (H0 G H : Hp) (ρ : En) (σ : St) : List V → List Tm → Prop
  | [], [] => True
  | v :: vs, .p d :: ts => Rp K G v d ∧ RT K H0 G H ρ σ vs ts
  | v :: vs, .o ds :: ts => (∃ a us, v = .ref a ∧ H0 a = none ∧ G a = none ∧ H a = some (.lst us) ∧ ¬ Ownd ρ σ a ∧ RpAll K G us ds ∧ ∀ (i : Nat) es, ts[i]? = some (.o es) → vs[i]? ≠ some (.ref a)) ∧ RT K H0 G H ρ σ vs ts
  | _, _ => False
def PostX (K : PySem.W.Frag) (E : XK) (G : Hp) (ρ : En) (σ : St) (H : Hp) (Q : List V → Hp → Prop) : Option (Except Exn (En × List Tm)) → Prop
  | none => False
  | some (.error x) => ∀ C dx H', XP K G ρ σ H x C dx H' → E C dx H'
  | some (.ok (ρ', ts)) => ∀ G' vs H', Ex K G ρ σ H G' ρ' σ H' → RT K H G' H' ρ' σ vs ts → Q vs H'
def EX (X : Cx) (E : XK) (es : List Expr) (f : Mo (List Tm)) : Prop := ∃ t, PA X es t ∧ ∀ G ρ σ H Q, J X.K G ρ σ H → PostX X.K E G ρ σ H Q (f ρ) → t σ H Q
def xNil : Mo (List Tm) := mRet []
def xConsP (a : Mo D) (r : Mo (List Tm)) : Mo (List Tm) := mBind a fun d => mBind r fun ts => mRet (.p d :: ts)
def xConsO (a : Mo (List D)) (r : Mo (List Tm)) : Mo (List Tm) := mBind a fun ds => mBind r fun ts => mRet (.o ds :: ts)
theorem ex_nil : EX X E [] xNil := ⟨_, pa_nil, fun G ρ σ H Q j h => h G [] H j.refl trivial⟩
theorem RT.dom {K : PySem.W.Frag} {H0 H1 G H : Hp} {ρ : En} {σ : St} (d : ∀ a, H1 a = none → H0 a = none) : ∀ {vs : List V} {ts : List Tm}, RT K H1 G H ρ σ vs ts → RT K H0 G H ρ σ vs ts
  | [], [], _ => trivial
  | v :: vs, .p e :: ts, h => ⟨h.1, RT.dom d h.2⟩
  | v :: vs, .o es :: ts, h => by
    obtain ⟨⟨a, us, h1, h2, h3⟩, h4⟩ := h
    exact ⟨⟨a, us, h1, d a h2, h3⟩, RT.dom d h4⟩
theorem RT.fresh {K : PySem.W.Frag} {H0 G H : Hp} {ρ : En} {σ : St} : ∀ {vs : List V} {ts : List Tm} (i : Nat) {es : List D} {b : Addr}, RT K H0 G H ρ σ vs ts → ts[i]? = some (.o es) → vs[i]? = some (.ref b) → H0 b = none
  | [], [], _, _, _, _, h, _ => by simp at h
  | v :: vs, .p e :: ts, 0, _, _, _, h, _ => by cases h
  | v :: vs, .p e :: ts, i + 1, _, _, h, h1, h2 => RT.fresh i h.2 h1 h2
  | v :: vs, .o e :: ts, 0, _, b, h, h1, h2 => by
    obtain ⟨⟨a, us, z1, z2, _⟩, _⟩ := h
    have e2 : v = .ref b := Option.some.inj h2
    rw [e2] at z1
    cases z1
    exact z2
  | v :: vs, .o e :: ts, i + 1, _, _, h, h1, h2 => RT.fresh i h.2 h1 h2
theorem ex_consP {e : Expr} {es : List Expr} {f : Mo D} {g : Mo (List Tm)} (h : EV X E e f) (hr : EX X E es g) (hs : starEach (e :: es) X.env = (false, eval e X.env) :: starEach es X.env := by rfl) : EX X E (e :: es) (xConsP f g) := by
  obtain ⟨t, p, q⟩ := h
  obtain ⟨t2, p2, q2⟩ := hr
  refine ⟨_, pa_cons p p2 hs, fun G ρ σ H Q j h => q G ρ σ H _ j ?_⟩
  unfold xConsP mBind at h
  cases h1 : f ρ with
  | none => simp only [h1] at h; exact h
  | some r1 =>
    cases r1 with
    | error x => simp only [h1] at h; exact h
    | ok pr =>
      obtain ⟨ρ1, d⟩ := pr
      simp only [h1] at h
      intro G1 v H1 e1 rv
      refine q2 G1 ρ1 σ H1 _ e1.j ?_
      cases h2 : g ρ1 with
      | none => simp only [h2] at h; exact h
      | some r2 =>
        cases r2 with
        | error x => simp only [h2] at h; exact fun C dx H' z => h C dx H' (XP.trans e1 z)
        | ok pr2 =>
          obtain ⟨ρ2, ts⟩ := pr2
          simp only [h2] at h
          exact fun G2 vs H2 e2 rt => h G2 (v :: vs) H2 (e1.trans e2) ⟨rv.mono e2.g, rt.dom e1.dom⟩
theorem ex_consO {e : Expr} {es : List Expr} {f : Mo (List D)} {g : Mo (List Tm)} (h : EN X E e f) (hr : EX X E es g) (hs : starEach (e :: es) X.env = (false, eval e X.env) :: starEach es X.env := by rfl) : EX X E (e :: es) (xConsO f g) := by
  obtain ⟨t, p, q⟩ := h
  obtain ⟨t2, p2, q2⟩ := hr
  refine ⟨_, pa_cons p p2 hs, fun G ρ σ H Q j h => q G ρ σ H _ j ?_⟩
  unfold xConsO mBind at h
  cases h1 : f ρ with
  | none => simp only [h1] at h; exact h
  | some r1 =>
    cases r1 with
    | error x => simp only [h1] at h; exact h
    | ok pr =>
      obtain ⟨ρ1, ds⟩ := pr
      simp only [h1] at h
      intro G1 v H1 e1 rv
      obtain ⟨a, us, rfl, z1, z2, z3, no, z4⟩ := rv
      refine q2 G1 ρ1 σ H1 _ e1.j ?_
      cases h2 : g ρ1 with
      | none => simp only [h2] at h; exact h
      | some r2 =>
        cases r2 with
        | error x => simp only [h2] at h; exact fun C dx H' z => h C dx H' (XP.trans e1 z)
        | ok pr2 =>
          obtain ⟨ρ2, ts⟩ := pr2
          simp only [h2] at h
          intro G2 vs H2 e2 rt
          refine h G2 (.ref a :: vs) H2 (e1.trans e2) ⟨⟨a, us, rfl, z1, ?_, e2.kept a _ z3 no, ?_, z4.mono e2.g, fun i es hi hv => ?_⟩, rt.dom e1.dom⟩
          · cases y : G2 a with
            | none => rfl
            | some o =>
              rcases e2.new a (by rw [y]; simp) with w1 | w1 | w1
              · exact absurd z2 w1
              · rw [z3] at w1; cases w1
              · exact absurd w1 no
          · intro w1
            rcases e2.ow a w1 with w2 | w2
            · exact no w2
            · rw [z3] at w2; cases w2
          · have w1 := rt.fresh i hi hv
            rw [z3] at w1
            cases w1
/-- one of them to its name -/
def slOf : Tm → Sl
  | .p d => .pur d
  | .o ds => .own ds
theorem ownd_set {ρ : En} {σ : St} {i : Nat} {s : Sl} {v : V} {b : Addr} (h : Ownd (ρ.set i s) (σ.set i (some v)) b) : Ownd ρ σ b ∨ ((∃ ds, s.ls = some ds) ∧ v = .ref b) := by
  obtain ⟨k, s0, es, q1, hl, q2⟩ := h
  rcases getElem?_set_cases q1 with ⟨e1, e2⟩ | ⟨e1, e2⟩
  · rcases getElem?_set_cases q2 with ⟨_, e4⟩ | ⟨e3, _⟩
    · exact .inr ⟨⟨es, by rw [← e2]; exact hl⟩, (Option.some.inj e4).symm⟩
    · exact absurd e1 e3
  · rw [List.getElem?_set_ne (Ne.symm e1)] at q2
    exact .inl ⟨k, s0, es, e2, hl, q2⟩
theorem RT.no {K : PySem.W.Frag} {H0 G H : Hp} {ρ ρ1 : En} {σ σ1 : St} : ∀ {vs : List V} {ts : List Tm} (_ : ∀ b, Ownd ρ1 σ1 b → Ownd ρ σ b ∨ ∀ (i : Nat) es, ts[i]? = some (.o es) → vs[i]? ≠ some (.ref b)), RT K H0 G H ρ σ vs ts → RT K H0 G H ρ1 σ1 vs ts
  | [], [], _, _ => trivial
  | v :: vs, .p e :: ts, n, h => ⟨h.1, RT.no (fun b hb => (n b hb).imp id fun z i es q => z (i + 1) es q) h.2⟩
  | v :: vs, .o es :: ts, n, h => by
    obtain ⟨⟨a, us, h1, h2, h3, h4, h5, h6⟩, h7⟩ := h
    refine ⟨⟨a, us, h1, h2, h3, h4, fun z => ?_, h6⟩, RT.no (fun b hb => (n b hb).imp id fun z i es q => z (i + 1) es q) h7⟩
    rcases n a z with w | w
    · exact h5 w
    · exact w 0 es rfl (congrArg some h1)
theorem RT.put {K : PySem.W.Frag} {G H G' H' : Hp} {ρ ρ' : En} {σ σ' : St} {v : V} {vs : List V} {tm : Tm} {ts : List Tm} (e : Ex K G ρ σ H G' ρ' σ' H') (i : Nat) (r : RT K H G' H' ρ' σ' (v :: vs) (tm :: ts)) :
    Ex K G ρ σ H G' (ρ'.set i (slOf tm)) (σ'.set i (some v)) H' ∧ RT K H G' H' (ρ'.set i (slOf tm)) (σ'.set i (some v)) vs ts := by
  cases tm with
  | p d =>
    obtain ⟨h1, h2⟩ := r
    refine ⟨e.trans (Ex.set e.j i h1), RT.no (fun b hb => ?_) h2⟩
    rcases ownd_set hb with z | ⟨⟨_, z⟩, _⟩
    · exact .inl z
    · cases z
  | o ds =>
    obtain ⟨⟨a, us, h1, h2, h3, h4, h5, h6, h7⟩, h8⟩ := r
    refine ⟨e.setOwn i ⟨a, us, h1, h2, h3, h4, h5, h6⟩, RT.no (fun b hb => ?_) h8⟩
    rcases ownd_set hb with z | ⟨_, z⟩
    · exact .inl z
    · have e3 : a = b := by rw [h1] at z; exact V.ref.inj z
      subst e3
      exact .inr h7
theorem RT.nil {K : PySem.W.Frag} {H0 G H : Hp} {ρ : En} {σ : St} {vs : List V} (h : RT K H0 G H ρ σ vs []) : vs = [] := by
  cases vs with
  | nil => rfl
  | cons v vs => exact h.elim
theorem RT.cons {K : PySem.W.Frag} {H0 G H : Hp} {ρ : En} {σ : St} {vs : List V} {t : Tm} {ts : List Tm} (h : RT K H0 G H ρ σ vs (t :: ts)) : ∃ v ws, vs = v :: ws := by
  cases vs with
  | nil => cases t <;> exact h.elim
  | cons v vs => exact ⟨_, _, rfl⟩
def sPar2 (i j : Nat) (f : Mo (List Tm)) : Mo Fl := mBind f fun ts ρ => match ts with
  | [x, y] => some (.ok ((ρ.set i (slOf x)).set j (slOf y), .nx))
  | _ => none
def sPar3 (i j k : Nat) (f : Mo (List Tm)) : Mo Fl := mBind f fun ts ρ => match ts with
  | [x, y, z] => some (.ok (((ρ.set i (slOf x)).set j (slOf y)).set k (slOf z), .nx))
  | _ => none
theorem s_par2 {i j : Nat} {x y : Str} {a b : Expr} {f : Mo (List Tm)} {px py pt : Pos} {kt k2 : Nat} {pt2 pos : Pos} (hc : X.calm = true) (hN : X.N.Nodup) (h : EX X E [a, b] f) (hi : X.N[i]? = some x := by rfl) (hj : X.N[j]? = some y := by rfl) (hij : i ≠ j := by decide)
    (hx : X.env.scope.names.lookup x = some .local := by rfl) (hy : X.env.scope.names.lookup y = some .local := by rfl) (hw : swappedStores [.Tuple [.Name x px, .Name y py] kt pt] (.Tuple [a, b] k2 pt2) X.env = pure (some [x, y]) := by rfl) :
    SV X E (.Assign [.Tuple [.Name x px, .Name y py] kt pt] (.Tuple [a, b] k2 pt2) pos) (sPar2 i j f) := by
  obtain ⟨t, p, q⟩ := h
  refine ⟨_, ps_par hc hN hi hj hij hx hy p hw, fun G ρ σ H De jj h => q G ρ σ H _ jj ?_⟩
  unfold sPar2 mBind at h
  match hh : f ρ, h with
  | none, h => exact h.elim
  | some (.error x), h => exact h
  | some (.ok (ρ1, [t1, t2])), h =>
    intro G1 vs H1 e1 r1
    obtain ⟨v1, vs, rfl⟩ := r1.cons
    obtain ⟨e2, r2⟩ := RT.put e1 i r1
    obtain ⟨v2, vs, rfl⟩ := r2.cons
    obtain ⟨e3, r3⟩ := RT.put e2 j r2
    cases r3.nil
    exact ⟨v1, v2, rfl, h G1 _ H1 e3⟩
  | some (.ok (ρ1, [])), h => exact h.elim
  | some (.ok (ρ1, [_])), h => exact h.elim
  | some (.ok (ρ1, _ :: _ :: _ :: _)), h => exact h.elim
theorem s_par3 {i j l : Nat} {x y z : Str} {a b c : Expr} {f : Mo (List Tm)} {px py pz pt : Pos} {kt k2 : Nat} {pt2 pos : Pos} (hc : X.calm = true) (hN : X.N.Nodup) (h : EX X E [a, b, c] f) (hi : X.N[i]? = some x := by rfl) (hj : X.N[j]? = some y := by rfl) (hl : X.N[l]? = some z := by rfl) (hij : i ≠ j := by decide) (hil : i ≠ l := by decide) (hjl : j ≠ l := by decide)
    (hx : X.env.scope.names.lookup x = some .local := by rfl) (hy : X.env.scope.names.lookup y = some .local := by rfl) (hz : X.env.scope.names.lookup z = some .local := by rfl) (hw : swappedStores [.Tuple [.Name x px, .Name y py, .Name z pz] kt pt] (.Tuple [a, b, c] k2 pt2) X.env = pure (some [x, y, z]) := by rfl) :
    SV X E (.Assign [.Tuple [.Name x px, .Name y py, .Name z pz] kt pt] (.Tuple [a, b, c] k2 pt2) pos) (sPar3 i j l f) := by
  obtain ⟨t, p, q⟩ := h
  refine ⟨_, ps_par3 hc hN hi hj hl hij hil hjl hx hy hz p hw, fun G ρ σ H De jj h => q G ρ σ H _ jj ?_⟩
  unfold sPar3 mBind at h
  match hh : f ρ, h with
  | none, h => exact h.elim
  | some (.error x), h => exact h
  | some (.ok (ρ1, [t1, t2, t3])), h =>
    intro G1 vs H1 e1 r1
    obtain ⟨v1, vs, rfl⟩ := r1.cons
    obtain ⟨e2, r2⟩ := RT.put e1 i r1
    obtain ⟨v2, vs, rfl⟩ := r2.cons
    obtain ⟨e3, r3⟩ := RT.put e2 j r2
    obtain ⟨v3, vs, rfl⟩ := r3.cons
    obtain ⟨e4, r4⟩ := RT.put e3 l r3
    cases r4.nil
    exact ⟨v1, v2, v3, rfl, h G1 _ H1 e4⟩
  | some (.ok (ρ1, [])), h => exact h.elim
  | some (.ok (ρ1, [_])), h => exact h.elim
  | some (.ok (ρ1, [_, _])), h => exact h.elim
  | some (.ok (ρ1, _ :: _ :: _ :: _ :: _)), h => exact h.elim
def rSubB : R2 := fun x y H Q => ∃ a b : Bool, x = .bl a ∧ y = .bl b ∧ Q (.int (PyProof.Rows.b2i a - PyProof.Rows.b2i b)) H
theorem op_subB : OpR X (binaryOp .Sub) rSubB := fun pins s σ H x y v u Q I rx ry ⟨a, b, ex, ey, q⟩ => by
  subst ex ey
  rw [show v = Value.bool a from rx, show u = Value.bool b from ry]
  exact PyProof.Rows.sub_bool ⟨.int _, H, I.tok _, ⟨_, rfl⟩, q⟩
def b2n : Bool → Int
  | true => 1
  | false => 0
def subBD : D → D → Option D
  | .bool a, .bool b => some (.int (b2n a - b2n b))
  | _, _ => none
theorem b2i_n (a : Bool) : PyProof.Rows.b2i a = b2n a := by cases a <;> rfl
theorem dop_subB : DOp X (binaryOp .Sub) subBD := by
  refine ⟨_, op_subB, fun G H x y a b c Q s hx hy h k => ?_⟩
  cases hx with
  | bl i => cases hy with
    | bl j => cases h; exact ⟨i, j, rfl, rfl, by rw [b2i_n, b2i_n]; exact k G _ H (.refl s) (.int _)⟩
    | _ => cases h
  | _ => cases h
def isBD : D → D → Option D
  | .bool a, .bool b => some (.bool (decide (a = b)))
  | _, _ => none
def isNotBD : D → D → Option D
  | .bool a, .bool b => some (.bool (!decide (a = b)))
  | _, _ => none
theorem dop_isB : DOp X (compareOp .Is) isBD := by
  refine ⟨_, op_isBl, fun G H x y a b c Q s hx hy h k => ?_⟩
  cases hx with
  | bl i => cases hy with
    | bl j => cases h; exact ⟨i, j, rfl, rfl, k G _ H (.refl s) (.bl _)⟩
    | _ => cases h
  | _ => cases h
theorem dop_isNotB : DOp X (compareOp .IsNot) isNotBD := by
  refine ⟨_, op_notBl, fun G H x y a b c Q s hx hy h k => ?_⟩
  cases hx with
  | bl i => cases hy with
    | bl j => cases h; exact ⟨i, j, rfl, rfl, k G _ H (.refl s) (.bl _)⟩
    | _ => cases h
  | _ => cases h
theorem hu65 {k : Nat} {A : Around} (r : Room k A) : A.units + 65 < cLine := by have := r.un; omega
def fuelInt (i : Nat) : En → Nat := fun ρ => match ρ[i]? with
  | some (Sl.pur (.int j)) => j.toNat + 1
  | _ => 0
theorem pass_own {P : Program} {w : World} {K : PySem.W.Frag} {mg : Str → Option Value} {base : Heap} {N : List Str} {qual : Str} {scope : Scope} {f : Addr} {cd : Value} {A : Around} {outer : List PySem.Env} {s : Shared} {H : Hp} {E : XK} :
    PassesOwn (model P w) (cxOf (L2.CX P w) P w K mg base N qual scope f cd A outer s H E).A (cxOf (L2.CX P w) P w K mg base N qual scope f cd A outer s H E).env (cxOf (L2.CX P w) P w K mg base N qual scope f cd A outer s H E).xe := passes_of rfl
end
end HB
namespace HB
open PySem L2
section
variable {X : Cx} {E : XK}
def EVP (X : Cx) (e : Expr) (f : En → Option D) : Prop := ∃ t, PE X e t ∧ ∀ G ρ σ H Q d, J X.K G ρ σ H → f ρ = some d → (∀ v H', Same H H' → Rp X.K H' v d → Q v H') → t σ H Q
def EAP (X : Cx) (es : List Expr) (f : En → Option (List D)) : Prop := ∃ t, PA X es t ∧ ∀ G ρ σ H Q ds, J X.K G ρ σ H → f ρ = some ds → (∀ vs H', Same H H' → RpAll X.K H' vs ds → Q vs H') → t σ H Q
theorem J.up {K : PySem.W.Frag} {G H H' : Hp} {ρ : En} {σ : St} (j : J K G ρ σ H) (s : Same H H') : PX G H G H' := ⟨s, .refl _, j.sub.trans s, fun _ z => .inl z⟩
def slotD : Sl → Option D
  | .no => none
  | .pur d => some d
  | .own ds => some (.list ds)
  | .box ds => some (.list ds)
def pVar (i : Nat) : En → Option D := fun ρ => match ρ[i]? with
  | some s => slotD s
  | none => none
theorem evp_var (i : Nat) {x : Str} {pos : Pos} (hN : X.N[i]? = some x := by rfl) (hv : Vis X.env.scope x := by first | exact Or.inl rfl | exact Or.inr (Or.inl rfl) | exact Or.inr (Or.inr rfl)) (hd : (x == ("__debug__" : Str)) = false := by decide)
    (hcd : (x == ("__classdict__" : Str)) = false := by decide) : EVP X (.Name x pos) (pVar i) := by
  refine ⟨_, pe_var hN hv hd hcd, fun G ρ σ H Q d j h k => ?_⟩
  unfold pVar at h
  cases q : ρ[i]? with
  | none => rw [q] at h; cases h
  | some s =>
    rw [q] at h
    cases s with
    | no => cases h
    | pur e =>
      cases h
      obtain ⟨v, h1, h2⟩ := j.pur i _ q
      exact ⟨v, h1, k v H (.refl _) (h2.mono j.sub)⟩
    | box ds =>
      cases h
      obtain ⟨a, vs, h1, h2, h3, h4⟩ := j.own i _ _ q rfl
      exact ⟨_, h1, k _ H (.refl _) (.lst h2 (h4.mono j.sub))⟩
    | own ds =>
      cases h
      obtain ⟨a, vs, h1, h2, h3, h4⟩ := j.own i _ _ q rfl
      exact ⟨_, h1, k _ H (.refl _) (.lst h2 (h4.mono j.sub))⟩
theorem evp_int {i : Int} {k : Nat} {pos : Pos} : EVP X (.Constant (.int i) k pos) (fun _ => some (.int i)) := ⟨_, pe_int, fun G ρ σ H Q d j h k => by cases h; exact k _ H (.refl _) (.int i)⟩
def pOp (f : D → D → Option D) (a b : En → Option D) : En → Option D := fun ρ => match a ρ with
  | none => none
  | some x => match b ρ with
    | none => none
    | some y => f x y
theorem evp_ix {a b : Expr} {pos : Pos} {fa fb : En → Option D} (ha : EVP X a fa) (hb : EVP X b fb) (hs : PlainIx b := by exact fun _ _ => rfl) : EVP X (.Subscript a b pos) (pOp ixD fa fb) := by
  obtain ⟨t, p, q⟩ := ha
  obtain ⟨t2, p2, q2⟩ := hb
  refine ⟨_, pe_ix ix_seq p p2 hs, fun G ρ σ H Q d j h k => ?_⟩
  unfold pOp at h
  cases h1 : fa ρ with
  | none => simp only [h1] at h; cases h
  | some x =>
    simp only [h1] at h
    cases h2 : fb ρ with
    | none => simp only [h2] at h; cases h
    | some y =>
      simp only [h2] at h
      exact q G ρ σ H _ x j h1 fun v H1 s1 r1 => q2 G ρ σ H1 _ y (j.px (j.up s1)) h2 fun u H2 s2 r2 => ix_sem (.refl H2) (r1.mono s2) r2 h fun z rz => k z H2 (s1.trans s2) rz
def pNil : En → Option (List D) := fun _ => some []
def pCons (a : En → Option D) (r : En → Option (List D)) : En → Option (List D) := fun ρ => match a ρ with
  | none => none
  | some d => (r ρ).map (d :: ·)
theorem eap_nil : EAP X [] pNil := ⟨_, pa_nil, fun G ρ σ H Q ds j h k => by cases h; exact k [] H (.refl _) .nil⟩
theorem eap_cons {e : Expr} {es : List Expr} {f : En → Option D} {g : En → Option (List D)} (h : EVP X e f) (hr : EAP X es g) (hs : starEach (e :: es) X.env = (false, eval e X.env) :: starEach es X.env := by rfl) : EAP X (e :: es) (pCons f g) := by
  obtain ⟨t, p, q⟩ := h
  obtain ⟨t2, p2, q2⟩ := hr
  refine ⟨_, pa_cons p p2 hs, fun G ρ σ H Q ds j h k => ?_⟩
  unfold pCons at h
  cases h1 : f ρ with
  | none => simp only [h1] at h; cases h
  | some d =>
    simp only [h1] at h
    cases h2 : g ρ with
    | none => rw [h2] at h; cases h
    | some es' =>
      rw [h2] at h
      cases h
      exact q G ρ σ H _ d j h1 fun v H1 s1 r1 => q2 G ρ σ H1 _ es' (j.px (j.up s1)) h2 fun vs H2 s2 r2 => k (v :: vs) H2 (s1.trans s2) (.cons (r1.mono s2) r2)
def scal : D → Bool
  | .none => true
  | .bool _ => true
  | .int _ => true
  | .str _ => true
  | _ => false
theorem Rp.scal {K : PySem.W.Frag} {G G' : Hp} {v : V} {d : D} (r : Rp K G v d) (h : scal d = true) : Rp K G' v d := by
  cases r with
  | non => exact .non
  | bl b => exact .bl b
  | int i => exact .int i
  | str x => exact .str x
  | _ => cases h
def mLend (F : Fn) (f : En → Option (List D)) : Mo D := fun ρ => match f ρ with
  | none => none
  | some ds => match F ds with
    | some (.ok d) => (match scal d with
      | true => some (.ok (ρ, d))
      | false => none)
    | _ => none
theorem ev_lend {k : Nat} {x : Str} {ps : List Str} {F : Fn} {p pos : Pos} {e : Expr} {es : List Expr} {f : En → Option (List D)} (hF : FnE X.prog X.w X.K X.mg X.base k x ps F) (hr : Room k X.A) (hx : Passes (L2.CX X.prog X.w) X E)
    (ha : EAP X (e :: es) f) (hg : Gl X x := by rfl) (hdb : (x == ("__debug__" : Str)) = false := by decide) (he : starEach (e :: es) X.env = (false, eval e X.env) :: starEach es X.env := by rfl)
    (hpl : (backTo pos (starEach es X.env)).any (·.1) = false := by rfl) : EV X E (.Call (.Name x p) (e :: es) [] pos) (mLend F f) := by
  obtain ⟨⟨fd, h1, h2⟩, kp, gl, hl⟩ := hF
  obtain ⟨t, pt, q⟩ := ha
  refine ⟨_, pe_call h1 hr hg gl kp h2 .nil hx pt hdb he hpl, fun G ρ σ H Q j h => ?_⟩
  unfold mLend at h
  cases hf : f ρ with
  | none => rw [hf] at h; exact h.elim
  | some ds =>
    rw [hf] at h
    refine q G ρ σ H _ ds j hf fun vs H1 s1 r1 => ?_
    show spP X.K _ F (vs ++ []) H1 Q E
    rw [List.append_nil]
    cases hF : F ds with
    | none => simp only [hF] at h; exact h.elim
    | some r =>
      refine ⟨H1, ds, .refl _, r1, hl ds (by rw [hF]; simp), ?_⟩
      rw [hF]
      cases r with
      | error y => simp only [hF] at h; exact h.elim
      | ok d =>
        simp only [hF] at h
        cases hs : scal d with
        | false => simp only [hs] at h; exact h.elim
        | true =>
          simp only [hs] at h
          exact fun G' v H' px r => h G v H' (j.ex (j.up (s1.trans px.h))) (r.scal hs)
def addLD : D → D → Option (List D)
  | .list xs, .list ys => if xs.length + ys.length ≤ 1000000 then some (xs ++ ys) else none
  | _, _ => none
def mAddL (a b : Mo D) : Mo (List D) := mBind a fun x => mBind b fun y => mLift (addLD x y)
theorem en_add {a b : Expr} {pos : Pos} {fa fb : Mo D} (ha : EV X E a fa) (hb : EV X E b fb) : EN X E (.BinOp a .Add b pos) (mAddL fa fb) := by
  obtain ⟨t, p, q⟩ := ha
  obtain ⟨t2, p2, q2⟩ := hb
  refine ⟨_, pe_op op_cat p p2, fun G ρ σ H Q j h => q G ρ σ H _ j (Post.impN h fun G1 ρ1 x H1 d e1 r1 h1 => ?_)⟩
  refine q2 G1 ρ1 σ H1 _ e1.j (Post.impN h1 fun G2 ρ2 y H2 d2 e2 r2 h2 => ?_)
  obtain ⟨ds, hd, k⟩ := Post.liftN h2
  have r1' := r1.mono e2.g
  cases r1' with
  | @lst a xs ds1 z1 z2 => cases r2 with
    | @lst a' ys ds2 z3 z4 =>
      obtain ⟨hz, rfl⟩ := ite_some (show (if ds1.length + ds2.length ≤ 1000000 then some (ds1 ++ ds2) else none) = some ds from hd)
      refine ⟨a, a', xs, ys, rfl, rfl, e2.j.sub _ _ z1, e2.j.sub _ _ z3, by rw [z2.length, z4.length]; exact line_of hz, fun p hp => ?_⟩
      exact k _ _ _ (new_list e2.j hp (z2.append z4)) ⟨p, _, rfl, hp, e2.j.free hp, upd_same, e2.j.nown hp, z2.append z4⟩
    | _ => cases hd
  | _ => cases hd
def EJ (X : Cx) (E : XK) (es : List Expr) (f : Str → Mo Str) : Prop := ∃ ts, PJ X es ts ∧ ∀ acc G ρ σ H (Q : Str → Hp → Prop), J X.K G ρ σ H → Post X.K E (fun _ (b c : Str) => b = c) G ρ σ H Q (f acc ρ) → tJs ts acc σ H Q
def strApp (acc : Str) : D → Option Str
  | .str y => if (acc ++ y).length ≤ 1000000 then some (acc ++ y) else none
  | _ => none
def jNil : Str → Mo Str := fun acc => mRet acc
def jCons (a : Mo D) (r : Str → Mo Str) : Str → Mo Str := fun acc => mBind a fun d => mBind (mLift (strApp acc d)) r
theorem ej_nil : EJ X E [] jNil := ⟨_, .nil, fun acc G ρ σ H Q j h => h G acc H j.refl rfl⟩
theorem ej_cons {e : Expr} {es : List Expr} {f : Mo D} {g : Str → Mo Str} (h : EV X E e f) (hr : EJ X E es g) : EJ X E (e :: es) (jCons f g) := by
  obtain ⟨t, p, q⟩ := h
  obtain ⟨ts, p2, q2⟩ := hr
  refine ⟨_, .cons p p2, fun acc G ρ σ H Q j h => q G ρ σ H _ j (Post.imp h fun G1 ρ1 v H1 d e1 r1 h1 => ?_)⟩
  unfold mBind mLift at h1
  cases hd : strApp acc d with
  | none => simp only [hd] at h1; exact h1.elim
  | some z =>
    simp only [hd] at h1
    cases r1 with
    | str y =>
      obtain ⟨h3, h4⟩ := ite_some (show (if (acc ++ y).length ≤ 1000000 then some (acc ++ y) else none) = some z from hd)
      subst h4
      exact ⟨y, rfl, line_of h3, q2 _ G1 ρ1 σ H1 Q e1.j h1⟩
    | _ => cases hd
def mJoined (f : Str → Mo Str) : Mo D := mBind (f Str.empty) fun x => mRet (.str x)
theorem ev_joined {v1 v2 : Expr} {rest : List Expr} {f : Str → Mo Str} {pos : Pos} (h : EJ X E (v1 :: v2 :: rest) f) : EV X E (.JoinedStr (v1 :: v2 :: rest) pos) (mJoined f) := by
  obtain ⟨ts, p, q⟩ := h
  refine ⟨_, pe_joined p, fun G ρ σ H Q j h => q Str.empty G ρ σ H _ j ?_⟩
  unfold mJoined mBind at h
  cases hf : f Str.empty ρ with
  | none => simp only [hf] at h; exact h
  | some r =>
    simp only [hf] at h
    cases r with
    | error x => exact h
    | ok pr =>
      obtain ⟨ρ1, y⟩ := pr
      exact fun G1 v H1 e1 r1 => by
        subst r1
        exact h G1 _ H1 e1 (.str _)
theorem ev_joined1 {e : Expr} {f : Mo D} {pos : Pos} (h : EV X E e f) : EV X E (.JoinedStr [e] pos) f := let ⟨t, p, q⟩ := h; ⟨t, pe_joined1 p, q⟩
def fmtD : D → Option D
  | .str y => if y.length ≤ 1000000 then some (.str y) else none
  | .int i => if i.natAbs.log2 < 1920 then some (.str (toString i)) else none
  | _ => none
theorem ev_fmt {e : Expr} {f : Mo D} {pos : Pos} (h : EV X E e f) : EV X E (.FormattedValue e (-1) none pos) (mUn fmtD f) := by
  obtain ⟨t, p, q⟩ := h
  refine ⟨_, pe_fmt p, fun G ρ σ H Q j h => q G ρ σ H _ j (Post.imp h fun G1 ρ1 v H1 d e1 r1 h1 => ?_)⟩
  obtain ⟨y, hy, k⟩ := Post.lift (ρ' := ρ1) h1
  cases r1 with
  | str z =>
    obtain ⟨h3, h4⟩ := ite_some (show (if z.length ≤ 1000000 then some (PyData.str z) else none) = some y from hy)
    subst h4
    exact .inl ⟨z, rfl, line_of h3, k G1 _ H1 e1.j.refl (.str _)⟩
  | int i =>
    obtain ⟨h3, h4⟩ := ite_some (show (if i.natAbs.log2 < 1920 then some (PyData.str (toString i)) else none) = some y from hy)
    subst h4
    exact .inr ⟨i, rfl, h3, k G1 _ H1 e1.j.refl (.str _)⟩
  | _ => cases hy
def strsD : List D → Option (List Str)
  | [] => some []
  | .str x :: r => (strsD r).map (x :: ·)
  | _ :: _ => none
theorem RpAll.strs {K : PySem.W.Frag} {G : Hp} : ∀ {xs : List V} {ds : List D} {bs : List Str}, RpAll K G xs ds → strsD ds = some bs → xs = bs.map V.str
  | _, [], _, .nil, h => by cases h; rfl
  | _, .str b :: r, bs, .cons h t, e => by
    cases h
    have e' : (strsD r).map (b :: ·) = some bs := e
    cases q : strsD r with
    | none => rw [q] at e'; cases e'
    | some cs =>
      rw [q] at e'
      cases e'
      rw [t.strs q]
      rfl
  | _, .none :: r, bs, _, e => by cases e
  | _, .bool _ :: r, bs, _, e => by cases e
  | _, .int _ :: r, bs, _, e => by cases e
  | _, .list _ :: r, bs, _, e => by cases e
  | _, .tuple _ :: r, bs, _, e => by cases e
  | _, .dict _ :: r, bs, _, e => by cases e
def mM1 (f : Str → D → Option D) (a b : Mo D) : Mo D := mBind a fun x => match x with
  | .str s => mBind b fun y => mLift (f s y)
  | _ => fun _ => none
theorem m1_sem {r : V → List V → Hp → VK → Prop} {t t2 : TE} {f : Str → D → Option D} {fo fe : Mo D} (q : ∀ G ρ σ H Q, J X.K G ρ σ H → Post X.K E (Rp X.K) G ρ σ H Q (fo ρ) → t σ H Q) (q2 : ∀ G ρ σ H Q, J X.K G ρ σ H → Post X.K E (Rp X.K) G ρ σ H Q (fe ρ) → t2 σ H Q)
    (k : ∀ G H a y d c (Q : VK), Same G H → Rp X.K G y d → f a d = some c → (∀ G' v H', PX G H G' H' → Rp X.K G' v c → Q v H') → r (.str a) [y] H Q) :
    ∀ G ρ σ H Q, J X.K G ρ σ H → Post X.K E (Rp X.K) G ρ σ H Q (mM1 f fo fe ρ) → tM1 r t t2 σ H Q := by
  intro G ρ σ H Q j h
  refine q G ρ σ H _ j (Post.imp h fun G1 ρ1 v H1 d e1 r1 h1 => ?_)
  cases r1 with
  | str a =>
    refine ⟨⟨a, rfl⟩, q2 G1 ρ1 σ H1 _ e1.j (Post.imp h1 fun G2 ρ2 y H2 d2 e2 r2 h2 => ?_)⟩
    obtain ⟨c, hc, k2⟩ := Post.lift (ρ' := ρ2) h2
    exact k G2 H2 a y d2 c Q e2.j.sub r2 hc fun G' v H' px rv => k2 G' v H' (e2.j.ex px) rv
  | _ => exact h1.elim
def joinD (a : Str) (d : D) : Option D := match itemsD d with
  | none => none
  | some ds => match strsD ds with
    | none => none
    | some ys => if (ys.map (·.length)).sum + ys.length * a.length ≤ 16777216 then some (.str (Txt.join a ys)) else none
theorem ev_join {o e : Expr} {apos pos : Pos} {fo fe : Mo D} (ho : EV X E o fo) (he : EV X E e fe) (hs : starEach [e] X.env = [(false, eval e X.env)] := by rfl) (hbase : attributeBase o "join" X.env (eval o X.env) = eval o X.env := by rfl) (hline : (apos.endLine == pos.line) = true := by rfl) :
    EV X E (.Call (.Attribute o "join" apos) [e] [] pos) (mM1 joinD fo fe) := by
  obtain ⟨t, p, q⟩ := ho
  obtain ⟨t2, p2, q2⟩ := he
  refine ⟨_, pe_join p p2 hs hbase hline, m1_sem q q2 fun G H a y d c Q s ry h k => ?_⟩
  unfold joinD at h
  cases h1 : itemsD d with
  | none => simp only [h1] at h; cases h
  | some ds =>
    simp only [h1] at h
    cases h2 : strsD ds with
    | none => simp only [h2] at h; cases h
    | some ys =>
      simp only [h2] at h
      obtain ⟨h3, h4⟩ := ite_some h
      subst h4
      obtain ⟨p0, xs, rfl, s0, r0⟩ := ry.items h1
      have e0 := r0.strs h2
      subst e0
      exact ⟨a, p0, ys, rfl, rfl, (sq_mono s s0).symm, h3, k G _ H (.refl s) (.str _)⟩
def splitD (a : Str) : D → Option D
  | .str b => match Nat.beq b.length 0 with
    | true => none
    | false => if a.length ≤ 1000000 then some (.list ((Txt.split a b).map PyData.str)) else none
  | _ => none
theorem RpAll.ofStrs {K : PySem.W.Frag} {G : Hp} : ∀ ys : List Str, RpAll K G (ys.map V.str) (ys.map PyData.str)
  | [] => .nil
  | y :: ys => .cons (.str y) (RpAll.ofStrs ys)
theorem ev_split {o e : Expr} {apos pos : Pos} {fo fe : Mo D} (ho : EV X E o fo) (he : EV X E e fe) (hs : starEach [e] X.env = [(false, eval e X.env)] := by rfl) (hbase : attributeBase o "split" X.env (eval o X.env) = eval o X.env := by rfl) (hline : (apos.endLine == pos.line) = true := by rfl) :
    EV X E (.Call (.Attribute o "split" apos) [e] [] pos) (mM1 splitD fo fe) := by
  obtain ⟨t, p, q⟩ := ho
  obtain ⟨t2, p2, q2⟩ := he
  refine ⟨_, pe_split p p2 hs hbase hline, m1_sem q q2 fun G H a y d c Q s ry h k => ?_⟩
  cases ry with
  | str b =>
    unfold splitD at h
    cases hb : Nat.beq b.length 0 with
    | true => simp only [hb] at h; cases h
    | false =>
      simp only [hb] at h
      obtain ⟨h3, h4⟩ := ite_some h
      subst h4
      refine ⟨a, b, rfl, rfl, (by cases hl : b.length with
        | zero => rw [hl] at hb; cases hb
        | succ n => rfl), Nat.le_trans (Nat.add_le_add_right h3 2) (by decide), fun p hp => ?_⟩
      have px : PX G H _ _ := .alloc s hp (.lst ((Txt.split a b).map V.str))
      exact k _ _ _ px (.lst upd_same (RpAll.ofStrs _))
  | _ => cases h
end
end HB
namespace HB
open PySem L2
structure Ob (K : PySem.W.Frag) (c : Str) (x : Addr) (kvs : List (D × D)) (G : Hp) (ρ : En) (σ : St) (H : Hp) : Prop where
  at_ : ∃ dx fs, H x = some (.ins (He.ga K c) dx fs) ∧ RpF K G fs kvs
  g : G x = none
  no : ¬ Ownd ρ σ x
theorem RpF.mono {K : PySem.W.Frag} {H H' : Hp} (s : Same H H') : ∀ {fs : List (Str × V)} {kvs : List (D × D)}, RpF K H fs kvs → RpF K H' fs kvs
  | _, _, .nil => .nil
  | _, _, .cons r t => .cons (r.mono s) (RpF.mono s t)
theorem RpF.len {K : PySem.W.Frag} {H : Hp} : ∀ {fs : List (Str × V)} {kvs : List (D × D)}, RpF K H fs kvs → fs.length = kvs.length
  | _, _, .nil => rfl
  | _, _, .cons _ t => congrArg (· + 1) t.len
theorem Ob.ex {K : PySem.W.Frag} {c : Str} {x : Addr} {kvs : List (D × D)} {G H G' H' : Hp} {ρ ρ' : En} {σ σ' : St} (o : Ob K c x kvs G ρ σ H) (e : Ex K G ρ σ H G' ρ' σ' H') : Ob K c x kvs G' ρ' σ' H' := by
  obtain ⟨⟨dx, fs, h1, h2⟩, g, no⟩ := o
  refine ⟨⟨dx, fs, e.kept x _ h1 no, h2.mono e.g⟩, ?_, fun z => ?_⟩
  · cases q : G' x with
    | none => rfl
    | some o =>
      rcases e.new x (by rw [q]; simp) with w | w | w
      · exact absurd g w
      · rw [h1] at w; cases w
      · exact absurd w no
  · rcases e.ow x z with w | w
    · exact no w
    · rw [h1] at w; cases w
def adrD (x : Addr) : D := .dict [(.int x, .none)]
def putK (f : Str) (d : D) : List (D × D) → List (D × D)
  | [] => [(.str f, d)]
  | (.str g, e) :: r => if f = g then (.str f, d) :: r else (.str g, e) :: putK f d r
  | p :: r => p :: putK f d r
theorem RpF.put {K : PySem.W.Frag} {H : Hp} {f : Str} {v : V} {d : D} (r : Rp K H v d) : ∀ {fs : List (Str × V)} {kvs : List (D × D)}, RpF K H fs kvs → RpF K H (putF f v fs) (putK f d kvs)
  | _, _, .nil => .cons r .nil
  | (g, u) :: fs, _, .cons (d := e) (kvs := kvs) q t => by
    by_cases h : f = g
    · subst h
      have e1 : putF f v ((f, u) :: fs) = (f, v) :: fs := by simp [putF]
      have e2 : putK f d ((.str f, e) :: kvs) = (.str f, d) :: kvs := by simp [putK]
      rw [e1, e2]
      exact .cons r t
    · have e1 : putF f v ((g, u) :: fs) = (g, u) :: putF f v fs := by simp [putF, h, Ne.symm h]
      have e2 : putK f d ((.str g, e) :: kvs) = (.str g, e) :: putK f d kvs := by simp [putK, h]
      rw [e1, e2]
      exact .cons q (RpF.put r t)
section
variable {X : Cx} {E : XK}
/-- what may read the object -/
def EVO (X : Cx) (E : XK) (c : Str) (e : Expr) (f : List (D × D) → Mo D) : Prop := ∃ t, PE X e t ∧ ∀ x kvs G ρ σ H Q, J X.K G ρ σ H → Ob X.K c x kvs G ρ σ H → σ[0]? = some (some (.ref x)) → Post X.K E (Rp X.K) G ρ σ H Q (f kvs ρ) → t σ H Q
def EAO (X : Cx) (E : XK) (c : Str) (es : List Expr) (f : List (D × D) → Mo (List D)) : Prop := ∃ t, PA X es t ∧ ∀ x kvs G ρ σ H Q, J X.K G ρ σ H → Ob X.K c x kvs G ρ σ H → σ[0]? = some (some (.ref x)) → Post X.K E (RpAll X.K) G ρ σ H Q (f kvs ρ) → t σ H Q
theorem evo_of {c : Str} {e : Expr} {f : Mo D} (h : EV X E e f) : EVO X E c e (fun _ => f) := let ⟨t, p, q⟩ := h; ⟨t, p, fun _ _ G ρ σ H Q j _ _ z => q G ρ σ H Q j z⟩
def pureF (o : Option D) : Mo D := mLift o
theorem evo_fld {c a : Str} {p pos : Pos} {s : Str} (hN : X.N[0]? = some s := by rfl) (hv : Vis X.env.scope s := by first | exact Or.inl rfl | exact Or.inr (Or.inl rfl) | exact Or.inr (Or.inr rfl)) (hd : (s == ("__debug__" : Str)) = false := by decide)
    (hcd : (s == ("__classdict__" : Str)) = false := by decide) (hc : Cls X.K (He.ga X.K c)) (hn : NoAttr X.K (He.ga X.K c) a) (hb : attributeBase (.Name s p) a X.env (eval (.Name s p) X.env) = eval (.Name s p) X.env := by rfl) : EVO X E c (.Attribute (.Name s p) a pos) (fun kvs => pureF (fldIn a kvs)) := by
  refine ⟨_, pe_fld (pe_var hN hv hd hcd) hb, fun x kvs G ρ σ H Q j o h0 h => ?_⟩
  obtain ⟨y, hy, k⟩ := Post.lift (ρ' := ρ) h
  obtain ⟨⟨dx, fs, z1, z2⟩, _, _⟩ := o
  obtain ⟨v', h4, h5⟩ := z2.look hy
  exact ⟨_, h0, x, _, dx, fs, v', rfl, z1, hc, hn, h4, k G _ H j.refl h5⟩
theorem eao_nil {c : Str} : EAO X E c [] (fun _ => mNil) := ⟨_, pa_nil, fun _ _ G ρ σ H Q j _ _ h => h G _ H j.refl .nil⟩
def oCons (f : List (D × D) → Mo D) (g : List (D × D) → Mo (List D)) : List (D × D) → Mo (List D) := fun kvs => mBind (f kvs) fun d => mBind (g kvs) fun ds => mRet (d :: ds)
theorem eao_cons {c : Str} {e : Expr} {es : List Expr} {f : List (D × D) → Mo D} {g : List (D × D) → Mo (List D)} (h : EVO X E c e f) (hr : EAO X E c es g) (hs : starEach (e :: es) X.env = (false, eval e X.env) :: starEach es X.env := by rfl) : EAO X E c (e :: es) (oCons f g) := by
  obtain ⟨t, p, q⟩ := h
  obtain ⟨t2, p2, q2⟩ := hr
  refine ⟨_, pa_cons p p2 hs, fun x kvs G ρ σ H Q j o h0 h => q x kvs G ρ σ H _ j o h0 (Post.imp h fun G1 ρ1 v H1 d e1 r1 h1 => ?_)⟩
  refine q2 x kvs G1 ρ1 σ H1 _ e1.j (o.ex e1) h0 (Post.imp h1 fun G2 ρ2 vs H2 ds e2 r2 h2 => ?_)
  exact h2 G2 _ H2 e2.j.refl (.cons (r1.mono e2.g) r2)
def oCall (F : Fn) (f : List (D × D) → Mo (List D)) : List (D × D) → Mo D := fun kvs => mCall F (f kvs)
theorem evo_call {c : Str} {k : Nat} {x : Str} {ps : List Str} {F : Fn} {p pos : Pos} {e : Expr} {es : List Expr} {f : List (D × D) → Mo (List D)} (hF : FnE X.prog X.w X.K X.mg X.base k x ps F) (hr : Room k X.A) (hx : Passes (L2.CX X.prog X.w) X E)
    (ha : EAO X E c (e :: es) f) (hg : Gl X x := by rfl) (hdb : (x == ("__debug__" : Str)) = false := by decide) (he : starEach (e :: es) X.env = (false, eval e X.env) :: starEach es X.env := by rfl)
    (hpl : (backTo pos (starEach es X.env)).any (·.1) = false := by rfl) : EVO X E c (.Call (.Name x p) (e :: es) [] pos) (oCall F f) := by
  obtain ⟨⟨fd, h1, h2⟩, kp, gl, hl⟩ := hF
  obtain ⟨t, pt, q⟩ := ha
  refine ⟨_, pe_call h1 hr hg gl kp h2 .nil hx pt hdb he hpl, fun x kvs G ρ σ H Q j o h0 h => ?_⟩
  refine q x kvs G ρ σ H _ j o h0 (Post.imp h fun G1 ρ1 vs H1 ds e1 r1 h1 => ?_)
  show spP X.K _ F (vs ++ []) H1 Q E
  rw [List.append_nil]
  have h1' : Post X.K E (Rp X.K) G1 ρ1 σ H1 Q (match F ds with
    | none => none
    | some (.error x) => some (.error x)
    | some (.ok d) => some (.ok (ρ1, d))) := h1
  cases hF : F ds with
  | none => rw [hF] at h1'; exact h1'.elim
  | some r =>
    refine ⟨G1, ds, e1.j.sub, r1, hl ds (by rw [hF]; simp), ?_⟩
    rw [hF] at h1' ⊢
    cases r with
    | error x => exact fun C dx H' z => h1' C dx H' z.of0
    | ok d => exact fun G' v H' p r => h1' G' v H' (e1.j.ex p) r
/-- the statements: the object may change -/
structure OX (K : PySem.W.Frag) (c : Str) (x : Addr) (G : Hp) (ρ : En) (σ : St) (H : Hp) (kvs' : List (D × D)) (G' : Hp) (ρ' : En) (σ' : St) (H' : Hp) : Prop where
  j : J K G' ρ' σ' H'
  g : Same G G'
  new : ∀ b, G' b ≠ none → G b ≠ none ∨ H b = none ∨ Ownd ρ σ b
  kept : ∀ b o, b ≠ x → H b = some o → ¬ Ownd ρ σ b → H' b = some o
  ow : ∀ b, Ownd ρ' σ' b → Ownd ρ σ b ∨ H b = none
  dom : ∀ b, H' b = none → H b = none
  ob : Ob K c x kvs' G' ρ' σ' H'
abbrev MoO := List (D × D) → En → Option (Except Exn (En × List (D × D)))
def PostO (K : PySem.W.Frag) (E : XK) (c : Str) (x : Addr) (G : Hp) (ρ : En) (σ : St) (H : Hp) (R : Hp → Prop) : Option (Except Exn (En × List (D × D))) → Prop
  | none => False
  | some (.error y) => ∀ C dx H', XP K G ρ σ H y C dx H' → E C dx H'
  | some (.ok (ρ', kvs')) => ∀ G' σ' H', OX K c x G ρ σ H kvs' G' ρ' σ' H' → R H'
def SO (X : Cx) (E : XK) (c : Str) (sts : List Stmt) (g : MoO) : Prop := ∃ t, PSs X sts t ∧ ∀ x kvs G ρ σ H (De : Ends), J X.K G ρ σ H → Ob X.K c x kvs G ρ σ H → σ[0]? = some (some (.ref x)) → PostO X.K E c x G ρ σ H (fun H' => ∀ σ', De.nx σ' H') (g kvs ρ) → t De σ H
theorem Ex.ox {K : PySem.W.Frag} {c : Str} {x : Addr} {kvs' : List (D × D)} {G H G1 H1 G2 H2 : Hp} {ρ ρ1 ρ2 : En} {σ σ1 σ2 : St} (e : Ex K G ρ σ H G1 ρ1 σ1 H1) (o : OX K c x G1 ρ1 σ1 H1 kvs' G2 ρ2 σ2 H2) : OX K c x G ρ σ H kvs' G2 ρ2 σ2 H2 where
  j := o.j
  g := e.g.trans o.g
  new := fun b hb => by
    rcases o.new b hb with z | z | z
    · exact e.new b z
    · exact .inr (.inl (e.dom b z))
    · rcases e.ow b z with z | z
      · exact .inr (.inr z)
      · exact .inr (.inl z)
  kept := fun b o' hb q n => o.kept b o' hb (e.kept b o' q n) fun z => by
    rcases e.ow b z with z | z
    · exact n z
    · rw [q] at z; cases z
  ow := fun b hb => by
    rcases o.ow b hb with z | z
    · exact e.ow b z
    · exact .inr (e.dom b z)
  dom := fun b hb => e.dom b (o.dom b hb)
  ob := o.ob
theorem OX.trans {K : PySem.W.Frag} {c : Str} {x : Addr} {kvs kvs' : List (D × D)} {G H G1 H1 G2 H2 : Hp} {ρ ρ1 ρ2 : En} {σ σ1 σ2 : St} (e : OX K c x G ρ σ H kvs G1 ρ1 σ1 H1) (o : OX K c x G1 ρ1 σ1 H1 kvs' G2 ρ2 σ2 H2) : OX K c x G ρ σ H kvs' G2 ρ2 σ2 H2 where
  j := o.j
  g := e.g.trans o.g
  new := fun b hb => by
    rcases o.new b hb with z | z | z
    · exact e.new b z
    · exact .inr (.inl (e.dom b z))
    · rcases e.ow b z with z | z
      · exact .inr (.inr z)
      · exact .inr (.inl z)
  kept := fun b o' hb q n => o.kept b o' hb (e.kept b o' hb q n) fun z => by
    rcases e.ow b z with z | z
    · exact n z
    · rw [q] at z; cases z
  ow := fun b hb => by
    rcases o.ow b hb with z | z
    · exact e.ow b z
    · exact .inr (e.dom b z)
  dom := fun b hb => e.dom b (o.dom b hb)
  ob := o.ob
/-- a field is written -/
theorem Ob.store {K : PySem.W.Frag} {c : Str} {x : Addr} {kvs : List (D × D)} {G H : Hp} {ρ : En} {σ : St} {f : Str} {v : V} {d : D} {dx : Addr} {fs : List (Str × V)} (j : J K G ρ σ H) (o : Ob K c x kvs G ρ σ H) (h1 : H x = some (.ins (He.ga K c) dx fs)) (h2 : RpF K G fs kvs) (r : Rp K G v d) :
    OX K c x G ρ σ H (putK f d kvs) G ρ σ (upd H x (.ins (He.ga K c) dx (putF f v fs))) := by
  have ne : ∀ b, G b ≠ none → b ≠ x := fun b hb e => by subst e; exact hb o.g
  refine ⟨⟨fun b o' q => ?_, j.len, j.pur, fun i s ds q hl => ?_, j.dis⟩, .refl _, fun b hb => .inl hb, fun b o' hb q _ => by rw [upd_ne hb]; exact q, fun b hb => .inl hb, fun b hb => ?_, ⟨⟨dx, _, upd_same, h2.put r⟩, o.g, o.no⟩⟩
  · rw [upd_ne (ne b (by rw [q]; simp))]
    exact j.sub _ _ q
  · obtain ⟨a, vs, z1, z2, z3, z4⟩ := j.own i s ds q hl
    refine ⟨a, vs, z1, ?_, z3, z4⟩
    rw [upd_ne (fun e => by subst e; rw [z2] at h1; cases h1)]
    exact z2
  · by_cases e : b = x
    · subst e; rw [upd_same] at hb; cases hb
    · rw [upd_ne e] at hb; exact hb
def oEnd : MoO := fun kvs ρ => some (.ok (ρ, kvs))
theorem so_nil {c : Str} : SO X E c [] oEnd := ⟨_, pss_nil, fun x kvs G ρ σ H De j o h0 h => h G σ H ⟨j, .refl _, fun _ z => .inl z, fun _ _ _ q _ => q, fun _ z => .inl z, fun _ z => z, o⟩ σ⟩
def oPut (f : Str) (v : List (D × D) → Mo D) (g : MoO) : MoO := fun kvs ρ => match v kvs ρ with
  | some (.ok (ρ1, d)) => (match Nat.blt kvs.length 1000 with
    | true => (match g (putK f d kvs) ρ1 with
      | some (.ok r) => some (.ok r)
      | _ => none)
    | false => none)
  | _ => none
theorem so_put {c f s : Str} {e : Expr} {v : List (D × D) → Mo D} {g : MoO} {rest : List Stmt} {p pos pos' : Pos} (hv : EVO X E c e v) (hr : SO X E c rest g) (hc : Cls X.K (He.ga X.K c)) (hn : NoAttr X.K (He.ga X.K c) f) (hN : X.N[0]? = some s := by rfl)
    (hvv : Vis X.env.scope s := by first | exact Or.inl rfl | exact Or.inr (Or.inl rfl) | exact Or.inr (Or.inr rfl)) (hd : (s == ("__debug__" : Str)) = false := by decide) (hcd : (s == ("__classdict__" : Str)) = false := by decide)
    (hs : swapsWith e (some (.Attribute (.Name s p) f pos')) pos.line X.env = pure false := by rfl) : SO X E c (.Assign [.Attribute (.Name s p) f pos'] e pos :: rest) (oPut f v g) := by
  obtain ⟨t, pt, q⟩ := hv
  obtain ⟨t2, p2, q2⟩ := hr
  refine ⟨_, pss_cons (ps_fld (pe_var hN hvv hd hcd) pt hs) p2, fun x kvs G ρ σ H De j o h0 h => ?_⟩
  unfold oPut at h
  cases h1 : v kvs ρ with
  | none => simp only [h1] at h; exact h.elim
  | some r =>
    cases r with
    | error y => simp only [h1] at h; exact h.elim
    | ok pr =>
      obtain ⟨ρ1, d⟩ := pr
      simp only [h1] at h
      cases hsb : Nat.blt kvs.length 1000 with
      | false => simp only [hsb] at h; exact h.elim
      | true =>
        simp only [hsb] at h
        refine q x kvs G ρ σ H _ j o h0 ?_
        rw [h1]
        intro G1 y H1 e1 r1
        have o1 := o.ex e1
        obtain ⟨dx, fs, y1, y2⟩ := o1.at_
        have st := Ob.store (f := f) e1.j o1 y1 y2 r1
        refine ⟨_, h0, x, _, dx, fs, rfl, y1, hc, hn, ?_, ?_⟩
        · rw [y2.len]
          exact of_decide_eq_true (by simpa [Nat.blt_eq] using hsb)
        · refine q2 x (putK f d kvs) G1 ρ1 σ _ De st.j st.ob h0 ?_
          cases h3 : g (putK f d kvs) ρ1 with
          | none => simp only [h3] at h; exact h.elim
          | some r3 =>
            cases r3 with
            | error y => simp only [h3] at h; exact h.elim
            | ok pr3 =>
              obtain ⟨ρ3, kvs3⟩ := pr3
              simp only [h3] at h
              exact fun G3 σ3 H3 o3 => h G3 σ3 H3 (e1.ox (st.trans o3))
/-- if test: raise .. -/
def oIf (c : Mo Bool) (a : Mo Fl) (g : MoO) : MoO := fun kvs ρ => match c ρ with
  | none => none
  | some (.error y) => some (.error y)
  | some (.ok (ρ1, true)) => (match a ρ1 with
    | some (.error y) => some (.error y)
    | _ => none)
  | some (.ok (ρ1, false)) => g kvs ρ1
theorem so_if {c : Str} {e : Expr} {body rest : List Stmt} {pos : Pos} {fc : Mo Bool} {a : Mo Fl} {g : MoO} (hc : ET X E e fc) (ha : SVs X E body a) (h2 : SO X E c rest g) : SO X E c (.If e body [] pos :: rest) (oIf fc a g) := by
  obtain ⟨t0, p0, q0⟩ := hc
  obtain ⟨t, p, q⟩ := ha
  obtain ⟨t2, p2, q2⟩ := h2
  refine ⟨_, pss_cons (ps_if p0 p pss_nil) p2, fun x kvs G ρ σ H De j o h0 h => ?_⟩
  refine q0 G ρ σ H _ j ?_
  unfold oIf at h
  match hc : fc ρ, h with
  | none, h => exact h.elim
  | some (.error y), h => exact h
  | some (.ok (ρ1, true)), h =>
    intro G1 b H1 e1 r1
    subst r1
    refine q G1 ρ1 σ H1 _ e1.j ?_
    match ha : a ρ1, h with
    | none, h => simp only [ha] at h; exact h.elim
    | some (.error y), h => simp only [ha] at h; exact fun C dx H' z => h C dx H' (XP.trans e1 z)
    | some (.ok (ρ2, f)), h => simp only [ha] at h; exact h.elim
  | some (.ok (ρ1, false)), h =>
    intro G1 b H1 e1 r1
    subst r1
    refine q2 x kvs G1 ρ1 σ H1 De e1.j (o.ex e1) h0 ?_
    match hg : g kvs ρ1, h with
    | none, h => simp only [hg] at h; exact h.elim
    | some (.error y), h => simp only [hg] at h; exact fun C dx H' z => h C dx H' (XP.trans e1 z)
    | some (.ok (ρ2, kvs2)), h => simp only [hg] at h; exact fun G2 σ2 H2 o2 => h G2 σ2 H2 (e1.ox o2)
end
abbrev FnI := List D → Option (Except Exn (List (D × D)))
def PostK (K : PySem.W.Frag) (E : XK) (c : Str) (x : Addr) (G H : Hp) (Q : VK) : Option (Except Exn (List (D × D))) → Prop
  | none => False
  | some (.error y) => ∀ C dx H', XP K G [] [] H y C dx H' → E C dx H'
  | some (.ok kvs) => ∀ G' H', Same G G' → (∀ b, G' b ≠ none → G b ≠ none ∨ H b = none) → Same G' H' → (∀ b o, b ≠ x → H b = some o → H' b = some o) → G' x = none → (∃ dx fs, H' x = some (.ins (He.ga K c) dx fs) ∧ RpF K G' fs kvs) → Q .non H'
def spI (K : PySem.W.Frag) (c : Str) (n : Nat) (F : FnI) : Sp := fun vs H Q E => ∃ x dx us ds G, vs = .ref x :: us ∧ H x = some (.ins (He.ga K c) dx []) ∧ Same G H ∧ G x = none ∧ RpAll K G us ds ∧ ds.length = n ∧ PostK K E c x G H Q (F ds)
structure MkE (P : Program) (w : World) (K : PySem.W.Frag) (mg : Str → Option Value) (base : Heap) (k : Nat) (c : Str) (n : Nat) (F : FnI) : Prop where
  maker : Mk K (He.ga K c) (He.ma K (He.ga K c) "__init__")
  ex : ∃ fd ps, FnOk P w K mg base (L2.CX P w) k (He.ma K (He.ga K c) "__init__") fd ps (spI K c n F) ∧ Binds K fd ps []
  gl : mg c = some (.ref (He.ga K c))
  ln : ∀ ds, F ds ≠ none → ds.length = n
def mMake (c : Str) (F : FnI) (a : Mo (List D)) : Mo D := mBind a fun ds ρ => match F ds with
  | none => none
  | some (.error x) => some (.error x)
  | some (.ok kvs) => some (.ok (ρ, .dict ((.str c, .none) :: kvs)))
section
variable {X : Cx} {E : XK}
theorem make_sem {c : Str} {F : FnI} {n : Nat} {t : TA} {f : Mo (List D)} (q : ∀ G ρ σ H Q, J X.K G ρ σ H → Post X.K E (RpAll X.K) G ρ σ H Q (f ρ) → t σ H Q) (hl : ∀ ds, F ds ≠ none → ds.length = n) :
    ∀ G ρ σ H Q, J X.K G ρ σ H → Post X.K E (Rp X.K) G ρ σ H Q (mMake c F f ρ) → tMake (He.ga X.K c) (spI X.K c n F) [] E t σ H Q := by
  intro G ρ σ H Q j h
  refine q G ρ σ H _ j (Post.imp h fun G1 ρ1 vs H1 ds e1 r1 h1 => ?_)
  intro x dx hx hdx hne
  rw [List.append_nil]
  have h1' : Post X.K E (Rp X.K) G1 ρ1 σ H1 Q (match F ds with
    | none => none
    | some (.error x) => some (.error x)
    | some (.ok kvs) => some (.ok (ρ1, .dict ((.str c, .none) :: kvs)))) := h1
  have s12 : Same H1 (upd (upd H1 dx (.own x)) x (.ins (He.ga X.K c) dx [])) := (same_upd hdx).trans (same_upd (by rw [upd_ne (Ne.symm hne)]; exact hx))
  have j1 := e1.j
  have ne : ∀ b, H1 b = none ∨ (upd (upd H1 dx (.own x)) x (.ins (He.ga X.K c) dx [])) b ≠ none := fun b => by
    cases q : H1 b with
    | none => exact .inl rfl
    | some o => exact .inr (by rw [s12 _ _ q]; simp)
  cases hF : F ds with
  | none => rw [hF] at h1'; exact h1'.elim
  | some r =>
    refine ⟨x, dx, vs, ds, G1, rfl, upd_same, j1.sub.trans s12, j1.sub.free hx, r1, hl ds (by rw [hF]; simp), ?_⟩
    rw [hF] at h1' ⊢
    cases r with
    | error y => exact fun C d H' z => h1' C d H' (XP.trans (j1.ex (j1.up s12)) z.of0)
    | ok kvs =>
      intro G' H' g new sb kept gx ob
      refine ⟨rfl, ?_⟩
      obtain ⟨d', fs, z1, z2⟩ := ob
      have sg : Same G' (upd G' x (.ins (He.ga X.K c) d' fs)) := same_upd gx
      have px : PX G1 H1 (upd G' x (.ins (He.ga X.K c) d' fs)) H' := by
        refine ⟨fun b o hb => kept b o (fun e => by subst e; rw [hx] at hb; cases hb) (s12 _ _ hb), g.trans sg, fun b o hb => ?_, fun b hb => ?_⟩
        · by_cases e : b = x
          · subst e; rw [upd_same] at hb; rw [z1]; exact hb
          · rw [upd_ne e] at hb; exact sb _ _ hb
        · by_cases e : b = x
          · subst e; exact .inr hx
          · rw [upd_ne e] at hb
            rcases new b hb with w | w
            · exact .inl w
            · rcases ne b with u | u
              · exact .inr u
              · exact absurd w u
      exact h1' _ _ H' (j1.ex px) (.obj upd_same (z2.mono sg))
theorem ev_make {k n : Nat} {c : Str} {F : FnI} {p pos : Pos} {e : Expr} {es : List Expr} {f : Mo (List D)} (hF : MkE X.prog X.w X.K X.mg X.base k c n F) (hr : Room (k + 1) X.A) (hx : Passes (L2.CX X.prog X.w) X E)
    (ha : EA X E (e :: es) f) (hg : Gl X c := by rfl) (hdb : (c == ("__debug__" : Str)) = false := by decide) (he : starEach (e :: es) X.env = (false, eval e X.env) :: starEach es X.env := by rfl)
    (hpl : (backTo pos (starEach es X.env)).any (·.1) = false := by rfl) : EV X E (.Call (.Name c p) (e :: es) [] pos) (mMake c F f) := by
  obtain ⟨M, ⟨fd, ps, h1, h2⟩, gl, hl⟩ := hF
  obtain ⟨t, pt, q⟩ := ha
  exact ⟨_, pe_make M h1 hr hg gl h2 .nil hx pt hdb he hpl, make_sem q hl⟩
end
theorem J.cons0 {K : PySem.W.Frag} {G H : Hp} {ρ : En} {σ : St} {o : Option V} (j : J K G ρ σ H) : J K G (.no :: ρ) (o :: σ) H := by
  refine ⟨j.sub, congrArg (· + 1) j.len, fun i d h => ?_, fun i s ds h hl => ?_, fun i k s t ds es b h1 l1 h2 l2 h3 h4 => ?_⟩
  · cases i with
    | zero => cases h
    | succ i => exact j.pur i d h
  · cases i with
    | zero => cases h; cases hl
    | succ i => exact j.own i s ds h hl
  · cases i with
    | zero => cases h1; cases l1
    | succ i => cases k with
      | zero => cases h2; cases l2
      | succ k => exact congrArg (· + 1) (j.dis i k s t ds es b h1 l1 h2 l2 h3 h4)
theorem ownd_cons0 {ρ : En} {σ : St} {o : Option V} {b : Addr} (h : Ownd (.no :: ρ) (o :: σ) b) : Ownd ρ σ b := by
  obtain ⟨i, s, ds, h1, hl, h2⟩ := h
  cases i with
  | zero => cases h1; cases hl
  | succ i => exact ⟨i, s, ds, h1, hl, h2⟩
def runI (n : Nat) (g : MoO) : FnI := fun ds => match g [] (.no :: (ds.map Sl.pur ++ List.replicate (n - ds.length) Sl.no)) with
  | none => none
  | some (.error y) => some (.error y)
  | some (.ok (_, kvs)) => some (.ok kvs)
def guardI (n : Nat) (F : FnI) : FnI := fun ds => match Nat.beq ds.length n with
  | true => F ds
  | false => none
theorem start_cons {x : Str} {N : List Str} {v : V} {vs : List V} : start (x :: N) (v :: vs) = some v :: start N vs := by
  unfold L2.start
  simp [Nat.succ_sub_succ]
theorem init_ok {P : Program} {w : World} {K : PySem.W.Frag} {mg : Str → Option Value} {base : Heap} {c qual self : Str} {st : Stmt} {fd : FuncData} {N ps : List Str} {k : Nat} {g : MoO} (F : FunD K "__init__" qual (defArgs st) (defBody st) (defScope st) [] [] (He.ma K (He.ga K c) "__init__") fd) (S : FnScope (self :: N) (self :: ps) (defScope st))
    (M : Mk K (He.ga K c) (He.ma K (He.ga K c) "__init__")) (gl : mg c = some (.ref (He.ga K c)))
    (b : ∀ (kV doc pm : Value) (an : Option Addr) (cdv ct : Value) (us : List Value), us.length = (self :: ps).length → bindArgs (PySem.W.fnOf "__init__" qual (defArgs st) (defBody st) (defScope st) .none kV doc pm an cdv ct) ⟨us, []⟩ = pure ((self :: ps).zip us))
    (hb : ∀ (cdv : Value) (A : Around) (outer : List PySem.Env) (s : Shared) (H : Hp) (E : XK), Room k (A.deeper (PyProof.Rows.envOfC qual (defScope st) s.heap.objs.size (He.ma K (He.ga K c) "__init__") cdv)) → SO (cxOf (L2.CX P w) P w K mg base (self :: N) qual (defScope st) (He.ma K (He.ga K c) "__init__") cdv A outer s H E) E c (defBody st) g) :
    MkE P w K mg base (k + 1) c ps.length (guardI ps.length (runI N.length g)) := by
  have gl2 : ∀ ds, guardI ps.length (runI N.length g) ds ≠ none → ds.length = ps.length := fun ds h => by
    unfold guardI at h
    cases q : Nat.beq ds.length ps.length with
    | true => exact Nat.eq_of_beq_eq_true q
    | false => rw [q] at h; exact absurd rfl h
  refine ⟨M, ⟨fd, self :: ps, F.ok S (fun vs H Q E h => ?_) fun cdv A outer s H vs Q E hr h => ?_, F.bindsN b⟩, gl, gl2⟩
  · obtain ⟨x, dx, us, ds, G, rfl, _, _, _, r, hl, _⟩ := h
    show us.length + 1 = ps.length + 1
    rw [r.length, hl]
  · obtain ⟨t, p, q⟩ := hb cdv A outer s H E hr
    refine ⟨t, p, ?_⟩
    obtain ⟨x, dx, us, ds, G, rfl, hx, sb, gx, r, hl, k⟩ := h
    rw [start_cons]
    have j0 : J K G (.no :: (ds.map Sl.pur ++ List.replicate (N.length - ds.length) Sl.no)) (some (.ref x) :: start N us) H := (start_j sb r).cons0
    have no : ∀ b, ¬ Ownd (.no :: (ds.map Sl.pur ++ List.replicate (N.length - ds.length) Sl.no)) (some (.ref x) :: start N us) b := fun b z => start_no (ownd_cons0 z)
    refine q x [] G _ _ H _ j0 ⟨⟨dx, [], hx, .nil⟩, gx, no x⟩ rfl ?_
    unfold guardI at k
    have e0 : Nat.beq ds.length ps.length = true := by rw [hl]; exact Nat.beq_refl _
    rw [e0] at k
    unfold runI at k
    match hg : g [] (.no :: (ds.map Sl.pur ++ List.replicate (N.length - ds.length) Sl.no)), k with
    | none, k => simp only [hg] at k; exact k.elim
    | some (.error y), k => simp only [hg] at k; exact fun C d H' z => k C d H' (z.to0 no)
    | some (.ok (ρ', kvs)), k =>
      simp only [hg] at k
      intro G' σ' H' o
      intro σ''
      exact k G' H' o.g (fun b hb => (o.new b hb).elim .inl fun z => z.elim .inr fun z => absurd z (no b)) o.j.sub (fun b o' hb q => o.kept b o' hb q (no b)) o.ob.g o.ob.at_
end HB
namespace HB
open PySem L2
abbrev AlX : Type := He.AlD × Bool
/-- a constant that is a tuple without a dict -/
def tupN (K : PySem.W.Frag) (x : Str) (vs : List He.Dv) : Bool := He.tupB K x vs && (match K.lookup (He.ga K x) with
  | some o => o.dict.isNone
  | none => false)
theorem tupN_ok {K : PySem.W.Frag} {x : Str} {vs : List He.Dv} (h : tupN K x vs = true) (H : Hp) : SqP K H (He.ga K x) (vs.map (He.Dv.v K)) := by
  have ⟨h1, h2⟩ := Bool.and_eq_true_iff.mp h
  rcases He.tupB_ok h1 (fun _ => none) with (z | ⟨_, z⟩) | ⟨o, its, n, l, c, d, z, r⟩
  · cases z
  · cases z
  · rw [l] at h2
    exact .inr ⟨o, its, n, l, Option.isNone_iff_eq_none.mp h2, c, d, z, r⟩
def obsX (fa : List He.Fa) (fn : List He.DefD) (tp : List (Str × List He.Dv)) (K : PySem.W.Frag) : AlX := (He.obsD fa fn K, tp.all fun p => tupN K p.1 p.2)
def obsXG (n : Nat) (fa : List He.Fa) (fn : List He.DefD) (tp : List (Str × List He.Dv)) (g : Addr → Option Obj) : AlX := obsX fa fn tp (He.frG g (He.asD g n))
def hookX (n : Nat) (fa : List He.Fa) (fn : List He.DefD) (tp : List (Str × List He.Dv)) : PySem.W.Hook where
  α := AlX
  obs := fun s => obsXG n fa fn tp s.heap.get?
  val := fun _ => (He.valD fn, true)
  says := fun _ h => ∃ K : PySem.W.Frag, K.In h ∧ He.SaysD fa fn K ∧ (tp.all fun p => tupN K p.1 p.2) = true
  of := fun _ _ e => ⟨_, He.frG_in, congrArg Prod.fst e, congrArg Prod.snd e⟩
  keeps := fun _ _ _ y k => let ⟨K, hK, said⟩ := y; ⟨K, hK.keeps k, said⟩
theorem obsXG_eq {n : Nat} {fa : List He.Fa} {fn : List He.DefD} {tp : List (Str × List He.Dv)} {g : Addr → Option Obj} {s : Shared} (h : ∀ a, g a = s.heap.get? a) : obsXG n fa fn tp g = (hookX n fa fn tp).obs s := by
  rw [show g = fun a => s.heap.get? a from funext h]
  rfl
theorem tp_ok {tp : List (Str × List He.Dv)} {K : PySem.W.Frag} (c : (tp.all fun p => tupN K p.1 p.2) = true) (i : Nat) {p : Str × List He.Dv} (h : tp[i]? = some p := by rfl) : tupN K p.1 p.2 = true :=
  List.all_eq_true.mp c p (List.mem_of_getElem? h)
/-- plain values in a tuple -/
def dvD : He.Dv → D
  | .bl b => .bool b
  | .int i => .int i
  | .str x => .str x
  | _ => .none
def dvOk : He.Dv → Bool
  | .non => true
  | .bl _ => true
  | .int _ => true
  | .str _ => true
  | _ => false
theorem dv_rp {K : PySem.W.Frag} {H : Hp} : ∀ vs : List He.Dv, vs.all dvOk = true → RpAll K H (vs.map (He.Dv.v K)) (vs.map dvD)
  | [], _ => .nil
  | v :: vs, h => by
    obtain ⟨h1, h2⟩ := He.ba (show (dvOk v && vs.all dvOk) = true from h)
    refine .cons ?_ (dv_rp vs h2)
    cases v with
    | non => exact .non
    | bl b => exact .bl b
    | int i => exact .int i
    | str x => exact .str x
    | _ => cases h1
section
variable {mg : Str → Option Value} {K : PySem.W.Frag} {h : Heap}
theorem gl_tup {x : Str} {vs : List He.Dv} {ds : List D} (X : K.In h) (G : h.Ns mainGlobals mg) (c1 : (He.Fa.glo x).ok K = true) (c2 : tupN K x vs = true) (ok : vs.all dvOk = true) (e : vs.map dvD = ds) : GlD K mg x (.tuple ds) := by
  subst e
  exact ⟨.ref (He.ga K x), .ref (He.ga K x), He.glo_ok X G c1, rfl, fun H => .tup (tupN_ok c2 H) (dv_rp vs ok)⟩
theorem gl_int {x : Str} {i : Int} (X : K.In h) (G : h.Ns mainGlobals mg) (c : (He.Fa.int x i).ok K = true) : GlD K mg x (.int i) := by
  obtain ⟨t, e⟩ := He.int_ok X G c
  exact ⟨.int i, .int i t, e, ⟨t, rfl⟩, fun H => .int i⟩
theorem gl_str {x z : Str} (X : K.In h) (G : h.Ns mainGlobals mg) (c : (He.Fa.str x z).ok K = true) : GlD K mg x (.str z) := by
  obtain ⟨t, e⟩ := He.str_ok X G c
  exact ⟨.str z, .str z t, e, ⟨t, rfl⟩, fun H => .str z⟩
end
def isT : Option (Except Exn D) → Bool
  | some (.ok (.bool true)) => true
  | _ => false
theorem isT_ok {o : Option (Except Exn D)} (h : isT o = true) : o = some (.ok (.bool true)) := by
  unfold isT at h
  split at h
  · rfl
  · cases h
def spE (sp : Sp) : Sp := fun vs H Q _ => sp vs H Q fun _ _ _ => False
theorem ok_cx0 {P : Program} {w : World} {K : PySem.W.Frag} {mg : Str → Option Value} {base : Heap} {k : Nat} {f : Addr} {fd : FuncData} {ps : List Str} {sp : Sp} (F : FnOk P w K mg base (L2.CX P w) k f fd ps sp) : FnOk P w K mg base CX0 k f fd ps (spE sp) := by
  refine ⟨fun vs H Q E q => F.len _ _ _ _ q, fun A outer s H args us vs Q E hr he hb hv hs => ?_⟩
  refine codeAny_mono (F.run A outer s H args us vs Q _ hr he hb hv hs) fun r s' h => ?_
  cases r with
  | error e =>
    obtain ⟨_, _, _, _, _, _, _, _, _, _, _, _, z⟩ := (show L2.CX P w outer H s (fun _ _ _ => False) e s' from h)
    exact z.elim
  | ok fl => cases fl <;> exact h
theorem fn_ok0 {P : Program} {w : World} {K : PySem.W.Frag} {mg : Str → Option Value} {base : Heap} {x : Str} {st : Stmt} {fd : FuncData} {N ps : List Str} {k : Nat} {g : Mo Fl} (F : FunD K x x (defArgs st) (defBody st) (defScope st) [] [] (He.ga K x) fd) (S : FnScope N ps (defScope st))
    (hb : ∀ (cdv : Value) (A : Around) (outer : List PySem.Env) (s : Shared) (H : Hp) (E : XK), Room k (A.deeper (PyProof.Rows.envOfC x (defScope st) s.heap.objs.size (He.ga K x) cdv)) → SVs (cxOf (L2.CX P w) P w K mg base N x (defScope st) (He.ga K x) cdv A outer s H E) E (defBody st) g) :
    FnOk P w K mg base (L2.CX P w) (k + 1) (He.ga K x) fd ps (spP K ps.length (guard ps.length (runF N.length g))) := by
  refine F.ok S (fun vs H Q E h => ?_) fun cdv A outer s H vs Q E hr h => ?_
  · obtain ⟨G, ds, _, r, hl, _⟩ := h
    rw [r.length, hl]
  · obtain ⟨t, p, q⟩ := hb cdv A outer s H E hr
    exact ⟨t, p, body_sem q h⟩
theorem rp_ints {K : PySem.W.Frag} {H : Hp} : ∀ ns : List Int, RpAll K H (ns.map V.int) (ns.map PyData.int)
  | [] => .nil
  | n :: ns => .cons (.int n) (rp_ints ns)
/-- the script as a datum -/
def scr (ns : List Int) : D := .dict [(.none, .list (ns.map PyData.int))]
theorem law_sp {K : PySem.W.Frag} {F : Fn} {n : Nat} (hT : ∀ ns : List Int, ns.length ≤ n → isT (F [scr ns]) = true) (H : Hp) (a : Addr) (ns : List Int) (hl : ns.length ≤ n) (hS : SqL K H a (ns.map V.int)) :
    spE (spP K 1 F) [.ref a] H (fun v _ => v = .bl true) fun _ _ _ => False := by
  refine ⟨H, [scr ns], .refl _, .cons (.frz hS (rp_ints ns)) .nil, rfl, ?_⟩
  rw [isT_ok (hT ns hl)]
  intro G' v H' _ r
  cases r
  rfl
end HB
namespace HB
open PySem L2
def pureSl : Sl → Bool
  | .own _ => false
  | .box _ => false
  | _ => true
def noOwns (ρ : En) : Bool := ρ.all pureSl
theorem noOwns_ok {ρ : En} {σ : St} (h : noOwns ρ = true) (b : Addr) : ¬ Ownd ρ σ b := by
  rintro ⟨i, s, ds, h1, hl, _⟩
  have z := List.all_eq_true.mp h _ (List.mem_of_getElem? h1)
  cases s with
  | no => cases hl
  | pur d => cases hl
  | own _ => cases z
  | box _ => cases z
def tI (K : PySem.W.Frag) (E : XK) (f : Mo Src) (js : List Nat) : TI := fun σ H R => ∃ G ρ, J K G ρ σ H ∧ PostI K E js G ρ σ H R (f ρ)
section
variable {X : Cx} {E : XK}
theorem IV.pi {tg iter : Expr} {f : Mo Src} {js : List Nat} (h : IV X E tg iter f js) : PI X tg iter (tI X.K E f js) := by
  obtain ⟨t, p, q⟩ := h
  exact ⟨fun pins s σ H R I ⟨G, ρ, j, z⟩ => p.run pins s σ H R I (q G ρ σ H R j z)⟩
def in2 (g1 : D → En → Option En) (elt : Mo D) (ρ : En) : List D → Option (List D)
  | [] => some []
  | e :: r => match g1 e ρ with
    | none => none
    | some ρ3 => match noOwns ρ3 with
      | false => none
      | true => match elt ρ3 with
        | some (.ok (_, y)) => (in2 g1 elt ρ r).map (y :: ·)
        | _ => none
def out2 (vs1 : List Nat) (g : D → En → Option En) (src1 : Mo Src) (g1 : D → En → Option En) (elt : Mo D) (ρ : En) : List D → Option (List D)
  | [] => some []
  | d :: r => match g d ρ with
    | none => none
    | some ρ1 => match noOwns ρ1 with
      | false => none
      | true => match src1 ρ1 with
        | some (.ok (ρ2, s)) => match noOwns ρ2 with
          | false => none
          | true => match s [] with
            | none => none
            | some items => match in2 g1 elt (wipeE ρ2 vs1) items with
              | none => none
              | some ys => (out2 vs1 g src1 g1 elt ρ r).map (ys ++ ·)
        | _ => none
def mBlk2 (vs vs1 : List Nat) (src : Mo Src) (g : D → En → Option En) (src1 : Mo Src) (g1 : D → En → Option En) (elt : Mo D) : Mo (List D) := mBind src fun s ρ => match noOwns ρ with
  | false => none
  | true => match s [] with
    | none => none
    | some items => match out2 vs1 g src1 g1 elt (wipeE ρ vs) items with
      | none => none
      | some ys => (match Nat.ble ys.length 1000000 with
        | true => some (.ok (ρ, ys))
        | false => none)
/-- as far as it is made -/
def Acc (K : PySem.W.Frag) (G1 H1 : Hp) (Dd : Addr) (H2 : Hp) (dacc : List D) : Prop := ∃ G2 vacc, PX G1 H1 G2 H2 ∧ G2 Dd = none ∧ H2 Dd = some (.lst vacc) ∧ RpAll K G2 vacc dacc
theorem acc_g {G H G' H' : Hp} {Dd : Addr} {o : HO} (h1 : G Dd = none) (h2 : H Dd = some o) (p : PX G H G' H') : G' Dd = none ∧ H' Dd = some o := by
  refine ⟨?_, p.h _ _ h2⟩
  cases q : G' Dd with
  | none => rfl
  | some o' =>
    rcases p.new Dd (by rw [q]; simp) with z | z
    · exact absurd h1 z
    · rw [h2] at z; cases z
theorem acc_app {K : PySem.W.Frag} {G1 H1 G H : Hp} {Dd : Addr} {vacc : List V} {dacc : List D} {y : V} {d : D} (hD : H1 Dd = none) (p : PX G1 H1 G H) (h1 : G Dd = none) (h2 : H Dd = some (.lst vacc)) (r : RpAll K G vacc dacc) (ry : Rp K G y d) : PX G1 H1 G (upd H Dd (.lst (vacc ++ [y]))) ∧ RpAll K G (vacc ++ [y]) (dacc ++ [d]) := by
  refine ⟨⟨fun b o q => ?_, p.g, fun b o q => ?_, p.new⟩, r.append (.cons ry .nil)⟩
  · rw [upd_ne (fun e => by subst e; rw [hD] at q; cases q)]
    exact p.h _ _ q
  · rw [upd_ne (fun e => by subst e; rw [h1] at q; cases q)]
    exact p.s _ _ q
theorem J.re {K : PySem.W.Frag} {G H G' H' : Hp} {ρ : En} {σ : St} (j : J K G ρ σ H) (no : ∀ b, ¬ Ownd ρ σ b) (g : Same G G') (s : Same G' H') : J K G' ρ σ H' := by
  refine ⟨s, j.len, fun i d h => ?_, fun i s0 ds h hl => ?_, j.dis⟩
  · obtain ⟨v, h1, h2⟩ := j.pur i d h
    exact ⟨v, h1, h2.mono g⟩
  · obtain ⟨a, vs, h1, _⟩ := j.own i s0 ds h hl
    exact absurd ⟨i, s0, ds, h, hl, h1⟩ (no a)
theorem drop_cons {α : Type} {l : List α} {i : Nat} {a : α} (h : l[i]? = some a) : l.drop i = a :: l.drop (i + 1) := by
  have ⟨lt, is⟩ := List.getElem?_eq_some_iff.mp h
  exact (List.drop_eq_getElem_cons lt).trans (by rw [is])
theorem wipe_sets {σ σ4 : St} {vs ws : List Nat} (s4 : Sets ws (wipe σ vs) σ4) (hws : ∀ k ∈ ws, k ∈ vs) : wipe σ4 vs = wipe σ vs := by
  have s5 : Sets vs (wipe σ vs) σ4 := ⟨s4.1, fun k hk => s4.2 k fun z => hk (hws k z)⟩
  rw [wipe_ext s5]
  exact wipe_ext ⟨wipe_length σ vs, fun k hk => wipe_out hk⟩
theorem lc2_sem {wi : TI} {src src1 : Mo Src} {vs vs1 ws ws1 : List Nat} {g g1 : D → En → Option En} {elt : Mo D}
    (qi : ∀ G ρ σ H R, J X.K G ρ σ H → PostI X.K E [] G ρ σ H R (src ρ) → wi σ H R) (hcs : ∀ ρ ρ' s, src ρ = some (.ok (ρ', s)) → Const s) (hcs1 : ∀ ρ ρ' s, src1 ρ = some (.ok (ρ', s)) → Const s) (hws : ∀ k ∈ ws, k ∈ vs) (hws1 : ∀ k ∈ ws1, k ∈ vs1) :
    ∀ G ρ σ H Q, J X.K G ρ σ H → PostN X.K E G ρ σ H Q (mBlk2 vs vs1 src g src1 g1 elt ρ) → tLc2 wi (tG X.K g ws) (tT X.K E0 (mRet true)) (tI X.K E0 src1 []) (tG X.K g1 ws1) (tT X.K E0 (mRet true)) (tE X.K E0 elt) vs vs1 σ H Q := by
  intro G ρ σ H Q j h
  refine qi G ρ σ H _ j ?_
  unfold mBlk2 mBind at h
  cases hs : src ρ with
  | none => rw [hs] at h; exact h
  | some r =>
    rw [hs] at h
    cases r with
    | error x => exact h
    | ok pr =>
      obtain ⟨ρ1, s⟩ := pr
      intro G1 H1 Jt e1 hit Dd hD
      have cs := hcs _ _ _ hs
      simp only at h
      cases hno : noOwns ρ1 with
      | false => simp only [hno] at h; exact h.elim
      | true =>
        simp only [hno] at h
        cases hi : s [] with
        | none => simp only [hi] at h; exact h.elim
        | some items =>
          simp only [hi] at h
          cases ho : out2 vs1 g src1 g1 elt (wipeE ρ1 vs) items with
          | none => simp only [ho] at h; exact h.elim
          | some ys =>
            simp only [ho] at h
            cases hz : Nat.ble ys.length 1000000 with
            | false => simp only [hz] at h; exact h.elim
            | true =>
              simp only [hz] at h
              have hz' : ys.length ≤ 1000000 := Nat.le_of_ble_eq_true hz
              have hlim : ∀ (dacc : List D) (vacc : List V) (G : Hp) (rest : List D) (z : D), RpAll X.K G vacc dacc → dacc ++ z :: rest = ys → vacc.length < sizeLine := fun dacc vacc G rest z r e => by
                rw [r.length]
                refine Nat.lt_of_lt_of_le ?_ (line_of hz')
                rw [← e, List.length_append, List.length_cons]
                omega
              have j0 := e1.j.wipe vs
              refine ⟨fun i m H2 => m = items.length - i ∧ ∃ dacc rest, Acc X.K G1 H1 Dd H2 dacc ∧ out2 vs1 g src1 g1 elt (wipeE ρ1 vs) (items.drop i) = some rest ∧ dacc ++ rest = ys,
                ⟨items.length, by simp, [], ys, ⟨G1, [], ⟨same_upd hD, .refl _, e1.j.sub.trans (same_upd hD), fun _ z => .inl z⟩, e1.j.sub.free hD, upd_same, .nil⟩, by simpa using ho, rfl⟩, ?_⟩
              rintro i m H2 ⟨rfl, dacc, rest, ⟨G2, vacc, p2, hG2, hH2, racc⟩, hout, hys⟩
              have j2 : J X.K G2 (wipeE ρ1 vs) (wipe σ vs) H2 := j0.px p2
              obtain ⟨hgo, hstop⟩ := hit i G2 (wipeE ρ1 vs) (wipe σ vs) H2 items p2.g j2 (fun _ z => nomatch z) ((cs _).trans hi)
              cases hitem : items[i]? with
              | none =>
                have hle : items.length ≤ i := List.getElem?_eq_none_iff.mp hitem
                rw [List.drop_eq_nil_of_le hle] at hout
                cases hout
                rw [List.append_nil] at hys
                subst hys
                refine .inl ⟨hstop hle, ?_⟩
                exact h G2 (.ref Dd) H2 (e1.trans (e1.j.ex p2)) ⟨Dd, vacc, rfl, e1.dom _ hD, hG2, hH2, noOwns_ok hno Dd, racc⟩
              | some d =>
                obtain ⟨go, yld⟩ := hgo d hitem
                have hlt : i < items.length := (List.getElem?_eq_some_iff.mp hitem).1
                rw [drop_cons hitem] at hout
                unfold out2 at hout
                refine .inr ⟨go, fun H6 => ∃ dacc' rest', Acc X.K G1 H1 Dd H6 dacc' ∧ out2 vs1 g src1 g1 elt (wipeE ρ1 vs) (items.drop (i + 1)) = some rest' ∧ dacc' ++ rest' = ys,
                  fun H6 ⟨da, re, k1, k2, k3⟩ => ⟨items.length - (i + 1), by omega, rfl, da, re, k1, k2, k3⟩, fun x H3 y => ?_⟩
                obtain ⟨G3, px3, rx⟩ := yld x H3 y
                have j3 := j2.px px3
                cases eg : g d (wipeE ρ1 vs) with
                | none => simp only [eg] at hout; cases hout
                | some ρa =>
                  simp only [eg] at hout
                  cases hna : noOwns ρa with
                  | false => simp only [hna] at hout; cases hout
                  | true =>
                    simp only [hna] at hout
                    refine ⟨G3, wipeE ρ1 vs, d, ρa, j3, rx, eg, fun σ4 x4 s4 => ⟨?_, G3, ρa, x4.j, ?_⟩⟩
                    · rw [wipe_sets s4 hws]
                    · intro G5 b' H5 x5 hb
                      subst hb
                      have p5 : PX G3 H3 G5 H5 := x5.px (noOwns_ok hna)
                      rw [if_pos rfl]
                      cases es : src1 ρa with
                      | none => simp only [es] at hout; cases hout
                      | some r1 =>
                        cases r1 with
                        | error x => simp only [es] at hout; cases hout
                        | ok pr1 =>
                          obtain ⟨ρb, s1⟩ := pr1
                          simp only [es] at hout
                          have cs1 := hcs1 _ _ _ es
                          cases hnb : noOwns ρb with
                          | false => simp only [hnb] at hout; cases hout
                          | true =>
                            simp only [hnb] at hout
                            cases hi1 : s1 [] with
                            | none => simp only [hi1] at hout; cases hout
                            | some items1 =>
                              simp only [hi1] at hout
                              cases h2 : in2 g1 elt (wipeE ρb vs1) items1 with
                              | none => simp only [h2] at hout; cases hout
                              | some ys1 =>
                                simp only [h2] at hout
                                cases h3 : out2 vs1 g src1 g1 elt (wipeE ρ1 vs) (items.drop (i + 1)) with
                                | none => rw [h3] at hout; cases hout
                                | some rest3 =>
                                  rw [h3] at hout
                                  cases hout
                                  refine ⟨G5, ρa, x5.j, ?_⟩
                                  rw [es]
                                  intro G6 H6 Jt1 e6 hit1
                                  have p6 : PX G5 H5 G6 H6 := e6.px (noOwns_ok hna)
                                  have p26 : PX G2 H2 G6 H6 := px3.trans (p5.trans p6)
                                  have jb := e6.j.wipe vs1
                                  refine ⟨fun j k Hh => k = items1.length - j ∧ ∃ da re1 G7 va, Same G6 G7 ∧ PX G1 H1 G7 Hh ∧ G7 Dd = none ∧ Hh Dd = some (.lst va) ∧ RpAll X.K G7 va da ∧ in2 g1 elt (wipeE ρb vs1) (items1.drop j) = some re1 ∧ da ++ (re1 ++ rest3) = ys,
                                    ⟨items1.length, by simp, dacc, ys1, G6, vacc, .refl _, p2.trans p26, (acc_g hG2 hH2 p26).1, (acc_g hG2 hH2 p26).2, racc.mono p26.g, by simpa using h2, by simpa using hys⟩, ?_⟩
                                  rintro jj kk Hh ⟨rfl, da, re1, G7, va, p67, p17, hG7, hH7, ra7, hin, hy7⟩
                                  have j7 : J X.K G7 (wipeE ρb vs1) (wipe σ4 vs1) Hh := jb.re (fun b z => noOwns_ok hnb b (wipe_ownd z)) p67 p17.s
                                  obtain ⟨hgo1, hstop1⟩ := hit1 jj G7 (wipeE ρb vs1) (wipe σ4 vs1) Hh items1 p67 j7 (fun _ z => nomatch z) ((cs1 _).trans hi1)
                                  cases hit2 : items1[jj]? with
                                  | none =>
                                    have hle : items1.length ≤ jj := List.getElem?_eq_none_iff.mp hit2
                                    rw [List.drop_eq_nil_of_le hle] at hin
                                    cases hin
                                    exact .inl ⟨hstop1 hle, da, rest3, ⟨G7, va, p17, hG7, hH7, ra7⟩, rfl, by simpa using hy7⟩
                                  | some d1 =>
                                    obtain ⟨go1, yld1⟩ := hgo1 d1 hit2
                                    have hlt1 : jj < items1.length := (List.getElem?_eq_some_iff.mp hit2).1
                                    rw [drop_cons hit2] at hin
                                    unfold in2 at hin
                                    refine .inr ⟨go1, fun Hn => ∃ da re1 G7 va, Same G6 G7 ∧ PX G1 H1 G7 Hn ∧ G7 Dd = none ∧ Hn Dd = some (.lst va) ∧ RpAll X.K G7 va da ∧ in2 g1 elt (wipeE ρb vs1) (items1.drop (jj + 1)) = some re1 ∧ da ++ (re1 ++ rest3) = ys,
                                      fun Hn ⟨da, re, G9, va, q1, q2, q3, q4, q5, q6, q7⟩ => ⟨items1.length - (jj + 1), by omega, rfl, da, re, G9, va, q1, q2, q3, q4, q5, q6, q7⟩, fun x1 H8 y1 => ?_⟩
                                    obtain ⟨G8, px8, rx1⟩ := yld1 x1 H8 y1
                                    have j8 := j7.px px8
                                    cases eg1 : g1 d1 (wipeE ρb vs1) with
                                    | none => simp only [eg1] at hin; cases hin
                                    | some ρc =>
                                      simp only [eg1] at hin
                                      cases hnc : noOwns ρc with
                                      | false => simp only [hnc] at hin; cases hin
                                      | true =>
                                        simp only [hnc] at hin
                                        refine ⟨G8, wipeE ρb vs1, d1, ρc, j8, rx1, eg1, fun σ9 x9 s9 => ⟨wipe_sets s9 hws1, G8, ρc, x9.j, ?_⟩⟩
                                        intro G10 b' H10 x10 hb
                                        subst hb
                                        have p10 : PX G8 H8 G10 H10 := x10.px (noOwns_ok hnc)
                                        rw [if_pos rfl]
                                        refine ⟨G10, ρc, x10.j, ?_⟩
                                        cases ee : elt ρc with
                                        | none => simp only [ee] at hin; cases hin
                                        | some re =>
                                          cases re with
                                          | error x => simp only [ee] at hin; cases hin
                                          | ok pe =>
                                            obtain ⟨ρd, yd⟩ := pe
                                            simp only [ee] at hin
                                            cases h5 : in2 g1 elt (wipeE ρb vs1) (items1.drop (jj + 1)) with
                                            | none => rw [h5] at hin; cases hin
                                            | some re5 =>
                                              rw [h5] at hin
                                              cases hin
                                              intro G11 yv H11 x11 ry
                                              have p11 : PX G10 H10 G11 H11 := x11.px (noOwns_ok hnc)
                                              have p7 : PX G7 Hh G11 H11 := px8.trans (p10.trans p11)
                                              obtain ⟨a1, a2⟩ := acc_g hG7 hH7 p7
                                              have r11 := ra7.mono p7.g
                                              refine ⟨va, a2, hlim da va G7 (re5 ++ rest3) yd ra7 (by simpa using hy7), ?_⟩
                                              have pa := p17.trans p7
                                              obtain ⟨h1, h2⟩ := acc_app hD pa a1 a2 r11 ry
                                              refine ⟨da ++ [yd], re5, G11, va ++ [yv], p67.trans p7.g, h1, a1, upd_same, r11.append (.cons ry .nil), rfl, by simpa using hy7⟩
/-- as a new list; as a name's -/
theorem en_lc2 {elt tg iter tg1 iter1 : Expr} {scope : Scope} {own : List (Str × Nat)} {vs1 ws ws1 : List Nat} {pos : Pos} {src src1 : Mo Src} {g g1 : D → En → Option En} {fe : Mo D} (hi : IV X E tg iter src []) (hcs : ∀ ρ ρ' s, src ρ = some (.ok (ρ', s)) → Const s) (ok : BlkOk X.N X.env.scope scope own)
    (hg : ∀ (s : Shared) (H : Hp) (C : Addr) (cl : List (Str × Addr)) (fp : List Addr), GV (X.blk s H scope (compEnvC scope cl C X.env) fp) tg g ws) (hi1 : ∀ (s : Shared) (H : Hp) (C : Addr) (cl : List (Str × Addr)) (fp : List Addr), IV (X.blk s H scope (compEnvC scope cl C X.env) fp) E0 tg1 iter1 src1 []) (hcs1 : ∀ ρ ρ' s, src1 ρ = some (.ok (ρ', s)) → Const s)
    (hg1 : ∀ (s : Shared) (H : Hp) (C : Addr) (cl : List (Str × Addr)) (fp : List Addr), GV (X.blk s H scope (compEnvC scope cl C X.env) fp) tg1 g1 ws1) (he : ∀ (s : Shared) (H : Hp) (C : Addr) (cl : List (Str × Addr)) (fp : List Addr), EV (X.blk s H scope (compEnvC scope cl C X.env) fp) E0 elt fe)
    (hc : X.calm = true) (hN : X.N.Nodup) (hws : ∀ k ∈ ws, k ∈ own.map (·.2) := by decide) (hws1 : ∀ k ∈ ws1, k ∈ vs1 := by decide) (hv : ∀ i ∈ vs1, i ∈ own.map (·.2) := by decide) (hs : ∀ x, foldedSetIterable iter X.env x = pure x := by intro _; rfl) (hs1 : ∀ env x, foldedSetIterable iter1 env x = pure x := by intro _ _; rfl) :
    EN X E (.ListComp elt [⟨tg, iter, [], 0⟩, ⟨tg1, iter1, [], 0⟩] scope pos) (mBlk2 (own.map (·.2)) vs1 src g src1 g1 fe) := by
  obtain ⟨wi, pi, qi⟩ := hi
  exact ⟨_, pe_lc2 (tt := tT X.K E0 (mRet true)) (tt1 := tT X.K E0 (mRet true)) hc hN pi ok hv (fun s H C cl fp => (hg s H C cl fp).pg) (fun s H C cl fp => (show EIf (X.blk s H scope (compEnvC scope cl C X.env) fp) E0 [] (mRet true) from eif_nil)) (fun s H C cl fp => (hi1 s H C cl fp).pi) (fun s H C cl fp => (hg1 s H C cl fp).pg) (fun s H C cl fp => (show EIf (X.blk s H scope (compEnvC scope cl C X.env) fp) E0 [] (mRet true) from eif_nil)) (fun s H C cl fp => (he s H C cl fp).pe) hs hs1, lc2_sem qi hcs hcs1 hws hws1⟩
theorem s_setLc2 {elt tg iter tg1 iter1 : Expr} {scope : Scope} {own : List (Str × Nat)} {vs1 ws ws1 : List Nat} {pos spos : Pos} {i : Nat} {y : Str} {py : Pos} {src src1 : Mo Src} {g g1 : D → En → Option En} {fe : Mo D} (hi : IV X E tg iter src []) (hcs : ∀ ρ ρ' s, src ρ = some (.ok (ρ', s)) → Const s) (ok : BlkOk X.N X.env.scope scope own)
    (hg : ∀ (s : Shared) (H : Hp) (C : Addr) (cl : List (Str × Addr)) (fp : List Addr), GV (X.blk s H scope (compEnvC scope cl C X.env) fp) tg g ws) (hi1 : ∀ (s : Shared) (H : Hp) (C : Addr) (cl : List (Str × Addr)) (fp : List Addr), IV (X.blk s H scope (compEnvC scope cl C X.env) fp) E0 tg1 iter1 src1 []) (hcs1 : ∀ ρ ρ' s, src1 ρ = some (.ok (ρ', s)) → Const s)
    (hg1 : ∀ (s : Shared) (H : Hp) (C : Addr) (cl : List (Str × Addr)) (fp : List Addr), GV (X.blk s H scope (compEnvC scope cl C X.env) fp) tg1 g1 ws1) (he : ∀ (s : Shared) (H : Hp) (C : Addr) (cl : List (Str × Addr)) (fp : List Addr), EV (X.blk s H scope (compEnvC scope cl C X.env) fp) E0 elt fe)
    (hc : X.calm = true) (hN : X.N.Nodup) (hsw : swapsWith (.ListComp elt [⟨tg, iter, [], 0⟩, ⟨tg1, iter1, [], 0⟩] scope pos) (some (.Name y py)) spos.line X.env = pure true) (hy : X.N[i]? = some y := by rfl) (hyl : X.env.scope.names.lookup y = some .local := by rfl)
    (hws : ∀ k ∈ ws, k ∈ own.map (·.2) := by decide) (hws1 : ∀ k ∈ ws1, k ∈ vs1 := by decide) (hv : ∀ i ∈ vs1, i ∈ own.map (·.2) := by decide) (hs : ∀ x, foldedSetIterable iter X.env x = pure x := by intro _; rfl) (hs1 : ∀ env x, foldedSetIterable iter1 env x = pure x := by intro _ _; rfl) :
    SV X E (.Assign [.Name y py] (.ListComp elt [⟨tg, iter, [], 0⟩, ⟨tg1, iter1, [], 0⟩] scope pos) spos) (sSet i (mList (mBlk2 (own.map (·.2)) vs1 src g src1 g1 fe))) := by
  obtain ⟨wi, pi, qi⟩ := hi
  refine ⟨_, ps_setLc2 (tt := tT X.K E0 (mRet true)) (tt1 := tT X.K E0 (mRet true)) hc hN hy hyl hsw pi ok hv (fun s H C cl fp => (hg s H C cl fp).pg) (fun s H C cl fp => (show EIf (X.blk s H scope (compEnvC scope cl C X.env) fp) E0 [] (mRet true) from eif_nil)) (fun s H C cl fp => (hi1 s H C cl fp).pi) (fun s H C cl fp => (hg1 s H C cl fp).pg) (fun s H C cl fp => (show EIf (X.blk s H scope (compEnvC scope cl C X.env) fp) E0 [] (mRet true) from eif_nil)) (fun s H C cl fp => (he s H C cl fp).pe) hs hs1, fun G ρ σ H De j h => lc2_sem qi hcs hcs1 hws hws1 G ρ σ H _ j ?_⟩
  unfold sSet mList mBind at h
  cases hh : mBlk2 (own.map (·.2)) vs1 src g src1 g1 fe ρ with
  | none => simp only [hh] at h; exact h
  | some r =>
    cases r with
    | error x => simp only [hh] at h; exact h
    | ok pr =>
      obtain ⟨ρ', ds⟩ := pr
      simp only [hh] at h
      intro G' v H' e r
      obtain ⟨a, us, rfl, z1, z2, z3, no, z4⟩ := r
      have e2 := e.still z1 z2 z3 no
      exact h _ _ H' (e2.trans (Ex.set e2.j i (.lst upd_same (z4.mono (same_upd z2)))))
end
end HB
namespace HB
open PySem L2
def gCP : Mo Fl := sSeq (sPar2 0 1 (xConsP (mBuilt absD (mCons (mVar 0) (mNil))) (xConsP (mBuilt absD (mCons (mVar 1) (mNil))) (xNil))))
  (sSeq (sWhile (fuelInt 1) (mTest (mOp (cmpD gtI) (mVar 1) (mRet (.int 0)))) (sPar2 0 1 (xConsP (mVar 1) (xConsP (mOp modD (mVar 0) (mVar 1)) (xNil)))))
  (sRet (mVar 0)))
theorem cp_loop : ∀ (m n k : Nat), m < k → whileL (mTest (mOp (cmpD gtI) (mVar 1) (mRet (.int 0)))) (sPar2 0 1 (xConsP (mVar 1) (xConsP (mOp modD (mVar 0) (mVar 1)) (xNil)))) k [.pur (.int n), .pur (.int m)] = some (.ok ([.pur (.int (Nat.gcd n m : Nat)), .pur (.int 0)], .nx)) := by
  refine fun m => Nat.strongRecOn m fun m ih => ?_
  · intro n k hk
    cases k with
    | zero => omega
    | succ k =>
      cases m with
      | zero => simp [whileL, mTest, mOp, mVar, mRet, mBind, mLift, cmpD, gtI, boolD]
      | succ m =>
        have h1 : gtI ((m + 1 : Nat) : Int) 0 = true := by unfold gtI; exact decide_eq_true (by omega)
        have h2 : (0 : Int) < ((m + 1 : Nat) : Int) := by omega
        have e : whileL (mTest (mOp (cmpD gtI) (mVar 1) (mRet (.int 0)))) (sPar2 0 1 (xConsP (mVar 1) (xConsP (mOp modD (mVar 0) (mVar 1)) (xNil)))) (k + 1) [.pur (.int n), .pur (.int ((m + 1 : Nat) : Int))] =
            whileL (mTest (mOp (cmpD gtI) (mVar 1) (mRet (.int 0)))) (sPar2 0 1 (xConsP (mVar 1) (xConsP (mOp modD (mVar 0) (mVar 1)) (xNil)))) k [.pur (.int ((m + 1 : Nat) : Int)), .pur (.int ((n % (m + 1) : Nat) : Int))] := by
          simp only [whileL, mTest, mOp, mVar, mRet, mBind, mLift, cmpD, boolD, List.getElem?_cons_succ, List.getElem?_cons_zero, h1, sPar2, xConsP, xNil, modD, h2, if_true, slOf, List.set]
          rfl
        rw [e, ih (n % (m + 1)) (Nat.mod_lt _ (Nat.succ_pos m)) (m + 1) k (Nat.lt_of_lt_of_le (Nat.mod_lt n (Nat.succ_pos m)) (by omega))]
        rw [Nat.gcd_comm (m + 1), ← Nat.gcd_rec (m + 1) n, Nat.gcd_comm]
def M_common_part : Fn
  | [.int a, .int b] => some (.ok (.int (Nat.gcd a.natAbs b.natAbs : Nat)))
  | _ => none
theorem absI (i : Int) : (if i < 0 then -i else i) = (i.natAbs : Int) := by
  split <;> omega
theorem cp_run (a b : Int) : runF 2 gCP [.int a, .int b] = some (.ok (.int (Nat.gcd a.natAbs b.natAbs : Nat))) := by
  have e : gCP [.pur (.int a), .pur (.int b)] = sSeq (sWhile (fuelInt 1) (mTest (mOp (cmpD gtI) (mVar 1) (mRet (.int 0)))) (sPar2 0 1 (xConsP (mVar 1) (xConsP (mOp modD (mVar 0) (mVar 1)) (xNil))))) (sRet (mVar 0)) [.pur (.int (a.natAbs : Int)), .pur (.int (b.natAbs : Int))] := by
    rw [← absI a, ← absI b]
    rfl
  have e2 : gCP [.pur (.int a), .pur (.int b)] = some (.ok ([.pur (.int (Nat.gcd a.natAbs b.natAbs : Nat)), .pur (.int 0)], .rt (.int (Nat.gcd a.natAbs b.natAbs : Nat)))) := by
    rw [e]
    unfold sSeq mBind sWhile
    have ef : fuelInt 1 [.pur (.int (a.natAbs : Int)), .pur (.int (b.natAbs : Int))] = b.natAbs + 1 := rfl
    rw [ef, cp_loop b.natAbs a.natAbs (b.natAbs + 1) (Nat.lt_succ_self _)]
    rfl
  show (match gCP [.pur (.int a), .pur (.int b)] with
    | none => none
    | some (.error x) => some (.error x)
    | some (.ok (_, .nx)) => some (.ok .none)
    | some (.ok (_, .rt d)) => some (.ok d)
    | some (.ok (_, _)) => none : Option (Except Exn D)) = _
  rw [e2]
theorem mir_common_part (ds : List D) (r : Except Exn D) (h : M_common_part ds = some r) : guard 2 (runF 2 gCP) ds = some r := by
  unfold M_common_part at h
  split at h
  · rw [← h]
    exact cp_run _ _
  · cases h
def gIL : Mo Fl := sSeq (sSet 2 (mCall M_common_part (mCons (mVar 0) (mCons (mVar 1) (mNil)))))
  (sRet (mIf (mTest (mOp (cmpD gtI) (mVar 1) (mRet (.int 0)))) (mTup (mCons (mOp fdivD (mVar 0) (mVar 2)) (mCons (mOp fdivD (mVar 1) (mVar 2)) (mNil)))) (mTup (mCons (mOp fdivD (mUn negD (mVar 0)) (mVar 2)) (mCons (mOp fdivD (mUn negD (mVar 1)) (mVar 2)) (mNil))))))
/-- in lowest terms -/
def lowD (t b : Int) : Option (Except Exn D) := match Nat.blt 0 (Nat.gcd t.natAbs b.natAbs) && Nat.blt (Nat.gcd t.natAbs b.natAbs).log2 9000 with
  | false => none
  | true => match gtI b 0 with
    | true => some (.ok (.tuple [.int (t / (Nat.gcd t.natAbs b.natAbs : Nat)), .int (b / (Nat.gcd t.natAbs b.natAbs : Nat))]))
    | false => some (.ok (.tuple [.int (-t / (Nat.gcd t.natAbs b.natAbs : Nat)), .int (-b / (Nat.gcd t.natAbs b.natAbs : Nat))]))
def M_in_lowest : Fn
  | [.int t, .int b] => lowD t b
  | _ => none
theorem fdiv_nat {i : Int} {g : Nat} (h1 : 0 < g) (h2 : g.log2 < 9000) : fdivD (.int i) (.int (g : Int)) = some (.int (i / (g : Int))) := by
  unfold fdivD
  simp only
  rw [if_pos ⟨by omega, by rw [Int.natAbs_natCast]; exact h2⟩]
theorem mir_in_lowest (ds : List D) (r : Except Exn D) (h : M_in_lowest ds = some r) : guard 2 (runF 3 gIL) ds = some r := by
  unfold M_in_lowest at h
  split at h
  · rename_i t b
    unfold lowD at h
    cases hc : Nat.blt 0 (Nat.gcd t.natAbs b.natAbs) && Nat.blt (Nat.gcd t.natAbs b.natAbs).log2 9000 with
    | false => rw [hc] at h; cases h
    | true =>
      rw [hc] at h
      obtain ⟨c1, c2⟩ := Bool.and_eq_true_iff.mp hc
      have g1 : 0 < Nat.gcd t.natAbs b.natAbs := Nat.le_of_ble_eq_true c1
      have g2 : (Nat.gcd t.natAbs b.natAbs).log2 < 9000 := Nat.le_of_ble_eq_true c2
      have f1 : ∀ i : Int, fdivD (.int i) (.int (Nat.gcd t.natAbs b.natAbs : Nat)) = some (.int (i / (Nat.gcd t.natAbs b.natAbs : Nat))) := fun i => fdiv_nat g1 g2
      have e0 : guard 2 (runF 3 gIL) [.int t, .int b] = runF 3 gIL [.int t, .int b] := rfl
      rw [e0, ← h]
      cases hb : gtI b 0 with
      | true => simp [runF, gIL, sSeq, sSet, setSl, mBind, mCall, mCons, mNil, mVar, mRet, M_common_part, sRet, mIf, mTest, mOp, mUn, negD, mLift, cmpD, boolD, hb, f1, mTup, sizeOk]
      | false => simp [runF, gIL, sSeq, sSet, setSl, mBind, mCall, mCons, mNil, mVar, mRet, M_common_part, sRet, mIf, mTest, mOp, mUn, negD, mLift, cmpD, boolD, hb, f1, mTup, sizeOk]
  · cases h
def gAdd : Mo Fl := sRet (mCall M_in_lowest (mCons (mOp addD (mOp mulD (mOp ixD (mVar 0) (mRet (.int 0))) (mOp ixD (mVar 1) (mRet (.int 1)))) (mOp mulD (mOp ixD (mVar 1) (mRet (.int 0))) (mOp ixD (mVar 0) (mRet (.int 1))))) (mCons (mOp mulD (mOp ixD (mVar 0) (mRet (.int 1))) (mOp ixD (mVar 1) (mRet (.int 1)))) (mNil))))
def gLess : Mo Fl := sRet (mCall M_in_lowest (mCons (mOp subD (mOp mulD (mOp ixD (mVar 0) (mRet (.int 0))) (mOp ixD (mVar 1) (mRet (.int 1)))) (mOp mulD (mOp ixD (mVar 1) (mRet (.int 0))) (mOp ixD (mVar 0) (mRet (.int 1))))) (mCons (mOp mulD (mOp ixD (mVar 0) (mRet (.int 1))) (mOp ixD (mVar 1) (mRet (.int 1)))) (mNil))))
def gMul : Mo Fl := sRet (mCall M_in_lowest (mCons (mOp mulD (mOp ixD (mVar 0) (mRet (.int 0))) (mOp ixD (mVar 1) (mRet (.int 0)))) (mCons (mOp mulD (mOp ixD (mVar 0) (mRet (.int 1))) (mOp ixD (mVar 1) (mRet (.int 1)))) (mNil))))
def gQuo : Mo Fl := sRet (mCall M_in_lowest (mCons (mOp mulD (mOp ixD (mVar 0) (mRet (.int 0))) (mOp ixD (mVar 1) (mRet (.int 1)))) (mCons (mOp mulD (mOp ixD (mVar 0) (mRet (.int 1))) (mOp ixD (mVar 1) (mRet (.int 0)))) (mNil))))
def gLt : Mo Fl := sRet (mOp (cmpD ltI) (mOp mulD (mOp ixD (mVar 0) (mRet (.int 0))) (mOp ixD (mVar 1) (mRet (.int 1)))) (mOp mulD (mOp ixD (mVar 1) (mRet (.int 0))) (mOp ixD (mVar 0) (mRet (.int 1)))))
def M_added : Fn
  | [.tuple [.int a, .int b], .tuple [.int c, .int d]] => (match mulFit a d && (mulFit c b && mulFit b d) with
    | true => lowD (a * d + c * b) (b * d)
    | false => none)
  | _ => none
def M_less_by : Fn
  | [.tuple [.int a, .int b], .tuple [.int c, .int d]] => (match mulFit a d && (mulFit c b && mulFit b d) with
    | true => lowD (a * d - c * b) (b * d)
    | false => none)
  | _ => none
def M_multiplied : Fn
  | [.tuple [.int a, .int b], .tuple [.int c, .int d]] => (match mulFit a c && mulFit b d with
    | true => lowD (a * c) (b * d)
    | false => none)
  | _ => none
def M_quotient : Fn
  | [.tuple [.int a, .int b], .tuple [.int c, .int d]] => (match mulFit a d && mulFit b c with
    | true => lowD (a * d) (b * c)
    | false => none)
  | _ => none
def M_is_less : Fn
  | [.tuple [.int a, .int b], .tuple [.int c, .int d]] => (match mulFit a d && mulFit c b with
    | true => some (.ok (.bool (ltI (a * d) (c * b))))
    | false => none)
  | _ => none
theorem mul_of {i j : Int} (h : mulFit i j = true) : mulD (.int i) (.int j) = some (.int (i * j)) := by
  unfold mulD
  simp only [h]
theorem ix0 (a b : D) : ixD (.tuple [a, b]) (.int 0) = some a := rfl
theorem ix1 (a b : D) : ixD (.tuple [a, b]) (.int 1) = some b := rfl
theorem low_run (ds : List D) (o : Option (Except Exn D)) (t b : Int) (h : ds = [.int t, .int b]) (e : lowD t b = o) : M_in_lowest ds = o := by
  subst h
  exact e
theorem mir_added (ds : List D) (r : Except Exn D) (h : M_added ds = some r) : guard 2 (runF 2 gAdd) ds = some r := by
  unfold M_added at h
  split at h
  · rename_i a b c d
    cases hc : mulFit a d && (mulFit c b && mulFit b d) with
    | false => rw [hc] at h; cases h
    | true =>
      rw [hc] at h
      obtain ⟨c1, c2⟩ := Bool.and_eq_true_iff.mp hc
      obtain ⟨c2, c3⟩ := Bool.and_eq_true_iff.mp c2
      have h : lowD (a * d + c * b) (b * d) = some r := h
      cases r <;> simp [guard, runF, gAdd, sRet, mCall, mCons, mNil, mOp, mBind, mLift, mVar, mRet, ix0, ix1, mul_of c1, mul_of c2, mul_of c3, addD, M_in_lowest, h]
  · cases h
theorem mir_less_by (ds : List D) (r : Except Exn D) (h : M_less_by ds = some r) : guard 2 (runF 2 gLess) ds = some r := by
  unfold M_less_by at h
  split at h
  · rename_i a b c d
    cases hc : mulFit a d && (mulFit c b && mulFit b d) with
    | false => rw [hc] at h; cases h
    | true =>
      rw [hc] at h
      obtain ⟨c1, c2⟩ := Bool.and_eq_true_iff.mp hc
      obtain ⟨c2, c3⟩ := Bool.and_eq_true_iff.mp c2
      have h : lowD (a * d - c * b) (b * d) = some r := h
      cases r <;> simp [guard, runF, gLess, sRet, mCall, mCons, mNil, mOp, mBind, mLift, mVar, mRet, ix0, ix1, mul_of c1, mul_of c2, mul_of c3, subD, M_in_lowest, h]
  · cases h
theorem mir_multiplied (ds : List D) (r : Except Exn D) (h : M_multiplied ds = some r) : guard 2 (runF 2 gMul) ds = some r := by
  unfold M_multiplied at h
  split at h
  · rename_i a b c d
    cases hc : mulFit a c && mulFit b d with
    | false => rw [hc] at h; cases h
    | true =>
      rw [hc] at h
      obtain ⟨c1, c2⟩ := Bool.and_eq_true_iff.mp hc
      have h : lowD (a * c) (b * d) = some r := h
      cases r <;> simp [guard, runF, gMul, sRet, mCall, mCons, mNil, mOp, mBind, mLift, mVar, mRet, ix0, ix1, mul_of c1, mul_of c2, M_in_lowest, h]
  · cases h
theorem mir_quotient (ds : List D) (r : Except Exn D) (h : M_quotient ds = some r) : guard 2 (runF 2 gQuo) ds = some r := by
  unfold M_quotient at h
  split at h
  · rename_i a b c d
    cases hc : mulFit a d && mulFit b c with
    | false => rw [hc] at h; cases h
    | true =>
      rw [hc] at h
      obtain ⟨c1, c2⟩ := Bool.and_eq_true_iff.mp hc
      have h : lowD (a * d) (b * c) = some r := h
      cases r <;> simp [guard, runF, gQuo, sRet, mCall, mCons, mNil, mOp, mBind, mLift, mVar, mRet, ix0, ix1, mul_of c1, mul_of c2, M_in_lowest, h]
  · cases h
theorem mir_is_less (ds : List D) (r : Except Exn D) (h : M_is_less ds = some r) : guard 2 (runF 2 gLt) ds = some r := by
  unfold M_is_less at h
  split at h
  · rename_i a b c d
    cases hc : mulFit a d && mulFit c b with
    | false => rw [hc] at h; cases h
    | true =>
      rw [hc] at h
      obtain ⟨c1, c2⟩ := Bool.and_eq_true_iff.mp hc
      have h : some (Except.ok (PyData.bool (ltI (a * d) (c * b)))) = some r := h
      rw [← h]
      simp [guard, runF, gLt, sRet, mOp, mBind, mLift, mVar, mRet, ix0, ix1, mul_of c1, mul_of c2, cmpD]
  · cases h
end HB
namespace HB
open PySem L2
mutual
def eqP : D → D → Bool
  | .none, .none => true
  | .bool a, .bool b => a == b
  | .int a, .int b => decide (a = b)
  | .str a, .str b => decide (a = b)
  | .list a, .list b => eqPs a b
  | .tuple a, .tuple b => eqPs a b
  | .dict a, .dict b => eqPk a b
  | _, _ => false
def eqPs : List D → List D → Bool
  | [], [] => true
  | a :: r, b :: s => eqP a b && eqPs r s
  | _, _ => false
def eqPk : List (D × D) → List (D × D) → Bool
  | [], [] => true
  | (a, c) :: r, (b, d) :: s => eqP a b && (eqP c d && eqPk r s)
  | _, _ => false
end
mutual
theorem eqP_ok : ∀ (a b : D), eqP a b = true → a = b
  | .none, b, h => by cases b <;> first | rfl | (simp [eqP] at h)
  | .bool a, b, h => by cases b <;> first | (simp [eqP] at h; rw [h]) | (simp [eqP] at h)
  | .int a, b, h => by cases b <;> first | (simp [eqP] at h; rw [h]) | (simp [eqP] at h)
  | .str a, b, h => by cases b <;> first | (simp [eqP] at h; rw [h]) | (simp [eqP] at h)
  | .list a, b, h => by
    cases b with
    | list b => unfold eqP at h; rw [eqPs_ok a b h]
    | _ => simp [eqP] at h
  | .tuple a, b, h => by
    cases b with
    | tuple b => unfold eqP at h; rw [eqPs_ok a b h]
    | _ => simp [eqP] at h
  | .dict a, b, h => by
    cases b with
    | dict b => unfold eqP at h; rw [eqPk_ok a b h]
    | _ => simp [eqP] at h
theorem eqPs_ok : ∀ (a b : List D), eqPs a b = true → a = b
  | [], b, h => by cases b with
    | nil => rfl
    | cons _ _ => simp [eqPs] at h
  | a :: r, b, h => by cases b with
    | nil => simp [eqPs] at h
    | cons b s =>
      unfold eqPs at h
      obtain ⟨h1, h2⟩ := Bool.and_eq_true_iff.mp h
      rw [eqP_ok a b h1, eqPs_ok r s h2]
theorem eqPk_ok : ∀ (a b : List (D × D)), eqPk a b = true → a = b
  | [], b, h => by cases b with
    | nil => rfl
    | cons _ _ => simp [eqPk] at h
  | (a, c) :: r, b, h => by cases b with
    | nil => simp [eqPk] at h
    | cons b s =>
      obtain ⟨b, d⟩ := b
      unfold eqPk at h
      obtain ⟨h1, h2⟩ := Bool.and_eq_true_iff.mp h
      obtain ⟨h2, h3⟩ := Bool.and_eq_true_iff.mp h2
      rw [eqP_ok a b h1, eqP_ok c d h2, eqPk_ok r s h3]
end
def tabF : List (List D × D) → Fn
  | [], _ => none
  | (a, v) :: t, ds => match eqPs a ds with
    | true => some (.ok v)
    | false => tabF t ds
theorem tab_nil {R : Fn} (ds : List D) (r : Except Exn D) (h : tabF [] ds = some r) : R ds = some r := by cases h
theorem tab_cons {R : Fn} {a : List D} {v : D} {t : List (List D × D)} (h1 : R a = some (.ok v)) (h2 : ∀ ds r, tabF t ds = some r → R ds = some r) (ds : List D) (r : Except Exn D) (h : tabF ((a, v) :: t) ds = some r) : R ds = some r := by
  unfold tabF at h
  cases e : eqPs a ds with
  | false => rw [e] at h; exact h2 ds r h
  | true =>
    rw [e] at h
    rw [← eqPs_ok a ds e, h1]
    exact h
end HB
namespace HB
open PySem L2
theorem J.putX {K : PySem.W.Frag} {G H G' H' : Hp} {ρ : En} {σ : St} (j : J K G ρ σ H) {i : Nat} {s : Sl} {ds es : List D} {a : Addr} {ws : List V} (h : ρ[i]? = some s) (hl : s.ls = some ds) (ha : σ[i]? = some (some (.ref a))) (g : Same G G') (new : ∀ b, G' b ≠ none → G b ≠ none ∨ H b = none) (sb : Same G' H')
    (kept : ∀ b o, b ≠ a → H b = some o → H' b = some o) (dom : ∀ b, H' b = none → H b = none) (ga : G' a = none) (hw : H' a = some (.lst ws)) (r : RpAll K G' ws es) : Ex K G ρ σ H G' (ρ.set i (s.put es)) σ H' := by
  obtain ⟨a', vs, h1, h2, h3, h4⟩ := j.own i s ds h hl
  rw [ha] at h1
  cases h1
  have od : Ownd ρ σ a := ⟨i, s, ds, h, hl, ha⟩
  have np : ∀ d, s.put es ≠ .pur d := fun d => by
    cases s with
    | no => cases hl
    | pur d => cases hl
    | own _ => intro z; cases z
    | box _ => intro z; cases z
  have c : ∀ (m : Nat) (t : Sl) (us : List D), (ρ.set i (s.put es))[m]? = some t → t.ls = some us → ∃ t' us', ρ[m]? = some t' ∧ t'.ls = some us' := fun m t us hm ht => by
    rcases getElem?_set_cases hm with ⟨z1, _⟩ | ⟨_, z⟩
    · subst z1; exact ⟨s, ds, h, hl⟩
    · exact ⟨t, us, z, ht⟩
  refine ⟨⟨sb, by rw [List.length_set]; exact j.len, fun k d q => ?_, fun k t fs q ht => ?_, fun k l t u fs gs b q1 l1 q2 l2 q3 q4 => ?_⟩, g, fun b hb => (new b hb).elim .inl fun z => .inr (.inl z), fun b o q n => kept b o (fun z => by subst z; exact n od) q, fun b hb => ?_, dom, fun k fs q => ?_⟩
  · rcases getElem?_set_cases q with ⟨_, z⟩ | ⟨_, q'⟩
    · exact absurd z.symm (np d)
    · obtain ⟨v, y1, y2⟩ := j.pur k d q'
      exact ⟨v, y1, y2.mono g⟩
  · rcases getElem?_set_cases q with ⟨z1, z⟩ | ⟨z1, q'⟩
    · subst z
      subst z1
      rw [Sl.put_ls hl] at ht
      cases ht
      exact ⟨a, ws, ha, hw, ga, r⟩
    · obtain ⟨b, us, g1, g2, g3, g4⟩ := j.own k t fs q' ht
      have ne : b ≠ a := fun z => by
        subst z
        exact z1 (j.dis k i t s fs ds b q' ht h hl g1 ha)
      refine ⟨b, us, g1, kept b _ ne g2, ?_, g4.mono g⟩
      cases y : G' b with
      | none => rfl
      | some o =>
        rcases new b (by rw [y]; simp) with w | w
        · exact absurd g3 w
        · rw [g2] at w; cases w
  · obtain ⟨t1, u1, c1, c2⟩ := c k t fs q1 l1
    obtain ⟨t2, u2, c3, c4⟩ := c l u gs q2 l2
    exact j.dis k l t1 t2 u1 u2 b c1 c2 c3 c4 q3 q4
  · obtain ⟨k, t, us, q1, l1, q2⟩ := hb
    obtain ⟨t1, u1, c1, c2⟩ := c k t us q1 l1
    exact .inl ⟨k, t1, u1, c1, c2, q2⟩
  · rcases getElem?_set_cases q with ⟨z1, z⟩ | ⟨z1, q'⟩
    · subst z1
      cases s with
      | no => cases hl
      | pur d => cases hl
      | own _ => cases z
      | box es0 => exact ⟨⟨es0, h⟩, rfl⟩
    · exact ⟨⟨fs, q'⟩, rfl⟩
abbrev FnX := List D → List D → Option (Except Exn (List D × D))
def PostBX (K : PySem.W.Frag) (G H : Hp) (a : Addr) (Q : VK) : Option (Except Exn (List D × D)) → Prop
  | some (.ok (es, d)) => ∀ G' v H' ws, Same G G' → (∀ b, G' b ≠ none → G b ≠ none ∨ H b = none) → Same G' H' → (∀ b o, b ≠ a → H b = some o → H' b = some o) → (∀ b, H' b = none → H b = none) → G' a = none → H' a = some (.lst ws) → RpAll K G' ws es → Rp K G' v d → Q v H'
  | _ => False
def spX (K : PySem.W.Frag) (n : Nat) (F : FnX) : Sp := fun vs H Q _ => ∃ a us us' ds ds' G, vs = .ref a :: us' ∧ H a = some (.lst us) ∧ G a = none ∧ Same G H ∧ RpAll K G us ds ∧ RpAll K G us' ds' ∧ ds'.length = n ∧ PostBX K G H a Q (F ds ds')
structure FnXE (P : Program) (w : World) (K : PySem.W.Frag) (mg : Str → Option Value) (base : Heap) (k : Nat) (x : Str) (n : Nat) (F : FnX) : Prop where
  ex : ∃ fd ps, FnOk P w K mg base (L2.CX P w) k (He.ga K x) fd ps (spX K n F) ∧ Binds K fd ps []
  kp : PySem.W.keepIn K (.ref (He.ga K x)) = true
  gl : mg x = some (.ref (He.ga K x))
  ln : ∀ ds ds', F ds ds' ≠ none → ds'.length = n
def atL (ρ : En) (i : Nat) : Option (Sl × List D) := match ρ[i]? with
  | none => none
  | some s => match s.ls with
    | none => none
    | some ds => some (s, ds)
theorem atL_ok {ρ : En} {i : Nat} {s : Sl} {ds : List D} (h : atL ρ i = some (s, ds)) : ρ[i]? = some s ∧ s.ls = some ds := by
  unfold atL at h
  split at h
  · cases h
  · rename_i s' e
    split at h
    · cases h
    · rename_i ds' e'
      cases h
      exact ⟨e, e'⟩
def mCallX (F : FnX) (i : Nat) (f : Mo (List D)) : Mo D := fun ρ => match atL ρ i with
  | none => none
  | some _ => mBind f (fun as ρ1 => match atL ρ1 i with
    | none => none
    | some (s, ds) => match F ds as with
      | some (.ok (es, d)) => some (.ok (ρ1.set i (s.put es), d))
      | _ => none) ρ
section
variable {X : Cx} {E : XK}
theorem ev_callX {k n : Nat} {x y : Str} {F : FnX} {i : Nat} {p p1 pos : Pos} {es : List Expr} {f : Mo (List D)} (hF : FnXE X.prog X.w X.K X.mg X.base k x n F) (hr : Room k X.A) (hx : Passes (L2.CX X.prog X.w) X E)
    (ha : EA X E es f) (hN : X.N[i]? = some y := by rfl) (hv : Vis X.env.scope y := by first | exact Or.inl rfl | exact Or.inr (Or.inl rfl) | exact Or.inr (Or.inr rfl)) (hd : (y == ("__debug__" : Str)) = false := by decide) (hcd : (y == ("__classdict__" : Str)) = false := by decide)
    (hg : Gl X x := by rfl) (hdb : (x == ("__debug__" : Str)) = false := by decide) (he : starEach (.Name y p1 :: es) X.env = (false, eval (.Name y p1) X.env) :: starEach es X.env := by rfl)
    (hpl : (backTo pos (starEach es X.env)).any (·.1) = false := by rfl) : EV X E (.Call (.Name x p) (.Name y p1 :: es) [] pos) (mCallX F i f) := by
  obtain ⟨⟨fd, ps, h1, h2⟩, kp, gl, hl⟩ := hF
  obtain ⟨t, pt, q⟩ := ha
  refine ⟨_, pe_call h1 hr hg gl kp h2 .nil hx (pa_cons (pe_var hN hv hd hcd) pt he) hdb he hpl, fun G ρ σ H Q j h => ?_⟩
  unfold mCallX at h
  cases h0 : atL ρ i with
  | none => rw [h0] at h; exact h.elim
  | some sd =>
    obtain ⟨s0, ds0⟩ := sd
    rw [h0] at h
    obtain ⟨z1, z2⟩ := atL_ok h0
    obtain ⟨a, vs, y1, y2, y3, y4⟩ := j.own i s0 ds0 z1 z2
    refine ⟨.ref a, y1, q G ρ σ H _ j (Post.imp h fun G1 ρ1 us H1 as e1 r1 k => ?_)⟩
    have k' : Post X.K E (Rp X.K) G1 ρ1 σ H1 Q (match atL ρ1 i with
      | none => none
      | some (s, ds) => match F ds as with
        | some (.ok (es, d)) => some (.ok (ρ1.set i (s.put es), d))
        | _ => none) := k
    show spX X.K n F ((.ref a :: us) ++ []) H1 Q E
    rw [List.append_nil]
    cases h3 : atL ρ1 i with
    | none => rw [h3] at k'; exact k'.elim
    | some sd =>
      obtain ⟨s, ds⟩ := sd
      simp only [h3] at k'
      obtain ⟨w1, w2⟩ := atL_ok h3
      obtain ⟨a2, ws, u1, u2, u3, u4⟩ := e1.j.own i s ds w1 w2
      rw [y1] at u1
      cases u1
      match hf : F ds as, k' with
      | none, k' => simp only [hf] at k'; exact k'.elim
      | some (.error _), k' => simp only [hf] at k'; exact k'.elim
      | some (.ok (es2, d)), k' =>
        simp only [hf] at k'
        refine ⟨a, ws, us, ds, as, G1, rfl, u2, u3, e1.j.sub, u4, r1, hl ds as (by rw [hf]; simp), ?_⟩
        rw [hf]
        intro G' v H' ws' b1 b2 b3 b4 b5 b6 b7 b8 b9
        exact k' G' v H' (e1.j.putX w1 w2 y1 b1 b2 b3 b4 b5 b6 b7 b8) b9
/-- xs[e], xs[e] = e2 of such a list -/
def mIxB (i : Nat) (f : Mo D) : Mo D := fun ρ => match atL ρ i with
  | none => none
  | some _ => mBind f (fun k ρ1 => match atL ρ1 i with
    | some (_, ds) => mLift (ixD (.list ds) k) ρ1
    | none => none) ρ
theorem ev_ixB {i : Nat} {x : Str} {e : Expr} {f : Mo D} {p1 pos : Pos} (h : EV X E e f) (hN : X.N[i]? = some x := by rfl) (hv : Vis X.env.scope x := by first | exact Or.inl rfl | exact Or.inr (Or.inl rfl) | exact Or.inr (Or.inr rfl)) (hd : (x == ("__debug__" : Str)) = false := by decide) (hcd : (x == ("__classdict__" : Str)) = false := by decide)
    (hs : PlainIx e := by exact fun _ _ => rfl) : EV X E (.Subscript (.Name x p1) e pos) (mIxB i f) := by
  obtain ⟨t, p, q⟩ := h
  refine ⟨_, pe_ix ix_seq (pe_var hN hv hd hcd) p hs, fun G ρ σ H Q j h => ?_⟩
  unfold mIxB at h
  cases h0 : atL ρ i with
  | none => rw [h0] at h; exact h.elim
  | some sd =>
    obtain ⟨s0, ds0⟩ := sd
    rw [h0] at h
    obtain ⟨z1, z2⟩ := atL_ok h0
    obtain ⟨a, vs, y1, y2, y3, y4⟩ := j.own i s0 ds0 z1 z2
    refine ⟨.ref a, y1, q G ρ σ H _ j (Post.imp h fun G1 ρ1 y H1 k e1 r1 h5 => ?_)⟩
    have k' : Post X.K E (Rp X.K) G1 ρ1 σ H1 Q (match atL ρ1 i with
      | some (_, ds) => mLift (ixD (.list ds) k) ρ1
      | none => none) := h5
    cases h3 : atL ρ1 i with
    | none => rw [h3] at k'; exact k'.elim
    | some sd =>
      obtain ⟨s, ds⟩ := sd
      simp only [h3] at k'
      obtain ⟨w1, w2⟩ := atL_ok h3
      obtain ⟨a2, ws, u1, u2, u3, u4⟩ := e1.j.own i s ds w1 w2
      rw [y1] at u1
      cases u1
      obtain ⟨c, hc, kk⟩ := Post.lift (ρ' := ρ1) k'
      cases r1 with
      | int n =>
        obtain ⟨v, q1, q2⟩ := u4.atI hc
        exact .inl ⟨_, _, _, _, rfl, rfl, .of u2, q1, kk G1 v H1 e1.j.refl q2⟩
      | _ => cases hc
def sPutB (i : Nat) (fi fe : Mo D) : Mo Fl := mBind fe fun d ρ => match atL ρ i with
  | none => none
  | some _ => mBind fi (fun k ρ1 => match atL ρ1 i with
    | none => none
    | some (s, ds) => match intOf k with
      | some n => match ixN ds.length n with
        | some m => some (.ok (ρ1.set i (s.put (ds.set m d)), .nx))
        | none => none
      | none => none) ρ
theorem s_putB {i : Nat} {x : Str} {e ie : Expr} {fi fe : Mo D} {p1 tpos pos : Pos} (h : EV X E e fe) (hi : EV X E ie fi) (hN : X.N[i]? = some x := by rfl) (hv : Vis X.env.scope x := by first | exact Or.inl rfl | exact Or.inr (Or.inl rfl) | exact Or.inr (Or.inr rfl)) (hd : (x == ("__debug__" : Str)) = false := by decide) (hcd : (x == ("__classdict__" : Str)) = false := by decide)
    (hpg : ∀ {to ti : TE} {t : TSet}, PE X (.Name x p1) to → PE X ie ti → PSet X t → PG X (.Subscript (.Name x p1) ie tpos) (gSub to ti t) := by exact fun a b c => pg_sub a b c)
    (hs : swapsWithSole [.Subscript (.Name x p1) ie tpos] e pos.line X.env = pure false := by rfl) (hw : swappedStores [.Subscript (.Name x p1) ie tpos] e X.env = pure none := by rfl)
    (ha : (assignEach [.Subscript (.Name x p1) ie tpos] X.env).map (·.2) = [assign (.Subscript (.Name x p1) ie tpos) X.env] := by rfl) : SV X E (.Assign [.Subscript (.Name x p1) ie tpos] e pos) (sPutB i fi fe) := by
  obtain ⟨t, p, q⟩ := h
  obtain ⟨ti, pi, qi⟩ := hi
  refine ⟨_, ps_asg p (hpg (pe_var hN hv hd hcd) pi set_list) hs hw ha, fun G ρ σ H De j h => q G ρ σ H _ j (PostS.imp h fun G1 ρ1 v H1 d e1 r1 k => ?_)⟩
  have k' : PostS X.K E G1 ρ1 σ H1 De (match atL ρ1 i with
    | none => none
    | some _ => mBind fi (fun k ρ1 => match atL ρ1 i with
      | none => none
      | some (s, ds) => match intOf k with
        | some n => match ixN ds.length n with
          | some m => some (.ok (ρ1.set i (s.put (ds.set m d)), .nx))
          | none => none
        | none => none) ρ1) := k
  cases h0 : atL ρ1 i with
  | none => rw [h0] at k'; exact k'.elim
  | some sd =>
    obtain ⟨s0, ds0⟩ := sd
    rw [h0] at k'
    obtain ⟨z1, z2⟩ := atL_ok h0
    obtain ⟨a, vs, y1, y2, y3, y4⟩ := e1.j.own i s0 ds0 z1 z2
    refine ⟨.ref a, y1, qi G1 ρ1 σ H1 _ e1.j (PostS.imp k' fun G2 ρ2 iv H2 kd e2 r2 k2 => ?_)⟩
    have k2' : PostS X.K E G2 ρ2 σ H2 De (match atL ρ2 i with
      | none => none
      | some (s, ds) => match intOf kd with
        | some n => match ixN ds.length n with
          | some m => some (.ok (ρ2.set i (s.put (ds.set m d)), .nx))
          | none => none
        | none => none) := k2
    cases h3 : atL ρ2 i with
    | none => rw [h3] at k2'; exact k2'.elim
    | some sd =>
      obtain ⟨s, ds⟩ := sd
      simp only [h3] at k2'
      obtain ⟨w1, w2⟩ := atL_ok h3
      obtain ⟨a2, ws, u1, u2, u3, u4⟩ := e2.j.own i s ds w1 w2
      rw [y1] at u1
      cases u1
      cases r2 with
      | int n =>
        simp only [intOf] at k2'
        cases hx : ixN ds.length n with
        | none => simp only [hx] at k2'; exact k2'.elim
        | some m =>
          simp only [hx] at k2'
          exact ⟨a, ws, n, m, rfl, rfl, u2, by rw [u4.length]; exact hx, k2' G2 σ _ (e2.j.putS w1 w2 y1 (RpAll.set (r1.mono e2.g) m u4))⟩
      | _ => exact k2'.elim
end
theorem J.consB {K : PySem.W.Frag} {G H : Hp} {ρ : En} {σ : St} {a : Addr} {us : List V} {ds : List D} (j : J K G ρ σ H) (no : ∀ b, ¬ Ownd ρ σ b) (h1 : H a = some (.lst us)) (h2 : G a = none) (r : RpAll K G us ds) : J K G (.box ds :: ρ) (some (.ref a) :: σ) H := by
  refine ⟨j.sub, congrArg (· + 1) j.len, fun i d h => ?_, fun i s es h hl => ?_, fun i k s t es fs b e1 l1 e2 l2 e3 e4 => ?_⟩
  · cases i with
    | zero => cases h
    | succ i => exact j.pur i d h
  · cases i with
    | zero => cases h; cases hl; exact ⟨a, us, rfl, h1, h2, r⟩
    | succ i => exact j.own i s es h hl
  · cases i with
    | zero => cases k with
      | zero => rfl
      | succ k => exact absurd ⟨k, t, fs, e2, l2, e4⟩ (no b)
    | succ i => exact absurd ⟨i, s, es, e1, l1, e3⟩ (no b)
def box0 : En → Option (List D)
  | .box es :: _ => some es
  | _ => none
theorem box0_ok {ρ : En} {es : List D} (h : box0 ρ = some es) : ρ[0]? = some (.box es) := by
  unfold box0 at h
  split at h
  · cases h; rfl
  · cases h
def runX (n : Nat) (g : Mo Fl) : FnX := fun ds as => match g (.box ds :: (as.map Sl.pur ++ List.replicate (n - as.length) Sl.no)) with
  | some (.ok (ρ', .rt d)) => (match box0 ρ' with
    | some es => some (.ok (es, d))
    | none => none)
  | some (.ok (ρ', .nx)) => (match box0 ρ' with
    | some es => some (.ok (es, .none))
    | none => none)
  | _ => none
def guardX (n : Nat) (F : FnX) : FnX := fun ds as => match Nat.beq as.length n with
  | true => F ds as
  | false => none
theorem bodyX {K : PySem.W.Frag} {E : XK} {N : List Str} {x : Str} {g : Mo Fl} {t : TS} {n : Nat} (q : ∀ G ρ σ H De, J K G ρ σ H → PostS K E G ρ σ H De (g ρ) → t De σ H) {vs : List V} {H : Hp} {Q : VK} (h : spX K n (guardX n (runX N.length g)) vs H Q E) :
    t { nx := fun _ H' => Q .non H', rt := Q } (start (x :: N) vs) H := by
  obtain ⟨a, us, us', ds, as, G, rfl, h1, h2, s, r1, r2, hl, k⟩ := h
  rw [start_cons]
  have e0 : guardX n (runX N.length g) ds as = runX N.length g ds as := by
    unfold guardX
    have e : Nat.beq as.length n = true := by rw [hl]; exact Nat.beq_refl _
    rw [e]
  rw [e0] at k
  have no : ∀ b, ¬ Ownd (as.map Sl.pur ++ List.replicate (N.length - as.length) Sl.no) (start N us') b := fun b => start_no
  have j0 := (start_j (N := N) s r2).consB no h1 h2 r1
  have own1 : ∀ b, Ownd (.box ds :: (as.map Sl.pur ++ List.replicate (N.length - as.length) Sl.no)) (some (.ref a) :: start N us') b → b = a := fun b z => by
    obtain ⟨i, s, es, z1, z2, z3⟩ := z
    cases i with
    | zero => cases z3; rfl
    | succ i => exact absurd ⟨i, s, es, z1, z2, z3⟩ (no b)
  have fin : ∀ (ρ' : En) (es : List D) (d : D) (G' : Hp) (σ' : St) (v : V) (H' : Hp), ρ'[0]? = some (.box es) → Ex K G (.box ds :: (as.map Sl.pur ++ List.replicate (N.length - as.length) Sl.no)) (some (.ref a) :: start N us') H G' ρ' σ' H' → Rp K G' v d → PostBX K G H a Q (some (.ok (es, d))) → Q v H' := by
    intro ρ' es d G' σ' v H' hb z rv kk
    obtain ⟨_, w2⟩ := z.bx 0 es hb
    obtain ⟨a2, ws, u1, u2, u3, u4⟩ := z.j.own 0 _ es hb rfl
    rw [w2] at u1
    cases u1
    refine kk G' v H' ws z.g (fun b hb => ?_) z.j.sub (fun b o hb q => z.kept b o q fun y => hb (own1 b y)) z.dom u3 u2 u4 rv
    rcases z.new b hb with y | y | y
    · exact .inl y
    · exact .inr y
    · have e := own1 b y
      subst e
      exact absurd u3 hb
  refine q G _ _ H _ j0 ?_
  unfold runX at k
  match hg : g (.box ds :: (as.map Sl.pur ++ List.replicate (N.length - as.length) Sl.no)), k with
  | none, k => simp only [hg] at k; exact k.elim
  | some (.error y), k => simp only [hg] at k; exact k.elim
  | some (.ok (ρ', .rt d)), k =>
    simp only [hg] at k
    cases hb : box0 ρ' with
    | none => simp only [hb] at k; exact k.elim
    | some es => simp only [hb] at k; exact fun G' σ' v H' z rv => fin ρ' es d G' σ' v H' (box0_ok hb) z rv k
  | some (.ok (ρ', .nx)), k =>
    simp only [hg] at k
    cases hb : box0 ρ' with
    | none => simp only [hb] at k; exact k.elim
    | some es => simp only [hb] at k; exact fun G' σ' H' z => fin ρ' es .none G' σ' .non H' (box0_ok hb) z .non k
  | some (.ok (ρ', .bk)), k => simp only [hg] at k; exact k.elim
  | some (.ok (ρ', .ct)), k => simp only [hg] at k; exact k.elim
theorem fn_okX {P : Program} {w : World} {K : PySem.W.Frag} {mg : Str → Option Value} {base : Heap} {x y : Str} {st : Stmt} {fd : FuncData} {N ps : List Str} {k : Nat} {g : Mo Fl} (F : FunD K x x (defArgs st) (defBody st) (defScope st) [] [] (He.ga K x) fd) (S : FnScope (y :: N) (y :: ps) (defScope st)) (gl : mg x = some (.ref (He.ga K x)))
    (b : ∀ (kV doc pm : Value) (an : Option Addr) (cdv ct : Value) (us : List Value), us.length = (y :: ps).length → bindArgs (PySem.W.fnOf x x (defArgs st) (defBody st) (defScope st) .none kV doc pm an cdv ct) ⟨us, []⟩ = pure ((y :: ps).zip us))
    (hb : ∀ (cdv : Value) (A : Around) (outer : List PySem.Env) (s : Shared) (H : Hp) (E : XK), Room k (A.deeper (PyProof.Rows.envOfC x (defScope st) s.heap.objs.size (He.ga K x) cdv)) → SVs (cxOf (L2.CX P w) P w K mg base (y :: N) x (defScope st) (He.ga K x) cdv A outer s H E) E (defBody st) g) :
    FnXE P w K mg base (k + 1) x ps.length (guardX ps.length (runX N.length g)) := by
  refine ⟨⟨fd, y :: ps, F.ok S (fun vs H Q E h => ?_) fun cdv A outer s H vs Q E hr h => ?_, F.bindsN b⟩, F.kp, gl, fun ds as h => ?_⟩
  · obtain ⟨a, us, us', ds, as, G, rfl, _, _, _, _, r, hl, _⟩ := h
    show us'.length + 1 = ps.length + 1
    rw [r.length, hl]
  · obtain ⟨t, p, q⟩ := hb cdv A outer s H E hr
    exact ⟨t, p, bodyX q h⟩
  · unfold guardX at h
    cases q : Nat.beq as.length ps.length with
    | true => exact Nat.eq_of_beq_eq_true q
    | false => rw [q] at h; exact absurd rfl h
end HB
namespace HB
open PySem L2
abbrev FnN := List D → Option (Except Exn (List D))
def PostFN (K : PySem.W.Frag) (G H : Hp) (Q : VK) : Option (Except Exn (List D)) → Prop
  | some (.ok ds) => ∀ G' a vs H', PX G H G' H' → H a = none → G' a = none → H' a = some (.lst vs) → RpAll K G' vs ds → Q (.ref a) H'
  | _ => False
def spN (K : PySem.W.Frag) (n : Nat) (F : FnN) : Sp := fun vs H Q _ => ∃ G ds, Same G H ∧ RpAll K G vs ds ∧ ds.length = n ∧ PostFN K G H Q (F ds)
structure FnNE (P : Program) (w : World) (K : PySem.W.Frag) (mg : Str → Option Value) (base : Heap) (k : Nat) (x : Str) (n : Nat) (F : FnN) : Prop where
  ex : ∃ fd ps, FnOk P w K mg base (L2.CX P w) k (He.ga K x) fd ps (spN K n F) ∧ Binds K fd ps []
  kp : PySem.W.keepIn K (.ref (He.ga K x)) = true
  gl : mg x = some (.ref (He.ga K x))
  ln : ∀ ds, F ds ≠ none → ds.length = n
def mCallN (F : FnN) (a : Mo (List D)) : Mo (List D) := mBind a fun ds ρ => match F ds with
  | some (.ok es) => some (.ok (ρ, es))
  | _ => none
section
variable {X : Cx} {E : XK}
theorem en_call {k n : Nat} {x : Str} {F : FnN} {p pos : Pos} {e : Expr} {es : List Expr} {f : Mo (List D)} (hF : FnNE X.prog X.w X.K X.mg X.base k x n F) (hr : Room k X.A) (hx : Passes (L2.CX X.prog X.w) X E)
    (ha : EA X E (e :: es) f) (hg : Gl X x := by rfl) (hdb : (x == ("__debug__" : Str)) = false := by decide) (he : starEach (e :: es) X.env = (false, eval e X.env) :: starEach es X.env := by rfl)
    (hpl : (backTo pos (starEach es X.env)).any (·.1) = false := by rfl) : EN X E (.Call (.Name x p) (e :: es) [] pos) (mCallN F f) := by
  obtain ⟨⟨fd, ps, h1, h2⟩, kp, gl, hl⟩ := hF
  obtain ⟨t, pt, q⟩ := ha
  refine ⟨_, pe_call h1 hr hg gl kp h2 .nil hx pt hdb he hpl, fun G ρ σ H Q j h => ?_⟩
  refine q G ρ σ H _ j (Post.impN h fun G1 ρ1 vs H1 ds e1 r1 h1 => ?_)
  show spN X.K n F (vs ++ []) H1 Q E
  rw [List.append_nil]
  have h1' : PostN X.K E G1 ρ1 σ H1 Q (match F ds with
    | some (.ok es) => some (.ok (ρ1, es))
    | _ => none) := h1
  match hf : F ds, h1' with
  | none, h1' => simp only [hf] at h1'; exact h1'.elim
  | some (.error _), h1' => simp only [hf] at h1'; exact h1'.elim
  | some (.ok es2), h1' =>
    simp only [hf] at h1'
    refine ⟨G1, ds, e1.j.sub, r1, hl ds (by rw [hf]; simp), ?_⟩
    rw [hf]
    intro G' a ws H' px z1 z2 z3 z4
    exact h1' G' (.ref a) H' (e1.j.ex px) ⟨a, ws, rfl, z1, z2, z3, e1.j.nown z1, z4⟩
/-- a body that ends with: return a new list -/
def PostR (K : PySem.W.Frag) (E : XK) (G : Hp) (ρ : En) (σ : St) (H : Hp) (De : Ends) : Option (Except Exn (En × List D)) → Prop
  | some (.ok (ρ', ds)) => ∀ G' σ' a vs H', Ex K G ρ σ H G' ρ' σ' H' → H a = none → G' a = none → H' a = some (.lst vs) → RpAll K G' vs ds → De.rt (.ref a) H'
  | _ => False
def SVN (X : Cx) (E : XK) (s : List Stmt) (g : Mo (List D)) : Prop := ∃ t, PSs X s t ∧ ∀ G ρ σ H De, J X.K G ρ σ H → PostR X.K E G ρ σ H De (g ρ) → t De σ H
def rRet (f : Mo (List D)) : Mo (List D) := fun ρ => match f ρ with
  | some (.ok r) => some (.ok r)
  | _ => none
theorem svn_ret {e : Expr} {f : Mo (List D)} {pos : Pos} (h : EN X E e f) : SVN X E [.Return (some e) pos] (rRet f) := by
  obtain ⟨t, p, q⟩ := h
  refine ⟨_, pss_one (ps_ret p), fun G ρ σ H De j h => q G ρ σ H _ j ?_⟩
  unfold rRet at h
  match hf : f ρ, h with
  | none, h => exact h.elim
  | some (.error _), h => exact h.elim
  | some (.ok (ρ', ds)), h =>
    intro G' v H' e r
    obtain ⟨a, vs, rfl, z1, z2, z3, no, z4⟩ := r
    exact h G' σ a vs H' e z1 z2 z3 z4
def rSeq (a : Mo Fl) (g : Mo (List D)) : Mo (List D) := fun ρ => match a ρ with
  | some (.ok (ρ1, .nx)) => g ρ1
  | _ => none
theorem svn_cons {s : Stmt} {rest : List Stmt} {a : Mo Fl} {g : Mo (List D)} (h1 : SV X E s a) (h2 : SVN X E rest g) : SVN X E (s :: rest) (rSeq a g) := by
  obtain ⟨t, p, q⟩ := h1
  obtain ⟨t2, p2, q2⟩ := h2
  refine ⟨_, pss_cons p p2, fun G ρ σ H De j h => q G ρ σ H _ j ?_⟩
  unfold rSeq at h
  match ha : a ρ, h with
  | none, h => exact h.elim
  | some (.error _), h => exact h.elim
  | some (.ok (ρ1, .nx)), h =>
    intro G1 σ1 H1 e1
    refine q2 G1 ρ1 σ1 H1 De e1.j ?_
    match hg : g ρ1, h with
    | none, h => simp only [hg] at h; exact h.elim
    | some (.error _), h => simp only [hg] at h; exact h.elim
    | some (.ok (ρ2, ds)), h =>
      simp only [hg] at h
      exact fun G' σ' a vs H' e2 z1 z2 z3 z4 => h G' σ' a vs H' (e1.trans e2) (e1.dom a z1) z2 z3 z4
  | some (.ok (ρ1, .rt _)), h => exact h.elim
  | some (.ok (ρ1, .bk)), h => exact h.elim
  | some (.ok (ρ1, .ct)), h => exact h.elim
end
def runN (n : Nat) (g : Mo (List D)) : FnN := fun ds => match g (ds.map Sl.pur ++ List.replicate (n - ds.length) Sl.no) with
  | some (.ok (_, es)) => some (.ok es)
  | _ => none
def guardN (n : Nat) (F : FnN) : FnN := fun ds => match Nat.beq ds.length n with
  | true => F ds
  | false => none
theorem fn_okN {P : Program} {w : World} {K : PySem.W.Frag} {mg : Str → Option Value} {base : Heap} {x : Str} {st : Stmt} {fd : FuncData} {N ps : List Str} {k : Nat} {g : Mo (List D)} (F : FunD K x x (defArgs st) (defBody st) (defScope st) [] [] (He.ga K x) fd) (S : FnScope N ps (defScope st)) (gl : mg x = some (.ref (He.ga K x)))
    (b : ∀ (kV doc pm : Value) (an : Option Addr) (cdv ct : Value) (us : List Value), us.length = ps.length → bindArgs (PySem.W.fnOf x x (defArgs st) (defBody st) (defScope st) .none kV doc pm an cdv ct) ⟨us, []⟩ = pure (ps.zip us))
    (hb : ∀ (cdv : Value) (A : Around) (outer : List PySem.Env) (s : Shared) (H : Hp) (E : XK), Room k (A.deeper (PyProof.Rows.envOfC x (defScope st) s.heap.objs.size (He.ga K x) cdv)) → SVN (cxOf (L2.CX P w) P w K mg base N x (defScope st) (He.ga K x) cdv A outer s H E) E (defBody st) g) :
    FnNE P w K mg base (k + 1) x ps.length (guardN ps.length (runN N.length g)) := by
  refine ⟨⟨fd, ps, F.ok S (fun vs H Q E h => ?_) fun cdv A outer s H vs Q E hr h => ?_, F.bindsN b⟩, F.kp, gl, fun ds h => ?_⟩
  · obtain ⟨G, ds, _, r, hl, _⟩ := h
    rw [r.length, hl]
  · obtain ⟨t, p, q⟩ := hb cdv A outer s H E hr
    refine ⟨t, p, ?_⟩
    obtain ⟨G, ds, sb, r, hl, k⟩ := h
    have e0 : guardN ps.length (runN N.length g) ds = runN N.length g ds := by
      unfold guardN
      have e : Nat.beq ds.length ps.length = true := by rw [hl]; exact Nat.beq_refl _
      rw [e]
    rw [e0] at k
    refine q G _ _ H _ (start_j sb r) ?_
    have no : ∀ b, ¬ Ownd (ds.map Sl.pur ++ List.replicate (N.length - ds.length) Sl.no) (start N vs) b := fun b => start_no
    unfold runN at k
    match hg : g (ds.map Sl.pur ++ List.replicate (N.length - ds.length) Sl.no), k with
    | none, k => simp only [hg] at k; exact k.elim
    | some (.error _), k => simp only [hg] at k; exact k.elim
    | some (.ok (ρ', es)), k =>
      simp only [hg] at k
      exact fun G' σ' a ws H' z z1 z2 z3 z4 => k G' a ws H' (z.px no) z1 z2 z3 z4
  · unfold guardN at h
    cases q : Nat.beq ds.length ps.length with
    | true => exact Nat.eq_of_beq_eq_true q
    | false => rw [q] at h; exact absurd rfl h
end HB
namespace HB
open PySem L2
theorem FnXE.by {P : Program} {w : World} {K : PySem.W.Frag} {mg : Str → Option Value} {base : Heap} {k n : Nat} {x : Str} {F F' : FnX} (h : FnXE P w K mg base k x n F) (e : ∀ ds as r, F' ds as = some r → F ds as = some r) : FnXE P w K mg base k x n F' := by
  obtain ⟨⟨fd, ps, h1, h2⟩, kp, gl, hl⟩ := h
  refine ⟨⟨fd, ps, h1.imp fun vs H Q E q => ?_, h2⟩, kp, gl, fun ds as q => ?_⟩
  · obtain ⟨a, us, us', ds, as, G, z1, z2, z3, z4, z5, z6, z7, z8⟩ := q
    refine ⟨a, us, us', ds, as, G, z1, z2, z3, z4, z5, z6, z7, ?_⟩
    cases e1 : F' ds as with
    | none => rw [e1] at z8; exact z8.elim
    | some o => rw [e ds as o e1]; rw [e1] at z8; exact z8
  · cases e1 : F' ds as with
    | none => exact absurd e1 q
    | some o => exact hl ds as (by rw [e ds as o e1]; simp)
def gTake : Mo Fl := sSeq (sIf (mTest (mOp (cmpD gtI) (mIxB 0 (mRet (.int 0))) (mRet (.int 0)))) (sSeq (sSet 4 (mOp modD (mBuilt intD (mCons (mIxB 0 (mRet (.int 0))) (mNil))) (mVar 1)))
  (sSeq (sPutB 0 (mRet (.int 0)) (mOp fdivD (mIxB 0 (mRet (.int 0))) (mVar 1)))
  (sRet (mVar 4)))) (sNext))
  (sSeq (sPutB 0 (mRet (.int 2)) (mOp addD (mIxB 0 (mRet (.int 2))) (mRet (.int 1))))
  (sSeq (sSet 2 (mOp modD (mBuilt intD (mCons (mOp mulD (mOp addD (mIxB 0 (mRet (.int 1))) (mOp mulD (mRet (.int 104729)) (mIxB 0 (mRet (.int 2))))) (mRet (.int 69623))) (mNil))) (mRet (.int 2147483647))))
  (sSeq (sPutB 0 (mRet (.int 1)) (mOp addD (mOp modD (mBuilt intD (mCons (mOp addD (mOp mulD (mVar 2) (mRet (.int 48271))) (mRet (.int 30103))) (mNil))) (mRet (.int 2147483629))) (mRet (.int 1))))
  (sSeq (sIf (mTest (mOp (cmpD ltI) (mVar 1) (mOp powD (mRet (.int 2)) (mRet (.int 40))))) (sRet (mOp modD (mBuilt intD (mCons (mOp fdivD (mOp addD (mOp mulD (mVar 2) (mRet (.int 2147483647))) (mIxB 0 (mRet (.int 1)))) (mRet (.int 8191))) (mNil))) (mVar 1))) (sNext))
  (sSeq (sSet 3 (mOp mulD (mOp addD (mOp mulD (mVar 2) (mRet (.int 2147483647))) (mIxB 0 (mRet (.int 1)))) (mOp powD (mRet (.int 2147483629)) (mRet (.int 3)))))
  (sRet (mOp modD (mBuilt intD (mCons (mOp addD (mOp addD (mVar 3) (mOp mulD (mOp powD (mIxB 0 (mRet (.int 1))) (mRet (.int 3))) (mRet (.int 8191)))) (mVar 2)) (mNil))) (mVar 1))))))))
def rawV (s c : Int) : Int := ((s + 104729 * (c + 1)) * 69623) % 2147483647
def nextV (r : Int) : Int := (r * 48271 + 30103) % 2147483629 + 1
def takeOk (s c : Int) : Bool := mulFit 104729 (c + 1) && (mulFit (s + 104729 * (c + 1)) 69623 && (mulFit (rawV s c) 48271 && mulFit (rawV s c) 2147483647))
def M_law_take : FnX
  | [.int x, .int s, .int c], [.int n] => (match decide (0 < n) && Nat.blt n.natAbs.log2 9000 with
    | false => none
    | true => match gtI x 0 with
      | true => some (.ok ([.int (x / n), .int s, .int c], .int (x % n)))
      | false => match ltI n 1099511627776 && takeOk s c with
        | true => some (.ok ([.int x, .int (nextV (rawV s c)), .int (c + 1)], .int ((rawV s c * 2147483647 + nextV (rawV s c)) / 8191 % n)))
        | false => none)
  | _, _ => none
theorem fdiv_of {i j : Int} (h1 : 0 < j) (h2 : Nat.blt j.natAbs.log2 9000 = true) : fdivD (.int i) (.int j) = some (.int (i / j)) := by
  unfold fdivD
  simp only
  rw [if_pos ⟨h1, Nat.le_of_ble_eq_true h2⟩]
theorem mod_of {i j : Int} (h1 : 0 < j) : modD (.int i) (.int j) = some (.int (i % j)) := by
  unfold modD
  simp only
  rw [if_pos h1]
theorem mir_law_take (ds as : List D) (r : Except Exn (List D × D)) (h : M_law_take ds as = some r) : guardX 1 (runX 4 gTake) ds as = some r := by
  unfold M_law_take at h
  split at h
  · rename_i x s c n
    cases hc : decide (0 < n) && Nat.blt n.natAbs.log2 9000 with
    | false => rw [hc] at h; cases h
    | true =>
      rw [hc] at h
      obtain ⟨c1, c2⟩ := Bool.and_eq_true_iff.mp hc
      have hn : 0 < n := of_decide_eq_true c1
      have fd : ∀ i, fdivD (.int i) (.int n) = some (.int (i / n)) := fun i => fdiv_of hn c2
      have md : ∀ i, modD (.int i) (.int n) = some (.int (i % n)) := fun i => mod_of hn
      have md1 : ∀ i, modD (.int i) (.int 2147483647) = some (.int (i % 2147483647)) := fun i => mod_of (by decide)
      have md2 : ∀ i, modD (.int i) (.int 2147483629) = some (.int (i % 2147483629)) := fun i => mod_of (by decide)
      have fd8 : ∀ i, fdivD (.int i) (.int 8191) = some (.int (i / 8191)) := fun i => fdiv_of (by decide) (by decide)
      have pw : powD (.int 2) (.int 40) = some (.int 1099511627776) := rfl
      have i0 : ∀ a b c : D, ixD (.list [a, b, c]) (.int 0) = some a := fun _ _ _ => rfl
      have i1 : ∀ a b c : D, ixD (.list [a, b, c]) (.int 1) = some b := fun _ _ _ => rfl
      have i2 : ∀ a b c : D, ixD (.list [a, b, c]) (.int 2) = some c := fun _ _ _ => rfl
      have n0 : ixN 3 0 = some 0 := rfl
      have n1 : ixN 3 1 = some 1 := rfl
      have n2 : ixN 3 2 = some 2 := rfl
      cases hx : gtI x 0 with
      | true =>
        simp only [hx] at h
        rw [← h]
        simp [guardX, runX, gTake, sSeq, sIf, sSet, setSl, sRet, sNext, sPutB, mIxB, atL, Sl.ls, Sl.put, intOf, mTest, mOp, mBuilt, intD, mCons, mNil, mBind, mLift, mVar, mRet, cmpD, boolD, hx, i0, n0, fd, md, box0]
      | false =>
        simp only [hx] at h
        cases ht : ltI n 1099511627776 && takeOk s c with
        | false => rw [ht] at h; cases h
        | true =>
          rw [ht] at h
          obtain ⟨t1, t2⟩ := Bool.and_eq_true_iff.mp ht
          unfold takeOk at t2
          obtain ⟨m1, t2⟩ := Bool.and_eq_true_iff.mp t2
          obtain ⟨m2, t2⟩ := Bool.and_eq_true_iff.mp t2
          obtain ⟨m3, m4⟩ := Bool.and_eq_true_iff.mp t2
          have h : some (Except.ok ([PyData.int x, PyData.int (nextV (rawV s c)), PyData.int (c + 1)], PyData.int ((rawV s c * 2147483647 + nextV (rawV s c)) / 8191 % n))) = some r := h
          rw [← h]
          unfold rawV at m3 m4
          simp [guardX, runX, gTake, sSeq, sIf, sSet, setSl, sRet, sNext, sPutB, mIxB, atL, Sl.ls, Sl.put, intOf, mTest, mOp, mBuilt, intD, mCons, mNil, mBind, mLift, mVar, mRet, cmpD, boolD, hx, i0, i1, i2, n0, n1, n2, fd, md, md1, md2, fd8, pw, addD, mul_of m1, mul_of m2, mul_of m3, mul_of m4, t1, box0, rawV, nextV]
  · cases h
end HB
namespace HB
open PySem L2
theorem log_small {n : Nat} (h : n < 2 ^ 200) : n.log2 < 200 := by
  by_cases e : n = 0
  · subst e; decide
  · exact (Nat.log2_lt e).mpr h
theorem fit_of {i j : Int} (hi : i.natAbs < 2 ^ 200) (hj : j.natAbs < 2 ^ 200) : mulFit i j = true := by
  unfold mulFit
  have h1 := log_small hi
  have h2 := log_small hj
  exact Nat.ble_eq_true_of_le (by omega)
def gBox3 : Mo (List D) := rSeq (sSet 4 (mOp addD (mOp modD (mBuilt intD (mCons (mOp addD (mOp mulD (mOp modD (mBuilt intD (mCons (mVar 3) (mNil))) (mRet (.int 2147483629))) (mRet (.int 48271))) (mOp mulD (mRet (.int 40692)) (mOp addD (mVar 1) (mOp mulD (mRet (.int 11)) (mVar 2))))) (mNil))) (mRet (.int 2147483629))) (mRet (.int 1))))
  (rRet (mSized (mCons (mOp ixD (mList (mSized (mCons (mRet (.int 0)) (mCons (mVar 3) (mNil))))) (mBuilt intD (mCons (mOp (cmpD geI) (mVar 3) (mOp powD (mRet (.int 10)) (mRet (.int 18)))) (mNil)))) (mCons (mVar 4) (mCons (mRet (.int 0)) (mNil))))))
def gBox : Mo (List D) := rSeq (sSet 3 (mOp addD (mOp addD (mOp mulD (mRet (.int 7727)) (mVar 1)) (mOp mulD (mRet (.int 104729)) (mVar 2))) (mRet (.int 43))))
  (rSeq (sIf (mTest (mOp (cmpD ltI) (mVar 1) (mBuilt lenD (mCons (mVar 0) (mNil))))) (sSet 3 (mBuilt absD (mCons (mOp ixD (mVar 0) (mVar 1)) (mNil)))) (sIf (mTest (mOp (cmpD gtI) (mBuilt lenD (mCons (mVar 0) (mNil))) (mRet (.int 0)))) (sSet 3 (mOp addD (mVar 3) (mOp mulD (mOp modD (mBuilt intD (mCons (mBuilt absD (mCons (mOp ixD (mVar 0) (mOp modD (mBuilt intD (mCons (mVar 1) (mNil))) (mBuilt lenD (mCons (mVar 0) (mNil))))) (mNil))) (mNil))) (mRet (.int 2147483629))) (mRet (.int 69623))))) (sNext)))
  gBox3)
/-- the cell that a box begins with -/
def cellV (ns : List Int) (k o : Int) : Int := if k < ns.length then ((ns.getD k.toNat 0).natAbs : Int) else if 0 < (ns.length : Int) then 7727 * k + 104729 * o + 43 + ((ns.getD (k % ns.length).toNat 0).natAbs : Int) % 2147483629 * 69623 else 7727 * k + 104729 * o + 43
def seedV (cell k o : Int) : Int := (cell % 2147483629 * 48271 + 40692 * (k + 11 * o)) % 2147483629 + 1
theorem scr_len (ns : List Int) : lenD [scr ns] = some (.int ns.length) := by
  simp [scr, lenD]
theorem scr_ix (ns : List Int) (k : Int) (h0 : 0 ≤ k) (h1 : k < ns.length) : ixD (scr ns) (.int k) = some (.int (ns.getD k.toNat 0)) := by
  have hk : k.toNat < ns.length := by have := h0; have := h1; omega
  have e : L2.atI (ns.map PyData.int) k = some (.int (ns.getD k.toNat 0)) := by
    have e1 : ixN (ns.map PyData.int).length k = some k.toNat := by
      unfold ixN
      rw [if_pos h0, List.length_map, if_pos h1]
    unfold L2.atI
    rw [e1]
    simp [hk, List.getD_eq_getElem?_getD]
  exact e
theorem box3 (d : D) (k o cell : Int) (hk : 0 ≤ k) (hk2 : k < 1000000) (ho : 0 ≤ o) (ho2 : o < 1000000) : ∃ ρ, gBox3 [.pur d, .pur (.int k), .pur (.int o), .pur (.int cell), .no] = some (.ok (ρ, [.int (if 1000000000000000000 ≤ cell then cell else 0), .int (seedV cell k o), .int 0])) := by
  have f3 : mulFit 11 o = true := fit_of (by decide) (by omega)
  have f4 : mulFit 40692 (k + 11 * o) = true := fit_of (by decide) (by omega)
  have f5 : mulFit (cell % 2147483629) 48271 = true := fit_of (by omega) (by decide)
  have md2 : ∀ i, modD (.int i) (.int 2147483629) = some (.int (i % 2147483629)) := fun i => mod_of (by decide)
  have pw : powD (.int 10) (.int 18) = some (.int 1000000000000000000) := rfl
  have j0 : ∀ a b : D, ixD (.list [a, b]) (.int 0) = some a := fun _ _ => rfl
  have j1 : ∀ a b : D, ixD (.list [a, b]) (.int 1) = some b := fun _ _ => rfl
  by_cases h2 : 1000000000000000000 ≤ cell
  · have c2 : geI cell 1000000000000000000 = true := decide_eq_true h2
    rw [if_pos h2]
    exact ⟨_, by simp [gBox3, rSeq, rRet, sSet, setSl, mOp, mBuilt, mSized, sizeOk, mList, intD, mCons, mNil, mBind, mLift, mVar, mRet, cmpD, c2, addD, mul_of f3, mul_of f4, mul_of f5, md2, pw, j0, j1, seedV]; rfl⟩
  · have c2 : geI cell 1000000000000000000 = false := decide_eq_false h2
    rw [if_neg h2]
    exact ⟨_, by simp [gBox3, rSeq, rRet, sSet, setSl, mOp, mBuilt, mSized, sizeOk, mList, intD, mCons, mNil, mBind, mLift, mVar, mRet, cmpD, c2, addD, mul_of f3, mul_of f4, mul_of f5, md2, pw, j0, j1, seedV]; rfl⟩
theorem gBox_cell (ns : List Int) (k o : Int) (hk : 0 ≤ k) (hk2 : k < 1000000) (ho : 0 ≤ o) (ho2 : o < 1000000) : ∃ cell : Int, 0 ≤ cell ∧ gBox [.pur (scr ns), .pur (.int k), .pur (.int o), .no, .no] = gBox3 [.pur (scr ns), .pur (.int k), .pur (.int o), .pur (.int cell), .no] := by
  have f1 : mulFit 7727 k = true := fit_of (by decide) (by omega)
  have f2 : mulFit 104729 o = true := fit_of (by decide) (by omega)
  have md2 : ∀ i, modD (.int i) (.int 2147483629) = some (.int (i % 2147483629)) := fun i => mod_of (by decide)
  by_cases h1 : k < ns.length
  · have c1 : ltI k ns.length = true := decide_eq_true h1
    have hx := scr_ix ns k hk h1
    generalize ns.getD k.toNat 0 = v at hx
    refine ⟨(v.natAbs : Int), by omega, ?_⟩
    simp [gBox, rSeq, sIf, sSet, setSl, mTest, mOp, mBuilt, intD, absD, mCons, mNil, mBind, mLift, mVar, mRet, cmpD, boolD, scr_len, hx, c1, addD, mul_of f1, mul_of f2, absI]
  · have c1 : ltI k ns.length = false := decide_eq_false h1
    by_cases h2 : (0 : Int) < ns.length
    · have c2 : gtI ns.length 0 = true := decide_eq_true h2
      have hm := mod_of (i := k) (j := ns.length) h2
      have hx := scr_ix ns (k % ns.length) (Int.emod_nonneg _ (by omega)) (Int.emod_lt_of_pos _ h2)
      generalize ns.getD (k % ns.length).toNat 0 = v at hx
      have f6 : mulFit ((v.natAbs : Int) % 2147483629) 69623 = true := fit_of (by omega) (by decide)
      refine ⟨7727 * k + 104729 * o + 43 + (v.natAbs : Int) % 2147483629 * 69623, by omega, ?_⟩
      simp [gBox, rSeq, sIf, sSet, setSl, mTest, mOp, mBuilt, intD, absD, mCons, mNil, mBind, mLift, mVar, mRet, cmpD, boolD, scr_len, hx, hm, c1, c2, addD, mul_of f1, mul_of f2, mul_of f6, md2, absI]
    · have c2 : gtI ns.length 0 = false := decide_eq_false h2
      refine ⟨7727 * k + 104729 * o + 43, by omega, ?_⟩
      simp [gBox, rSeq, sIf, sSet, setSl, sNext, mTest, mOp, mBuilt, intD, absD, mCons, mNil, mBind, mLift, mVar, mRet, cmpD, boolD, scr_len, c1, c2, addD, mul_of f1, mul_of f2]
theorem box_run (ns : List Int) (k o : Int) (hk : 0 ≤ k) (hk2 : k < 1000000) (ho : 0 ≤ o) (ho2 : o < 1000000) : ∃ x s : Int, guardN 3 (runN 5 gBox) [scr ns, .int k, .int o] = some (.ok [.int x, .int s, .int 0]) ∧ 0 ≤ x ∧ 0 < s ∧ s ≤ 2147483629 := by
  obtain ⟨cell, h0, h1⟩ := gBox_cell ns k o hk hk2 ho ho2
  obtain ⟨ρ, h2⟩ := box3 (scr ns) k o cell hk hk2 ho ho2
  refine ⟨if 1000000000000000000 ≤ cell then cell else 0, seedV cell k o, ?_, ?_, ?_, ?_⟩
  · show (match gBox [.pur (scr ns), .pur (.int k), .pur (.int o), .no, .no] with
      | some (.ok (_, es)) => some (.ok es)
      | _ => none : Option (Except Exn (List D))) = _
    rw [h1, h2]
  · split <;> omega
  · unfold seedV
    omega
  · unfold seedV
    omega
end HB
namespace HB
open PySem L2
def Bx (b : List D) (m : Int) : Prop := ∃ x s c : Int, b = [.int x, .int s, .int c] ∧ 0 ≤ x ∧ 0 < s ∧ s ≤ 2147483629 ∧ 0 ≤ c ∧ c ≤ m
theorem Bx.mono {b : List D} {m m' : Int} (h : Bx b m) (e : m ≤ m') : Bx b m' := by
  obtain ⟨x, s, c, h1, h2, h3, h4, h5, h6⟩ := h
  exact ⟨x, s, c, h1, h2, h3, h4, h5, by omega⟩
theorem box_bx (ns : List Int) (k o : Int) (hk : 0 ≤ k) (hk2 : k < 1000000) (ho : 0 ≤ o) (ho2 : o < 1000000) : ∃ b, guardN 3 (runN 5 gBox) [scr ns, .int k, .int o] = some (.ok b) ∧ Bx b 0 := by
  obtain ⟨x, s, h1, h2, h3, h4⟩ := box_run ns k o hk hk2 ho ho2
  exact ⟨_, h1, x, s, 0, rfl, h2, h3, h4, by omega, by omega⟩
theorem take_run {b : List D} {m n : Int} (hb : Bx b m) (hm : m < 1000000000000) (h0 : 0 < n) (hn : n < 1099511627776) : ∃ b' r, M_law_take b [.int n] = some (.ok (b', .int r)) ∧ Bx b' (m + 1) ∧ 0 ≤ r ∧ r < n := by
  obtain ⟨x, s, c, rfl, h2, h3, h4, h5, h6⟩ := hb
  have hl : Nat.blt n.natAbs.log2 9000 = true := by
    have : n.natAbs.log2 < 200 := log_small (by omega)
    exact Nat.ble_eq_true_of_le (by omega)
  have hg : (decide (0 < n) && Nat.blt n.natAbs.log2 9000) = true := by rw [hl, decide_eq_true h0]; rfl
  unfold M_law_take
  simp only [hg]
  cases hx : gtI x 0 with
  | true => exact ⟨_, _, rfl, ⟨x / n, s, c, rfl, Int.ediv_nonneg h2 (by omega), h3, h4, h5, by omega⟩, Int.emod_nonneg _ (by omega), Int.emod_lt_of_pos _ h0⟩
  | false =>
    have ht : (ltI n 1099511627776 && takeOk s c) = true := by
      have e1 : ltI n 1099511627776 = true := decide_eq_true hn
      have e2 : takeOk s c = true := by
        unfold takeOk
        rw [fit_of (i := 104729) (j := c + 1) (by decide) (by omega), fit_of (i := s + 104729 * (c + 1)) (j := 69623) (by omega) (by decide), fit_of (i := rawV s c) (j := 48271) (by unfold rawV; omega) (by decide), fit_of (i := rawV s c) (j := 2147483647) (by unfold rawV; omega) (by decide)]
        rfl
      rw [e1, e2]
      rfl
    simp only [ht]
    exact ⟨_, _, rfl, ⟨x, nextV (rawV s c), c + 1, rfl, h2, by unfold nextV; omega, by unfold nextV; omega, by omega, by omega⟩, Int.emod_nonneg _ (by omega), Int.emod_lt_of_pos _ h0⟩
def gPick : Mo Fl := sRet (mOp ixD (mVar 1) (mCallX M_law_take 0 (mCons (mBuilt lenD (mCons (mVar 1) (mNil))) (mNil))))
theorem pick_run {b : List D} {m : Int} {items : List D} (hb : Bx b m) (hm : m < 1000000000000) (h0 : 0 < items.length) (hn : items.length < 1000000) : ∃ b' d, guardX 1 (runX 1 gPick) b [.list items] = some (.ok (b', d)) ∧ Bx b' (m + 1) ∧ d ∈ items := by
  obtain ⟨b', r, h1, h2, h3, h4⟩ := take_run (n := items.length) hb hm (by omega) (by omega)
  have hr : r.toNat < items.length := by omega
  have e : ixD (.list items) (.int r) = some items[r.toNat] := by
    have e1 : ixN items.length r = some r.toNat := by
      unfold ixN
      rw [if_pos h3, if_pos h4]
    have e2 : L2.atI items r = some items[r.toNat] := by
      unfold L2.atI
      rw [e1]
      simp [hr]
    exact e2
  refine ⟨b', items[r.toNat], ?_, h2, List.getElem_mem hr⟩
  simp [guardX, runX, gPick, sRet, mOp, mBind, mLift, mVar, mCallX, atL, Sl.ls, Sl.put, mCons, mNil, mBuilt, lenD, mRet, h1, e, box0]
end HB
namespace HB
open PySem L2
theorem seq_nx {a b : Mo Fl} {ρ ρ1 : En} (h : a ρ = some (.ok (ρ1, .nx))) : sSeq a b ρ = b ρ1 := by
  unfold sSeq mBind
  rw [h]
theorem own_box {i : Nat} {F : FnN} {args : Mo (List D)} {ρ : En} {as b : List D} (ha : args ρ = some (.ok (ρ, as))) (hF : F as = some (.ok b)) : sOwn i (mCallN F args) ρ = some (.ok (ρ.set i (.own b), .nx)) := by
  unfold sOwn mCallN mBind
  rw [ha]
  simp only [hF]
  rfl
theorem callX_ok {F : FnX} {i : Nat} {f : Mo (List D)} {ρ ρ1 : En} {s0 s : Sl} {ds0 ds as es : List D} {d : D} (h0 : atL ρ i = some (s0, ds0)) (hf : f ρ = some (.ok (ρ1, as))) (h1 : atL ρ1 i = some (s, ds)) (hF : F ds as = some (.ok (es, d))) : mCallX F i f ρ = some (.ok (ρ1.set i (s.put es), d)) := by
  unfold mCallX mBind
  simp only [h0, hf, h1, hF]
theorem cons_ok {a : Mo D} {r : Mo (List D)} {ρ ρ1 ρ2 : En} {x : D} {xs : List D} (h1 : a ρ = some (.ok (ρ1, x))) (h2 : r ρ1 = some (.ok (ρ2, xs))) : mCons a r ρ = some (.ok (ρ2, x :: xs)) := by
  unfold mCons mBind
  simp only [h1, h2, mRet]
theorem tup_ok {f : Mo (List D)} {ρ ρ1 : En} {ds : List D} (h : f ρ = some (.ok (ρ1, ds))) (hs : sizeOk ds = true) : mTup f ρ = some (.ok (ρ1, .tuple ds)) := by
  unfold mTup mBind
  simp only [h, mLift, hs, if_true]
theorem asg_ok {g : D → En → Option En} {f : Mo D} {ρ ρ1 ρ2 : En} {d : D} (h : f ρ = some (.ok (ρ1, d))) (hg : g d ρ1 = some ρ2) : sAsg g f ρ = some (.ok (ρ2, .nx)) := by
  unfold sAsg mBind
  simp only [h, hg]
end HB
namespace HB
open PySem L2
section
variable {X : Cx} {E : XK}
def fnD (x : Str) : D := .dict [(.none, .str x)]
theorem ev_fn {x : Str} {pos : Pos} (gl : X.mg x = some (.ref (He.ga X.K x))) (hg : Gl X x := by rfl) (hd : (x == ("__debug__" : Str)) = false := by decide) : EV X E (.Name x pos) (mRet (fnD x)) :=
  ⟨_, pe_glob (v := .ref (He.ga X.K x)) hg gl rfl hd, fun G ρ σ H Q j h => h G _ H j.refl (.fn x)⟩
def lookF (x : Str) : List (Str × Nat × Fn) → Option (Nat × Fn)
  | [] => none
  | (y, F) :: r => if y = x then some F else lookF x r
def mCallV (i : Nat) (tab : List (Str × Nat × Fn)) (a : Mo (List D)) : Mo D := fun ρ => match ρ[i]? with
  | some (.pur (.dict [(.none, .str x)])) => (match lookF x tab with
    | some F => mCall F.2 a ρ
    | none => none)
  | _ => none
def TabE (P : Program) (w : World) (K : PySem.W.Frag) (mg : Str → Option Value) (base : Heap) (k : Nat) (tab : List (Str × Nat × Fn)) : Prop := ∀ x n F, lookF x tab = some (n, F) → ∃ j ps, j ≤ k ∧ ps.length = n ∧ FnE P w K mg base j x ps F
theorem tabE_nil {P : Program} {w : World} {K : PySem.W.Frag} {mg : Str → Option Value} {base : Heap} {k : Nat} : TabE P w K mg base k [] := fun x n F h => by cases h
theorem tabE_cons {P : Program} {w : World} {K : PySem.W.Frag} {mg : Str → Option Value} {base : Heap} {k j n : Nat} {x : Str} {ps : List Str} {F : Fn} {tab : List (Str × Nat × Fn)} (h : FnE P w K mg base j x ps F) (t : TabE P w K mg base k tab) (hj : j ≤ k := by decide) (hn : ps.length = n := by rfl) : TabE P w K mg base k ((x, n, F) :: tab) := fun y m F' e => by
  have e' : (if x = y then some (n, F) else lookF y tab) = some (m, F') := e
  split at e'
  · rename_i q
    cases e'
    subst q
    exact ⟨j, ps, hj, hn, h⟩
  · exact t y m F' e'
theorem ev_callV {i k : Nat} {x : Str} {tab : List (Str × Nat × Fn)} {p pos : Pos} {e : Expr} {es : List Expr} {f : Mo (List D)} (hT : TabE X.prog X.w X.K X.mg X.base k tab) (hr : Room k X.A) (hx : Passes (L2.CX X.prog X.w) X E)
    (ha : EA X E (e :: es) f) (hN : X.N[i]? = some x := by rfl) (hv : Vis X.env.scope x := by first | exact Or.inl rfl | exact Or.inr (Or.inl rfl) | exact Or.inr (Or.inr rfl)) (hdb : (x == ("__debug__" : Str)) = false := by decide) (hcd : (x == ("__classdict__" : Str)) = false := by decide)
    (he : starEach (e :: es) X.env = (false, eval e X.env) :: starEach es X.env := by rfl) (hpl : (backTo pos (starEach es X.env)).any (·.1) = false := by rfl) : EV X E (.Call (.Name x p) (e :: es) [] pos) (mCallV i tab f) := by
  obtain ⟨t, pt, q⟩ := ha
  refine ⟨fun σ H Q => ∃ y n F, lookF y tab = some (n, F) ∧ tCallL i (He.ga X.K y) (spP X.K n F) [] E t σ H Q, ⟨fun pins s σ H Q I h => ?_⟩, fun G ρ σ H Q j h => ?_⟩
  · obtain ⟨y, n, F, hl, h⟩ := h
    obtain ⟨j, ps, hj, rfl, ⟨⟨fd, h1, h2⟩, kp, gl, hln⟩⟩ := hT y n F hl
    exact (pe_callL h1 (hr.mono hj) hN hv kp h2 .nil hx pt hdb hcd he hpl).run pins s σ H Q I h
  · unfold mCallV at h
    split at h
    · rename_i y hq
      cases hl : lookF y tab with
      | none => rw [hl] at h; exact h.elim
      | some nF =>
        obtain ⟨n, F⟩ := nF
        rw [hl] at h
        obtain ⟨v, h1, h2⟩ := j.pur i _ hq
        obtain ⟨_, ps, _, rfl, ⟨_, _, _, hln⟩⟩ := hT y n F hl
        cases h2 with
        | fn _ => exact ⟨y, _, F, hl, h1, call_sem q hln G ρ σ H Q j h⟩
    · exact h.elim
structure MeE (P : Program) (w : World) (K : PySem.W.Frag) (mg : Str → Option Value) (base : Heap) (k : Nat) (c m : Str) (n : Nat) (F : Fn) : Prop where
  cls : Cls K (He.ga K c)
  me : Meth K (He.ga K c) m (He.ma K (He.ga K c) m)
  ex : ∃ fd ps, FnOk P w K mg base (L2.CX P w) k (He.ma K (He.ga K c) m) fd ps (spP K n F) ∧ Binds K fd ps []
  ln : ∀ ds, F ds ≠ none → ds.length = n
def noKey (f : Str) : List (D × D) → Bool
  | [] => true
  | (.str g, _) :: r => if g = f then false else noKey f r
  | _ :: _ => false
theorem RpF.noLook {K : PySem.W.Frag} {G : Hp} {f : Str} : ∀ {fs : List (Str × V)} {kvs : List (D × D)}, RpF K G fs kvs → noKey f kvs = true → fs.lookup f = none
  | _, _, .nil, _ => rfl
  | _, _, @RpF.cons _ _ g v fs e kvs _ t, q => by
    have q' : (if g = f then false else noKey f kvs) = true := q
    by_cases z : g = f
    · rw [if_pos z] at q'; cases q'
    · rw [if_neg z] at q'
      have e1 : (f == g) = false := beq_eq_false_iff_ne.mpr (Ne.symm z)
      simp only [List.lookup, e1]
      exact t.noLook q'
/-- an object of the class, and the method is not hidden by a field -/
def isObj (c m : Str) : D → Bool
  | .dict ((.str c', .none) :: kvs) => if c' = c then noKey m kvs else false
  | _ => false
theorem Rp.isObj {K : PySem.W.Frag} {G : Hp} {v : V} {d : D} {c m : Str} (r : Rp K G v d) (h : HB.isObj c m d = true) : ∃ a dx fs, v = .ref a ∧ G a = some (.ins (He.ga K c) dx fs) ∧ fs.lookup m = none := by
  cases r with
  | @obj a dx c' fs kvs h1 h2 =>
    have h' : (if c' = c then noKey m kvs else false) = true := h
    split at h'
    · rename_i e
      subst e
      exact ⟨a, dx, fs, rfl, h1, h2.noLook h'⟩
    · cases h'
  | frz h1 h2 => cases h
  | fn _ => cases h
  | adr _ => cases h
  | _ => cases h
def mMeth (c m : Str) (F : Fn) (o : Mo D) (a : Mo (List D)) : Mo D := mBind o fun d => match isObj c m d with
  | true => mBind a fun ds ρ => match F (d :: ds) with
    | none => none
    | some (.error x) => some (.error x)
    | some (.ok r) => some (.ok (ρ, r))
  | false => fun _ => none
theorem meth_sem {c m : Str} {F : Fn} {n : Nat} {ta : TE} {t : TA} {fo : Mo D} {f : Mo (List D)} (qo : ∀ G ρ σ H Q, J X.K G ρ σ H → Post X.K E (Rp X.K) G ρ σ H Q (fo ρ) → ta σ H Q)
    (q : ∀ G ρ σ H Q, J X.K G ρ σ H → Post X.K E (RpAll X.K) G ρ σ H Q (f ρ) → t σ H Q) (hl : ∀ ds, F ds ≠ none → ds.length = n) :
    ∀ G ρ σ H Q, J X.K G ρ σ H → Post X.K E (Rp X.K) G ρ σ H Q (mMeth c m F fo f ρ) → tMeth (He.ga X.K c) m (spP X.K n F) [] E ta t σ H Q := by
  intro G ρ σ H Q j h
  refine qo G ρ σ H _ j (Post.imp h fun G1 ρ1 x H1 d e1 r1 h1 => ?_)
  cases hb : isObj c m d with
  | false => rw [hb] at h1; exact h1.elim
  | true =>
    rw [hb] at h1
    obtain ⟨a, dx, fs, rfl, z1, z2⟩ := r1.isObj hb
    refine ⟨a, dx, fs, rfl, e1.j.sub _ _ z1, z2, ?_⟩
    refine q G1 ρ1 σ H1 _ e1.j (Post.imp h1 fun G2 ρ2 vs H2 ds e2 r2 h2 => ?_)
    rw [List.append_nil]
    cases hF : F (d :: ds) with
    | none => rw [hF] at h2; exact h2.elim
    | some r =>
      refine ⟨G2, d :: ds, e2.j.sub, .cons (r1.mono e2.g) r2, hl _ (by rw [hF]; simp), ?_⟩
      rw [hF] at h2 ⊢
      cases r with
      | error y => exact fun C dx H' z => h2 C dx H' z.of0
      | ok r => exact fun G' v H' p rv => h2 G' v H' (e2.j.ex p) rv
/-- what o.m(..) runs: the receiver, the method, the arguments -/
abbrev byMeth (X : Cx) (o : Expr) (m : Str) (apos pos : Pos) (pl : Sem Bool) (args : List Expr) : Sem Value :=
  eval o X.env >>= fun ov => standAt apos.atName >>= fun _ => holding [ov] (getMethod ov m pl) >>= fun fm => callWith pos fm.1 fm.2 (backTo pos (starEach args X.env)) (backToKw pos (keywordEach [] X.env))
theorem ev_meth0 {k n : Nat} {c m : Str} {F : Fn} {o : Expr} {fo : Mo D} {apos pos : Pos} {pl : Sem Bool} (hM : MeE X.prog X.w X.K X.mg X.base k c m n F) (hr : Room k X.A) (hx : Passes (L2.CX X.prog X.w) X E) (ho : EV X E o fo)
    (ht : eval (.Call (.Attribute o m apos) [] [] pos) X.env = byMeth X o m apos pos pl [] := by rfl) : EV X E (.Call (.Attribute o m apos) [] [] pos) (mMeth c m F fo mNil) := by
  obtain ⟨hc, me, ⟨fd, ps, h1, h2⟩, hl⟩ := hM
  obtain ⟨ta, po, qo⟩ := ho
  exact ⟨_, pe_meth0 po hc me h1 hr h2 .nil hx ht, meth_sem qo (fun G ρ σ H Q j h => h G _ H j.refl .nil) hl⟩
theorem ev_meth {k n : Nat} {c m : Str} {F : Fn} {o e : Expr} {es : List Expr} {fo : Mo D} {f : Mo (List D)} {apos pos : Pos} {pl : Sem Bool} (hM : MeE X.prog X.w X.K X.mg X.base k c m n F) (hr : Room k X.A) (hx : Passes (L2.CX X.prog X.w) X E) (ho : EV X E o fo) (ha : EA X E (e :: es) f)
    (ht : eval (.Call (.Attribute o m apos) (e :: es) [] pos) X.env = byMeth X o m apos pos pl (e :: es) := by rfl) (hst : starEach (e :: es) X.env = (false, eval e X.env) :: starEach es X.env := by rfl) (hpl : (backTo pos (starEach es X.env)).any (·.1) = false := by rfl) : EV X E (.Call (.Attribute o m apos) (e :: es) [] pos) (mMeth c m F fo f) := by
  obtain ⟨hc, me, ⟨fd, ps, h1, h2⟩, hl⟩ := hM
  obtain ⟨ta, po, qo⟩ := ho
  obtain ⟨t, pt, q⟩ := ha
  exact ⟨_, pe_meth po hc me h1 hr h2 .nil hx pt hst hpl ht, meth_sem qo q hl⟩
end
theorem meth_ok {P : Program} {w : World} {K : PySem.W.Frag} {mg : Str → Option Value} {base : Heap} {c m qual : Str} {st : Stmt} {fd : FuncData} {N ps : List Str} {k : Nat} {g : Mo Fl} (F : FunD K m qual (defArgs st) (defBody st) (defScope st) [] [] (He.ma K (He.ga K c) m) fd) (S : FnScope N ps (defScope st)) (hc : Cls K (He.ga K c)) (me : Meth K (He.ga K c) m (He.ma K (He.ga K c) m))
    (b : ∀ (kV doc pm : Value) (an : Option Addr) (cdv ct : Value) (us : List Value), us.length = ps.length → bindArgs (PySem.W.fnOf m qual (defArgs st) (defBody st) (defScope st) .none kV doc pm an cdv ct) ⟨us, []⟩ = pure (ps.zip us))
    (hb : ∀ (cdv : Value) (A : Around) (outer : List PySem.Env) (s : Shared) (H : Hp) (E : XK), Room k (A.deeper (PyProof.Rows.envOfC qual (defScope st) s.heap.objs.size (He.ma K (He.ga K c) m) cdv)) → SVs (cxOf (L2.CX P w) P w K mg base N qual (defScope st) (He.ma K (He.ga K c) m) cdv A outer s H E) E (defBody st) g) :
    MeE P w K mg base (k + 1) c m ps.length (guard ps.length (runF N.length g)) := by
  refine ⟨hc, me, ⟨fd, ps, F.ok S (fun vs H Q E h => ?_) fun cdv A outer s H vs Q E hr h => ?_, F.bindsN b⟩, fun ds h => guard_len h⟩
  · obtain ⟨G, ds, _, r, hl, _⟩ := h
    rw [r.length, hl]
  · obtain ⟨t, p, q⟩ := hb cdv A outer s H E hr
    exact ⟨t, p, body_sem q h⟩
section
variable {X : Cx} {E : XK}
def oDrop (f : Mo D) (g : MoO) : MoO := fun kvs ρ => match f ρ with
  | none => none
  | some (.error y) => some (.error y)
  | some (.ok (ρ1, _)) => g kvs ρ1
theorem so_expr {c : Str} {e : Expr} {rest : List Stmt} {pos : Pos} {f : Mo D} {g : MoO} (he : EV X E e f) (h2 : SO X E c rest g) (hs : swapsWith e none pos.line X.env = pure false := by rfl) : SO X E c (.Expr e pos :: rest) (oDrop f g) := by
  obtain ⟨t0, p0, q0⟩ := he
  obtain ⟨t2, p2, q2⟩ := h2
  refine ⟨_, pss_cons (ps_expr p0 hs) p2, fun x kvs G ρ σ H De j o h0 h => ?_⟩
  refine q0 G ρ σ H _ j ?_
  unfold oDrop at h
  match hc : f ρ, h with
  | none, h => exact h.elim
  | some (.error y), h => exact h
  | some (.ok (ρ1, b)), h =>
    intro G1 b H1 e1 r1
    refine q2 x kvs G1 ρ1 σ H1 De e1.j (o.ex e1) h0 ?_
    match hg : g kvs ρ1, h with
    | none, h => simp only [hg] at h; exact h.elim
    | some (.error y), h => simp only [hg] at h; exact fun C dx H' z => h C dx H' (XP.trans e1 z)
    | some (.ok (ρ2, kvs2)), h => simp only [hg] at h; exact fun G2 σ2 H2 o2 => h G2 σ2 H2 (e1.ox o2)
end
end HB
namespace HB
open PySem L2
section
variable {X : Cx} {E : XK}
def revD : D → Option D
  | .list ds => some (.list ds.reverse)
  | .tuple ds => some (.tuple ds.reverse)
  | .dict [(.none, .list ds)] => some (.list ds.reverse)
  | _ => none
def isM1 : Option Int → Bool
  | some (.negSucc 0) => true
  | _ => false
theorem isM1_ok {o : Option Int} (h : isM1 o = true) : o = some (-1) := by
  match o, h with
  | some (.negSucc 0), _ => rfl
def mRev (f : Mo D) (s : Mo (Option Int)) : Mo D := mBind f fun d => mBind s fun o => match isM1 o with
  | true => mLift (revD d)
  | false => fun _ => none
theorem RpAll.rev {K : PySem.W.Frag} {G : Hp} : ∀ {xs : List V} {ds : List D}, RpAll K G xs ds → RpAll K G xs.reverse ds.reverse
  | _, _, .nil => .nil
  | _, _, .cons r t => by
    simp only [List.reverse_cons]
    exact t.rev.append (.cons r .nil)
theorem ev_rev {e st : Expr} {f : Mo D} {fs : Mo (Option Int)} {p3 pos : Pos} (h : EV X E e f) (hs : EO X E (some st) fs) : EV X E (.Subscript e (.Slice none none (some st) p3) pos) (mRev f fs) := by
  obtain ⟨t, p, q⟩ := h
  obtain ⟨tl, pl, ql⟩ := hs
  refine ⟨_, pe_back p pl, fun G ρ σ H Q j h => q G ρ σ H _ j (Post.imp h fun G1 ρ1 v H1 d e1 r1 h1 => ?_)⟩
  refine ql G1 ρ1 σ H1 _ e1.j (Post.imp h1 fun G2 ρ2 l H2 l' e2 rl h2 => ?_)
  subst rl
  cases hm : isM1 l with
  | false => rw [hm] at h2; exact h2.elim
  | true =>
    rw [hm] at h2
    refine ⟨isM1_ok hm, ?_⟩
    obtain ⟨c, hc, k⟩ := Post.lift (ρ' := ρ2) h2
    have s3 := e2.j.sub
    cases r1.mono e2.g with
    | @lst a xs ds z1 z2 =>
      cases hc
      refine .inl ⟨a, xs, rfl, .of (s3 _ _ z1), fun p hp => ?_⟩
      have px : PX G2 H2 _ _ := .alloc s3 hp (.lst xs.reverse)
      exact k _ _ _ (e2.j.ex px) (.lst upd_same (z2.rev.mono px.g))
    | @tup a xs ds z1 z2 =>
      cases hc
      refine .inr ⟨a, xs, rfl, sqT_mono s3 z1.t, fun p o hp nd => ?_⟩
      have px : PX G2 H2 _ _ := .alloc s3 hp (.frz o (.tup xs.reverse))
      exact k _ _ _ (e2.j.ex px) (.tup (.new nd) (z2.rev.mono px.g))
    | @frz a xs ds z1 z2 =>
      cases hc
      refine .inl ⟨a, xs, rfl, s3.seq z1, fun p hp => ?_⟩
      have px : PX G2 H2 _ _ := .alloc s3 hp (.lst xs.reverse)
      exact k _ _ _ (e2.j.ex px) (.lst upd_same (z2.rev.mono px.g))
    | obj _ _ => cases hc
    | _ => cases hc
/-- both are plain data -/
def bothD (a b : D) (r : D) : Option D := if SeqAt.shaped a = true ∧ SeqAt.shaped b = true then some r else none
def inTD : D → D → Option D
  | d, .tuple ds => bothD d (.tuple ds) (.bool (ds.any fun z => PyData.eqv z d))
  | d, e => inD d e
def notInTD : D → D → Option D
  | d, .tuple ds => bothD d (.tuple ds) (.bool (!ds.any fun z => PyData.eqv z d))
  | d, e => notInD d e
/-- a question about plain data and a tuple of such -/
def rAskT (K : PySem.W.Frag) (f : D → List D → Bool) : R2 := fun x y H Q => ∃ d ds, Dp K H x d ∧ Dp K H y (.tuple ds) ∧ SeqAt.shaped d = true ∧ SeqAt.shaped (.tuple ds) = true ∧ Q (.bl (f d ds)) H
theorem op_inT (hu : X.A.units + 65 < cLine) : OpR X (compareOp .In) (rAskT X.K fun d ds => ds.any fun z => PyData.eqv z d) := fun pins s σ H x y v u Q I rx ry ⟨d, ds, hd, he, sd, se, q⟩ =>
  have ⟨_, r1⟩ := Dp.reads I d x v hd rx
  have ⟨_, r2⟩ := Dp.reads I (.tuple ds) y u he ry
  SeqAt.in_tuple_reads r2 r1 (SeqAt.canLay_of_shaped se) (SeqAt.canLay_of_shaped sd) (PyProof.Rows.room_in_shaped sd hu) ⟨.bl _, H, I, rfl, q⟩
theorem op_notInT (hu : X.A.units + 65 < cLine) : OpR X (compareOp .NotIn) (rAskT X.K fun d ds => !ds.any fun z => PyData.eqv z d) := fun pins s σ H x y v u Q I rx ry ⟨d, ds, hd, he, sd, se, q⟩ =>
  have ⟨_, r1⟩ := Dp.reads I d x v hd rx
  have ⟨_, r2⟩ := Dp.reads I (.tuple ds) y u he ry
  SeqAt.notIn_tuple_reads r2 r1 (SeqAt.canLay_of_shaped se) (SeqAt.canLay_of_shaped sd) (PyProof.Rows.room_in_shaped sd hu) ⟨.bl _, H, I, rfl, q⟩
/-- a tuple first, else as before -/
theorem dop_tup {sem : Value → Value → Sem Value} {f : D → List D → Bool} {g g' : D → D → Option D} (o : OpR X sem (rAskT X.K f)) (h0 : DOp X sem g') (e1 : ∀ d ds, g d (.tuple ds) = bothD d (.tuple ds) (.bool (f d ds))) (e2 : ∀ d e, (∀ ds, e ≠ .tuple ds) → g d e = g' d e) : DOp X sem g := by
  obtain ⟨r, o', hr⟩ := h0
  refine ⟨_, o.or o', fun G H x y a b c Q s hx hy h k => ?_⟩
  by_cases hb : ∃ ds, b = .tuple ds
  · obtain ⟨ds, rfl⟩ := hb
    rw [e1] at h
    obtain ⟨⟨h3, h4⟩, rfl⟩ := ite_some h
    exact .inl ⟨a, ds, hx.shaped s h3, hy.shaped s h4, h3, h4, k G _ H (.refl s) (.bl _)⟩
  · rw [e2 a b fun ds z => hb ⟨ds, z⟩] at h
    exact .inr (hr G H x y a b c Q s hx hy h k)
theorem dop_inT (hu : X.A.units + 65 < cLine) : DOp X (compareOp .In) inTD := dop_tup (op_inT hu) (dop_in hu) (fun _ _ => rfl) fun d e ne => by
  cases e with
  | tuple ds => exact absurd rfl (ne ds)
  | _ => rfl
theorem dop_notInT (hu : X.A.units + 65 < cLine) : DOp X (compareOp .NotIn) notInTD := dop_tup (op_notInT hu) (dop_notIn hu) (fun _ _ => rfl) fun d e ne => by
  cases e with
  | tuple ds => exact absurd rfl (ne ds)
  | _ => rfl
def cntTD : D → D → Option D
  | .tuple ds, d => bothD d (.tuple ds) (.int (ds.countP fun z => PyData.eqv z d : Nat))
  | _, _ => none
def isTupB : D → Bool
  | .tuple _ => true
  | _ => false
/-- o.m(e): the receiver is looked at ahead of the argument -/
def mRecv (p : D → Bool) (f : D → D → Option D) (a b : Mo D) : Mo D := mBind a fun x => match p x with
  | true => mBind b fun y => mLift (f x y)
  | false => fun _ => none
theorem ev_cntT {o e : Expr} {fo fe : Mo D} {apos pos : Pos} (ho : EV X E o fo) (he : EV X E e fe) (hu : X.A.units + 65 < cLine) (base : attributeBase o "count" X.env (eval o X.env) = eval o X.env := by rfl) (few : Few X pos [e] := by rfl)
    (line : (apos.endLine == pos.line) = true := by rfl) (st : starEach [e] X.env = [(false, eval e X.env)] := by rfl) : EV X E (.Call (.Attribute o "count" apos) [e] [] pos) (mRecv isTupB cntTD fo fe) := by
  obtain ⟨t, p, q⟩ := ho
  obtain ⟨t2, p2, q2⟩ := he
  refine ⟨_, pe_tm PySem.F.slot_tuple_count PySem.F.type_tuple_count (mt_cntT hu) p (pa_cons p2 pa_nil st) base few line st, fun G ρ σ H Q j h => ?_⟩
  refine q G ρ σ H _ j (Post.imp h fun G1 ρ1 v H1 d e1 r1 h1 => ?_)
  cases hp : isTupB d with
  | false => rw [hp] at h1; exact h1.elim
  | true =>
    rw [hp] at h1
    cases r1 with
    | @tup a xs ds z1 z2 =>
      refine ⟨⟨a, xs, rfl, sqP_mono e1.j.sub z1⟩, q2 G1 ρ1 σ H1 _ e1.j (Post.imp h1 fun G2 ρ2 y H2 d2 e2 r2 h2 => ?_)⟩
      obtain ⟨c, hc, k2⟩ := Post.lift (ρ' := ρ2) h2
      obtain ⟨⟨h3, h4⟩, rfl⟩ := ite_some (show (if SeqAt.shaped d2 = true ∧ SeqAt.shaped (.tuple ds) = true then some (PyData.int (ds.countP fun z => PyData.eqv z d2 : Nat)) else none) = some c from hc)
      have rt : Rp X.K G2 (.ref a) (.tuple ds) := (Rp.tup z1 z2).mono e2.g
      exact ⟨a, y, d2, ds, rfl, rfl, rt.shaped e2.j.sub h4, r2.shaped e2.j.sub h3, h4, h3, k2 G2 _ H2 e2.j.refl (.int _)⟩
    | _ => cases hp
end
end HB
namespace HB
open PySem L2
section
variable {X : Cx} {E : XK}
/-- a def run two built-ins deep -/
theorem fn_in2 {CX : CXT} {k : Nat} {f : Addr} {fd : FuncData} {ps : List Str} {sp : Sp} (F : FnOk X.prog X.w X.K X.mg X.base CX k f fd ps sp) (hr : Room (k + 2) X.A) (hb : Binds X.K fd ps []) (hx : Passes CX X E)
    {pins : List (Addr × Obj)} {σ : St} {H : Hp} {s : Shared} {Q : VK} {us : List Value} {vs : List V} (I : Inv X pins σ H s) (r : Vals vs us) (h : sp vs H Q E) : wpAny (model X.prog X.w) X.A.in1.in1 (call (.ref f) us) (EP X pins σ Q) X.xe s := by
  have bd : BindsTo s fd ⟨us, []⟩ (ps.zip us) := by
    have z := hb s us I.kIn (by rw [List.append_nil, ← r.length]; exact F.len _ _ _ _ h)
    rwa [List.append_nil] at z
  refine wpAny_call (codeAny_mono (F.run _ X.stack s H ⟨us, []⟩ us vs Q E hr.in1.in1 I.env0.in1.in1 bd r h) fun o s2 q => ?_)
  match o, q with
  | .error e, q => exact hx pins σ H s e s2 I q
  | .ok (.ret w), q => exact I.after q
def rStrO (C : Addr) (sp : Sp) (E : XK) : List V → Hp → VK → Prop := fun vs H Q => ∃ a dx fs, vs = [.ref a] ∧ H a = some (.ins C dx fs) ∧ sp [.ref a] H (fun v H2 => (∃ z, v = .str z) ∧ Q v H2) E
theorem call_strO {CX : CXT} {k : Nat} {C f : Addr} {fd : FuncData} {ps : List Str} {sp : Sp} (me : Meth X.K C "__str__" f) (F : FnOk X.prog X.w X.K X.mg X.base CX k f fd ps sp) (hr : Room (k + 2) X.A) (hb : Binds X.K fd ps []) (hx : Passes CX X E) : CallR X (.type "str") (rStrO C sp E) :=
  fun pins s σ H vs us Q I r ⟨a, dx, fs, e, ha, q⟩ => by
    subst e
    match us, r with
    | [_], .cons rfl .nil =>
      have ⟨_, ob, _⟩ := ins_get I.hok ha
      have ⟨od, at_, _⟩ := ob.look
      refine PySem.W.kso_call (Nat.lt_of_le_of_lt ?_ hr.un) I.kIn at_ me.at_ me.fn (wpAny_mono (fn_in2 (vs := [.ref a]) F hr hb hx I (.cons rfl .nil) q) (fun u s2 z => ?_) fun _ _ z => z)
      · show X.A.units + 1 + 1 ≤ _
        omega
      · obtain ⟨v, H2, I2, rv, ⟨w, ew⟩, qv⟩ := z
        subst ew
        obtain ⟨t, et⟩ := rv
        subst et
        exact ⟨.str w, H2, I2, ⟨t, rfl⟩, qv⟩
def mStrO (c : Str) (F : Fn) (f : Mo D) : Mo D := mBind f fun d => match isObj c "__str__" d with
  | true => fun ρ => (match F [d] with
    | some (.ok (.str z)) => some (.ok (ρ, .str z))
    | some (.error x) => some (.error x)
    | _ => none)
  | false => fun _ => none
theorem ev_strO {k n : Nat} {c : Str} {F : Fn} {e : Expr} {f : Mo D} {p pos : Pos} (hM : MeE X.prog X.w X.K X.mg X.base k c "__str__" n F) (hr : Room (k + 2) X.A) (hx : Passes (L2.CX X.prog X.w) X E) (h : EV X E e f) (hm : X.mg "str" = none) (hg : Gl X "str" := by rfl)
    (he : starEach [e] X.env = (false, eval e X.env) :: starEach [] X.env := by rfl) : EV X E (.Call (.Name "str" p) [e] [] pos) (mStrO c F f) := by
  obtain ⟨hc, me, ⟨fd, ps, h1, h2⟩, hl⟩ := hM
  obtain ⟨t, pt, q⟩ := h
  refine ⟨_, pe_callTy (call_strO me h1 hr h2 hx) hg hm (by decide +kernel) (pa_cons pt pa_nil he) (he := he), fun G ρ σ H Q j h => q G ρ σ H _ j (Post.imp h fun G1 ρ1 v H1 d e1 r1 h3 => ?_)⟩
  cases hb : isObj c "__str__" d with
  | false => rw [hb] at h3; exact h3.elim
  | true =>
    rw [hb] at h3
    obtain ⟨a, dx, fs, rfl, z1, z2⟩ := r1.isObj hb
    refine ⟨a, dx, fs, rfl, e1.j.sub _ _ z1, G1, [d], e1.j.sub, .cons r1 .nil, ?_, ?_⟩
    · refine hl _ fun no => ?_
      rw [no] at h3
      exact h3
    · match hF : F [d], h3 with
      | none, h3 => simp only [hF] at h3; exact h3.elim
      | some (.error x), h3 => simp only [hF] at h3; exact fun C dx H2 z => h3 C dx H2 z.of0
      | some (.ok (.str z)), h3 =>
        simp only [hF] at h3
        intro G2 u H2 px ru
        cases ru
        exact ⟨⟨z, rfl⟩, h3 G2 _ H2 (e1.j.ex px) (.str z)⟩
      | some (.ok .none), h3 => simp only [hF] at h3; exact h3.elim
      | some (.ok (.bool _)), h3 => simp only [hF] at h3; exact h3.elim
      | some (.ok (.int _)), h3 => simp only [hF] at h3; exact h3.elim
      | some (.ok (.list _)), h3 => simp only [hF] at h3; exact h3.elim
      | some (.ok (.tuple _)), h3 => simp only [hF] at h3; exact h3.elim
      | some (.ok (.dict _)), h3 => simp only [hF] at h3; exact h3.elim
def mPop0 (i : Nat) : Mo D := fun ρ => match ρ[i]? with
  | some (.own ds) => (match ds[ds.length - 1]? with
    | some d => some (.ok (ρ.set i (.own ds.dropLast), d))
    | none => none)
  | _ => none
theorem RpAll.dropLast {K : PySem.W.Frag} {G : Hp} {vs : List V} {ds : List D} (r : RpAll K G vs ds) : RpAll K G vs.dropLast ds.dropLast := by
  rw [List.dropLast_eq_take, List.dropLast_eq_take, r.length]
  exact r.take _
theorem ev_pop0 {i : Nat} {x : Str} {p1 apos pos : Pos} (hN : X.N[i]? = some x := by rfl) (hv : Vis X.env.scope x := by first | exact Or.inl rfl | exact Or.inr (Or.inl rfl) | exact Or.inr (Or.inr rfl)) (hd : (x == ("__debug__" : Str)) = false := by decide) (hcd : (x == ("__classdict__" : Str)) = false := by decide)
    (base : attributeBase (.Name x p1) "pop" X.env (eval (.Name x p1) X.env) = eval (.Name x p1) X.env := by rfl) (line : (apos.endLine == pos.line) = true := by rfl) : EV X E (.Call (.Attribute (.Name x p1) "pop" apos) [] [] pos) (mPop0 i) := by
  refine ⟨_, pe_bm0 PySem.F.plainAttrs_list PySem.F.slot_list_pop PySem.F.type_list_pop mt_pop (pe_var hN hv hd hcd) base line, fun G ρ σ H Q j h => ?_⟩
  unfold mPop0 at h
  split at h
  · rename_i ds hs
    cases hl : ds[ds.length - 1]? with
    | none => rw [hl] at h; exact h.elim
    | some d =>
      rw [hl] at h
      obtain ⟨a, vs, h1, h2, h3, h4⟩ := j.own i _ ds hs rfl
      obtain ⟨v, y1, y2⟩ := h4.get hl
      exact ⟨.ref a, h1, .inl ⟨rfl, vs, .of h2⟩, a, vs, v, rfl, rfl, h2, by rw [h4.length]; exact y1, h G v _ (j.put hs h1 h4.dropLast) y2⟩
  · exact h.elim
def mInO (neg : Bool) (i : Nat) (f : Mo D) : Mo D := mBind f fun d ρ => match ρ[i]? with
  | some (.own ds) => mLift (bothD d (.list ds) (.bool (neg ^^ (ds.any fun z => PyData.eqv z d)))) ρ
  | _ => none
theorem inO_sem {neg : Bool} {i : Nat} {r : R2} {t : TE} {f : Mo D} (q : ∀ G ρ σ H Q, J X.K G ρ σ H → Post X.K E (Rp X.K) G ρ σ H Q (f ρ) → t σ H Q)
    (hr : ∀ (H : Hp) (y : V) (a : Addr) (d : D) (ds : List D) (Q : VK), Dp X.K H y d → Dp X.K H (.ref a) (.list ds) → SeqAt.shaped d = true → SeqAt.shaped (.list ds) = true → Q (.bl (neg ^^ (ds.any fun z => PyData.eqv z d))) H → r y (.ref a) H Q) :
    ∀ G ρ σ H Q, J X.K G ρ σ H → Post X.K E (Rp X.K) G ρ σ H Q (mInO neg i f ρ) → tOp r t (tVar i) σ H Q := by
  intro G ρ σ H Q j h
  refine q G ρ σ H _ j (Post.imp h fun G1 ρ1 y H1 d e1 r1 h1 => ?_)
  cases hs : ρ1[i]? with
  | none => rw [hs] at h1; exact h1.elim
  | some sl =>
    rw [hs] at h1
    cases sl with
    | own ds =>
      obtain ⟨c, hc, k⟩ := Post.lift (ρ' := ρ1) h1
      obtain ⟨⟨h3, h4⟩, rfl⟩ := ite_some (show (if SeqAt.shaped d = true ∧ SeqAt.shaped (.list ds) = true then some (PyData.bool (neg ^^ (ds.any fun z => PyData.eqv z d))) else none) = some c from hc)
      obtain ⟨a, vs, g1, g2, g3, g4⟩ := e1.j.own i _ ds hs rfl
      refine ⟨.ref a, g1, hr H1 y a d ds Q (r1.shaped e1.j.sub h3) ?_ h3 h4 (k G1 _ H1 e1.j.refl (.bl _))⟩
      exact .lst (.of g2) (RpAll.dp ds (SeqAt.canLay_of_shaped h4) (g4.mono e1.j.sub))
    | no => exact h1.elim
    | box _ => exact h1.elim
    | pur _ => exact h1.elim
theorem ev_inO {i : Nat} {x : Str} {e : Expr} {f : Mo D} {p1 pos : Pos} (h : EV X E e f) (hu : X.A.units + 65 < cLine) (hN : X.N[i]? = some x := by rfl) (hv : Vis X.env.scope x := by first | exact Or.inl rfl | exact Or.inr (Or.inl rfl) | exact Or.inr (Or.inr rfl)) (hd : (x == ("__debug__" : Str)) = false := by decide) (hcd : (x == ("__classdict__" : Str)) = false := by decide)
    (hm : behindInMarks .In (.Name x p1) = false := by rfl) : EV X E (.Compare e [.In] [.Name x p1] pos) (mInO false i f) := by
  obtain ⟨t, p, q⟩ := h
  exact ⟨_, pe_cmpR (op_inD hu) p (pe_var hN hv hd hcd) hm, inO_sem q fun H y a d ds Q h1 h2 h3 h4 k => ⟨d, ds, h1, h2, h3, h4, by simpa using k⟩⟩
theorem ev_notInO {i : Nat} {x : Str} {e : Expr} {f : Mo D} {p1 pos : Pos} (h : EV X E e f) (hu : X.A.units + 65 < cLine) (hN : X.N[i]? = some x := by rfl) (hv : Vis X.env.scope x := by first | exact Or.inl rfl | exact Or.inr (Or.inl rfl) | exact Or.inr (Or.inr rfl)) (hd : (x == ("__debug__" : Str)) = false := by decide) (hcd : (x == ("__classdict__" : Str)) = false := by decide)
    (hm : behindInMarks .NotIn (.Name x p1) = false := by rfl) : EV X E (.Compare e [.NotIn] [.Name x p1] pos) (mInO true i f) := by
  obtain ⟨t, p, q⟩ := h
  exact ⟨_, pe_cmpR (op_notInD hu) p (pe_var hN hv hd hcd) hm, inO_sem q fun H y a d ds Q h1 h2 h3 h4 k => ⟨d, ds, h1, h2, h3, h4, by simpa using k⟩⟩
theorem et_inO {i : Nat} {x : Str} {e : Expr} {f : Mo D} {p1 pos : Pos} (h : EV X E e f) (hu : X.A.units + 65 < cLine) (hN : X.N[i]? = some x := by rfl) (hv : Vis X.env.scope x := by first | exact Or.inl rfl | exact Or.inr (Or.inl rfl) | exact Or.inr (Or.inr rfl)) (hd : (x == ("__debug__" : Str)) = false := by decide) (hcd : (x == ("__classdict__" : Str)) = false := by decide)
    (hm : behindInMarks .In (.Name x p1) = false := by rfl) : ET X E (.Compare e [.In] [.Name x p1] pos) (mTest (mInO false i f)) := by
  obtain ⟨t, p, q⟩ := h
  exact ⟨_, pt_cmpR (op_inD hu) p (pe_var hN hv hd hcd) hm, test_sem (inO_sem q fun H y a d ds Q h1 h2 h3 h4 k => ⟨d, ds, h1, h2, h3, h4, by simpa using k⟩)⟩
theorem et_notInO {i : Nat} {x : Str} {e : Expr} {f : Mo D} {p1 pos : Pos} (h : EV X E e f) (hu : X.A.units + 65 < cLine) (hN : X.N[i]? = some x := by rfl) (hv : Vis X.env.scope x := by first | exact Or.inl rfl | exact Or.inr (Or.inl rfl) | exact Or.inr (Or.inr rfl)) (hd : (x == ("__debug__" : Str)) = false := by decide) (hcd : (x == ("__classdict__" : Str)) = false := by decide)
    (hm : behindInMarks .NotIn (.Name x p1) = false := by rfl) : ET X E (.Compare e [.NotIn] [.Name x p1] pos) (mTest (mInO true i f)) := by
  obtain ⟨t, p, q⟩ := h
  exact ⟨_, pt_cmpR (op_notInD hu) p (pe_var hN hv hd hcd) hm, test_sem (inO_sem q fun H y a d ds Q h1 h2 h3 h4 k => ⟨d, ds, h1, h2, h3, h4, by simpa using k⟩)⟩
def intsD : List D → Option (List Int)
  | [] => some []
  | .int n :: r => (intsD r).map (n :: ·)
  | _ :: _ => none
theorem RpAll.ints {K : PySem.W.Frag} {G : Hp} : ∀ {vs : List V} {ds : List D} {ns : List Int}, RpAll K G vs ds → intsD ds = some ns → vs = ns.map V.int
  | _, _, _, .nil, e => by cases e; rfl
  | _, _, ns, .cons (d := d) (ds := ds) r t, e => by
    cases d with
    | int n =>
      cases r
      cases q : intsD ds with
      | none => simp [intsD, q] at e
      | some ms =>
        simp [intsD, q] at e
        subst e
        rw [t.ints q]
        rfl
    | _ => cases e
def maxI : Int → List Int → Int
  | m, [] => m
  | m, n :: r => maxI (if m < n then n else m) r
theorem maxI_ok : ∀ (r : List Int) (m : Int), (maxI m r = m ∨ maxI m r ∈ r) ∧ m ≤ maxI m r ∧ ∀ y ∈ r, y ≤ maxI m r
  | [], m => ⟨.inl rfl, Int.le_refl _, fun _ h => nomatch h⟩
  | n :: r, m => by
    obtain ⟨h1, h2, h3⟩ := maxI_ok r (if m < n then n else m)
    have e : maxI m (n :: r) = maxI (if m < n then n else m) r := rfl
    rw [e]
    have up1 : m ≤ (if m < n then n else m) := by split <;> omega
    have up2 : n ≤ (if m < n then n else m) := by split <;> omega
    refine ⟨?_, Int.le_trans up1 h2, fun y hy => ?_⟩
    · rcases h1 with z | z
      · rw [z]
        split
        · exact .inr List.mem_cons_self
        · exact .inl rfl
      · exact .inr (List.mem_cons_of_mem _ z)
    · rcases List.mem_cons.mp hy with z | z
      · rw [z]; exact Int.le_trans up2 h2
      · exact h3 y z
def max1D : List D → Option D
  | [.list ds] => (match intsD ds with
    | some (n :: r) => some (.int (maxI n r))
    | _ => none)
  | _ => none
theorem dc_max1 (hc : X.calm = true) : DCall X (.builtin "max") max1D := by
  refine ⟨_, cr_max hc, fun G H xs ds c Q s hx h k => ?_⟩
  match ds, h with
  | [.list ds], h =>
    obtain ⟨x, rfl, r⟩ := hx.one
    unfold max1D at h
    cases r with
    | @lst a vs _ h1 h2 =>
      match hi : intsD ds, h with
      | some (n :: ms), h =>
        simp only [hi] at h
        cases h
        have e := h2.ints hi
        subst e
        refine ⟨a, n :: ms, rfl, .of (s _ _ h1), Nat.succ_pos _, fun m hm hall => ?_⟩
        obtain ⟨y1, y2, y3⟩ := maxI_ok ms n
        have up : maxI n ms ∈ n :: ms := y1.elim (fun z => by rw [z]; exact List.mem_cons_self) fun z => List.mem_cons_of_mem _ z
        have le : m ≤ maxI n ms := (List.mem_cons.mp hm).elim (fun z => by rw [z]; exact y2) fun z => y3 m z
        have same : m = maxI n ms := Int.le_antisymm le (hall _ up)
        rw [same]
        exact k G _ H (.refl s) (.int _)
      | none, h => simp only [hi] at h; cases h
      | some [], h => simp only [hi] at h; cases h
def gNames : List Nat → TGs
  | [] => gNil
  | i :: is => gCons (gName i) (gNames is)
def NV (X : Cx) (tgs : List Expr) (is : List Nat) : Prop := PGs X tgs (gNames is)
theorem nv_nil : NV X [] [] := pgs_nil
theorem nv_cons {i : Nat} {x : Str} {p : Pos} {tgs : List Expr} {is : List Nat} (h : NV X tgs is) (hN : X.N.Nodup) (hi : X.N[i]? = some x := by rfl) (hx : Loc X.env.scope x := by first | exact Or.inl rfl | exact Or.inr rfl) (hf : X.fn x = true ∨ X.env.scope.names.lookup x = some .local := by first | exact .inl rfl | exact .inr rfl)
    (hs : (assignEach (.Name x p :: tgs) X.env).map (·.2) = assign (.Name x p) X.env :: (assignEach tgs X.env).map (·.2) := by rfl) : NV X (.Name x p :: tgs) (i :: is) := pgs_cons (pg_name hN hi hx hf) h hs
def setAll : En → List Nat → List Tm → En
  | ρ, i :: is, t :: ts => setAll (ρ.set i (slOf t)) is ts
  | ρ, _, _ => ρ
def sParN (is : List Nat) (f : Mo (List Tm)) : Mo Fl := mBind f fun ts ρ => match Nat.beq ts.length is.length && Nat.ble ts.length 1000000 with
  | true => some (.ok (setAll ρ is ts, .nx))
  | false => none
theorem RT.len {K : PySem.W.Frag} {H0 G H : Hp} {ρ : En} {σ : St} : ∀ {vs : List V} {ts : List Tm}, RT K H0 G H ρ σ vs ts → vs.length = ts.length
  | [], [], _ => rfl
  | _ :: _, .p _ :: _, h => congrArg (· + 1) (RT.len h.2)
  | _ :: _, .o _ :: _, h => congrArg (· + 1) (RT.len h.2)
theorem RT.heap {K : PySem.W.Frag} {H0 G H H2 : Hp} {ρ : En} {σ : St} (s : Same H H2) : ∀ {vs : List V} {ts : List Tm}, RT K H0 G H ρ σ vs ts → RT K H0 G H2 ρ σ vs ts
  | [], [], _ => trivial
  | _ :: _, .p _ :: _, h => ⟨h.1, RT.heap s h.2⟩
  | _ :: _, .o _ :: _, h => let ⟨⟨a, us, h1, h2, h3, h4, h5⟩, h6⟩ := h; ⟨⟨a, us, h1, h2, h3, s _ _ h4, h5⟩, RT.heap s h6⟩
theorem names_sem {K : PySem.W.Frag} {G H G' H' : Hp} {ρ : En} {σ : St} {R : St → Hp → Prop} : ∀ (is : List Nat) {vs : List V} {ts : List Tm} {ρ' : En} {σ' : St}, Ex K G ρ σ H G' ρ' σ' H' → RT K H G' H' ρ' σ' vs ts → ts.length = is.length →
    (∀ σ2, Ex K G ρ σ H G' (setAll ρ' is ts) σ2 H' → R σ2 H') → gNames is vs σ' H' R
  | [], vs, [], ρ', σ', e, r, _, k => ⟨r.nil, k σ' e⟩
  | i :: is, vs, t :: ts, ρ', σ', e, r, hl, k => by
    obtain ⟨v, ws, rfl⟩ := r.cons
    obtain ⟨e2, r2⟩ := RT.put e i r
    exact ⟨v, ws, rfl, names_sem is e2 r2 (Nat.succ.inj hl) k⟩
theorem s_parN {is : List Nat} {tgs es : List Expr} {f : Mo (List Tm)} {kt k2 : Nat} {pt pt2 pos : Pos} (hc : X.calm = true) (hn : NV X tgs is) (h : EX X E es f) (ln : (assignEach tgs X.env).length = is.length := by rfl) (st : (assignEach tgs X.env).findIdx? (·.1) = none := by rfl)
    (hs : swapsWithSole [.Tuple tgs kt pt] (.Tuple es k2 pt2) pos.line X.env = pure false := by rfl) (hw : swappedStores [.Tuple tgs kt pt] (.Tuple es k2 pt2) X.env = pure none := by rfl)
    (ha : (assignEach [.Tuple tgs kt pt] X.env).map (·.2) = [assign (.Tuple tgs kt pt) X.env] := by rfl) : SV X E (.Assign [.Tuple tgs kt pt] (.Tuple es k2 pt2) pos) (sParN is f) := by
  obtain ⟨t, p, q⟩ := h
  refine ⟨_, ps_asg (pe_tupP p) (pg_tup hc hn ln st) hs hw ha, fun G ρ σ H De j h => q G ρ σ H _ j ?_⟩
  unfold sParN mBind at h
  match hh : f ρ, h with
  | none, h => exact h.elim
  | some (.error y), h => exact h
  | some (.ok (ρ1, ts)), h =>
    intro G1 vs H1 e1 r1
    simp only at h
    cases hb : Nat.beq ts.length is.length && Nat.ble ts.length 1000000 with
    | false => rw [hb] at h; exact h.elim
    | true =>
      rw [hb] at h
      obtain ⟨b1, b2⟩ := Bool.and_eq_true_iff.mp hb
      have hl : ts.length = is.length := Nat.eq_of_beq_eq_true b1
      have lv := r1.len
      refine ⟨by rw [lv]; exact line_of (Nat.le_of_ble_eq_true b2), fun p o hp nd => ⟨p, vs, rfl, (SqP.new nd).t, lv.trans hl, ?_⟩⟩
      have up : Same H1 (upd H1 p (.frz o (.tup vs))) := same_upd hp
      have px : PX G1 H1 G1 (upd H1 p (.frz o (.tup vs))) := ⟨up, .refl _, e1.j.sub.trans up, fun _ z => .inl z⟩
      exact names_sem is (e1.trans (e1.j.ex px)) (r1.heap up) hl fun σ2 e2 => h G1 σ2 _ e2
end
end HB
namespace HB
open PySem L2
/-- the items at some places -/
def picks {α : Type} (is : List Nat) (l : List α) : List α := is.filterMap (l[·]?)
theorem picks_vals {vs : List V} {us : List Value} (r : Vals vs us) : ∀ is : List Nat, Vals (picks is vs) (picks is us)
  | [] => .nil
  | i :: is => by
    have t := picks_vals r is
    unfold picks at t ⊢
    cases h : vs[i]? with
    | none =>
      have h2 : us[i]? = none := r.none_of h
      simpa [List.filterMap_cons, h, h2] using t
    | some v =>
      obtain ⟨u, h2, ru⟩ := r.get h
      simp only [List.filterMap_cons, h, h2]
      exact .cons ru t
theorem picks_rp {K : PySem.W.Frag} {G : Hp} {vs : List V} {ds : List D} (r : RpAll K G vs ds) : ∀ is : List Nat, RpAll K G (picks is vs) (picks is ds)
  | [] => .nil
  | i :: is => by
    have t := picks_rp r is
    unfold picks at t ⊢
    cases h : ds[i]? with
    | none =>
      have h2 : vs[i]? = none := by
        rw [List.getElem?_eq_none_iff] at h ⊢
        rw [r.length]
        exact h
      simpa [List.filterMap_cons, h, h2] using t
    | some d =>
      obtain ⟨v, h2, rv⟩ := r.get h
      simp only [List.filterMap_cons, h, h2]
      exact .cons rv t
/-- how names bind: ks the names as they are written, is where each parameter's value stands among them -/
def KwOk (K : PySem.W.Frag) (x : Str) (ps ks : List Str) (is : List Nat) : Prop := ∃ fd, IsFd K (He.ga K x) fd ∧ ∀ (s : Shared) (ws : List Value), ws.length = ks.length → BindsTo s fd ⟨[], ks.zip ws⟩ (ps.zip (picks is ws))
theorem kw_ok {K : PySem.W.Frag} {x qual : Str} {params : Arguments} {body : List Stmt} {scope : Scope} {kws : List (Str × V)} {fd : FuncData} {ps ks : List Str} {is : List Nat} (F : FunD K x qual params body scope [] kws (He.ga K x) fd)
    (b : ∀ (kV doc pm : Value) (an : Option Addr) (cdv ct : Value) (ws : List Value), ws.length = ks.length → bindArgs (PySem.W.fnOf x qual params body scope .none kV doc pm an cdv ct) ⟨[], ks.zip ws⟩ = pure (ps.zip (picks is ws))) : KwOk K x ps ks is := by
  obtain ⟨oc, od, dV, kV, doc, pm, an, cdv, ct, osl, e, lk, _, dfl, _⟩ := F.ex
  refine ⟨fd, ⟨oc, od, osl, lk⟩, fun s ws hl => ?_⟩
  rcases dfl with ⟨_, z⟩ | ⟨no, _⟩
  · rw [e, z]
    exact .of_eq (b kV doc pm an cdv ct ws hl)
  · exact absurd rfl no
section
variable {X : Cx} {E : XK}
/-- the values of keywords, in the order in which they are written -/
def EK (X : Cx) (E : XK) (kws : List Keyword) (f : Mo (List D)) : Prop := ∃ t, PK X kws t ∧ ∀ G ρ σ H Q, J X.K G ρ σ H → Post X.K E (RpAll X.K) G ρ σ H Q (f ρ) → t σ H Q
theorem ek_nil : EK X E [] mNil := ⟨_, pk_nil, fun G ρ σ H Q j h => h G _ H j.refl .nil⟩
theorem ek_cons {nm : Option Str} {e : Expr} {kp : Pos} {kws : List Keyword} {f : Mo D} {g : Mo (List D)} (h : EV X E e f) (hr : EK X E kws g) : EK X E (⟨nm, e, kp⟩ :: kws) (mCons f g) := by
  obtain ⟨t, p, q⟩ := h
  obtain ⟨t2, p2, q2⟩ := hr
  refine ⟨_, pk_cons p p2, fun G ρ σ H Q j h => q G ρ σ H _ j (Post.imp h fun G1 ρ1 x H1 a e1 r1 h1 => ?_)⟩
  refine q2 G1 ρ1 σ H1 _ e1.j (Post.imp h1 fun G2 ρ2 y H2 b e2 r2 h2 => ?_)
  exact h2 G2 _ H2 e2.j.refl (.cons (r1.mono e2.g) r2)
def mCallK (is : List Nat) (F : Fn) (a : Mo (List D)) : Mo D := mCall F (mBind a fun ds => mRet (picks is ds))
/-- what is asked of a call by names -/
def tKw (m : Nat) (is : List Nat) (sp : Sp) (E : XK) (tk : TA) : TE := fun σ H Q => tk σ H fun zs H1 => zs.length = m ∧ sp (picks is zs) H1 Q E
theorem pe_kw {CX : CXT} {k : Nat} {x : Str} {f : Addr} {fd : FuncData} {ps ks : List Str} {is : List Nat} {sp : Sp} {p pos : Pos} {kws : List Keyword} {tk : TA} (F : FnOk X.prog X.w X.K X.mg X.base CX k f fd ps sp) (hr : Room k X.A) (hg : Gl X x) (hm : X.mg x = some (.ref f)) (kp : PySem.W.keepIn X.K (.ref f) = true)
    (hb : ∀ (s : Shared) (ws : List Value), ws.length = ks.length → BindsTo s fd ⟨[], ks.zip ws⟩ (ps.zip (picks is ws))) (hx : Passes CX X E) (hk : PK X kws tk) (all : (backToKw pos (keywordEach kws X.env)).all (·.1.isSome) = true) (names : (backToKw pos (keywordEach kws X.env)).filterMap (·.1) = ks)
    (hdb : (x == ("__debug__" : Str)) = false) (pl : ((backTo pos (starEach [] X.env)).any (·.1) || (backToKw pos (keywordEach kws X.env)).any (·.1.isNone)) = false) : PE X (.Call (.Name x p) [] kws pos) (tKw ks.length is sp E tk) :=
  PE.mk fun pins s σ H Q I h => wpAny_Call_Name_kw (ld_glob I hg hm (PySem.W.callWith_KW0 (h₀ := X.base) I.ok.mod.kin kp all (thn (hk.run pos pins s σ H _ I h) fun ws s1 ⟨zs, H1, I1, rz, lz, q⟩ => ⟨I1.kIn, by
    rw [names]
    have lw : ws.length = ks.length := rz.length.symm.trans lz
    refine wpAny_call (codeAny_mono (F.run X.A X.stack s1 H1 ⟨[], ks.zip ws⟩ (picks is ws) (picks is zs) Q E hr I1.env0 (hb s1 ws lw) (picks_vals rz is) q) fun o s2 z => ?_)
    match o, z with
    | .error e, z => exact hx pins σ H1 s1 e s2 I1 z
    | .ok (.ret u), z => exact I1.after z⟩) pl) hdb)
theorem ev_callK {k : Nat} {x : Str} {ps ks : List Str} {is : List Nat} {F : Fn} {p pos : Pos} {kws : List Keyword} {f : Mo (List D)} (hF : FnE X.prog X.w X.K X.mg X.base k x ps F) (kw : KwOk X.K x ps ks is) (hr : Room k X.A) (hx : Passes (L2.CX X.prog X.w) X E) (ha : EK X E kws f) (hl : ∀ ρ ρ1 ds, f ρ = some (.ok (ρ1, ds)) → ds.length = ks.length)
    (hg : Gl X x := by rfl) (hdb : (x == ("__debug__" : Str)) = false := by decide) (all : (backToKw pos (keywordEach kws X.env)).all (·.1.isSome) = true := by rfl) (names : (backToKw pos (keywordEach kws X.env)).filterMap (·.1) = ks := by rfl)
    (pl : ((backTo pos (starEach [] X.env)).any (·.1) || (backToKw pos (keywordEach kws X.env)).any (·.1.isNone)) = false := by rfl) : EV X E (.Call (.Name x p) [] kws pos) (mCallK is F f) := by
  obtain ⟨fd, here, hb⟩ := kw
  obtain ⟨t, pt, q⟩ := ha
  refine ⟨_, pe_kw (hF.at_ fd here) hr hg hF.gl hF.kp hb hx pt all names hdb pl, fun G ρ σ H Q j h => q G ρ σ H _ j ?_⟩
  unfold mCallK mCall mBind at h
  match hf : f ρ, h with
  | none, h => simp only [hf] at h; exact h.elim
  | some (.error y), h => simp only [hf] at h; exact h
  | some (.ok (ρ1, ds)), h =>
    simp only [hf, mRet] at h
    intro G1 zs H1 e1 r1
    refine ⟨r1.length.trans (hl ρ ρ1 ds hf), G1, picks is ds, e1.j.sub, picks_rp r1 is, ?_⟩
    cases hF2 : F (picks is ds) with
    | none => rw [hF2] at h; exact h.elim
    | some o =>
      rw [hF2] at h
      refine ⟨hF.ln _ (by rw [hF2]; simp), ?_⟩
      cases o with
      | error y => exact fun C dx H2 z => h C dx H2 (XP.trans e1 z.of0)
      | ok d => exact fun G2 v H2 px rv => h G2 v H2 (e1.trans (e1.j.ex px)) rv
end
/-- so many values -/
def MLen (f : Mo (List D)) (n : Nat) : Prop := ∀ ρ ρ1 ds, f ρ = some (.ok (ρ1, ds)) → ds.length = n
theorem mlen_nil : MLen mNil 0 := fun ρ ρ1 ds h => by
  cases h
  rfl
theorem mlen_cons {f : Mo D} {g : Mo (List D)} {n : Nat} (h : MLen g n) : MLen (mCons f g) (n + 1) := fun ρ ρ1 ds e => by
  unfold mCons mBind at e
  match hf : f ρ, e with
  | some (.ok (ρ2, d)), e =>
    simp only [hf] at e
    match hg : g ρ2, e with
    | some (.ok (ρ3, es)), e =>
      simp only [hg, mRet] at e
      cases e
      exact congrArg (· + 1) (h _ _ _ hg)
    | none, e => simp only [hg] at e; cases e
    | some (.error _), e => simp only [hg] at e; cases e
  | none, e => simp only [hf] at e; cases e
  | some (.error _), e => simp only [hf] at e; cases e
def sumD : List D → Option D
  | [.list ds] => (intsD ds).map fun ns => .int ns.sum
  | _ => none
theorem dc_sum {X : Cx} (hc : X.calm = true) : DCall X (.builtin "sum") sumD := by
  refine ⟨_, cr_sum hc, fun G H xs ds c Q s hx h k => ?_⟩
  match ds, h with
  | [.list ds], h =>
    obtain ⟨x, rfl, r⟩ := hx.one
    cases r with
    | @lst a vs _ h1 h2 =>
      cases hi : intsD ds with
      | none => simp [sumD, hi] at h
      | some ns =>
        simp only [sumD, hi, Option.map_some, Option.some.injEq] at h
        subst h
        have e := h2.ints hi
        subst e
        exact ⟨a, ns, rfl, .of (s _ _ h1), k G _ H (.refl s) (.int _)⟩
end HB
namespace HB
open PySem L2
section
variable {X : Cx} {E : XK}
def rCntO (K : PySem.W.Frag) : V → List V → Hp → VK → Prop := fun x ys H Q => ∃ (a : Addr) (y : V) (d : PyData) (ds : List PyData), x = .ref a ∧ ys = [y] ∧ Dp K H (.ref a) (.list ds) ∧ Dp K H y d ∧
  SeqAt.shaped (.list ds) = true ∧ SeqAt.shaped d = true ∧ Q (.int (ds.countP fun z => PyData.eqv z d : Nat)) H
theorem mt_cntO (hu : X.A.units + 65 < cLine) : MtR X "list.count" (rCntO X.K) := fun pins s σ H x ys v us Q I rx rys ⟨a, y, d, ds, ex, ey, hl, hy, sl, sd, q⟩ => by
  subst ex ey
  match us, rys with
  | [uy], .cons ry .nil =>
    cases rx
    have ⟨bs, rd⟩ := Dp.reads I d y uy hy ry
    have lay := SeqAt.canLay_of_shaped sl
    cases hl with
    | lst hs ha =>
      have ⟨its, rv, pl, _⟩ := I.list hs
      have ⟨⟨c, dd, dt, sls⟩, at_, hc, n, hd⟩ := pl.isList
      dsimp only at hc hd
      subst hc hd
      have ⟨as, rs⟩ := Dp.readsAll I ds _ its ha rv
      have back : its.map (SeqAt.readOf s.heap) = ds := SeqAt.readsAll_map ds its as lay rs
      have eqs := SeqAt.items_eqAt (A := X.A) (vs := its.toArray) (by simpa using rs) rd lay (SeqAt.canLay_of_shaped sd) (PyProof.Rows.room_in_shaped sd hu)
      refine call_meets PySem.F.slot_list_count ⟨_, at_, rfl⟩ PySem.F.entry_list_count (PySem.F.args_list_count_2 _ _) (SeqAt.list_countAt a its.toArray n dd sls uy _) ⟨at_, eqs, .int _, H, I.tok _, ⟨_, rfl⟩, ?_⟩
      rw [← back, List.countP_map] at q
      exact q
def mCntO (i : Nat) (f : Mo D) : Mo D := fun ρ => match ρ[i]? with
  | some (.own _) => mBind f (fun d ρ1 => match ρ1[i]? with
    | some (.own ds) => mLift (bothD d (.list ds) (.int (ds.countP fun z => PyData.eqv z d : Nat))) ρ1
    | _ => none) ρ
  | _ => none
theorem ev_cntO {i : Nat} {x : Str} {e : Expr} {f : Mo D} {p1 apos cpos : Pos} (h : EV X E e f) (hu : X.A.units + 65 < cLine) (hN : X.N[i]? = some x := by rfl) (hv : Vis X.env.scope x := by first | exact Or.inl rfl | exact Or.inr (Or.inl rfl) | exact Or.inr (Or.inr rfl)) (hd : (x == ("__debug__" : Str)) = false := by decide) (hcd : (x == ("__classdict__" : Str)) = false := by decide)
    (base : attributeBase (.Name x p1) "count" X.env (eval (.Name x p1) X.env) = eval (.Name x p1) X.env := by rfl) (few : Few X cpos [e] := by rfl)
    (line : (apos.endLine == cpos.line) = true := by rfl) (st : starEach [e] X.env = (false, eval e X.env) :: starEach [] X.env := by rfl) (pl : (backTo cpos (starEach [] X.env)).any (·.1) = false := by rfl) : EV X E (.Call (.Attribute (.Name x p1) "count" apos) [e] [] cpos) (mCntO i f) := by
  obtain ⟨t, p, q⟩ := h
  refine ⟨_, pe_bm PySem.F.plainAttrs_list PySem.F.slot_list_count PySem.F.type_list_count (mt_cntO hu) (pe_var hN hv hd hcd) (pa_cons p pa_nil st) base few line st pl, fun G ρ σ H Q j h => ?_⟩
  unfold mCntO at h
  cases hs : ρ[i]? with
  | none => rw [hs] at h; exact h.elim
  | some sl =>
    rw [hs] at h
    cases sl with
    | no => exact h.elim
    | box _ => exact h.elim
    | pur d => exact h.elim
    | own ds0 =>
      obtain ⟨a, vs, h1, h2, h3, h4⟩ := j.own i _ ds0 hs rfl
      refine ⟨.ref a, h1, .inl ⟨rfl, vs, .of h2⟩, q G ρ σ H _ j (Post.imp h fun G1 ρ1 y H1 d e1 r1 h5 => ?_)⟩
      cases hs1 : ρ1[i]? with
      | none => simp only [hs1] at h5; exact h5.elim
      | some sl1 =>
        cases sl1 with
        | no => simp only [hs1] at h5; exact h5.elim
        | box _ => simp only [hs1] at h5; exact h5.elim
        | pur d => simp only [hs1] at h5; exact h5.elim
        | own ds =>
          simp only [hs1] at h5
          obtain ⟨a2, ws, g1, g2, g3, g4⟩ := e1.j.own i _ ds hs1 rfl
          rw [h1] at g1
          cases g1
          obtain ⟨c, hc, k2⟩ := Post.lift (ρ' := ρ1) h5
          obtain ⟨⟨h6, h7⟩, rfl⟩ := ite_some (show (if SeqAt.shaped d = true ∧ SeqAt.shaped (.list ds) = true then some (PyData.int (ds.countP fun z => PyData.eqv z d : Nat)) else none) = some c from hc)
          exact ⟨a, y, d, ds, rfl, rfl, .lst (.of g2) (RpAll.dp ds (SeqAt.canLay_of_shaped h7) (g4.mono e1.j.sub)), r1.shaped e1.j.sub h6, h7, h6, k2 G1 _ H1 e1.j.refl (.int _)⟩
end
end HB
namespace HB
open PySem L2
def RunsAt (P : Program) (w : World) (K : PySem.W.Frag) (mg : Str → Option Value) (base : Heap) (CX : CXT) (A : Around) (f : Addr) (fd : FuncData) (ps : List Str) (sp : Sp) : Prop :=
  ∀ (outer : List PySem.Env) (s : Shared) (H : Hp) (args : Args) (us : List Value) (vs : List V) (Q : VK) (E : XK), Env0 P w K mg base A outer s H → BindsTo s fd args (ps.zip us) → Vals vs us → sp vs H Q E → codeAny (model P w) A (.call (.ref f) args) (CR CX outer P w H s Q E) s
section
variable {P : Program} {w : World} {K : PySem.W.Frag} {mg : Str → Option Value} {base : Heap} {A : Around} {fd : FuncData}
theorem runs_at {CX : CXT} {k : Nat} {x : Str} {st : Stmt} {N ps : List Str} {sp : Sp} (F : FunD K x x (defArgs st) (defBody st) (defScope st) [] [] (He.ga K x) fd) (S : FnScope N ps (defScope st)) (room : Room (k + 1) A) (len : ∀ vs H Q E, sp vs H Q E → vs.length = ps.length)
    (bod : ∀ (cdv : Value) (outer : List PySem.Env) (s : Shared) (H : Hp) (vs : List V) (Q : VK) (E : XK), Room k (A.deeper (PyProof.Rows.envOfC x (defScope st) s.heap.objs.size (He.ga K x) cdv)) → sp vs H Q E →
      ∃ t, PSs (cxOf CX P w K mg base N x (defScope st) (He.ga K x) cdv A outer s H E) (defBody st) t ∧ t { nx := fun _ Hn => Q .non Hn, rt := Q } (start N vs) H) :
    RunsAt P w K mg base CX A (He.ga K x) fd ps sp := by
  obtain ⟨oc, od, dV, kV, doc, pm, an, cdv, ct, osl, e, lk, code, _⟩ := F.ex
  subst e
  intro outer s H args us vs Q E env bnd rel want
  have old : ∀ b o, base.get? b = some o → s.heap.get? b = some o := fun b o z => (env.bs b o z).1
  have kin := env.mod.kin.keeps old
  have par : ∀ y ∈ ps.zip us, (defScope st).names.lookup y.1 = some .local ∨ ((defScope st).names.lookup y.1 = some .cell ∧ ((cellsFrom (s.heap.objs.size + 1) (defScope st).names []).lookup y.1).isSome = true) := by
    intro y hy
    have hy1 := (List.of_mem_zip (show (y.1, y.2) ∈ ps.zip us from hy)).1
    exact (S.par y.1 hy1).imp id fun q => ⟨q, PySem.W.cellsFrom_some _ _ _ (Or.inl q)⟩
  refine codeAny_call_function room.depth (kin _ _ lk) rfl S.co S.gen rfl (PySem.W.codeRec_of kin code) (bnd _ _ _ _ (wpAny_newFunctionEnv_cells S.kind par ?_))
  intro en hen s1 y
  subst hen
  refine ⟨(env.mod.nolimit.keeps old).keeps y.toInCall.keep, codeAny_func ?_⟩
  obtain ⟨t, run, good⟩ := bod cdv outer s H vs Q E (room.deeper _) want
  refine wpAny_mono (run.run [] s1 (start N vs) H _ (inv_start S room.hd env (len _ _ _ _ want) rel y) good) ?_ (fun _ _ z => z)
  intro fl s2 z
  match fl, z with
  | .ret u, ⟨v, _, H2, J2, rv, q⟩ => exact ⟨v, H2, J2.os, J2.bare, J2.base, J2.hok, rv, q⟩
  | .next, ⟨_, H2, J2, q⟩ => exact ⟨V.non, H2, J2.os, J2.bare, J2.base, J2.hok, rfl, q⟩
  | .brk, ⟨_, _, _, q⟩ => exact False.elim q
  | .cont, ⟨_, _, _, q⟩ => exact False.elim q
/-- the law's own def, where no repr is under way -/
theorem law_at {x : Str} {st : Stmt} {N ps : List Str} {k : Nat} {g : Mo Fl} (F : FunD K x x (defArgs st) (defBody st) (defScope st) [] [] (He.ga K x) fd) (S : FnScope N ps (defScope st)) (room : Room (k + 1) callerA)
    (hb : ∀ (cdv : Value) (A : Around) (outer : List PySem.Env) (s : Shared) (H : Hp) (E : XK), A.guards = some [] → Room k (A.deeper (PyProof.Rows.envOfC x (defScope st) s.heap.objs.size (He.ga K x) cdv)) → SVs (cxOf (L2.CX P w) P w K mg base N x (defScope st) (He.ga K x) cdv A outer s H E) E (defBody st) g) :
    RunsAt P w K mg base (L2.CX P w) callerA (He.ga K x) fd ps (spP K ps.length (guard ps.length (runF N.length g))) := by
  refine runs_at F S room (fun vs H Q E h => ?_) fun cdv outer s H vs Q E hr h => ?_
  · obtain ⟨G, ds, _, r, hl, _⟩ := h
    rw [r.length, hl]
  · obtain ⟨t, p, q⟩ := hb cdv callerA outer s H E rfl hr
    exact ⟨t, p, body_sem q h⟩
theorem RunsAt.cx0 {f : Addr} {ps : List Str} {sp : Sp} (F : RunsAt P w K mg base (L2.CX P w) A f fd ps sp) : RunsAt P w K mg base CX0 A f fd ps (spE sp) := by
  intro outer s H args us vs Q E env bnd rel want
  refine codeAny_mono (F outer s H args us vs Q _ env bnd rel want) fun r s2 h => ?_
  match r, h with
  | .error e, h =>
    obtain ⟨_, _, _, _, _, _, _, _, _, _, _, _, z⟩ := (show L2.CX P w outer H s (fun _ _ _ => False) e s2 from h)
    exact z.elim
  | .ok .next, h => exact h
  | .ok .brk, h => exact h
  | .ok .cont, h => exact h
  | .ok (.ret _), h => exact h
/-- the law's call, from its promise at the caller's place -/
theorem call_at {mb : Str → Option Value} {CX : CXT} {fa a : Addr} {x : Str} {sp : Sp} {s₁ : Shared} {vs : List Value} {ns : List Int} (kin : K.In s₁.heap) (gl : s₁.heap.Ns mainGlobals mg) (bu : s₁.heap.Ns builtinsNs mb)
    (boot : ∀ y : Str, y ≠ "__name__" → mb y = bootBuiltins y) (lim : s₁.heap.NoLimit) (nog : s₁.gens = #[]) (at_ : s₁.heap.get? a = some { cls := .type "list", data := .seq vs.toArray }) (inn : PyProof.Rows.IntsAre vs ns) (short : ns.length ≤ sizeLine)
    (F : ∀ base : Heap, K.In base → base.Ns mainGlobals mg → RunsAt P w K mg base CX callerA fa fd [x] sp) (bnd : ∀ (s : Shared) (u : Value), BindsTo s fd ⟨[u], []⟩ [(x, u)])
    (want : ∀ H : Hp, Only H → SqL K H a (ns.map V.int) → sp [.ref a] H (fun v _ => v = .bl true) fun _ _ _ => False) (none_ : ∀ H e s', CX [] H s₁ (fun _ _ _ => False) e s' → False) :
    codeAny (model P w) callerA (.call (.ref fa) ⟨[.ref a], []⟩) (fun r s' => r = .ok (.ret (.bool true)) ∧ OldK s₁.heap s'.heap ∧ s'.os = s₁.os ∧ PyProof.Rows.AllBare s'.gens) s₁ := by
  have main : ∀ H : Hp, Only H → SqL K H a (ns.map V.int) → HOk P w H s₁.heap → (∀ b, H b ≠ none → b = a) → (H a ≠ none → K.lookup a = none) →
      codeAny (model P w) callerA (.call (.ref fa) ⟨[.ref a], []⟩) (fun r s' => r = .ok (.ret (.bool true)) ∧ OldK s₁.heap s'.heap ∧ s'.os = s₁.os ∧ PyProof.Rows.AllBare s'.gens) s₁ := by
    intro H only seq hok alone notK
    have free : ∀ {b : Addr} {o : Obj} {es : Array DictEntry} {ep : Nat}, s₁.heap.get? b = some o → o.data = .dict es ep → H b = none := by
      intro b o es ep z d
      apply Classical.byContradiction
      intro c
      rw [alone b c, at_] at z
      cases z
      exact nomatch (show Data.seq vs.toArray _ = Data.dict es ep from d)
    have space : ∀ {b : Addr} {m : Str → Option Value}, s₁.heap.Ns b m → (hidT s₁.heap H).Ns b m := by
      rintro b m ⟨o, es, ep, z, d, r⟩
      exact ⟨o, es, ep, hidT_get z (free z d), d, r⟩
    have inB : K.In (hidT s₁.heap H) := by
      intro b o z
      refine hidT_get (kin b o z) (Classical.byContradiction fun c => ?_)
      have e := alone b c
      subst e
      rw [notK c] at z
      cases z
    obtain ⟨mc, l1, l2⟩ := lim
    have env : Env0 P w K mg (hidT s₁.heap H) callerA [] s₁ H := { frames := rfl, mod := ⟨inB, space gl, ⟨mb, space bu, boot⟩, ⟨mc, space l1, l2⟩⟩, bs := fun b o e => of_hidT e, bsz := Nat.le_of_eq (hidT_size _ _), funs := trivial, frf := (fun b hb => nomatch (show b ∈ ([] : List Addr) from hb)), hok := hok, bare := .of_eq nog }
    refine codeAny_mono (F _ inB (space gl) [] s₁ H ⟨[.ref a], []⟩ [.ref a] [.ref a] _ _ env (bnd s₁ (.ref a)) (.cons rfl .nil) (want H only seq)) ?_
    intro r s2 h
    match r, h with
    | .error e, h => exact (none_ H e s2 h).elim
    | .ok .next, h => exact h.elim
    | .ok .brk, h => exact h.elim
    | .ok .cont, h => exact h.elim
    | .ok (.ret u), ⟨v, H2, os, bare, un, hok2, rv, q⟩ =>
      have q2 : v = .bl true := q
      subst q2
      have eu : u = Value.bool true := rv
      subst eu
      refine ⟨rfl, OldK.of_keep ?_, os, bare⟩
      intro b o e
      rcases only b with z | ⟨ob, xs, z⟩
      · exact un.keep b o e z (fun y => nomatch (show b ∈ ([] : List Addr) from y)) (fun y => nomatch y)
      · obtain ⟨e1, _⟩ := hok b _ z
        obtain ⟨e2, _⟩ := hok2 b _ (un.frzs b ob _ z)
        exact (e1.symm.trans e) ▸ e2
  have rv := vals_ints inn
  have hlen := inn.length
  cases hk : K.lookup a with
  | some o =>
    have e := at_.symm.trans (kin a o hk)
    cases e
    have size : vs.toArray.size ≤ sizeLine := by rw [List.size_toArray, hlen]; exact short
    exact main (fun _ => none) (fun _ => .inl rfl) (.inr ⟨_, vs.toArray, _, hk, rfl, rfl, rfl, size, by simpa using rv⟩) (fun b u z => nomatch (show (none : Option HO) = some u from z)) (fun b z => absurd rfl z) (fun z => absurd rfl z)
  | none =>
    let o : HO := .frz { cls := .type "list", data := .seq vs.toArray } (.lst (ns.map V.int))
    refine main (fun b => if b = a then some o else none) ?_ (.inl (.inr ⟨{ cls := .type "list", data := .seq vs.toArray }, if_pos rfl⟩)) ?_ ?_ (fun _ => hk)
    · intro b
      by_cases hb : b = a
      · exact Or.inr ⟨_, _, if_pos hb⟩
      · exact .inl (if_neg hb)
    · intro b u z
      by_cases hb : b = a
      · subst hb
        have z2 := (if_pos rfl).symm.trans z
        cases z2
        exact ⟨at_, by rw [List.length_map]; exact short, vs, _, rv, at_⟩
      · exact nomatch (if_neg hb).symm.trans z
    · intro b z
      exact Classical.byContradiction fun hb => z (if_neg hb)
end
/-- the law's end -/
theorem walk_at {l : PySem.W.OpenLaw} {n : Nat} {q : Program} {loose : List Str} {XP : (Str → Option Value) → Heap → Prop} {YP : World → Heap → Prop} {d : DefRec} {CX : CXT} {x : Str} (most : l.most = some n) (small : n ≤ sizeLine) (nodef : d.params.defaults = [])
    (F : ∀ (w : World) (mg : Str → Option Value) (fa : Addr) (h : Heap), YP w h → h.Ns mainGlobals mg → mg d.name = some (.ref fa) → ∃ (K : PySem.W.Frag) (fd : FuncData) (sp : Sp), K.In h ∧ (∀ (s : Shared) (u : Value), BindsTo s fd ⟨[u], []⟩ [(x, u)]) ∧ (∀ (H : Hp) (a : Addr) (ns : List Int), ns.length ≤ n → Only H → SqL K H a (ns.map V.int) → sp [.ref a] H (fun v _ => v = .bl true) fun _ _ _ => False) ∧
        ∀ base : Heap, K.In base → base.Ns mainGlobals mg → RunsAt l.prog w K mg base CX callerA fa fd [x] sp)
    (none_ : ∀ (H : Hp) (s : Shared) (e : Value) (s' : Shared), CX [] H s (fun _ _ _ => False) e s' → False) : PySem.W.WalkO q loose XP YP l.row.toRowW d [] (fun f vs => PySem.call f vs) := by
  refine Att.attach_call most nodef ?_
  intro w s₀ s₁ mg mb fa o pm cd doc a vs ns G Y _ _ _ name obj inn len nog
  obtain ⟨K, fd, sp, kin, bnd, want, run⟩ := F w mg fa _ Y G.T.g name
  exact call_at kin G.T.g G.T.b G.T.builtins G.T.nolimit nog obj inn (Nat.le_trans len small) run bnd (fun H h1 h2 => want H a ns len h1 h2) fun H => none_ H s₁
section
variable {X : Cx}
/-- the text that repr tells -/
def reprD : List D → Option D
  | [d] => if SeqAt.shaped d = true ∧ d.showable = true ∧ d.shown.length ≤ sizeLine then some (.str d.shown) else none
  | _ => none
def rRepr (K : PySem.W.Frag) : List V → Hp → VK → Prop := fun vs H Q => ∃ x d, vs = [x] ∧ Dp K H x d ∧ SeqAt.shaped d = true ∧ d.showable = true ∧ d.shown.length ≤ sizeLine ∧ Q (.str d.shown) H
theorem call_reprD (hg : X.A.guards = some []) (hu : X.A.units + 65 < cLine) : CallR X (.builtin "repr") (rRepr X.K) := by
  intro pins s σ H vs us Q I r want
  obtain ⟨x, d, e, dp, sh, sw, sz, q⟩ := want
  subst e
  match us, r with
  | [u], .cons ru .nil =>
    obtain ⟨as, rd⟩ := Dp.reads I d x u dp ru
    have nd := PyData.hasDict_of_canLay d (SeqAt.canLay_of_shaped sh)
    have dl := SeqAt.depth_of_shaped sh
    have heap : ∀ a : Addr, u = .ref a → wpAny (model X.prog X.w) X.A (call (.builtin "repr") [u]) (EP X pins σ Q) X.xe s := by
      intro a ea
      subst ea
      exact repr_of_reads' rd sw (PyData.noDict_hsm nd) hg (by omega) (fun _ _ z => z) (fun h2 t tk k => ⟨.str d.shown, H, I.kept k, ⟨t, rfl⟩, q⟩) sz
    cases dp with
    | non =>
      cases ru
      rw [PyData.shown_none] at q
      exact PySem.P.repr_of_none ⟨.str _, H, I.tok _, ⟨_, rfl⟩, q⟩
    | bl b =>
      cases ru
      rw [PyData.shown_bool] at q
      exact PySem.P.repr_of_bool ⟨.str _, H, I.tok _, ⟨_, rfl⟩, q⟩
    | int i =>
      obtain ⟨t, rfl⟩ := ru
      rw [PyData.shown_int] at q
      have small : i.natAbs.log2 < 1920 := by simpa [PyData.showable] using sw
      exact PySem.P.repr_of_int small ⟨.str _, H, I.tok _, ⟨_, rfl⟩, q⟩
    | str z =>
      obtain ⟨t, rfl⟩ := ru
      rw [PyData.shown_str] at q sz
      exact PySem.P.repr_of_str ⟨.str _, H, I.tok _, ⟨_, rfl⟩, q⟩ sz
    | lst => exact heap _ ru
    | tup => exact heap _ ru
theorem dc_repr (hg : X.A.guards = some []) (hu : X.A.units + 65 < cLine) : DCall X (.builtin "repr") reprD := by
  refine ⟨_, call_reprD hg hu, fun G H xs ds c Q s hx h k => ?_⟩
  match ds, h with
  | [d], h =>
    obtain ⟨x, rfl, r⟩ := hx.one
    obtain ⟨⟨h1, h2, h3⟩, rfl⟩ := ite_some (show (if SeqAt.shaped d = true ∧ d.showable = true ∧ d.shown.length ≤ sizeLine then some (PyData.str d.shown) else none) = some c from h)
    exact ⟨x, d, rfl, r.shaped s h1, h1, h2, h3, k G _ H (.refl s) (.str _)⟩
end
end HB
namespace HB
open PySem L2
def ItzN (K : PySem.W.Frag) (a b : Addr) : It where
  go := fun i H => ∃ (xs ys : List V) (x y : V), SqL K H a xs ∧ SqL K H b ys ∧ xs[i]? = some x ∧ ys[i]? = some y
  yld := fun i H v H2 => ∃ T x y o, v = .ref T ∧ H T = none ∧ o.dict = none ∧ H2 = upd H T (.frz o (.tup [x, y])) ∧ (∀ xs, SqL K H a xs → xs[i]? = some x) ∧ ∀ ys, SqL K H b ys → ys[i]? = some y
  stop := fun i H => ∃ xs ys : List V, SqL K H a xs ∧ SqL K H b ys ∧ (xs.length ≤ i ∨ ys.length ≤ i)
/-- how such a zip stands ahead of its turn i -/
structure ZNt (a b z TI TO i1 i2 : Addr) (i : Nat) (h : Heap) : Prop where
  zp : IsZip h z TI TO .none
  ti : IsPair h TI (.ref i1) (.ref i2)
  to : ∃ x y, IsPair h TO x y
  l : h.IsListIter i1 a i
  r : h.IsListIter i2 b i
theorem ZNt.all {a b z TI TO i1 i2 : Addr} {i : Nat} {h : Heap} (q : ZNt a b z TI TO i1 i2 i h) : ∀ c ∈ [z, TI, TO, i1, i2], ∃ o, h.get? c = some o ∧ ∀ v, o.data ≠ .cell v := by
  obtain ⟨x, y, q3⟩ := q.to
  obtain ⟨o1, e1, _, d1⟩ := q.l
  obtain ⟨o2, e2, _, d2⟩ := q.r
  simp only [List.mem_cons, List.not_mem_nil, or_false, forall_eq_or_imp, forall_eq]
  exact ⟨⟨_, q.zp, fun v e => nomatch e⟩, ⟨_, q.ti, fun v e => nomatch e⟩, ⟨_, q3, fun v e => nomatch e⟩, ⟨o1, e1, fun v e => nomatch (d1.symm.trans e)⟩, ⟨o2, e2, fun v e => nomatch (d2.symm.trans e)⟩⟩
theorem turn_zipN {P : Program} {w : World} {K : PySem.W.Frag} {elts : List Expr} {kk : Nat} {tpos : Pos} {a b z TI TO i1 i2 : Addr} (Da : ZipApart z TI TO i1 i2 a b) :
    Turn P w K (.Tuple elts kk tpos) (ItzN K a b) [z, TI, TO, i1, i2] z (ZNt a b z TI TO i1 i2) where
  mem := by simp
  obj := fun i h q => q.all
  keep := fun i h h' q k => ⟨k z (by simp) _ q.zp, k TI (by simp) _ q.ti, let ⟨x, y, q3⟩ := q.to; ⟨x, y, k TO (by simp) _ q3⟩, q.l.at fun o e => k i1 (by simp) o e, q.r.at fun o e => k i2 (by simp) o e⟩
  item := by
    intro X hP hw hK hc i pins s σ H E I hf q ⟨xs, ys, x, y, g1, g2, hx, hy⟩
    subst hP hw hK
    obtain ⟨x0, y0, q3⟩ := q.to
    have ⟨its, rv, p, _⟩ := I.list g1
    have ⟨its2, rv2, p2, _⟩ := I.list g2
    have ⟨u, hu, ru⟩ := rv.get hx
    have ⟨u2, hu2, ru2⟩ := rv2.get hy
    have lt : ∀ c ∈ [z, TI, TO, i1, i2], c < s.heap.objs.size := fun c m => let ⟨_, e, _⟩ := q.all c m; Heap.lt_size e
    refine wpAny_pyNext_zip_item Da q.zp q.ti q3 q.l q.r p.isList p2.isList (x := u) (y := u2) (by simpa using hu) (by simpa using hu2) fun h2 b1 b2 b3 b4 hT hsz hk => ⟨_, rfl, ?_⟩
    refine wpAny_letOwnedTupleGo_zip (s := { s with heap := h2 }) b1 fun g b5 sb => ?_
    have same : ∀ c o, c ∉ [z, TI, TO, i1, i2] → s.heap.get? c = some o → g.get? c = some o := fun c o hb e => by
      simp only [List.mem_cons, List.not_mem_nil, or_false, not_or] at hb
      exact (sb.2 c hb.1).trans (hk c o hb.1 hb.2.2.1 hb.2.2.2.1 hb.2.2.2.2 e)
    have pr : IsPair g s.heap.objs.size u u2 := (sb.2 _ (Nat.ne_of_gt (lt z (by simp)))).trans hT
    have nw : ObjOk X.prog X.w (upd H s.heap.objs.size (.frz (tupO [u, u2]) (.tup [x, y]))) g s.heap.objs.size (.frz (tupO [u, u2]) (.tup [x, y])) := ⟨pr, by show 2 ≤ sizeLine; decide, [u, u2], .cons ru (.cons ru2 .nil), ⟨_, pr, rfl, _, rfl⟩⟩
    refine ⟨.ref s.heap.objs.size, _, I.turnedNew (t' := s.toks) (ch := [z, TI, TO, i1, i2]) same hf (Nat.le_refl _) nw, rfl, ⟨_, x, y, _, rfl, I.hok.fresh (Nat.le_refl _), rfl, rfl, fun l hl => by rw [I.list_inj hl g1]; exact hx, fun l hl => by rw [I.list_inj hl g2]; exact hy⟩,
      ⟨b5, (sb.2 _ Da.TIz).trans (hk _ _ Da.TIz Da.TITO Da.TIi1 Da.TIi2 q.ti), ⟨u, u2, (sb.2 _ Da.TOz).trans b2⟩, b3.at fun o e => (sb.2 _ Da.i1z).trans e, b4.at fun o e => (sb.2 _ Da.i2z).trans e⟩, fun c hcm => ?_⟩
    exact (upd_ne (Nat.ne_of_lt (lt c hcm))).trans (hf c hcm).1
  done := by
    intro X hP hw hK hc i pins s σ H E I hf q ⟨xs, ys, g1, g2, e1⟩
    subst hP hw hK
    obtain ⟨x0, y0, q3⟩ := q.to
    have ⟨its, rv, p, _⟩ := I.list g1
    have ⟨its2, rv2, p2, _⟩ := I.list g2
    have l1 := rv.length
    have l2 := rv2.length
    refine wpAny_pyNext_zip_end (I.ok.hd hc) Da q.zp q.ti q3 q.l q.r p.isList p2.isList (e1.imp (fun z => by simp; omega) fun z => by simp; omega) fun h2 hk => ⟨rfl, I.turnedL (t' := s.toks) (ch := [z, TI, TO, i1, i2]) (fun c o hb e => ?_) hf⟩
    simp only [List.mem_cons, List.not_mem_nil, or_false, not_or] at hb
    exact hk c o hb.1 hb.2.2.1 hb.2.2.2.1 hb.2.2.2.2 e
  self := fun A i s Q E st h => wpAny_pyIter_zip st.zp h
section
variable {X : Cx} {E : XK}
def iZipN (K : PySem.W.Frag) (ta : TA) : TI := fun σ H R => ta σ H fun vs H1 => ∃ a b xs ys, vs = [.ref a, .ref b] ∧ SqL K H1 a xs ∧ SqL K H1 b ys ∧ R (ItzN K a b) H1
theorem pi_zipN {e e2 : Expr} {ta : TA} {p pos tpos : Pos} {elts : List Expr} {kk : Nat} (hg : Gl X "zip") (hm : X.mg "zip" = none) (ha : PA X [e, e2] ta) (hs : starEach [e, e2] X.env = (false, eval e X.env) :: starEach [e2] X.env := by rfl) (hpl : (backTo pos (starEach [e2] X.env)).any (·.1) = false := by rfl) :
    PI X (.Tuple elts kk tpos) (.Call (.Name "zip" p) [e, e2] [] pos) (iZipN X.K ta) := by
  refine PI.mk fun pins s σ H R I h => PyProof.Rows.Call_ (ld_blt I hg hm PyProof.Rows.boot_zip (PyProof.Rows.callWith_type1 (thn (ha.run pos pins s σ H _ I h) ?_) hs hpl))
  rintro us s1 ⟨vs, H1, I1, r1, a, b, xs, ys, rfl, g1, g2, q⟩
  match us, r1 with
  | [_, _], .cons rfl (.cons rfl .nil) =>
    have ⟨its, rv, p1, _⟩ := I1.list g1
    have ⟨its2, rv2, p2, _⟩ := I1.list g2
    refine call_zip_2 p1.isList p2.isList fun h2 hz hTI hTO h1 h2' hsz hk => wpAny_pyIter_zip hz ?_
    refine ⟨s1.heap.objs.size + 4, [s1.heap.objs.size + 4, s1.heap.objs.size + 2, s1.heap.objs.size + 3, s1.heap.objs.size, s1.heap.objs.size + 1], _, _, H1, rfl, I1.kept (t' := s1.toks) hk, turn_zipN (PySem.W.ktu_apart s1.heap.objs.size a b p1.lt p2.lt), ⟨hz, hTI, ⟨_, _, hTO⟩, h1, h2'⟩, fun c hcm => ?_, q⟩
    have up : s1.heap.objs.size ≤ c := by
      simp only [List.mem_cons, List.not_mem_nil, or_false] at hcm
      rcases hcm with e | e | e | e | e <;> subst e <;> first | exact Nat.le_refl _ | exact Nat.le_add_right _ _
    exact I1.fpOk up (I1.hok.fresh up)
def lstOf : D → Option (List D)
  | .list ds => some ds
  | _ => none
def zipN : List D → Option Src
  | [a, b] => match lstOf a, lstOf b with
    | some xs, some ys => some (constS (zipD xs ys))
    | _, _ => none
  | _ => none
def mZip (f : Mo (List D)) : Mo Src := mRange zipN f
theorem Rp.lstOf {K : PySem.W.Frag} {G : Hp} {v : V} {d : D} {ds : List D} (r : Rp K G v d) (h : HB.lstOf d = some ds) : ∃ p xs, v = .ref p ∧ SqL K G p xs ∧ RpAll K G xs ds := by
  cases r with
  | lst h1 h2 => cases h; exact ⟨_, _, rfl, .inl (.inl h1), h2⟩
  | _ => cases h
theorem zipN_ok {K : PySem.W.Frag} {G : Hp} {σ : St} {a b : Addr} {xs ys : List V} {ds es : List D} {js : List Nat} (g1 : SqL K G a xs) (g2 : SqL K G b ys) (r1 : RpAll K G xs ds) (r2 : RpAll K G ys es) : ItOk K G σ (ItzN K a b) (constS (zipD ds es)) js := by
  intro i G2 ρ2 σ2 H2 items sg j _ e
  cases e
  have s1 : SqL K H2 a xs := j.sub.seq (sg.seq g1)
  have s2 : SqL K H2 b ys := j.sub.seq (sg.seq g2)
  have n1 := r1.length
  have n2 := r2.length
  refine ⟨fun d hd => ?_, fun hi => ⟨xs, ys, s1, s2, ?_⟩⟩
  · obtain ⟨x, y, hx, hy, rfl⟩ := zipD_get ds es i d hd
    obtain ⟨v, p1, p2⟩ := r1.get hx
    obtain ⟨u, p3, p4⟩ := r2.get hy
    refine ⟨⟨xs, ys, v, u, s1, s2, p1, p3⟩, fun z H3 yl => ?_⟩
    obtain ⟨T, x', y', o, rfl, hT, nd, rfl, f1, f2⟩ := yl
    have e1 := Option.some.inj ((f1 xs s1).symm.trans p1)
    have e2 := Option.some.inj ((f2 ys s2).symm.trans p3)
    subst e1 e2
    have px : PX G2 H2 _ _ := .alloc j.sub hT (.frz o (.tup [x', y']))
    exact ⟨_, px, .tup (.new nd) (.cons ((p2.mono sg).mono px.g) (.cons ((p4.mono sg).mono px.g) .nil))⟩
  · rw [zipD_len] at hi
    omega
theorem iv_zip {e e2 : Expr} {f : Mo (List D)} {p pos tpos : Pos} {elts : List Expr} {kk : Nat} (hm : X.mg "zip" = none) (ha : EA X E [e, e2] f) (hg : Gl X "zip" := by rfl) (hs : starEach [e, e2] X.env = (false, eval e X.env) :: starEach [e2] X.env := by rfl) (hpl : (backTo pos (starEach [e2] X.env)).any (·.1) = false := by rfl) :
    IV X E (.Tuple elts kk tpos) (.Call (.Name "zip" p) [e, e2] [] pos) (mZip f) [] := by
  obtain ⟨t, pt, q⟩ := ha
  refine ⟨_, pi_zipN hg hm pt hs hpl, fun G ρ σ H R j h => q G ρ σ H _ j (PostI.imp h fun G1 ρ1 vs H1 ds e1 r1 h1 => ?_)⟩
  obtain ⟨src, hsr, k⟩ := PostI.lift h1
  match ds, hsr with
  | [d1, d2], hsr =>
    have hsr2 : (match lstOf d1, lstOf d2 with
      | some xs, some ys => some (constS (zipD xs ys))
      | _, _ => none) = some src := hsr
    cases hi1 : lstOf d1 with
    | none => simp only [hi1] at hsr2; cases hsr2
    | some xs =>
      cases hi2 : lstOf d2 with
      | none => simp only [hi1, hi2] at hsr2; cases hsr2
      | some ys =>
        simp only [hi1, hi2] at hsr2
        cases hsr2
        obtain ⟨x, y, rfl, ra, rb⟩ := r1.two
        obtain ⟨pa, vx, rfl, sa, aa⟩ := ra.lstOf hi1
        obtain ⟨pb, vy, rfl, sb, ab⟩ := rb.lstOf hi2
        exact ⟨pa, pb, vx, vy, rfl, e1.j.sub.seq sa, e1.j.sub.seq sb, k G1 H1 _ e1.j.refl (zipN_ok sa sb aa ab)⟩
theorem const_zip {f : Mo (List D)} : ∀ ρ ρ' s, mZip f ρ = some (.ok (ρ', s)) → Const s := by
  intro ρ ρ' s h
  unfold mZip mRange mBind mLift at h
  cases e : f ρ with
  | none => simp only [e] at h; cases h
  | some o =>
    cases o with
    | error x => simp only [e] at h; cases h
    | ok p =>
      obtain ⟨ρ1, ds⟩ := p
      simp only [e] at h
      cases hi : zipN ds with
      | none => simp only [hi] at h; cases h
      | some src =>
        simp only [hi] at h
        cases h
        unfold zipN at hi
        split at hi
        · split at hi
          · cases hi
            exact fun _ => rfl
          · cases hi
        · cases hi
end
end HB
namespace HB
open PySem L2
def oexB (K : PySem.W.Frag) (C : Addr) : Bool := (match K.lookup C with
  | some ⟨.type "type", _, .cls kd, sl⟩ => (match kd.mro, sl.toList with
    | .ref C2 :: bm, [_, _, _, _, some (.builtin n), _] => decide (C2 = C) && (decide (n = "ValueError.__new__") && (!kd.hasDel && (kd.hasDict && PySem.HandSPX.refsVE bm)))
    | _, _ => false)
  | _ => false) && (He.eqO (PySem.W.findIn K (.ref C) "__setattr__") (some (some (.builtin "object.__setattr__"))) && (decide (PySem.W.subIn K (.ref C) (.type "BaseException") = some true) && (decide (PySem.W.typeIn K (.ref C) = some (.type "type")) && PySem.W.keepIn K (.ref C))))
theorem oexB_ok {K : PySem.W.Frag} {C : Addr} (h : oexB K C = true) : OexC K C := by
  have ⟨h1, h⟩ := He.ba h
  have ⟨h2, h⟩ := He.ba h
  have ⟨h3, h⟩ := He.ba h
  have ⟨h4, h5⟩ := He.ba h
  refine ⟨?_, He.eqO_ok h2, of_decide_eq_true h3, of_decide_eq_true h4, h5⟩
  split at h1
  · rename_i dd cd sl look
    split at h1
    · rename_i C2 bm k0 k1 k2 k3 n k5 mro slots
      have ⟨e1, h1⟩ := He.ba h1
      have ⟨e2, h1⟩ := He.ba h1
      have ⟨e3, h1⟩ := He.ba h1
      have ⟨e4, e5⟩ := He.ba h1
      obtain ⟨nm, bs, mr, ns, qn, hd, sn, sub, ab, col, del⟩ := cd
      have e6 : sl = #[k0, k1, k2, k3, some (.builtin n), k5] := by
        obtain ⟨l⟩ := sl
        exact congrArg Array.mk slots
      have e1 := of_decide_eq_true e1
      have e2 := of_decide_eq_true e2
      have e3 : del = false := by simpa using e3
      have e4 : hd = true := e4
      have mro : mr = .ref C2 :: bm := mro
      subst e1 e2 e3 e4 mro e6
      exact ⟨nm, qn, ns, bs, bm, sn, sub, ab, col, dd, k0, k1, k2, k3, k5, look, e5⟩
    · cases h1
  · cases h1
/-- a class over BendError with one field, kept by its own __init__ -/
def excB (K : PySem.W.Frag) (c f : Str) : Bool := oexB K (He.ga K c) && (xfB K (He.ga K c) && (He.eqO (PySem.W.findIn K (.ref (He.ga K c)) f) (some none) && (He.eqO (PySem.W.findIn K (.ref (He.ga K c)) "__init__") (some (some (.ref (He.ma K (He.ga K c) "__init__")))) &&
  decide (PySem.W.typeIn K (.ref (He.ma K (He.ga K c) "__init__")) = some (.type "function")))))
structure ExcF (K : PySem.W.Frag) (c f : Str) : Prop where
  o : OexC K (He.ga K c)
  x : XfC K (He.ga K c)
  n : PySem.W.findIn K (.ref (He.ga K c)) f = some none
  i : PySem.W.findIn K (.ref (He.ga K c)) "__init__" = some (some (.ref (He.ma K (He.ga K c) "__init__")))
  t : PySem.W.typeIn K (.ref (He.ma K (He.ga K c) "__init__")) = some (.type "function")
theorem excB_ok {K : PySem.W.Frag} {c f : Str} (h : excB K c f = true) : ExcF K c f := by
  have ⟨h1, h⟩ := He.ba h
  have ⟨h2, h⟩ := He.ba h
  have ⟨h3, h⟩ := He.ba h
  have ⟨h4, h5⟩ := He.ba h
  exact ⟨oexB_ok h1, xfB_ok h2, He.eqO_ok h3, He.eqO_ok h4, of_decide_eq_true h5⟩
/-- the class that all of them are -/
def botB (K : PySem.W.Frag) (b : Str) : Bool := PySem.W.readsIn K (He.ga K b) (.type "type") && (match PySem.W.findCls K (.ref (He.ga K b)) (.type "type") "__init__" with
  | some (.val (.builtin "ValueError.__init__")) => He.eqO (PySem.W.specialIn K (.ref (He.ga K b)) "__getattribute__") (some (some (.builtin "type.__getattribute__")))
  | _ => false)
structure BotF (K : PySem.W.Frag) (b : Str) : Prop where
  r : PySem.W.readsIn K (He.ga K b) (.type "type") = true
  f : PySem.W.findCls K (.ref (He.ga K b)) (.type "type") "__init__" = some (.val (.builtin "ValueError.__init__"))
  s : PySem.W.specialIn K (.ref (He.ga K b)) "__getattribute__" = some (some (.builtin "type.__getattribute__"))
theorem botB_ok {K : PySem.W.Frag} {b : Str} (h : botB K b = true) : BotF K b := by
  have ⟨h1, h⟩ := He.ba h
  split at h
  · rename_i e
    exact ⟨h1, e, He.eqO_ok h⟩
  · cases h
section
variable {X : Cx} {e : Expr} {es : List Expr} {ta : TA} {b f : Str} {p p1 p2 pos : Pos}
theorem pe_binit {pl : Sem Bool} (hg : Gl X b) (hm : X.mg b = some (.ref (He.ga X.K b))) (B : BotF X.K b) (ha : PA X (e :: es) ta)
    (hc : eval (.Call (.Attribute (.Name b p1) "__init__" p2) (e :: es) [] pos) X.env = (do
      let ow ← eval (.Name b p1) X.env
      standAt p2.atName
      let (fx, fst) ← holding [ow] (getMethod ow "__init__" pl)
      callWith pos fx fst (backTo pos (starEach (e :: es) X.env)) (backToKw pos (keywordEach [] X.env))) := by rfl)
    (hdb : (b == ("__debug__" : Str)) = false := by decide) (he : starEach (e :: es) X.env = (false, eval e X.env) :: starEach es X.env := by rfl) (hpl : (backTo pos (starEach es X.env)).any (·.1) = false := by rfl) :
    PE X (.Call (.Attribute (.Name b p1) "__init__" p2) (e :: es) [] pos) (tVeI X.K ta) := by
  constructor; intro pins s σ H Q I h
  refine PySem.W.methodCall_KW (ld_glob I hg hm (PySem.W.method_cls I.kIn B.s (PySem.W.cls_value I.kIn B.r B.f (by decide +kernel) ?_)) hdb) hc
  show wpAny _ _ (callWith pos (Value.builtin "ValueError.__init__") [] (backTo pos (starEach (e :: es) X.env)) []) _ _ _; refine PyProof.Rows.callWith_method1 (thn (ha.run pos pins _ σ H _ (I.tok _) h) ?_) he hpl
  rintro us s1 ⟨vs, H1, I1, r1, a, C, ws, rfl, hl, T, ea, q⟩
  match us, r1 with
  | _ :: ur, .cons rfl rest =>
    have long : ur.length ≤ sizeLine := by
      have := Paired.length rest
      have : sizeLine = 16777216 := by decide
      omega
    exact oinit_ok T I1 ea long fun s2 J2 => ⟨.non, H1, J2, rfl, q⟩
end
/-- what such an __init__ leaves: the field in a new dict -/
def spExc (K : PySem.W.Frag) (C : Addr) (f : Str) : Sp := fun vs H Q _ => ∃ (a : Addr) (v : V), vs = [.ref a, v] ∧ H a = some (exo a C none) ∧ ∀ d, H d = none → d ≠ a → Q .non (upd (upd H d (exd d [(f, v)])) a (exo a C (some d)))
theorem exc_suite {X : Cx} {b f x : Str} {txt : Str} {ck : Nat} {p1 p2 p3 p4 p5 p6 p7 p8 p9 p10 : Pos} {C : Addr} (hN0 : X.N[0]? = some ("self" : Str)) (hN1 : X.N[1]? = some x) (hv0 : Vis X.env.scope ("self" : Str)) (hv1 : Vis X.env.scope x)
    (hg : Gl X b) (hm : X.mg b = some (.ref (He.ga X.K b))) (B : BotF X.K b) (O : OexC X.K C) (hn : PySem.W.findIn X.K (.ref C) f = some none) (hd1 : (x == ("__debug__" : Str)) = false) (hd2 : (x == ("__classdict__" : Str)) = false) (hdb : (b == ("__debug__" : Str)) = false)
    {pl : Sem Bool} (hc : eval (.Call (.Attribute (.Name b p1) "__init__" p2) [.Name "self" p3, .Constant (.str txt) ck p4] [] p5) X.env = (do
      let ow ← eval (.Name b p1) X.env
      standAt p2.atName
      let (fx, fst) ← holding [ow] (getMethod ow "__init__" pl)
      callWith p5 fx fst (backTo p5 (starEach [.Name "self" p3, .Constant (.str txt) ck p4] X.env)) (backToKw p5 (keywordEach [] X.env)))) 
    (hs1 : swapsWith (.Call (.Attribute (.Name b p1) "__init__" p2) [.Name "self" p3, .Constant (.str txt) ck p4] [] p5) none p6.line X.env = pure false) (hs2 : swapsWith (.Name x p9) (some (.Attribute (.Name "self" p7) f p8)) p10.line X.env = pure false) :
    ∃ t, PSs X [.Expr (.Call (.Attribute (.Name b p1) "__init__" p2) [.Name "self" p3, .Constant (.str txt) ck p4] [] p5) p6, .Assign [.Attribute (.Name "self" p7) f p8] (.Name x p9) p10] t ∧
      ∀ (D : Ends) (σ : St) (H : Hp) (a : Addr) (v : V), σ[0]? = some (some (.ref a)) → σ[1]? = some (some v) → H a = some (exo a C none) → (∀ d, H d = none → d ≠ a → D.nx σ (upd (upd H d (exd d [(f, v)])) a (exo a C (some d)))) → t D σ H := by
  have e0 : PE X (.Name "self" p3) (tVar 0) := pe_var hN0 hv0 (by decide) (by decide)
  have e0' : PE X (.Name "self" p7) (tVar 0) := pe_var hN0 hv0 (by decide) (by decide)
  have e1 : PE X (.Name x p9) (tVar 1) := pe_var hN1 hv1 hd1 hd2
  refine ⟨_, pss_cons (ps_expr (pe_binit hg hm B (pa_cons e0 (pa_cons pe_str pa_nil)) hc hdb) hs1) (pss_one (ps_ost (f := f) e0' e1 hs2)), ?_⟩
  intro D σ H a v s0 s1 ha k
  refine ⟨.ref a, s0, ?_⟩
  refine ⟨a, C, [.str txt], rfl, by simp, O, ha, ?_⟩
  refine ⟨v, s1, .ref a, s0, a, C, rfl, O, hn, .inl ⟨ha, fun d hd ne => k d hd ne⟩⟩
/-- an error class: its facts, what its __init__ promises -/
structure XcE (P : Program) (w : World) (K : PySem.W.Frag) (mg : Str → Option Value) (base : Heap) (k : Nat) (c f : Str) : Prop where
  fc : ExcF K c f
  ex : ∃ fd ps, FnOk P w K mg base (L2.CX P w) k (He.ma K (He.ga K c) "__init__") fd ps (spExc K (He.ga K c) f) ∧ Binds K fd ps []
  gl : mg c = some (.ref (He.ga K c))
theorem exc_ok {P : Program} {w : World} {K : PySem.W.Frag} {mg : Str → Option Value} {base : Heap} {c f x qual : Str} {st : Stmt} {fd : FuncData} (F : FunD K "__init__" qual (defArgs st) (defBody st) (defScope st) [] [] (He.ma K (He.ga K c) "__init__") fd) (S : FnScope [("self" : Str), x] [("self" : Str), x] (defScope st))
    (fc : ExcF K c f) (gl : mg c = some (.ref (He.ga K c)))
    (b : ∀ (kV doc pm : Value) (an : Option Addr) (cdv ct : Value) (us : List Value), us.length = [("self" : Str), x].length → bindArgs (PySem.W.fnOf "__init__" qual (defArgs st) (defBody st) (defScope st) .none kV doc pm an cdv ct) ⟨us, []⟩ = pure ([("self" : Str), x].zip us))
    (hb : ∀ (cdv : Value) (A : Around) (outer : List PySem.Env) (s : Shared) (H : Hp) (E : XK), ∃ t, PSs (cxOf (L2.CX P w) P w K mg base [("self" : Str), x] qual (defScope st) (He.ma K (He.ga K c) "__init__") cdv A outer s H E) (defBody st) t ∧
      ∀ (D : Ends) (σ : St) (H : Hp) (a : Addr) (v : V), σ[0]? = some (some (.ref a)) → σ[1]? = some (some v) → H a = some (exo a (He.ga K c) none) → (∀ d, H d = none → d ≠ a → D.nx σ (upd (upd H d (exd d [(f, v)])) a (exo a (He.ga K c) (some d)))) → t D σ H) :
    XcE P w K mg base 1 c f := by
  refine ⟨fc, ⟨fd, [("self" : Str), x], F.ok S (fun vs H Q E h => ?_) fun cdv A outer s H vs Q E hr h => ?_, F.bindsN b⟩, gl⟩
  · obtain ⟨a, v, rfl, _⟩ := h
    rfl
  · obtain ⟨a, v, rfl, ha, k⟩ := h
    obtain ⟨t, p, q⟩ := hb cdv A outer s H E
    exact ⟨t, p, q _ _ H a v rfl rfl ha k⟩
def sRaise (c f : Str) (a : Mo D) : Mo Fl := mBind a fun d _ => some (.error (c, [(f, d)]))
section
variable {X : Cx} {E : XK}
theorem s_raise {k : Nat} {c f : Str} {e : Expr} {g : Mo D} {p pos pos2 : Pos} (hX : XcE X.prog X.w X.K X.mg X.base k c f) (hr : Room (k + 1) X.A) (calm : X.calm = true) (tk : Takes X (fun cls d _ H => E cls d H)) (h : EV X E e g)
    (hg : Gl X c := by rfl) (hdb : (c == ("__debug__" : Str)) = false := by decide) (he : starEach [e] X.env = (false, eval e X.env) :: starEach [] X.env := by rfl) (hpl : (backTo pos (starEach [] X.env)).any (·.1) = false := by rfl) :
    SV X E (.Raise (some (.Call (.Name c p) [e] [] pos)) none pos2) (sRaise c f g) := by
  obtain ⟨fc, ⟨fd, ps, F1, bnd⟩, gl⟩ := hX
  obtain ⟨t, pt, q⟩ := h
  have no : Passes (L2.CX X.prog X.w) X (fun _ _ _ => False) := passes_call tk fun _ _ _ _ z => z.elim
  refine ⟨_, ps_raise calm tk (pmk_oex fc.o fc.i fc.t F1 hr bnd .nil no hg gl (pa_cons pt pa_nil he) hdb he hpl), fun G ρ σ H De j h => ?_⟩
  refine q G ρ σ H _ j (PostS.imp h fun G1 ρ1 v H1 d e1 r1 h1 => ?_)
  refine ⟨by simp, fun a na => ⟨a, v, rfl, upd_same, fun dd hd ne => ⟨rfl, dd, [(f, v)], upd_same, ?_, ?_, h1 _ _ _ ?_⟩⟩⟩
  · rw [upd_ne ne, upd_same]
  · rwa [upd_ne ne] at hd
  · have hd1 : H1 dd = none := by rwa [upd_ne ne] at hd
    have other : ∀ b, b ≠ dd → b ≠ a → upd (L2.del (upd (upd (upd H1 a (exo a (He.ga X.K c) none)) dd (exd dd [(f, v)])) a (exo a (He.ga X.K c) (some dd))) a) dd (.xd [(f, v)]) b = H1 b := fun b n1 n2 => by
      rw [upd_ne n1, del_ne n2, upd_ne n2, upd_ne n1, upd_ne n2]
    have stays : ∀ b o, H1 b = some o → upd (L2.del (upd (upd (upd H1 a (exo a (He.ga X.K c) none)) dd (exd dd [(f, v)])) a (exo a (He.ga X.K c) (some dd))) a) dd (.xd [(f, v)]) b = some o := fun b o z => by
      rw [other b (fun e => by rw [e, hd1] at z; cases z) (fun e => by rw [e, na] at z; cases z)]
      exact z
    refine ⟨rfl, G1, fun _ _ z => z, fun b o z => stays b o (e1.j.sub b o z), fun b hb => .inl hb, fun b o z _ => stays b o z, fun b hb => ?_, .inr ⟨dd, [(f, v)], rfl, upd_same, .cons r1 .nil⟩⟩
    by_cases n1 : b = dd
    · rw [n1, upd_same] at hb; cases hb
    · by_cases n2 : b = a
      · rw [n2]; exact na
      · rw [other b n1 n2] at hb; exact hb
end
end HB
namespace HB
open PySem L2
abbrev botK : XK := fun _ _ _ => False
def mSafe {α : Type} (f : Mo α) : Mo α := fun ρ => match f ρ with
  | some (.ok p) => some (.ok p)
  | _ => none
theorem passB {X : Cx} {pn : List (Addr × Obj)} {xe : Value → Shared → Prop} : Passes (L2.CX X.prog X.w) (X.tr pn xe) botK := fun _ _ _ _ _ _ _ c => by
  obtain ⟨_, _, _, _, _, _, _, _, _, _, _, _, z⟩ := c
  exact z.elim
/-- the body of a try: an exception that leaves it finds the slots as they are -/
def BX (X : Cx) (body : List Stmt) (g : Mo Fl) : Prop := ∀ (W : WX) (pn : List (Addr × Obj)) (xe : Value → Shared → Prop), Takes (X.tr pn xe) W →
  ∃ t, PSs (X.tr pn xe) body t ∧ ∀ G ρ σ H De, J X.K G ρ σ H → PostS X.K (WE W σ) G ρ σ H De (g ρ) → t De σ H
section
variable {X : Cx}
theorem safe_post {α β : Type} {K : PySem.W.Frag} {E : XK} {G H : Hp} {ρ : En} {σ : St} {De : Ends} {f : Mo α} {k : α → Mo Fl} {R : Hp → β → α → Prop} {Q : β → Hp → Prop} (h : PostS K E G ρ σ H De (mBind (mSafe f) k ρ))
    (go : ∀ G1 ρ1 v H1 a, Ex K G ρ σ H G1 ρ1 σ H1 → R G1 v a → PostS K E G1 ρ1 σ H1 De (k a ρ1) → Q v H1) : Post K botK R G ρ σ H Q (f ρ) := by
  unfold mBind mSafe at h
  cases q : f ρ with
  | none => simp only [q] at h; exact h
  | some r =>
    cases r with
    | error x => simp only [q] at h; exact h.elim
    | ok p =>
      obtain ⟨ρ1, a⟩ := p
      simp only [q] at h
      exact fun G1 v H1 z r => go G1 ρ1 v H1 a z r (PostS.ex z h)
/-- what is left of a call in a try's body -/
def xEnd (F : Fn) (k : D → Mo Fl) (ds : List D) : Mo Fl := fun ρ => match F ds with
  | none => none
  | some (.error x) => some (.error x)
  | some (.ok d) => k d ρ
def xCall (F : Fn) (f : Mo (List D)) (k : D → Mo Fl) : Mo Fl := mBind (mSafe f) (xEnd F k)
theorem call_x {F : Fn} {n : Nat} {W : WX} {t : TA} {f : Mo (List D)} {k : D → Mo Fl} {G H : Hp} {ρ : En} {σ : St} {De : Ends} {Q : VK} (q : ∀ G ρ σ H Q, J X.K G ρ σ H → Post X.K botK (RpAll X.K) G ρ σ H Q (f ρ) → t σ H Q) (hl : ∀ ds, F ds ≠ none → ds.length = n) (j : J X.K G ρ σ H)
    (h : PostS X.K (WE W σ) G ρ σ H De (xCall F f k ρ)) (kk : ∀ G1 ρ1 d v H1, J X.K G1 ρ1 σ H1 → Rp X.K G1 v d → PostS X.K (WE W σ) G1 ρ1 σ H1 De (k d ρ1) → Q v H1) : tCallS (spP X.K n F) (WE W) t σ H Q := by
  refine q G ρ σ H _ j (safe_post h fun G1 ρ1 vs H1 ds e1 r1 h1 => ?_)
  unfold xEnd at h1
  cases hF : F ds with
  | none => simp only [hF] at h1; exact h1.elim
  | some r =>
    simp only [hF] at h1
    refine ⟨G1, ds, e1.j.sub, r1, hl ds (by rw [hF]; simp), ?_⟩
    rw [hF]
    cases r with
    | error x => exact fun C dx H2 z => h1 C dx H2 z.of0
    | ok d => exact fun G2 v H2 p r => kk G2 ρ1 d v H2 (e1.j.ex p).j r (PostS.ex (e1.j.ex p) h1)
theorem bx_call {k : Nat} {x : Str} {ps : List Str} {F : Fn} {p pos pos2 : Pos} {e : Expr} {es : List Expr} {f : Mo (List D)} (hF : FnE X.prog X.w X.K X.mg X.base k x ps F) (hr : Room k X.A) (ha : ∀ pn xe, EA (X.tr pn xe) botK (e :: es) f)
    (hg : Gl X x := by rfl) (hdb : (x == ("__debug__" : Str)) = false := by decide) (he : starEach (e :: es) X.env = (false, eval e X.env) :: starEach es X.env := by rfl) (hpl : (backTo pos (starEach es X.env)).any (·.1) = false := by rfl)
    (hs : swapsWith (.Call (.Name x p) (e :: es) [] pos) none pos2.line X.env = pure false := by rfl) : BX X [.Expr (.Call (.Name x p) (e :: es) [] pos) pos2] (xCall F f fun _ => sNext) := by
  intro W pn xe tk
  obtain ⟨⟨fd, h1, h2⟩, kp, gl, hl⟩ := hF
  obtain ⟨t, pt, q⟩ := ha pn xe
  exact ⟨_, pss_one (ps_expr (pe_callS (X := X.tr pn xe) (E := WE W) h1 hr hg gl kp h2 (fun σ => passAt tk σ) pt hdb he hpl) hs), fun G ρ σ H De j h => call_x q hl j h fun G1 ρ1 d v H1 j1 _ z => z G1 σ H1 j1.refl⟩
theorem bx_set {k i : Nat} {x y : Str} {ps : List Str} {F : Fn} {p p2 pos pos2 : Pos} {e : Expr} {es : List Expr} {f : Mo (List D)} (hF : FnE X.prog X.w X.K X.mg X.base k x ps F) (hr : Room k X.A) (ha : ∀ pn xe, EA (X.tr pn xe) botK (e :: es) f) (hN : X.N.Nodup) (hi : X.N[i]? = some y := by rfl)
    (hx : Loc X.env.scope y := by first | exact Or.inl rfl | exact Or.inr rfl) (hg : Gl X x := by rfl) (hdb : (x == ("__debug__" : Str)) = false := by decide) (he : starEach (e :: es) X.env = (false, eval e X.env) :: starEach es X.env := by rfl) (hpl : (backTo pos (starEach es X.env)).any (·.1) = false := by rfl)
    (hs : swapsWith (.Call (.Name x p) (e :: es) [] pos) (some (.Name y p2)) pos2.line X.env = pure false := by rfl) (hf : X.fn y = true ∨ X.env.scope.names.lookup y = some .local := by first | exact .inl rfl | exact .inr rfl | assumption) :
    BX X [.Assign [.Name y p2] (.Call (.Name x p) (e :: es) [] pos) pos2] (xCall F f fun d ρ => some (.ok (ρ.set i (.pur d), .nx))) := by
  intro W pn xe tk
  obtain ⟨⟨fd, h1, h2⟩, kp, gl, hl⟩ := hF
  obtain ⟨t, pt, q⟩ := ha pn xe
  exact ⟨_, pss_one (ps_set (X := X.tr pn xe) hN hi hx (pe_callS (X := X.tr pn xe) (E := WE W) h1 hr hg gl kp h2 (fun σ => passAt tk σ) pt hdb he hpl) hs hf), fun G ρ σ H De j h => call_x q hl j h fun G1 ρ1 d v H1 j1 r z => z G1 _ H1 (Ex.set j1 i r)⟩
theorem bx_if {c : Expr} {a b : List Stmt} {pos : Pos} {fc : Mo Bool} {fa fb : Mo Fl} (hc : ∀ pn xe, ET (X.tr pn xe) botK c fc) (ha : BX X a fa) (hb : BX X b fb) : BX X [.If c a b pos] (mBind (mSafe fc) fun z => bif z then fa else fb) := by
  intro W pn xe tk
  obtain ⟨tc, pc, qc⟩ := hc pn xe
  obtain ⟨ta, pa, qa⟩ := ha W pn xe tk
  obtain ⟨tb, pb, qb⟩ := hb W pn xe tk
  refine ⟨_, pss_one (ps_if pc pa pb), fun G ρ σ H De j h => qc G ρ σ H _ j (safe_post h fun G1 ρ1 z H1 z2 e1 r1 h1 => ?_)⟩
  subst r1
  cases z with
  | true => exact qa G1 ρ1 σ H1 De e1.j h1
  | false => exact qb G1 ρ1 σ H1 De e1.j h1
end
end HB
namespace HB
open PySem L2
/-- the caught error lies so -/
structure Held (K : PySem.W.Frag) (a : Addr) (cls : Value) (d : Option Addr) (i : Nat) (G : Hp) (σ : St) (H : Hp) (x : Exn) : Prop where
  s : σ[i]? = some (some (.ref a))
  c : cls = .ref (He.ga K x.1)
  f : ∃ dd fs, d = some dd ∧ H dd = some (.xd fs) ∧ RpF K G fs (x.2.map fun p => (.str p.1, p.2))
  sub : Same G H
theorem Held.px {K : PySem.W.Frag} {a : Addr} {cls : Value} {d : Option Addr} {i : Nat} {G G1 H H1 : Hp} {σ : St} {x : Exn} (h : Held K a cls d i G σ H x) (p : PX G H G1 H1) : Held K a cls d i G1 σ H1 x :=
  ⟨h.s, h.c, let ⟨dd, fs, e1, e2, e3⟩ := h.f; ⟨dd, fs, e1, p.h _ _ e2, e3.mono p.g⟩, p.s⟩
/-- an expression in the suite, a test in it -/
def HV (X : Cx) (i : Nat) (e : Expr) (f : Exn → Option D) : Prop := ∀ (a : Addr) (oe : Obj) (cls : Value) (d : Option Addr) (pn : List (Addr × Obj)), Zc cls d oe → (∃ vs, oe.data = .fields vs) →
  ∃ t, PE (X.suite a ((a, oe) :: pn)) e t ∧ ∀ G σ H Q x y, Held X.K a cls d i G σ H x → f x = some y → (∀ G1 v H1, PX G H G1 H1 → Rp X.K G1 v y → Q v H1) → t σ H Q
def HT (X : Cx) (i : Nat) (e : Expr) (f : Exn → Option Bool) : Prop := ∀ (a : Addr) (oe : Obj) (cls : Value) (d : Option Addr) (pn : List (Addr × Obj)), Zc cls d oe → (∃ vs, oe.data = .fields vs) →
  ∃ t, PT (X.suite a ((a, oe) :: pn)) e t ∧ ∀ G σ H Q x b, Held X.K a cls d i G σ H x → f x = some b → Q b H → t σ H Q
def HW (X : Cx) (i : Nat) (e : Expr) (f : Exn → Option Bool) : Prop := ∀ (a : Addr) (oe : Obj) (cls : Value) (d : Option Addr) (pn : List (Addr × Obj)), Zc cls d oe → (∃ vs, oe.data = .fields vs) →
  ∃ t, PW (X.suite a ((a, oe) :: pn)) e t ∧ ∀ G σ H Q x b, Held X.K a cls d i G σ H x → f x = some b → Q b H → t σ H Q
def fldX (c f : Str) (x : Exn) : Option D := match x with
  | (c2, [(g, y)]) => if c2 = c ∧ g = f then some y else none
  | _ => none
section
variable {X : Cx} {i : Nat}
theorem hv_str {z : Str} {k : Nat} {pos : Pos} : HV X i (.Constant (.str z) k pos) fun _ => some (.str z) := fun a oe cls d pn _ _ =>
  ⟨_, pe_str, fun G σ H Q x y h e k => by cases e; exact k G _ H (.refl h.sub) (.str z)⟩
theorem hv_fld {c f n : Str} {p pos : Pos} (fc : ExcF X.K c f) (hN : X.N[i]? = some n) (hv : Vis X.env.scope n := by first | exact Or.inl rfl | exact Or.inr (Or.inl rfl) | exact Or.inr (Or.inr rfl)) (hd : (n == ("__debug__" : Str)) = false := by decide) (hcd : (n == ("__classdict__" : Str)) = false := by decide)
    (hb : attributeBase (.Name n p) f X.env (eval (.Name n p) X.env) = eval (.Name n p) X.env := by rfl) : HV X i (.Attribute (.Name n p) f pos) (fldX c f) := by
  intro a oe cls d pn hz ho
  refine ⟨_, pe_xf fc.x fc.n hz ho (pe_var (X := X.suite a ((a, oe) :: pn)) hN hv hd hcd) hb, ?_⟩
  intro G σ H Q x y h e k
  obtain ⟨c2, l⟩ := x
  match l, e with
  | [(g, z)], e =>
    obtain ⟨⟨e1, e2⟩, e3⟩ := ite_some (show (if c2 = c ∧ g = f then some z else none) = some y from e)
    subst e1 e2 e3
    obtain ⟨dd, fs, r1, r2, r3⟩ := h.f
    match fs, r3 with
    | [(_, v)], .cons rv .nil => exact ⟨_, h.s, rfl, h.c, dd, _, v, r1, r2, by simp [List.lookup], k G v H (.refl h.sub) rv⟩
def isX (c : Str) (b : Bool) (x : Exn) : Option Bool := if x.1 = c then some b else none
/-- what isinstance wants of an error class -/
def isxB (K : PySem.W.Frag) (c : Str) : Bool := (PySem.W.clsIn K (He.ga K c)).isSome && (He.eqO (PySem.W.findIn K (.ref (He.ga K c)) "__class__") (some (some (.builtin "object.__class__"))) && (decide (PySem.W.specialIn K (.builtin "object.__class__") "__get__" = some (some (.builtin "getset_descriptor.__get__"))) &&
  (decide (PySem.W.takesIn K (.builtin "object.__class__") = some true) && decide (PySem.W.mroIn K (He.ga K c) (.type "object") = some true))))
structure IsxF (K : PySem.W.Frag) (c : Str) : Prop where
  cl : (PySem.W.clsIn K (He.ga K c)).isSome = true
  ha : PySem.W.findIn K (.ref (He.ga K c)) "__class__" = some (some (.builtin "object.__class__"))
  (hn : PySem.W.specialIn K (.builtin "object.__class__") "__get__" = some (some (.builtin "getset_descriptor.__get__"))) (ht : PySem.W.takesIn K (.builtin "object.__class__") = some true)
  hm : PySem.W.mroIn K (He.ga K c) (.type "object") = some true
theorem isxB_ok {K : PySem.W.Frag} {c : Str} (h : isxB K c = true) : IsxF K c := by
  have ⟨h1, h⟩ := He.ba h
  have ⟨h2, h⟩ := He.ba h
  have ⟨h3, h⟩ := He.ba h
  have ⟨h4, h5⟩ := He.ba h
  exact ⟨h1, He.eqO_ok h2, of_decide_eq_true h3, of_decide_eq_true h4, of_decide_eq_true h5⟩
def rIsX (K : PySem.W.Frag) (c : Str) (a : Addr) (cls : Value) (d : Option Addr) : List V → Hp → VK → Prop := fun xs H Q => ∃ (C2 : Addr) (b : Bool) (dd : Addr) (fs : List (Str × V)), xs = [.ref a, .ref C2] ∧ cls = .ref (He.ga K c) ∧ d = some dd ∧ H dd = some (.xd fs) ∧ PySem.W.kitOne K (.ref (He.ga K c)) (.ref C2) = some b ∧ Q (.bl b) H
theorem call_isX {c : Str} {a : Addr} {oe : Obj} {cls : Value} {d : Option Addr} {pn : List (Addr × Obj)} (x : XfC X.K (He.ga X.K c)) (S : IsxF X.K c) (hz : Zc cls d oe) (ho : ∃ vs, oe.data = .fields vs) : CallR (X.suite a ((a, oe) :: pn)) (.builtin "isinstance") (rIsX X.K c a cls d) := by
  intro pins s σ H xs us Q I r ask
  obtain ⟨C2, b, dd, fs, rfl, rfl, rfl, hd, kit, q⟩ := ask
  match us, r with
  | [_, _], .cons rfl (.cons rfl .nil) =>
    obtain ⟨here, _⟩ := I.pin (a, oe) (List.mem_append_left _ List.mem_cons_self)
    obtain ⟨vs, hv⟩ := ho
    obtain ⟨mA, hns, _⟩ := (show ObjOk X.prog X.w H s.heap dd (.xd fs) from I.hok dd _ hd)
    obtain ⟨od, look, _⟩ := lookIn_ns hns
    have inst : PySem.W.InstAt s.heap a oe (He.ga X.K c) (some od) := ⟨here, hz.1, by unfold PySem.W.notCls; rw [hv] <;> rfl, by rw [hz.2]; exact look⟩
    exact PySem.W.kia_one (PySem.W.kitx_exc S.cl x.ga x.gg x.exC S.ha S.hn S.ht S.hm) I.kIn inst kit (fun z => nomatch z) fun tk => ⟨.bl b, H, I.kept (t' := tk) fun _ _ z => z, rfl, q⟩
theorem ht_isi {c c2 n f : Str} {b : Bool} {p p1 p2 pos : Pos} (fc : ExcF X.K c f) (S : IsxF X.K c) (kit : PySem.W.kitOne X.K (.ref (He.ga X.K c)) (.ref (He.ga X.K c2)) = some b) (hm : X.mg "isinstance" = none) (gl : X.mg c2 = some (.ref (He.ga X.K c2))) (hN : X.N[i]? = some n)
    (hv : Vis X.env.scope n := by first | exact Or.inl rfl | exact Or.inr (Or.inl rfl) | exact Or.inr (Or.inr rfl)) (hd : (n == ("__debug__" : Str)) = false := by decide) (hcd : (n == ("__classdict__" : Str)) = false := by decide) (hg : Gl X "isinstance" := by rfl) (hg2 : Gl X c2 := by rfl) (hd2 : (c2 == ("__debug__" : Str)) = false := by decide)
    (he : starEach [.Name n p1, .Name c2 p2] X.env = (false, eval (.Name n p1) X.env) :: starEach [.Name c2 p2] X.env := by rfl) (hpl : (backTo pos (starEach [.Name c2 p2] X.env)).any (·.1) = false := by rfl)
    (ht : ∀ whole, isTrue (.Call (.Name "isinstance" p) [.Name n p1, .Name c2 p2] [] pos) X.env whole = (do let v ← whole; standAt (Expr.pos (.Call (.Name "isinstance" p) [.Name n p1, .Name c2 p2] [] pos)); holding [v] (truthy v)) := by intro _; rfl) :
    HT X i (.Call (.Name "isinstance" p) [.Name n p1, .Name c2 p2] [] pos) (isX c b) := by
  intro a oe cls d pn hz ho
  have e1 : PE (X.suite a ((a, oe) :: pn)) (.Name n p1) (tVar i) := pe_var hN hv hd hcd
  have e2 : PE (X.suite a ((a, oe) :: pn)) (.Name c2 p2) (tC (.ref (He.ga X.K c2))) := ⟨fun pins s σ H Q I h => ld_glob I hg2 gl ⟨.ref (He.ga X.K c2), H, I, rfl, h⟩ hd2⟩
  refine ⟨_, pt_val (X := X.suite a ((a, oe) :: pn)) (pe_callB (call_isX fc.x S hz ho) hg hm (by decide +kernel) (pa_cons e1 (pa_cons e2 pa_nil) he) (by decide) (by decide) he hpl) ht, ?_⟩
  intro G σ H Q x y h e k
  obtain ⟨e3, e4⟩ := ite_some (show (if x.1 = c then some b else none) = some y from e)
  subst e4
  obtain ⟨dd, fs, r1, r2, _⟩ := h.f
  refine ⟨_, h.s, ?_⟩
  refine ⟨He.ga X.K c2, b, dd, fs, rfl, by rw [h.c, e3], r1, r2, kit, ?_⟩
  exact ⟨b, rfl, k⟩
def notX (f : Exn → Option Bool) (x : Exn) : Option Bool := (f x).map not
theorem ht_not {e : Expr} {pos : Pos} {f : Exn → Option Bool} (h : HT X i e f) : HT X i (.UnaryOp .Not e pos) (notX f) := by
  intro a oe cls d pn hz ho
  obtain ⟨t, p, q⟩ := h a oe cls d pn hz ho
  refine ⟨_, pt_not p, fun G σ H Q x b hh e k => ?_⟩
  unfold notX at e
  cases hf : f x with
  | none => (rw [hf] at e); cases e
  | some z =>
    rw [hf] at e
    cases e
    exact q G σ H _ x z hh hf k
theorem hw_one {e : Expr} {pos : Pos} {f : Exn → Option Bool} (h : HT X i e f) : HW X i (.BoolOp .And [e] pos) f := fun a oe cls d pn hz ho => let ⟨t, p, q⟩ := h a oe cls d pn hz ho; ⟨t, pw_and1 p, q⟩
def andX (f g : Exn → Option Bool) (x : Exn) : Option Bool := match f x with
  | none => none
  | some false => some false
  | some true => g x
theorem hw_and {e b : Expr} {rest : List Expr} {pos : Pos} {f g : Exn → Option Bool} (h : HT X i e f) (h2 : HW X i (.BoolOp .And (b :: rest) pos) g) : HW X i (.BoolOp .And (e :: b :: rest) pos) (andX f g) := by
  intro a oe cls d pn hz ho
  obtain ⟨t, p, q⟩ := h a oe cls d pn hz ho
  obtain ⟨t2, p2, q2⟩ := h2 a oe cls d pn hz ho
  refine ⟨_, pw_and p p2, fun G σ H Q x z hh e k => ?_⟩
  unfold andX at e
  cases hf : f x with
  | none => simp only [hf] at e; cases e
  | some y =>
    cases y with
    | false =>
      simp only [hf] at e
      cases e
      exact q G σ H _ x false hh hf k
    | true =>
      simp only [hf] at e
      exact q G σ H _ x true hh hf (q2 G σ H _ x z hh e k)
theorem HW.t {e : Expr} {f : Exn → Option Bool} (h : HW X i e f) : HT X i e f := fun a oe cls d pn hz ho => let ⟨t, p, q⟩ := h a oe cls d pn hz ho; ⟨t, p.pt, q⟩
def ifX (c : Exn → Option Bool) (f g : Exn → Option D) (x : Exn) : Option D := match c x with
  | none => none
  | some true => f x
  | some false => g x
theorem hv_if {c e1 e2 : Expr} {pos : Pos} {fc : Exn → Option Bool} {f g : Exn → Option D} (hc : HT X i c fc) (h1 : HV X i e1 f) (h2 : HV X i e2 g) : HV X i (.IfExp c e1 e2 pos) (ifX fc f g) := by
  intro a oe cls d pn hz ho
  obtain ⟨t, p, q⟩ := hc a oe cls d pn hz ho
  obtain ⟨t1, p1, q1⟩ := h1 a oe cls d pn hz ho
  obtain ⟨t2, p2, q2⟩ := h2 a oe cls d pn hz ho
  refine ⟨_, pe_ifExp p p1 p2, fun G σ H Q x y hh e k => ?_⟩
  unfold ifX at e
  cases hf : fc x with
  | none => simp only [hf] at e; cases e
  | some b =>
    cases b with
    | true => simp only [hf] at e; exact q G σ H _ x true hh hf (q1 G σ H _ x y hh e k)
    | false => simp only [hf] at e; exact q G σ H _ x false hh hf (q2 G σ H _ x y hh e k)
def lst1X (f : Exn → Option D) (x : Exn) : Option D := (f x).map fun y => .list [y]
def lst2X (f g : Exn → Option D) (x : Exn) : Option D := match f x, g x with
  | some y, some z => some (.list [y, z])
  | _, _ => none
theorem hv_lst1 {e : Expr} {pos : Pos} {f : Exn → Option D} (h : HV X i e f) (he : starEach [e] X.env = (false, eval e X.env) :: starEach [] X.env := by rfl) : HV X i (.List [e] pos) (lst1X f) := by
  intro a oe cls d pn hz ho
  obtain ⟨t, p, q⟩ := h a oe cls d pn hz ho
  refine ⟨_, pe_lst (pa_cons p pa_nil he), fun G σ H Q x y hh e k => ?_⟩
  unfold lst1X at e
  cases hf : f x with
  | none => (rw [hf] at e); cases e
  | some z =>
    rw [hf] at e
    cases e
    refine q G σ H _ x z hh hf fun G1 v H1 px r => ⟨by show 1 ≤ sizeLine; decide, fun b hb => ?_⟩
    have p2 := PX.alloc px.s hb (.lst [v])
    exact k _ _ _ (px.trans p2) (.lst upd_same (.cons (r.mono p2.g) .nil))
theorem hv_lst2 {e1 e2 : Expr} {pos : Pos} {f g : Exn → Option D} (h1 : HV X i e1 f) (h2 : HV X i e2 g) (he : starEach [e1, e2] X.env = (false, eval e1 X.env) :: starEach [e2] X.env := by rfl) (he2 : starEach [e2] X.env = (false, eval e2 X.env) :: starEach [] X.env := by rfl) : HV X i (.List [e1, e2] pos) (lst2X f g) := by
  intro a oe cls d pn hz ho
  obtain ⟨t1, p1, q1⟩ := h1 a oe cls d pn hz ho
  obtain ⟨t2, p2, q2⟩ := h2 a oe cls d pn hz ho
  refine ⟨_, pe_lst (pa_cons p1 (pa_cons p2 pa_nil he2) he), fun G σ H Q x y hh e k => ?_⟩
  unfold lst2X at e
  cases hf : f x with
  | none => simp only [hf] at e; cases e
  | some u =>
    cases hg : g x with
    | none => simp only [hf, hg] at e; cases e
    | some w =>
      simp only [hf, hg] at e
      cases e
      refine q1 G σ H _ x u hh hf fun G1 v1 H1 px1 r1 => q2 G1 σ H1 _ x w (hh.px px1) hg fun G2 v2 H2 px2 r2 => ⟨by show 2 ≤ sizeLine; decide, fun b hb => ?_⟩
      have p3 := PX.alloc px2.s hb (.lst [v1, v2])
      exact k _ _ _ ((px1.trans px2).trans p3) (.lst upd_same (.cons ((r1.mono px2.g).mono p3.g) (.cons (r2.mono p3.g) .nil)))
end
def calmE : En → Bool
  | [] => true
  | .no :: ρ => calmE ρ
  | .pur _ :: ρ => calmE ρ
  | _ :: _ => false
theorem calmE_get : ∀ {ρ : En} {i : Nat} {s : Sl} {ds : List D}, calmE ρ = true → ρ[i]? = some s → s.ls = some ds → False
  | .no :: ρ, 0, _, _, _, e, h => by cases e; cases h
  | .pur _ :: ρ, 0, _, _, _, e, h => by cases e; cases h
  | .no :: ρ, i + 1, _, _, n, e, h => calmE_get (ρ := ρ) (i := i) n (by simpa using e) h
  | .pur _ :: ρ, i + 1, _, _, n, e, h => calmE_get (ρ := ρ) (i := i) n (by simpa using e) h
  | [], _, _, _, _, e, _ => by simp at e
theorem calmE_d {ρ : En} {σ : St} (n : calmE ρ = true) (b : Addr) : ¬ Ownd ρ σ b := fun ⟨_, _, _, e, h, _⟩ => calmE_get n e h
/-- a slot goes -/
theorem Ex.drop {K : PySem.W.Frag} {G H : Hp} {ρ : En} {σ : St} (j : J K G ρ σ H) (i : Nat) : Ex K G ρ σ H G (ρ.set i .no) (σ.set i none) H := by
  have other : ∀ (k : Nat) (s : Sl), (ρ.set i .no)[k]? = some s → s ≠ .no → k ≠ i ∧ ρ[k]? = some s := fun k s e n => by
    by_cases c : k = i
    · subst c
      rw [List.getElem?_set] at e
      split at e
      · split at e
        · cases e; exact absurd rfl n
        · cases e
      · rename_i c2; exact absurd rfl c2
    · exact ⟨c, by rwa [List.getElem?_set_ne (Ne.symm c)] at e⟩
  have lsne : ∀ (s : Sl) (ds : List D), s.ls = some ds → s ≠ .no := fun s ds h e => by subst e; cases h
  have own2 : ∀ b, Ownd (ρ.set i .no) (σ.set i none) b → Ownd ρ σ b := fun b ⟨k, s, ds, e, h, z⟩ => by
    obtain ⟨n1, n2⟩ := other k s e (lsne s ds h)
    exact ⟨k, s, ds, n2, h, by rwa [List.getElem?_set_ne (Ne.symm n1)] at z⟩
  refine ⟨⟨j.sub, by simp [j.len], fun k d e => ?_, fun k s ds e h => ?_, fun k l s t ds es b e1 h1 e2 h2 z1 z2 => ?_⟩, fun _ _ z => z, fun b h => .inl h, fun b o e _ => e, fun b z => .inl (own2 b z), fun b h => h, fun k ds e => ?_⟩
  · obtain ⟨n1, n2⟩ := other k _ e (fun z => nomatch z)
    obtain ⟨v, q1, q2⟩ := j.pur k d n2
    exact ⟨v, by rw [List.getElem?_set_ne (Ne.symm n1)]; exact q1, q2⟩
  · obtain ⟨n1, n2⟩ := other k s e (lsne s ds h)
    obtain ⟨a, vs, q1, q2⟩ := j.own k s ds n2 h
    exact ⟨a, vs, by rw [List.getElem?_set_ne (Ne.symm n1)]; exact q1, q2⟩
  · obtain ⟨n1, n2⟩ := other k s e1 (lsne s ds h1)
    obtain ⟨m1, m2⟩ := other l t e2 (lsne t es h2)
    exact j.dis k l s t ds es b n2 h1 m2 h2 (by rwa [List.getElem?_set_ne (Ne.symm n1)] at z1) (by rwa [List.getElem?_set_ne (Ne.symm m1)] at z2)
  · obtain ⟨n1, n2⟩ := other k _ e (fun z => nomatch z)
    exact ⟨⟨ds, n2⟩, List.getElem?_set_ne (Ne.symm n1)⟩
def sTry1 (c : Str) (i j : Nat) (g : Mo Fl) (f : Exn → Option D) : Mo Fl := fun ρ => match calmE ρ && (Nat.blt i ρ.length && Nat.blt j ρ.length) with
  | false => none
  | true => match g ρ with
    | none => none
    | some (.ok p) => some (.ok p)
    | some (.error x) => if x.1 = c ∧ x.2.isEmpty = false then (match f x with
      | some y => some (.ok ((ρ.set j (.pur y)).set i .no, .nx))
      | none => none) else none
section
variable {X : Cx} {E : XK}
theorem s_try1 {c n y : Str} {i j : Nat} {body : List Stmt} {g : Mo Fl} {e : Expr} {f : Exn → Option D} {np p2 p3 pos pos2 : Pos} (hs : X.stack = X.env :: X.outer) (hfr : X.env.frame = some X.env.locals) (hN : X.N.Nodup) (hi : X.N[i]? = some n) (hln : X.env.kindOf n = some .local) (hj : X.N[j]? = some y) (hx : Loc X.env.scope y)
    (hfn : X.fn y = true ∨ X.env.scope.names.lookup y = some .local) (ne : i ≠ j) (gl : X.mg c = some (.ref (He.ga X.K c))) (hg : Gl X c) (hdb : (c == ("__debug__" : Str)) = false) (tk : Takes X (fun cls d _ H => E cls d H)) (hb : BX X body g) (hh : HV X i e f)
    (ex : PySem.W.exmOne X.K (.ref (He.ga X.K c)) (.ref (He.ga X.K c)) = some true) (hsw : swapsWith e (some (.Name y p2)) p3.line X.env = pure false) :
    SV X E (.Try body [.ExceptHandler (some (.Name c np)) (some n) [.Assign [.Name y p2] e p3] pos2] [] [] pos) (sTry1 c i j g f) := by
  have names : Names X c (.ref (He.ga X.K c)) := ⟨hg, hdb, .inl gl⟩
  let tb : WX → TS := fun W De σ H => ∃ G ρ, J X.K G ρ σ H ∧ PostS X.K (WE W σ) G ρ σ H De (g ρ)
  let ts : Addr → Value → Option Addr → TS := fun a cls d De σ H => ∃ G x z, Held X.K a cls d i G σ H x ∧ f x = some z ∧ ∀ G1 v H1, PX G H G1 H1 → Rp X.K G1 v z → De.nx (σ.set j (some v)) H1
  have body_ok : ∀ (W : WX) (pn : List (Addr × Obj)) (xe : Value → Shared → Prop), Takes (X.tr pn xe) W → PassesOwn (model X.prog X.w) X.A X.env xe → PSs (X.tr pn xe) body (tb W) := by
    intro W pn xe t _
    obtain ⟨u, p, q⟩ := hb W pn xe t
    exact ⟨fun pins s σ H De I z => let ⟨G, ρ, jj, po⟩ := z; p.run pins s σ H De I (q G ρ σ H De jj po)⟩
  have suite_ok : ∀ (a : Addr) (oe : Obj) (cls : Value) (d : Option Addr) (pn : List (Addr × Obj)), Zc cls d oe → (∃ vs, oe.data = .fields vs) → PSs (X.suite a ((a, oe) :: pn)) [.Assign [.Name y p2] e p3] (ts a cls d) := by
    intro a oe cls d pn hz ho
    obtain ⟨u, p, q⟩ := hh a oe cls d pn hz ho
    have st := pss_one (ps_set (X := X.suite a ((a, oe) :: pn)) (pos := p3) (pos' := p2) hN hj hx p hsw hfn)
    exact ⟨fun pins s σ H De I z => let ⟨G, x, w, held, fx, k⟩ := z; st.run pins s σ H De I (q G σ H _ x w held fx k)⟩
  refine ⟨_, ps_try_as hs hfr hN hi hln names tk body_ok suite_ok, fun G ρ σ H De jj h => ⟨G, ρ, jj, ?_⟩⟩
  unfold sTry1 at h
  cases hn : calmE ρ && (Nat.blt i ρ.length && Nat.blt j ρ.length) with
  | false => simp only [hn] at h; exact h.elim
  | true =>
    simp only [hn] at h
    cases hgr : g ρ with
    | none => simp only [hgr] at h; exact h.elim
    | some r =>
      simp only [hgr] at h
      cases r with
      | ok p =>
        obtain ⟨ρ1, fl⟩ := p
        cases fl <;> exact h
      | error x =>
        simp only at h
        by_cases hc : x.1 = c ∧ x.2.isEmpty = false
        · rw [if_pos hc] at h
          cases hfx : f x with
          | none => simp only [hfx] at h; exact h.elim
          | some z =>
            simp only [hfx] at h
            intro C dx H2 xp
            obtain ⟨xc, G2, s1, s2, new, kept, dom, fl⟩ := xp
            refine ⟨true, by rw [xc, hc.1]; exact ex, fun _ a na => ?_, fun z => nomatch z⟩
            obtain ⟨n0, n12⟩ := He.ba hn
            obtain ⟨n1, n2⟩ := He.ba n12
            have li : i < σ.length := by rw [← jj.len]; exact Nat.le_of_ble_eq_true n1
            have dict : ∃ dd fs, dx = some dd ∧ H2 dd = some (.xd fs) ∧ RpF X.K G2 fs (x.2.map fun p => (.str p.1, p.2)) := by
              rcases fl with ⟨_, z⟩ | z
              · have := hc.2
                rw [z] at this
                cases this
              · exact z
            refine ⟨G2, x, z, ⟨List.getElem?_set_self li, xc, dict, s2⟩, hfx, fun G3 v H3 px r => ?_⟩
            have j2 : J X.K G2 ρ σ H2 := ⟨s2, jj.len, fun k d e => let ⟨v, q1, q2⟩ := jj.pur k d e; ⟨v, q1, q2.mono s1⟩, fun k s ds e h => (calmE_get n0 e h).elim, fun k l s t ds es b e1 h1 _ _ _ _ => (calmE_get n0 e1 h1).elim⟩
            have e2 : Ex X.K G ρ σ H G2 ρ σ H2 := ⟨j2, s1, new, kept, fun b z => absurd z (calmE_d n0 b), dom, fun k ds e => (calmE_get (ds := ds) n0 e rfl).elim⟩
            have e3 := e2.trans (j2.ex px)
            have e4 := e3.trans (Ex.set e3.j j r)
            have e5 := e4.trans (Ex.drop e4.j i)
            have eq : ((σ.set i (some (V.ref a))).set j (some v)).set i none = (σ.set j (some v)).set i none := by
              rw [List.set_comm _ _ ne, List.set_set]
            have := h G3 _ H3 e5
            show De.nx (((σ.set i (some (V.ref a))).set j (some v)).set i none) H3
            rw [eq]
            exact this
        · rw [if_neg hc] at h; exact h.elim
end
end HB
namespace HB
open PySem L2
section
variable {X : Cx}
theorem make_at {CX : CXT} {k : Nat} {C f : Addr} {fd : FuncData} {ps : List Str} {sp : Sp} {Ez : XK} {pins : List (Addr × Obj)} {σ : St} {H : Hp} {s : Shared} {Q : VK} {us : List Value} {vs : List V} (M : Mk X.K C f) (F : FnOk X.prog X.w X.K X.mg X.base CX k f fd ps sp) (room : Room (k + 1) X.A) (bnd : Binds X.K fd ps [])
    (pass : PassesAt CX X σ Ez) (I : Inv X pins σ H s) (rel : Vals vs us) (want : ∀ x dx, H x = none → H dx = none → dx ≠ x → sp (.ref x :: vs) (upd (upd H dx (.own x)) x (.ins C dx [])) (fun v H2 => v = .non ∧ Q (.ref x) H2) Ez) : wpAny (model X.prog X.w) X.A (call (.ref C) us) (EP X pins σ Q) X.xe s := by
  have made := Inv.made (C := C) I
  have now := want (s.heap.objs.size + 1) s.heap.objs.size (I.hok.fresh (Nat.le_succ _)) (I.hok.fresh (Nat.le_refl _)) (Nat.ne_of_lt (Nat.lt_succ_self _))
  have rel2 : Vals (V.ref (s.heap.objs.size + 1) :: vs) (Value.ref (s.heap.objs.size + 1) :: us) := .cons rfl rel
  have many : (Value.ref (s.heap.objs.size + 1) :: us).length = ps.length := rel2.length.symm.trans (F.len _ _ _ _ now)
  have bd := bnd _ (Value.ref (s.heap.objs.size + 1) :: us) made.kIn (by rw [List.append_nil]; exact many)
  rw [List.append_nil] at bd
  refine wpAny_call (make_map (f := f) I.kIn M.makes M.init (beq_iff_eq.mp M.fn) (codeAny_mono (F.run _ X.stack _ _ ⟨Value.ref (s.heap.objs.size + 1) :: us, []⟩ _ _ _ Ez (room.make C us []) (made.env0.make C us []) bd rel2 now) ?_))
  intro r s2 z
  match r, z with
  | .error e, z => exact pass pins _ _ e s2 made z
  | .ok .next, z => exact z.elim
  | .ok .brk, z => exact z.elim
  | .ok .cont, z => exact z.elim
  | .ok (.ret u), z =>
    obtain ⟨v, H3, I3, rv, ev, q3⟩ := made.after z
    subst ev
    exact ⟨rv, ⟨V.ref (s.heap.objs.size + 1), H3, I3, rfl, q3⟩⟩
def tMakeS (C : Addr) (sp : Sp) (W : WX) (t : TA) : TE := fun σ H Q => tMake C sp [] (WE W σ) t σ H Q
theorem pe_makeS {k : Nat} {c : Str} {C f : Addr} {fd : FuncData} {ps : List Str} {sp : Sp} {W : WX} {e : Expr} {es : List Expr} {t : TA} {p pos : Pos} (tk : Takes X W) (M : Mk X.K C f) (F : FnOk X.prog X.w X.K X.mg X.base (L2.CX X.prog X.w) k f fd ps sp) (room : Room (k + 1) X.A) (bnd : Binds X.K fd ps []) (hg : Gl X c) (gl : X.mg c = some (.ref C)) (ha : PA X (e :: es) t)
    (hdb : (c == ("__debug__" : Str)) = false := by decide) (he : starEach (e :: es) X.env = (false, eval e X.env) :: starEach es X.env := by rfl) (hpl : (backTo pos (starEach es X.env)).any (·.1) = false := by rfl) : PE X (.Call (.Name c p) (e :: es) [] pos) (tMakeS C sp W t) := by
  refine ⟨fun pins s σ H Q I h => wpAny_Call_Name_kw (ld_glob I hg gl ?_ hdb)⟩
  refine PySem.W.callWith_K (h₀ := X.base) I.ok.mod.kin M.kp (thn (ha.run pos pins s σ H _ I h) ?_) he hpl
  rintro us s1 ⟨vs, H1, I1, r, q⟩
  exact ⟨I1.kIn, make_at M F room bnd (passAt tk σ) I1 r fun x dx n1 n2 ne => by have := q x dx n1 n2 ne; rwa [List.append_nil] at this⟩
theorem safe_conv {α β : Type} {K : PySem.W.Frag} {E : XK} {R : Hp → β → α → Prop} {G H : Hp} {ρ : En} {σ : St} {Q : β → Hp → Prop} {f : Mo α} (h : Post K E R G ρ σ H Q (mSafe f ρ)) : Post K botK R G ρ σ H Q (f ρ) := by
  unfold mSafe at h
  cases q : f ρ with
  | none => simp only [q] at h; exact h
  | some r =>
    cases r with
    | error x => simp only [q] at h; exact h.elim
    | ok p => simp only [q] at h; exact h
theorem bx_make {k n : Nat} {c : Str} {F : FnI} {p pos pos2 : Pos} {e : Expr} {es : List Expr} {f : Mo (List D)} (hF : MkE X.prog X.w X.K X.mg X.base k c n F) (hr : Room (k + 1) X.A) (ha : ∀ pn xe, EA (X.tr pn xe) botK (e :: es) f)
    (hg : Gl X c := by rfl) (hdb : (c == ("__debug__" : Str)) = false := by decide) (he : starEach (e :: es) X.env = (false, eval e X.env) :: starEach es X.env := by rfl) (hpl : (backTo pos (starEach es X.env)).any (·.1) = false := by rfl)
    (hs : swapsWith (.Call (.Name c p) (e :: es) [] pos) none pos2.line X.env = pure false := by rfl) : BX X [.Expr (.Call (.Name c p) (e :: es) [] pos) pos2] (sDrop (mMake c F (mSafe f))) := by
  intro W pn xe tk
  obtain ⟨M, ⟨fd, ps, h1, h2⟩, gl, hl⟩ := hF
  obtain ⟨t, pt, q⟩ := ha pn xe
  refine ⟨_, pss_one (ps_expr (pe_makeS (X := X.tr pn xe) tk M h1 hr h2 hg gl pt hdb he hpl) hs), fun G ρ σ H De j h => ?_⟩
  exact make_sem (X := X.tr pn xe) (E := WE W σ) (f := mSafe f) (fun G ρ σ2 H Q j h => q G ρ σ2 H Q j (safe_conv h)) hl G ρ σ H _ j (PostS.imp h fun G1 ρ1 v H1 a e1 r1 h1 => h1 G1 σ H1 e1.j.refl)
end
def obsE (fa : List He.Fa) (fn : List He.DefD) (tp : List (Str × List He.Dv)) (xs : List (PySem.W.Frag → Bool)) (K : PySem.W.Frag) : AlX := (He.obsD fa fn K, (tp.all fun p => tupN K p.1 p.2) && xs.all fun p => p K)
def obsEG (n : Nat) (fa : List He.Fa) (fn : List He.DefD) (tp : List (Str × List He.Dv)) (xs : List (PySem.W.Frag → Bool)) (g : Addr → Option Obj) : AlX := obsE fa fn tp xs (He.frG g (cStatics :: He.asD g n))
def hookE (n : Nat) (fa : List He.Fa) (fn : List He.DefD) (tp : List (Str × List He.Dv)) (xs : List (PySem.W.Frag → Bool)) : PySem.W.Hook where
  α := AlX
  obs := fun s => obsEG n fa fn tp xs s.heap.get?
  val := fun _ => (He.valD fn, true)
  says := fun _ h => ∃ K : PySem.W.Frag, K.In h ∧ He.SaysD fa fn K ∧ (tp.all fun p => tupN K p.1 p.2) = true ∧ (xs.all fun p => p K) = true
  of := fun _ _ e => ⟨_, He.frG_in, congrArg Prod.fst e, He.ba (congrArg Prod.snd e)⟩
  keeps := fun _ _ _ y k => let ⟨K, hK, said⟩ := y; ⟨K, hK.keeps k, said⟩
theorem obsEG_eq {n : Nat} {fa : List He.Fa} {fn : List He.DefD} {tp : List (Str × List He.Dv)} {xs : List (PySem.W.Frag → Bool)} {g : Addr → Option Obj} {s : Shared} (h : ∀ a, g a = s.heap.get? a) : obsEG n fa fn tp xs g = (hookE n fa fn tp xs).obs s := by
  rw [show g = fun a => s.heap.get? a from funext h]
  rfl
theorem xs_ok {xs : List (PySem.W.Frag → Bool)} {K : PySem.W.Frag} (c : (xs.all fun p => p K) = true) (i : Nat) {p : PySem.W.Frag → Bool} (h : xs[i]? = some p) : p K = true := List.all_eq_true.mp c p (List.mem_of_getElem? h)
end HB
namespace HB
open PySem L2
/-- of what type the other thing is -/
def typB (c : Str) : D → Bool
  | .none => true
  | .bool _ => true
  | .int _ => true
  | .str _ => true
  | .list _ => true
  | .tuple _ => true
  | .dict ((.str c2, .none) :: _) => decide (c2 = c)
  | _ => false
/-- what the written part says of the types -/
def eqB (K : PySem.W.Frag) (c : Str) : Bool := ["NoneType", "bool", "int", "str", "list", "tuple"].all fun T => decide (PySem.W.subIn K (.type T) (.ref (He.ga K c)) = some false)
theorem eqB_ok {K : PySem.W.Frag} {c : Str} (h : eqB K c = true) {T : String} (m : T ∈ ["NoneType", "bool", "int", "str", "list", "tuple"]) : PySem.W.notFirst K (He.ga K c) (.type T) = true := by
  have e := of_decide_eq_true (List.all_eq_true.mp h T m)
  unfold PySem.W.notFirst
  rw [e]
  simp
def rEqO (K : PySem.W.Frag) (C : Addr) (sp : Sp) (E : XK) : R2 := fun x y H Q => ∃ a dx fs tb, x = .ref a ∧ H a = some (.ins C dx fs) ∧ TyX K H y tb ∧ PySem.W.notFirst K C tb = true ∧ sp [.ref a, y] H (fun v H2 => (∃ b, v = .bl b) ∧ Q v H2) E
section
variable {X : Cx} {E : XK}
theorem op_eqO {k : Nat} {C f : Addr} {fd : FuncData} {ps : List Str} {sp : Sp} (me : Meth X.K C "__eq__" f) (F : FnOk X.prog X.w X.K X.mg X.base (L2.CX X.prog X.w) k f fd ps sp) (hr : Room k X.A) (bnd : Binds X.K fd ps []) (pass : Passes (L2.CX X.prog X.w) X E) : OpR X (compareOp .Eq) (rEqO X.K C sp E) := by
  intro pins s σ H x y v u Q I rx ry want
  obtain ⟨a, dx, fs, tb, rfl, ha, ty, nf, q⟩ := want
  cases rx
  have ⟨_, ob, _⟩ := ins_get I.hok ha
  have ⟨od, at_, _⟩ := ob.look
  obtain ⟨m, fr⟩ := I.fr
  show wpAny (model X.prog X.w) X.A (richCompare .Eq (.ref a) u) (EP X pins σ Q) X.xe s
  obtain ⟨P, kx, p, _⟩ := kit_of I ry ty
  refine PySem.W.cmp_K (op := .Eq) hr.units0 fr I.ok.mod.kin at_ (kx.ty _ _ I.kIn p) nf me.at_ me.fn ?_
  have go := run_fnS (E := fun _ => E) F hr bnd (fun pins H s e s2 J c => pass pins σ H s e s2 J c) I (show Vals [V.ref a, y] [Value.ref a, u] from .cons rfl (.cons ry .nil)) q
  refine wpAny_mono go ?_ (fun _ _ z => z)
  rintro r s2 ⟨w, H2, I2, rw, ⟨b, eb⟩, q2⟩
  subst eb
  cases rw
  exact ⟨.bl b, H2, I2, rfl, q2⟩
def eqOD (c : Str) (F : Fn) (a b : D) : Option D := match isObj c "__eq__" a && typB c b with
  | false => none
  | true => match F [a, b] with
    | some (.ok (.bool z)) => some (.bool z)
    | _ => none
theorem Rp.typ {K : PySem.W.Frag} {G H : Hp} {v : V} {d : D} {c : Str} (s : Same G H) (cl : Cls K (He.ga K c)) (S : IsxF K c) (ok : eqB K c = true) (r : Rp K G v d) (h : typB c d = true) : ∃ tb, TyX K H v tb ∧ PySem.W.notFirst K (He.ga K c) tb = true := by
  have go : ∀ {n : String}, tyD d = some n → n ∈ ["NoneType", "bool", "int", "str", "list", "tuple"] → ∃ tb, TyX K H v tb ∧ PySem.W.notFirst K (He.ga K c) tb = true := fun e m => ⟨_, r.ty s e, eqB_ok ok m⟩
  cases r with
  | non => exact go rfl (by simp)
  | bl b => exact go rfl (by simp)
  | int i => exact go rfl (by simp)
  | str x => exact go rfl (by simp)
  | lst h1 h2 => exact go rfl (by simp)
  | tup h1 h2 => exact go rfl (by simp)
  | @obj a dx c2 fs kvs h1 h2 =>
    have e : c2 = c := of_decide_eq_true h
    subst e
    exact ⟨.ref (He.ga K c2), .base (.ins (s _ _ h1) cl S.ha S.hn S.ht S.hm), by unfold PySem.W.notFirst; simp⟩
  | frz h1 h2 => cases h
  | adr a => cases h
  | fn x => cases h
theorem dop_eqO {k n : Nat} {c : Str} {F : Fn} (hM : MeE X.prog X.w X.K X.mg X.base k c "__eq__" n F) (hr : Room k X.A) (pass : Passes (L2.CX X.prog X.w) X E) (S : IsxF X.K c) (ok : eqB X.K c = true) : DOp X (compareOp .Eq) (eqOD c F) := by
  obtain ⟨hc, me, ⟨fd, ps, h1, h2⟩, hl⟩ := hM
  refine ⟨_, op_eqO me h1 hr h2 pass, fun G H x y a b z Q s hx hy h k => ?_⟩
  unfold eqOD at h
  cases hb : isObj c "__eq__" a && typB c b with
  | false => simp only [hb] at h; cases h
  | true =>
    simp only [hb] at h
    obtain ⟨b1, b2⟩ := He.ba hb
    obtain ⟨ad, dx, fs, rfl, z1, _⟩ := hx.isObj b1
    obtain ⟨tb, t1, t2⟩ := hy.typ s hc S ok b2
    match hF : F [a, b], h with
    | some (.ok (.bool w)), h =>
      simp only [hF] at h
      cases h
      refine ⟨ad, dx, fs, tb, rfl, s _ _ z1, t1, t2, G, [a, b], s, .cons hx (.cons hy .nil), hl _ (by rw [hF]; simp), ?_⟩
      rw [hF]
      intro G2 u H2 px ru
      cases ru
      exact ⟨⟨w, rfl⟩, k G2 _ H2 px (.bl w)⟩
    | none, h => simp only [hF] at h; cases h
    | some (.error e), h => simp only [hF] at h; cases h
    | some (.ok .none), h => simp only [hF] at h; cases h
    | some (.ok (.int _)), h => simp only [hF] at h; cases h
    | some (.ok (.str _)), h => simp only [hF] at h; cases h
    | some (.ok (.list _)), h => simp only [hF] at h; cases h
    | some (.ok (.tuple _)), h => simp only [hF] at h; cases h
    | some (.ok (.dict _)), h => simp only [hF] at h; cases h
/-- two readings of one operator, by the left thing -/
def orD (p : D → Bool) (f g : D → D → Option D) (a b : D) : Option D := bif p a then f a b else g a b
theorem DOp.or {op : Value → Value → Sem Value} {f g : D → D → Option D} (p : D → Bool) (hf : DOp X op f) (hg : DOp X op g) : DOp X op (orD p f g) := by
  obtain ⟨r1, o1, q1⟩ := hf
  obtain ⟨r2, o2, q2⟩ := hg
  refine ⟨fun x y H Q => r1 x y H Q ∨ r2 x y H Q, fun pins s σ H x y v u Q I rx ry h => h.elim (fun z => o1 pins s σ H x y v u Q I rx ry z) fun z => o2 pins s σ H x y v u Q I rx ry z, fun G H x y a b c Q s hx hy h k => ?_⟩
  unfold orD at h
  cases hp : p a with
  | true => rw [hp] at h; exact .inl (q1 G H x y a b c Q s hx hy h k)
  | false => rw [hp] at h; exact .inr (q2 G H x y a b c Q s hx hy h k)
def isOD (c : Str) : D → Option Bool
  | .none => some false
  | .bool _ => some false
  | .int _ => some false
  | .str _ => some false
  | .list _ => some false
  | .tuple _ => some false
  | .dict ((.str c2, .none) :: _) => if c2 = c then some true else none
  | _ => none
def isoB (K : PySem.W.Frag) (c : Str) : Bool := ["NoneType", "bool", "int", "str", "list", "tuple"].all fun T => decide (PySem.W.kitOne K (.type T) (.ref (He.ga K c)) = some false)
def rIsO (K : PySem.W.Frag) (C : Addr) : List V → Hp → VK → Prop := fun xs H Q => ∃ x t b, xs = [x, .ref C] ∧ TyX K H x t ∧ PySem.W.kitOne K t (.ref C) = some b ∧ Q (.bl b) H
theorem call_isO {C : Addr} : CallR X (.builtin "isinstance") (rIsO X.K C) := by
  intro pins s σ H xs us Q I r ask
  obtain ⟨x, t, b, rfl, ty, kit, q⟩ := ask
  match us, r with
  | [_, _], .cons rx (.cons rfl .nil) =>
    obtain ⟨P, kx, p, no⟩ := kit_of I rx ty
    exact PySem.W.kia_one kx I.kIn p kit no fun tk => ⟨.bl b, H, I.kept (t' := tk) fun _ _ z => z, rfl, q⟩
theorem Rp.isO {K : PySem.W.Frag} {G H : Hp} {v : V} {d : D} {c : Str} {b : Bool} (s : Same G H) (cl : Cls K (He.ga K c)) (S : IsxF K c) (ok : isoB K c = true) (r : Rp K G v d) (h : isOD c d = some b) : ∃ t, TyX K H v t ∧ PySem.W.kitOne K t (.ref (He.ga K c)) = some b := by
  have go : ∀ {n : String}, tyD d = some n → n ∈ ["NoneType", "bool", "int", "str", "list", "tuple"] → b = false → ∃ t, TyX K H v t ∧ PySem.W.kitOne K t (.ref (He.ga K c)) = some b := fun e m eb => ⟨_, r.ty s e, by rw [eb]; exact of_decide_eq_true (List.all_eq_true.mp ok _ m)⟩
  cases r with
  | non => cases h; exact go rfl (by simp) rfl
  | bl b => cases h; exact go rfl (by simp) rfl
  | int i => cases h; exact go rfl (by simp) rfl
  | str x => cases h; exact go rfl (by simp) rfl
  | lst h1 h2 => cases h; exact go rfl (by simp) rfl
  | tup h1 h2 => cases h; exact go rfl (by simp) rfl
  | @obj a dx c2 fs kvs h1 h2 =>
    obtain ⟨e, e2⟩ := ite_some (show (if c2 = c then some true else none) = some b from h)
    subst e e2
    exact ⟨.ref (He.ga K c2), .base (.ins (s _ _ h1) cl S.ha S.hn S.ht S.hm), by unfold PySem.W.kitOne; simp⟩
  | frz h1 h2 => cases h
  | adr a => cases h
  | fn x => cases h
theorem ev_isO {c : Str} {e : Expr} {f : Mo D} {p p2 pos : Pos} (cl : Cls X.K (He.ga X.K c)) (S : IsxF X.K c) (ok : isoB X.K c = true) (h : EV X E e f) (hm : X.mg "isinstance" = none) (gl : X.mg c = some (.ref (He.ga X.K c))) (hg : Gl X "isinstance" := by rfl) (hg2 : Gl X c := by rfl) (hd2 : (c == ("__debug__" : Str)) = false := by decide)
    (he : starEach [e, .Name c p2] X.env = (false, eval e X.env) :: starEach [.Name c p2] X.env := by rfl) (hpl : (backTo pos (starEach [.Name c p2] X.env)).any (·.1) = false := by rfl) : EV X E (.Call (.Name "isinstance" p) [e, .Name c p2] [] pos) (mIsi (isOD c) f) := by
  obtain ⟨t, pt, q⟩ := h
  have e2 : PE X (.Name c p2) (tC (.ref (He.ga X.K c))) := ⟨fun pins s σ H Q I h => ld_glob I hg2 gl ⟨.ref (He.ga X.K c), H, I, rfl, h⟩ hd2⟩
  refine ⟨_, pe_callB (call_isO (C := He.ga X.K c)) hg hm (by decide +kernel) (pa_cons pt (pa_cons e2 pa_nil) he) (by decide) (by decide) he hpl, fun G ρ σ H Q j h => q G ρ σ H _ j (Post.imp h fun G1 ρ1 v H1 d e1 r1 h1 => ?_)⟩
  obtain ⟨z, hz, k⟩ := Post.lift (ρ' := ρ1) h1
  cases hb : isOD c d with
  | none => rw [hb] at hz; cases hz
  | some b =>
    rw [hb] at hz
    cases hz
    obtain ⟨ty, t1, t2⟩ := r1.isO e1.j.sub cl S ok hb
    exact ⟨v, ty, b, rfl, t1, t2, k G1 _ H1 e1.j.refl (.bl b)⟩
end
def neB (K : PySem.W.Frag) (c : Str) : Bool := match K.lookup (He.ga K c) with
  | some ⟨.type "type", _, .cls kd, sl⟩ => (match kd.mro, sl.toList with
    | [.ref C2, .type "object"], [_, _, _, _, some (.builtin _), _] => decide (C2 = He.ga K c) && (!kd.hasDel && (PySem.W.nsOkIn K kd.ns && (He.eqO (PySem.W.nsIn K kd.ns "__eq__") (some (some (.ref (He.ma K (He.ga K c) "__eq__")))) && (He.eqO (PySem.W.nsIn K kd.ns "__ne__") (some none) &&
      (match K.lookup (He.ma K (He.ga K c) "__eq__") with
        | some o => o.cls == .type "function"
        | none => false)))))
    | _, _ => false)
  | _ => false
theorem ns_some {K : PySem.W.Frag} {h : Heap} {N : Addr} {m : Str → Option Value} {x : Str} {v : Value} (kin : K.In h) (G : h.Ns N m) (e : PySem.W.nsIn K N x = some (some v)) : m x = some v := by
  obtain ⟨o, es, ep, ho, hd, _, all⟩ := G
  rw [← all x]
  unfold PySem.W.nsIn at e
  split at e
  · rename_i oc od es2 ep2 sl look
    have same := ho.symm.trans (kin _ _ look)
    cases same
    have e2 : es2 = es := by cases hd; rfl
    subst e2
    split at e
    · rename_i en found
      cases e
      obtain ⟨l⟩ := es2
      unfold nsFind findBy; simp only [List.find?_toArray]
      exact congrArg (Option.map (·.val)) found
    · split at e <;> cases e
  · cases e
theorem neB_ok {K : PySem.W.Frag} {c : Str} {h : Heap} {x : Addr} {ox : Obj} (ok : neB K c = true) (kin : K.In h) (hx : h.get? x = some ox) (hc : ox.cls = .ref (He.ga K c)) : h.OwnEqNoNe x (He.ga K c) (He.ma K (He.ga K c) "__eq__") "object" [.type "object"] := by
  unfold neB at ok
  split at ok
  · rename_i dd kd sl look
    split at ok
    · rename_i C2 k0 k1 k2 k3 n k5 mro slots
      have ⟨e1, ok⟩ := He.ba ok
      have ⟨e2, ok⟩ := He.ba ok
      have ⟨e3, ok⟩ := He.ba ok
      have ⟨e4, ok⟩ := He.ba ok
      have ⟨e5, e6⟩ := He.ba ok
      split at e6
      · rename_i of lf
        obtain ⟨nm, bs, mr, ns, qn, hd, sn, sub, ab, col, del⟩ := kd
        have es : sl = #[k0, k1, k2, k3, some (.builtin n), k5] := by
          obtain ⟨l⟩ := sl
          exact congrArg Array.mk slots
        have e1 := of_decide_eq_true e1
        have e2 : del = false := by simpa using e2
        have mro : mr = [.ref C2, .type "object"] := mro
        subst e2 mro es
        rw [e1] at look
        have nsp : h.Ns ns (h.nsMap ns) := .of_isNs (PySem.W.isNs_of_in kin e3)
        exact ⟨ox, of, nm, qn, ns, bs, hd, sn, sub, ab, col, dd, k0, k1, k2, k3, k5, n, h.nsMap ns, _, hx, hc, kin _ _ look, nsp, ns_some kin nsp (He.eqO_ok e4), kin _ _ lf, beq_iff_eq.mp e6, PySem.F.cmp_object.mro, PySem.F.cmp_object.eq.lookup, PySem.W.nsMap_none_of_in kin e3 (He.eqO_ok e5)⟩
      · cases e6
    · cases ok
  · cases ok
section
variable {X : Cx} {E : XK}
/-- a def run one built-in deep -/
theorem fn_in1 {CX : CXT} {k : Nat} {f : Addr} {fd : FuncData} {ps : List Str} {sp : Sp} (F : FnOk X.prog X.w X.K X.mg X.base CX k f fd ps sp) (hr : Room (k + 1) X.A) (bnd : Binds X.K fd ps []) (pass : Passes CX X E)
    {pins : List (Addr × Obj)} {σ : St} {H : Hp} {s : Shared} {Q : VK} {us : List Value} {vs : List V} (I : Inv X pins σ H s) (r : Vals vs us) (h : sp vs H Q E) : wpAny (model X.prog X.w) X.A.in1 (call (.ref f) us) (EP X pins σ Q) X.xe s := by
  have bd : BindsTo s fd ⟨us, []⟩ (ps.zip us) := by
    have z := bnd s us I.kIn (by rw [List.append_nil, ← r.length]; exact F.len _ _ _ _ h)
    rwa [List.append_nil] at z
  refine wpAny_call (codeAny_mono (F.run _ X.stack s H ⟨us, []⟩ us vs Q E hr.in1 I.env0.in1 bd r h) fun o s2 q => ?_)
  match o, q with
  | .error e, q => exact pass pins σ H s e s2 I q
  | .ok (.ret w), q => exact I.after q
def rNeO (C : Addr) (sp : Sp) (E : XK) : R2 := fun x y H Q => ∃ a b dx dy fs gs, x = .ref a ∧ y = .ref b ∧ H a = some (.ins C dx fs) ∧ H b = some (.ins C dy gs) ∧ sp [.ref a, .ref b] H (fun v H2 => ∃ z, v = .bl z ∧ Q (.bl (!z)) H2) E
theorem op_neO {k : Nat} {c : Str} {fd : FuncData} {ps : List Str} {sp : Sp} (ok : neB X.K c = true) (F : FnOk X.prog X.w X.K X.mg X.base (L2.CX X.prog X.w) k (He.ma X.K (He.ga X.K c) "__eq__") fd ps sp) (hr : Room (k + 1) X.A) (bnd : Binds X.K fd ps []) (pass : Passes (L2.CX X.prog X.w) X E) : OpR X (compareOp .NotEq) (rNeO (He.ga X.K c) sp E) := by
  intro pins s σ H x y v u Q I rx ry want
  obtain ⟨a, b, dx, dy, fs, gs, rfl, rfl, ha, hb, q⟩ := want
  cases rx
  cases ry
  have ⟨_, oa, _⟩ := ins_get I.hok ha
  have ⟨_, aa, _⟩ := oa.look
  have ⟨_, ob, _⟩ := ins_get I.hok hb
  have ⟨_, bb, _⟩ := ob.look
  obtain ⟨hp, g, d, t, os⟩ := s
  have un := hr.un
  refine compareOp_ne_ownEq PySem.F.cmp_object (neB_ok ok I.kIn aa.at_ aa.cls) bb.at_ bb.cls (by omega) (wpAny_mono (fn_in1 F hr bnd pass I (show Vals [V.ref a, V.ref b] [Value.ref a, Value.ref b] from .cons rfl (.cons rfl .nil)) q) ?_ (fun _ _ z => z))
  rintro r s2 ⟨w, H2, I2, rw, z, ez, q2⟩
  subst ez
  cases rw
  exact ⟨z, rfl, .bl (!z), H2, I2, rfl, q2⟩
def neOD (c : Str) (F : Fn) (a b : D) : Option D := match isObj c "__eq__" a && isObj c "__eq__" b with
  | false => none
  | true => match F [a, b] with
    | some (.ok (.bool z)) => some (.bool (!z))
    | _ => none
theorem dop_neO {k n : Nat} {c : Str} {F : Fn} (hM : MeE X.prog X.w X.K X.mg X.base k c "__eq__" n F) (hr : Room (k + 1) X.A) (pass : Passes (L2.CX X.prog X.w) X E) (ok : neB X.K c = true) : DOp X (compareOp .NotEq) (neOD c F) := by
  obtain ⟨hc, me, ⟨fd, ps, h1, h2⟩, hl⟩ := hM
  refine ⟨_, op_neO ok h1 hr h2 pass, fun G H x y a b z Q s hx hy h k => ?_⟩
  unfold neOD at h
  cases hb : isObj c "__eq__" a && isObj c "__eq__" b with
  | false => simp only [hb] at h; cases h
  | true =>
    simp only [hb] at h
    obtain ⟨b1, b2⟩ := He.ba hb
    obtain ⟨ad, dx, fs, rfl, z1, _⟩ := hx.isObj b1
    obtain ⟨bd, dy, gs, rfl, z2, _⟩ := hy.isObj b2
    match hF : F [a, b], h with
    | some (.ok (.bool w)), h =>
      simp only [hF] at h
      cases h
      refine ⟨ad, bd, dx, dy, fs, gs, rfl, rfl, s _ _ z1, s _ _ z2, G, [a, b], s, .cons hx (.cons hy .nil), hl _ (by rw [hF]; simp), ?_⟩
      rw [hF]
      intro G2 u H2 px ru
      cases ru
      exact ⟨w, rfl, k G2 _ H2 px (.bl _)⟩
    | none, h => simp only [hF] at h; cases h
    | some (.error e), h => simp only [hF] at h; cases h
    | some (.ok .none), h => simp only [hF] at h; cases h
    | some (.ok (.int _)), h => simp only [hF] at h; cases h
    | some (.ok (.str _)), h => simp only [hF] at h; cases h
    | some (.ok (.list _)), h => simp only [hF] at h; cases h
    | some (.ok (.tuple _)), h => simp only [hF] at h; cases h
    | some (.ok (.dict _)), h => simp only [hF] at h; cases h
end
end HB
namespace HB
open PySem L2
section
variable {X : Cx} {E : XK}
def rLenO (C : Addr) (sp : Sp) (E : XK) : List V → Hp → VK → Prop := fun vs H Q => ∃ a dx fs, vs = [.ref a] ∧ H a = some (.ins C dx fs) ∧ sp [.ref a] H (fun v H2 => (∃ n : Nat, v = .int n ∧ n ≤ 1000000) ∧ Q v H2) E
theorem call_lenO {CX : CXT} {k : Nat} {C f : Addr} {fd : FuncData} {ps : List Str} {sp : Sp} (me : Meth X.K C "__len__" f) (F : FnOk X.prog X.w X.K X.mg X.base CX k f fd ps sp) (hr : Room (k + 1) X.A) (hb : Binds X.K fd ps []) (hx : Passes CX X E) : CallR X (.builtin "len") (rLenO C sp E) :=
  fun pins s σ H vs us Q I r ⟨a, dx, fs, e, ha, q⟩ => by
    subst e
    match us, r with
    | [_], .cons rfl .nil =>
      have ⟨_, ob, _⟩ := ins_get I.hok ha
      have ⟨od, at_, _⟩ := ob.look
      obtain ⟨m, fr⟩ := I.fr
      refine PySem.W.len_K fr I.ok.mod.kin at_ me.at_ me.fn (wpAny_mono (fn_in1 (vs := [.ref a]) F hr hb hx I (.cons rfl .nil) q) (fun u s2 z => ?_) fun _ _ z => z)
      obtain ⟨v, H2, I2, rv, ⟨n, ev, hn⟩, qv⟩ := z
      subst ev
      obtain ⟨t, et⟩ := rv
      subst et
      have small : (n : Int) < 2 ^ 63 := by
        have : (2 : Int) ^ 63 = 9223372036854775808 := by decide
        omega
      exact ⟨⟨by omega, small⟩, .int n, H2, I2.tok _, ⟨_, rfl⟩, qv⟩
def mLenObj (c : Str) (F : Fn) (f : Mo D) : Mo D := mBind f fun d => match isObj c "__len__" d with
  | true => fun ρ => (match F [d] with
    | some (.ok (.int i)) => if 0 ≤ i ∧ i ≤ 1000000 then some (.ok (ρ, .int i)) else none
    | some (.error x) => some (.error x)
    | _ => none)
  | false => fun _ => none
theorem ev_lenObj {k n : Nat} {c : Str} {F : Fn} {e : Expr} {f : Mo D} {p pos : Pos} (hM : MeE X.prog X.w X.K X.mg X.base k c "__len__" n F) (hr : Room (k + 1) X.A) (hx : Passes (L2.CX X.prog X.w) X E) (h : EV X E e f) (hm : X.mg "len" = none) (hg : Gl X "len" := by rfl)
    (he : starEach [e] X.env = (false, eval e X.env) :: starEach [] X.env := by rfl) (hpl : (backTo pos (starEach [] X.env)).any (·.1) = false := by rfl) : EV X E (.Call (.Name "len" p) [e] [] pos) (mLenObj c F f) := by
  obtain ⟨hc, me, ⟨fd, ps, h1, h2⟩, hl⟩ := hM
  obtain ⟨t, pt, q⟩ := h
  refine ⟨_, pe_callB (call_lenO me h1 hr h2 hx) hg hm (by decide +kernel) (pa_cons pt pa_nil he) (by decide) (by decide) he hpl, fun G ρ σ H Q j h => q G ρ σ H _ j (Post.imp h fun G1 ρ1 v H1 d e1 r1 h3 => ?_)⟩
  cases hb : isObj c "__len__" d with
  | false => rw [hb] at h3; exact h3.elim
  | true =>
    rw [hb] at h3
    obtain ⟨a, dx, fs, rfl, z1, z2⟩ := r1.isObj hb
    refine ⟨a, dx, fs, rfl, e1.j.sub _ _ z1, G1, [d], e1.j.sub, .cons r1 .nil, ?_, ?_⟩
    · refine hl _ fun no => ?_
      rw [no] at h3
      exact h3
    · match hF : F [d], h3 with
      | none, h3 => simp only [hF] at h3; exact h3.elim
      | some (.error x), h3 => simp only [hF] at h3; exact fun C dx H2 z => h3 C dx H2 z.of0
      | some (.ok (.int i)), h3 =>
        simp only [hF] at h3
        by_cases c : 0 ≤ i ∧ i ≤ 1000000
        · rw [if_pos c] at h3
          intro G2 u H2 px ru
          cases ru
          obtain ⟨m, em⟩ : ∃ m : Nat, i = m := ⟨i.toNat, by omega⟩
          exact ⟨⟨m, by rw [em], by omega⟩, h3 G2 _ H2 (e1.j.ex px) (.int i)⟩
        · rw [if_neg c] at h3; exact h3.elim
      | some (.ok .none), h3 => simp only [hF] at h3; exact h3.elim
      | some (.ok (.bool _)), h3 => simp only [hF] at h3; exact h3.elim
      | some (.ok (.str _)), h3 => simp only [hF] at h3; exact h3.elim
      | some (.ok (.list _)), h3 => simp only [hF] at h3; exact h3.elim
      | some (.ok (.tuple _)), h3 => simp only [hF] at h3; exact h3.elim
      | some (.ok (.dict _)), h3 => simp only [hF] at h3; exact h3.elim
end
mutual
def freeL : D → Bool
  | .list _ => false
  | .tuple ds => freeLs ds
  | .dict kvs => freeLk kvs
  | _ => true
def freeLs : List D → Bool
  | [] => true
  | d :: ds => freeL d && freeLs ds
def freeLk : List (D × D) → Bool
  | [] => true
  | (_, v) :: r => freeL v && freeLk r
end
/-- the cells but some lists -/
noncomputable def less (G : Hp) (P : Addr → Prop) : Hp := fun b => @ite _ (P b) (Classical.propDecidable _) none (G b)
theorem less_in {G : Hp} {P : Addr → Prop} {b : Addr} {o : HO} (h : less G P b = some o) : ¬ P b ∧ G b = some o := by
  unfold less at h
  split at h
  · cases h
  · rename_i n; exact ⟨n, h⟩
theorem less_of {G : Hp} {P : Addr → Prop} {b : Addr} (n : ¬ P b) : less G P b = G b := if_neg n
theorem less_at {G : Hp} {P : Addr → Prop} {b : Addr} (n : P b) : less G P b = none := if_pos n
theorem sqP_less {K : PySem.W.Frag} {G : Hp} {P : Addr → Prop} (hl : ∀ a o, P a → G a = some o → ∃ xs, o = .lst xs) {a : Addr} {xs : List V} (h : SqP K G a xs) : SqP K (less G P) a xs := by
  rcases h with ⟨o, e, n⟩ | h
  · refine .inl ⟨o, ?_, n⟩
    rw [less_of fun m => by obtain ⟨ys, z⟩ := hl a _ m e; cases z]
    exact e
  · exact .inr h
theorem Rp.less {K : PySem.W.Frag} {G : Hp} {P : Addr → Prop} (hl : ∀ a o, P a → G a = some o → ∃ xs, o = .lst xs) {v : V} {d : D} (r : Rp K G v d) : freeL d = true → Rp K (HB.less G P) v d :=
  @Rp.rec K G (fun v d _ => freeL d = true → Rp K (HB.less G P) v d) (fun vs ds _ => freeLs ds = true → RpAll K (HB.less G P) vs ds) (fun fs kvs _ => freeLk kvs = true → RpF K (HB.less G P) fs kvs)
    (fun _ => .non) (fun b _ => .bl b) (fun i _ => .int i) (fun x _ => .str x) (fun _ _ _ f => by simp [freeL] at f) (fun h _ ih f => .tup (sqP_less hl h) (ih (by simpa [freeL] using f))) (fun _ _ _ f => by simp [freeL, freeLk] at f)
    (fun {a dx c fs kvs} h _ ih f => by
      refine .obj (dx := dx) ?_ (ih (by simpa [freeL, freeLk] using f))
      rw [less_of fun m => by obtain ⟨ys, z⟩ := hl a _ m h; cases z]
      exact h) (fun a _ => .adr a) (fun x _ => .fn x)
    (fun _ => .nil) (fun _ _ h t f => by
      simp only [freeLs, Bool.and_eq_true] at f
      exact .cons (h f.1) (t f.2)) (fun _ => .nil) (fun _ _ h t f => by
      simp only [freeLk, Bool.and_eq_true] at f
      exact .cons (h f.1) (t f.2)) v d r
theorem RpAll.less {K : PySem.W.Frag} {G : Hp} {P : Addr → Prop} (hl : ∀ a o, P a → G a = some o → ∃ xs, o = .lst xs) : ∀ {vs : List V} {ds : List D}, RpAll K G vs ds → freeLs ds = true → RpAll K (HB.less G P) vs ds
  | _, _, .nil, _ => .nil
  | _, _, .cons r t, f => by
    simp only [freeLs, Bool.and_eq_true] at f
    exact .cons (r.less hl f.1) (t.less hl f.2)
/-- an expression that changes no slot, but hands own lists out -/
def Keeps {α : Type} (f : Mo α) : Prop := ∀ ρ ρ1 a, f ρ = some (.ok (ρ1, a)) → ρ1.length = ρ.length ∧ ∀ k : Nat, ρ1[k]? = ρ[k]? ∨ ∃ ds, ρ[k]? = some (.own ds) ∧ ρ1[k]? = some (.pur (.list ds))
theorem Keeps.ret {α : Type} (a : α) : Keeps (mRet a) := fun ρ ρ1 b h => by cases h; exact ⟨rfl, fun k => .inl rfl⟩
theorem keeps_tr {ρ ρ1 ρ2 : En} (h1 : ρ1.length = ρ.length ∧ ∀ k : Nat, ρ1[k]? = ρ[k]? ∨ ∃ ds, ρ[k]? = some (.own ds) ∧ ρ1[k]? = some (.pur (.list ds))) (h2 : ρ2.length = ρ1.length ∧ ∀ k : Nat, ρ2[k]? = ρ1[k]? ∨ ∃ ds, ρ1[k]? = some (.own ds) ∧ ρ2[k]? = some (.pur (.list ds))) :
    ρ2.length = ρ.length ∧ ∀ k : Nat, ρ2[k]? = ρ[k]? ∨ ∃ ds, ρ[k]? = some (.own ds) ∧ ρ2[k]? = some (.pur (.list ds)) := by
  refine ⟨h2.1.trans h1.1, fun k => ?_⟩
  rcases h1.2 k with a | ⟨ds, a, b⟩
  · rcases h2.2 k with c | ⟨es, c, d⟩
    · exact .inl (c.trans a)
    · exact .inr ⟨es, a ▸ c, d⟩
  · rcases h2.2 k with c | ⟨es, c, d⟩
    · exact .inr ⟨ds, a, c.trans b⟩
    · rw [b] at c; cases c
theorem Keeps.bind {α β : Type} {f : Mo α} {g : α → Mo β} (hf : Keeps f) (hg : ∀ a, Keeps (g a)) : Keeps (mBind f g) := fun ρ ρ2 b h => by
  unfold mBind at h
  cases q : f ρ with
  | none => simp only [q] at h; cases h
  | some r =>
    cases r with
    | error x => simp only [q] at h; cases h
    | ok p =>
      obtain ⟨ρ1, a⟩ := p
      simp only [q] at h
      exact keeps_tr (hf ρ ρ1 a q) (hg a ρ1 ρ2 b h)
theorem Keeps.lift {α : Type} (o : Option α) : Keeps (mLift o) := fun ρ ρ1 b h => by
  unfold mLift at h
  cases o with
  | none => cases h
  | some a => cases h; exact ⟨rfl, fun k => .inl rfl⟩
theorem Keeps.var (i : Nat) : Keeps (mVar i) := fun ρ ρ1 b h => by
  unfold mVar at h
  cases q : ρ[i]? with
  | none => rw [q] at h; cases h
  | some s =>
    rw [q] at h
    cases s with
    | no => cases h
    | box ds => cases h
    | pur d => cases h; exact ⟨rfl, fun k => .inl rfl⟩
    | own ds =>
      cases h
      refine ⟨by simp, fun k => ?_⟩
      by_cases c : k = i
      · subst c
        have lt : k < ρ.length := (List.getElem?_eq_some_iff.mp q).1
        exact .inr ⟨ds, q, List.getElem?_set_self lt⟩
      · exact .inl (List.getElem?_set_ne (Ne.symm c))
theorem Keeps.cons {a : Mo D} {r : Mo (List D)} (h1 : Keeps a) (h2 : Keeps r) : Keeps (mCons a r) := h1.bind fun _ => h2.bind fun _ => .ret _
theorem Keeps.nil : Keeps mNil := .ret _
theorem Keeps.op {f : D → D → Option D} {a b : Mo D} (h1 : Keeps a) (h2 : Keeps b) : Keeps (mOp f a b) := h1.bind fun _ => h2.bind fun _ => .lift _
theorem Keeps.built {f : List D → Option D} {a : Mo (List D)} (h : Keeps a) : Keeps (mBuilt f a) := h.bind fun _ => .lift _
theorem Keeps.make {c : Str} {F : FnI} {a : Mo (List D)} (h : Keeps a) : Keeps (mMake c F a) := h.bind fun ds ρ ρ1 b e => by
  cases q : F ds with
  | none => rw [q] at e; nomatch e
  | some r =>
    rw [q] at e
    cases r with
    | error x => cases e
    | ok kvs => cases e; exact ⟨rfl, fun k => .inl rfl⟩
def slFree : Sl → Bool
  | .own ds => freeLs ds
  | .box ds => freeLs ds
  | _ => true
theorem Keeps.tup {a : Mo (List D)} (h : Keeps a) : Keeps (mTup a) := h.bind fun ds ρ ρ1 b e => by
  first
  | exact Keeps.ret _ ρ ρ1 b e
  | exact Keeps.lift _ ρ ρ1 b e
/-- what the slots own is lent and given back -/
def mBorrow (f : Mo D) : Mo D := fun ρ => match f ρ with
  | some (.ok (_, d)) => (match freeL d && ρ.all slFree with
    | true => some (.ok (ρ, d))
    | false => none)
  | some (.error x) => some (.error x)
  | none => none
theorem ev_borrow {X : Cx} {E : XK} {e : Expr} {f : Mo D} (h : EV X E e f) (kp : Keeps f) : EV X E e (mBorrow f) := by
  obtain ⟨t, pt, q⟩ := h
  refine ⟨t, pt, fun G ρ σ H Q j h => q G ρ σ H Q j ?_⟩
  unfold mBorrow at h
  match hf : f ρ, h with
  | none, h => exact h
  | some (.error x), h => exact h
  | some (.ok (ρ1, d)), h =>
    simp only at h
    cases c : freeL d && ρ.all slFree with
    | false => rw [c] at h; exact h.elim
    | true =>
      rw [c] at h
      rw [Bool.and_eq_true, List.all_eq_true] at c
      obtain ⟨kl, kk⟩ := kp ρ ρ1 d hf
      intro G1 v H1 ex r
      have lists : ∀ a o, Ownd ρ σ a → G1 a = some o → ∃ xs, o = .lst xs := by
        rintro a o ⟨i, s, ds, h1, h2, h3⟩ ga
        rcases kk i with z | ⟨es, z1, z2⟩
        · obtain ⟨b, vs, w1, _, w3, _⟩ := ex.j.own i s ds (z.trans h1) h2
          rw [h3] at w1; cases w1
          rw [ga] at w3; cases w3
        · obtain ⟨u, w1, w2⟩ := ex.j.pur i _ z2
          rw [h3] at w1; cases w1
          cases w2 with
          | lst g _ => rw [ga] at g; cases g; exact ⟨_, rfl⟩
      have sg : Same G (less G1 (Ownd ρ σ)) := fun b o g => by
        rw [less_of]
        · exact ex.g b o g
        · rintro ⟨i, s, ds, h1, h2, h3⟩
          obtain ⟨a, vs, w1, _, w3, _⟩ := j.own i s ds h1 h2
          rw [h3] at w1; cases w1
          rw [g] at w3; cases w3
      refine h (less G1 (Ownd ρ σ)) v H1 ⟨⟨fun b o g => ex.j.sub b o (less_in g).2, j.len, fun i d hp => ?_, fun i s ds h1 h2 => ?_, j.dis⟩, sg, fun b hb => ?_, ex.kept, fun b hb => .inl hb, ex.dom, fun i ds hb => ⟨⟨ds, hb⟩, rfl⟩⟩ (r.less lists c.1)
      · obtain ⟨u, w1, w2⟩ := j.pur i d hp
        exact ⟨u, w1, w2.mono sg⟩
      · have fr : freeLs ds = true := by
          have := c.2 s (List.mem_of_getElem? h1)
          cases s with
          | no => cases h2
          | pur d => cases h2
          | own es => cases h2; exact this
          | box es => cases h2; exact this
        rcases kk i with z | ⟨es, z1, z2⟩
        · obtain ⟨a, vs, w1, w2, w3, w4⟩ := ex.j.own i s ds (z.trans h1) h2
          exact ⟨a, vs, w1, w2, less_at ⟨i, s, ds, h1, h2, w1⟩, w4.less lists fr⟩
        · rw [h1] at z1; cases z1
          cases h2
          obtain ⟨u, w1, w2⟩ := ex.j.pur i _ z2
          cases w2 with
          | @lst a xs _ g ra => exact ⟨a, xs, w1, ex.j.sub _ _ g, less_at ⟨i, _, ds, h1, rfl, w1⟩, ra.less lists fr⟩
      · apply ex.new b
        intro no
        apply hb
        by_cases p : Ownd ρ σ b
        · exact less_at p
        · rw [less_of p]; exact no
end HB
namespace HB
open PySem L2
def C_PAIR : D := .int 2
def g_Bend___eq__ : Mo Fl := sRet (mAndV (mIsi (isOD "Bend") (mVar 1)) (mOp eqD (mUn (fldD "Bend" "text") (mVar 0)) (mUn (fldD "Bend" "text") (mVar 1))))
def F_Bend___eq__ : Fn := guard 2 (runF 2 g_Bend___eq__)
def g_is_less : Mo Fl := sRet (mOp (cmpD ltI) (mOp mulD (mOp ixD (mVar 0) (mRet (.int 0))) (mOp ixD (mVar 1) (mRet (.int 1)))) (mOp mulD (mOp ixD (mVar 1) (mRet (.int 0))) (mOp ixD (mVar 0) (mRet (.int 1)))))
def F_is_less : Fn := M_is_less
def g_is_sequence : Mo Fl := sRet (mIsi isSeqT (mVar 0))
def F_is_sequence : Fn := guard 1 (runF 1 g_is_sequence)
def g_common_part : Mo Fl := sSeq (sPar2 0 1 (xConsP (mBuilt absD (mCons (mVar 0) (mNil))) (xConsP (mBuilt absD (mCons (mVar 1) (mNil))) (xNil))))
  (sSeq (sWhile (fuelInt 1) (mTest (mOp (cmpD gtI) (mVar 1) (mRet (.int 0)))) (sPar2 0 1 (xConsP (mVar 1) (xConsP (mOp modD (mVar 0) (mVar 1)) (xNil)))))
  (sRet (mVar 0)))
def F_common_part : Fn := M_common_part
def g_is_integer : Mo Fl := sRet (mAndV (mIsi isIntT (mVar 0)) (mNotV (mIsi isBoolT (mVar 0))))
def F_is_integer : Fn := guard 1 (runF 1 g_is_integer)
def g_is_value_1 : Mo Fl := sRet (mAndV (mOp (cmpD gtI) (mOp ixD (mVar 0) (mRet (.int 1))) (mRet (.int 0))) (mOp eqD (mCall F_common_part (mCons (mOp ixD (mVar 0) (mRet (.int 0))) (mCons (mOp ixD (mVar 0) (mRet (.int 1))) (mNil)))) (mRet (.int 1))))
def g_is_value_2 : Mo Fl := sSeq (sIf (mOr (mNot (mTest (mIsi isTupT (mVar 0)))) (mOr (mTest (mOp neD (mBuilt lenD (mCons (mVar 0) (mNil))) (mRet C_PAIR))) (mOr (mNot (mTest (mCall F_is_integer (mCons (mOp ixD (mVar 0) (mRet (.int 0))) (mNil))))) (mNot (mTest (mCall F_is_integer (mCons (mOp ixD (mVar 0) (mRet (.int 1))) (mNil)))))))) (sRet (mRet (.bool false))) (sNext))
  (g_is_value_1)
def g_is_value : Mo Fl := sSeq (sIf (mTest (mCall F_is_integer (mCons (mVar 0) (mNil)))) (sRet (mRet (.bool true))) (sNext))
  (g_is_value_2)
def F_is_value : Fn := guard 1 (runF 1 g_is_value)
def g_value_of : Mo Fl := sRet (mIf (mTest (mCall F_is_integer (mCons (mVar 0) (mNil)))) (mTup (mCons (mVar 0) (mCons (mRet (.int 1)) (mNil)))) (mVar 0))
def F_value_of : Fn := guard 1 (runF 1 g_value_of)
def g_are_marks_1 : Mo Fl := sRet (mAndV (mOp eqD (mOp ixD (mVar 3) (mRet (.int 0))) (mRet (.int 1))) (mAndV (mOp eqD (mOp ixD (mVar 3) (mUn negD (mRet (.int 1)))) (mRet (.int 1))) (mBuilt allD (mCons (mList (mBlk [7] (mSeqS (mSlice (mVar 3) (mPart (mRet (.int 1))) (mPart (mUn negD (mRet (.int 1)))))) (lcBody [7] (gSet 7) (mRet true) (mOp (cmpD leI) (mVar 7) (mVar 0))))) (mNil)))))
def g_are_marks_2 : Mo Fl := sSeq (sSet 3 (mList (mBlk [5] (mSeqS (mVar 2)) (lcBody [5] (gSet 5) (mRet true) (mBuilt lenD (mCons (mList (mBlk [4] (mSeqS (mVar 2)) (lcBody [4] (gSet 4) (mTest (mOp eqD (mVar 4) (mVar 5))) (mVar 4)))) (mNil)))))))
  (g_are_marks_1)
def g_are_marks_3 : Mo Fl := sSeq (sIf (mTest (mBuilt anyD (mCons (mList (mBlk [6] (mRange range1D (mCons (mOp subD (mBuilt lenD (mCons (mVar 2) (mNil))) (mRet (.int 1))) (mNil))) (lcBody [6] (gSet 6) (mRet true) (mCall F_is_less (mCons (mOp ixD (mVar 2) (mOp addD (mVar 6) (mRet (.int 1)))) (mCons (mOp ixD (mVar 2) (mVar 6)) (mNil))))))) (mNil)))) (sRet (mRet (.bool false))) (sNext))
  (g_are_marks_2)
def g_are_marks_4 : Mo Fl := sSeq (sSet 2 (mList (mBlk [4] (mSeqS (mVar 1)) (lcBody [4] (gSet 4) (mRet true) (mCall F_value_of (mCons (mVar 4) (mNil)))))))
  (g_are_marks_3)
def g_are_marks : Mo Fl := sSeq (sIf (mOr (mNot (mTest (mCall F_is_sequence (mCons (mVar 1) (mNil))))) (mOr (mTest (mOp (cmpD leI) (mBuilt lenD (mCons (mVar 1) (mNil))) (mRet (.int 1)))) (mNot (mTest (mBuilt allD (mCons (mList (mBlk [4] (mSeqS (mVar 1)) (lcBody [4] (gSet 4) (mRet true) (mCall F_is_value (mCons (mVar 4) (mNil)))))) (mNil))))))) (sRet (mRet (.bool false))) (sNext))
  (g_are_marks_4)
def F_are_marks : Fn := guard 2 (runF 8 g_are_marks)
def g_text_of : Mo Fl := sRet (mIf (mTest (mOp eqD (mOp ixD (mVar 0) (mRet (.int 1))) (mRet (.int 1)))) (mBuilt strD (mCons (mOp ixD (mVar 0) (mRet (.int 0))) (mNil))) (mJoined (jCons (mUn fmtD (mOp ixD (mVar 0) (mRet (.int 0)))) (jCons (mRet (.str "/")) (jCons (mUn fmtD (mOp ixD (mVar 0) (mRet (.int 1)))) (jNil))))))
def F_text_of : Fn := guard 1 (runF 1 g_text_of)
def g_text_of_bend_1 : Mo Fl := sRet (mM1 joinD (mRet (.str " ")) (mList (mSized (mCons (mRet (.str "bend")) (mCons (mBuilt strD (mCons (mVar 0) (mNil))) (mCons (mRet (.str "marks")) (mStar (mVar 3) (mCons (mRet (.str "handles")) (mStar (mVar 4) (mNil))))))))))
def g_text_of_bend : Mo Fl := sSeq (sPar2 3 4 (xConsP (mList (mBlk [5] (mSeqS (mVar 1)) (lcBody [5] (gSet 5) (mRet true) (mCall F_text_of (mCons (mVar 5) (mNil)))))) (xConsP (mList (mBlk [5] (mSeqS (mVar 2)) (lcBody [5] (gSet 5) (mRet true) (mCall F_text_of (mCons (mVar 5) (mNil)))))) (xNil))))
  (g_text_of_bend_1)
def F_text_of_bend : Fn := guard 3 (runF 6 g_text_of_bend)
def g_Bend_init : MoO := oIf (mOr (mNot (mTest (mCall F_is_integer (mCons (mVar 1) (mNil))))) (mTest (mOp (cmpD ltI) (mVar 1) (mRet (.int 0))))) (sRaise "InvalidBend" "word" (mRet (.str "degree"))) (oIf (mNot (mTest (mCall F_are_marks (mCons (mVar 1) (mCons (mVar 2) (mNil)))))) (sRaise "InvalidBend" "word" (mRet (.str "marks"))) (oIf (mOr (mNot (mTest (mCall F_is_sequence (mCons (mVar 3) (mNil))))) (mNot (mTest (mBuilt allD (mCons (mList (mBlk [4] (mSeqS (mVar 3)) (lcBody [4] (gSet 4) (mRet true) (mCall F_is_value (mCons (mVar 4) (mNil)))))) (mNil)))))) (sRaise "InvalidBend" "word" (mRet (.str "handles"))) (oIf (mTest (mOp neD (mBuilt lenD (mCons (mVar 3) (mNil))) (mOp subD (mOp addD (mVar 1) (mBuilt lenD (mCons (mVar 2) (mNil)))) (mRet (.int 1))))) (sRaise "InvalidBend" "word" (mRet (.str "handles"))) (oPut "degree" (fun _ => mVar 1)
  (oPut "marks" (fun _ => mBuilt tupleD (mCons (mList (mBlk [4] (mSeqS (mVar 2)) (lcBody [4] (gSet 4) (mRet true) (mCall F_value_of (mCons (mVar 4) (mNil)))))) (mNil)))
  (oPut "handles" (fun _ => mBuilt tupleD (mCons (mList (mBlk [4] (mSeqS (mVar 3)) (lcBody [4] (gSet 4) (mRet true) (mCall F_value_of (mCons (mVar 4) (mNil)))))) (mNil)))
  (oPut "text" (oCall F_text_of_bend (oCons (fun _ => mVar 1) (oCons (fun kvs => pureF (fldIn "marks" kvs)) (oCons (fun kvs => pureF (fldIn "handles" kvs)) (fun _ => mNil)))))
  (oEnd))))))))
def I_Bend : FnI := guardI 3 (runI 4 g_Bend_init)
def g_Bend___len__ : Mo Fl := sRet (mBuilt lenD (mCons (mUn (fldD "Bend" "handles") (mVar 0)) (mNil)))
def F_Bend___len__ : Fn := guard 1 (runF 1 g_Bend___len__)
def g_Bend___str__ : Mo Fl := sRet (mUn fmtD (mUn (fldD "Bend" "text") (mVar 0)))
def F_Bend___str__ : Fn := guard 1 (runF 1 g_Bend___str__)
def g_law_box_1 : Mo (List D) := rRet (mSized (mCons (mOp ixD (mList (mSized (mCons (mRet (.int 0)) (mCons (mVar 3) (mNil))))) (mBuilt intD (mCons (mOp (cmpD geI) (mVar 3) (mOp powD (mRet (.int 10)) (mRet (.int 18)))) (mNil)))) (mCons (mVar 4) (mCons (mRet (.int 0)) (mNil)))))
def g_law_box_2 : Mo (List D) := rSeq (sSet 4 (mOp addD (mOp modD (mBuilt intD (mCons (mOp addD (mOp mulD (mOp modD (mBuilt intD (mCons (mVar 3) (mNil))) (mRet (.int 2147483629))) (mRet (.int 48271))) (mOp mulD (mRet (.int 40692)) (mOp addD (mVar 1) (mOp mulD (mRet (.int 11)) (mVar 2))))) (mNil))) (mRet (.int 2147483629))) (mRet (.int 1))))
  (g_law_box_1)
def g_law_box_3 : Mo (List D) := rSeq (sIf (mTest (mOp (cmpD ltI) (mVar 1) (mBuilt lenD (mCons (mVar 0) (mNil))))) (sSet 3 (mBuilt absD (mCons (mOp ixD (mVar 0) (mVar 1)) (mNil)))) (sIf (mTest (mOp (cmpD gtI) (mBuilt lenD (mCons (mVar 0) (mNil))) (mRet (.int 0)))) (sSet 3 (mOp addD (mVar 3) (mOp mulD (mOp modD (mBuilt intD (mCons (mBuilt absD (mCons (mOp ixD (mVar 0) (mOp modD (mBuilt intD (mCons (mVar 1) (mNil))) (mBuilt lenD (mCons (mVar 0) (mNil))))) (mNil))) (mNil))) (mRet (.int 2147483629))) (mRet (.int 69623))))) (sNext)))
  (g_law_box_2)
def g_law_box : Mo (List D) := rSeq (sSet 3 (mOp addD (mOp addD (mOp mulD (mRet (.int 7727)) (mVar 1)) (mOp mulD (mRet (.int 104729)) (mVar 2))) (mRet (.int 43))))
  (g_law_box_3)
def F_law_box : FnN := guardN 3 (runN 5 g_law_box)
def g_law_fr_1 : Mo Fl := sPar2 3 4 (xConsP (mVar 4) (xConsP (mOp modD (mVar 3) (mVar 4)) (xNil)))
def g_law_fr_2 : Mo Fl := sRet (mTup (mCons (mOp fdivD (mBuilt intD (mCons (mOp mulD (mVar 2) (mVar 0)) (mNil))) (mVar 3)) (mCons (mOp fdivD (mBuilt intD (mCons (mOp mulD (mVar 2) (mVar 1)) (mNil))) (mVar 3)) (mNil))))
def g_law_fr_3 : Mo Fl := sSeq (sSet 2 (mIf (mTest (mOp (cmpD gtI) (mVar 1) (mRet (.int 0)))) (mRet (.int 1)) (mOp subD (mRet (.int 0)) (mRet (.int 1)))))
  (g_law_fr_2)
def g_law_fr_4 : Mo Fl := sSeq (sWhile (fuelInt 4) (mTest (mOp (cmpD gtI) (mVar 4) (mRet (.int 0)))) (g_law_fr_1))
  (g_law_fr_3)
def g_law_fr : Mo Fl := sSeq (sPar2 3 4 (xConsP (mBuilt absD (mCons (mBuilt intD (mCons (mVar 0) (mNil))) (mNil))) (xConsP (mBuilt absD (mCons (mBuilt intD (mCons (mVar 1) (mNil))) (mNil))) (xNil))))
  (g_law_fr_4)
def F_law_fr : Fn := guard 2 (runF 5 g_law_fr)
def g_law_add : Mo Fl := sRet (mCall F_law_fr (mCons (mOp addD (mOp mulD (mOp ixD (mVar 0) (mRet (.int 0))) (mOp ixD (mVar 1) (mRet (.int 1)))) (mOp mulD (mOp ixD (mVar 1) (mRet (.int 0))) (mOp ixD (mVar 0) (mRet (.int 1))))) (mCons (mOp mulD (mOp ixD (mVar 0) (mRet (.int 1))) (mOp ixD (mVar 1) (mRet (.int 1)))) (mNil))))
def F_law_add : Fn := guard 2 (runF 2 g_law_add)
def g_law_take : Mo Fl := sSeq (sIf (mTest (mOp (cmpD gtI) (mIxB 0 (mRet (.int 0))) (mRet (.int 0)))) (sSeq (sSet 4 (mOp modD (mBuilt intD (mCons (mIxB 0 (mRet (.int 0))) (mNil))) (mVar 1)))
  (sSeq (sPutB 0 (mRet (.int 0)) (mOp fdivD (mIxB 0 (mRet (.int 0))) (mVar 1)))
  (sRet (mVar 4)))) (sNext))
  (sSeq (sPutB 0 (mRet (.int 2)) (mOp addD (mIxB 0 (mRet (.int 2))) (mRet (.int 1))))
  (sSeq (sSet 2 (mOp modD (mBuilt intD (mCons (mOp mulD (mOp addD (mIxB 0 (mRet (.int 1))) (mOp mulD (mRet (.int 104729)) (mIxB 0 (mRet (.int 2))))) (mRet (.int 69623))) (mNil))) (mRet (.int 2147483647))))
  (sSeq (sPutB 0 (mRet (.int 1)) (mOp addD (mOp modD (mBuilt intD (mCons (mOp addD (mOp mulD (mVar 2) (mRet (.int 48271))) (mRet (.int 30103))) (mNil))) (mRet (.int 2147483629))) (mRet (.int 1))))
  (sSeq (sIf (mTest (mOp (cmpD ltI) (mVar 1) (mOp powD (mRet (.int 2)) (mRet (.int 40))))) (sRet (mOp modD (mBuilt intD (mCons (mOp fdivD (mOp addD (mOp mulD (mVar 2) (mRet (.int 2147483647))) (mIxB 0 (mRet (.int 1)))) (mRet (.int 8191))) (mNil))) (mVar 1))) (sNext))
  (sSeq (sSet 3 (mOp mulD (mOp addD (mOp mulD (mVar 2) (mRet (.int 2147483647))) (mIxB 0 (mRet (.int 1)))) (mOp powD (mRet (.int 2147483629)) (mRet (.int 3)))))
  (sRet (mOp modD (mBuilt intD (mCons (mOp addD (mOp addD (mVar 3) (mOp mulD (mOp powD (mIxB 0 (mRet (.int 1))) (mRet (.int 3))) (mRet (.int 8191)))) (mVar 2)) (mNil))) (mVar 1))))))))
def F_law_take : FnX := M_law_take
def g_law_pick : Mo Fl := sRet (mOp ixD (mVar 1) (mCallX F_law_take 0 (mCons (mBuilt lenD (mCons (mVar 1) (mNil))) (mNil))))
def F_law_pick : FnX := guardX 1 (runX 1 g_law_pick)
def g_law_marks_1 : Mo Fl := sIf (mTest (mOp (cmpD gtI) (mVar 1) (mRet (.int 0)))) (sChg 3 (mCons (mIf (mTest (mVar 6)) (mIxO 3 (mUn negD (mRet (.int 1)))) (mCall F_law_add (mCons (mIxO 3 (mUn negD (mRet (.int 1)))) (mCons (mVar 5) (mNil))))) (mNil)) appC) (sNext)
def g_law_marks_2 : Mo Fl := sSeq (sSet 6 (mAndV (mOp (cmpD gtI) (mLenO 3) (mRet (.int 1))) (mAndV (mOp (cmpD ltI) (mCntO 3 (mIxO 3 (mUn negD (mRet (.int 1))))) (mVar 1)) (mOp eqD (mCallX F_law_take 0 (mCons (mRet (.int 3)) (mNil))) (mRet (.int 0))))))
  (g_law_marks_1)
def g_law_marks_3 : Mo Fl := sSeq (sSet 5 (mCallX F_law_pick 0 (mCons (mList (mSized (mCons (mTup (mCons (mRet (.int 1)) (mCons (mRet (.int 1)) (mNil)))) (mCons (mTup (mCons (mRet (.int 1)) (mCons (mRet (.int 2)) (mNil)))) (mCons (mTup (mCons (mRet (.int 1)) (mCons (mRet (.int 3)) (mNil)))) (mCons (mTup (mCons (mRet (.int 2)) (mCons (mRet (.int 1)) (mNil)))) (mNil))))))) (mNil))))
  (g_law_marks_2)
def g_law_marks_4 : Mo Fl := sRet (mOp addD (mVar 3) (mList (mSized (mCons (mCall F_law_add (mCons (mIxO 3 (mUn negD (mRet (.int 1)))) (mCons (mCallX F_law_pick 0 (mCons (mList (mSized (mCons (mTup (mCons (mRet (.int 1)) (mCons (mRet (.int 1)) (mNil)))) (mCons (mTup (mCons (mRet (.int 1)) (mCons (mRet (.int 2)) (mNil)))) (mCons (mTup (mCons (mRet (.int 2)) (mCons (mRet (.int 1)) (mNil)))) (mNil)))))) (mNil))) (mNil)))) (mNil)))))
def g_law_marks_5 : Mo Fl := sSeq (sFor (mRange range1D (mCons (mCallX F_law_take 0 (mCons (mOp subD (mVar 2) (mRet (.int 1))) (mNil))) (mNil))) (gSet 4) (g_law_marks_3))
  (g_law_marks_4)
def g_law_marks : Mo Fl := sSeq (sOwn 3 (mSized (mCons (mCallX F_law_pick 0 (mCons (mList (mSized (mCons (mTup (mCons (mRet (.int 0)) (mCons (mRet (.int 1)) (mNil)))) (mCons (mTup (mCons (mRet (.int 0)) (mCons (mRet (.int 1)) (mNil)))) (mCons (mTup (mCons (mRet (.int 1)) (mCons (mRet (.int 2)) (mNil)))) (mCons (mTup (mCons (mOp subD (mRet (.int 0)) (mRet (.int 1))) (mCons (mRet (.int 1)) (mNil)))) (mNil))))))) (mNil))) (mNil))))
  (g_law_marks_5)
def F_law_marks : FnX := guardX 2 (runX 6 g_law_marks)
def g_law_small_1 : Mo Fl := sRet (mCall F_law_fr (mCons (mVar 2) (mCons (mCallX F_law_pick 0 (mCons (mList (mSized (mCons (mRet (.int 1)) (mCons (mRet (.int 1)) (mCons (mRet (.int 1)) (mCons (mRet (.int 2)) (mCons (mRet (.int 3)) (mNil)))))))) (mNil))) (mNil))))
def g_law_small : Mo Fl := sSeq (sSet 2 (mOp subD (mCallX F_law_take 0 (mCons (mOp addD (mOp mulD (mRet (.int 2)) (mVar 1)) (mRet (.int 1))) (mNil))) (mVar 1)))
  (g_law_small_1)
def F_law_small : FnX := guardX 1 (runX 2 g_law_small)
def g_law_drawn_1 : Mo Fl := sRet (mTup (mCons (mVar 3) (mCons (mVar 4) (mCons (mList (mBlk [5] (mRange range1D (mCons (mOp subD (mOp addD (mVar 3) (mBuilt lenD (mCons (mVar 4) (mNil)))) (mRet (.int 1))) (mNil))) (lcBody [5] (gSet 5) (mRet true) (mCallX F_law_small 0 (mCons (mRet (.int 4)) (mNil)))))) (mNil)))))
def g_law_drawn_2 : Mo Fl := sSeq (sSet 4 (mCallX F_law_marks 0 (mCons (mVar 3) (mCons (mVar 2) (mNil)))))
  (g_law_drawn_1)
def g_law_drawn : Mo Fl := sSeq (sSet 3 (mCallX F_law_take 0 (mCons (mOp addD (mVar 1) (mRet (.int 1))) (mNil))))
  (g_law_drawn_2)
def F_law_drawn : FnX := guardX 2 (runX 5 g_law_drawn)
def g_law_short : Mo Fl := sRet (mIf (mTest (mOp eqD (mOp ixD (mVar 0) (mRet (.int 1))) (mRet (.int 1)))) (mOp ixD (mVar 0) (mRet (.int 0))) (mVar 0))
def F_law_short : Fn := guard 1 (runF 1 g_law_short)
def C_NOUGHT : D := .tuple [.int 0, .int 1]
def C_ONE : D := .tuple [.int 1, .int 1]
def g_law_sum_1 : Mo Fl := sSet 1 (mCall F_law_add (mCons (mVar 1) (mCons (mVar 2) (mNil))))
def g_law_sum_2 : Mo Fl := sSeq (sFor (mSeqS (mVar 0)) (gSet 2) (g_law_sum_1))
  (sRet (mVar 1))
def g_law_sum : Mo Fl := sSeq (sSet 1 (mTup (mCons (mRet (.int 0)) (mCons (mRet (.int 1)) (mNil)))))
  (g_law_sum_2)
def F_law_sum : Fn := guard 1 (runF 3 g_law_sum)
def g_law_below : Mo Fl := sRet (mOp (cmpD ltI) (mOp mulD (mOp ixD (mVar 0) (mRet (.int 0))) (mOp ixD (mVar 1) (mRet (.int 1)))) (mOp mulD (mOp ixD (mVar 1) (mRet (.int 0))) (mOp ixD (mVar 0) (mRet (.int 1)))))
def F_law_below : Fn := guard 2 (runF 2 g_law_below)
def g_law_mul : Mo Fl := sRet (mCall F_law_fr (mCons (mOp mulD (mOp ixD (mVar 0) (mRet (.int 0))) (mOp ixD (mVar 1) (mRet (.int 0)))) (mCons (mOp mulD (mOp ixD (mVar 0) (mRet (.int 1))) (mOp ixD (mVar 1) (mRet (.int 1)))) (mNil))))
def F_law_mul : Fn := guard 2 (runF 2 g_law_mul)
def g_law_sub : Mo Fl := sRet (mCall F_law_fr (mCons (mOp subD (mOp mulD (mOp ixD (mVar 0) (mRet (.int 0))) (mOp ixD (mVar 1) (mRet (.int 1)))) (mOp mulD (mOp ixD (mVar 1) (mRet (.int 0))) (mOp ixD (mVar 0) (mRet (.int 1))))) (mCons (mOp mulD (mOp ixD (mVar 0) (mRet (.int 1))) (mOp ixD (mVar 1) (mRet (.int 1)))) (mNil))))
def F_law_sub : Fn := guard 2 (runF 2 g_law_sub)
def g_law_times_1 : Mo Fl := sChg 3 (mCons (mCall F_law_add (mCons (mOp ixD (mVar 4) (mVar 2)) (mCons (mCall F_law_mul (mCons (mVar 5) (mCons (mCall F_law_fr (mCons (mVar 6) (mCons (mVar 1) (mNil)))) (mNil)))) (mNil)))) (mNil)) appC
def g_law_times_2 : Mo Fl := sFor (mRange range1D (mCons (mVar 1) (mNil))) (gSet 6) (g_law_times_1)
def g_law_times_3 : Mo Fl := sIf (mTest (mCall F_law_below (mCons (mOp ixD (mVar 4) (mVar 2)) (mCons (mOp ixD (mVar 4) (mOp addD (mVar 2) (mRet (.int 1)))) (mNil))))) (sSeq (sSet 5 (mCall F_law_sub (mCons (mOp ixD (mVar 4) (mOp addD (mVar 2) (mRet (.int 1)))) (mCons (mOp ixD (mVar 4) (mVar 2)) (mNil)))))
  (g_law_times_2)) (sNext)
def g_law_times_4 : Mo Fl := sRet (mOp addD (mVar 3) (mList (mSized (mCons (mOp ixD (mVar 4) (mUn negD (mRet (.int 1)))) (mNil)))))
def g_law_times_5 : Mo Fl := sSeq (sFor (mRange range1D (mCons (mOp subD (mBuilt lenD (mCons (mVar 4) (mNil))) (mRet (.int 1))) (mNil))) (gSet 2) (g_law_times_3))
  (g_law_times_4)
def g_law_times : Mo Fl := sSeq (sPar2 3 4 (xConsO (mSized (mNil)) (xConsP (mOp ixD (mVar 0) (mRet (.int 1))) (xNil))))
  (g_law_times_5)
def F_law_times : Fn := guard 2 (runF 7 g_law_times)
def g_law_knots : Mo Fl := sRet (mOp addD (mOp addD (mOp mulD (mList (mSized (mCons (mOp ixD (mVar 1) (mRet (.int 0))) (mNil)))) (mVar 0)) (mList (mListOf (mVar 1)))) (mOp mulD (mList (mSized (mCons (mOp ixD (mVar 1) (mUn negD (mRet (.int 1)))) (mNil)))) (mVar 0)))
def F_law_knots : Fn := guard 2 (runF 2 g_law_knots)
def g_law_div : Mo Fl := sRet (mCall F_law_fr (mCons (mOp mulD (mOp ixD (mVar 0) (mRet (.int 0))) (mOp ixD (mVar 1) (mRet (.int 1)))) (mCons (mOp mulD (mOp ixD (mVar 0) (mRet (.int 1))) (mOp ixD (mVar 1) (mRet (.int 0)))) (mNil))))
def F_law_div : Fn := guard 2 (runF 2 g_law_div)
def g_in_lowest : Mo Fl := sSeq (sSet 2 (mCall F_common_part (mCons (mVar 0) (mCons (mVar 1) (mNil)))))
  (sRet (mIf (mTest (mOp (cmpD gtI) (mVar 1) (mRet (.int 0)))) (mTup (mCons (mOp fdivD (mVar 0) (mVar 2)) (mCons (mOp fdivD (mVar 1) (mVar 2)) (mNil)))) (mTup (mCons (mOp fdivD (mUn negD (mVar 0)) (mVar 2)) (mCons (mOp fdivD (mUn negD (mVar 1)) (mVar 2)) (mNil))))))
def F_in_lowest : Fn := M_in_lowest
def g_added : Mo Fl := sRet (mCall F_in_lowest (mCons (mOp addD (mOp mulD (mOp ixD (mVar 0) (mRet (.int 0))) (mOp ixD (mVar 1) (mRet (.int 1)))) (mOp mulD (mOp ixD (mVar 1) (mRet (.int 0))) (mOp ixD (mVar 0) (mRet (.int 1))))) (mCons (mOp mulD (mOp ixD (mVar 0) (mRet (.int 1))) (mOp ixD (mVar 1) (mRet (.int 1)))) (mNil))))
def F_added : Fn := M_added
def g_multiplied : Mo Fl := sRet (mCall F_in_lowest (mCons (mOp mulD (mOp ixD (mVar 0) (mRet (.int 0))) (mOp ixD (mVar 1) (mRet (.int 0)))) (mCons (mOp mulD (mOp ixD (mVar 0) (mRet (.int 1))) (mOp ixD (mVar 1) (mRet (.int 1)))) (mNil))))
def F_multiplied : Fn := M_multiplied
def g_less_by : Mo Fl := sRet (mCall F_in_lowest (mCons (mOp subD (mOp mulD (mOp ixD (mVar 0) (mRet (.int 0))) (mOp ixD (mVar 1) (mRet (.int 1)))) (mOp mulD (mOp ixD (mVar 1) (mRet (.int 0))) (mOp ixD (mVar 0) (mRet (.int 1))))) (mCons (mOp mulD (mOp ixD (mVar 0) (mRet (.int 1))) (mOp ixD (mVar 1) (mRet (.int 1)))) (mNil))))
def F_less_by : Fn := M_less_by
def g_quotient : Mo Fl := sRet (mCall F_in_lowest (mCons (mOp mulD (mOp ixD (mVar 0) (mRet (.int 0))) (mOp ixD (mVar 1) (mRet (.int 1)))) (mCons (mOp mulD (mOp ixD (mVar 0) (mRet (.int 1))) (mOp ixD (mVar 1) (mRet (.int 0)))) (mNil))))
def F_quotient : Fn := M_quotient
def g_share_of : Mo Fl := sRet (mIf (mTest (mOp eqD (mVar 0) (mVar 1))) (mRet C_NOUGHT) (mCall F_quotient (mCons (mCall F_less_by (mCons (mVar 2) (mCons (mVar 0) (mNil)))) (mCons (mCall F_less_by (mCons (mVar 1) (mCons (mVar 0) (mNil)))) (mNil)))))
def F_share_of : Fn := guard 3 (runF 3 g_share_of)
def g_is_at_most : Mo Fl := sRet (mNotV (mCall F_is_less (mCons (mVar 1) (mCons (mVar 0) (mNil)))))
def F_is_at_most : Fn := guard 2 (runF 2 g_is_at_most)
def g_span_of_1 : Mo Fl := sRet (mIf (mTest (mOp (cmpD gtI) (mBuilt lenD (mCons (mVar 3) (mNil))) (mRet (.int 0)))) (mOp ixD (mVar 3) (mRet (.int 0))) (mOp ixD (mVar 2) (mUn negD (mRet (.int 1)))))
def g_span_of_2 : Mo Fl := sSeq (sSet 3 (mList (mBlk [4] (mSeqS (mVar 2)) (lcBody [4] (gSet 4) (mAnd (mTest (mCall F_is_at_most (mCons (mOp ixD (mVar 0) (mVar 4)) (mCons (mVar 1) (mNil))))) (mTest (mCall F_is_less (mCons (mVar 1) (mCons (mOp ixD (mVar 0) (mOp addD (mVar 4) (mRet (.int 1)))) (mNil)))))) (mVar 4)))))
  (g_span_of_1)
def g_span_of : Mo Fl := sSeq (sSet 2 (mList (mBlk [4] (mRange range1D (mCons (mOp subD (mBuilt lenD (mCons (mVar 0) (mNil))) (mRet (.int 1))) (mNil))) (lcBody [4] (gSet 4) (mTest (mCall F_is_less (mCons (mOp ixD (mVar 0) (mVar 4)) (mCons (mOp ixD (mVar 0) (mOp addD (mVar 4) (mRet (.int 1)))) (mNil))))) (mVar 4)))))
  (g_span_of_2)
def F_span_of : Fn := guard 2 (runF 5 g_span_of)
def g_all_weights_1 : Mo Fl := sChg 6 (mCons (mCall F_added (mCons (mVar 8) (mCons (mVar 9) (mNil)))) (mNil)) appC
def g_all_weights_2 : Mo Fl := sSeq (sSet 9 (mCall F_multiplied (mCons (mCall F_share_of (mCons (mOp ixD (mVar 1) (mOp addD (mOp addD (mVar 7) (mVar 5)) (mRet (.int 1)))) (mCons (mOp ixD (mVar 1) (mOp addD (mVar 7) (mRet (.int 1)))) (mCons (mVar 2) (mNil))))) (mCons (mOp ixD (mVar 4) (mOp addD (mVar 7) (mRet (.int 1)))) (mNil)))))
  (g_all_weights_1)
def g_all_weights_3 : Mo Fl := sSeq (sSet 8 (mCall F_multiplied (mCons (mCall F_share_of (mCons (mOp ixD (mVar 1) (mVar 7)) (mCons (mOp ixD (mVar 1) (mOp addD (mVar 7) (mVar 5))) (mCons (mVar 2) (mNil))))) (mCons (mOp ixD (mVar 4) (mVar 7)) (mNil)))))
  (g_all_weights_2)
def g_all_weights_4 : Mo Fl := sSeq (sFor (mRange range1D (mCons (mOp subD (mBuilt lenD (mCons (mVar 4) (mNil))) (mRet (.int 1))) (mNil))) (gSet 7) (g_all_weights_3))
  (sSet 4 (mVar 6))
def g_all_weights_5 : Mo Fl := sSeq (sFor (mRange range2D (mCons (mRet (.int 1)) (mCons (mOp addD (mVar 0) (mRet (.int 1))) (mNil)))) (gSet 5) (sSeq (sOwn 6 (mSized (mNil)))
  (g_all_weights_4)))
  (sRet (mBuilt tupleD (mCons (mVar 4) (mNil))))
def g_all_weights_6 : Mo Fl := sSeq (sSet 4 (mList (mBlk [7] (mRange range1D (mCons (mOp subD (mBuilt lenD (mCons (mVar 1) (mNil))) (mRet (.int 1))) (mNil))) (lcBody [7] (gSet 7) (mRet true) (mIf (mTest (mOp eqD (mVar 7) (mVar 3))) (mRet C_ONE) (mRet C_NOUGHT))))))
  (g_all_weights_5)
def g_all_weights : Mo Fl := sSeq (sSet 3 (mCall F_span_of (mCons (mVar 1) (mCons (mVar 2) (mNil)))))
  (g_all_weights_6)
def F_all_weights : Fn := guard 3 (runF 10 g_all_weights)
def g_knots_of_1 : Mo Fl := sRet (mTup (mStar (mList (mBlk [4] (mRange range1D (mCons (mVar 0) (mNil))) (lcBody [4] (gSet 4) (mRet true) (mOp ixD (mVar 2) (mRet (.int 0)))))) (mStar (mVar 2) (mStar (mList (mBlk [4] (mRange range1D (mCons (mVar 0) (mNil))) (lcBody [4] (gSet 4) (mRet true) (mOp ixD (mVar 2) (mUn negD (mRet (.int 1))))))) (mNil)))))
def g_knots_of : Mo Fl := sSeq (sSet 2 (mList (mBlk [3] (mSeqS (mVar 1)) (lcBody [3] (gSet 3) (mRet true) (mCall F_value_of (mCons (mVar 3) (mNil)))))))
  (g_knots_of_1)
def F_knots_of : Fn := guard 2 (runF 5 g_knots_of)
def g_need_time_1 : Mo Fl := sSeq (sIf (mOr (mTest (mCall F_is_less (mCons (mVar 2) (mCons (mCall F_value_of (mCons (mOp ixD (mVar 0) (mRet (.int 0))) (mNil))) (mNil))))) (mTest (mCall F_is_less (mCons (mCall F_value_of (mCons (mOp ixD (mVar 0) (mUn negD (mRet (.int 1)))) (mNil))) (mCons (mVar 2) (mNil)))))) (sRaise "InvalidTime" "time" (mVar 1)) (sNext))
  (sRet (mVar 2))
def g_need_time_2 : Mo Fl := sSeq (sSet 2 (mCall F_value_of (mCons (mVar 1) (mNil))))
  (g_need_time_1)
def g_need_time : Mo Fl := sSeq (sIf (mNot (mTest (mCall F_is_value (mCons (mVar 1) (mNil))))) (sRaise "InvalidTime" "time" (mVar 1)) (sNext))
  (g_need_time_2)
def F_need_time : Fn := guard 2 (runF 3 g_need_time)
def g_weights : Mo Fl := sRet (mCall F_all_weights (mCons (mVar 0) (mCons (mCall F_knots_of (mCons (mVar 0) (mCons (mVar 1) (mNil)))) (mCons (mCall F_need_time (mCons (mVar 1) (mCons (mVar 2) (mNil)))) (mNil)))))
def F_weights : Fn := guard 3 (runF 3 g_weights)
def g_summed_1 : Mo Fl := sSet 1 (mCall F_added (mCons (mVar 1) (mCons (mVar 2) (mNil))))
def g_summed_2 : Mo Fl := sSeq (sFor (mSeqS (mVar 0)) (gSet 2) (g_summed_1))
  (sRet (mVar 1))
def g_summed : Mo Fl := sSeq (sSet 1 (mRet C_NOUGHT))
  (g_summed_2)
def F_summed : Fn := guard 1 (runF 3 g_summed)
def g_middle_of : Mo Fl := sRet (mCall F_quotient (mCons (mCall F_added (mCons (mVar 0) (mCons (mVar 1) (mNil)))) (mCons (mTup (mCons (mRet C_PAIR) (mCons (mRet (.int 1)) (mNil)))) (mNil))))
def F_middle_of : Fn := guard 2 (runF 2 g_middle_of)
def g_homes_1 : Mo Fl := sRet (mBuilt tupleD (mCons (mList (mBlk [3] (mRange range1D (mCons (mBuilt lenD (mCons (mUn (fldD "Bend" "handles") (mVar 0)) (mNil))) (mNil))) (lcBody [3] (gSet 3) (mRet true) (mCall F_quotient (mCons (mCall F_summed (mCons (mSlice (mVar 1) (mPart (mOp addD (mVar 3) (mRet (.int 1)))) (mPart (mOp addD (mOp addD (mVar 3) (mVar 2)) (mRet (.int 1))))) (mNil))) (mCons (mTup (mCons (mVar 2) (mCons (mRet (.int 1)) (mNil)))) (mNil))))))) (mNil)))
def g_homes_2 : Mo Fl := sSeq (sIf (mTest (mOp eqD (mVar 2) (mRet (.int 0)))) (sRet (mTup (mCons (mCall F_middle_of (mCons (mOp ixD (mUn (fldD "Bend" "marks") (mVar 0)) (mRet (.int 0))) (mCons (mOp ixD (mUn (fldD "Bend" "marks") (mVar 0)) (mUn negD (mRet (.int 1)))) (mNil)))) (mNil)))) (sNext))
  (g_homes_1)
def g_homes : Mo Fl := sSeq (sAsg (gTupD 2 (gConsD (gSet 1) (gConsD (gSet 2) (gNilD)))) (mTup (mCons (mCall F_knots_of (mCons (mUn (fldD "Bend" "degree") (mVar 0)) (mCons (mUn (fldD "Bend" "marks") (mVar 0)) (mNil)))) (mCons (mUn (fldD "Bend" "degree") (mVar 0)) (mNil)))))
  (g_homes_2)
def F_homes : Fn := guard 1 (runF 4 g_homes)
def g_reach_1 : Mo Fl := sRet (mTup (mCons (mOp ixD (mVar 3) (mVar 2)) (mCons (mOp ixD (mVar 3) (mOp addD (mOp addD (mVar 2) (mVar 0)) (mRet (.int 1)))) (mNil))))
def g_reach : Mo Fl := sSeq (sSet 3 (mCall F_knots_of (mCons (mVar 0) (mCons (mVar 1) (mNil)))))
  (g_reach_1)
def F_reach : Fn := guard 3 (runF 4 g_reach)
end HB
namespace HB
open PySem L2
def topS (i : Nat) : Stmt := PySem.Challenge.pw_handlebends_k02_bends_made.main.body.getD i (.Pass ⟨0, 0, 0, 0⟩)
abbrev s_Bend___eq__ : Stmt := (C8.clsBody (topS 20)).getD 3 (.Pass ⟨0, 0, 0, 0⟩)
abbrev s_InvalidBend_init : Stmt := (C8.clsBody (topS 2)).getD 0 (.Pass ⟨0, 0, 0, 0⟩)
abbrev s_is_less : Stmt := topS 13
abbrev s_is_sequence : Stmt := topS 9
abbrev s_common_part : Stmt := topS 10
abbrev s_is_integer : Stmt := topS 8
abbrev s_is_value : Stmt := topS 11
abbrev s_value_of : Stmt := topS 12
abbrev s_are_marks : Stmt := topS 19
abbrev s_text_of : Stmt := topS 14
abbrev s_text_of_bend : Stmt := topS 21
abbrev s_Bend_init : Stmt := (C8.clsBody (topS 20)).getD 0 (.Pass ⟨0, 0, 0, 0⟩)
abbrev s_Bend___len__ : Stmt := (C8.clsBody (topS 20)).getD 2 (.Pass ⟨0, 0, 0, 0⟩)
abbrev s_Bend___str__ : Stmt := (C8.clsBody (topS 20)).getD 4 (.Pass ⟨0, 0, 0, 0⟩)
abbrev s_law_box : Stmt := topS 24
abbrev s_law_fr : Stmt := topS 27
abbrev s_law_add : Stmt := topS 28
abbrev s_law_take : Stmt := topS 25
abbrev s_law_pick : Stmt := topS 26
abbrev s_law_marks : Stmt := topS 30
abbrev s_law_small : Stmt := topS 29
abbrev s_law_drawn : Stmt := topS 31
abbrev s_law_short : Stmt := topS 34
abbrev s_law_told_value_o : Stmt := topS 32
abbrev s_law_text_o : Stmt := topS 33
abbrev s_law : Stmt := topS 35
structure Say (K : PySem.W.Frag) (mg : Str → Option Value) : Prop where
  m_abs : mg "abs" = none
  m_all : mg "all" = none
  m_any : mg "any" = none
  m_bool : mg "bool" = none
  m_int : mg "int" = none
  m_isinstance : mg "isinstance" = none
  m_len : mg "len" = none
  m_list : mg "list" = none
  m_max : mg "max" = none
  m_min : mg "min" = none
  m_range : mg "range" = none
  m_repr : mg "repr" = none
  m_str : mg "str" = none
  m_tuple : mg "tuple" = none
  c_PAIR : GlD K mg "PAIR" C_PAIR
  cl_Bend : Cls K (He.ga K "Bend")
  mk_Bend : Mk K (He.ga K "Bend") (He.ma K (He.ga K "Bend") "__init__")
  gc_Bend : mg "Bend" = some (.ref (He.ga K "Bend"))
  gc_BendError : mg "BendError" = some (.ref (He.ga K "BendError"))
  gc_InvalidBend : mg "InvalidBend" = some (.ref (He.ga K "InvalidBend"))
  xf_InvalidBend : ExcF K "InvalidBend" "word"
  bot_BendError : BotF K "BendError"
  isx_Bend : IsxF K "Bend"
  eqb_Bend : eqB K "Bend" = true
  neb_Bend : neB K "Bend" = true
  iso_Bend : isoB K "Bend" = true
  me_Bend___eq__ : Meth K (He.ga K "Bend") "__eq__" (He.ma K (He.ga K "Bend") "__eq__")
  me_Bend___len__ : Meth K (He.ga K "Bend") "__len__" (He.ma K (He.ga K "Bend") "__len__")
  me_Bend___str__ : Meth K (He.ga K "Bend") "__str__" (He.ma K (He.ga K "Bend") "__str__")
  na_Bend_degree : NoAttr K (He.ga K "Bend") "degree"
  na_Bend_handles : NoAttr K (He.ga K "Bend") "handles"
  na_Bend_marks : NoAttr K (He.ga K "Bend") "marks"
  na_Bend_text : NoAttr K (He.ga K "Bend") "text"
  d_Bend___eq__ : ∃ fd, FunD K "__eq__" "Bend.__eq__" (defArgs s_Bend___eq__) (defBody s_Bend___eq__) (defScope s_Bend___eq__) [] [] (He.ma K (He.ga K "Bend") "__eq__") fd
  d_InvalidBend_init : ∃ fd, FunD K "__init__" "InvalidBend.__init__" (defArgs s_InvalidBend_init) (defBody s_InvalidBend_init) (defScope s_InvalidBend_init) [] [] (He.ma K (He.ga K "InvalidBend") "__init__") fd
  d_is_less : ∃ fd, FunD K "is_less" "is_less" (defArgs s_is_less) (defBody s_is_less) (defScope s_is_less) [] [] (He.ga K "is_less") fd
  g_is_less : mg "is_less" = some (.ref (He.ga K "is_less"))
  d_is_sequence : ∃ fd, FunD K "is_sequence" "is_sequence" (defArgs s_is_sequence) (defBody s_is_sequence) (defScope s_is_sequence) [] [] (He.ga K "is_sequence") fd
  g_is_sequence : mg "is_sequence" = some (.ref (He.ga K "is_sequence"))
  d_common_part : ∃ fd, FunD K "common_part" "common_part" (defArgs s_common_part) (defBody s_common_part) (defScope s_common_part) [] [] (He.ga K "common_part") fd
  g_common_part : mg "common_part" = some (.ref (He.ga K "common_part"))
  d_is_integer : ∃ fd, FunD K "is_integer" "is_integer" (defArgs s_is_integer) (defBody s_is_integer) (defScope s_is_integer) [] [] (He.ga K "is_integer") fd
  g_is_integer : mg "is_integer" = some (.ref (He.ga K "is_integer"))
  d_is_value : ∃ fd, FunD K "is_value" "is_value" (defArgs s_is_value) (defBody s_is_value) (defScope s_is_value) [] [] (He.ga K "is_value") fd
  g_is_value : mg "is_value" = some (.ref (He.ga K "is_value"))
  d_value_of : ∃ fd, FunD K "value_of" "value_of" (defArgs s_value_of) (defBody s_value_of) (defScope s_value_of) [] [] (He.ga K "value_of") fd
  g_value_of : mg "value_of" = some (.ref (He.ga K "value_of"))
  d_are_marks : ∃ fd, FunD K "are_marks" "are_marks" (defArgs s_are_marks) (defBody s_are_marks) (defScope s_are_marks) [] [] (He.ga K "are_marks") fd
  g_are_marks : mg "are_marks" = some (.ref (He.ga K "are_marks"))
  d_text_of : ∃ fd, FunD K "text_of" "text_of" (defArgs s_text_of) (defBody s_text_of) (defScope s_text_of) [] [] (He.ga K "text_of") fd
  g_text_of : mg "text_of" = some (.ref (He.ga K "text_of"))
  d_text_of_bend : ∃ fd, FunD K "text_of_bend" "text_of_bend" (defArgs s_text_of_bend) (defBody s_text_of_bend) (defScope s_text_of_bend) [] [] (He.ga K "text_of_bend") fd
  g_text_of_bend : mg "text_of_bend" = some (.ref (He.ga K "text_of_bend"))
  d_Bend_init : ∃ fd, FunD K "__init__" "Bend.__init__" (defArgs s_Bend_init) (defBody s_Bend_init) (defScope s_Bend_init) [] [] (He.ma K (He.ga K "Bend") "__init__") fd
  d_Bend___len__ : ∃ fd, FunD K "__len__" "Bend.__len__" (defArgs s_Bend___len__) (defBody s_Bend___len__) (defScope s_Bend___len__) [] [] (He.ma K (He.ga K "Bend") "__len__") fd
  d_Bend___str__ : ∃ fd, FunD K "__str__" "Bend.__str__" (defArgs s_Bend___str__) (defBody s_Bend___str__) (defScope s_Bend___str__) [] [] (He.ma K (He.ga K "Bend") "__str__") fd
  d_law_box : ∃ fd, FunD K "_law_box" "_law_box" (defArgs s_law_box) (defBody s_law_box) (defScope s_law_box) [] [] (He.ga K "_law_box") fd
  g_law_box : mg "_law_box" = some (.ref (He.ga K "_law_box"))
  d_law_fr : ∃ fd, FunD K "_law_fr" "_law_fr" (defArgs s_law_fr) (defBody s_law_fr) (defScope s_law_fr) [] [] (He.ga K "_law_fr") fd
  g_law_fr : mg "_law_fr" = some (.ref (He.ga K "_law_fr"))
  d_law_add : ∃ fd, FunD K "_law_add" "_law_add" (defArgs s_law_add) (defBody s_law_add) (defScope s_law_add) [] [] (He.ga K "_law_add") fd
  g_law_add : mg "_law_add" = some (.ref (He.ga K "_law_add"))
  d_law_take : ∃ fd, FunD K "_law_take" "_law_take" (defArgs s_law_take) (defBody s_law_take) (defScope s_law_take) [] [] (He.ga K "_law_take") fd
  g_law_take : mg "_law_take" = some (.ref (He.ga K "_law_take"))
  d_law_pick : ∃ fd, FunD K "_law_pick" "_law_pick" (defArgs s_law_pick) (defBody s_law_pick) (defScope s_law_pick) [] [] (He.ga K "_law_pick") fd
  g_law_pick : mg "_law_pick" = some (.ref (He.ga K "_law_pick"))
  d_law_marks : ∃ fd, FunD K "_law_marks" "_law_marks" (defArgs s_law_marks) (defBody s_law_marks) (defScope s_law_marks) [] [] (He.ga K "_law_marks") fd
  g_law_marks : mg "_law_marks" = some (.ref (He.ga K "_law_marks"))
  d_law_small : ∃ fd, FunD K "_law_small" "_law_small" (defArgs s_law_small) (defBody s_law_small) (defScope s_law_small) [] [] (He.ga K "_law_small") fd
  g_law_small : mg "_law_small" = some (.ref (He.ga K "_law_small"))
  d_law_drawn : ∃ fd, FunD K "_law_drawn" "_law_drawn" (defArgs s_law_drawn) (defBody s_law_drawn) (defScope s_law_drawn) [] [] (He.ga K "_law_drawn") fd
  g_law_drawn : mg "_law_drawn" = some (.ref (He.ga K "_law_drawn"))
  d_law_short : ∃ fd, FunD K "_law_short" "_law_short" (defArgs s_law_short) (defBody s_law_short) (defScope s_law_short) [] [] (He.ga K "_law_short") fd
  g_law_short : mg "_law_short" = some (.ref (He.ga K "_law_short"))
  d_law_told_value_o : ∃ fd, FunD K "_law_told_value" "_law_told_value" (defArgs s_law_told_value_o) (defBody s_law_told_value_o) (defScope s_law_told_value_o) [] [] (He.ga K "_law_told_value") fd
  g_law_told_value_o : mg "_law_told_value" = some (.ref (He.ga K "_law_told_value"))
  d_law_text_o : ∃ fd, FunD K "_law_text" "_law_text" (defArgs s_law_text_o) (defBody s_law_text_o) (defScope s_law_text_o) [] [] (He.ga K "_law_text") fd
  g_law_text_o : mg "_law_text" = some (.ref (He.ga K "_law_text"))
  d_law : ∃ fd, FunD K "law" "law" (defArgs s_law) (defBody s_law) (defScope s_law) [] [] (He.ga K "law") fd
  g_law : mg "law" = some (.ref (He.ga K "law"))
end HB
namespace HB
open PySem L2
def fa0 : List He.Fa := [.free "abs",
  .free "all",
  .free "any",
  .free "bool",
  .free "int",
  .free "isinstance",
  .free "len",
  .free "list",
  .free "max",
  .free "min",
  .free "range",
  .free "repr",
  .free "str",
  .free "tuple",
  .int "PAIR" 2,
  .cls "Bend",
  .mkr "Bend",
  .glo "Bend",
  .meth "Bend" "__eq__",
  .meth "Bend" "__len__",
  .meth "Bend" "__str__",
  .glo "BendError",
  .glo "InvalidBend",
  .noat "Bend" "degree",
  .noat "Bend" "handles",
  .noat "Bend" "marks",
  .noat "Bend" "text",
  .glo "is_less",
  .glo "is_sequence",
  .glo "common_part"]
def fa1 : List He.Fa := [.glo "is_integer",
  .glo "is_value",
  .glo "value_of",
  .glo "are_marks",
  .glo "text_of",
  .glo "text_of_bend",
  .glo "_law_box",
  .glo "_law_fr",
  .glo "_law_add",
  .glo "_law_take",
  .glo "_law_pick",
  .glo "_law_marks",
  .glo "_law_small",
  .glo "_law_drawn",
  .glo "_law_short",
  .glo "_law_told_value",
  .glo "_law_text",
  .glo "law"]
def fa : List He.Fa := fa0 ++ fa1
def fn0 : List He.DefD := [⟨("Bend", some "__eq__"), "__eq__", "Bend.__eq__", defArgs s_Bend___eq__, defBody s_Bend___eq__, defScope s_Bend___eq__, [], []⟩,
  ⟨("InvalidBend", some "__init__"), "__init__", "InvalidBend.__init__", defArgs s_InvalidBend_init, defBody s_InvalidBend_init, defScope s_InvalidBend_init, [], []⟩,
  ⟨("is_less", none), "is_less", "is_less", defArgs s_is_less, defBody s_is_less, defScope s_is_less, [], []⟩,
  ⟨("is_sequence", none), "is_sequence", "is_sequence", defArgs s_is_sequence, defBody s_is_sequence, defScope s_is_sequence, [], []⟩,
  ⟨("common_part", none), "common_part", "common_part", defArgs s_common_part, defBody s_common_part, defScope s_common_part, [], []⟩,
  ⟨("is_integer", none), "is_integer", "is_integer", defArgs s_is_integer, defBody s_is_integer, defScope s_is_integer, [], []⟩,
  ⟨("is_value", none), "is_value", "is_value", defArgs s_is_value, defBody s_is_value, defScope s_is_value, [], []⟩,
  ⟨("value_of", none), "value_of", "value_of", defArgs s_value_of, defBody s_value_of, defScope s_value_of, [], []⟩,
  ⟨("are_marks", none), "are_marks", "are_marks", defArgs s_are_marks, defBody s_are_marks, defScope s_are_marks, [], []⟩,
  ⟨("text_of", none), "text_of", "text_of", defArgs s_text_of, defBody s_text_of, defScope s_text_of, [], []⟩,
  ⟨("text_of_bend", none), "text_of_bend", "text_of_bend", defArgs s_text_of_bend, defBody s_text_of_bend, defScope s_text_of_bend, [], []⟩,
  ⟨("Bend", some "__init__"), "__init__", "Bend.__init__", defArgs s_Bend_init, defBody s_Bend_init, defScope s_Bend_init, [], []⟩,
  ⟨("Bend", some "__len__"), "__len__", "Bend.__len__", defArgs s_Bend___len__, defBody s_Bend___len__, defScope s_Bend___len__, [], []⟩,
  ⟨("Bend", some "__str__"), "__str__", "Bend.__str__", defArgs s_Bend___str__, defBody s_Bend___str__, defScope s_Bend___str__, [], []⟩,
  ⟨("_law_box", none), "_law_box", "_law_box", defArgs s_law_box, defBody s_law_box, defScope s_law_box, [], []⟩,
  ⟨("_law_fr", none), "_law_fr", "_law_fr", defArgs s_law_fr, defBody s_law_fr, defScope s_law_fr, [], []⟩,
  ⟨("_law_add", none), "_law_add", "_law_add", defArgs s_law_add, defBody s_law_add, defScope s_law_add, [], []⟩,
  ⟨("_law_take", none), "_law_take", "_law_take", defArgs s_law_take, defBody s_law_take, defScope s_law_take, [], []⟩,
  ⟨("_law_pick", none), "_law_pick", "_law_pick", defArgs s_law_pick, defBody s_law_pick, defScope s_law_pick, [], []⟩,
  ⟨("_law_marks", none), "_law_marks", "_law_marks", defArgs s_law_marks, defBody s_law_marks, defScope s_law_marks, [], []⟩,
  ⟨("_law_small", none), "_law_small", "_law_small", defArgs s_law_small, defBody s_law_small, defScope s_law_small, [], []⟩,
  ⟨("_law_drawn", none), "_law_drawn", "_law_drawn", defArgs s_law_drawn, defBody s_law_drawn, defScope s_law_drawn, [], []⟩,
  ⟨("_law_short", none), "_law_short", "_law_short", defArgs s_law_short, defBody s_law_short, defScope s_law_short, [], []⟩,
  ⟨("_law_told_value", none), "_law_told_value", "_law_told_value", defArgs s_law_told_value_o, defBody s_law_told_value_o, defScope s_law_told_value_o, [], []⟩,
  ⟨("_law_text", none), "_law_text", "_law_text", defArgs s_law_text_o, defBody s_law_text_o, defScope s_law_text_o, [], []⟩,
  ⟨("law", none), "law", "law", defArgs s_law, defBody s_law, defScope s_law, [], []⟩]
def fn : List He.DefD := fn0
def tp0 : List (Str × List He.Dv) := []
def tp : List (Str × List He.Dv) := tp0
def xs0 : List (PySem.W.Frag → Bool) := [fun K => excB K "InvalidBend" "word",
  fun K => botB K "BendError",
  fun K => isxB K "Bend",
  fun K => eqB K "Bend",
  fun K => neB K "Bend",
  fun K => isoB K "Bend"]
def xs : List (PySem.W.Frag → Bool) := xs0
def loo0 : List Str := ["__name__",
  "BendError",
  "InvalidBend",
  "InvalidText",
  "PAIR",
  "DIGITS",
  "MOST_DIGITS",
  "is_integer",
  "is_sequence",
  "common_part",
  "is_value",
  "value_of",
  "is_less",
  "text_of",
  "number_in",
  "value_in",
  "values_in",
  "are_marks",
  "Bend",
  "text_of_bend",
  "rows_in",
  "_law_box",
  "_law_take",
  "_law_pick",
  "_law_fr",
  "_law_add",
  "_law_small",
  "_law_marks",
  "_law_drawn",
  "_law_told_value"]
def loo1 : List Str := ["_law_text",
  "_law_short"]
def loo : List Str := loo0 ++ loo1
abbrev rowR : PySem.W.OpenRow := PySem.W.OpenLaw.row PySem.Challenge.rw_handlebends_k02_bends_made
abbrev hk : PySem.W.Hook := hookE 4 fa fn tp xs
def ob (s : PySem.W.SharedT) : AlX := obsEG 4 fa fn tp xs (HandSHeadRun.getT s)
theorem ob_eq (s : PySem.W.SharedT) : ob s = hk.obs s.abs := obsEG_eq (HandSHeadRun.getT_eq s)
theorem topRun (w : World) : HandSHeadRun.RunEq rowR (PySem.W.view rowR.prog [35]) hk ob 6000 loo w := by
  intro os
  kernel_rfl
theorem say {K : PySem.W.Frag} {h : Heap} {mg : Str → Option Value} (X : K.In h) (G : h.Ns mainGlobals mg) (c : He.SaysD fa fn K) (t : (tp.all fun p => tupN K p.1 p.2) = true) (q : (xs.all fun p => p K) = true) : Say K mg where
  m_abs := He.free_ok X G (c.fact 0 (f := .free "abs") rfl)
  m_all := He.free_ok X G (c.fact 1 (f := .free "all") rfl)
  m_any := He.free_ok X G (c.fact 2 (f := .free "any") rfl)
  m_bool := He.free_ok X G (c.fact 3 (f := .free "bool") rfl)
  m_int := He.free_ok X G (c.fact 4 (f := .free "int") rfl)
  m_isinstance := He.free_ok X G (c.fact 5 (f := .free "isinstance") rfl)
  m_len := He.free_ok X G (c.fact 6 (f := .free "len") rfl)
  m_list := He.free_ok X G (c.fact 7 (f := .free "list") rfl)
  m_max := He.free_ok X G (c.fact 8 (f := .free "max") rfl)
  m_min := He.free_ok X G (c.fact 9 (f := .free "min") rfl)
  m_range := He.free_ok X G (c.fact 10 (f := .free "range") rfl)
  m_repr := He.free_ok X G (c.fact 11 (f := .free "repr") rfl)
  m_str := He.free_ok X G (c.fact 12 (f := .free "str") rfl)
  m_tuple := He.free_ok X G (c.fact 13 (f := .free "tuple") rfl)
  c_PAIR := gl_int X G (c.fact 14 (f := .int "PAIR" 2) rfl)
  cl_Bend := He.cls_ok (c.fact 15 (f := .cls "Bend") rfl)
  mk_Bend := He.mkr_ok (c.fact 16 (f := .mkr "Bend") rfl)
  gc_Bend := He.glo_ok X G (c.fact 17 (f := .glo "Bend") rfl)
  me_Bend___eq__ := He.meth_ok (c.fact 18 (f := .meth "Bend" "__eq__") rfl)
  me_Bend___len__ := He.meth_ok (c.fact 19 (f := .meth "Bend" "__len__") rfl)
  me_Bend___str__ := He.meth_ok (c.fact 20 (f := .meth "Bend" "__str__") rfl)
  gc_BendError := He.glo_ok X G (c.fact 21 (f := .glo "BendError") rfl)
  gc_InvalidBend := He.glo_ok X G (c.fact 22 (f := .glo "InvalidBend") rfl)
  xf_InvalidBend := excB_ok (xs_ok q 0 rfl)
  bot_BendError := botB_ok (xs_ok q 1 rfl)
  isx_Bend := isxB_ok (xs_ok q 2 rfl)
  eqb_Bend := xs_ok q 3 rfl
  neb_Bend := xs_ok q 4 rfl
  iso_Bend := xs_ok q 5 rfl
  na_Bend_degree := He.noat_ok (c.fact 23 (f := .noat "Bend" "degree") rfl)
  na_Bend_handles := He.noat_ok (c.fact 24 (f := .noat "Bend" "handles") rfl)
  na_Bend_marks := He.noat_ok (c.fact 25 (f := .noat "Bend" "marks") rfl)
  na_Bend_text := He.noat_ok (c.fact 26 (f := .noat "Bend" "text") rfl)
  d_Bend___eq__ := c.def_ 0 rfl
  d_InvalidBend_init := c.def_ 1 rfl
  d_is_less := c.def_ 2 rfl
  g_is_less := He.glo_ok X G (c.fact 27 (f := .glo "is_less") rfl)
  d_is_sequence := c.def_ 3 rfl
  g_is_sequence := He.glo_ok X G (c.fact 28 (f := .glo "is_sequence") rfl)
  d_common_part := c.def_ 4 rfl
  g_common_part := He.glo_ok X G (c.fact 29 (f := .glo "common_part") rfl)
  d_is_integer := c.def_ 5 rfl
  g_is_integer := He.glo_ok X G (c.fact 30 (f := .glo "is_integer") rfl)
  d_is_value := c.def_ 6 rfl
  g_is_value := He.glo_ok X G (c.fact 31 (f := .glo "is_value") rfl)
  d_value_of := c.def_ 7 rfl
  g_value_of := He.glo_ok X G (c.fact 32 (f := .glo "value_of") rfl)
  d_are_marks := c.def_ 8 rfl
  g_are_marks := He.glo_ok X G (c.fact 33 (f := .glo "are_marks") rfl)
  d_text_of := c.def_ 9 rfl
  g_text_of := He.glo_ok X G (c.fact 34 (f := .glo "text_of") rfl)
  d_text_of_bend := c.def_ 10 rfl
  g_text_of_bend := He.glo_ok X G (c.fact 35 (f := .glo "text_of_bend") rfl)
  d_Bend_init := c.def_ 11 rfl
  d_Bend___len__ := c.def_ 12 rfl
  d_Bend___str__ := c.def_ 13 rfl
  d_law_box := c.def_ 14 rfl
  g_law_box := He.glo_ok X G (c.fact 36 (f := .glo "_law_box") rfl)
  d_law_fr := c.def_ 15 rfl
  g_law_fr := He.glo_ok X G (c.fact 37 (f := .glo "_law_fr") rfl)
  d_law_add := c.def_ 16 rfl
  g_law_add := He.glo_ok X G (c.fact 38 (f := .glo "_law_add") rfl)
  d_law_take := c.def_ 17 rfl
  g_law_take := He.glo_ok X G (c.fact 39 (f := .glo "_law_take") rfl)
  d_law_pick := c.def_ 18 rfl
  g_law_pick := He.glo_ok X G (c.fact 40 (f := .glo "_law_pick") rfl)
  d_law_marks := c.def_ 19 rfl
  g_law_marks := He.glo_ok X G (c.fact 41 (f := .glo "_law_marks") rfl)
  d_law_small := c.def_ 20 rfl
  g_law_small := He.glo_ok X G (c.fact 42 (f := .glo "_law_small") rfl)
  d_law_drawn := c.def_ 21 rfl
  g_law_drawn := He.glo_ok X G (c.fact 43 (f := .glo "_law_drawn") rfl)
  d_law_short := c.def_ 22 rfl
  g_law_short := He.glo_ok X G (c.fact 44 (f := .glo "_law_short") rfl)
  d_law_told_value_o := c.def_ 23 rfl
  g_law_told_value_o := He.glo_ok X G (c.fact 45 (f := .glo "_law_told_value") rfl)
  d_law_text_o := c.def_ 24 rfl
  g_law_text_o := He.glo_ok X G (c.fact 46 (f := .glo "_law_text") rfl)
  d_law := c.def_ 25 rfl
  g_law := He.glo_ok X G (c.fact 47 (f := .glo "law") rfl)
end HB
namespace HB
open PySem L2
def g_law_told_value_o : Mo Fl := sRet (mIf (mTest (mOp eqD (mOp ixD (mVar 0) (mRet (.int 1))) (mRet (.int 1)))) (mBuilt strD (mCons (mOp ixD (mVar 0) (mRet (.int 0))) (mNil))) (mOp addD (mOp addD (mBuilt strD (mCons (mOp ixD (mVar 0) (mRet (.int 0))) (mNil))) (mRet (.str "/"))) (mBuilt strD (mCons (mOp ixD (mVar 0) (mRet (.int 1))) (mNil)))))
def F_law_told_value_o : Fn := guard 1 (runF 1 g_law_told_value_o)
def g_law_text_o_1 : Mo Fl := sRet (mM1 joinD (mRet (.str " ")) (mOp addD (mOp addD (mVar 1) (mList (mSized (mCons (mRet (.str "handles")) (mNil))))) (mList (mBlk [2] (mSeqS (mOp ixD (mVar 0) (mRet (.int 2)))) (lcBody [2] (gSet 2) (mRet true) (mCall F_law_told_value_o (mCons (mVar 2) (mNil))))))))
def g_law_text_o : Mo Fl := sSeq (sSet 1 (mOp addD (mList (mSized (mCons (mRet (.str "bend")) (mCons (mBuilt strD (mCons (mOp ixD (mVar 0) (mRet (.int 0))) (mNil))) (mCons (mRet (.str "marks")) (mNil)))))) (mList (mBlk [2] (mSeqS (mOp ixD (mVar 0) (mRet (.int 1)))) (lcBody [2] (gSet 2) (mRet true) (mCall F_law_told_value_o (mCons (mVar 2) (mNil))))))))
  (g_law_text_o_1)
def F_law_text_o : Fn := guard 1 (runF 3 g_law_text_o)
def g_law_1 : Mo Fl := sSeq (sIf (mOr (mTest (mOp neD (mOp (eqOD "Bend" F_Bend___eq__) (mVar 4) (mVar 7)) (mOp eqD (mStrO "Bend" F_Bend___str__ (mVar 4)) (mStrO "Bend" F_Bend___str__ (mVar 7))))) (mTest (mOp neD (mOp (neOD "Bend" F_Bend___eq__) (mVar 4) (mVar 7)) (mOp neD (mStrO "Bend" F_Bend___str__ (mVar 4)) (mStrO "Bend" F_Bend___str__ (mVar 7)))))) (sRet (mRet (.bool false))) (sNext))
  (sSet 4 (mVar 7))
def g_law_2 : Mo Fl := sSeq (sIf (mOr (mTest (mOp (neOD "Bend" F_Bend___eq__) (mVar 8) (mVar 7))) (mOr (mTest (mOp (eqOD "Bend" F_Bend___eq__) (mVar 7) (mStrO "Bend" F_Bend___str__ (mVar 7)))) (mTest (mOp (eqOD "Bend" F_Bend___eq__) (mVar 7) (mUn (fldD "Bend" "handles") (mVar 7)))))) (sRet (mRet (.bool false))) (sNext))
  (g_law_1)
def g_law_3 : Mo Fl := sSeq (sSet 8 (mMake "Bend" I_Bend (mCons (mOp ixD (mVar 5) (mRet (.int 0))) (mCons (mBuilt tupleD (mCons (mList (mBlk [11] (mSeqS (mOp ixD (mVar 5) (mRet (.int 1)))) (lcBody [11] (gSet 11) (mRet true) (mCall F_law_short (mCons (mVar 11) (mNil)))))) (mNil))) (mCons (mBuilt tupleD (mCons (mOp ixD (mVar 5) (mRet (.int 2))) (mNil))) (mNil))))))
  (g_law_2)
def g_law_4 : Mo Fl := sSeq (sIf (mOr (mTest (mOp neD (mLenObj "Bend" F_Bend___len__ (mVar 7)) (mBuilt lenD (mCons (mOp ixD (mVar 5) (mRet (.int 2))) (mNil))))) (mTest (mOp neD (mStrO "Bend" F_Bend___str__ (mVar 7)) (mCall F_law_text_o (mCons (mVar 5) (mNil)))))) (sRet (mRet (.bool false))) (sNext))
  (g_law_3)
def g_law_5 : Mo Fl := sSeq (sIf (mTest (mOp neD (mBuilt reprD (mCons (mTup (mCons (mUn (fldD "Bend" "degree") (mVar 7)) (mCons (mUn (fldD "Bend" "marks") (mVar 7)) (mCons (mUn (fldD "Bend" "handles") (mVar 7)) (mNil))))) (mNil))) (mBuilt reprD (mCons (mTup (mCons (mOp ixD (mVar 5) (mRet (.int 0))) (mCons (mBuilt tupleD (mCons (mOp ixD (mVar 5) (mRet (.int 1))) (mNil))) (mCons (mBuilt tupleD (mCons (mOp ixD (mVar 5) (mRet (.int 2))) (mNil))) (mNil))))) (mNil))))) (sRet (mRet (.bool false))) (sNext))
  (g_law_4)
def g_law_6 : Mo Fl := sSeq (sChg 9 (mCons (mTup (mCons (mRet (.int 99)) (mCons (mRet (.int 1)) (mNil)))) (mNil)) appC)
  (sSeq (sPut 10 (mRet (.int 0)) (mRet (.int 7)))
  (g_law_5))
def g_law_7 : Mo Fl := sSeq (sIf (mTest (mOp neD (mBorrow (mBuilt reprD (mCons (mTup (mCons (mVar 9) (mCons (mVar 10) (mNil)))) (mNil)))) (mVar 6))) (sRet (mRet (.bool false))) (sNext))
  (g_law_6)
def g_law_8 : Mo Fl := sSeq (sSet 7 (mBorrow (mMake "Bend" I_Bend (mCons (mOp ixD (mVar 5) (mRet (.int 0))) (mCons (mVar 9) (mCons (mVar 10) (mNil)))))))
  (g_law_7)
def g_law_9 : Mo Fl := sSeq (sSet 6 (mBorrow (mBuilt reprD (mCons (mTup (mCons (mVar 9) (mCons (mVar 10) (mNil)))) (mNil)))))
  (g_law_8)
def g_law_10 : Mo Fl := sSeq (sPar2 9 10 (xConsO (mListOf (mOp ixD (mVar 5) (mRet (.int 1)))) (xConsO (mBlk [11] (mSeqS (mOp ixD (mVar 5) (mRet (.int 2)))) (lcBody [11] (gSet 11) (mRet true) (mCall F_law_short (mCons (mVar 11) (mNil))))) (xNil))))
  (g_law_9)
def g_law_11 : Mo Fl := sSeq (sSet 5 (mCallX F_law_drawn 3 (mCons (mRet (.int 4)) (mCons (mRet (.int 5)) (mNil)))))
  (g_law_10)
def g_law_12 : Mo Fl := sFor (mRange range1D (mCons (mRet (.int 6)) (mNil))) (gSet 2) (g_law_11)
def g_law_13 : Mo Fl := sSeq (sPar2 3 4 (xConsO (mCallN F_law_box (mCons (mVar 0) (mCons (mVar 1) (mCons (mRet (.int 2)) (mNil))))) (xConsP (mMake "Bend" I_Bend (mCons (mRet (.int 0)) (mCons (mList (mSized (mCons (mRet (.int 0)) (mCons (mRet (.int 1)) (mNil))))) (mCons (mList (mSized (mCons (mRet (.int 0)) (mNil)))) (mNil))))) (xNil))))
  (g_law_12)
def g_law_14 : Mo Fl := sRet (mOp eqD (mStrO "Bend" F_Bend___str__ (mMake "Bend" I_Bend (mCons (mRet (.int 1)) (mCons (mList (mSized (mCons (mRet (.int 0)) (mCons (mTup (mCons (mRet (.int 1)) (mCons (mRet (.int 2)) (mNil)))) (mNil))))) (mCons (mList (mSized (mCons (mOp subD (mRet (.int 0)) (mRet (.int 1))) (mCons (mTup (mCons (mRet (.int 2)) (mCons (mRet (.int 3)) (mNil)))) (mNil))))) (mNil)))))) (mRet (.str "bend 1 marks 0 1/2 handles -1 2/3")))
def g_law : Mo Fl := sSeq (sFor (mRange range1D (mCons (mBuilt maxD (mCons (mRet (.int 1)) (mCons (mBuilt minD (mCons (mRet (.int 3)) (mCons (mBuilt lenD (mCons (mVar 0) (mNil))) (mNil)))) (mNil)))) (mNil))) (gSet 1) (g_law_13))
  (g_law_14)
def F_law : Fn := guard 1 (runF 12 g_law)
end HB
namespace HB
open PySem L2
def enc (q : Rat) : D := .tuple [.int q.num, .int q.den]
/-- top and bottom below 2 ^ B -/
def Ht (B : Nat) (q : Rat) : Prop := q.num.natAbs < 2 ^ B ∧ q.den < 2 ^ B
theorem Ht.mono {A B : Nat} {q : Rat} (h : Ht A q) (e : A ≤ B) : Ht B q := ⟨Nat.lt_of_lt_of_le h.1 (Nat.pow_le_pow_right (by decide) e), Nat.lt_of_lt_of_le h.2 (Nat.pow_le_pow_right (by decide) e)⟩
theorem Ht.pos {B : Nat} {q : Rat} (h : Ht B q) : 0 < B := by
  cases B with
  | zero => have := h.2; have := q.den_pos; omega
  | succ n => exact Nat.succ_pos n
theorem log_lt {n B : Nat} (h : n < 2 ^ B) (hB : 0 < B) : n.log2 < B := by
  by_cases e : n = 0
  · subst e
    exact hB
  · exact (Nat.log2_lt e).mpr h
theorem fit_by {i j : Int} {A B : Nat} (hi : i.natAbs < 2 ^ A) (hj : j.natAbs < 2 ^ B) (pA : 0 < A) (pB : 0 < B) (h : A + B ≤ 1000000) : mulFit i j = true := by
  have h1 := log_lt hi pA
  have h2 := log_lt hj pB
  unfold mulFit
  exact Nat.ble_eq_true_of_le (by omega)
theorem lowD_enc (t b : Int) (hb : b ≠ 0) (hs : b.natAbs < 2 ^ 9000) : lowD t b = some (.ok (enc (Rat.divInt t b))) := by
  have gp : 0 < Nat.gcd t.natAbs b.natAbs := Nat.gcd_pos_of_pos_right _ (by omega)
  have gl : (Nat.gcd t.natAbs b.natAbs).log2 < 9000 := log_lt (Nat.lt_of_le_of_lt (Nat.gcd_le_right _ (by omega)) hs) (by decide)
  have ok : (Nat.blt 0 (Nat.gcd t.natAbs b.natAbs) && Nat.blt (Nat.gcd t.natAbs b.natAbs).log2 9000) = true := by
    rw [show Nat.blt 0 (Nat.gcd t.natAbs b.natAbs) = true from Nat.ble_eq_true_of_le gp, show Nat.blt (Nat.gcd t.natAbs b.natAbs).log2 9000 = true from Nat.ble_eq_true_of_le gl]
    rfl
  have gg : b.gcd t = Nat.gcd t.natAbs b.natAbs := Nat.gcd_comm _ _
  unfold lowD enc
  rw [ok, Rat.num_divInt, Rat.den_divInt, if_neg hb, gg]
  by_cases pos : 0 < b
  · have e1 : gtI b 0 = true := decide_eq_true pos
    have e2 : ((b.natAbs / Nat.gcd t.natAbs b.natAbs : Nat) : Int) = b / (Nat.gcd t.natAbs b.natAbs : Nat) := by
      rw [Int.natCast_ediv, Int.natAbs_of_nonneg (by omega)]
    simp only [e1, e2, Int.sign_eq_one_of_pos pos, Int.one_mul]
  · have neg : b < 0 := by omega
    have e1 : gtI b 0 = false := decide_eq_false pos
    have e2 : ((b.natAbs / Nat.gcd t.natAbs b.natAbs : Nat) : Int) = -b / (Nat.gcd t.natAbs b.natAbs : Nat) := by
      rw [Int.natCast_ediv, show (b.natAbs : Int) = -b by omega]
    simp only [e1, e2, Int.sign_eq_neg_one_of_neg neg, Int.neg_mul, Int.one_mul]
theorem den_abs (q : Rat) : ((q.den : Int)).natAbs = q.den := Int.natAbs_natCast _
theorem prod_lt {m n A B : Nat} (h1 : m < 2 ^ A) (h2 : n < 2 ^ B) : m * n < 2 ^ (A + B) := by
  rw [Nat.pow_add]
  exact Nat.mul_lt_mul'' h1 h2
section
variable {a b : Rat} {A B : Nat}
theorem added_enc (ha : Ht A a) (hb : Ht B b) (h : A + B ≤ 9000) : M_added [enc a, enc b] = some (.ok (enc (a + b))) := by
  have f1 : mulFit a.num b.den = true := fit_by ha.1 (by simpa using hb.2) ha.pos hb.pos (by omega)
  have f2 : mulFit b.num a.den = true := fit_by hb.1 (by simpa using ha.2) hb.pos ha.pos (by omega)
  have f3 : mulFit a.den b.den = true := fit_by (by simpa using ha.2) (by simpa using hb.2) ha.pos hb.pos (by omega)
  have na : (a.den : Int) ≠ 0 := by have := a.den_pos; omega
  have nb : (b.den : Int) ≠ 0 := by have := b.den_pos; omega
  have e : a + b = Rat.divInt (a.num * b.den + b.num * a.den) (a.den * b.den) := by
    rw [← Rat.divInt_add_divInt _ _ na nb, Rat.num_divInt_den, Rat.num_divInt_den]
  have sz : ((a.den : Int) * b.den).natAbs < 2 ^ 9000 := by
    rw [Int.natAbs_mul, den_abs, den_abs]
    exact Nat.lt_of_lt_of_le (prod_lt ha.2 hb.2) (Nat.pow_le_pow_right (by decide) h)
  show (match mulFit a.num b.den && (mulFit b.num a.den && mulFit a.den b.den) with
    | true => lowD (a.num * b.den + b.num * a.den) (a.den * b.den)
    | false => none) = _
  rw [f1, f2, f3, e]
  exact lowD_enc _ _ (Int.mul_ne_zero na nb) sz
theorem multiplied_enc (ha : Ht A a) (hb : Ht B b) (h : A + B ≤ 9000) : M_multiplied [enc a, enc b] = some (.ok (enc (a * b))) := by
  have f1 : mulFit a.num b.num = true := fit_by ha.1 hb.1 ha.pos hb.pos (by omega)
  have f3 : mulFit a.den b.den = true := fit_by (by simpa using ha.2) (by simpa using hb.2) ha.pos hb.pos (by omega)
  have na : (a.den : Int) ≠ 0 := by have := a.den_pos; omega
  have nb : (b.den : Int) ≠ 0 := by have := b.den_pos; omega
  have e : a * b = Rat.divInt (a.num * b.num) (a.den * b.den) := by
    rw [← Rat.divInt_mul_divInt, Rat.num_divInt_den, Rat.num_divInt_den]
  have sz : ((a.den : Int) * b.den).natAbs < 2 ^ 9000 := by
    rw [Int.natAbs_mul, den_abs, den_abs]
    exact Nat.lt_of_lt_of_le (prod_lt ha.2 hb.2) (Nat.pow_le_pow_right (by decide) h)
  show (match mulFit a.num b.num && mulFit a.den b.den with
    | true => lowD (a.num * b.num) (a.den * b.den)
    | false => none) = _
  rw [f1, f3, e]
  exact lowD_enc _ _ (Int.mul_ne_zero na nb) sz
theorem is_less_enc (ha : Ht A a) (hb : Ht B b) (h : A + B ≤ 9000) : M_is_less [enc a, enc b] = some (.ok (.bool (decide (a < b)))) := by
  have f1 : mulFit a.num b.den = true := fit_by ha.1 (by simpa using hb.2) ha.pos hb.pos (by omega)
  have f2 : mulFit b.num a.den = true := fit_by hb.1 (by simpa using ha.2) hb.pos ha.pos (by omega)
  show (match mulFit a.num b.den && mulFit b.num a.den with
    | true => some (.ok (.bool (ltI (a.num * b.den) (b.num * a.den))))
    | false => none : Option (Except Exn D)) = _
  rw [f1, f2]
  simp only [ltI, Rat.lt_iff, Bool.and_self]
theorem less_by_enc (ha : Ht A a) (hb : Ht B b) (h : A + B ≤ 9000) : M_less_by [enc a, enc b] = some (.ok (enc (a - b))) := by
  have f1 : mulFit a.num b.den = true := fit_by ha.1 (by simpa using hb.2) ha.pos hb.pos (by omega)
  have f2 : mulFit b.num a.den = true := fit_by hb.1 (by simpa using ha.2) hb.pos ha.pos (by omega)
  have f3 : mulFit a.den b.den = true := fit_by (by simpa using ha.2) (by simpa using hb.2) ha.pos hb.pos (by omega)
  have na : (a.den : Int) ≠ 0 := by have := a.den_pos; omega
  have nb : (b.den : Int) ≠ 0 := by have := b.den_pos; omega
  have e : a - b = Rat.divInt (a.num * b.den - b.num * a.den) (a.den * b.den) := by
    have e1 := Rat.divInt_add_divInt a.num (-b.num) na nb
    rw [Rat.num_divInt_den, ← Rat.neg_divInt, Rat.num_divInt_den, Int.neg_mul] at e1
    rw [Rat.sub_eq_add_neg, e1]
    rfl
  have sz : ((a.den : Int) * b.den).natAbs < 2 ^ 9000 := by
    rw [Int.natAbs_mul, den_abs, den_abs]
    exact Nat.lt_of_lt_of_le (prod_lt ha.2 hb.2) (Nat.pow_le_pow_right (by decide) h)
  show (match mulFit a.num b.den && (mulFit b.num a.den && mulFit a.den b.den) with
    | true => lowD (a.num * b.den - b.num * a.den) (a.den * b.den)
    | false => none) = _
  rw [f1, f2, f3, e]
  exact lowD_enc _ _ (Int.mul_ne_zero na nb) sz
end
theorem ht_divInt {t b : Int} {C : Nat} (hb : b ≠ 0) (h1 : t.natAbs < 2 ^ C) (h2 : b.natAbs < 2 ^ C) : Ht C (Rat.divInt t b) := by
  refine ⟨?_, ?_⟩
  · rw [Rat.num_divInt]
    refine Nat.lt_of_le_of_lt (Int.natAbs_ediv_le_natAbs _ _) ?_
    rw [Int.natAbs_mul, Int.natAbs_sign_of_ne_zero hb, Nat.one_mul]
    exact h1
  · rw [Rat.den_divInt, if_neg hb]
    exact Nat.lt_of_le_of_lt (Nat.div_le_self _ _) h2
section
variable {a b : Rat} {A B : Nat}
theorem den_ne (q : Rat) : (q.den : Int) ≠ 0 := by have := q.den_pos; omega
theorem add_divInt (a b : Rat) : a + b = Rat.divInt (a.num * b.den + b.num * a.den) (a.den * b.den) := by
  rw [← Rat.divInt_add_divInt _ _ (den_ne a) (den_ne b), Rat.num_divInt_den, Rat.num_divInt_den]
theorem mul_divInt (a b : Rat) : a * b = Rat.divInt (a.num * b.num) (a.den * b.den) := by
  rw [← Rat.divInt_mul_divInt, Rat.num_divInt_den, Rat.num_divInt_den]
theorem dens_lt (ha : Ht A a) (hb : Ht B b) : ((a.den : Int) * b.den).natAbs < 2 ^ (A + B) := by
  rw [Int.natAbs_mul, den_abs, den_abs]
  exact prod_lt ha.2 hb.2
theorem Ht.mul (ha : Ht A a) (hb : Ht B b) : Ht (A + B) (a * b) := by
  rw [mul_divInt]
  refine ht_divInt (Int.mul_ne_zero (den_ne a) (den_ne b)) ?_ (dens_lt ha hb)
  rw [Int.natAbs_mul]
  exact prod_lt ha.1 hb.1
theorem Ht.add (ha : Ht A a) (hb : Ht B b) : Ht (A + B + 1) (a + b) := by
  rw [add_divInt]
  have e : 2 ^ (A + B + 1) = 2 ^ (A + B) + 2 ^ (A + B) := by rw [Nat.pow_succ]; omega
  have x : (a.num * b.den).natAbs < 2 ^ (A + B) := by rw [Int.natAbs_mul, den_abs]; exact prod_lt ha.1 hb.2
  have y : (b.num * a.den).natAbs < 2 ^ (A + B) := by rw [Int.natAbs_mul, den_abs, Nat.add_comm]; exact prod_lt hb.1 ha.2
  refine ht_divInt (Int.mul_ne_zero (den_ne a) (den_ne b)) ?_ (Nat.lt_of_lt_of_le (dens_lt ha hb) (by omega))
  have := Int.natAbs_add_le (a.num * b.den) (b.num * a.den)
  omega
theorem Ht.neg (ha : Ht A a) : Ht A (-a) := ⟨by rw [Rat.neg_num, Int.natAbs_neg]; exact ha.1, by rw [Rat.neg_den]; exact ha.2⟩
theorem Ht.sub (ha : Ht A a) (hb : Ht B b) : Ht (A + B + 1) (a - b) := by
  rw [Rat.sub_eq_add_neg]
  exact ha.add hb.neg
theorem div_divInt (a b : Rat) : a / b = Rat.divInt (a.num * b.den) (a.den * b.num) := by
  rw [Rat.div_def, Rat.inv_def, ← Rat.divInt_mul_divInt, Rat.num_divInt_den]
theorem num_ne {q : Rat} (h : q ≠ 0) : q.num ≠ 0 := fun e => h (Rat.num_eq_zero.mp e)
theorem quot_lt (ha : Ht A a) (hb : Ht B b) : ((a.den : Int) * b.num).natAbs < 2 ^ (A + B) := by
  rw [Int.natAbs_mul, den_abs]
  exact prod_lt ha.2 hb.1
theorem Ht.div (ha : Ht A a) (hb : Ht B b) (n : b ≠ 0) : Ht (A + B) (a / b) := by
  rw [div_divInt]
  refine ht_divInt (Int.mul_ne_zero (den_ne a) (num_ne n)) ?_ (quot_lt ha hb)
  rw [Int.natAbs_mul, den_abs]
  exact prod_lt ha.1 hb.2
theorem quotient_enc (ha : Ht A a) (hb : Ht B b) (n : b ≠ 0) (h : A + B ≤ 9000) : M_quotient [enc a, enc b] = some (.ok (enc (a / b))) := by
  have f1 : mulFit a.num b.den = true := fit_by ha.1 (by simpa using hb.2) ha.pos hb.pos (by omega)
  have f2 : mulFit a.den b.num = true := fit_by (by simpa using ha.2) hb.1 ha.pos hb.pos (by omega)
  show (match mulFit a.num b.den && mulFit a.den b.num with
    | true => lowD (a.num * b.den) (a.den * b.num)
    | false => none) = _
  rw [f1, f2, div_divInt]
  exact lowD_enc _ _ (Int.mul_ne_zero (den_ne a) (num_ne n)) (Nat.lt_of_lt_of_le (quot_lt ha hb) (Nat.pow_le_pow_right (by decide) h))
theorem rat_eq (a b : Rat) : a = b ↔ a.num = b.num ∧ a.den = b.den := ⟨fun e => e ▸ ⟨rfl, rfl⟩, fun ⟨e1, e2⟩ => Rat.ext e1 e2⟩
theorem eq_enc (a b : Rat) : eqD (enc a) (enc b) = some (.bool (decide (a = b))) := by
  have s : ∀ q : Rat, SeqAt.shaped (enc q) = true := fun q => by simp [enc, SeqAt.shaped, PyData.canLay0, PyData.canLayAll0, PyData.depth, PyData.depthAll]
  have e : eqD (enc a) (enc b) = if SeqAt.shaped (enc a) = true ∧ SeqAt.shaped (enc b) = true then some (.bool (PyData.eqv (enc a) (enc b))) else none := rfl
  rw [e, if_pos ⟨s a, s b⟩]
  have v : PyData.eqv (enc a) (enc b) = decide (a = b) := by
    simp only [enc, PyData.eqv, PyData.eqvAll, rat_eq, Bool.and_true, Bool.decide_and]
    rw [Bool.eq_iff_iff]
    simp only [Bool.and_eq_true, beq_iff_eq, decide_eq_true_eq, Int.natCast_inj]
  rw [v]
end
end HB
namespace HB
open PySem L2
/-- q = n / N with n of size at most M -/
def Bd (N M : Nat) (q : Rat) : Prop := 0 < N ∧ ∃ n : Int, q = Rat.divInt n N ∧ n.natAbs ≤ M
section
variable {a b q : Rat} {N M N1 M1 N2 M2 B k : Nat}
theorem Bd.ne (h : Bd N M q) : (N : Int) ≠ 0 := by have := h.1; omega
theorem Bd.mono (h : Bd N M1 q) (e : M1 ≤ M2) : Bd N M2 q := let ⟨p, n, e1, e2⟩ := h; ⟨p, n, e1, Nat.le_trans e2 e⟩
theorem Bd.ht (h : Bd N M q) (hN : N < 2 ^ B) (hM : M < 2 ^ B) : Ht B q := by
  obtain ⟨_, n, rfl, e⟩ := id h
  exact ht_divInt h.ne (Nat.lt_of_le_of_lt e hM) (by rw [Int.natAbs_natCast]; exact hN)
theorem Bd.scale (h : Bd N M q) (hk : 0 < k) : Bd (N * k) (M * k) q := by
  obtain ⟨p, n, rfl, e⟩ := h
  refine ⟨Nat.mul_pos p hk, n * k, ?_, ?_⟩
  · rw [Int.natCast_mul, Rat.divInt_mul_right (by omega)]
  · rw [Int.natAbs_mul, Int.natAbs_natCast]
    exact Nat.mul_le_mul_right _ e
theorem Bd.add (ha : Bd N M1 a) (hb : Bd N M2 b) : Bd N (M1 + M2) (a + b) := by
  obtain ⟨p, n, rfl, e1⟩ := id ha
  obtain ⟨_, m, rfl, e2⟩ := hb
  refine ⟨p, n + m, ?_, Nat.le_trans (Int.natAbs_add_le _ _) (Nat.add_le_add e1 e2)⟩
  rw [Rat.divInt_add_divInt _ _ ha.ne ha.ne, ← Int.add_mul, Rat.divInt_mul_right ha.ne]
theorem Bd.neg (ha : Bd N M a) : Bd N M (-a) := by
  obtain ⟨p, n, rfl, e⟩ := ha
  exact ⟨p, -n, by rw [Rat.neg_divInt], by rw [Int.natAbs_neg]; exact e⟩
theorem Bd.sub (ha : Bd N M1 a) (hb : Bd N M2 b) : Bd N (M1 + M2) (a - b) := by
  rw [Rat.sub_eq_add_neg]
  exact ha.add hb.neg
theorem Bd.mul (ha : Bd N1 M1 a) (hb : Bd N2 M2 b) : Bd (N1 * N2) (M1 * M2) (a * b) := by
  obtain ⟨p, n, rfl, e1⟩ := ha
  obtain ⟨q, m, rfl, e2⟩ := hb
  refine ⟨Nat.mul_pos p q, n * m, ?_, ?_⟩
  · rw [Rat.divInt_mul_divInt, Int.natCast_mul]
  · rw [Int.natAbs_mul]
    exact Nat.mul_le_mul e1 e2
theorem bd_int (n : Int) : Bd 1 n.natAbs n := ⟨by decide, n, by rw [Rat.divInt_eq_div]; grind, Nat.le_refl _⟩
end
end HB
namespace HB
open PySem L2
theorem set_set (ρ : En) (v : Nat) (a b : Sl) : (ρ.set v a).set v b = ρ.set v b := List.set_set _
theorem rest1 (ρ : En) (v : Nat) : restE ρ (ρ.set v .no) [v] = ρ := by
  show (ρ.set v .no).set v (ρ.getD v .no) = ρ
  rw [set_set]
  apply List.ext_getElem?
  intro i
  by_cases e : v = i
  · subst e
    by_cases h : v < ρ.length
    · rw [List.getElem?_set_self h, List.getD_eq_getElem?_getD, List.getElem?_eq_getElem h]
      rfl
    · rw [List.getElem?_eq_none (by rw [List.length_set]; omega), List.getElem?_eq_none (by omega)]
  · rw [List.getElem?_set_ne e]
section
variable {α : Type}
theorem lc_sel {v : Nat} {test : Mo Bool} {elt : Mo D} {ρ : En} (c : α → D) (P : α → Bool) (F : α → D) : ∀ (L : List α), (∀ a ∈ L, test (ρ.set v (.pur (c a))) = some (.ok (ρ.set v (.pur (c a)), P a))) → (∀ a ∈ L, P a = true → elt (ρ.set v (.pur (c a))) = some (.ok (ρ.set v (.pur (c a)), F a))) →
    lcL [v] (gSet v) test elt (L.map c) (ρ.set v .no) = some (ρ.set v .no, (L.filter P).map F)
  | [], _, _ => rfl
  | a :: L, ht, he => by
    have ih := lc_sel c P F L (fun b hb => ht b (List.mem_cons_of_mem _ hb)) (fun b hb => he b (List.mem_cons_of_mem _ hb))
    have t1 := ht a List.mem_cons_self
    have w : wipeE (ρ.set v (.pur (c a))) [v] = ρ.set v .no := set_set _ _ _ _
    simp only [List.map_cons, lcL, gSet, set_set, t1]
    cases hP : P a with
    | false => rw [List.filter_cons_of_neg (by simp [hP])]; simp only [w, ih]
    | true =>
      rw [List.filter_cons_of_pos hP]
      simp only [he a List.mem_cons_self hP, w, ih, List.map_cons]
theorem blk_sel {v : Nat} {src : Mo Src} {test : Mo Bool} {elt : Mo D} {ρ : En} (L : List α) (c : α → D) (P : α → Bool) (F : α → D) (hs : src ρ = some (.ok (ρ, constS (L.map c)))) (hl : L.length < 1000000) (ho : noOwn ρ [v] = true)
    (ht : ∀ a ∈ L, test (ρ.set v (.pur (c a))) = some (.ok (ρ.set v (.pur (c a)), P a))) (he : ∀ a ∈ L, P a = true → elt (ρ.set v (.pur (c a))) = some (.ok (ρ.set v (.pur (c a)), F a))) :
    mBlk [v] src (lcBody [v] (gSet v) test elt) ρ = some (.ok (ρ, (L.filter P).map F)) := by
  have hb : Nat.blt (L.map c).length 1000000 = true := Nat.ble_eq_true_of_le (by rw [List.length_map]; exact hl)
  unfold mBlk mBind
  simp only [hs, ho, lcBody, constS, hb]
  rw [show wipeE ρ [v] = ρ.set v .no from rfl, lc_sel c P F L ht he]
  simp only [rest1]
theorem blk_map {v : Nat} {src : Mo Src} {elt : Mo D} {ρ : En} (L : List α) (c : α → D) (F : α → D) (hs : src ρ = some (.ok (ρ, constS (L.map c)))) (hl : L.length < 1000000) (ho : noOwn ρ [v] = true)
    (he : ∀ a ∈ L, elt (ρ.set v (.pur (c a))) = some (.ok (ρ.set v (.pur (c a)), F a))) :
    mBlk [v] src (lcBody [v] (gSet v) (mRet true) elt) ρ = some (.ok (ρ, L.map F)) := by
  have h := blk_sel (test := mRet true) L c (fun _ => true) F hs hl ho (fun a _ => rfl) fun a ha _ => he a ha
  rwa [List.filter_eq_self.mpr (fun _ _ => Eq.refl true)] at h
theorem lc_gen {vs : List Nat} {g : D → En → Option En} {elt : Mo D} {ρ0 : En} (c : α → D) (F : α → D) (st : α → En) : ∀ (L : List α), (∀ a ∈ L, g (c a) ρ0 = some (st a)) → (∀ a ∈ L, elt (st a) = some (.ok (st a, F a))) → (∀ a ∈ L, wipeE (st a) vs = ρ0) → lcL vs g (mRet true) elt (L.map c) ρ0 = some (ρ0, L.map F)
  | [], _, _, _ => rfl
  | a :: L, hg, he, hw => by
    have ih := lc_gen c F st L (fun b hb => hg b (List.mem_cons_of_mem _ hb)) (fun b hb => he b (List.mem_cons_of_mem _ hb)) (fun b hb => hw b (List.mem_cons_of_mem _ hb))
    simp only [List.map_cons, lcL, hg a List.mem_cons_self, mRet, he a List.mem_cons_self, hw a List.mem_cons_self, ih]
theorem blk_gen {vs : List Nat} {g : D → En → Option En} {src : Mo Src} {elt : Mo D} {ρ : En} (L : List α) (c : α → D) (F : α → D) (st : α → En) (hs : src ρ = some (.ok (ρ, constS (L.map c)))) (hl : L.length < 1000000) (ho : noOwn ρ vs = true)
    (hg : ∀ a ∈ L, g (c a) (wipeE ρ vs) = some (st a)) (he : ∀ a ∈ L, elt (st a) = some (.ok (st a, F a))) (hw : ∀ a ∈ L, wipeE (st a) vs = wipeE ρ vs) (hr : restE ρ (wipeE ρ vs) vs = ρ) :
    mBlk vs src (lcBody vs g (mRet true) elt) ρ = some (.ok (ρ, L.map F)) := by
  have hb : Nat.blt (L.map c).length 1000000 = true := Nat.ble_eq_true_of_le (by rw [List.length_map]; exact hl)
  unfold mBlk mBind
  simp only [hs, ho, lcBody, constS, hb]
  rw [lc_gen c F st L hg he hw]
  simp only [hr]
theorem for_pre {v : Nat} {body : Mo Fl} (c : α → D) (I : List α → En → Prop) : ∀ (L d : List α) (ρ : En), (∀ d1 a r ρ, d ++ L = d1 ++ a :: r → I d1 ρ → ∃ ρ' f, body (ρ.set v (.pur (c a))) = some (.ok (ρ', f)) ∧ (f = .nx ∨ f = .ct) ∧ I (d1 ++ [a]) ρ') → I d ρ →
    ∃ ρ', forL (gSet v) body (L.map c) ρ = some (.ok (ρ', .nx)) ∧ I (d ++ L) ρ'
  | [], d, ρ, _, h0 => ⟨ρ, rfl, by rwa [List.append_nil]⟩
  | a :: L, d, ρ, h, h0 => by
    obtain ⟨ρ1, f, e1, e2, e3⟩ := h d a L ρ rfl h0
    obtain ⟨ρ', e4, e5⟩ := for_pre c I L (d ++ [a]) ρ1 (fun d1 b r ρ2 e => h d1 b r ρ2 (by rw [← e]; simp)) e3
    refine ⟨ρ', ?_, by rwa [List.append_assoc] at e5⟩
    rcases e2 with rfl | rfl
    · simp only [List.map_cons, forL, gSet, e1]; exact e4
    · simp only [List.map_cons, forL, gSet, e1]; exact e4
theorem for_ok {v : Nat} {src : Mo Src} {body : Mo Fl} {ρ ρ0 : En} (L : List α) (c : α → D) (I : List α → En → Prop) (hs : src ρ0 = some (.ok (ρ, constS (L.map c)))) (h0 : I [] ρ)
    (h : ∀ d a r ρ, L = d ++ a :: r → I d ρ → ∃ ρ' f, body (ρ.set v (.pur (c a))) = some (.ok (ρ', f)) ∧ (f = .nx ∨ f = .ct) ∧ I (d ++ [a]) ρ') : ∃ ρ', sFor src (gSet v) body ρ0 = some (.ok (ρ', .nx)) ∧ I L ρ' := by
  obtain ⟨ρ', e1, e2⟩ := for_pre (v := v) (body := body) c I L [] ρ (fun d a r ρ e => h d a r ρ e) h0
  refine ⟨ρ', ?_, e2⟩
  unfold sFor mBind
  simp only [hs, constS]
  exact e1
end
def natD (i : Nat) : D := .int (i : Int)
theorem rangeD_map : ∀ (n lo : Nat), rangeD (lo : Int) n = (List.range' lo n).map natD
  | 0, _ => rfl
  | n + 1, lo => by
    rw [rangeD, show ((lo : Int) + 1) = ((lo + 1 : Nat) : Int) by omega, rangeD_map n (lo + 1), List.range'_succ]
    rfl
theorem rangeD0 (n : Nat) : rangeD 0 n = (List.range n).map natD := by
  rw [List.range_eq_range']
  exact rangeD_map n 0
theorem range1_of {z : Int} (n : Nat) (h : z = n) (hn : n ≤ 1000000) : range1D [.int z] = some (constS ((List.range n).map natD)) := by
  subst h
  show (if -1000000000 ≤ (n : Int) ∧ (n : Int) ≤ 1000000000 then some (constS (rangeD 0 (n : Int).toNat)) else none) = _
  rw [if_pos ⟨by omega, by omega⟩, Int.toNat_natCast, rangeD0]
theorem range2_of {y z : Int} (m n : Nat) (h1 : y = m) (h2 : z = m + n) (hm : m ≤ 1000000) (hn : n ≤ 1000000) : range2D [.int y, .int z] = some (constS ((List.range' m n).map natD)) := by
  subst h1 h2
  show (if -1000000000 ≤ (m : Int) ∧ (m : Int) ≤ 1000000000 ∧ -1000000000 ≤ (m + n : Int) ∧ (m + n : Int) ≤ 1000000000 then some (constS (rangeD m ((m + n : Int) - m).toNat)) else none) = _
  rw [if_pos ⟨by omega, by omega, by omega, by omega⟩, show ((m : Int) + n - m).toNat = n by omega, rangeD_map]
theorem for_range {v : Nat} {src : Mo Src} {body : Mo Fl} {ρ ρ0 : En} (m n : Nat) (I : Nat → En → Prop) (hs : src ρ0 = some (.ok (ρ, constS ((List.range' m n).map natD)))) (h0 : I m ρ)
    (h : ∀ i ρ, m ≤ i → i < m + n → I i ρ → ∃ ρ' f, body (ρ.set v (.pur (natD i))) = some (.ok (ρ', f)) ∧ (f = .nx ∨ f = .ct) ∧ I (i + 1) ρ') : ∃ ρ', sFor src (gSet v) body ρ0 = some (.ok (ρ', .nx)) ∧ I (m + n) ρ' := by
  obtain ⟨ρ', e1, e2⟩ := for_ok (v := v) (body := body) (List.range' m n) natD (fun d ρ => I (m + d.length) ρ) hs h0 fun d a r ρ e hI => by
    have hl : d.length < n := by have := congrArg List.length e; simp at this; omega
    have ha : a = m + d.length := by
      have := congrArg (fun l => l[d.length]?) e
      simp [hl] at this
      omega
    obtain ⟨ρ', f, h1, h2, h3⟩ := h (m + d.length) ρ (by omega) (by omega) hI
    refine ⟨ρ', f, by rw [ha]; exact h1, h2, ?_⟩
    rw [List.length_append]; rw [List.length_singleton]
    exact h3
  exact ⟨ρ', e1, by rw [List.length_range'] at e2; exact e2⟩
theorem atI_nat {α : Type} {xs : List α} {z : Int} {i : Nat} (h : z = i) (hi : i < xs.length) : L2.atI xs z = some xs[i] := by
  subst h
  unfold L2.atI ixN
  rw [if_pos (by omega), if_pos (by omega), Int.toNat_natCast]
  simp [hi]
theorem atI_last {α : Type} {xs : List α} (h : xs ≠ []) : L2.atI xs (-1) = some (xs.getLast h) := by
  have hp := List.length_pos_iff.mpr h
  unfold L2.atI ixN
  rw [if_neg (by omega), if_pos (by omega), show (-1 + (xs.length : Int)).toNat = xs.length - 1 by omega]
  simp [List.getLast_eq_getElem, hp]
theorem ix_tup {xs : List D} {z : Int} {i : Nat} (h : z = i) (hi : i < xs.length) : ixD (.tuple xs) (.int z) = some xs[i] := atI_nat h hi
theorem ix_lst {xs : List D} {z : Int} {i : Nat} (h : z = i) (hi : i < xs.length) : ixD (.list xs) (.int z) = some xs[i] := atI_nat h hi
/-- the i-th of some fractions, nought beyond -/
def at0 (ks : List Rat) (i : Nat) : Rat := ks.getD i 0
theorem at0_lt {ks : List Rat} {i : Nat} (h : i < ks.length) : at0 ks i = ks[i] := by
  unfold at0
  rw [List.getD_eq_getElem?_getD, List.getElem?_eq_getElem h]
  rfl
def encL (ks : List Rat) : List D := ks.map enc
theorem len_encL (ks : List Rat) : (encL ks).length = ks.length := by unfold encL; exact List.length_map _
theorem ixT {ks : List Rat} {z : Int} {i : Nat} (h : z = i) (hi : i < ks.length) : ixD (.tuple (encL ks)) (.int z) = some (enc (at0 ks i)) := by
  unfold encL
  rw [ix_tup h (by simpa using hi), at0_lt hi]
  simp
theorem ixL {ks : List Rat} {z : Int} {i : Nat} (h : z = i) (hi : i < ks.length) : ixD (.list (encL ks)) (.int z) = some (enc (at0 ks i)) := by
  unfold encL
  rw [ix_lst h (by simpa using hi), at0_lt hi]
  simp
theorem ixT_last {ks : List Rat} (h : 0 < ks.length) : ixD (.tuple (encL ks)) (.int (-1)) = some (enc (at0 ks (ks.length - 1))) := by
  have e := atI_last (xs := encL ks) (by intro z; have := congrArg List.length z; rw [len_encL, List.length_nil] at this; omega)
  rw [show ixD (.tuple (encL ks)) (.int (-1)) = L2.atI (encL ks) (-1) from rfl, e, at0_lt (by omega), List.getLast_eq_getElem]
  simp [encL]
theorem ixL_last {ks : List Rat} (h : 0 < ks.length) : ixD (.list (encL ks)) (.int (-1)) = some (enc (at0 ks (ks.length - 1))) := ixT_last h
theorem boolsD_map {α : Type} (p : α → Bool) : ∀ L : List α, boolsD (L.map fun a => .bool (p a)) = some (L.map p)
  | [] => rfl
  | a :: L => by
    simp only [List.map_cons, boolsD, boolsD_map p L]
    rfl
theorem all_map {α : Type} (p : α → Bool) (L : List α) : allD [.list (L.map fun a => .bool (p a))] = some (.bool (L.all p)) := by
  simp only [allD, boolsD_map p L, Option.map_some, List.all_map, Function.comp_def, id_eq]
theorem any_map {α : Type} (p : α → Bool) (L : List α) : anyD [.list (L.map fun a => .bool (p a))] = some (.bool (L.any p)) := by
  simp only [anyD, boolsD_map p L, Option.map_some, List.any_map, Function.comp_def, id_eq]
theorem map_congr2 {α β : Type} {f g : α → β} {L : List α} (h : ∀ a ∈ L, f a = g a) : L.map f = L.map g := List.map_congr_left h
def bd {α β : Type} (o : Option (Except Exn (En × α))) (f : En → α → Option (Except Exn (En × β))) : Option (Except Exn (En × β)) := match o with
  | none => none
  | some (.error x) => some (.error x)
  | some (.ok (ρ, a)) => f ρ a
theorem bd_ok {α β : Type} (ρ : En) (a : α) (f : En → α → Option (Except Exn (En × β))) : bd (some (.ok (ρ, a))) f = f ρ a := id rfl
def lf {α : Type} (ρ : En) (o : Option α) : Option (Except Exn (En × α)) := match o with
  | none => none
  | some a => some (.ok (ρ, a))
theorem lf_some {α : Type} (ρ : En) (a : α) : lf ρ (some a) = some (.ok (ρ, a)) := id rfl
def cl {α : Type} (ρ : En) (o : Option (Except Exn α)) : Option (Except Exn (En × α)) := match o with
  | none => none
  | some (.error x) => some (.error x)
  | some (.ok a) => some (.ok (ρ, a))
theorem cl_ok {α : Type} (ρ : En) (a : α) : cl ρ (some (.ok a)) = some (.ok (ρ, a)) := id rfl
section
variable {ρ : En}
theorem a_ret {α : Type} (a : α) : mRet a ρ = some (.ok (ρ, a)) := id rfl
theorem a_op (f : D → D → Option D) (a b : Mo D) : mOp f a b ρ = bd (a ρ) fun ρ1 x => bd (b ρ1) fun ρ2 y => lf ρ2 (f x y) := id rfl
theorem a_un (f : D → Option D) (a : Mo D) : mUn f a ρ = bd (a ρ) fun ρ1 x => lf ρ1 (f x) := id rfl
theorem a_test (a : Mo D) : mTest a ρ = bd (a ρ) fun ρ1 x => lf ρ1 (boolD x) := id rfl
theorem a_and (a b : Mo Bool) : mAnd a b ρ = bd (a ρ) fun ρ1 c => bif c then b ρ1 else some (.ok (ρ1, false)) := by
  unfold mAnd mBind bd
  split <;> rename_i h <;> simp only [h]
  rename_i c; cases c <;> rfl
theorem a_or (a b : Mo Bool) : mOr a b ρ = bd (a ρ) fun ρ1 c => bif c then some (.ok (ρ1, true)) else b ρ1 := by
  unfold mOr mBind bd
  split <;> rename_i h <;> simp only [h]
  rename_i c; cases c <;> rfl
theorem a_not (a : Mo Bool) : mNot a ρ = bd (a ρ) fun ρ1 c => some (.ok (ρ1, !c)) := id rfl
theorem a_andV (a b : Mo D) : mAndV a b ρ = bd (mTest a ρ) fun ρ1 c => bif c then b ρ1 else some (.ok (ρ1, .bool false)) := by
  unfold mAndV mBind bd
  split <;> rename_i h <;> simp only [h]
  rename_i c; cases c <;> rfl
theorem a_orV (a b : Mo D) : mOrV a b ρ = bd (mTest a ρ) fun ρ1 c => bif c then some (.ok (ρ1, .bool true)) else b ρ1 := by
  unfold mOrV mBind bd
  split <;> rename_i h <;> simp only [h]
  rename_i c; cases c <;> rfl
theorem a_notV (a : Mo D) : mNotV a ρ = bd (mTest a ρ) fun ρ1 c => some (.ok (ρ1, .bool (!c))) := id rfl
theorem a_if (c : Mo Bool) (a b : Mo D) : mIf c a b ρ = bd (c ρ) fun ρ1 c => bif c then a ρ1 else b ρ1 := by
  unfold mIf mBind bd
  split <;> rename_i h <;> simp only [h]
  rename_i c; cases c <;> rfl
theorem a_sif (c : Mo Bool) (a b : Mo Fl) : sIf c a b ρ = bd (c ρ) fun ρ1 c => bif c then a ρ1 else b ρ1 := by
  unfold sIf mBind bd
  split <;> rename_i h <;> simp only [h]
  rename_i c; cases c <;> rfl
theorem a_nil : mNil ρ = some (.ok (ρ, [])) := id rfl
theorem a_cons (a : Mo D) (r : Mo (List D)) : mCons a r ρ = bd (a ρ) fun ρ1 x => bd (r ρ1) fun ρ2 xs => some (.ok (ρ2, x :: xs)) := id rfl
theorem a_star (a : Mo D) (r : Mo (List D)) : mStar a r ρ = bd (a ρ) fun ρ1 x => bd (lf ρ1 (itemsD x)) fun ρ1 ys => bd (r ρ1) fun ρ2 xs => some (.ok (ρ2, ys ++ xs)) := id rfl
theorem a_list (a : Mo (List D)) : mList a ρ = bd (a ρ) fun ρ1 x => some (.ok (ρ1, .list x)) := id rfl
theorem a_tup (a : Mo (List D)) : mTup a ρ = bd (a ρ) fun ρ1 ds => lf ρ1 (if sizeOk ds = true then some (.tuple ds) else none) := id rfl
theorem a_sized (a : Mo (List D)) : mSized a ρ = bd (a ρ) fun ρ1 ds => lf ρ1 (if sizeOk ds = true then some ds else none) := id rfl
theorem a_call (F : Fn) (a : Mo (List D)) : mCall F a ρ = bd (a ρ) fun ρ1 ds => cl ρ1 (F ds) := by
  unfold mCall mBind bd
  cases h : a ρ with
  | none => rfl
  | some r =>
    cases r with
    | error x => rfl
    | ok pr =>
      obtain ⟨ρ1, ds⟩ := pr
      simp only
      unfold cl
      cases F ds with
      | none => rfl
      | some q => cases q <;> rfl
theorem a_built (f : List D → Option D) (a : Mo (List D)) : mBuilt f a ρ = bd (a ρ) fun ρ1 ds => lf ρ1 (f ds) := id rfl
theorem a_seq (a b : Mo Fl) : sSeq a b ρ = bd (a ρ) fun ρ1 f => match f with
  | .nx => b ρ1
  | .rt d => some (.ok (ρ1, .rt d))
  | .bk => some (.ok (ρ1, .bk))
  | .ct => some (.ok (ρ1, .ct)) := by
  unfold sSeq mBind bd
  split <;> rename_i h <;> simp only [h]
  rename_i c; cases c <;> rfl
theorem a_set (i : Nat) (f : Mo D) : sSet i f ρ = bd (f ρ) fun ρ1 d => some (.ok (ρ1.set i (.pur d), .nx)) := id rfl
theorem a_own (i : Nat) (f : Mo (List D)) : sOwn i f ρ = bd (f ρ) fun ρ1 d => some (.ok (ρ1.set i (.own d), .nx)) := id rfl
theorem a_sret (f : Mo D) : sRet f ρ = bd (f ρ) fun ρ1 d => some (.ok (ρ1, .rt d)) := id rfl
theorem a_next : sNext ρ = some (.ok (ρ, .nx)) := id rfl
theorem a_isi (tb : D → Option Bool) (f : Mo D) : mIsi tb f ρ = bd (f ρ) fun ρ1 d => lf ρ1 ((tb d).map .bool) := id rfl
theorem a_slice (f : Mo D) (lo hi : Mo (Option Int)) : mSlice f lo hi ρ = bd (f ρ) fun ρ1 d => bd (lo ρ1) fun ρ2 l => bd (hi ρ2) fun ρ3 h => lf ρ3 (slD l h d) := id rfl
theorem a_part (f : Mo D) : mPart f ρ = bd (f ρ) fun ρ1 d => lf ρ1 ((intOf d).map some) := id rfl
theorem a_nopart : mNoPart ρ = some (.ok (ρ, none)) := id rfl
theorem a_range (f : List D → Option Src) (a : Mo (List D)) : mRange f a ρ = bd (a ρ) fun ρ1 ds => lf ρ1 (f ds) := id rfl
theorem a_seqS (f : Mo D) : mSeqS f ρ = bd (f ρ) fun ρ1 d => lf ρ1 ((itemsD d).map constS) := id rfl
theorem a_varP {i : Nat} : mVar i ρ = match ρ[i]? with
  | some (.pur d) => some (.ok (ρ, d))
  | some (.own ds) => some (.ok (ρ.set i (.pur (.list ds)), .list ds))
  | _ => none := id rfl
theorem a_par2 (i j : Nat) (f : Mo (List Tm)) : sPar2 i j f ρ = bd (f ρ) fun ρ1 ts => match ts with
  | [x, y] => some (.ok ((ρ1.set i (slOf x)).set j (slOf y), .nx))
  | _ => none := id rfl
theorem a_xp (a : Mo D) (r : Mo (List Tm)) : xConsP a r ρ = bd (a ρ) fun ρ1 d => bd (r ρ1) fun ρ2 ts => some (.ok (ρ2, .p d :: ts)) := id rfl
theorem a_xo (a : Mo (List D)) (r : Mo (List Tm)) : xConsO a r ρ = bd (a ρ) fun ρ1 d => bd (r ρ1) fun ρ2 ts => some (.ok (ρ2, .o d :: ts)) := id rfl
theorem a_xn : xNil ρ = some (.ok (ρ, [])) := id rfl
theorem a_asg (g : D → En → Option En) (f : Mo D) : sAsg g f ρ = bd (f ρ) fun ρ1 d => match g d ρ1 with
  | some ρ2 => some (.ok (ρ2, .nx))
  | none => none := id rfl
theorem a_make (c : Str) (F : FnI) (a : Mo (List D)) : mMake c F a ρ = bd (a ρ) fun ρ1 ds => match F ds with
  | none => none
  | some (.error x) => some (.error x)
  | some (.ok kvs) => some (.ok (ρ1, .dict ((.str c, .none) :: kvs))) := id rfl
theorem a_chg (i : Nat) (f : Mo (List D)) (c : List D → List D → Option (List D)) : sChg i f c ρ = match ρ[i]? with
  | some (.own _) => bd (f ρ) fun ρ1 as => (match ρ1[i]? with
    | some (.own ds) => match c ds as with
      | some es => some (.ok (ρ1.set i (.own es), .nx))
      | none => none
    | _ => none)
  | _ => none := id rfl
theorem a_ixO (i : Nat) (f : Mo D) : mIxO i f ρ = match ρ[i]? with
  | some (.own _) => bd (f ρ) fun ρ1 k => (match ρ1[i]? with
    | some (.own ds) => lf ρ1 (ixD (.list ds) k)
    | _ => none)
  | some (.pur d) => bd (f ρ) fun ρ1 k => lf ρ1 (ixD d k)
  | _ => none := id rfl
theorem a_lenO (i : Nat) : mLenO i ρ = match ρ[i]? with
  | some (.own ds) => some (.ok (ρ, .int ds.length))
  | some (.pur d) => lf ρ (lenD [d])
  | _ => none := id rfl
theorem a_cntO (i : Nat) (f : Mo D) : mCntO i f ρ = match ρ[i]? with
  | some (.own _) => bd (f ρ) fun ρ1 d => (match ρ1[i]? with
    | some (.own ds) => lf ρ1 (bothD d (.list ds) (.int (ds.countP fun z => PyData.eqv z d : Nat)))
    | _ => none)
  | _ => none := id rfl
theorem a_callX (F : FnX) (i : Nat) (f : Mo (List D)) : mCallX F i f ρ = match atL ρ i with
  | none => none
  | some _ => bd (f ρ) fun ρ1 as => (match atL ρ1 i with
    | none => none
    | some (s, ds) => match F ds as with
      | some (.ok (es, d)) => some (.ok (ρ1.set i (s.put es), d))
      | _ => none) := id rfl
theorem items_lst (ds : List D) : itemsD (.list ds) = some ds := id rfl
theorem items_tup (ds : List D) : itemsD (.tuple ds) = some ds := id rfl
end
theorem intOf_int (i : Int) : intOf (.int i) = some i := id rfl
/-- a def's end -/
def ans : Option (Except Exn (En × Fl)) → Option (Except Exn D)
  | none => none
  | some (.error x) => some (.error x)
  | some (.ok (_, .nx)) => some (.ok .none)
  | some (.ok (_, .rt d)) => some (.ok d)
  | some (.ok (_, _)) => none
theorem ans_rt (ρ : En) (d : D) : ans (some (.ok (ρ, .rt d))) = some (.ok d) := id rfl
theorem a_fn {n m : Nat} {g : Mo Fl} {ds : List D} (h : ds.length = n) : guard n (runF m g) ds = ans (g (ds.map Sl.pur ++ List.replicate (m - ds.length) .no)) := by
  unfold guard
  rw [show Nat.beq ds.length n = true by rw [h]; exact Nat.beq_refl n]
  rfl
end HB
namespace HB
open PySem L2
theorem fr_loop (x y z : Sl) : ∀ (m n k : Nat), m < k → whileL (mTest (mOp (cmpD gtI) (mVar 4) (mRet (.int 0)))) g_law_fr_1 k [x, y, z, .pur (.int n), .pur (.int m)] = some (.ok ([x, y, z, .pur (.int (Nat.gcd n m : Nat)), .pur (.int 0)], .nx)) := by
  refine fun m => Nat.strongRecOn m fun m ih => ?_
  · intro n k hk
    cases k with
    | zero => omega
    | succ k =>
      cases m with
      | zero => simp [bd_ok, lf_some, cl_ok, a_ret, a_op, a_un, a_test, a_and, a_or, a_not, a_andV, a_orV, a_notV, a_if, a_sif, a_nil, a_cons, a_star, a_list, a_tup, a_sized, a_call, a_built, a_seq, a_set, a_own, a_sret, a_next, a_isi, a_slice, a_part, a_nopart, a_range, a_seqS, a_varP, a_par2, a_xp, a_xo, a_xn, a_asg, a_make, a_chg, a_ixO, a_lenO, a_cntO, items_lst, items_tup, sizeOk, boolD, cmpD, slOf, intOf_int, len_encL, ans_rt, a_fn, List.replicate, whileL, gtI]
      | succ m =>
        have h1 : gtI ((m : Int) + 1) 0 = true := by unfold gtI; exact decide_eq_true (by omega)
        have h2 : (0 : Int) < ((m : Int) + 1) := by omega
        have e : whileL (mTest (mOp (cmpD gtI) (mVar 4) (mRet (.int 0)))) g_law_fr_1 (k + 1) [x, y, z, .pur (.int n), .pur (.int ((m + 1 : Nat) : Int))] =
            whileL (mTest (mOp (cmpD gtI) (mVar 4) (mRet (.int 0)))) g_law_fr_1 k [x, y, z, .pur (.int ((m + 1 : Nat) : Int)), .pur (.int ((n % (m + 1) : Nat) : Int))] := by
          conv => lhs; unfold whileL
          simp [bd_ok, lf_some, cl_ok, a_ret, a_op, a_un, a_test, a_and, a_or, a_not, a_andV, a_orV, a_notV, a_if, a_sif, a_nil, a_cons, a_star, a_list, a_tup, a_sized, a_call, a_built, a_seq, a_set, a_own, a_sret, a_next, a_isi, a_slice, a_part, a_nopart, a_range, a_seqS, a_varP, a_par2, a_xp, a_xo, a_xn, a_asg, a_make, a_chg, a_ixO, a_lenO, a_cntO, items_lst, items_tup, sizeOk, boolD, cmpD, slOf, intOf_int, len_encL, ans_rt, a_fn, List.replicate, g_law_fr_1, modD, h1, h2]
        rw [e, ih (n % (m + 1)) (Nat.mod_lt _ (Nat.succ_pos m)) (m + 1) k (Nat.lt_of_lt_of_le (Nat.mod_lt n (Nat.succ_pos m)) (by omega))]
        rw [Nat.gcd_comm (m + 1), ← Nat.gcd_rec (m + 1) n, Nat.gcd_comm]
theorem law_fr_low {t b : Int} (ht : t.natAbs < 2 ^ 900000) (hb : b ≠ 0) (hs : b.natAbs < 2 ^ 9000) : F_law_fr [.int t, .int b] = lowD t b := by
  have gp : 0 < Nat.gcd t.natAbs b.natAbs := Nat.gcd_pos_of_pos_right _ (by omega)
  have gl : (Nat.gcd t.natAbs b.natAbs).log2 < 9000 := log_lt (Nat.lt_of_le_of_lt (Nat.gcd_le_right _ (by omega)) hs) (by decide)
  have ok : (Nat.blt 0 (Nat.gcd t.natAbs b.natAbs) && Nat.blt (Nat.gcd t.natAbs b.natAbs).log2 9000) = true := by
    rw [show Nat.blt 0 (Nat.gcd t.natAbs b.natAbs) = true from Nat.ble_eq_true_of_le gp, show Nat.blt (Nat.gcd t.natAbs b.natAbs).log2 9000 = true from Nat.ble_eq_true_of_le gl]
    rfl
  have f1 : ∀ i : Int, fdivD (.int i) (.int (Nat.gcd t.natAbs b.natAbs : Nat)) = some (.int (i / (Nat.gcd t.natAbs b.natAbs : Nat))) := fun i => fdiv_nat gp gl
  have m1 : mulFit 1 t = true := fit_by (A := 1) (B := 900000) (by decide) ht (by decide) (by decide) (by decide)
  have m2 : mulFit (-1) t = true := fit_by (A := 1) (B := 900000) (by decide) ht (by decide) (by decide) (by decide)
  have m3 : mulFit 1 b = true := fit_by (A := 1) (B := 9000) (by decide) hs (by decide) (by decide) (by decide)
  have m4 : mulFit (-1) b = true := fit_by (A := 1) (B := 9000) (by decide) hs (by decide) (by decide) (by decide)
  have e1 : g_law_fr [.pur (.int t), .pur (.int b), .no, .no, .no] = g_law_fr_4 [.pur (.int t), .pur (.int b), .no, .pur (.int (t.natAbs : Int)), .pur (.int (b.natAbs : Int))] := by
    simp [bd_ok, lf_some, cl_ok, a_ret, a_op, a_un, a_test, a_and, a_or, a_not, a_andV, a_orV, a_notV, a_if, a_sif, a_nil, a_cons, a_star, a_list, a_tup, a_sized, a_call, a_built, a_seq, a_set, a_own, a_sret, a_next, a_isi, a_slice, a_part, a_nopart, a_range, a_seqS, a_varP, a_par2, a_xp, a_xo, a_xn, a_asg, a_make, a_chg, a_ixO, a_lenO, a_cntO, items_lst, items_tup, sizeOk, boolD, cmpD, slOf, intOf_int, len_encL, ans_rt, a_fn, List.replicate, g_law_fr, absD, intD, absI]
  have e2 : g_law_fr_4 [.pur (.int t), .pur (.int b), .no, .pur (.int (t.natAbs : Int)), .pur (.int (b.natAbs : Int))] = g_law_fr_3 [.pur (.int t), .pur (.int b), .no, .pur (.int (Nat.gcd t.natAbs b.natAbs : Nat)), .pur (.int 0)] := by
    unfold g_law_fr_4 sSeq mBind sWhile
    rw [show fuelInt 4 [Sl.pur (.int t), .pur (.int b), .no, .pur (.int (t.natAbs : Int)), .pur (.int (b.natAbs : Int))] = b.natAbs + 1 from rfl, fr_loop _ _ _ b.natAbs t.natAbs (b.natAbs + 1) (Nat.lt_succ_self _)]
  unfold lowD
  rw [ok]
  have e0 : F_law_fr [.int t, .int b] = ans (g_law_fr [.pur (.int t), .pur (.int b), .no, .no, .no]) := rfl
  rw [e0, e1, e2]
  cases hg : gtI b 0 with
  | true => simp [bd_ok, lf_some, cl_ok, a_ret, a_op, a_un, a_test, a_and, a_or, a_not, a_andV, a_orV, a_notV, a_if, a_sif, a_nil, a_cons, a_star, a_list, a_tup, a_sized, a_call, a_built, a_seq, a_set, a_own, a_sret, a_next, a_isi, a_slice, a_part, a_nopart, a_range, a_seqS, a_varP, a_par2, a_xp, a_xo, a_xn, a_asg, a_make, a_chg, a_ixO, a_lenO, a_cntO, items_lst, items_tup, sizeOk, boolD, cmpD, slOf, intOf_int, len_encL, ans_rt, a_fn, List.replicate, g_law_fr_3, g_law_fr_2, hg, mul_of m1, mul_of m3, intD, f1]
  | false => simp [bd_ok, lf_some, cl_ok, a_ret, a_op, a_un, a_test, a_and, a_or, a_not, a_andV, a_orV, a_notV, a_if, a_sif, a_nil, a_cons, a_star, a_list, a_tup, a_sized, a_call, a_built, a_seq, a_set, a_own, a_sret, a_next, a_isi, a_slice, a_part, a_nopart, a_range, a_seqS, a_varP, a_par2, a_xp, a_xo, a_xn, a_asg, a_make, a_chg, a_ixO, a_lenO, a_cntO, items_lst, items_tup, sizeOk, boolD, cmpD, slOf, intOf_int, len_encL, ans_rt, a_fn, List.replicate, g_law_fr_3, g_law_fr_2, hg, subD, mul_of m2, mul_of m4, intD, f1]
theorem law_fr_enc {t b : Int} (ht : t.natAbs < 2 ^ 900000) (hb : b ≠ 0) (hs : b.natAbs < 2 ^ 9000) : F_law_fr [.int t, .int b] = some (.ok (enc (Rat.divInt t b))) := (law_fr_low ht hb hs).trans (lowD_enc t b hb hs)
end HB
namespace HB
open PySem L2
theorem is_integer_int (i : Int) : F_is_integer [.int i] = some (.ok (.bool true)) := rfl
theorem is_integer_enc (q : Rat) : F_is_integer [enc q] = some (.ok (.bool false)) := rfl
theorem value_of_enc (q : Rat) : F_value_of [enc q] = some (.ok (enc q)) := rfl
theorem is_value_enc (q : Rat) : F_is_value [enc q] = some (.ok (.bool true)) := by
  have h1 : gtI (q.den : Int) 0 = true := decide_eq_true (by have := q.den_pos; omega)
  have h2 : Nat.gcd q.num.natAbs q.den = 1 := q.reduced
  have c : neD (.int 2) C_PAIR = some (.bool false) := rfl
  have e0 : F_is_value [enc q] = ans (g_is_value_1 [.pur (enc q)]) := rfl
  rw [e0]
  simp [bd_ok, lf_some, cl_ok, a_ret, a_op, a_un, a_test, a_and, a_or, a_not, a_andV, a_orV, a_notV, a_if, a_sif, a_nil, a_cons, a_star, a_list, a_tup, a_sized, a_call, a_built, a_seq, a_set, a_own, a_sret, a_next, a_isi, a_slice, a_part, a_nopart, a_range, a_seqS, a_varP, a_par2, a_xp, a_xo, a_xn, a_asg, a_make, a_chg, a_ixO, a_lenO, a_cntO, items_lst, items_tup, sizeOk, boolD, cmpD, slOf, intOf_int, len_encL, ans_rt, a_fn, List.replicate, g_is_value_1, enc, ix0, ix1, h1, F_common_part, M_common_part, h2, eqD]
section
variable {a b t : Rat} {A B C : Nat}
theorem at_most_enc (ha : Ht A a) (hb : Ht B b) (h : A + B ≤ 9000) : F_is_at_most [enc a, enc b] = some (.ok (.bool (!decide (b < a)))) := by
  have e : F_is_less [enc b, enc a] = _ := is_less_enc hb ha (by omega)
  simp [bd_ok, lf_some, cl_ok, a_ret, a_op, a_un, a_test, a_and, a_or, a_not, a_andV, a_orV, a_notV, a_if, a_sif, a_nil, a_cons, a_star, a_list, a_tup, a_sized, a_call, a_built, a_seq, a_set, a_own, a_sret, a_next, a_isi, a_slice, a_part, a_nopart, a_range, a_seqS, a_varP, a_par2, a_xp, a_xo, a_xn, a_asg, a_make, a_chg, a_ixO, a_lenO, a_cntO, items_lst, items_tup, sizeOk, boolD, cmpD, slOf, intOf_int, len_encL, ans_rt, a_fn, List.replicate, F_is_at_most, g_is_at_most, e]
/-- how far t is on the way -/
def share (a b t : Rat) : Rat := if a = b then 0 else (t - a) / (b - a)
theorem share_enc (ha : Ht A a) (hb : Ht A b) (ht : Ht B t) (h : 3 * A + B + 2 ≤ 9000) : F_share_of [enc a, enc b, enc t] = some (.ok (enc (share a b t))) := by
  have e0 := eq_enc a b
  by_cases z : a = b
  · have e1 : eqD (enc a) (enc b) = some (.bool true) := by rw [e0, decide_eq_true z]
    unfold share
    rw [if_pos z]
    simp [bd_ok, lf_some, cl_ok, a_ret, a_op, a_un, a_test, a_and, a_or, a_not, a_andV, a_orV, a_notV, a_if, a_sif, a_nil, a_cons, a_star, a_list, a_tup, a_sized, a_call, a_built, a_seq, a_set, a_own, a_sret, a_next, a_isi, a_slice, a_part, a_nopart, a_range, a_seqS, a_varP, a_par2, a_xp, a_xo, a_xn, a_asg, a_make, a_chg, a_ixO, a_lenO, a_cntO, items_lst, items_tup, sizeOk, boolD, cmpD, slOf, intOf_int, len_encL, ans_rt, a_fn, List.replicate, F_share_of, g_share_of, e1]
    rfl
  · have e1 : eqD (enc a) (enc b) = some (.bool false) := by rw [e0, decide_eq_false z]
    have n : b - a ≠ 0 := fun q => z (by grind)
    have e2 : F_less_by [enc t, enc a] = _ := less_by_enc ht ha (by omega)
    have e3 : F_less_by [enc b, enc a] = _ := less_by_enc hb ha (by omega)
    have e4 : F_quotient [enc (t - a), enc (b - a)] = _ := quotient_enc (ht.sub ha) (hb.sub ha) n (by omega)
    unfold share
    rw [if_neg z]
    simp [bd_ok, lf_some, cl_ok, a_ret, a_op, a_un, a_test, a_and, a_or, a_not, a_andV, a_orV, a_notV, a_if, a_sif, a_nil, a_cons, a_star, a_list, a_tup, a_sized, a_call, a_built, a_seq, a_set, a_own, a_sret, a_next, a_isi, a_slice, a_part, a_nopart, a_range, a_seqS, a_varP, a_par2, a_xp, a_xo, a_xn, a_asg, a_make, a_chg, a_ixO, a_lenO, a_cntO, items_lst, items_tup, sizeOk, boolD, cmpD, slOf, intOf_int, len_encL, ans_rt, a_fn, List.replicate, F_share_of, g_share_of, e1, e2, e3, e4]
theorem Ht.share (ha : Ht A a) (hb : Ht A b) (ht : Ht B t) : Ht (3 * A + B + 2) (HB.share a b t) := by
  unfold HB.share
  split
  · exact ⟨Nat.lt_of_lt_of_le (by decide : (0 : Rat).num.natAbs < 2 ^ 0) (Nat.pow_le_pow_right (by decide) (by omega)), Nat.lt_of_lt_of_le (by decide : (0 : Rat).den < 2 ^ 1) (Nat.pow_le_pow_right (by decide) (by omega))⟩
  · rename_i z
    have n : b - a ≠ 0 := fun q => z (by grind)
    exact ((ht.sub ha).div (hb.sub ha) n).mono (by omega)
theorem ht0 : Ht 1 0 := by unfold Ht; decide
theorem ht1 : Ht 1 1 := by unfold Ht; decide
end
def sumR (qs : List Rat) : Rat := qs.foldl (· + ·) 0
theorem sumR_snoc (qs : List Rat) (q : Rat) : sumR (qs ++ [q]) = sumR qs + q := by simp [sumR]
theorem ht_fold {A : Nat} : ∀ (qs : List Rat) (C : Nat) (acc : Rat), Ht C acc → (∀ q ∈ qs, Ht A q) → Ht (qs.length * (A + 1) + C) (qs.foldl (· + ·) acc)
  | [], C, acc, h, _ => by simpa using h
  | q :: qs, C, acc, h, hq => by
    have := ht_fold qs (C + A + 1) (acc + q) (h.add (hq q List.mem_cons_self)) fun x hx => hq x (List.mem_cons_of_mem _ hx)
    refine Ht.mono this ?_
    rw [List.length_cons, Nat.add_mul]
    omega
theorem ht_sum {A : Nat} (qs : List Rat) (h : ∀ q ∈ qs, Ht A q) : Ht (qs.length * (A + 1) + 1) (sumR qs) := ht_fold qs 1 0 ht0 h
theorem summed_enc {A : Nat} {d : D} {qs : List Rat} (hd : itemsD d = some (encL qs)) (h : ∀ q ∈ qs, Ht A q) (hs : (qs.length + 1) * (A + 1) + 1 ≤ 9000) : F_summed [d] = some (.ok (enc (sumR qs))) := by
  have e0 : F_summed [d] = ans (g_summed_2 [.pur d, .pur (enc 0), .no]) := rfl
  have src : mSeqS (mVar 0) [.pur d, .pur (enc 0), .no] = some (.ok ([.pur d, .pur (enc 0), .no], constS (qs.map enc))) := by
    simp [bd_ok, lf_some, cl_ok, a_ret, a_op, a_un, a_test, a_and, a_or, a_not, a_andV, a_orV, a_notV, a_if, a_sif, a_nil, a_cons, a_star, a_list, a_tup, a_sized, a_call, a_built, a_seq, a_set, a_own, a_sret, a_next, a_isi, a_slice, a_part, a_nopart, a_range, a_seqS, a_varP, a_par2, a_xp, a_xo, a_xn, a_asg, a_make, a_chg, a_ixO, a_lenO, a_cntO, items_lst, items_tup, sizeOk, boolD, cmpD, slOf, intOf_int, len_encL, ans_rt, a_fn, List.replicate, hd]
    rfl
  obtain ⟨ρ', e1, s, e2⟩ := for_ok (v := 2) (body := g_summed_1) qs enc (fun l ρ => ∃ s, ρ = [.pur d, .pur (enc (sumR l)), s]) src ⟨_, rfl⟩ fun l a r ρ e ⟨s, hρ⟩ => by
    subst hρ
    have hl : Ht (l.length * (A + 1) + 1) (sumR l) := ht_sum l fun q hq => h q (by rw [e]; exact List.mem_append_left _ hq)
    have hn : l.length + 1 ≤ qs.length := by rw [e]; simp
    have hm : (l.length + 1) * (A + 1) ≤ qs.length * (A + 1) := Nat.mul_le_mul_right _ hn
    rw [Nat.add_mul] at hm hs
    have ea : F_added [enc (sumR l), enc a] = _ := added_enc hl (h a (by rw [e]; simp)) (by omega)
    refine ⟨_, .nx, ?_, .inl rfl, .pur (enc a), by rw [sumR_snoc]⟩
    simp [bd_ok, lf_some, cl_ok, a_ret, a_op, a_un, a_test, a_and, a_or, a_not, a_andV, a_orV, a_notV, a_if, a_sif, a_nil, a_cons, a_star, a_list, a_tup, a_sized, a_call, a_built, a_seq, a_set, a_own, a_sret, a_next, a_isi, a_slice, a_part, a_nopart, a_range, a_seqS, a_varP, a_par2, a_xp, a_xo, a_xn, a_asg, a_make, a_chg, a_ixO, a_lenO, a_cntO, items_lst, items_tup, sizeOk, boolD, cmpD, slOf, intOf_int, len_encL, ans_rt, a_fn, List.replicate, g_summed_1, ea]
  subst e2
  rw [e0]
  unfold g_summed_2 sSeq mBind
  rw [e1]
  rfl
def knots (n : Nat) (ks : List Rat) : List Rat := List.replicate n (at0 ks 0) ++ (ks ++ List.replicate n (at0 ks (ks.length - 1)))
theorem knots_len (n : Nat) (ks : List Rat) : (knots n ks).length = 2 * n + ks.length := by simp [knots]; omega
theorem knots_enc {n : Nat} {d : D} {ks : List Rat} (hd : itemsD d = some (encL ks)) (h0 : 0 < ks.length) (hn : n ≤ 1000) (hk : ks.length ≤ 1000) : F_knots_of [.int n, d] = some (.ok (.tuple (encL (knots n ks)))) := by
  have e0 : F_knots_of [.int n, d] = ans (g_knots_of [.pur (.int n), .pur d, .no, .no, .no]) := rfl
  have b1 : mBlk [3] (mSeqS (mVar 1)) (lcBody [3] (gSet 3) (mRet true) (mCall F_value_of (mCons (mVar 3) (mNil)))) [.pur (.int n), .pur d, .no, .no, .no] = some (.ok ([.pur (.int n), .pur d, .no, .no, .no], encL ks)) :=
    blk_map ks enc enc (by simp [bd_ok, lf_some, cl_ok, a_ret, a_op, a_un, a_test, a_and, a_or, a_not, a_andV, a_orV, a_notV, a_if, a_sif, a_nil, a_cons, a_star, a_list, a_tup, a_sized, a_call, a_built, a_seq, a_set, a_own, a_sret, a_next, a_isi, a_slice, a_part, a_nopart, a_range, a_seqS, a_varP, a_par2, a_xp, a_xo, a_xn, a_asg, a_make, a_chg, a_ixO, a_lenO, a_cntO, items_lst, items_tup, sizeOk, boolD, cmpD, slOf, intOf_int, len_encL, ans_rt, a_fn, List.replicate, hd]; rfl) (by omega) rfl fun q _ => by simp [bd_ok, lf_some, cl_ok, a_ret, a_op, a_un, a_test, a_and, a_or, a_not, a_andV, a_orV, a_notV, a_if, a_sif, a_nil, a_cons, a_star, a_list, a_tup, a_sized, a_call, a_built, a_seq, a_set, a_own, a_sret, a_next, a_isi, a_slice, a_part, a_nopart, a_range, a_seqS, a_varP, a_par2, a_xp, a_xo, a_xn, a_asg, a_make, a_chg, a_ixO, a_lenO, a_cntO, items_lst, items_tup, sizeOk, boolD, cmpD, slOf, intOf_int, len_encL, ans_rt, a_fn, List.replicate, value_of_enc]
  have r1 := range1_of (z := n) n rfl (by omega)
  have b2 : mBlk [4] (mRange range1D (mCons (mVar 0) (mNil))) (lcBody [4] (gSet 4) (mRet true) (mOp ixD (mVar 2) (mRet (.int 0)))) [.pur (.int n), .pur d, .pur (.list (encL ks)), .no, .no] = some (.ok ([.pur (.int n), .pur d, .pur (.list (encL ks)), .no, .no], (List.range n).map fun _ => enc (at0 ks 0))) :=
    blk_map (List.range n) natD _ (by simp [bd_ok, lf_some, cl_ok, a_ret, a_op, a_un, a_test, a_and, a_or, a_not, a_andV, a_orV, a_notV, a_if, a_sif, a_nil, a_cons, a_star, a_list, a_tup, a_sized, a_call, a_built, a_seq, a_set, a_own, a_sret, a_next, a_isi, a_slice, a_part, a_nopart, a_range, a_seqS, a_varP, a_par2, a_xp, a_xo, a_xn, a_asg, a_make, a_chg, a_ixO, a_lenO, a_cntO, items_lst, items_tup, sizeOk, boolD, cmpD, slOf, intOf_int, len_encL, ans_rt, a_fn, List.replicate, r1]) (by simp; omega) rfl fun q _ => by simp [bd_ok, lf_some, cl_ok, a_ret, a_op, a_un, a_test, a_and, a_or, a_not, a_andV, a_orV, a_notV, a_if, a_sif, a_nil, a_cons, a_star, a_list, a_tup, a_sized, a_call, a_built, a_seq, a_set, a_own, a_sret, a_next, a_isi, a_slice, a_part, a_nopart, a_range, a_seqS, a_varP, a_par2, a_xp, a_xo, a_xn, a_asg, a_make, a_chg, a_ixO, a_lenO, a_cntO, items_lst, items_tup, sizeOk, boolD, cmpD, slOf, intOf_int, len_encL, ans_rt, a_fn, List.replicate, ixL (ks := ks) (z := 0) (i := 0) rfl h0]
  have b3 : mBlk [4] (mRange range1D (mCons (mVar 0) (mNil))) (lcBody [4] (gSet 4) (mRet true) (mOp ixD (mVar 2) (mUn negD (mRet (.int 1))))) [.pur (.int n), .pur d, .pur (.list (encL ks)), .no, .no] = some (.ok ([.pur (.int n), .pur d, .pur (.list (encL ks)), .no, .no], (List.range n).map fun _ => enc (at0 ks (ks.length - 1)))) :=
    blk_map (List.range n) natD _ (by simp [bd_ok, lf_some, cl_ok, a_ret, a_op, a_un, a_test, a_and, a_or, a_not, a_andV, a_orV, a_notV, a_if, a_sif, a_nil, a_cons, a_star, a_list, a_tup, a_sized, a_call, a_built, a_seq, a_set, a_own, a_sret, a_next, a_isi, a_slice, a_part, a_nopart, a_range, a_seqS, a_varP, a_par2, a_xp, a_xo, a_xn, a_asg, a_make, a_chg, a_ixO, a_lenO, a_cntO, items_lst, items_tup, sizeOk, boolD, cmpD, slOf, intOf_int, len_encL, ans_rt, a_fn, List.replicate, r1]) (by simp; omega) rfl fun q _ => by simp [bd_ok, lf_some, cl_ok, a_ret, a_op, a_un, a_test, a_and, a_or, a_not, a_andV, a_orV, a_notV, a_if, a_sif, a_nil, a_cons, a_star, a_list, a_tup, a_sized, a_call, a_built, a_seq, a_set, a_own, a_sret, a_next, a_isi, a_slice, a_part, a_nopart, a_range, a_seqS, a_varP, a_par2, a_xp, a_xo, a_xn, a_asg, a_make, a_chg, a_ixO, a_lenO, a_cntO, items_lst, items_tup, sizeOk, boolD, cmpD, slOf, intOf_int, len_encL, ans_rt, a_fn, List.replicate, negD, ixL_last (ks := ks) h0]
  have el : encL (knots n ks) = ((List.range n).map fun _ => enc (at0 ks 0)) ++ (encL ks ++ ((List.range n).map fun _ => enc (at0 ks (ks.length - 1)))) := by
    simp [knots, List.map_const', encL]
  have sz : (List.range n).length + (ks.length + (List.range n).length) ≤ 1000000 := by simp; omega
  rw [e0, el]
  simp [bd_ok, lf_some, cl_ok, a_ret, a_op, a_un, a_test, a_and, a_or, a_not, a_andV, a_orV, a_notV, a_if, a_sif, a_nil, a_cons, a_star, a_list, a_tup, a_sized, a_call, a_built, a_seq, a_set, a_own, a_sret, a_next, a_isi, a_slice, a_part, a_nopart, a_range, a_seqS, a_varP, a_par2, a_xp, a_xo, a_xn, a_asg, a_make, a_chg, a_ixO, a_lenO, a_cntO, items_lst, items_tup, sizeOk, boolD, cmpD, slOf, intOf_int, len_encL, ans_rt, a_fn, List.replicate, g_knots_of, g_knots_of_1, b1, b2, b3]
  rw [if_pos (by simp at sz; omega)]
  rfl
end HB
namespace HB
open PySem L2
def full (k : Nat → Rat) (L : Nat) : List Nat := (List.range L).filter fun i => decide (k i < k (i + 1))
def hereL (k : Nat → Rat) (L : Nat) (t : Rat) : List Nat := (full k L).filter fun i => !decide (t < k i) && decide (t < k (i + 1))
def spanN (k : Nat → Rat) (L : Nat) (t : Rat) : Nat := match hereL k L t with
  | s :: _ => s
  | [] => (full k L).getLast?.getD 0
section
variable {ks : List Rat} {t : Rat} {S : Nat}
theorem at0_ht (hk : ∀ q ∈ ks, Ht S q) {i : Nat} (h : i < ks.length) : Ht S (at0 ks i) := by
  rw [at0_lt h]
  exact hk _ (List.getElem_mem h)
theorem nat_add (a b : Nat) : addD (natD a) (natD b) = some (natD (a + b)) := by simp [addD, natD]
theorem nat_add1 (a : Nat) : addD (natD a) (.int 1) = some (natD (a + 1)) := by simp [addD, natD]
theorem ixTn {i : Nat} (hi : i < ks.length) : ixD (.tuple (encL ks)) (natD i) = some (enc (at0 ks i)) := ixT rfl hi
theorem ixLn {i : Nat} (hi : i < ks.length) : ixD (.list (encL ks)) (natD i) = some (enc (at0 ks i)) := ixL rfl hi
theorem span_enc (hk : ∀ q ∈ ks, Ht S q) (ht : Ht S t) (hS : 2 * S ≤ 9000) (hl : ks.length ≤ 1000) (h1 : 1 ≤ ks.length) (hf : full (at0 ks) (ks.length - 1) ≠ []) : F_span_of [.tuple (encL ks), enc t] = some (.ok (natD (spanN (at0 ks) (ks.length - 1) t))) := by
  have r1 : range1D [.int ((ks.length : Int) - 1)] = _ := range1_of (ks.length - 1) (by omega) (by omega)
  have b1 : mBlk [4] (mRange range1D (mCons (mOp subD (mBuilt lenD (mCons (mVar 0) (mNil))) (mRet (.int 1))) (mNil))) (lcBody [4] (gSet 4) (mTest (mCall F_is_less (mCons (mOp ixD (mVar 0) (mVar 4)) (mCons (mOp ixD (mVar 0) (mOp addD (mVar 4) (mRet (.int 1)))) (mNil))))) (mVar 4))
      [.pur (.tuple (encL ks)), .pur (enc t), .no, .no, .no] = some (.ok ([.pur (.tuple (encL ks)), .pur (enc t), .no, .no, .no], (full (at0 ks) (ks.length - 1)).map natD)) :=
    blk_sel (List.range (ks.length - 1)) natD (fun i => decide (at0 ks i < at0 ks (i + 1))) natD (by simp [bd_ok, lf_some, cl_ok, a_ret, a_op, a_un, a_test, a_and, a_or, a_not, a_andV, a_orV, a_notV, a_if, a_sif, a_nil, a_cons, a_star, a_list, a_tup, a_sized, a_call, a_built, a_seq, a_set, a_own, a_sret, a_next, a_isi, a_slice, a_part, a_nopart, a_range, a_seqS, a_varP, a_par2, a_xp, a_xo, a_xn, a_asg, a_make, a_chg, a_ixO, a_lenO, a_cntO, items_lst, items_tup, sizeOk, boolD, cmpD, slOf, intOf_int, len_encL, ans_rt, a_fn, List.replicate, lenD, subD, r1]) (by simp; omega) rfl
      (fun i hi => by
        have hi := List.mem_range.mp hi
        have e : F_is_less [enc (at0 ks i), enc (at0 ks (i + 1))] = _ := is_less_enc (at0_ht hk (by omega)) (at0_ht hk (by omega)) (by omega)
        simp [bd_ok, lf_some, cl_ok, a_ret, a_op, a_un, a_test, a_and, a_or, a_not, a_andV, a_orV, a_notV, a_if, a_sif, a_nil, a_cons, a_star, a_list, a_tup, a_sized, a_call, a_built, a_seq, a_set, a_own, a_sret, a_next, a_isi, a_slice, a_part, a_nopart, a_range, a_seqS, a_varP, a_par2, a_xp, a_xo, a_xn, a_asg, a_make, a_chg, a_ixO, a_lenO, a_cntO, items_lst, items_tup, sizeOk, boolD, cmpD, slOf, intOf_int, len_encL, ans_rt, a_fn, List.replicate, ixTn (ks := ks) (i := i) (by omega), nat_add1, ixTn (ks := ks) (i := i + 1) (by omega), e])
      fun i hi _ => by simp [bd_ok, lf_some, cl_ok, a_ret, a_op, a_un, a_test, a_and, a_or, a_not, a_andV, a_orV, a_notV, a_if, a_sif, a_nil, a_cons, a_star, a_list, a_tup, a_sized, a_call, a_built, a_seq, a_set, a_own, a_sret, a_next, a_isi, a_slice, a_part, a_nopart, a_range, a_seqS, a_varP, a_par2, a_xp, a_xo, a_xn, a_asg, a_make, a_chg, a_ixO, a_lenO, a_cntO, items_lst, items_tup, sizeOk, boolD, cmpD, slOf, intOf_int, len_encL, ans_rt, a_fn, List.replicate]
  have b2 : mBlk [4] (mSeqS (mVar 2)) (lcBody [4] (gSet 4) (mAnd (mTest (mCall F_is_at_most (mCons (mOp ixD (mVar 0) (mVar 4)) (mCons (mVar 1) (mNil))))) (mTest (mCall F_is_less (mCons (mVar 1) (mCons (mOp ixD (mVar 0) (mOp addD (mVar 4) (mRet (.int 1)))) (mNil)))))) (mVar 4))
      [.pur (.tuple (encL ks)), .pur (enc t), .pur (.list ((full (at0 ks) (ks.length - 1)).map natD)), .no, .no] = some (.ok ([.pur (.tuple (encL ks)), .pur (enc t), .pur (.list ((full (at0 ks) (ks.length - 1)).map natD)), .no, .no], (hereL (at0 ks) (ks.length - 1) t).map natD)) :=
    blk_sel (full (at0 ks) (ks.length - 1)) natD (fun i => !decide (t < at0 ks i) && decide (t < at0 ks (i + 1))) natD (by simp [bd_ok, lf_some, cl_ok, a_ret, a_op, a_un, a_test, a_and, a_or, a_not, a_andV, a_orV, a_notV, a_if, a_sif, a_nil, a_cons, a_star, a_list, a_tup, a_sized, a_call, a_built, a_seq, a_set, a_own, a_sret, a_next, a_isi, a_slice, a_part, a_nopart, a_range, a_seqS, a_varP, a_par2, a_xp, a_xo, a_xn, a_asg, a_make, a_chg, a_ixO, a_lenO, a_cntO, items_lst, items_tup, sizeOk, boolD, cmpD, slOf, intOf_int, len_encL, ans_rt, a_fn, List.replicate]) (by
        have := List.length_filter_le (fun i => decide (at0 ks i < at0 ks (i + 1))) (List.range (ks.length - 1))
        unfold full
        simp at this ⊢
        omega) rfl
      (fun i hi => by
        have hi := List.mem_range.mp (List.mem_filter.mp hi).1
        have e1 := at_most_enc (at0_ht hk (i := i) (by omega)) ht (by omega)
        have e2 : F_is_less [enc t, enc (at0 ks (i + 1))] = _ := is_less_enc ht (at0_ht hk (by omega)) (by omega)
        cases hc : decide (t < at0 ks i) <;> simp [bd_ok, lf_some, cl_ok, a_ret, a_op, a_un, a_test, a_and, a_or, a_not, a_andV, a_orV, a_notV, a_if, a_sif, a_nil, a_cons, a_star, a_list, a_tup, a_sized, a_call, a_built, a_seq, a_set, a_own, a_sret, a_next, a_isi, a_slice, a_part, a_nopart, a_range, a_seqS, a_varP, a_par2, a_xp, a_xo, a_xn, a_asg, a_make, a_chg, a_ixO, a_lenO, a_cntO, items_lst, items_tup, sizeOk, boolD, cmpD, slOf, intOf_int, len_encL, ans_rt, a_fn, List.replicate, ixTn (ks := ks) (i := i) (by omega), nat_add1, ixTn (ks := ks) (i := i + 1) (by omega), e1, e2, hc])
      fun i hi _ => by simp [bd_ok, lf_some, cl_ok, a_ret, a_op, a_un, a_test, a_and, a_or, a_not, a_andV, a_orV, a_notV, a_if, a_sif, a_nil, a_cons, a_star, a_list, a_tup, a_sized, a_call, a_built, a_seq, a_set, a_own, a_sret, a_next, a_isi, a_slice, a_part, a_nopart, a_range, a_seqS, a_varP, a_par2, a_xp, a_xo, a_xn, a_asg, a_make, a_chg, a_ixO, a_lenO, a_cntO, items_lst, items_tup, sizeOk, boolD, cmpD, slOf, intOf_int, len_encL, ans_rt, a_fn, List.replicate]
  have e0 : F_span_of [.tuple (encL ks), enc t] = ans (g_span_of_1 [.pur (.tuple (encL ks)), .pur (enc t), .pur (.list ((full (at0 ks) (ks.length - 1)).map natD)), .pur (.list ((hereL (at0 ks) (ks.length - 1) t).map natD)), .no]) := by
    simp [bd_ok, lf_some, cl_ok, a_ret, a_op, a_un, a_test, a_and, a_or, a_not, a_andV, a_orV, a_notV, a_if, a_sif, a_nil, a_cons, a_star, a_list, a_tup, a_sized, a_call, a_built, a_seq, a_set, a_own, a_sret, a_next, a_isi, a_slice, a_part, a_nopart, a_range, a_seqS, a_varP, a_par2, a_xp, a_xo, a_xn, a_asg, a_make, a_chg, a_ixO, a_lenO, a_cntO, items_lst, items_tup, sizeOk, boolD, cmpD, slOf, intOf_int, len_encL, ans_rt, a_fn, List.replicate, F_span_of, g_span_of, b1, g_span_of_2, b2]
  rw [e0]
  unfold spanN
  cases hh : hereL (at0 ks) (ks.length - 1) t with
  | cons s r =>
    have g1 : gtI ((r.length : Int) + 1) 0 = true := decide_eq_true (by omega)
    have i1 : ixD (.list (natD s :: r.map natD)) (.int 0) = some (natD s) := ix_lst (i := 0) rfl (by simp)
    simp [bd_ok, lf_some, cl_ok, a_ret, a_op, a_un, a_test, a_and, a_or, a_not, a_andV, a_orV, a_notV, a_if, a_sif, a_nil, a_cons, a_star, a_list, a_tup, a_sized, a_call, a_built, a_seq, a_set, a_own, a_sret, a_next, a_isi, a_slice, a_part, a_nopart, a_range, a_seqS, a_varP, a_par2, a_xp, a_xo, a_xn, a_asg, a_make, a_chg, a_ixO, a_lenO, a_cntO, items_lst, items_tup, sizeOk, boolD, cmpD, slOf, intOf_int, len_encL, ans_rt, a_fn, List.replicate, g_span_of_1, lenD, g1, i1]
  | nil =>
    have g1 : gtI 0 0 = false := rfl
    have i1 : ixD (.list ((full (at0 ks) (ks.length - 1)).map natD)) (.int (-1)) = some (natD ((full (at0 ks) (ks.length - 1)).getLast?.getD 0)) := by
      have e := atI_last (xs := (full (at0 ks) (ks.length - 1)).map natD) (by simpa using hf)
      refine Eq.trans (show _ = L2.atI ((full (at0 ks) (ks.length - 1)).map natD) (-1) from rfl) (e.trans ?_)
      rw [List.getLast_map, List.getLast?_eq_some_getLast hf]
      rfl
    simp [bd_ok, lf_some, cl_ok, a_ret, a_op, a_un, a_test, a_and, a_or, a_not, a_andV, a_orV, a_notV, a_if, a_sif, a_nil, a_cons, a_star, a_list, a_tup, a_sized, a_call, a_built, a_seq, a_set, a_own, a_sret, a_next, a_isi, a_slice, a_part, a_nopart, a_range, a_seqS, a_varP, a_par2, a_xp, a_xo, a_xn, a_asg, a_make, a_chg, a_ixO, a_lenO, a_cntO, items_lst, items_tup, sizeOk, boolD, cmpD, slOf, intOf_int, len_encL, ans_rt, a_fn, List.replicate, g_span_of_1, lenD, g1, negD, i1]
end
def Nb (k : Nat → Rat) (t : Rat) (s : Nat) : Nat → Nat → Rat
  | 0, i => if i = s then 1 else 0
  | d + 1, i => share (k i) (k (i + d + 1)) t * Nb k t s d i + share (k (i + d + 2)) (k (i + 1)) t * Nb k t s d (i + 1)
def bitsN (S : Nat) : Nat → Nat
  | 0 => 1
  | d + 1 => 2 * (S + bitsN S d) + 1
theorem ht_Nb {k : Nat → Rat} {t : Rat} {s S L : Nat} (hsh : ∀ i j, i < L → j < L → Ht S (share (k i) (k j) t)) : ∀ d i, i + d + 1 < L → Ht (bitsN S d) (Nb k t s d i)
  | 0, i, _ => by
    unfold Nb bitsN
    split
    · exact ht1
    · exact ht0
  | d + 1, i, h => by
    unfold Nb bitsN
    exact (((hsh i (i + d + 1) (by omega) (by omega)).mul (ht_Nb hsh d i (by omega))).add ((hsh (i + d + 2) (i + 1) (by omega) (by omega)).mul (ht_Nb hsh d (i + 1) (by omega)))).mono (by omega)
theorem bitsN_mono (S : Nat) : ∀ d e, d ≤ e → bitsN S d ≤ bitsN S e := by
  intro d e h
  induction h with
  | refl => exact Nat.le_refl _
  | step _ ih => exact Nat.le_trans ih (by show bitsN S _ ≤ 2 * (S + bitsN S _) + 1; omega)
end HB
namespace HB
open PySem L2
/-- the weights of one level -/
def lvl (k : Nat → Rat) (t : Rat) (s L d : Nat) : List Rat := (List.range (L - 1 - d)).map (Nb k t s d)
theorem lvl_len (k : Nat → Rat) (t : Rat) (s L d : Nat) : (lvl k t s L d).length = L - 1 - d := by simp [lvl]
theorem lvl_at {k : Nat → Rat} {t : Rat} {s L d i : Nat} (h : i < L - 1 - d) : at0 (lvl k t s L d) i = Nb k t s d i := by
  rw [at0_lt (by rw [lvl_len]; exact h)]
  simp [lvl]
theorem one_enc : C_ONE = enc 1 := rfl
theorem nought_enc : C_NOUGHT = enc 0 := rfl
section
variable {ks : List Rat} {t : Rat} {S p : Nat}
abbrev EnW (p : Nat) (ks : List Rat) (t : Rat) (s : Nat) (f : D) (x5 x6 x7 x8 x9 : Sl) : En := [.pur (.int (p : Int)), .pur (.tuple (encL ks)), .pur (enc t), .pur (natD s), .pur f, x5, x6, x7, x8, x9]
theorem inner_turn (hk : ∀ q ∈ ks, Ht S q) (ht : Ht S t) (hsh : ∀ i j, i < ks.length → j < ks.length → Ht S (share (at0 ks i) (at0 ks j) t)) {d i s : Nat} (hS : 4 * S + 2 ≤ 9000) (hb : bitsN S (d + 1) ≤ 9000) (hi : i + d + 2 < ks.length) (hl : ks.length ≤ 1000) (x8 x9 : Sl) :
    g_all_weights_3 (EnW p ks t s (.list (encL (lvl (at0 ks) t s ks.length d))) (.pur (natD (d + 1))) (.own (encL ((List.range i).map (Nb (at0 ks) t s (d + 1))))) (.pur (natD i)) x8 x9) =
    some (.ok (EnW p ks t s (.list (encL (lvl (at0 ks) t s ks.length d))) (.pur (natD (d + 1))) (.own (encL ((List.range (i + 1)).map (Nb (at0 ks) t s (d + 1))))) (.pur (natD i)) (.pur (enc (share (at0 ks i) (at0 ks (i + d + 1)) t * Nb (at0 ks) t s d i))) (.pur (enc (share (at0 ks (i + d + 2)) (at0 ks (i + 1)) t * Nb (at0 ks) t s d (i + 1)))), .nx)) := by
  have n1 := ht_Nb (s := s) hsh d i (by omega)
  have n2 := ht_Nb (s := s) hsh d (i + 1) (by omega)
  have hb' : 2 * (S + bitsN S d) + 1 ≤ 9000 := hb
  have s1 := share_enc (at0_ht hk (i := i) (by omega)) (at0_ht hk (i := i + (d + 1)) (by omega)) ht (by omega)
  have s2 := share_enc (at0_ht hk (i := i + (d + 1) + 1) (by omega)) (at0_ht hk (i := i + 1) (by omega)) ht (by omega)
  have h1 := hsh i (i + (d + 1)) (by omega) (by omega)
  have h2 := hsh (i + (d + 1) + 1) (i + 1) (by omega) (by omega)
  have m1 : F_multiplied [enc (share (at0 ks i) (at0 ks (i + (d + 1))) t), enc (Nb (at0 ks) t s d i)] = _ := multiplied_enc h1 n1 (by omega)
  have m2 : F_multiplied [enc (share (at0 ks (i + (d + 1) + 1)) (at0 ks (i + 1)) t), enc (Nb (at0 ks) t s d (i + 1))] = _ := multiplied_enc h2 n2 (by omega)
  have ad : F_added [enc (share (at0 ks i) (at0 ks (i + (d + 1))) t * Nb (at0 ks) t s d i), enc (share (at0 ks (i + (d + 1) + 1)) (at0 ks (i + 1)) t * Nb (at0 ks) t s d (i + 1))] = _ := added_enc (h1.mul n1) (h2.mul n2) (by omega)
  have f1 : ixD (.list (encL (lvl (at0 ks) t s ks.length d))) (natD i) = some (enc (Nb (at0 ks) t s d i)) := by
    rw [ixLn (by rw [lvl_len]; omega), lvl_at (by omega)]
  have f2 : ixD (.list (encL (lvl (at0 ks) t s ks.length d))) (natD (i + 1)) = some (enc (Nb (at0 ks) t s d (i + 1))) := by
    rw [ixLn (by rw [lvl_len]; omega), lvl_at (by omega)]
  have sz : Nat.blt i 1000000 = true := Nat.ble_eq_true_of_le (by omega)
  have ap : ∀ x : D, appC (encL ((List.range i).map (Nb (at0 ks) t s (d + 1)))) [x] = some (encL ((List.range i).map (Nb (at0 ks) t s (d + 1))) ++ [x]) := fun x => by
    simp [appC, len_encL, sz]
  have ee : encL ((List.range (i + 1)).map (Nb (at0 ks) t s (d + 1))) = encL ((List.range i).map (Nb (at0 ks) t s (d + 1))) ++ [enc (share (at0 ks i) (at0 ks (i + (d + 1))) t * Nb (at0 ks) t s d i + share (at0 ks (i + (d + 1) + 1)) (at0 ks (i + 1)) t * Nb (at0 ks) t s d (i + 1))] := by
    rw [List.range_succ, List.map_append, encL, List.map_append]
    rfl
  rw [ee]
  simp [bd_ok, lf_some, cl_ok, a_ret, a_op, a_un, a_test, a_and, a_or, a_not, a_andV, a_orV, a_notV, a_if, a_sif, a_nil, a_cons, a_star, a_list, a_tup, a_sized, a_call, a_built, a_seq, a_set, a_own, a_sret, a_next, a_isi, a_slice, a_part, a_nopart, a_range, a_seqS, a_varP, a_par2, a_xp, a_xo, a_xn, a_asg, a_make, a_chg, a_ixO, a_lenO, a_cntO, items_lst, items_tup, sizeOk, boolD, cmpD, slOf, intOf_int, len_encL, ans_rt, a_fn, List.replicate, g_all_weights_3, g_all_weights_2, g_all_weights_1, nat_add, nat_add1, ixTn (ks := ks) (i := i) (by omega), ixTn (ks := ks) (i := i + 1) (by omega), ixTn (ks := ks) (i := i + (d + 1)) (by omega), ixTn (ks := ks) (i := i + (d + 1) + 1) (by omega), s1, s2, f1, f2, m1, m2, ad, ap]
  exact ⟨rfl, rfl⟩
theorem outer_turn (hk : ∀ q ∈ ks, Ht S q) (ht : Ht S t) (hsh : ∀ i j, i < ks.length → j < ks.length → Ht S (share (at0 ks i) (at0 ks j) t)) {d s : Nat} (hS : 4 * S + 2 ≤ 9000) (hb : bitsN S (d + 1) ≤ 9000) (hi : d + 2 ≤ ks.length) (hl : ks.length ≤ 1000) (x6 x7 x8 x9 : Sl) :
    ∃ y5 y6 y7 y8 y9, (sSeq (sOwn 6 (mSized (mNil))) g_all_weights_4) (EnW p ks t s (.list (encL (lvl (at0 ks) t s ks.length d))) (.pur (natD (d + 1))) x6 x7 x8 x9) = some (.ok (EnW p ks t s (.list (encL (lvl (at0 ks) t s ks.length (d + 1)))) y5 y6 y7 y8 y9, .nx)) := by
  have r1 : range1D [.int ((((lvl (at0 ks) t s ks.length d).length : Nat) : Int) - 1)] = _ := range1_of (ks.length - 1 - d - 1) (by rw [lvl_len]; omega) (by omega)
  have src : mRange range1D (mCons (mOp subD (mBuilt lenD (mCons (mVar 4) (mNil))) (mRet (.int 1))) (mNil)) (EnW p ks t s (.list (encL (lvl (at0 ks) t s ks.length d))) (.pur (natD (d + 1))) (.own []) x7 x8 x9) = some (.ok (EnW p ks t s (.list (encL (lvl (at0 ks) t s ks.length d))) (.pur (natD (d + 1))) (.own []) x7 x8 x9, constS ((List.range' 0 (ks.length - 1 - d - 1)).map natD))) := by
    rw [← List.range_eq_range']
    simp [bd_ok, lf_some, cl_ok, a_ret, a_op, a_un, a_test, a_and, a_or, a_not, a_andV, a_orV, a_notV, a_if, a_sif, a_nil, a_cons, a_star, a_list, a_tup, a_sized, a_call, a_built, a_seq, a_set, a_own, a_sret, a_next, a_isi, a_slice, a_part, a_nopart, a_range, a_seqS, a_varP, a_par2, a_xp, a_xo, a_xn, a_asg, a_make, a_chg, a_ixO, a_lenO, a_cntO, items_lst, items_tup, sizeOk, boolD, cmpD, slOf, intOf_int, len_encL, ans_rt, a_fn, List.replicate, lenD, subD, r1]
  obtain ⟨ρ', e1, z7, z8, z9, e2⟩ := for_range (v := 7) (body := g_all_weights_3) 0 (ks.length - 1 - d - 1) (fun i ρ => ∃ x7 x8 x9, ρ = EnW p ks t s (.list (encL (lvl (at0 ks) t s ks.length d))) (.pur (natD (d + 1))) (.own (encL ((List.range i).map (Nb (at0 ks) t s (d + 1))))) x7 x8 x9) src ⟨_, _, _, rfl⟩ fun i ρ _ hi' ⟨x7, x8, x9, hρ⟩ => by
    subst hρ
    exact ⟨_, .nx, inner_turn (p := p) hk ht hsh hS hb (by omega) hl x8 x9, .inl rfl, _, _, _, rfl⟩
  have le : (List.range (0 + (ks.length - 1 - d - 1))).map (Nb (at0 ks) t s (d + 1)) = lvl (at0 ks) t s ks.length (d + 1) := by
    rw [Nat.zero_add]
    rfl
  rw [le] at e2
  subst e2
  refine ⟨.pur (natD (d + 1)), .pur (.list (encL (lvl (at0 ks) t s ks.length (d + 1)))), z7, z8, z9, ?_⟩
  rw [a_seq, show sOwn 6 (mSized mNil) (EnW p ks t s (.list (encL (lvl (at0 ks) t s ks.length d))) (.pur (natD (d + 1))) x6 x7 x8 x9) = some (.ok (EnW p ks t s (.list (encL (lvl (at0 ks) t s ks.length d))) (.pur (natD (d + 1))) (.own []) x7 x8 x9, .nx)) from rfl, bd_ok]
  unfold g_all_weights_4
  simp only
  rw [a_seq, e1, bd_ok]
  rfl
theorem weights_enc (hk : ∀ q ∈ ks, Ht S q) (ht : Ht S t) (hsh : ∀ i j, i < ks.length → j < ks.length → Ht S (share (at0 ks i) (at0 ks j) t)) (hS : 4 * S + 2 ≤ 9000) (hb : bitsN S p ≤ 9000) (hp : p + 1 ≤ ks.length) (hl : ks.length ≤ 1000) (hf : full (at0 ks) (ks.length - 1) ≠ []) :
    F_all_weights [.int p, .tuple (encL ks), enc t] = some (.ok (.tuple (encL (lvl (at0 ks) t (spanN (at0 ks) (ks.length - 1) t) ks.length p)))) := by
  have es := span_enc hk ht (by omega) hl (by omega) hf
  generalize spanN (at0 ks) (ks.length - 1) t = s at es ⊢
  have r1 : range1D [.int ((ks.length : Int) - 1)] = _ := range1_of (ks.length - 1) (by omega) (by omega)
  have b1 : mBlk [7] (mRange range1D (mCons (mOp subD (mBuilt lenD (mCons (mVar 1) (mNil))) (mRet (.int 1))) (mNil))) (lcBody [7] (gSet 7) (mRet true) (mIf (mTest (mOp eqD (mVar 7) (mVar 3))) (mRet C_ONE) (mRet C_NOUGHT)))
      [.pur (.int p), .pur (.tuple (encL ks)), .pur (enc t), .pur (natD s), .no, .no, .no, .no, .no, .no] = some (.ok ([.pur (.int p), .pur (.tuple (encL ks)), .pur (enc t), .pur (natD s), .no, .no, .no, .no, .no, .no], (List.range (ks.length - 1)).map fun i => enc (Nb (at0 ks) t s 0 i))) :=
    blk_map (List.range (ks.length - 1)) natD _ (by simp [bd_ok, lf_some, cl_ok, a_ret, a_op, a_un, a_test, a_and, a_or, a_not, a_andV, a_orV, a_notV, a_if, a_sif, a_nil, a_cons, a_star, a_list, a_tup, a_sized, a_call, a_built, a_seq, a_set, a_own, a_sret, a_next, a_isi, a_slice, a_part, a_nopart, a_range, a_seqS, a_varP, a_par2, a_xp, a_xo, a_xn, a_asg, a_make, a_chg, a_ixO, a_lenO, a_cntO, items_lst, items_tup, sizeOk, boolD, cmpD, slOf, intOf_int, len_encL, ans_rt, a_fn, List.replicate, lenD, subD, r1]) (by simp; omega) rfl fun i _ => by
      by_cases e : i = s
      · have q : eqD (natD i) (natD s) = some (.bool true) := by simp [natD, eqD, e]
        rw [show Nb (at0 ks) t s 0 i = 1 from if_pos e]
        simp [bd_ok, lf_some, cl_ok, a_ret, a_op, a_un, a_test, a_and, a_or, a_not, a_andV, a_orV, a_notV, a_if, a_sif, a_nil, a_cons, a_star, a_list, a_tup, a_sized, a_call, a_built, a_seq, a_set, a_own, a_sret, a_next, a_isi, a_slice, a_part, a_nopart, a_range, a_seqS, a_varP, a_par2, a_xp, a_xo, a_xn, a_asg, a_make, a_chg, a_ixO, a_lenO, a_cntO, items_lst, items_tup, sizeOk, boolD, cmpD, slOf, intOf_int, len_encL, ans_rt, a_fn, List.replicate, q]
        exact one_enc
      · have q : eqD (natD i) (natD s) = some (.bool false) := by simp [natD, eqD]; omega
        rw [show Nb (at0 ks) t s 0 i = 0 from if_neg e]
        simp [bd_ok, lf_some, cl_ok, a_ret, a_op, a_un, a_test, a_and, a_or, a_not, a_andV, a_orV, a_notV, a_if, a_sif, a_nil, a_cons, a_star, a_list, a_tup, a_sized, a_call, a_built, a_seq, a_set, a_own, a_sret, a_next, a_isi, a_slice, a_part, a_nopart, a_range, a_seqS, a_varP, a_par2, a_xp, a_xo, a_xn, a_asg, a_make, a_chg, a_ixO, a_lenO, a_cntO, items_lst, items_tup, sizeOk, boolD, cmpD, slOf, intOf_int, len_encL, ans_rt, a_fn, List.replicate, q]
        exact nought_enc
  have l0 : ((List.range (ks.length - 1)).map fun i => enc (Nb (at0 ks) t s 0 i)) = encL (lvl (at0 ks) t s ks.length 0) := by simp [encL, lvl]
  rw [l0] at b1
  have e0 : F_all_weights [.int p, .tuple (encL ks), enc t] = ans (g_all_weights_5 (EnW p ks t s (.list (encL (lvl (at0 ks) t s ks.length 0))) .no .no .no .no .no)) := by
    simp [bd_ok, lf_some, cl_ok, a_ret, a_op, a_un, a_test, a_and, a_or, a_not, a_andV, a_orV, a_notV, a_if, a_sif, a_nil, a_cons, a_star, a_list, a_tup, a_sized, a_call, a_built, a_seq, a_set, a_own, a_sret, a_next, a_isi, a_slice, a_part, a_nopart, a_range, a_seqS, a_varP, a_par2, a_xp, a_xo, a_xn, a_asg, a_make, a_chg, a_ixO, a_lenO, a_cntO, items_lst, items_tup, sizeOk, boolD, cmpD, slOf, intOf_int, len_encL, ans_rt, a_fn, List.replicate, F_all_weights, g_all_weights, es, g_all_weights_6, b1]
  have r2 : range2D [.int 1, .int ((p : Int) + 1)] = _ := range2_of 1 p rfl (by omega) (by omega) (by omega)
  have src : mRange range2D (mCons (mRet (.int 1)) (mCons (mOp addD (mVar 0) (mRet (.int 1))) (mNil))) (EnW p ks t s (.list (encL (lvl (at0 ks) t s ks.length 0))) .no .no .no .no .no) = some (.ok (EnW p ks t s (.list (encL (lvl (at0 ks) t s ks.length 0))) .no .no .no .no .no, constS ((List.range' 1 p).map natD))) := by
    simp [bd_ok, lf_some, cl_ok, a_ret, a_op, a_un, a_test, a_and, a_or, a_not, a_andV, a_orV, a_notV, a_if, a_sif, a_nil, a_cons, a_star, a_list, a_tup, a_sized, a_call, a_built, a_seq, a_set, a_own, a_sret, a_next, a_isi, a_slice, a_part, a_nopart, a_range, a_seqS, a_varP, a_par2, a_xp, a_xo, a_xn, a_asg, a_make, a_chg, a_ixO, a_lenO, a_cntO, items_lst, items_tup, sizeOk, boolD, cmpD, slOf, intOf_int, len_encL, ans_rt, a_fn, List.replicate, addD, r2]
  obtain ⟨ρ', e1, d, z5, z6, z7, z8, z9, hd, e2⟩ := for_range (v := 5) (body := sSeq (sOwn 6 (mSized (mNil))) g_all_weights_4) 1 p (fun i ρ => ∃ d x5 x6 x7 x8 x9, i = d + 1 ∧ ρ = EnW p ks t s (.list (encL (lvl (at0 ks) t s ks.length d))) x5 x6 x7 x8 x9) src ⟨0, _, _, _, _, _, rfl, rfl⟩ fun i ρ h1 h2 ⟨d, x5, x6, x7, x8, x9, hi, hρ⟩ => by
    subst hρ hi
    obtain ⟨y5, y6, y7, y8, y9, e⟩ := outer_turn (p := p) (s := s) hk ht hsh hS (d := d) (Nat.le_trans (bitsN_mono S (d + 1) p (by omega)) hb) (by omega) hl x6 x7 x8 x9
    exact ⟨_, .nx, e, .inl rfl, d + 1, y5, y6, y7, y8, y9, rfl, rfl⟩
  have hd : d = p := by omega
  subst hd
  subst e2
  rw [e0]
  unfold g_all_weights_5
  rw [a_seq, e1, bd_ok]
  simp [bd_ok, lf_some, cl_ok, a_ret, a_op, a_un, a_test, a_and, a_or, a_not, a_andV, a_orV, a_notV, a_if, a_sif, a_nil, a_cons, a_star, a_list, a_tup, a_sized, a_call, a_built, a_seq, a_set, a_own, a_sret, a_next, a_isi, a_slice, a_part, a_nopart, a_range, a_seqS, a_varP, a_par2, a_xp, a_xo, a_xn, a_asg, a_make, a_chg, a_ixO, a_lenO, a_cntO, items_lst, items_tup, sizeOk, boolD, cmpD, slOf, intOf_int, len_encL, ans_rt, a_fn, List.replicate, tupleD]
end
end HB
namespace HB
open PySem L2
def bendD (n : Nat) (ks hs : List Rat) (z : Str) : D := .dict [(.str "Bend", .none), (.str "degree", .int n), (.str "marks", .tuple (encL ks)), (.str "handles", .tuple (encL hs)), (.str "text", .str z)]
section
variable {n : Nat} {ks hs : List Rat} {z : Str} {t : Rat} {S : Nat}
theorem f_degree : fldD "Bend" "degree" (bendD n ks hs z) = some (.int n) := id rfl
theorem f_marks : fldD "Bend" "marks" (bendD n ks hs z) = some (.tuple (encL ks)) := id rfl
theorem f_handles : fldD "Bend" "handles" (bendD n ks hs z) = some (.tuple (encL hs)) := id rfl
theorem need_time_enc (hk : ∀ q ∈ ks, Ht S q) (ht : Ht S t) (hS : 2 * S ≤ 9000) (h0 : 0 < ks.length) (h1 : at0 ks 0 ≤ t) (h2 : t ≤ at0 ks (ks.length - 1)) : F_need_time [.tuple (encL ks), enc t] = some (.ok (enc t)) := by
  have l1 : F_is_less [enc t, enc (at0 ks 0)] = some (.ok (.bool false)) := (is_less_enc ht (at0_ht hk h0) (by omega)).trans (by rw [decide_eq_false (by grind)])
  have l2 : F_is_less [enc (at0 ks (ks.length - 1)), enc t] = some (.ok (.bool false)) := (is_less_enc (at0_ht hk (by omega)) ht (by omega)).trans (by rw [decide_eq_false (by grind)])
  simp [bd_ok, lf_some, cl_ok, a_ret, a_op, a_un, a_test, a_and, a_or, a_not, a_andV, a_orV, a_notV, a_if, a_sif, a_nil, a_cons, a_star, a_list, a_tup, a_sized, a_call, a_built, a_seq, a_set, a_own, a_sret, a_next, a_isi, a_slice, a_part, a_nopart, a_range, a_seqS, a_varP, a_par2, a_xp, a_xo, a_xn, a_asg, a_make, a_chg, a_ixO, a_lenO, a_cntO, items_lst, items_tup, sizeOk, boolD, cmpD, slOf, intOf_int, len_encL, ans_rt, a_fn, List.replicate, F_need_time, g_need_time, is_value_enc, g_need_time_2, value_of_enc, g_need_time_1, ixT (ks := ks) (z := 0) (i := 0) rfl h0, negD, ixT_last (ks := ks) h0, l1, l2]
/-- the value of a curve -/
def valR (n : Nat) (ks hs : List Rat) (t : Rat) : Rat := sumR (((lvl (at0 (knots n ks)) t (spanN (at0 (knots n ks)) ((knots n ks).length - 1) t) (knots n ks).length n).zip hs).map fun p => p.1 * p.2)
def zipR (as bs : List Rat) : List D := (as.zip bs).map fun p => .tuple [enc p.1, enc p.2]
theorem zipD_enc : ∀ as bs : List Rat, zipD (encL as) (encL bs) = zipR as bs
  | [], _ => by simp [encL, zipD, zipR]
  | _ :: _, [] => by simp [encL, zipD, zipR]
  | a :: as, b :: bs => by
    have ih := zipD_enc as bs
    simp only [encL, zipR] at ih
    simp [encL, zipD, zipR, ih]
theorem knots_mem {q : Rat} (h0 : 0 < ks.length) (h : q ∈ knots n ks) : q ∈ ks := by
  have m : ∀ i, i < ks.length → at0 ks i ∈ ks := fun i hi => by rw [at0_lt hi]; exact List.getElem_mem hi
  simp only [knots, List.mem_append, List.mem_replicate] at h
  rcases h with ⟨_, rfl⟩ | h | ⟨_, rfl⟩
  · exact m 0 h0
  · exact h
  · exact m _ (by omega)
end
end HB
namespace HB
open PySem L2
theorem nat_len {n B : Nat} (h : n < 2 ^ B) (hB : 1 ≤ B) : (Nat.repr n).length ≤ B := by
  have h1 : n < 10 ^ B := Nat.lt_of_lt_of_le h (Nat.pow_le_pow_left (by decide) B)
  have h2 := PySem.digitsCore_len_pow 10 (by decide) B (n + 1) n [] hB h1
  simpa [Nat.repr, Nat.toDigits] using h2
theorem int_len {i : Int} {B : Nat} (h : i.natAbs < 2 ^ B) (hB : 1 ≤ B) : (toString i).length ≤ B + 1 := by
  cases i with
  | ofNat n =>
    have := nat_len (n := n) (by simpa using h) hB
    show (Nat.repr n).length ≤ B + 1
    omega
  | negSucc n =>
    have := nat_len (n := n + 1) (by simpa using h) hB
    show ("-" ++ Nat.repr (n + 1)).length ≤ B + 1
    rw [String.length_append]
    have : "-".length = 1 := rfl
    omega
abbrev iS (i : Int) : Str := Str.ofString (toString i)
theorem iS_len {i : Int} {B : Nat} (h : i.natAbs < 2 ^ B) (hB : 1 ≤ B) : (iS i).length ≤ B + 1 := by
  exact (PyProof.Rows.ofString_len (toString i)).symm ▸ int_len h hB
def textR (q : Rat) : Str := if q.den = 1 then iS q.num else Str.empty ++ iS q.num ++ "/" ++ iS (q.den : Int)
theorem str_app (a b : Str) : (a ++ b).length = a.length + b.length := Str.length_append a b
theorem text_len {q : Rat} {B : Nat} (h : Ht B q) : (textR q).length ≤ 2 * B + 3 := by
  have h1 := iS_len h.1 h.pos
  have h2 := iS_len (i := (q.den : Int)) (by simpa using h.2) h.pos
  have e0 : Str.empty.length = 0 := rfl
  have e1 : ("/" : Str).length = 1 := rfl
  unfold textR
  split
  · omega
  · rw [str_app, str_app, str_app]
    omega
theorem text_enc {q : Rat} {B : Nat} (h : Ht B q) (hB : B ≤ 1900) : F_text_of [enc q] = some (.ok (.str (textR q))) := by
  have l1 : q.num.natAbs.log2 < 1920 := Nat.lt_of_lt_of_le (log_lt h.1 h.pos) (by omega)
  have l2 : (q.den : Int).natAbs.log2 < 1920 := Nat.lt_of_lt_of_le (log_lt (by simpa using h.2) h.pos) (by omega)
  have s1 : strD [.int q.num] = some (.str (iS q.num)) := if_pos l1
  have s2 : fmtD (.int q.num) = some (.str (iS q.num)) := if_pos l1
  have s3 : fmtD (.int (q.den : Int)) = some (.str (iS (q.den : Int))) := if_pos l2
  have n1 := iS_len h.1 h.pos
  have n2 := iS_len (i := (q.den : Int)) (by simpa using h.2) h.pos
  have e0 : Str.empty.length = 0 := rfl
  have e1 : ("/" : Str).length = 1 := rfl
  have a1 : strApp Str.empty (.str (iS q.num)) = some (Str.empty ++ iS q.num) := if_pos (by rw [str_app]; omega)
  have a2 : strApp (Str.empty ++ iS q.num) (.str "/") = some (Str.empty ++ iS q.num ++ "/") := if_pos (by rw [str_app, str_app]; omega)
  have a3 : strApp (Str.empty ++ iS q.num ++ "/") (.str (iS (q.den : Int))) = some (Str.empty ++ iS q.num ++ "/" ++ iS (q.den : Int)) := if_pos (by rw [str_app, str_app, str_app]; omega)
  have x0 : ixD (enc q) (.int 0) = some (.int q.num) := ix0 _ _
  have x1 : ixD (enc q) (.int 1) = some (.int (q.den : Int)) := ix1 _ _
  have aj : ∀ (ρ : En), mJoined (jCons (mUn fmtD (mOp ixD (mVar 0) (mRet (.int 0)))) (jCons (mRet (.str "/")) (jCons (mUn fmtD (mOp ixD (mVar 0) (mRet (.int 1)))) (jNil)))) [.pur (enc q)] = some (.ok ([.pur (enc q)], .str (Str.empty ++ iS q.num ++ "/" ++ iS (q.den : Int)))) := fun _ => by
    simp only [mJoined, jCons, jNil, mBind, mLift, mUn, mOp, mVar, mRet, List.getElem?_cons_zero, x0, x1, s2, s3, a1, a2, a3]
  unfold textR
  by_cases hd : q.den = 1
  · have e : eqD (.int (q.den : Int)) (.int 1) = some (.bool true) := by simp [eqD, hd]
    rw [if_pos hd]
    simp [bd_ok, lf_some, cl_ok, a_ret, a_op, a_un, a_test, a_and, a_or, a_not, a_andV, a_orV, a_notV, a_if, a_sif, a_nil, a_cons, a_star, a_list, a_tup, a_sized, a_call, a_built, a_seq, a_set, a_own, a_sret, a_next, a_isi, a_slice, a_part, a_nopart, a_range, a_seqS, a_varP, a_par2, a_xp, a_xo, a_xn, a_asg, a_make, a_chg, a_ixO, a_lenO, a_cntO, items_lst, items_tup, sizeOk, boolD, cmpD, slOf, intOf_int, len_encL, ans_rt, a_fn, List.replicate, F_text_of, g_text_of, x0, x1, e, s1]
  · have e : eqD (.int (q.den : Int)) (.int 1) = some (.bool false) := by simp [eqD]; omega
    rw [if_neg hd]
    simp [bd_ok, lf_some, cl_ok, a_ret, a_op, a_un, a_test, a_and, a_or, a_not, a_andV, a_orV, a_notV, a_if, a_sif, a_nil, a_cons, a_star, a_list, a_tup, a_sized, a_call, a_built, a_seq, a_set, a_own, a_sret, a_next, a_isi, a_slice, a_part, a_nopart, a_range, a_seqS, a_varP, a_par2, a_xp, a_xo, a_xn, a_asg, a_make, a_chg, a_ixO, a_lenO, a_cntO, items_lst, items_tup, sizeOk, boolD, cmpD, slOf, intOf_int, len_encL, ans_rt, a_fn, List.replicate, F_text_of, g_text_of, x0, x1, e, aj []]
theorem a_m1 {ρ : En} (f : Str → D → Option D) (s : Str) (b : Mo D) : mM1 f (mRet (.str s)) b ρ = bd (b ρ) fun ρ1 y => lf ρ1 (f s y) := id rfl
def textB (n : Nat) (ks hs : List Rat) : Str := Txt.join " " ([("bend" : Str), iS n, ("marks" : Str)] ++ (ks.map textR ++ ([("handles" : Str)] ++ hs.map textR)))
theorem strs_map : ∀ L : List Str, strsD (L.map .str) = some L
  | [] => rfl
  | a :: L => by
    simp only [List.map_cons, strsD, strs_map L]
    rfl
theorem sum_len {B : Nat} : ∀ L : List Rat, (∀ q ∈ L, Ht B q) → ((L.map textR).map (·.length)).sum ≤ L.length * (2 * B + 3)
  | [], _ => by simp
  | q :: L, h => by
    have ih := sum_len L fun x hx => h x (List.mem_cons_of_mem _ hx)
    have := text_len (h q List.mem_cons_self)
    simp only [List.map_cons, List.sum_cons, List.length_cons, Nat.add_mul] at ih ⊢
    omega
theorem text_bend_enc {n : Nat} {ks hs : List Rat} {B : Nat} (hk : ∀ q ∈ ks, Ht B q) (hh : ∀ q ∈ hs, Ht B q) (hB : B ≤ 1900) (hn : n < 1000) (lk : ks.length ≤ 200) (lh : hs.length ≤ 200) : F_text_of_bend [.int n, .tuple (encL ks), .tuple (encL hs)] = some (.ok (.str (textB n ks hs))) := by
  have b1 : mBlk [5] (mSeqS (mVar 1)) (lcBody [5] (gSet 5) (mRet true) (mCall F_text_of (mCons (mVar 5) (mNil)))) [.pur (.int n), .pur (.tuple (encL ks)), .pur (.tuple (encL hs)), .no, .no, .no] = some (.ok ([.pur (.int n), .pur (.tuple (encL ks)), .pur (.tuple (encL hs)), .no, .no, .no], ks.map fun q => .str (textR q))) :=
    blk_map ks enc _ (by simp [bd_ok, lf_some, cl_ok, a_ret, a_op, a_un, a_test, a_and, a_or, a_not, a_andV, a_orV, a_notV, a_if, a_sif, a_nil, a_cons, a_star, a_list, a_tup, a_sized, a_call, a_built, a_seq, a_set, a_own, a_sret, a_next, a_isi, a_slice, a_part, a_nopart, a_range, a_seqS, a_varP, a_par2, a_xp, a_xo, a_xn, a_asg, a_make, a_chg, a_ixO, a_lenO, a_cntO, items_lst, items_tup, sizeOk, boolD, cmpD, slOf, intOf_int, len_encL, ans_rt, a_fn, List.replicate]; rfl) (by omega) rfl fun q hq => by simp [bd_ok, lf_some, cl_ok, a_ret, a_op, a_un, a_test, a_and, a_or, a_not, a_andV, a_orV, a_notV, a_if, a_sif, a_nil, a_cons, a_star, a_list, a_tup, a_sized, a_call, a_built, a_seq, a_set, a_own, a_sret, a_next, a_isi, a_slice, a_part, a_nopart, a_range, a_seqS, a_varP, a_par2, a_xp, a_xo, a_xn, a_asg, a_make, a_chg, a_ixO, a_lenO, a_cntO, items_lst, items_tup, sizeOk, boolD, cmpD, slOf, intOf_int, len_encL, ans_rt, a_fn, List.replicate, text_enc (hk q hq) hB]
  have b2 : mBlk [5] (mSeqS (mVar 2)) (lcBody [5] (gSet 5) (mRet true) (mCall F_text_of (mCons (mVar 5) (mNil)))) [.pur (.int n), .pur (.tuple (encL ks)), .pur (.tuple (encL hs)), .no, .no, .no] = some (.ok ([.pur (.int n), .pur (.tuple (encL ks)), .pur (.tuple (encL hs)), .no, .no, .no], hs.map fun q => .str (textR q))) :=
    blk_map hs enc _ (by simp [bd_ok, lf_some, cl_ok, a_ret, a_op, a_un, a_test, a_and, a_or, a_not, a_andV, a_orV, a_notV, a_if, a_sif, a_nil, a_cons, a_star, a_list, a_tup, a_sized, a_call, a_built, a_seq, a_set, a_own, a_sret, a_next, a_isi, a_slice, a_part, a_nopart, a_range, a_seqS, a_varP, a_par2, a_xp, a_xo, a_xn, a_asg, a_make, a_chg, a_ixO, a_lenO, a_cntO, items_lst, items_tup, sizeOk, boolD, cmpD, slOf, intOf_int, len_encL, ans_rt, a_fn, List.replicate]; rfl) (by omega) rfl fun q hq => by simp [bd_ok, lf_some, cl_ok, a_ret, a_op, a_un, a_test, a_and, a_or, a_not, a_andV, a_orV, a_notV, a_if, a_sif, a_nil, a_cons, a_star, a_list, a_tup, a_sized, a_call, a_built, a_seq, a_set, a_own, a_sret, a_next, a_isi, a_slice, a_part, a_nopart, a_range, a_seqS, a_varP, a_par2, a_xp, a_xo, a_xn, a_asg, a_make, a_chg, a_ixO, a_lenO, a_cntO, items_lst, items_tup, sizeOk, boolD, cmpD, slOf, intOf_int, len_encL, ans_rt, a_fn, List.replicate, text_enc (hh q hq) hB]
  have nB : (n : Int).natAbs < 2 ^ 10 := by
    rw [Int.natAbs_natCast]
    exact Nat.lt_of_lt_of_le hn (by decide)
  have s1 : strD [.int (n : Int)] = some (.str (iS n)) := if_pos (Nat.lt_of_lt_of_le (log_lt nB (by decide)) (by decide))
  have nl := iS_len nB (by decide)
  have m1 := sum_len ks hk
  have m2 := sum_len hs hh
  have q1 : ks.length * (2 * B + 3) ≤ 200 * 3803 := Nat.mul_le_mul lk (by omega)
  have q2 : hs.length * (2 * B + 3) ≤ 200 * 3803 := Nat.mul_le_mul lh (by omega)
  have c1 : ("bend" : Str).length = 4 := rfl
  have c2 : ("marks" : Str).length = 5 := rfl
  have c3 : ("handles" : Str).length = 7 := rfl
  have c4 : (" " : Str).length = 1 := rfl
  have jn : joinD " " (.list (PyData.str "bend" :: PyData.str (iS n) :: PyData.str "marks" :: ((ks.map fun q => PyData.str (textR q)) ++ PyData.str "handles" :: hs.map fun q => PyData.str (textR q)))) = some (.str (textB n ks hs)) := by
    have e : (PyData.str "bend" :: PyData.str (iS n) :: PyData.str "marks" :: ((ks.map fun q => PyData.str (textR q)) ++ PyData.str "handles" :: hs.map fun q => PyData.str (textR q))) = ([("bend" : Str), iS n, ("marks" : Str)] ++ (ks.map textR ++ ([("handles" : Str)] ++ hs.map textR))).map PyData.str := by
      simp [Function.comp_def]
    unfold joinD
    rw [e]
    simp only [items_lst, strs_map]
    refine if_pos ?_
    simp only [List.map_append, List.map_cons, List.map_nil, List.sum_append, List.sum_cons, List.sum_nil, List.length_append, List.length_cons, List.length_nil, List.length_map, c1, c2, c3, c4]
    omega
  have sz : (ks.length + (hs.length + 1)) + 1 + 1 + 1 ≤ 1000000 := by omega
  have sz2 : ((ks.map fun q => PyData.str (textR q)) ++ PyData.str "handles" :: hs.map fun q => PyData.str (textR q)).length + 1 + 1 + 1 ≤ 1000000 := by simp; omega
  simp [bd_ok, lf_some, cl_ok, a_ret, a_op, a_un, a_test, a_and, a_or, a_not, a_andV, a_orV, a_notV, a_if, a_sif, a_nil, a_cons, a_star, a_list, a_tup, a_sized, a_call, a_built, a_seq, a_set, a_own, a_sret, a_next, a_isi, a_slice, a_part, a_nopart, a_range, a_seqS, a_varP, a_par2, a_xp, a_xo, a_xn, a_asg, a_make, a_chg, a_ixO, a_lenO, a_cntO, items_lst, items_tup, sizeOk, boolD, cmpD, slOf, intOf_int, len_encL, ans_rt, a_fn, List.replicate, F_text_of_bend, g_text_of_bend, b1, b2, g_text_of_bend_1, s1, a_m1]
  rw [if_pos (by simp at sz2; omega)]
  simp only [lf_some, bd_ok, jn, ans_rt]
end HB
namespace HB
open PySem L2
def cntR (ks : List Rat) (q : Rat) : Nat := (ks.filter fun x => decide (x = q)).length
structure GoodM (n : Nat) (ks : List Rat) : Prop where
  len : 2 ≤ ks.length
  asc : ∀ i, i + 1 < ks.length → at0 ks i ≤ at0 ks (i + 1)
  c0 : cntR ks (at0 ks 0) = 1
  cl : cntR ks (at0 ks (ks.length - 1)) = 1
  ci : ∀ i, 0 < i → i + 1 < ks.length → cntR ks (at0 ks i) ≤ n
/-- a list or a tuple of such values -/
def SeqOf (d : D) (ks : List Rat) : Prop := d = .list (encL ks) ∨ d = .tuple (encL ks)
theorem SeqOf.items {d : D} {ks : List Rat} (h : SeqOf d ks) : itemsD d = some (encL ks) := by rcases h with rfl | rfl <;> rfl
theorem SeqOf.isSeq {d : D} {ks : List Rat} (h : SeqOf d ks) : F_is_sequence [d] = some (.ok (.bool true)) := by rcases h with rfl | rfl <;> rfl
theorem SeqOf.len {d : D} {ks : List Rat} (h : SeqOf d ks) : lenD [d] = some (.int ks.length) := by
  rcases h with rfl | rfl <;> simp [lenD, len_encL]
section
variable {n : Nat} {ks hs : List Rat} {d e : D} {B : Nat}
theorem all_rep (m : Nat) : allD [.list (List.replicate m (.bool true))] = some (.bool true) := by
  have a := all_map (fun _ : Nat => true) (List.range m)
  rw [List.all_eq_true.mpr (fun _ _ => rfl), List.map_const', List.length_range] at a
  exact a
theorem values_blk {v : Nat} {ρ : En} {i : Nat} (hd : itemsD d = some (encL ks)) (hi : ρ[i]? = some (.pur d)) (hl : ks.length < 1000000) (ho : noOwn ρ [v] = true) (hv : v < ρ.length) : mBlk [v] (mSeqS (mVar i)) (lcBody [v] (gSet v) (mRet true) (mCall F_is_value (mCons (mVar v) (mNil)))) ρ = some (.ok (ρ, List.replicate ks.length (.bool true))) := by
  have b := blk_map (v := v) (src := mSeqS (mVar i)) (elt := mCall F_is_value (mCons (mVar v) (mNil))) (ρ := ρ) ks enc (fun _ => .bool true) (by simp [bd_ok, lf_some, cl_ok, a_ret, a_op, a_un, a_test, a_and, a_or, a_not, a_andV, a_orV, a_notV, a_if, a_sif, a_nil, a_cons, a_star, a_list, a_tup, a_sized, a_call, a_built, a_seq, a_set, a_own, a_sret, a_next, a_isi, a_slice, a_part, a_nopart, a_range, a_seqS, a_varP, a_par2, a_xp, a_xo, a_xn, a_asg, a_make, a_chg, a_ixO, a_lenO, a_cntO, items_lst, items_tup, sizeOk, boolD, cmpD, slOf, intOf_int, len_encL, ans_rt, a_fn, List.replicate, hi, hd]; rfl) hl ho fun q _ => by simp [bd_ok, lf_some, cl_ok, a_ret, a_op, a_un, a_test, a_and, a_or, a_not, a_andV, a_orV, a_notV, a_if, a_sif, a_nil, a_cons, a_star, a_list, a_tup, a_sized, a_call, a_built, a_seq, a_set, a_own, a_sret, a_next, a_isi, a_slice, a_part, a_nopart, a_range, a_seqS, a_varP, a_par2, a_xp, a_xo, a_xn, a_asg, a_make, a_chg, a_ixO, a_lenO, a_cntO, items_lst, items_tup, sizeOk, boolD, cmpD, slOf, intOf_int, len_encL, ans_rt, a_fn, List.replicate, hv, is_value_enc]
  rwa [List.map_const'] at b
theorem of_blk {v : Nat} {ρ : En} {i : Nat} (hd : itemsD d = some (encL ks)) (hi : ρ[i]? = some (.pur d)) (hl : ks.length < 1000000) (ho : noOwn ρ [v] = true) (hv : v < ρ.length) : mBlk [v] (mSeqS (mVar i)) (lcBody [v] (gSet v) (mRet true) (mCall F_value_of (mCons (mVar v) (mNil)))) ρ = some (.ok (ρ, encL ks)) :=
  blk_map ks enc enc (by simp [bd_ok, lf_some, cl_ok, a_ret, a_op, a_un, a_test, a_and, a_or, a_not, a_andV, a_orV, a_notV, a_if, a_sif, a_nil, a_cons, a_star, a_list, a_tup, a_sized, a_call, a_built, a_seq, a_set, a_own, a_sret, a_next, a_isi, a_slice, a_part, a_nopart, a_range, a_seqS, a_varP, a_par2, a_xp, a_xo, a_xn, a_asg, a_make, a_chg, a_ixO, a_lenO, a_cntO, items_lst, items_tup, sizeOk, boolD, cmpD, slOf, intOf_int, len_encL, ans_rt, a_fn, List.replicate, hi, hd]; rfl) hl ho fun q _ => by simp [bd_ok, lf_some, cl_ok, a_ret, a_op, a_un, a_test, a_and, a_or, a_not, a_andV, a_orV, a_notV, a_if, a_sif, a_nil, a_cons, a_star, a_list, a_tup, a_sized, a_call, a_built, a_seq, a_set, a_own, a_sret, a_next, a_isi, a_slice, a_part, a_nopart, a_range, a_seqS, a_varP, a_par2, a_xp, a_xo, a_xn, a_asg, a_make, a_chg, a_ixO, a_lenO, a_cntO, items_lst, items_tup, sizeOk, boolD, cmpD, slOf, intOf_int, len_encL, ans_rt, a_fn, List.replicate, hv, value_of_enc]
theorem are_marks_enc (g : GoodM n ks) (hd : SeqOf d ks) (hk : ∀ q ∈ ks, Ht B q) (hB : 2 * B ≤ 9000) (hl : ks.length ≤ 1000) : F_are_marks [.int n, d] = some (.ok (.bool true)) := by
  have h2 := g.len
  have l1 : leI (ks.length : Int) 1 = false := decide_eq_false (by omega)
  have av := values_blk (v := 4) (i := 1) (ρ := [.pur (.int n), .pur d, .no, .no, .no, .no, .no, .no]) hd.items rfl (by omega) rfl (by simp)
  have b1 : mBlk [4] (mSeqS (mVar 1)) (lcBody [4] (gSet 4) (mRet true) (mCall F_value_of (mCons (mVar 4) (mNil)))) [.pur (.int n), .pur d, .no, .no, .no, .no, .no, .no] = some (.ok ([.pur (.int n), .pur d, .no, .no, .no, .no, .no, .no], encL ks)) :=
    blk_map ks enc enc (by simp [bd_ok, lf_some, cl_ok, a_ret, a_op, a_un, a_test, a_and, a_or, a_not, a_andV, a_orV, a_notV, a_if, a_sif, a_nil, a_cons, a_star, a_list, a_tup, a_sized, a_call, a_built, a_seq, a_set, a_own, a_sret, a_next, a_isi, a_slice, a_part, a_nopart, a_range, a_seqS, a_varP, a_par2, a_xp, a_xo, a_xn, a_asg, a_make, a_chg, a_ixO, a_lenO, a_cntO, items_lst, items_tup, sizeOk, boolD, cmpD, slOf, intOf_int, len_encL, ans_rt, a_fn, List.replicate, hd.items]; rfl) (by omega) rfl fun q _ => by simp [bd_ok, lf_some, cl_ok, a_ret, a_op, a_un, a_test, a_and, a_or, a_not, a_andV, a_orV, a_notV, a_if, a_sif, a_nil, a_cons, a_star, a_list, a_tup, a_sized, a_call, a_built, a_seq, a_set, a_own, a_sret, a_next, a_isi, a_slice, a_part, a_nopart, a_range, a_seqS, a_varP, a_par2, a_xp, a_xo, a_xn, a_asg, a_make, a_chg, a_ixO, a_lenO, a_cntO, items_lst, items_tup, sizeOk, boolD, cmpD, slOf, intOf_int, len_encL, ans_rt, a_fn, List.replicate, value_of_enc]
  have r1 : range1D [.int ((ks.length : Int) - 1)] = _ := range1_of (ks.length - 1) (by omega) (by omega)
  have b2 : mBlk [6] (mRange range1D (mCons (mOp subD (mBuilt lenD (mCons (mVar 2) (mNil))) (mRet (.int 1))) (mNil))) (lcBody [6] (gSet 6) (mRet true) (mCall F_is_less (mCons (mOp ixD (mVar 2) (mOp addD (mVar 6) (mRet (.int 1)))) (mCons (mOp ixD (mVar 2) (mVar 6)) (mNil))))) [.pur (.int n), .pur d, .pur (.list (encL ks)), .no, .no, .no, .no, .no] = some (.ok ([.pur (.int n), .pur d, .pur (.list (encL ks)), .no, .no, .no, .no, .no], (List.range (ks.length - 1)).map fun i => .bool (decide (at0 ks (i + 1) < at0 ks i)))) :=
    blk_map (List.range (ks.length - 1)) natD _ (by simp [bd_ok, lf_some, cl_ok, a_ret, a_op, a_un, a_test, a_and, a_or, a_not, a_andV, a_orV, a_notV, a_if, a_sif, a_nil, a_cons, a_star, a_list, a_tup, a_sized, a_call, a_built, a_seq, a_set, a_own, a_sret, a_next, a_isi, a_slice, a_part, a_nopart, a_range, a_seqS, a_varP, a_par2, a_xp, a_xo, a_xn, a_asg, a_make, a_chg, a_ixO, a_lenO, a_cntO, items_lst, items_tup, sizeOk, boolD, cmpD, slOf, intOf_int, len_encL, ans_rt, a_fn, List.replicate, lenD, subD, r1]) (by simp; omega) rfl fun i hi => by
      have hi := List.mem_range.mp hi
      have e1 : F_is_less [enc (at0 ks (i + 1)), enc (at0 ks i)] = _ := is_less_enc (at0_ht hk (by omega)) (at0_ht hk (by omega)) (by omega)
      simp [bd_ok, lf_some, cl_ok, a_ret, a_op, a_un, a_test, a_and, a_or, a_not, a_andV, a_orV, a_notV, a_if, a_sif, a_nil, a_cons, a_star, a_list, a_tup, a_sized, a_call, a_built, a_seq, a_set, a_own, a_sret, a_next, a_isi, a_slice, a_part, a_nopart, a_range, a_seqS, a_varP, a_par2, a_xp, a_xo, a_xn, a_asg, a_make, a_chg, a_ixO, a_lenO, a_cntO, items_lst, items_tup, sizeOk, boolD, cmpD, slOf, intOf_int, len_encL, ans_rt, a_fn, List.replicate, nat_add1, ixLn (ks := ks) (i := i) (by omega), ixLn (ks := ks) (i := i + 1) (by omega), e1]
  have an := any_map (fun i => decide (at0 ks (i + 1) < at0 ks i)) (List.range (ks.length - 1))
  rw [List.any_eq_false.mpr (fun i hi => by have := g.asc i (by have := List.mem_range.mp hi; omega); simp; grind)] at an
  have b3 : mBlk [5] (mSeqS (mVar 2)) (lcBody [5] (gSet 5) (mRet true) (mBuilt lenD (mCons (mList (mBlk [4] (mSeqS (mVar 2)) (lcBody [4] (gSet 4) (mTest (mOp eqD (mVar 4) (mVar 5))) (mVar 4)))) (mNil)))) [.pur (.int n), .pur d, .pur (.list (encL ks)), .no, .no, .no, .no, .no] = some (.ok ([.pur (.int n), .pur d, .pur (.list (encL ks)), .no, .no, .no, .no, .no], ks.map fun q => natD (cntR ks q))) :=
    blk_map ks enc _ (by simp [bd_ok, lf_some, cl_ok, a_ret, a_op, a_un, a_test, a_and, a_or, a_not, a_andV, a_orV, a_notV, a_if, a_sif, a_nil, a_cons, a_star, a_list, a_tup, a_sized, a_call, a_built, a_seq, a_set, a_own, a_sret, a_next, a_isi, a_slice, a_part, a_nopart, a_range, a_seqS, a_varP, a_par2, a_xp, a_xo, a_xn, a_asg, a_make, a_chg, a_ixO, a_lenO, a_cntO, items_lst, items_tup, sizeOk, boolD, cmpD, slOf, intOf_int, len_encL, ans_rt, a_fn, List.replicate]; rfl) (by omega) rfl fun q _ => by
      have b := blk_sel (v := 4) (src := mSeqS (mVar 2)) (test := mTest (mOp eqD (mVar 4) (mVar 5))) (elt := mVar 4) (ρ := [.pur (.int n), .pur d, .pur (.list (encL ks)), .no, .no, .pur (enc q), .no, .no]) ks enc (fun x => decide (x = q)) enc (by simp [bd_ok, lf_some, cl_ok, a_ret, a_op, a_un, a_test, a_and, a_or, a_not, a_andV, a_orV, a_notV, a_if, a_sif, a_nil, a_cons, a_star, a_list, a_tup, a_sized, a_call, a_built, a_seq, a_set, a_own, a_sret, a_next, a_isi, a_slice, a_part, a_nopart, a_range, a_seqS, a_varP, a_par2, a_xp, a_xo, a_xn, a_asg, a_make, a_chg, a_ixO, a_lenO, a_cntO, items_lst, items_tup, sizeOk, boolD, cmpD, slOf, intOf_int, len_encL, ans_rt, a_fn, List.replicate]; rfl) (by omega) rfl (fun x _ => by simp [bd_ok, lf_some, cl_ok, a_ret, a_op, a_un, a_test, a_and, a_or, a_not, a_andV, a_orV, a_notV, a_if, a_sif, a_nil, a_cons, a_star, a_list, a_tup, a_sized, a_call, a_built, a_seq, a_set, a_own, a_sret, a_next, a_isi, a_slice, a_part, a_nopart, a_range, a_seqS, a_varP, a_par2, a_xp, a_xo, a_xn, a_asg, a_make, a_chg, a_ixO, a_lenO, a_cntO, items_lst, items_tup, sizeOk, boolD, cmpD, slOf, intOf_int, len_encL, ans_rt, a_fn, List.replicate, eq_enc]) fun x _ _ => by simp [bd_ok, lf_some, cl_ok, a_ret, a_op, a_un, a_test, a_and, a_or, a_not, a_andV, a_orV, a_notV, a_if, a_sif, a_nil, a_cons, a_star, a_list, a_tup, a_sized, a_call, a_built, a_seq, a_set, a_own, a_sret, a_next, a_isi, a_slice, a_part, a_nopart, a_range, a_seqS, a_varP, a_par2, a_xp, a_xo, a_xn, a_asg, a_make, a_chg, a_ixO, a_lenO, a_cntO, items_lst, items_tup, sizeOk, boolD, cmpD, slOf, intOf_int, len_encL, ans_rt, a_fn, List.replicate]
      simp [bd_ok, lf_some, cl_ok, a_ret, a_op, a_un, a_test, a_and, a_or, a_not, a_andV, a_orV, a_notV, a_if, a_sif, a_nil, a_cons, a_star, a_list, a_tup, a_sized, a_call, a_built, a_seq, a_set, a_own, a_sret, a_next, a_isi, a_slice, a_part, a_nopart, a_range, a_seqS, a_varP, a_par2, a_xp, a_xo, a_xn, a_asg, a_make, a_chg, a_ixO, a_lenO, a_cntO, items_lst, items_tup, sizeOk, boolD, cmpD, slOf, intOf_int, len_encL, ans_rt, a_fn, List.replicate, b, lenD, natD, cntR]
  have j0 : ixD (.list (ks.map fun q => natD (cntR ks q))) (.int 0) = some (.int 1) := by
    refine (ix_lst (z := 0) (i := 0) rfl (by simp; omega)).trans ?_
    have := g.c0
    rw [at0_lt (by omega)] at this
    simp [natD, this]
  have jl : ixD (.list (ks.map fun q => natD (cntR ks q))) (.int (-1)) = some (.int 1) := by
    have ne : (ks.map fun q => natD (cntR ks q)) ≠ [] := fun z => by have := congrArg List.length z; simp at this; subst this; simp at h2
    have e := atI_last ne
    refine Eq.trans (show _ = L2.atI (ks.map fun q => natD (cntR ks q)) (-1) from rfl) (e.trans ?_)
    have := g.cl
    rw [at0_lt (by omega)] at this
    simp [List.getLast_eq_getElem, natD, this]
  have sl : slD (some 1) (some (-1)) (.list (ks.map fun q => natD (cntR ks q))) = some (.list (((ks.drop 1).take (ks.length - 2)).map fun q => natD (cntR ks q))) := by
    have s1 : HT.sIx ks.length 0 (some 1) = 1 := by rw [show (1 : Int) = ((1 : Nat) : Int) from rfl, HT.sIx_nat]; omega
    have s2 : HT.sIx ks.length ks.length (some (-1)) = ks.length - 1 := by
      show (if (-1 : Int) < 0 then (-1 + (ks.length : Int)).toNat else min (-1 : Int).toNat ks.length) = _
      rw [if_pos (by decide)]
      omega
    simp only [slD, cutD, List.length_map, s1, s2, List.map_take, List.map_drop]
    rw [show ks.length - 1 - 1 = ks.length - 2 by omega]
  have b4 : mBlk [7] (mSeqS (mSlice (mVar 3) (mPart (mRet (.int 1))) (mPart (mUn negD (mRet (.int 1)))))) (lcBody [7] (gSet 7) (mRet true) (mOp (cmpD leI) (mVar 7) (mVar 0))) [.pur (.int n), .pur d, .pur (.list (encL ks)), .pur (.list (ks.map fun q => natD (cntR ks q))), .no, .no, .no, .no] = some (.ok ([.pur (.int n), .pur d, .pur (.list (encL ks)), .pur (.list (ks.map fun q => natD (cntR ks q))), .no, .no, .no, .no], ((ks.drop 1).take (ks.length - 2)).map fun q => .bool (leI (cntR ks q : Nat) n))) :=
    blk_map ((ks.drop 1).take (ks.length - 2)) (fun q => natD (cntR ks q)) _ (by simp [bd_ok, lf_some, cl_ok, a_ret, a_op, a_un, a_test, a_and, a_or, a_not, a_andV, a_orV, a_notV, a_if, a_sif, a_nil, a_cons, a_star, a_list, a_tup, a_sized, a_call, a_built, a_seq, a_set, a_own, a_sret, a_next, a_isi, a_slice, a_part, a_nopart, a_range, a_seqS, a_varP, a_par2, a_xp, a_xo, a_xn, a_asg, a_make, a_chg, a_ixO, a_lenO, a_cntO, items_lst, items_tup, sizeOk, boolD, cmpD, slOf, intOf_int, len_encL, ans_rt, a_fn, List.replicate, negD, sl]) (by simp; omega) rfl fun q hq => by simp [bd_ok, lf_some, cl_ok, a_ret, a_op, a_un, a_test, a_and, a_or, a_not, a_andV, a_orV, a_notV, a_if, a_sif, a_nil, a_cons, a_star, a_list, a_tup, a_sized, a_call, a_built, a_seq, a_set, a_own, a_sret, a_next, a_isi, a_slice, a_part, a_nopart, a_range, a_seqS, a_varP, a_par2, a_xp, a_xo, a_xn, a_asg, a_make, a_chg, a_ixO, a_lenO, a_cntO, items_lst, items_tup, sizeOk, boolD, cmpD, slOf, intOf_int, len_encL, ans_rt, a_fn, List.replicate, natD]
  have al := all_map (fun q => leI (cntR ks q : Nat) n) ((ks.drop 1).take (ks.length - 2))
  rw [List.all_eq_true.mpr (fun q hq => by
    obtain ⟨i, hi, rfl⟩ := List.getElem_of_mem hq
    simp at hi
    have c := g.ci (i + 1) (by omega) (by omega)
    rw [at0_lt (by omega)] at c
    rw [List.getElem_take, List.getElem_drop]
    simp only [Nat.add_comm 1 i]
    exact decide_eq_true (by omega))] at al
  generalize (ks.drop 1).take (ks.length - 2) = inn at b4 al
  have q1 : eqD (.int 1) (.int 1) = some (.bool true) := rfl
  simp [bd_ok, lf_some, cl_ok, a_ret, a_op, a_un, a_test, a_and, a_or, a_not, a_andV, a_orV, a_notV, a_if, a_sif, a_nil, a_cons, a_star, a_list, a_tup, a_sized, a_call, a_built, a_seq, a_set, a_own, a_sret, a_next, a_isi, a_slice, a_part, a_nopart, a_range, a_seqS, a_varP, a_par2, a_xp, a_xo, a_xn, a_asg, a_make, a_chg, a_ixO, a_lenO, a_cntO, items_lst, items_tup, sizeOk, boolD, cmpD, slOf, intOf_int, len_encL, ans_rt, a_fn, List.replicate, F_are_marks, g_are_marks, hd.isSeq, hd.len, l1, av, all_rep, g_are_marks_4, b1, g_are_marks_3, b2, an, g_are_marks_2, b3, g_are_marks_1, j0, q1, negD, jl, b4, al]
theorem bend_init (g : GoodM n ks) (hd : SeqOf d ks) (he : SeqOf e hs) (hk : ∀ q ∈ ks, Ht B q) (hh : ∀ q ∈ hs, Ht B q) (hB : B ≤ 1900) (hn : n < 1000) (lk : ks.length ≤ 200) (lh : hs.length ≤ 200) (hc : hs.length + 1 = n + ks.length) :
    I_Bend [.int n, d, e] = some (.ok [(.str "degree", .int n), (.str "marks", .tuple (encL ks)), (.str "handles", .tuple (encL hs)), (.str "text", .str (textB n ks hs))]) := by
  have l1 : ltI (n : Int) 0 = false := decide_eq_false (by omega)
  have am := are_marks_enc g hd hk (by omega) (by omega)
  have b1 := values_blk (v := 4) (i := 3) (ρ := [.no, .pur (.int n), .pur d, .pur e, .no]) he.items rfl (by omega) rfl (by simp)
  have b2 := of_blk (v := 4) (i := 2) (ρ := [.no, .pur (.int n), .pur d, .pur e, .no]) hd.items rfl (by omega) rfl (by simp)
  have b3 := of_blk (v := 4) (i := 3) (ρ := [.no, .pur (.int n), .pur d, .pur e, .no]) he.items rfl (by omega) rfl (by simp)
  have ne : neD (.int (hs.length : Int)) (.int ((n : Int) + ks.length - 1)) = some (.bool false) := by
    simp [neD]
    omega
  have tx := text_bend_enc hk hh hB hn lk lh
  have t1 : mOr (mNot (mTest (mCall F_is_integer (mCons (mVar 1) (mNil))))) (mTest (mOp (cmpD ltI) (mVar 1) (mRet (.int 0)))) [.no, .pur (.int n), .pur d, .pur e, .no] = some (.ok ([.no, .pur (.int n), .pur d, .pur e, .no], false)) := by
    simp [bd_ok, lf_some, cl_ok, a_ret, a_op, a_un, a_test, a_and, a_or, a_not, a_andV, a_orV, a_notV, a_if, a_sif, a_nil, a_cons, a_star, a_list, a_tup, a_sized, a_call, a_built, a_seq, a_set, a_own, a_sret, a_next, a_isi, a_slice, a_part, a_nopart, a_range, a_seqS, a_varP, a_par2, a_xp, a_xo, a_xn, a_asg, a_make, a_chg, a_ixO, a_lenO, a_cntO, items_lst, items_tup, sizeOk, boolD, cmpD, slOf, intOf_int, len_encL, ans_rt, a_fn, List.replicate, is_integer_int, l1]
  have t2 : mNot (mTest (mCall F_are_marks (mCons (mVar 1) (mCons (mVar 2) (mNil))))) [.no, .pur (.int n), .pur d, .pur e, .no] = some (.ok ([.no, .pur (.int n), .pur d, .pur e, .no], false)) := by
    simp [bd_ok, lf_some, cl_ok, a_ret, a_op, a_un, a_test, a_and, a_or, a_not, a_andV, a_orV, a_notV, a_if, a_sif, a_nil, a_cons, a_star, a_list, a_tup, a_sized, a_call, a_built, a_seq, a_set, a_own, a_sret, a_next, a_isi, a_slice, a_part, a_nopart, a_range, a_seqS, a_varP, a_par2, a_xp, a_xo, a_xn, a_asg, a_make, a_chg, a_ixO, a_lenO, a_cntO, items_lst, items_tup, sizeOk, boolD, cmpD, slOf, intOf_int, len_encL, ans_rt, a_fn, List.replicate, am]
  have t3 : mOr (mNot (mTest (mCall F_is_sequence (mCons (mVar 3) (mNil))))) (mNot (mTest (mBuilt allD (mCons (mList (mBlk [4] (mSeqS (mVar 3)) (lcBody [4] (gSet 4) (mRet true) (mCall F_is_value (mCons (mVar 4) (mNil)))))) (mNil))))) [.no, .pur (.int n), .pur d, .pur e, .no] = some (.ok ([.no, .pur (.int n), .pur d, .pur e, .no], false)) := by
    simp [bd_ok, lf_some, cl_ok, a_ret, a_op, a_un, a_test, a_and, a_or, a_not, a_andV, a_orV, a_notV, a_if, a_sif, a_nil, a_cons, a_star, a_list, a_tup, a_sized, a_call, a_built, a_seq, a_set, a_own, a_sret, a_next, a_isi, a_slice, a_part, a_nopart, a_range, a_seqS, a_varP, a_par2, a_xp, a_xo, a_xn, a_asg, a_make, a_chg, a_ixO, a_lenO, a_cntO, items_lst, items_tup, sizeOk, boolD, cmpD, slOf, intOf_int, len_encL, ans_rt, a_fn, List.replicate, he.isSeq, b1, all_rep]
  have t4 : mTest (mOp neD (mBuilt lenD (mCons (mVar 3) (mNil))) (mOp subD (mOp addD (mVar 1) (mBuilt lenD (mCons (mVar 2) (mNil)))) (mRet (.int 1)))) [.no, .pur (.int n), .pur d, .pur e, .no] = some (.ok ([.no, .pur (.int n), .pur d, .pur e, .no], false)) := by
    simp [bd_ok, lf_some, cl_ok, a_ret, a_op, a_un, a_test, a_and, a_or, a_not, a_andV, a_orV, a_notV, a_if, a_sif, a_nil, a_cons, a_star, a_list, a_tup, a_sized, a_call, a_built, a_seq, a_set, a_own, a_sret, a_next, a_isi, a_slice, a_part, a_nopart, a_range, a_seqS, a_varP, a_par2, a_xp, a_xo, a_xn, a_asg, a_make, a_chg, a_ixO, a_lenO, a_cntO, items_lst, items_tup, sizeOk, boolD, cmpD, slOf, intOf_int, len_encL, ans_rt, a_fn, List.replicate, he.len, hd.len, addD, subD, ne]
  have m2 : mBuilt tupleD (mCons (mList (mBlk [4] (mSeqS (mVar 2)) (lcBody [4] (gSet 4) (mRet true) (mCall F_value_of (mCons (mVar 4) (mNil)))))) (mNil)) [.no, .pur (.int n), .pur d, .pur e, .no] = some (.ok ([.no, .pur (.int n), .pur d, .pur e, .no], .tuple (encL ks))) := by
    simp [bd_ok, lf_some, cl_ok, a_ret, a_op, a_un, a_test, a_and, a_or, a_not, a_andV, a_orV, a_notV, a_if, a_sif, a_nil, a_cons, a_star, a_list, a_tup, a_sized, a_call, a_built, a_seq, a_set, a_own, a_sret, a_next, a_isi, a_slice, a_part, a_nopart, a_range, a_seqS, a_varP, a_par2, a_xp, a_xo, a_xn, a_asg, a_make, a_chg, a_ixO, a_lenO, a_cntO, items_lst, items_tup, sizeOk, boolD, cmpD, slOf, intOf_int, len_encL, ans_rt, a_fn, List.replicate, b2, tupleD]
  have m3 : mBuilt tupleD (mCons (mList (mBlk [4] (mSeqS (mVar 3)) (lcBody [4] (gSet 4) (mRet true) (mCall F_value_of (mCons (mVar 4) (mNil)))))) (mNil)) [.no, .pur (.int n), .pur d, .pur e, .no] = some (.ok ([.no, .pur (.int n), .pur d, .pur e, .no], .tuple (encL hs))) := by
    simp [bd_ok, lf_some, cl_ok, a_ret, a_op, a_un, a_test, a_and, a_or, a_not, a_andV, a_orV, a_notV, a_if, a_sif, a_nil, a_cons, a_star, a_list, a_tup, a_sized, a_call, a_built, a_seq, a_set, a_own, a_sret, a_next, a_isi, a_slice, a_part, a_nopart, a_range, a_seqS, a_varP, a_par2, a_xp, a_xo, a_xn, a_asg, a_make, a_chg, a_ixO, a_lenO, a_cntO, items_lst, items_tup, sizeOk, boolD, cmpD, slOf, intOf_int, len_encL, ans_rt, a_fn, List.replicate, b3, tupleD]
  have p1 : ∀ a : D, putK "degree" a [] = [(.str "degree", a)] := fun _ => rfl
  have p2 : ∀ a b : D, putK "marks" b [(.str "degree", a)] = [(.str "degree", a), (.str "marks", b)] := fun _ _ => rfl
  have p3 : ∀ a b c : D, putK "handles" c [(.str "degree", a), (.str "marks", b)] = [(.str "degree", a), (.str "marks", b), (.str "handles", c)] := fun _ _ _ => rfl
  have p4 : ∀ a b c f : D, putK "text" f [(.str "degree", a), (.str "marks", b), (.str "handles", c)] = [(.str "degree", a), (.str "marks", b), (.str "handles", c), (.str "text", f)] := fun _ _ _ _ => rfl
  have fm : ∀ a b c : D, fldIn "marks" [(.str "degree", a), (.str "marks", b), (.str "handles", c)] = some b := fun _ _ _ => rfl
  have fh : ∀ a b c : D, fldIn "handles" [(.str "degree", a), (.str "marks", b), (.str "handles", c)] = some c := fun _ _ _ => rfl
  have tc : oCall F_text_of_bend (oCons (fun _ => mVar 1) (oCons (fun kvs => pureF (fldIn "marks" kvs)) (oCons (fun kvs => pureF (fldIn "handles" kvs)) (fun _ => mNil)))) [(.str "degree", .int n), (.str "marks", .tuple (encL ks)), (.str "handles", .tuple (encL hs))] [.no, .pur (.int n), .pur d, .pur e, .no] = some (.ok ([.no, .pur (.int n), .pur d, .pur e, .no], .str (textB n ks hs))) := by
    simp only [oCall, a_call, oCons, mBind, mVar, pureF, mLift, mNil, mRet, List.getElem?_cons_succ, List.getElem?_cons_zero, fm, fh, bd_ok, tx, cl_ok]
  have n0 : Nat.blt ([] : List (D × D)).length 1000 = true := rfl
  have n1 : ∀ x : D × D, Nat.blt [x].length 1000 = true := fun _ => rfl
  have n2 : ∀ x y : D × D, Nat.blt [x, y].length 1000 = true := fun _ _ => rfl
  have n3 : ∀ x y z : D × D, Nat.blt [x, y, z].length 1000 = true := fun _ _ _ => rfl
  have e0 : I_Bend [.int n, d, e] = (match g_Bend_init [] [.no, .pur (.int n), .pur d, .pur e, .no] with
    | none => none
    | some (.error y) => some (.error y)
    | some (.ok (_, kvs)) => some (.ok kvs) : Option (Except Exn (List (D × D)))) := rfl
  rw [e0]
  unfold g_Bend_init
  simp only [oIf, t1, t2, t3, t4, oPut, m2, m3, mVar, List.getElem?_cons_succ, List.getElem?_cons_zero, p1, p2, p3, p4, n0, n1, n2, n3, tc, oEnd]
end
end HB
namespace HB
open PySem L2
section
variable {a b : Rat} {A B : Nat}
theorem pow_le9 {k : Nat} (h : k ≤ 900000) {n : Nat} (hn : n < 2 ^ k) : n < 2 ^ 900000 := Nat.lt_of_lt_of_le hn (Nat.pow_le_pow_right (by decide) h)
theorem law_add_enc (ha : Ht A a) (hb : Ht B b) (h : A + B ≤ 9000) : F_law_add [enc a, enc b] = some (.ok (enc (a + b))) := by
  have f1 : mulFit a.num b.den = true := fit_by ha.1 (by simpa using hb.2) ha.pos hb.pos (by omega)
  have f2 : mulFit b.num a.den = true := fit_by hb.1 (by simpa using ha.2) hb.pos ha.pos (by omega)
  have f3 : mulFit a.den b.den = true := fit_by (by simpa using ha.2) (by simpa using hb.2) ha.pos hb.pos (by omega)
  have x : (a.num * b.den).natAbs < 2 ^ (A + B) := by rw [Int.natAbs_mul, den_abs]; exact prod_lt ha.1 hb.2
  have y : (b.num * a.den).natAbs < 2 ^ (A + B) := by rw [Int.natAbs_mul, den_abs, Nat.add_comm]; exact prod_lt hb.1 ha.2
  have e : 2 ^ (A + B + 1) = 2 ^ (A + B) + 2 ^ (A + B) := by rw [Nat.pow_succ]; omega
  have z : (a.num * b.den + b.num * a.den).natAbs < 2 ^ (A + B + 1) := by
    have := Int.natAbs_add_le (a.num * b.den) (b.num * a.den)
    omega
  have l := law_fr_enc (t := a.num * b.den + b.num * a.den) (b := (a.den : Int) * b.den) (pow_le9 (by omega) z) (Int.mul_ne_zero (den_ne a) (den_ne b)) (Nat.lt_of_lt_of_le (dens_lt ha hb) (Nat.pow_le_pow_right (by decide) h))
  rw [← add_divInt] at l
  rw [← l]
  simp [bd_ok, lf_some, cl_ok, a_ret, a_op, a_un, a_test, a_and, a_or, a_not, a_andV, a_orV, a_notV, a_if, a_sif, a_nil, a_cons, a_star, a_list, a_tup, a_sized, a_call, a_built, a_seq, a_set, a_own, a_sret, a_next, a_isi, a_slice, a_part, a_nopart, a_range, a_seqS, a_varP, a_par2, a_xp, a_xo, a_xn, a_asg, a_make, a_chg, a_ixO, a_lenO, a_cntO, items_lst, items_tup, sizeOk, boolD, cmpD, slOf, intOf_int, len_encL, ans_rt, a_fn, List.replicate, F_law_add, g_law_add, enc, ix0, ix1, mul_of f1, mul_of f2, mul_of f3, addD, l]
theorem law_sub_enc (ha : Ht A a) (hb : Ht B b) (h : A + B ≤ 9000) : F_law_sub [enc a, enc b] = some (.ok (enc (a - b))) := by
  have f1 : mulFit a.num b.den = true := fit_by ha.1 (by simpa using hb.2) ha.pos hb.pos (by omega)
  have f2 : mulFit b.num a.den = true := fit_by hb.1 (by simpa using ha.2) hb.pos ha.pos (by omega)
  have f3 : mulFit a.den b.den = true := fit_by (by simpa using ha.2) (by simpa using hb.2) ha.pos hb.pos (by omega)
  have x : (a.num * b.den).natAbs < 2 ^ (A + B) := by rw [Int.natAbs_mul, den_abs]; exact prod_lt ha.1 hb.2
  have y : (b.num * a.den).natAbs < 2 ^ (A + B) := by rw [Int.natAbs_mul, den_abs, Nat.add_comm]; exact prod_lt hb.1 ha.2
  have e : 2 ^ (A + B + 1) = 2 ^ (A + B) + 2 ^ (A + B) := by rw [Nat.pow_succ]; omega
  have z : (a.num * b.den - b.num * a.den).natAbs < 2 ^ (A + B + 1) := by
    have := Int.natAbs_add_le (a.num * b.den) (-(b.num * a.den))
    rw [Int.natAbs_neg] at this
    rw [Int.sub_eq_add_neg]
    omega
  have eq : a - b = Rat.divInt (a.num * b.den - b.num * a.den) (a.den * b.den) := by
    have e1 := Rat.divInt_add_divInt a.num (-b.num) (den_ne a) (den_ne b)
    rw [Rat.num_divInt_den, ← Rat.neg_divInt, Rat.num_divInt_den, Int.neg_mul] at e1
    rw [Rat.sub_eq_add_neg, e1]
    rfl
  have l := law_fr_enc (t := a.num * b.den - b.num * a.den) (b := (a.den : Int) * b.den) (pow_le9 (by omega) z) (Int.mul_ne_zero (den_ne a) (den_ne b)) (Nat.lt_of_lt_of_le (dens_lt ha hb) (Nat.pow_le_pow_right (by decide) h))
  rw [← eq] at l
  rw [← l]
  simp [bd_ok, lf_some, cl_ok, a_ret, a_op, a_un, a_test, a_and, a_or, a_not, a_andV, a_orV, a_notV, a_if, a_sif, a_nil, a_cons, a_star, a_list, a_tup, a_sized, a_call, a_built, a_seq, a_set, a_own, a_sret, a_next, a_isi, a_slice, a_part, a_nopart, a_range, a_seqS, a_varP, a_par2, a_xp, a_xo, a_xn, a_asg, a_make, a_chg, a_ixO, a_lenO, a_cntO, items_lst, items_tup, sizeOk, boolD, cmpD, slOf, intOf_int, len_encL, ans_rt, a_fn, List.replicate, F_law_sub, g_law_sub, enc, ix0, ix1, mul_of f1, mul_of f2, mul_of f3, subD, l]
theorem law_mul_enc (ha : Ht A a) (hb : Ht B b) (h : A + B ≤ 9000) : F_law_mul [enc a, enc b] = some (.ok (enc (a * b))) := by
  have f1 : mulFit a.num b.num = true := fit_by ha.1 hb.1 ha.pos hb.pos (by omega)
  have f3 : mulFit a.den b.den = true := fit_by (by simpa using ha.2) (by simpa using hb.2) ha.pos hb.pos (by omega)
  have x : (a.num * b.num).natAbs < 2 ^ (A + B) := by rw [Int.natAbs_mul]; exact prod_lt ha.1 hb.1
  have l := law_fr_enc (t := a.num * b.num) (b := (a.den : Int) * b.den) (pow_le9 (by omega) x) (Int.mul_ne_zero (den_ne a) (den_ne b)) (Nat.lt_of_lt_of_le (dens_lt ha hb) (Nat.pow_le_pow_right (by decide) h))
  rw [← mul_divInt] at l
  rw [← l]
  simp [bd_ok, lf_some, cl_ok, a_ret, a_op, a_un, a_test, a_and, a_or, a_not, a_andV, a_orV, a_notV, a_if, a_sif, a_nil, a_cons, a_star, a_list, a_tup, a_sized, a_call, a_built, a_seq, a_set, a_own, a_sret, a_next, a_isi, a_slice, a_part, a_nopart, a_range, a_seqS, a_varP, a_par2, a_xp, a_xo, a_xn, a_asg, a_make, a_chg, a_ixO, a_lenO, a_cntO, items_lst, items_tup, sizeOk, boolD, cmpD, slOf, intOf_int, len_encL, ans_rt, a_fn, List.replicate, F_law_mul, g_law_mul, enc, ix0, ix1, mul_of f1, mul_of f3, l]
theorem law_below_enc (ha : Ht A a) (hb : Ht B b) (h : A + B ≤ 9000) : F_law_below [enc a, enc b] = some (.ok (.bool (decide (a < b)))) := by
  have f1 : mulFit a.num b.den = true := fit_by ha.1 (by simpa using hb.2) ha.pos hb.pos (by omega)
  have f2 : mulFit b.num a.den = true := fit_by hb.1 (by simpa using ha.2) hb.pos ha.pos (by omega)
  simp [bd_ok, lf_some, cl_ok, a_ret, a_op, a_un, a_test, a_and, a_or, a_not, a_andV, a_orV, a_notV, a_if, a_sif, a_nil, a_cons, a_star, a_list, a_tup, a_sized, a_call, a_built, a_seq, a_set, a_own, a_sret, a_next, a_isi, a_slice, a_part, a_nopart, a_range, a_seqS, a_varP, a_par2, a_xp, a_xo, a_xn, a_asg, a_make, a_chg, a_ixO, a_lenO, a_cntO, items_lst, items_tup, sizeOk, boolD, cmpD, slOf, intOf_int, len_encL, ans_rt, a_fn, List.replicate, F_law_below, g_law_below, enc, ix0, ix1, mul_of f1, mul_of f2, ltI, Rat.lt_iff]
end
def ansX : Option (Except Exn (En × Fl)) → Option (Except Exn (List D × D))
  | some (.ok (ρ', .rt d)) => (match box0 ρ' with
    | some es => some (.ok (es, d))
    | none => none)
  | some (.ok (ρ', .nx)) => (match box0 ρ' with
    | some es => some (.ok (es, .none))
    | none => none)
  | _ => none
theorem ansX_rt (es : List D) (ρ : En) (d : D) : ansX (some (.ok (.box es :: ρ, .rt d))) = some (.ok (es, d)) := id rfl
theorem a_fnX {n m : Nat} {g : Mo Fl} {ds as : List D} (h : as.length = n) : guardX n (runX m g) ds as = ansX (g (.box ds :: (as.map Sl.pur ++ List.replicate (m - as.length) .no))) := by
  unfold guardX
  rw [show Nat.beq as.length n = true by rw [h]; exact Nat.beq_refl n]
  rfl
/-- in sixths, not greater than M of them -/
def Grid (N M : Nat) (q : Rat) : Prop := Bd N M q
def Small (m : Nat) (q : Rat) : Prop := ∃ t d : Int, (d = 1 ∨ d = 2 ∨ d = 3) ∧ -(m : Int) ≤ t ∧ t ≤ m ∧ q = Rat.divInt t d
theorem small_run {b : List D} {m : Int} {most : Nat} (hb : Bx b m) (hm : m < 100000000000) (h : most ≤ 1000) : ∃ b' q, F_law_small b [.int most] = some (.ok (b', enc q)) ∧ Bx b' (m + 2) ∧ Small most q := by
  obtain ⟨b1, r, h1, x1, r0, r1⟩ := take_run (n := 2 * (most : Int) + 1) hb (by omega) (by omega) (by omega)
  have h1' : F_law_take b [.int (2 * (most : Int) + 1)] = some (.ok (b1, .int r)) := h1
  obtain ⟨b2, d, h2, x2, hd⟩ := pick_run (items := [.int 1, .int 1, .int 1, .int 2, .int 3]) x1 (by omega) (by decide) (by decide)
  have h2' : F_law_pick b1 [.list [.int 1, .int 1, .int 1, .int 2, .int 3]] = some (.ok (b2, d)) := h2
  have hd' : ∃ z : Int, d = .int z ∧ (z = 1 ∨ z = 2 ∨ z = 3) := by
    simp only [List.mem_cons, List.not_mem_nil, or_false] at hd
    rcases hd with rfl | rfl | rfl | rfl | rfl
    · exact ⟨_, rfl, .inl rfl⟩
    · exact ⟨_, rfl, .inl rfl⟩
    · exact ⟨_, rfl, .inl rfl⟩
    · exact ⟨_, rfl, .inr (.inl rfl)⟩
    · exact ⟨_, rfl, .inr (.inr rfl)⟩
  obtain ⟨z, rfl, hz⟩ := hd'
  have hf : F_law_fr [.int (r - most), .int z] = _ := law_fr_enc (pow_le9 (k := 20) (by decide) (by omega)) (by omega) (Nat.lt_of_lt_of_le (show z.natAbs < 2 ^ 2 by omega) (Nat.pow_le_pow_right (by decide) (by decide)))
  have mf : mulD (.int 2) (.int (most : Int)) = some (.int (2 * (most : Int))) := mul_of (fit_of (by decide) (by omega))
  refine ⟨b2, _, ?_, x2.mono (by omega), r - most, z, hz, by omega, by omega, rfl⟩
  unfold F_law_small
  rw [a_fnX (by rfl)]
  simp [bd_ok, lf_some, cl_ok, a_ret, a_op, a_un, a_test, a_and, a_or, a_not, a_andV, a_orV, a_notV, a_if, a_sif, a_nil, a_cons, a_star, a_list, a_tup, a_sized, a_call, a_built, a_seq, a_set, a_own, a_sret, a_next, a_isi, a_slice, a_part, a_nopart, a_range, a_seqS, a_varP, a_par2, a_xp, a_xo, a_xn, a_asg, a_make, a_chg, a_ixO, a_lenO, a_cntO, items_lst, items_tup, sizeOk, boolD, cmpD, slOf, intOf_int, len_encL, ans_rt, a_fn, List.replicate, g_law_small, mf, addD, a_callX, atL, Sl.ls, Sl.put, h1', subD, g_law_small_1, h2', hf, ansX_rt]
end HB
namespace HB
open PySem L2
theorem cntR_snoc (fs : List Rat) (x q : Rat) : cntR (fs ++ [x]) q = cntR fs q + if x = q then 1 else 0 := by
  unfold cntR
  rw [List.filter_append, List.length_append]
  by_cases h : x = q <;> simp [h]
theorem at0_app {fs : List Rat} {x : Rat} {i : Nat} (h : i < fs.length) : at0 (fs ++ [x]) i = at0 fs i := by
  rw [at0_lt h, at0_lt (by simp; omega), List.getElem_append_left h]
theorem at0_new (fs : List Rat) (x : Rat) : at0 (fs ++ [x]) fs.length = x := by
  rw [at0_lt (by simp)]
  simp
theorem mem_at0 {fs : List Rat} {q : Rat} (h : q ∈ fs) : ∃ i, i < fs.length ∧ at0 fs i = q := by
  obtain ⟨i, hi, e⟩ := List.getElem_of_mem h
  exact ⟨i, hi, by rw [at0_lt hi, e]⟩
theorem at0_mem {fs : List Rat} {i : Nat} (h : i < fs.length) : at0 fs i ∈ fs := by
  rw [at0_lt h]
  exact List.getElem_mem h
abbrev lastR (fs : List Rat) : Rat := at0 fs (fs.length - 1)
structure MI (n : Nat) (fs : List Rat) : Prop where
  ne : 0 < fs.length
  asc : ∀ i, i + 1 < fs.length → at0 fs i ≤ at0 fs (i + 1)
  c0 : cntR fs (at0 fs 0) = 1
  st : 1 < fs.length → at0 fs 0 < at0 fs 1
  ci : ∀ i, 0 < i → i < fs.length → cntR fs (at0 fs i) ≤ n
theorem mono_of {fs : List Rat} (asc : ∀ i, i + 1 < fs.length → at0 fs i ≤ at0 fs (i + 1)) : ∀ i j, i ≤ j → j < fs.length → at0 fs i ≤ at0 fs j := by
  intro i j h
  induction h with
  | refl => intro _; exact Rat.le_refl
  | step _ ih =>
    intro hj
    exact Rat.le_trans (ih (by omega)) (asc _ hj)
theorem MI.le {n : Nat} {fs : List Rat} (h : MI n fs) {q : Rat} (hq : q ∈ fs) : q ≤ lastR fs := by
  obtain ⟨i, hi, rfl⟩ := mem_at0 hq
  exact mono_of h.asc i _ (by omega) (by omega)
theorem cnt_zero {fs : List Rat} {x : Rat} (h : ∀ q ∈ fs, q < x) : cntR fs x = 0 := by
  unfold cntR
  rw [List.length_eq_zero_iff, List.filter_eq_nil_iff]
  intro q hq
  have := h q hq
  simp
  grind
theorem MI.new {n : Nat} {fs : List Rat} {x : Rat} (h : MI n fs) (hx : lastR fs < x) (hn : 1 ≤ n) : MI n (fs ++ [x]) := by
  have lt : ∀ q ∈ fs, q < x := fun q hq => by have := h.le hq; grind
  have p := h.ne
  refine ⟨by simp, fun i hi => ?_, ?_, ?_, fun i h0 hi => ?_⟩
  · simp at hi
    rw [at0_app (by omega)]
    by_cases e : i + 1 < fs.length
    · rw [at0_app e]; exact h.asc i e
    · rw [show i + 1 = fs.length by omega, at0_new]
      have := lt _ (at0_mem (fs := fs) (i := i) (by omega))
      grind
  · rw [at0_app p, cntR_snoc, h.c0, if_neg (by have := lt _ (at0_mem p); grind)]
  · intro _
    rw [at0_app p]
    by_cases e : 1 < fs.length
    · rw [at0_app e]; exact h.st e
    · rw [show 1 = fs.length by omega, at0_new]; exact lt _ (at0_mem p)
  · simp at hi
    by_cases e : i < fs.length
    · rw [at0_app e, cntR_snoc, if_neg (by have := lt _ (at0_mem e); grind)]
      exact h.ci i h0 e
    · rw [show i = fs.length by omega, at0_new, cntR_snoc, cnt_zero lt, if_pos rfl]
      omega
theorem MI.again {n : Nat} {fs : List Rat} (h : MI n fs) (h1 : 1 < fs.length) (hc : cntR fs (lastR fs) < n) : MI n (fs ++ [lastR fs]) := by
  have p := h.ne
  have ne0 : lastR fs ≠ at0 fs 0 := by
    have s1 := h.st h1
    have s2 := mono_of h.asc 1 (fs.length - 1) (by omega) (by omega)
    grind
  refine ⟨by simp, fun i hi => ?_, ?_, ?_, fun i h0 hi => ?_⟩
  · simp at hi
    rw [at0_app (by omega)]
    by_cases e : i + 1 < fs.length
    · rw [at0_app e]; exact h.asc i e
    · rw [show i + 1 = fs.length by omega, at0_new]
      exact h.le (at0_mem (by omega))
  · rw [at0_app p, cntR_snoc, h.c0, if_neg ne0]
  · intro _
    rw [at0_app p, at0_app h1]
    exact h.st h1
  · simp at hi
    have key : ∀ q, q = lastR fs ∨ cntR fs q ≤ n → cntR (fs ++ [lastR fs]) q ≤ n := fun q hq => by
      rw [cntR_snoc]
      split
      · rename_i e; subst e; omega
      · rcases hq with rfl | hq
        · rename_i e; exact absurd rfl e
        · omega
    by_cases e : i < fs.length
    · rw [at0_app e]; exact key _ (.inr (h.ci i h0 e))
    · rw [show i = fs.length by omega, at0_new]; exact key _ (.inl rfl)
theorem MI.good {n : Nat} {fs : List Rat} {x : Rat} (h : MI n fs) (hx : lastR fs < x) : GoodM n (fs ++ [x]) := by
  have lt : ∀ q ∈ fs, q < x := fun q hq => by have := h.le hq; grind
  have p := h.ne
  refine ⟨by simp; omega, fun i hi => ?_, ?_, ?_, fun i h0 hi => ?_⟩
  · simp at hi
    rw [at0_app (by omega)]
    by_cases e : i + 1 < fs.length
    · rw [at0_app e]; exact h.asc i e
    · rw [show i + 1 = fs.length by omega, at0_new]
      have := lt _ (at0_mem (fs := fs) (i := i) (by omega))
      grind
  · rw [at0_app p, cntR_snoc, h.c0, if_neg (by have := lt _ (at0_mem p); grind)]
  · rw [List.length_append, List.length_singleton, Nat.add_sub_cancel, at0_new, cntR_snoc, cnt_zero lt, if_pos rfl]
  · simp at hi
    rw [at0_app (by omega), cntR_snoc, if_neg (by have := lt _ (at0_mem (fs := fs) (i := i) (by omega)); grind)]
    exact h.ci i h0 (by omega)
end HB
namespace HB
open PySem L2
theorem canLay_encL : ∀ fs : List Rat, PyData.canLayAll0 (encL fs) = true
  | [] => rfl
  | q :: fs => by
    have ih := canLay_encL fs
    unfold encL at ih ⊢
    simp [PyData.canLayAll0, enc, PyData.canLay0, ih]
theorem depth_encL : ∀ fs : List Rat, PyData.depthAll (encL fs) ≤ 1
  | [] => by simp [encL, PyData.depthAll]
  | q :: fs => by
    have ih := depth_encL fs
    unfold encL at ih ⊢
    simp [PyData.depthAll, enc, PyData.depth]
    exact Nat.max_le.mpr ⟨Nat.le_refl _, ih⟩
theorem shaped_encL (fs : List Rat) : SeqAt.shaped (.list (encL fs)) = true := by
  have h1 := canLay_encL fs
  have h2 := depth_encL fs
  have e1 : PyData.canLay0 (.list (encL fs)) = true := by simp [PyData.canLay0, h1]
  have e2 : PyData.depth (.list (encL fs)) = PyData.depthAll (encL fs) + 1 := by simp [PyData.depth]
  unfold SeqAt.shaped
  rw [e1, e2, decide_eq_true (by omega)]
  rfl
theorem shaped_encT (fs : List Rat) : SeqAt.shaped (.tuple (encL fs)) = true := by
  have h1 := canLay_encL fs
  have h2 := depth_encL fs
  have e1 : PyData.canLay0 (.tuple (encL fs)) = true := by simp [PyData.canLay0, h1]
  have e2 : PyData.depth (.tuple (encL fs)) = PyData.depthAll (encL fs) + 1 := by simp [PyData.depth]
  unfold SeqAt.shaped
  rw [e1, e2, decide_eq_true (by omega)]
  rfl
theorem shaped_enc (q : Rat) : SeqAt.shaped (enc q) = true := by simp [enc, SeqAt.shaped, PyData.canLay0, PyData.canLayAll0, PyData.depth, PyData.depthAll]
theorem eqv_enc (a b : Rat) : PyData.eqv (enc a) (enc b) = decide (a = b) := by
  simp only [enc, PyData.eqv, PyData.eqvAll, rat_eq, Bool.and_true, Bool.decide_and]
  rw [Bool.eq_iff_iff]
  simp only [Bool.and_eq_true, beq_iff_eq, decide_eq_true_eq, Int.natCast_inj]
theorem cnt_enc (fs : List Rat) (q : Rat) : (encL fs).countP (fun z => PyData.eqv z (enc q)) = cntR fs q := by
  unfold encL cntR
  rw [List.countP_map, List.countP_eq_length_filter]
  congr 1
  apply List.filter_congr
  intro x _
  exact eqv_enc x q
theorem both_cnt (fs : List Rat) (q : Rat) : bothD (enc q) (.list (encL fs)) (.int ((encL fs).countP (fun z => PyData.eqv z (enc q)) : Nat)) = some (.int (cntR fs q : Nat)) := by
  unfold bothD
  rw [if_pos ⟨shaped_enc q, shaped_encL fs⟩, cnt_enc]
abbrev EnM (b : List D) (n most : Nat) (fs : List Rat) (x4 x5 x6 : Sl) : En := [.box b, .pur (.int n), .pur (.int most), .own (encL fs), x4, x5, x6]
def Stp (s : Rat) : Prop := 0 < s ∧ Bd 6 12 s
theorem stp_of {d : D} (h : d ∈ [PyData.tuple [.int 1, .int 1], .tuple [.int 1, .int 2], .tuple [.int 1, .int 3], .tuple [.int 2, .int 1]]) : ∃ s, d = enc s ∧ Stp s := by
  simp only [List.mem_cons, List.not_mem_nil, or_false] at h
  rcases h with rfl | rfl | rfl | rfl
  · exact ⟨1, rfl, by decide, by decide, 6, rfl, by decide⟩
  · exact ⟨Rat.divInt 1 2, rfl, by decide, by decide, 3, rfl, by decide⟩
  · exact ⟨Rat.divInt 1 3, rfl, by decide, by decide, 2, rfl, by decide⟩
  · exact ⟨2, rfl, by decide, by decide, 12, rfl, by decide⟩
theorem encL_snoc (fs : List Rat) (x : Rat) : encL (fs ++ [x]) = encL fs ++ [enc x] := by simp [encL]
theorem ix_last_own {fs : List Rat} (h : 0 < fs.length) : ixD (.list (encL fs)) (.int (-1)) = some (enc (lastR fs)) := ixL_last h
theorem app_ok {fs : List Rat} {x : D} (h : fs.length < 1000000) : appC (encL fs) [x] = some (encL fs ++ [x]) := by
  have sz : Nat.blt (encL fs).length 1000000 = true := Nat.ble_eq_true_of_le (by rw [len_encL]; exact h)
  simp [appC, sz]
theorem marks_end {b : List D} {n most M : Nat} {fs : List Rat} {s : Rat} {same : Bool} {x4 : Sl} (hI : MI n fs) (hg : ∀ q ∈ fs, Bd 6 M q) (hM : M < 100000) (hl : fs.length < 1000) (hs : Stp s) (hsame : same = true → 1 < fs.length ∧ cntR fs (lastR fs) < n) :
    ∃ fs', g_law_marks_1 (EnM b n most fs x4 (.pur (enc s)) (.pur (.bool same))) = some (.ok (EnM b n most fs' x4 (.pur (enc s)) (.pur (.bool same)), .nx)) ∧ MI n fs' ∧ (∀ q ∈ fs', Bd 6 (M + 12) q) ∧ fs'.length ≤ fs.length + 1 := by
  have p := hI.ne
  have hlast : Bd 6 M (lastR fs) := hg _ (at0_mem (by omega))
  have mono : ∀ q ∈ fs, Bd 6 (M + 12) q := fun q hq => (hg q hq).mono (by omega)
  by_cases h0 : n = 0
  · subst h0
    have g0 : gtI 0 0 = false := rfl
    refine ⟨fs, ?_, hI, mono, by omega⟩
    simp [bd_ok, lf_some, cl_ok, a_ret, a_op, a_un, a_test, a_and, a_or, a_not, a_andV, a_orV, a_notV, a_if, a_sif, a_nil, a_cons, a_star, a_list, a_tup, a_sized, a_call, a_built, a_seq, a_set, a_own, a_sret, a_next, a_isi, a_slice, a_part, a_nopart, a_range, a_seqS, a_varP, a_par2, a_xp, a_xo, a_xn, a_asg, a_make, a_chg, a_ixO, a_lenO, a_cntO, items_lst, items_tup, sizeOk, boolD, cmpD, slOf, intOf_int, len_encL, ans_rt, a_fn, List.replicate, g_law_marks_1, g0]
  · have g1 : gtI (n : Int) 0 = true := decide_eq_true (by omega)
    have h1 := ix_last_own p
    cases same with
    | true =>
      obtain ⟨y1, y2⟩ := hsame rfl
      refine ⟨fs ++ [lastR fs], ?_, hI.again y1 y2, fun q hq => ?_, by simp⟩
      · simp [bd_ok, lf_some, cl_ok, a_ret, a_op, a_un, a_test, a_and, a_or, a_not, a_andV, a_orV, a_notV, a_if, a_sif, a_nil, a_cons, a_star, a_list, a_tup, a_sized, a_call, a_built, a_seq, a_set, a_own, a_sret, a_next, a_isi, a_slice, a_part, a_nopart, a_range, a_seqS, a_varP, a_par2, a_xp, a_xo, a_xn, a_asg, a_make, a_chg, a_ixO, a_lenO, a_cntO, items_lst, items_tup, sizeOk, boolD, cmpD, slOf, intOf_int, len_encL, ans_rt, a_fn, List.replicate, encL_snoc, g_law_marks_1, g1, negD, h1, app_ok (fs := fs) (by omega)]
      · rcases (List.mem_append.mp hq : _ ∨ _) with hq | hq
        · exact mono q hq
        · rw [List.mem_singleton.mp hq]; exact hlast.mono (by omega)
    | false =>
      have ea := law_add_enc (hlast.ht (B := 20) (by decide) (by omega)) (hs.2.ht (B := 20) (by decide) (by decide)) (by decide)
      refine ⟨fs ++ [lastR fs + s], ?_, hI.new (by have := hs.1; grind) (by omega), fun q hq => ?_, by simp⟩
      · simp [bd_ok, lf_some, cl_ok, a_ret, a_op, a_un, a_test, a_and, a_or, a_not, a_andV, a_orV, a_notV, a_if, a_sif, a_nil, a_cons, a_star, a_list, a_tup, a_sized, a_call, a_built, a_seq, a_set, a_own, a_sret, a_next, a_isi, a_slice, a_part, a_nopart, a_range, a_seqS, a_varP, a_par2, a_xp, a_xo, a_xn, a_asg, a_make, a_chg, a_ixO, a_lenO, a_cntO, items_lst, items_tup, sizeOk, boolD, cmpD, slOf, intOf_int, len_encL, ans_rt, a_fn, List.replicate, encL_snoc, g_law_marks_1, g1, negD, h1, ea, app_ok (fs := fs) (by omega)]
      · rcases (List.mem_append.mp hq : _ ∨ _) with hq | hq
        · exact mono q hq
        · rw [List.mem_singleton.mp hq]; exact hlast.add hs.2
theorem marks_turn {b : List D} {m : Int} {n most M : Nat} {fs : List Rat} {x4 x5 x6 : Sl} (hb : Bx b m) (hm : m < 100000000000) (hI : MI n fs) (hg : ∀ q ∈ fs, Bd 6 M q) (hM : M < 100000) (hl : fs.length < 1000) :
    ∃ b' fs' y5 y6, g_law_marks_3 (EnM b n most fs x4 x5 x6) = some (.ok (EnM b' n most fs' x4 y5 y6, .nx)) ∧ Bx b' (m + 2) ∧ MI n fs' ∧ (∀ q ∈ fs', Bd 6 (M + 12) q) ∧ fs'.length ≤ fs.length + 1 := by
  have p := hI.ne
  obtain ⟨b1, d, h1, x1, hd⟩ := pick_run (items := [PyData.tuple [.int 1, .int 1], .tuple [.int 1, .int 2], .tuple [.int 1, .int 3], .tuple [.int 2, .int 1]]) hb (by omega) (by decide) (by decide)
  have h1' : F_law_pick b [.list [PyData.tuple [.int 1, .int 1], .tuple [.int 1, .int 2], .tuple [.int 1, .int 3], .tuple [.int 2, .int 1]]] = some (.ok (b1, d)) := h1
  obtain ⟨s, rfl, hs⟩ := stp_of hd
  have e1 : g_law_marks_3 (EnM b n most fs x4 x5 x6) = g_law_marks_2 (EnM b1 n most fs x4 (.pur (enc s)) x6) := by
    simp [bd_ok, lf_some, cl_ok, a_ret, a_op, a_un, a_test, a_and, a_or, a_not, a_andV, a_orV, a_notV, a_if, a_sif, a_nil, a_cons, a_star, a_list, a_tup, a_sized, a_call, a_built, a_seq, a_set, a_own, a_sret, a_next, a_isi, a_slice, a_part, a_nopart, a_range, a_seqS, a_varP, a_par2, a_xp, a_xo, a_xn, a_asg, a_make, a_chg, a_ixO, a_lenO, a_cntO, items_lst, items_tup, sizeOk, boolD, cmpD, slOf, intOf_int, len_encL, ans_rt, a_fn, List.replicate, g_law_marks_3, a_callX, atL, Sl.ls, Sl.put, h1']
  rw [e1]
  have il := ix_last_own p
  have bc := both_cnt fs (lastR fs)
  by_cases c1 : 1 < fs.length
  · have g1 : gtI (fs.length : Int) 1 = true := decide_eq_true (by omega)
    by_cases c2 : cntR fs (lastR fs) < n
    · have g2 : ltI (cntR fs (lastR fs) : Nat) (n : Int) = true := decide_eq_true (by omega)
      obtain ⟨b2, r, h2, x2, r0, r1⟩ := take_run (n := 3) x1 (by omega) (by decide) (by decide)
      have h2' : F_law_take b1 [.int 3] = some (.ok (b2, .int r)) := h2
      obtain ⟨fs', k1, k2, k3, k4⟩ := marks_end (b := b2) (most := most) (x4 := x4) (same := r == 0) hI hg hM hl hs fun _ => ⟨c1, c2⟩
      refine ⟨b2, fs', .pur (enc s), .pur (.bool (r == 0)), ?_, x2.mono (by omega), k2, k3, k4⟩
      rw [← k1]
      simp [bd_ok, lf_some, cl_ok, a_ret, a_op, a_un, a_test, a_and, a_or, a_not, a_andV, a_orV, a_notV, a_if, a_sif, a_nil, a_cons, a_star, a_list, a_tup, a_sized, a_call, a_built, a_seq, a_set, a_own, a_sret, a_next, a_isi, a_slice, a_part, a_nopart, a_range, a_seqS, a_varP, a_par2, a_xp, a_xo, a_xn, a_asg, a_make, a_chg, a_ixO, a_lenO, a_cntO, items_lst, items_tup, sizeOk, boolD, cmpD, slOf, intOf_int, len_encL, ans_rt, a_fn, List.replicate, g_law_marks_2, g1, negD, il, bc, g2, a_callX, atL, Sl.ls, Sl.put, h2', eqD]
    · have g2 : ltI (cntR fs (lastR fs) : Nat) (n : Int) = false := decide_eq_false (by omega)
      obtain ⟨fs', k1, k2, k3, k4⟩ := marks_end (b := b1) (most := most) (x4 := x4) (same := false) hI hg hM hl hs (by simp)
      refine ⟨b1, fs', .pur (enc s), .pur (.bool false), ?_, x1.mono (by omega), k2, k3, k4⟩
      rw [← k1]
      simp [bd_ok, lf_some, cl_ok, a_ret, a_op, a_un, a_test, a_and, a_or, a_not, a_andV, a_orV, a_notV, a_if, a_sif, a_nil, a_cons, a_star, a_list, a_tup, a_sized, a_call, a_built, a_seq, a_set, a_own, a_sret, a_next, a_isi, a_slice, a_part, a_nopart, a_range, a_seqS, a_varP, a_par2, a_xp, a_xo, a_xn, a_asg, a_make, a_chg, a_ixO, a_lenO, a_cntO, items_lst, items_tup, sizeOk, boolD, cmpD, slOf, intOf_int, len_encL, ans_rt, a_fn, List.replicate, g_law_marks_2, g1, negD, il, bc, g2]
  · have g1 : gtI (fs.length : Int) 1 = false := decide_eq_false (by omega)
    obtain ⟨fs', k1, k2, k3, k4⟩ := marks_end (b := b1) (most := most) (x4 := x4) (same := false) hI hg hM hl hs (by simp)
    refine ⟨b1, fs', .pur (enc s), .pur (.bool false), ?_, x1.mono (by omega), k2, k3, k4⟩
    rw [← k1]
    simp [bd_ok, lf_some, cl_ok, a_ret, a_op, a_un, a_test, a_and, a_or, a_not, a_andV, a_orV, a_notV, a_if, a_sif, a_nil, a_cons, a_star, a_list, a_tup, a_sized, a_call, a_built, a_seq, a_set, a_own, a_sret, a_next, a_isi, a_slice, a_part, a_nopart, a_range, a_seqS, a_varP, a_par2, a_xp, a_xo, a_xn, a_asg, a_make, a_chg, a_ixO, a_lenO, a_cntO, items_lst, items_tup, sizeOk, boolD, cmpD, slOf, intOf_int, len_encL, ans_rt, a_fn, List.replicate, g_law_marks_2, g1]
theorem first_of {d : D} (h : d ∈ [PyData.tuple [.int 0, .int 1], .tuple [.int 0, .int 1], .tuple [.int 1, .int 2], .tuple [.int (-1), .int 1]]) : ∃ s, d = enc s ∧ Bd 6 6 s := by
  simp only [List.mem_cons, List.not_mem_nil, or_false] at h
  rcases h with rfl | rfl | rfl | rfl
  · exact ⟨0, rfl, by decide, 0, rfl, by decide⟩
  · exact ⟨0, rfl, by decide, 0, rfl, by decide⟩
  · exact ⟨Rat.divInt 1 2, rfl, by decide, 3, rfl, by decide⟩
  · exact ⟨-1, rfl, by decide, -6, rfl, by decide⟩
theorem end_of {d : D} (h : d ∈ [PyData.tuple [.int 1, .int 1], .tuple [.int 1, .int 2], .tuple [.int 2, .int 1]]) : ∃ s, d = enc s ∧ Stp s := by
  simp only [List.mem_cons, List.not_mem_nil, or_false] at h
  rcases h with rfl | rfl | rfl
  · exact ⟨1, rfl, by decide, by decide, 6, rfl, by decide⟩
  · exact ⟨Rat.divInt 1 2, rfl, by decide, by decide, 3, rfl, by decide⟩
  · exact ⟨2, rfl, by decide, by decide, 12, rfl, by decide⟩
theorem MI.one (n : Nat) (q : Rat) : MI n [q] := ⟨by simp, fun i hi => by simp at hi, by simp [cntR, at0], fun h => by simp at h, fun i h0 hi => by simp at hi; omega⟩
theorem marks_run {b : List D} {m : Int} {n most : Nat} (hb : Bx b m) (hm : m < 10000000000) (h2 : 2 ≤ most) (h3 : most ≤ 100) : ∃ b' ks, F_law_marks b [.int n, .int most] = some (.ok (b', .list (encL ks))) ∧ Bx b' (m + 2 * most + 3) ∧ GoodM n ks ∧ (∀ q ∈ ks, Bd 6 (12 * most + 6) q) ∧ ks.length ≤ most := by
  obtain ⟨b1, d, h1, x1, hd⟩ := pick_run (items := [PyData.tuple [.int 0, .int 1], .tuple [.int 0, .int 1], .tuple [.int 1, .int 2], .tuple [.int (-1), .int 1]]) hb (by omega) (by decide) (by decide)
  have h1' : F_law_pick b [.list [PyData.tuple [.int 0, .int 1], .tuple [.int 0, .int 1], .tuple [.int 1, .int 2], .tuple [.int (-1), .int 1]]] = some (.ok (b1, d)) := h1
  obtain ⟨q0, rfl, hq0⟩ := first_of hd
  have e1 : g_law_marks [.box b, .pur (.int n), .pur (.int most), .no, .no, .no, .no] = g_law_marks_5 (EnM b1 n most [q0] .no .no .no) := by
    simp [bd_ok, lf_some, cl_ok, a_ret, a_op, a_un, a_test, a_and, a_or, a_not, a_andV, a_orV, a_notV, a_if, a_sif, a_nil, a_cons, a_star, a_list, a_tup, a_sized, a_call, a_built, a_seq, a_set, a_own, a_sret, a_next, a_isi, a_slice, a_part, a_nopart, a_range, a_seqS, a_varP, a_par2, a_xp, a_xo, a_xn, a_asg, a_make, a_chg, a_ixO, a_lenO, a_cntO, items_lst, items_tup, sizeOk, boolD, cmpD, slOf, intOf_int, len_encL, ans_rt, a_fn, List.replicate, g_law_marks, a_callX, atL, Sl.ls, Sl.put, subD, h1', encL]
    rfl
  obtain ⟨b2, r, t1, x2, r0, r1⟩ := take_run (n := (most : Int) - 1) x1 (by omega) (by omega) (by omega)
  have t1' : F_law_take b1 [.int ((most : Int) - 1)] = some (.ok (b2, .int r)) := t1
  have rg : range1D [.int r] = _ := range1_of r.toNat (by omega) (by omega)
  have src : mRange range1D (mCons (mCallX F_law_take 0 (mCons (mOp subD (mVar 2) (mRet (.int 1))) (mNil))) (mNil)) (EnM b1 n most [q0] .no .no .no) = some (.ok (EnM b2 n most [q0] .no .no .no, constS ((List.range' 0 r.toNat).map natD))) := by
    rw [← List.range_eq_range']
    simp [bd_ok, lf_some, cl_ok, a_ret, a_op, a_un, a_test, a_and, a_or, a_not, a_andV, a_orV, a_notV, a_if, a_sif, a_nil, a_cons, a_star, a_list, a_tup, a_sized, a_call, a_built, a_seq, a_set, a_own, a_sret, a_next, a_isi, a_slice, a_part, a_nopart, a_range, a_seqS, a_varP, a_par2, a_xp, a_xo, a_xn, a_asg, a_make, a_chg, a_ixO, a_lenO, a_cntO, items_lst, items_tup, sizeOk, boolD, cmpD, slOf, intOf_int, len_encL, ans_rt, a_fn, List.replicate, a_callX, atL, Sl.ls, Sl.put, subD, t1', rg]
  obtain ⟨ρ', l1, b3, fs, z4, z5, z6, l2, x3, hI, hg, hl⟩ := for_range (v := 4) (body := g_law_marks_3) 0 r.toNat (fun i ρ => ∃ b fs x4 x5 x6, ρ = EnM b n most fs x4 x5 x6 ∧ Bx b (m + 2 + 2 * i) ∧ MI n fs ∧ (∀ q ∈ fs, Bd 6 (6 + 12 * i) q) ∧ fs.length ≤ 1 + i) src ⟨_, _, _, _, _, rfl, x2.mono (by omega), .one n q0, by simpa using hq0, by simp⟩ fun i ρ _ hi ⟨b, fs, x4, x5, x6, hρ, hB, hI, hg, hl⟩ => by
    subst hρ
    obtain ⟨b', fs', y5, y6, k1, k2, k3, k4, k5⟩ := marks_turn (most := most) (x4 := .pur (natD i)) (x5 := x5) (x6 := x6) hB (by omega) hI hg (by omega) (by omega)
    exact ⟨_, .nx, k1, .inl rfl, b', fs', _, _, _, rfl, k2.mono (by omega), k3, fun q hq => (k4 q hq).mono (by omega), by omega⟩
  subst l2
  obtain ⟨b4, d4, p1, x4, hd4⟩ := pick_run (items := [PyData.tuple [.int 1, .int 1], .tuple [.int 1, .int 2], .tuple [.int 2, .int 1]]) x3 (by omega) (by decide) (by decide)
  have p1' : F_law_pick b3 [.list [PyData.tuple [.int 1, .int 1], .tuple [.int 1, .int 2], .tuple [.int 2, .int 1]]] = some (.ok (b4, d4)) := p1
  obtain ⟨s, rfl, hs⟩ := end_of hd4
  have hlast : Bd 6 (6 + 12 * (0 + r.toNat)) (lastR fs) := hg _ (at0_mem (by have := hI.ne; omega))
  have ea := law_add_enc (hlast.ht (B := 20) (by decide) (by omega)) (hs.2.ht (B := 20) (by decide) (by decide)) (by decide)
  have il := ix_last_own hI.ne
  have al : addD (.list (encL fs)) (.list [enc (lastR fs + s)]) = some (.list (encL (fs ++ [lastR fs + s]))) := by
    rw [encL_snoc]
    exact if_pos (by rw [len_encL]; simp; omega)
  refine ⟨b4, fs ++ [lastR fs + s], ?_, x4.mono (by omega), hI.good (by have := hs.1; grind), fun q hq => ?_, by simp; omega⟩
  · unfold F_law_marks
    rw [a_fnX (by rfl)]
    rw [show (PyData.int (n : Int) :: [PyData.int (most : Int)]).map Sl.pur ++ List.replicate (6 - [PyData.int (n : Int), .int (most : Int)].length) Sl.no = [.pur (.int n), .pur (.int most), .no, .no, .no, .no] from rfl, e1]
    unfold g_law_marks_5
    rw [a_seq, l1, bd_ok]
    simp [bd_ok, lf_some, cl_ok, a_ret, a_op, a_un, a_test, a_and, a_or, a_not, a_andV, a_orV, a_notV, a_if, a_sif, a_nil, a_cons, a_star, a_list, a_tup, a_sized, a_call, a_built, a_seq, a_set, a_own, a_sret, a_next, a_isi, a_slice, a_part, a_nopart, a_range, a_seqS, a_varP, a_par2, a_xp, a_xo, a_xn, a_asg, a_make, a_chg, a_ixO, a_lenO, a_cntO, items_lst, items_tup, sizeOk, boolD, cmpD, slOf, intOf_int, len_encL, ans_rt, a_fn, List.replicate, g_law_marks_4, negD, il, a_callX, atL, Sl.ls, Sl.put, p1', ea, al, ansX_rt]
  · rcases (List.mem_append.mp hq : _ ∨ _) with hq | hq
    · exact (hg q hq).mono (by omega)
    · rw [List.mem_singleton.mp hq]; exact (hlast.add hs.2).mono (by omega)
end HB
namespace HB
open PySem L2
theorem small_list {x1 x2 x3 x4 : Sl} : ∀ (items : List D) (b : List D) (m : Int), Bx b m → m + 2 * items.length < 100000000000 → ∃ b' qs, lcL [5] (gSet 5) (mRet true) (mCallX F_law_small 0 (mCons (mRet (.int 4)) (mNil))) items [.box b, x1, x2, x3, x4, .no] = some ([.box b', x1, x2, x3, x4, .no], encL qs) ∧ Bx b' (m + 2 * items.length) ∧ qs.length = items.length ∧ ∀ q ∈ qs, Small 4 q
  | [], b, m, hb, _ => ⟨b, [], rfl, by simpa using hb, rfl, by simp⟩
  | d :: items, b, m, hb, hm => by
    simp only [List.length_cons, Int.natCast_add, Int.natCast_one] at hm ⊢
    obtain ⟨b1, q, h1, h2, h3⟩ := small_run (most := 4) hb (by omega) (by decide)
    have h1' : F_law_small b [.int 4] = some (.ok (b1, enc q)) := h1
    obtain ⟨b', qs, k1, k2, k3, k4⟩ := small_list (x1 := x1) (x2 := x2) (x3 := x3) (x4 := x4) items b1 (m + 2) h2 (by omega)
    have e : mCallX F_law_small 0 (mCons (mRet (.int 4)) (mNil)) [.box b, x1, x2, x3, x4, .pur d] = some (.ok ([.box b1, x1, x2, x3, x4, .pur d], enc q)) := by
      simp [bd_ok, lf_some, cl_ok, a_ret, a_op, a_un, a_test, a_and, a_or, a_not, a_andV, a_orV, a_notV, a_if, a_sif, a_nil, a_cons, a_star, a_list, a_tup, a_sized, a_call, a_built, a_seq, a_set, a_own, a_sret, a_next, a_isi, a_slice, a_part, a_nopart, a_range, a_seqS, a_varP, a_par2, a_xp, a_xo, a_xn, a_asg, a_make, a_chg, a_ixO, a_lenO, a_cntO, items_lst, items_tup, sizeOk, boolD, cmpD, slOf, intOf_int, len_encL, ans_rt, a_fn, List.replicate, a_callX, atL, Sl.ls, Sl.put, h1']
    refine ⟨b', q :: qs, ?_, k2.mono (by omega), by simp [k3], fun x hx => ?_⟩
    · simp only [lcL, gSet, List.set, mRet, e, wipeE]
      rw [k1]
      rfl
    · rcases List.mem_cons.mp hx with rfl | hx
      · exact h3
      · exact k4 x hx
theorem drawn_run {b : List D} {m : Int} {dg most : Nat} (hb : Bx b m) (hm : m < 1000000000) (h2 : 2 ≤ most) (h3 : most ≤ 100) (hdg : dg ≤ 100) : ∃ b' n ks hs, F_law_drawn b [.int dg, .int most] = some (.ok (b', .tuple [.int (n : Nat), .list (encL ks), .list (encL hs)])) ∧ Bx b' (m + 1000) ∧ n ≤ dg ∧ GoodM n ks ∧ (∀ q ∈ ks, Bd 6 (12 * most + 6) q) ∧ ks.length ≤ most ∧ hs.length + 1 = n + ks.length ∧ ∀ q ∈ hs, Small 4 q := by
  obtain ⟨b1, r, h1, x1, r0, r1⟩ := take_run (n := (dg : Int) + 1) hb (by omega) (by omega) (by omega)
  obtain ⟨n, rfl⟩ : ∃ n : Nat, r = n := ⟨r.toNat, by omega⟩
  have h1' : F_law_take b [.int ((dg : Int) + 1)] = some (.ok (b1, .int n)) := h1
  obtain ⟨b2, ks, k1, x2, k2, k3, k4⟩ := marks_run (n := n) (most := most) x1 (by omega) h2 h3
  have kl := k2.len
  have rg : range1D [.int ((n : Int) + ks.length - 1)] = _ := range1_of (n + ks.length - 1) (by omega) (by omega)
  obtain ⟨b3, hs, l1, x3, l2, l3⟩ := small_list (x1 := .pur (.int dg)) (x2 := .pur (.int most)) (x3 := .pur (.int n)) (x4 := .pur (.list (encL ks))) ((List.range (n + ks.length - 1)).map natD) b2 _ x2 (by simp; omega)
  have bl : Nat.blt ((List.range (n + ks.length - 1)).map natD).length 1000000 = true := Nat.ble_eq_true_of_le (by simp; omega)
  have bk : mBlk [5] (mRange range1D (mCons (mOp subD (mOp addD (mVar 3) (mBuilt lenD (mCons (mVar 4) (mNil)))) (mRet (.int 1))) (mNil))) (lcBody [5] (gSet 5) (mRet true) (mCallX F_law_small 0 (mCons (mRet (.int 4)) (mNil)))) [.box b2, .pur (.int dg), .pur (.int most), .pur (.int n), .pur (.list (encL ks)), .no] = some (.ok ([.box b3, .pur (.int dg), .pur (.int most), .pur (.int n), .pur (.list (encL ks)), .no], encL hs)) := by
    have src : mRange range1D (mCons (mOp subD (mOp addD (mVar 3) (mBuilt lenD (mCons (mVar 4) (mNil)))) (mRet (.int 1))) (mNil)) [.box b2, .pur (.int dg), .pur (.int most), .pur (.int n), .pur (.list (encL ks)), .no] = some (.ok ([.box b2, .pur (.int dg), .pur (.int most), .pur (.int n), .pur (.list (encL ks)), .no], constS ((List.range (n + ks.length - 1)).map natD))) := by
      simp [bd_ok, lf_some, cl_ok, a_ret, a_op, a_un, a_test, a_and, a_or, a_not, a_andV, a_orV, a_notV, a_if, a_sif, a_nil, a_cons, a_star, a_list, a_tup, a_sized, a_call, a_built, a_seq, a_set, a_own, a_sret, a_next, a_isi, a_slice, a_part, a_nopart, a_range, a_seqS, a_varP, a_par2, a_xp, a_xo, a_xn, a_asg, a_make, a_chg, a_ixO, a_lenO, a_cntO, items_lst, items_tup, sizeOk, boolD, cmpD, slOf, intOf_int, len_encL, ans_rt, a_fn, List.replicate, lenD, addD, subD, rg]
    unfold mBlk mBind
    simp only [src, noOwn, lcBody, constS, bl]
    rw [show wipeE [Sl.box b2, .pur (.int dg), .pur (.int most), .pur (.int n), .pur (.list (encL ks)), .no] [5] = [.box b2, .pur (.int dg), .pur (.int most), .pur (.int n), .pur (.list (encL ks)), .no] from rfl, l1]
    rfl
  refine ⟨b3, n, ks, hs, ?_, x3.mono (by simp; omega), by omega, k2, k3, k4, by rw [l2]; simp; omega, l3⟩
  unfold F_law_drawn
  rw [a_fnX (by rfl)]
  simp [bd_ok, lf_some, cl_ok, a_ret, a_op, a_un, a_test, a_and, a_or, a_not, a_andV, a_orV, a_notV, a_if, a_sif, a_nil, a_cons, a_star, a_list, a_tup, a_sized, a_call, a_built, a_seq, a_set, a_own, a_sret, a_next, a_isi, a_slice, a_part, a_nopart, a_range, a_seqS, a_varP, a_par2, a_xp, a_xo, a_xn, a_asg, a_make, a_chg, a_ixO, a_lenO, a_cntO, items_lst, items_tup, sizeOk, boolD, cmpD, slOf, intOf_int, len_encL, ans_rt, a_fn, List.replicate, g_law_drawn, addD, a_callX, atL, Sl.ls, Sl.put, h1', g_law_drawn_2, k1, g_law_drawn_1, bk, ansX_rt]
end HB
namespace HB
section
variable {k : Nat → Rat} {t : Rat} {s : Nat}
theorem share_le {a b t : Rat} (h : a < b) : share a b t + share b a t = 1 := by
  have h1 : b - a ≠ 0 := by grind
  have h2 : a - b ≠ 0 := by grind
  unfold share
  rw [if_neg (by grind), if_neg (by grind)]
  grind
theorem share_mix {a b t : Rat} (h : a < b) : share a b t * b + share b a t * a = t := by
  have h1 : b - a ≠ 0 := by grind
  have h2 : a - b ≠ 0 := by grind
  unfold share
  rw [if_neg (by grind), if_neg (by grind)]
  grind
/-- where a weight is not nought -/
theorem Nb_supp : ∀ (d i : Nat), Nb k t s d i ≠ 0 → i ≤ s ∧ s ≤ i + d
  | 0, i, h => by
    unfold Nb at h
    split at h
    · omega
    · exact absurd rfl h
  | d + 1, i, h => by
    unfold Nb at h
    by_cases h1 : Nb k t s d i = 0
    · by_cases h2 : Nb k t s d (i + 1) = 0
      · rw [h1, h2] at h
        exact absurd (by grind) h
      · have := Nb_supp d (i + 1) h2
        omega
    · have := Nb_supp d i h1
      omega
/-- sums of the first n -/
def sm (n : Nat) (f : Nat → Rat) : Rat := match n with
  | 0 => 0
  | n + 1 => sm n f + f n
theorem sm_congr {n : Nat} {f g : Nat → Rat} (h : ∀ i, i < n → f i = g i) : sm n f = sm n g := by
  induction n with
  | zero => rfl
  | succ n ih =>
    unfold sm
    rw [ih fun i hi => h i (by omega), h n (by omega)]
/-- the first summand apart -/
theorem sm_front (n : Nat) (f : Nat → Rat) : sm (n + 1) f = f 0 + sm n fun i => f (i + 1) := by
  induction n with
  | zero => unfold sm sm; grind
  | succ n ih =>
    rw [show sm (n + 1 + 1) f = sm (n + 1) f + f (n + 1) from rfl, ih]
    rw [show (sm (n + 1) fun i => f (i + 1)) = (sm n fun i => f (i + 1)) + f (n + 1) from rfl]
    grind
theorem sm_add (n : Nat) (f g : Nat → Rat) : sm n (fun i => f i + g i) = sm n f + sm n g := by
  induction n with
  | zero => unfold sm; grind
  | succ n ih => unfold sm; rw [ih]; grind
theorem sm_mul (n : Nat) (c : Rat) (f : Nat → Rat) : sm n (fun i => c * f i) = c * sm n f := by
  induction n with
  | zero => unfold sm; grind
  | succ n ih => unfold sm; rw [ih]; grind
/-- one level down: N of n + 1 weights, the ends being nought -/
theorem sm_down {d n : Nat} (c : Nat → Rat) (h0 : Nb k t s d 0 = 0) (hn : Nb k t s d n = 0) (hmono : ∀ i, i ≤ n → Nb k t s d i ≠ 0 → k i < k (i + d + 1)) :
    sm n (fun i => c i * Nb k t s (d + 1) i) = sm n (fun i => if i = 0 then 0 else (share (k i) (k (i + d + 1)) t * c i + share (k (i + d + 1)) (k i) t * c (i - 1)) * Nb k t s d i) := by
  have e1 : ∀ i, c i * Nb k t s (d + 1) i = c i * share (k i) (k (i + d + 1)) t * Nb k t s d i + c i * share (k (i + d + 2)) (k (i + 1)) t * Nb k t s d (i + 1) := fun i => by
    rw [show Nb k t s (d + 1) i = share (k i) (k (i + d + 1)) t * Nb k t s d i + share (k (i + d + 2)) (k (i + 1)) t * Nb k t s d (i + 1) from rfl]
    grind
  rw [sm_congr fun i _ => e1 i, sm_add]
  cases n with
  | zero => unfold sm; grind
  | succ n =>
    rw [sm_front n (fun i => c i * share (k i) (k (i + d + 1)) t * Nb k t s d i), h0]
    rw [show (sm (n + 1) fun i => c i * share (k (i + d + 2)) (k (i + 1)) t * Nb k t s d (i + 1)) = (sm n fun i => c i * share (k (i + d + 2)) (k (i + 1)) t * Nb k t s d (i + 1)) + c n * share (k (n + d + 2)) (k (n + 1)) t * Nb k t s d (n + 1) from rfl, hn]
    rw [sm_front n (fun i => if i = 0 then 0 else (share (k i) (k (i + d + 1)) t * c i + share (k (i + d + 1)) (k i) t * c (i - 1)) * Nb k t s d i)]
    rw [sm_congr (n := n) (f := fun i => if i + 1 = 0 then 0 else (share (k (i + 1)) (k (i + 1 + d + 1)) t * c (i + 1) + share (k (i + 1 + d + 1)) (k (i + 1)) t * c (i + 1 - 1)) * Nb k t s d (i + 1)) (g := fun i => c (i + 1) * share (k (i + 1)) (k (i + 1 + d + 1)) t * Nb k t s d (i + 1) + c i * share (k (i + d + 2)) (k (i + 1)) t * Nb k t s d (i + 1)) fun i _ => by
      rw [if_neg (by omega), Nat.add_sub_cancel, show i + 1 + d + 1 = i + d + 2 by omega]
      grind]
    rw [sm_add]
    simp only [if_true]
    grind
end
end HB
namespace HB
theorem div_nn {a b : Rat} (ha : 0 ≤ a) (hb : 0 < b) : 0 ≤ a / b := by
  rw [Rat.div_def]
  exact Rat.mul_nonneg ha (Rat.le_of_lt (Rat.inv_pos.mpr hb))
/-- knots with a full piece -/
structure Kn (p L : Nat) (k : Nat → Rat) : Prop where
  mono : ∀ i j, i ≤ j → j < L → k i ≤ k j
  lo : ∀ i, i ≤ p → k i = k 0
  hi : ∀ i, L ≤ i + p + 1 → i < L → k i = k (L - 1)
  big : 2 * p + 2 ≤ L
  mu : ∀ j, j + p < L → k 0 < k j → k j < k (L - 1) → k j < k (j + p)
/-- the piece at s holds t -/
structure At (L : Nat) (k : Nat → Rat) (t : Rat) (s : Nat) : Prop where
  lt : s + 1 < L
  full : k s < k (s + 1)
  le1 : k s ≤ t
  le2 : t ≤ k (s + 1)
section
variable {p L : Nat} {k : Nat → Rat} {t : Rat} {s : Nat}
theorem At.lo (a : At L k t s) (K : Kn p L k) : p ≤ s := by
  apply Decidable.byContradiction
  intro h
  have h1 := K.lo s (by omega)
  have h2 := K.lo (s + 1) (by omega)
  have := a.full
  grind
theorem At.hi (a : At L k t s) (K : Kn p L k) : s + p + 2 ≤ L := by
  apply Decidable.byContradiction
  intro h
  have lt := a.lt
  have h1 := K.hi s (by omega) (by omega)
  have h2 := K.hi (s + 1) (by omega) (by omega)
  have := a.full
  grind
theorem supp_lt (K : Kn p L k) (a : At L k t s) {d i : Nat} (hi : i + d + 1 < L) (h : Nb k t s d i ≠ 0) : k i < k (i + d + 1) ∧ k i ≤ t ∧ t ≤ k (i + d + 1) := by
  have ⟨h1, h2⟩ := Nb_supp d i h
  have m1 := K.mono i s h1 (by omega)
  have m2 := K.mono (s + 1) (i + d + 1) (by omega) (by omega)
  have f := a.full
  have l1 := a.le1
  have l2 := a.le2
  refine ⟨by grind, by grind, by grind⟩
theorem down (K : Kn p L k) (a : At L k t s) {d : Nat} (hd : d < p) (c c' : Nat → Rat) (hc : ∀ i, 0 < i → k i < k (i + d + 1) → share (k i) (k (i + d + 1)) t * c' i + share (k (i + d + 1)) (k i) t * c' (i - 1) = c i) :
    sm (L - 1 - (d + 1)) (fun i => c' i * Nb k t s (d + 1) i) = sm (L - 1 - d) (fun i => c i * Nb k t s d i) := by
  have lo := a.lo K
  have hi := a.hi K
  have big := K.big
  have z0 : Nb k t s d 0 = 0 := Decidable.byContradiction fun h => by have := Nb_supp d 0 h; omega
  have zn : Nb k t s d (L - 1 - (d + 1)) = 0 := Decidable.byContradiction fun h => by have := Nb_supp d _ h; omega
  rw [sm_down c' z0 zn fun i hi' h => (supp_lt K a (by omega) h).1]
  rw [show L - 1 - d = L - 1 - (d + 1) + 1 by omega]
  rw [show (sm (L - 1 - (d + 1) + 1) fun i => c i * Nb k t s d i) = (sm (L - 1 - (d + 1)) fun i => c i * Nb k t s d i) + c (L - 1 - (d + 1)) * Nb k t s d (L - 1 - (d + 1)) from rfl, zn]
  rw [sm_congr (g := fun i => c i * Nb k t s d i) fun i hi' => ?_]
  · grind
  · by_cases h : Nb k t s d i = 0
    · rw [h]; split <;> grind
    · have h0 : 0 < i := Nat.pos_of_ne_zero fun e => by subst e; exact h z0
      rw [if_neg (by omega), hc i h0 (supp_lt K a (by omega) h).1]
theorem sm_delta (n : Nat) (f : Nat → Rat) (h : s < n) : sm n (fun i => f i * Nb k t s 0 i) = f s := by
  induction n with
  | zero => omega
  | succ n ih =>
    show sm n (fun i => f i * Nb k t s 0 i) + f n * Nb k t s 0 n = f s
    by_cases e : n = s
    · subst e
      have z : sm n (fun i => f i * Nb k t n 0 i) = 0 := by
        rw [sm_congr (g := fun i => 0 * 0) fun i hi => ?_]
        · rw [sm_mul]; grind
        · rw [show Nb k t n 0 i = 0 from if_neg (by omega)]; grind
      rw [z, show Nb k t n 0 n = 1 from if_pos rfl]
      grind
    · rw [ih (by omega), show Nb k t s 0 n = 0 from if_neg e]
      grind
/-- a sum led down through all levels -/
theorem down_all (K : Kn p L k) (a : At L k t s) (c : Nat → Nat → Rat) (hc : ∀ d i, d < p → 0 < i → k i < k (i + d + 1) → share (k i) (k (i + d + 1)) t * c (d + 1) i + share (k (i + d + 1)) (k i) t * c (d + 1) (i - 1) = c d i) :
    ∀ d, d ≤ p → sm (L - 1 - d) (fun i => c d i * Nb k t s d i) = c 0 s
  | 0, _ => sm_delta _ _ (by have := a.lt; omega)
  | d + 1, h => by
    rw [down K a (by omega) (c d) (c (d + 1)) fun i h0 h1 => hc d i (by omega) h0 h1]
    exact down_all K a c hc d (by omega)
theorem unity (K : Kn p L k) (a : At L k t s) : sm (L - 1 - p) (fun i => Nb k t s p i) = 1 := by
  have := down_all K a (fun _ _ => 1) (fun d i _ _ h => by have := share_le (t := t) h; grind) p (Nat.le_refl _)
  rw [← this]
  exact sm_congr fun i _ => by grind
/-- k (i + 1) + .. + k (i + d) -/
def inner (k : Nat → Rat) (i d : Nat) : Rat := sm d fun j => k (i + 1 + j)
theorem linear (K : Kn p L k) (a : At L k t s) : sm (L - 1 - p) (fun i => inner k i p * Nb k t s p i) = p * t := by
  have := down_all K a (fun d i => inner k i d + ((p - d : Nat) : Rat) * t) (fun d i hd h0 h => by
    have e1 : inner k i (d + 1) = inner k i d + k (i + d + 1) := by
      rw [show i + d + 1 = i + 1 + d by omega]; rfl
    have e2 : inner k (i - 1) (d + 1) = k i + inner k i d := by
      unfold inner
      rw [sm_front, show i - 1 + 1 + 0 = i by omega]
      congr 1
      exact sm_congr fun j _ => by rw [show i + (j + 1) = i + 1 + j by omega]
    have e3 : ((p - d : Nat) : Rat) = ((p - (d + 1) : Nat) : Rat) + 1 := by
      rw [show p - d = p - (d + 1) + 1 by omega]
      exact Rat.natCast_add _ _
    have s1 := share_le (t := t) h
    have s2 := share_mix (t := t) h
    rw [e1, e2, e3]
    generalize share (k i) (k (i + d + 1)) t = u at *
    generalize share (k (i + d + 1)) (k i) t = v at *
    generalize ((p - (d + 1) : Nat) : Rat) = w at *
    have hv : v = 1 - u := by grind
    subst hv
    grind) p (Nat.le_refl _)
  rw [show (inner k s 0 + ((p - 0 : Nat) : Rat) * t) = p * t by unfold inner sm; rw [Nat.sub_zero]; grind] at this
  rw [← this]
  exact sm_congr fun i _ => by
    rw [Nat.sub_self]
    grind
theorem Nb_nonneg (K : Kn p L k) (a : At L k t s) : ∀ d i, i + d + 1 < L → 0 ≤ Nb k t s d i
  | 0, i, _ => by
    unfold Nb
    split <;> grind
  | d + 1, i, hi => by
    have part : ∀ j x y, (Nb k t s d j ≠ 0 → 0 ≤ share x y t) → 0 ≤ Nb k t s d j → 0 ≤ share x y t * Nb k t s d j := fun j x y h1 h2 => by
      by_cases e : Nb k t s d j = 0
      · rw [e]; grind
      · exact Rat.mul_nonneg (h1 e) h2
    have shp : ∀ x y : Rat, x ≤ t → t ≤ y → x < y → 0 ≤ share x y t ∧ 0 ≤ share y x t := fun x y h1 h2 h3 => by
      unfold share
      rw [if_neg (by grind), if_neg (by grind)]
      constructor
      · exact div_nn (by grind) (by grind)
      · rw [show (t - y) / (x - y) = (y - t) / (y - x) by
          have : x - y ≠ 0 := by grind
          have : y - x ≠ 0 := by grind
          grind]
        exact div_nn (by grind) (by grind)
    unfold Nb
    have q1 := part i (k i) (k (i + d + 1)) (fun h => let z := supp_lt K a (by omega) h; (shp _ _ z.2.1 z.2.2 z.1).1) (Nb_nonneg K a d i (by omega))
    have q2 := part (i + 1) (k (i + d + 2)) (k (i + 1)) (fun h => by
      have z := supp_lt K a (i := i + 1) (by omega) h
      rw [show i + 1 + d + 1 = i + d + 2 by omega] at z
      exact (shp _ _ z.2.1 z.2.2 z.1).2) (Nb_nonneg K a d (i + 1) (by omega))
    exact Rat.add_nonneg q1 q2
end
end HB
namespace HB
section
variable {p L : Nat} {k : Nat → Rat} {t : Rat} {s : Nat}
theorem div_self' {a : Rat} (h : a ≠ 0) : a / a = 1 := by grind
theorem right_delta {s' m : Nat} (he : ∀ j, s' < j → j ≤ s' + m → k j = t) (hn : k (s' + m + 1) ≠ t) : ∀ d i, d ≤ m → Nb k t (s' + m) d i = if i + d = s' + m then 1 else 0
  | 0, i, _ => rfl
  | d + 1, i, hd => by
    unfold Nb
    rw [right_delta he hn d i (by omega), right_delta he hn d (i + 1) (by omega)]
    by_cases c1 : i + d = s' + m
    · rw [if_pos c1, if_neg (by omega), if_neg (by omega)]
      have e : k i = t := he i (by omega) (by omega)
      have z : share (k i) (k (i + d + 1)) t = 0 := by
        unfold share
        rw [e]
        split <;> grind
      rw [z]
      grind
    · rw [if_neg c1]
      by_cases c2 : i + 1 + d = s' + m
      · rw [if_pos c2, if_pos (by omega)]
        have e : k (i + 1) = t := he (i + 1) (by omega) (by omega)
        have z : share (k (i + d + 2)) (k (i + 1)) t = 1 := by
          unfold share
          rw [show i + d + 2 = s' + m + 1 by omega, e, if_neg hn]
          exact div_self' (by grind)
        rw [z]
        grind
      · rw [if_neg c2, if_neg (by omega)]
        grind
theorem left_delta {s' m : Nat} (he : ∀ j, s' < j → j ≤ s' + m → k j = t) (hn : k s' ≠ t) : ∀ d i, d ≤ m → Nb k t s' d i = if i = s' then 1 else 0
  | 0, i, _ => rfl
  | d + 1, i, hd => by
    unfold Nb
    rw [left_delta he hn d i (by omega), left_delta he hn d (i + 1) (by omega)]
    by_cases c1 : i = s'
    · rw [if_pos c1, if_neg (by omega)]
      have e : k (i + d + 1) = t := he _ (by omega) (by omega)
      have z : share (k i) (k (i + d + 1)) t = 1 := by
        unfold share
        rw [e, c1, if_neg hn]
        exact div_self' (by grind)
      rw [z]
      grind
    · rw [if_neg c1]
      by_cases c2 : i + 1 = s'
      · rw [if_pos c2]
        have e : k (i + d + 2) = t := he _ (by omega) (by omega)
        have z : share (k (i + d + 2)) (k (i + 1)) t = 0 := by
          unfold share
          rw [e]
          split <;> grind
        rw [z]
        grind
      · rw [if_neg c2]
        grind
theorem later {s' : Nat} {d : Nat} (h : ∀ i, Nb k t s d i = Nb k t s' d i) : ∀ e i, Nb k t s (d + e) i = Nb k t s' (d + e) i
  | 0, i => h i
  | e + 1, i => by
    show Nb k t s (d + e + 1) i = Nb k t s' (d + e + 1) i
    unfold Nb
    rw [later h e i, later h e (i + 1)]
theorem any_piece1 (K : Kn p L k) {s' : Nat} (a : At L k t s) (a' : At L k t s') (h : s' < s) (i : Nat) : Nb k t s p i = Nb k t s' p i := by
  obtain ⟨m, rfl⟩ : ∃ m, s = s' + m := ⟨s - s', by omega⟩
  have lt := a.lt
  have he : ∀ j, s' < j → j ≤ s' + m → k j = t := fun j h1 h2 => by
    have m1 := K.mono (s' + 1) j (by omega) (by omega)
    have m2 := K.mono j (s' + m) (by omega) (by omega)
    have l1 := a.le1
    have l2 := a'.le2
    grind
  have hr : k (s' + m + 1) ≠ t := by
    have := a.full
    have := he (s' + m) (by omega) (by omega)
    grind
  have hl : k s' ≠ t := by
    have := a'.full
    have := he (s' + 1) (by omega) (by omega)
    grind
  have hm : m ≤ p := by
    apply Decidable.byContradiction
    intro c
    have e1 := he (s' + 1) (by omega) (by omega)
    have e2 := he (s' + 1 + p) (by omega) (by omega)
    have m1 := K.mono 0 s' (by omega) (by omega)
    have m2 := K.mono (s' + m + 1) (L - 1) (by omega) (by omega)
    have f1 := a.full
    have f2 := a'.full
    have e3 := he (s' + m) (by omega) (by omega)
    have := K.mu (s' + 1) (by omega) (by grind) (by grind)
    grind
  have eq : ∀ i, Nb k t (s' + m) m i = Nb k t s' m i := fun i => by
    rw [right_delta he hr m i (Nat.le_refl _), left_delta he hl m i (Nat.le_refl _)]
    by_cases c : i = s'
    · rw [if_pos (by omega), if_pos c]
    · rw [if_neg (by omega), if_neg c]
  have := later eq (p - m) i
  rwa [show m + (p - m) = p by omega] at this
theorem any_piece (K : Kn p L k) {s' : Nat} (a : At L k t s) (a' : At L k t s') (i : Nat) : Nb k t s p i = Nb k t s' p i := by
  rcases Nat.lt_trichotomy s' s with h | h | h
  · exact any_piece1 K a a' h i
  · rw [h]
  · exact (any_piece1 K a' a h i).symm
theorem Nb_congr {k' : Nat → Rat} : ∀ d i, (∀ j, i ≤ j → j ≤ i + d + 1 → k j = k' j) → Nb k t s d i = Nb k' t s d i
  | 0, i, _ => rfl
  | d + 1, i, h => by
    unfold Nb
    rw [Nb_congr d i fun j h1 h2 => h j h1 (by omega), Nb_congr d (i + 1) fun j h1 h2 => h j (by omega) (by omega), h i (by omega) (by omega), h (i + 1) (by omega) (by omega), h (i + d + 1) (by omega) (by omega), h (i + d + 2) (by omega) (by omega)]
theorem share_aff {a b t w c : Rat} (hw : w ≠ 0) : share (w * a + c) (w * b + c) (w * t + c) = share a b t := by
  unfold share
  by_cases e : a = b
  · rw [if_pos (by rw [e]), if_pos e]
  · have n : b - a ≠ 0 := by grind
    have n2 : (w * b + c) - (w * a + c) ≠ 0 := fun z => by
      have : w * (b - a) = 0 := by grind
      rcases Rat.mul_eq_zero.mp this with z | z
      · exact hw z
      · exact n z
    rw [if_neg (fun z => n2 (by grind)), if_neg e]
    rw [show (w * t + c) - (w * a + c) = w * (t - a) by grind, show (w * b + c) - (w * a + c) = w * (b - a) by grind]
    have n3 : w * (b - a) ≠ 0 := fun z => n2 (by grind)
    grind
theorem Nb_aff {w c : Rat} (hw : w ≠ 0) : ∀ d i, Nb (fun j => w * k j + c) (w * t + c) s d i = Nb k t s d i
  | 0, i => rfl
  | d + 1, i => by
    unfold Nb
    rw [Nb_aff hw d i, Nb_aff hw d (i + 1), share_aff hw, share_aff hw]
theorem Nb_rev {k' : Nat → Rat} (hk : ∀ j, j < L → k' j = -(k (L - 1 - j))) (hs : s + 2 ≤ L) : ∀ d i, i + d + 2 ≤ L → Nb k' (-t) (L - 2 - s) d i = Nb k t s d (L - 2 - d - i)
  | 0, i, h => by
    unfold Nb
    by_cases c : i = L - 2 - s
    · rw [if_pos c, if_pos (by omega)]
    · rw [if_neg c, if_neg (by omega)]
  | d + 1, i, h => by
    obtain ⟨j, hj⟩ : ∃ j, j = L - 2 - (d + 1) - i := ⟨_, rfl⟩
    have neg : ∀ a b : Rat, share (-a) (-b) (-t) = share a b t := fun a b => by
      have := share_aff (a := a) (b := b) (t := t) (w := -1) (c := 0) (by grind)
      rw [show (-1 : Rat) * a + 0 = -a by grind, show (-1 : Rat) * b + 0 = -b by grind, show (-1 : Rat) * t + 0 = -t by grind] at this
      exact this
    rw [← hj]
    rw [show Nb k' (-t) (L - 2 - s) (d + 1) i = share (k' i) (k' (i + d + 1)) (-t) * Nb k' (-t) (L - 2 - s) d i + share (k' (i + d + 2)) (k' (i + 1)) (-t) * Nb k' (-t) (L - 2 - s) d (i + 1) from rfl]
    rw [show Nb k t s (d + 1) j = share (k j) (k (j + d + 1)) t * Nb k t s d j + share (k (j + d + 2)) (k (j + 1)) t * Nb k t s d (j + 1) from rfl]
    rw [Nb_rev hk hs d i (by omega), Nb_rev hk hs d (i + 1) (by omega), hk i (by omega), hk (i + d + 1) (by omega), hk (i + d + 2) (by omega), hk (i + 1) (by omega), neg, neg]
    rw [show L - 2 - d - i = j + 1 by omega, show L - 2 - d - (i + 1) = j by omega, show L - 1 - i = j + d + 2 by omega, show L - 1 - (i + d + 1) = j + 1 by omega, show L - 1 - (i + d + 2) = j by omega, show L - 1 - (i + 1) = j + d + 1 by omega]
    grind
theorem sm_rev (n : Nat) (f : Nat → Rat) : sm n f = sm n fun i => f (n - 1 - i) := by
  induction n generalizing f with
  | zero => rfl
  | succ n ih =>
    rw [sm_front n f, ih (fun i => f (i + 1))]
    show _ = (sm n fun i => f (n + 1 - 1 - i)) + f (n + 1 - 1 - n)
    rw [show n + 1 - 1 - n = 0 by omega, sm_congr (f := fun i => f (n - 1 - i + 1)) (g := fun i => f (n + 1 - 1 - i)) fun i hi => by
      show f (n - 1 - i + 1) = f (n + 1 - 1 - i)
      rw [show n - 1 - i + 1 = n + 1 - 1 - i by omega]]
    grind
end
end HB
namespace HB
section
variable {p L : Nat} {k : Nat → Rat} {t : Rat}
theorem ivt (h0 : k 0 ≤ t) : ∀ n, t < k n → ∃ i, i < n ∧ k i ≤ t ∧ t < k (i + 1)
  | 0, h => by grind
  | n + 1, h => by
    by_cases c : t < k n
    · obtain ⟨i, h1, h2⟩ := ivt h0 n c
      exact ⟨i, by omega, h2⟩
    · exact ⟨n, by omega, by grind, h⟩
theorem full_mem {i : Nat} : i ∈ full k (L - 1) ↔ i < L - 1 ∧ k i < k (i + 1) := by
  unfold full
  rw [List.mem_filter, List.mem_range, decide_eq_true_eq]
theorem full_ne (h : k 0 < k (L - 1)) : full k (L - 1) ≠ [] := by
  obtain ⟨i, h1, h2, h3⟩ := ivt (t := k 0) Rat.le_refl (L - 1) h
  exact List.ne_nil_of_mem (full_mem.mpr ⟨h1, by grind⟩)
theorem last_full (K : Kn p L k) {s : Nat} (hs : (full k (L - 1)).getLast? = some s) : k (s + 1) = k (L - 1) := by
  have big := K.big
  have ms : s ∈ full k (L - 1) := List.mem_of_getLast? hs
  have ⟨h1, h2⟩ := full_mem.mp ms
  have mx : ∀ i, i ∈ full k (L - 1) → i ≤ s := fun i hi => by
    have pw : (full k (L - 1)).Pairwise (· < ·) := List.Pairwise.filter _ List.pairwise_lt_range
    obtain ⟨ne, e⟩ : ∃ ne, (full k (L - 1)).getLast ne = s := by
      have ne := List.ne_nil_of_mem ms
      rw [List.getLast?_eq_some_getLast ne] at hs
      exact ⟨ne, Option.some.inj hs⟩
    have dec : full k (L - 1) = (full k (L - 1)).dropLast ++ [s] := by rw [← e, List.dropLast_concat_getLast]
    rw [dec] at hi pw
    rcases List.mem_append.mp hi with hi | hi
    · exact Nat.le_of_lt ((List.pairwise_append.mp pw).2.2 i hi s (by simp))
    · rw [List.mem_singleton.mp hi]
      exact Nat.le_refl _
  have go : ∀ r, s + 1 + r < L → k (s + 1 + r) = k (s + 1) := by
    intro r
    induction r with
    | zero => intro _; rfl
    | succ r ih =>
      intro hr
      have m := K.mono (s + 1 + r) (s + 1 + r + 1) (by omega) (by omega)
      have : ¬ k (s + 1 + r) < k (s + 1 + r + 1) := fun c => by
        have := mx (s + 1 + r) (full_mem.mpr ⟨by omega, c⟩)
        omega
      have := ih (by omega)
      show k (s + 1 + r + 1) = _
      grind
  have := go (L - 1 - (s + 1)) (by omega)
  rw [show s + 1 + (L - 1 - (s + 1)) = L - 1 by omega] at this
  exact this.symm
theorem span_at (K : Kn p L k) (hne : k 0 < k (L - 1)) (h1 : k 0 ≤ t) (h2 : t ≤ k (L - 1)) : At L k t (spanN k (L - 1) t) := by
  unfold spanN
  cases hh : hereL k (L - 1) t with
  | cons s r =>
    have m : s ∈ hereL k (L - 1) t := by rw [hh]; exact List.mem_cons_self
    unfold hereL at m
    obtain ⟨m1, m2⟩ := List.mem_filter.mp m
    have ⟨q1, q2⟩ := full_mem.mp m1
    simp at m2
    show At L k t s
    exact ⟨by omega, q2, by grind, by grind⟩
  | nil =>
    have te : t = k (L - 1) := by
      apply Decidable.byContradiction
      intro c
      obtain ⟨i, i1, i2, i3⟩ := ivt h1 (L - 1) (by grind)
      have : i ∈ hereL k (L - 1) t := by
        unfold hereL
        rw [List.mem_filter]
        refine ⟨full_mem.mpr ⟨i1, by grind⟩, ?_⟩
        simp
        exact ⟨by grind, i3⟩
      rw [hh] at this
      simp at this
    have ne := full_ne hne
    have gl := List.getLast?_eq_some_getLast ne
    have lf := last_full K gl
    rw [gl]
    have ⟨q1, q2⟩ := full_mem.mp (List.getLast_mem ne)
    refine ⟨by simp; omega, by simpa using q2, ?_, ?_⟩
    · simp only [Option.getD_some]
      grind
    · simp only [Option.getD_some]
      grind
end
section
variable {n : Nat} {ks : List Rat}
theorem kn_at {i : Nat} (h0 : 0 < ks.length) (hi : i < 2 * n + ks.length) : at0 (knots n ks) i = if i < n then at0 ks 0 else if i < n + ks.length then at0 ks (i - n) else lastR ks := by
  rw [at0_lt (by rw [knots_len]; exact hi)]
  unfold knots
  by_cases c1 : i < n
  · rw [if_pos c1, List.getElem_append_left (by simpa using c1), List.getElem_replicate]
  · rw [if_neg c1, List.getElem_append_right (by simpa using c1)]
    by_cases c2 : i < n + ks.length
    · rw [if_pos c2, List.getElem_append_left (by simp; omega)]
      simp [at0_lt (show i - n < ks.length by omega)]
    · rw [if_neg c2, List.getElem_append_right (by simp; omega), List.getElem_replicate]
theorem cnt_ge {a r : Nat} {q : Rat} (h : a + r < ks.length) (he : ∀ j, a ≤ j → j ≤ a + r → at0 ks j = q) : r + 1 ≤ cntR ks q := by
  have sl : ((ks.drop a).take (r + 1)).Sublist ks := (List.take_sublist _ _).trans (List.drop_sublist _ _)
  have fl : ((ks.drop a).take (r + 1)).filter (fun x => decide (x = q)) = (ks.drop a).take (r + 1) := by
    rw [List.filter_eq_self]
    intro x hx
    obtain ⟨i, hi, e⟩ := List.getElem_of_mem hx
    simp at hi
    rw [List.getElem_take, List.getElem_drop] at e
    have := he (a + i) (by omega) (by omega)
    rw [at0_lt (by omega), e] at this
    simp [this]
  have ln : ((ks.drop a).take (r + 1)).length = r + 1 := by simp; omega
  have := (sl.filter fun x => decide (x = q)).length_le
  rw [fl, ln] at this
  exact this
theorem GoodM.ends (g : GoodM n ks) : at0 ks 0 < lastR ks := by
  have l := g.len
  have m := mono_of g.asc 0 (ks.length - 1) (by omega) (by omega)
  apply Decidable.byContradiction
  intro c
  have e : lastR ks = at0 ks 0 := by grind
  have := cnt_ge (ks := ks) (a := 0) (r := ks.length - 1) (q := at0 ks 0) (by omega) fun j h1 h2 => by
    have m1 := mono_of g.asc 0 j (by omega) (by omega)
    have m2 := mono_of g.asc j (ks.length - 1) (by omega) (by omega)
    grind
  have := g.c0
  omega
theorem GoodM.kn (g : GoodM n ks) : Kn n (2 * n + ks.length) (at0 (knots n ks)) := by
  have l := g.len
  have mo := mono_of g.asc
  have e : ∀ i, i < 2 * n + ks.length → at0 (knots n ks) i = if i < n then at0 ks 0 else if i < n + ks.length then at0 ks (i - n) else lastR ks := fun i hi => kn_at (by omega) hi
  have z : at0 (knots n ks) 0 = at0 ks 0 := by
    rw [e 0 (by omega)]
    split
    · rfl
    · rw [if_pos (by omega)]; congr 1; (omega)
  have y : at0 (knots n ks) (2 * n + ks.length - 1) = lastR ks := by
    rw [e _ (by omega), if_neg (by omega)]
    split
    · congr 1; omega
    · rfl
  refine ⟨fun i j h1 h2 => ?_, fun i hi => ?_, fun i h1 h2 => ?_, by omega, fun j hj h1 h2 => ?_⟩
  · rw [e i (by omega), e j h2]
    have a1 := mo 0 (ks.length - 1) (by omega) (by omega)
    by_cases c1 : i < n
    · rw [if_pos c1]
      by_cases c2 : j < n
      · rw [if_pos c2]; exact Rat.le_refl
      · rw [if_neg c2]
        by_cases c3 : j < n + ks.length
        · rw [if_pos c3]; exact mo 0 _ (by omega) (by omega)
        · rw [if_neg c3]; exact a1
    · rw [if_neg c1, if_neg (show ¬ j < n by omega)]
      by_cases c2 : i < n + ks.length
      · rw [if_pos c2]
        by_cases c3 : j < n + ks.length
        · rw [if_pos c3]; exact mo _ _ (by omega) (by omega)
        · rw [if_neg c3]; exact mo _ _ (by omega) (by omega)
      · rw [if_neg c2, if_neg (show ¬ j < n + ks.length by omega)]; exact Rat.le_refl
  · rw [z, e i (by omega)]
    by_cases c1 : i < n
    · rw [if_pos c1]
    · rw [if_neg c1, if_pos (by omega)]; congr 1; omega
  · rw [y, e i h2, if_neg (by omega)]
    by_cases c1 : i < n + ks.length
    · rw [if_pos c1]; congr 1; omega
    · rw [if_neg c1]
  · rw [z] at h1
    rw [y] at h2
    have c1 : n < j := by
      apply Decidable.byContradiction
      intro c
      rw [e j (by omega)] at h1
      split at h1
      · grind
      · rw [if_pos (by omega), show j - n = 0 by omega] at h1
        grind
    have c2 : j + 1 < n + ks.length := by
      apply Decidable.byContradiction
      intro c
      rw [e j (by omega), if_neg (by omega)] at h2
      split at h2
      · rw [show j - n = ks.length - 1 by omega] at h2
        grind
      · grind
    rw [e j (by omega), if_neg (by omega), if_pos (by omega)] at h1 h2 ⊢
    rw [e (j + n) (by omega), if_neg (by omega)]
    split
    · rename_i c3
      apply Decidable.byContradiction
      intro c4
      have := cnt_ge (ks := ks) (a := j - n) (r := n) (q := at0 ks (j - n)) (by omega) fun i q1 q2 => by
        have m1 := mo (j - n) i (by omega) (by omega)
        have m2 := mo i (j + n - n) (by omega) (by omega)
        grind
      have := g.ci (j - n) (by omega) (by omega)
      omega
    · exact h2
theorem GoodM.span (g : GoodM n ks) {t : Rat} (h1 : at0 ks 0 ≤ t) (h2 : t ≤ lastR ks) : At (2 * n + ks.length) (at0 (knots n ks)) t (spanN (at0 (knots n ks)) (2 * n + ks.length - 1) t) := by
  have l := g.len
  have z : at0 (knots n ks) 0 = at0 ks 0 := by
    rw [kn_at (by omega) (by omega)]
    split
    · rfl
    · rw [if_pos (by omega)]; congr 1; (omega)
  have y : at0 (knots n ks) (2 * n + ks.length - 1) = lastR ks := by
    rw [kn_at (by omega) (by omega), if_neg (by omega)]
    split
    · congr 1; omega
    · rfl
  exact span_at g.kn (by rw [z, y]; exact g.ends) (by rw [z]; exact h1) (by rw [y]; exact h2)
theorem GoodM.full (g : GoodM n ks) : full (at0 (knots n ks)) (2 * n + ks.length - 1) ≠ [] := by
  have l := g.len
  apply full_ne
  have z : at0 (knots n ks) 0 = at0 ks 0 := by
    rw [kn_at (by omega) (by omega)]
    split
    · rfl
    · rw [if_pos (by omega)]; congr 1; (omega)
  have y : at0 (knots n ks) (2 * n + ks.length - 1) = lastR ks := by
    rw [kn_at (by omega) (by omega), if_neg (by omega)]
    split
    · congr 1; omega
    · rfl
  rw [z, y]
  exact g.ends
end
end HB
namespace HB
open PySem L2
theorem law_fr_nat {k m : Nat} (hk : k < 1000) (hm : 0 < m) (hm2 : m < 1000) : F_law_fr [natD k, natD m] = some (.ok (enc (Rat.divInt k m))) :=
  law_fr_enc (pow_le9 (k := 20) (by decide) (by rw [Int.natAbs_natCast]; omega)) (by omega) (by rw [Int.natAbs_natCast]; exact Nat.lt_of_lt_of_le (show m < 2 ^ 10 by omega) (Nat.pow_le_pow_right (by decide) (by decide)))
theorem divInt_unit {k m : Nat} (hm : 0 < m) (hk : k < m) : 0 ≤ Rat.divInt k m ∧ Rat.divInt k m < 1 ∧ Bd m m (Rat.divInt k m) := by
  have h1 : (0 : Rat) < (m : Rat) := by exact_mod_cast hm
  have e : Rat.divInt k m = (k : Rat) / (m : Rat) := by rw [Rat.divInt_eq_div]; rfl
  refine ⟨?_, ?_, hm, k, rfl, by rw [Int.natAbs_natCast]; omega⟩
  · rw [e]; exact div_nn (by exact_mod_cast Nat.zero_le k) h1
  · have h3 : (k : Rat) < (m : Rat) := by exact_mod_cast hk
    have h2 := div_nn (a := (m : Rat) - k) (b := m) (by grind) h1
    have h4 : (k : Rat) / (m : Rat) * m = k := by
      have : (m : Rat) ≠ 0 := by grind
      grind
    rw [e]
    apply Decidable.byContradiction
    intro c
    have h5 : (1 : Rat) ≤ (k : Rat) / m := by grind
    have h6 := Rat.mul_le_mul_of_nonneg_right h5 (Rat.le_of_lt h1)
    grind
theorem bd_between {N M M' : Nat} {a b t : Rat} (ha : Bd N M a) (hb : Bd N M b) (ht : Bd N M' t) (h1 : a ≤ t) (h2 : t ≤ b) : Bd N M t := by
  obtain ⟨p, x, rfl, x1⟩ := ha
  obtain ⟨_, y, rfl, y1⟩ := hb
  obtain ⟨_, z, rfl, z1⟩ := ht
  have key : ∀ a b : Int, Rat.divInt a N ≤ Rat.divInt b N → a ≤ b := fun a b h => by
    rw [Rat.divInt_eq_div, Rat.divInt_eq_div] at h
    have n0 : (0 : Rat) < ((N : Int) : Rat) := by exact_mod_cast p
    have q := Rat.mul_le_mul_of_nonneg_right h (Rat.le_of_lt n0)
    have e : ∀ c : Int, (c : Rat) / ((N : Int) : Rat) * ((N : Int) : Rat) = c := fun c => by
      have : ((N : Int) : Rat) ≠ 0 := by grind
      grind
    rw [e, e] at q
    exact_mod_cast q
  have f1 := key _ _ h1
  have f2 := key _ _ h2
  exact ⟨p, z, rfl, by omega⟩
/-- times within the stretch, in N-ths -/
def Tim (ks : List Rat) (N M : Nat) (t : Rat) : Prop := at0 ks 0 ≤ t ∧ t ≤ lastR ks ∧ Bd N M t
section
variable {n m M : Nat} {ks : List Rat} {d0 d2 : D}
theorem time_in (asc : ∀ i, i + 1 < ks.length → at0 ks i ≤ at0 ks (i + 1)) (hk : ∀ q ∈ ks, Bd 6 M q) {i j : Nat} (hi : i + 1 < ks.length) (hm : 0 < m) (hj : j < m) : Tim ks (6 * m) (3 * M * m) (at0 ks i + (at0 ks (i + 1) - at0 ks i) * Rat.divInt j m) := by
  have ⟨u1, u2, u3⟩ := divInt_unit hm hj
  have a := asc i hi
  have b1 := hk _ (at0_mem (fs := ks) (i := i) (by omega))
  have b2 := hk _ (at0_mem (fs := ks) (i := i + 1) (by omega))
  have m1 := mono_of asc 0 i (by omega) (by omega)
  have m2 := mono_of asc (i + 1) (ks.length - 1) (by omega) (by omega)
  have w0 : 0 ≤ at0 ks (i + 1) - at0 ks i := by grind
  have p0 := Rat.mul_nonneg w0 u1
  have p1 : (at0 ks (i + 1) - at0 ks i) * Rat.divInt j m ≤ at0 ks (i + 1) - at0 ks i := by
    have := Rat.mul_nonneg w0 (show 0 ≤ 1 - Rat.divInt j m by grind)
    grind
  refine ⟨by grind, ?_, ?_⟩
  · show _ ≤ at0 ks (ks.length - 1)
    grind
  · refine ((b1.scale hm).add ((b2.sub b1).mul u3)).mono ?_
    have : (M + M) * m + M * m = 3 * M * m := by rw [← Nat.add_mul]; congr 1; omega
    omega
theorem times_run (asc : ∀ i, i + 1 < ks.length → at0 ks i ≤ at0 ks (i + 1)) (hk : ∀ q ∈ ks, Bd 6 M q) (hM : M < 10000) (h0 : 0 < ks.length) (hl : ks.length ≤ 100) (hm : 0 < m) (hm2 : m ≤ 10) :
    ∃ ts, F_law_times [.tuple [d0, .list (encL ks), d2], natD m] = some (.ok (.list (encL ts))) ∧ (∀ t ∈ ts, Tim ks (6 * m) (M * m) t) ∧ ts.length ≤ ks.length * 10 := by
  have ix : ixD (.tuple [d0, .list (encL ks), d2]) (.int 1) = some (.list (encL ks)) := rfl
  have hti : ∀ i, i < ks.length → Ht 20 (at0 ks i) := fun i hi => (hk _ (at0_mem hi)).ht (by decide) (by omega)
  have e0 : F_law_times [.tuple [d0, .list (encL ks), d2], natD m] = ans (g_law_times_5 [.pur (.tuple [d0, .list (encL ks), d2]), .pur (natD m), .no, .own (encL []), .pur (.list (encL ks)), .no, .no]) := by
    simp [bd_ok, lf_some, cl_ok, a_ret, a_op, a_un, a_test, a_and, a_or, a_not, a_andV, a_orV, a_notV, a_if, a_sif, a_nil, a_cons, a_star, a_list, a_tup, a_sized, a_call, a_built, a_seq, a_set, a_own, a_sret, a_next, a_isi, a_slice, a_part, a_nopart, a_range, a_seqS, a_varP, a_par2, a_xp, a_xo, a_xn, a_asg, a_make, a_chg, a_ixO, a_lenO, a_cntO, items_lst, items_tup, sizeOk, boolD, cmpD, slOf, intOf_int, len_encL, ans_rt, a_fn, List.replicate, F_law_times, g_law_times, ix]
    rfl
  have rg : range1D [.int ((ks.length : Int) - 1)] = _ := range1_of (ks.length - 1) (by omega) (by omega)
  have src : mRange range1D (mCons (mOp subD (mBuilt lenD (mCons (mVar 4) (mNil))) (mRet (.int 1))) (mNil)) [.pur (.tuple [d0, .list (encL ks), d2]), .pur (natD m), .no, .own (encL []), .pur (.list (encL ks)), .no, .no] = some (.ok ([.pur (.tuple [d0, .list (encL ks), d2]), .pur (natD m), .no, .own (encL []), .pur (.list (encL ks)), .no, .no], constS ((List.range' 0 (ks.length - 1)).map natD))) := by
    rw [← List.range_eq_range']
    simp [bd_ok, lf_some, cl_ok, a_ret, a_op, a_un, a_test, a_and, a_or, a_not, a_andV, a_orV, a_notV, a_if, a_sif, a_nil, a_cons, a_star, a_list, a_tup, a_sized, a_call, a_built, a_seq, a_set, a_own, a_sret, a_next, a_isi, a_slice, a_part, a_nopart, a_range, a_seqS, a_varP, a_par2, a_xp, a_xo, a_xn, a_asg, a_make, a_chg, a_ixO, a_lenO, a_cntO, items_lst, items_tup, sizeOk, boolD, cmpD, slOf, intOf_int, len_encL, ans_rt, a_fn, List.replicate, lenD, subD, rg]
  have rg2 : range1D [natD m] = _ := range1_of (z := m) m rfl (by omega)
  obtain ⟨ρ', l1, ts, z2, z5, z6, l2, l3, l4⟩ := for_range (v := 2) (body := g_law_times_3) 0 (ks.length - 1) (fun i ρ => ∃ ts x2 x5 x6, ρ = [.pur (.tuple [d0, .list (encL ks), d2]), .pur (natD m), x2, .own (encL ts), .pur (.list (encL ks)), x5, x6] ∧ (∀ t ∈ ts, Tim ks (6 * m) (3 * M * m) t) ∧ ts.length ≤ i * 10) src ⟨[], _, _, _, rfl, by simp, by simp⟩ fun i ρ _ hi ⟨ts, x2, x5, x6, hρ, hT, hL⟩ => by
    subst hρ
    have eb := law_below_enc (hti i (by omega)) (hti (i + 1) (by omega)) (by decide)
    by_cases c : at0 ks i < at0 ks (i + 1)
    · rw [decide_eq_true c] at eb
      have es := law_sub_enc (hti (i + 1) (by omega)) (hti i (by omega)) (by decide)
      have src2 : mRange range1D (mCons (mVar 1) (mNil)) [.pur (.tuple [d0, .list (encL ks), d2]), .pur (natD m), .pur (natD i), .own (encL ts), .pur (.list (encL ks)), .pur (enc (at0 ks (i + 1) - at0 ks i)), x6] = some (.ok ([.pur (.tuple [d0, .list (encL ks), d2]), .pur (natD m), .pur (natD i), .own (encL ts), .pur (.list (encL ks)), .pur (enc (at0 ks (i + 1) - at0 ks i)), x6], constS ((List.range' 0 m).map natD))) := by
        rw [← List.range_eq_range']
        simp [bd_ok, lf_some, cl_ok, a_ret, a_op, a_un, a_test, a_and, a_or, a_not, a_andV, a_orV, a_notV, a_if, a_sif, a_nil, a_cons, a_star, a_list, a_tup, a_sized, a_call, a_built, a_seq, a_set, a_own, a_sret, a_next, a_isi, a_slice, a_part, a_nopart, a_range, a_seqS, a_varP, a_par2, a_xp, a_xo, a_xn, a_asg, a_make, a_chg, a_ixO, a_lenO, a_cntO, items_lst, items_tup, sizeOk, boolD, cmpD, slOf, intOf_int, len_encL, ans_rt, a_fn, List.replicate, rg2]
      obtain ⟨ρ2, k1, ts2, y6, k2, k3, k4⟩ := for_range (v := 6) (body := g_law_times_1) 0 m (fun j ρ => ∃ ts2 x6, ρ = [.pur (.tuple [d0, .list (encL ks), d2]), .pur (natD m), .pur (natD i), .own (encL ts2), .pur (.list (encL ks)), .pur (enc (at0 ks (i + 1) - at0 ks i)), x6] ∧ (∀ t ∈ ts2, Tim ks (6 * m) (3 * M * m) t) ∧ ts2.length ≤ i * 10 + j) src2 ⟨ts, _, rfl, hT, by omega⟩ fun j ρ _ hj ⟨ts2, x6, hρ, hT2, hL2⟩ => by
        subst hρ
        have ⟨u1, u2, u3⟩ := divInt_unit hm (show j < m by omega)
        have ef := law_fr_nat (k := j) (m := m) (by omega) hm (by omega)
        have ti := time_in asc hk (i := i) (j := j) (m := m) (by omega) hm (by omega)
        generalize Rat.divInt (j : Int) (m : Int) = u at u1 u2 u3 ef ti
        have em := law_mul_enc ((hti (i + 1) (by omega)).sub (hti i (by omega))) (u3.ht (B := 20) (by omega) (by omega)) (by decide)
        have ea := law_add_enc (hti i (by omega)) (((hti (i + 1) (by omega)).sub (hti i (by omega))).mul (u3.ht (B := 20) (by omega) (by omega))) (by decide)
        refine ⟨[.pur (.tuple [d0, .list (encL ks), d2]), .pur (natD m), .pur (natD i), .own (encL (ts2 ++ [at0 ks i + (at0 ks (i + 1) - at0 ks i) * u])), .pur (.list (encL ks)), .pur (enc (at0 ks (i + 1) - at0 ks i)), .pur (natD j)], .nx, ?_, .inl rfl, _, _, rfl, fun t ht => ?_, by simp; omega⟩
        · simp [bd_ok, lf_some, cl_ok, a_ret, a_op, a_un, a_test, a_and, a_or, a_not, a_andV, a_orV, a_notV, a_if, a_sif, a_nil, a_cons, a_star, a_list, a_tup, a_sized, a_call, a_built, a_seq, a_set, a_own, a_sret, a_next, a_isi, a_slice, a_part, a_nopart, a_range, a_seqS, a_varP, a_par2, a_xp, a_xo, a_xn, a_asg, a_make, a_chg, a_ixO, a_lenO, a_cntO, items_lst, items_tup, sizeOk, boolD, cmpD, slOf, intOf_int, len_encL, ans_rt, a_fn, List.replicate, g_law_times_1, ixLn (ks := ks) (i := i) (by omega), ef, em, ea, app_ok (fs := ts2) (by omega), encL_snoc]
        · rcases List.mem_append.mp ht with ht | ht
          · exact hT2 t ht
          · rw [List.mem_singleton.mp ht]
            exact ti
      subst k2
      refine ⟨[.pur (.tuple [d0, .list (encL ks), d2]), .pur (natD m), .pur (natD i), .own (encL ts2), .pur (.list (encL ks)), .pur (enc (at0 ks (i + 1) - at0 ks i)), y6], .nx, ?_, .inl rfl, ts2, _, _, _, rfl, k3, by omega⟩
      simp [bd_ok, lf_some, cl_ok, a_ret, a_op, a_un, a_test, a_and, a_or, a_not, a_andV, a_orV, a_notV, a_if, a_sif, a_nil, a_cons, a_star, a_list, a_tup, a_sized, a_call, a_built, a_seq, a_set, a_own, a_sret, a_next, a_isi, a_slice, a_part, a_nopart, a_range, a_seqS, a_varP, a_par2, a_xp, a_xo, a_xn, a_asg, a_make, a_chg, a_ixO, a_lenO, a_cntO, items_lst, items_tup, sizeOk, boolD, cmpD, slOf, intOf_int, len_encL, ans_rt, a_fn, List.replicate, g_law_times_3, ixLn (ks := ks) (i := i) (by omega), ixLn (ks := ks) (i := i + 1) (by omega), nat_add1, eb, es]
      unfold g_law_times_2
      exact k1
    · rw [decide_eq_false c] at eb
      refine ⟨[.pur (.tuple [d0, .list (encL ks), d2]), .pur (natD m), .pur (natD i), .own (encL ts), .pur (.list (encL ks)), x5, x6], .nx, ?_, .inl rfl, ts, _, _, _, rfl, hT, by omega⟩
      simp [bd_ok, lf_some, cl_ok, a_ret, a_op, a_un, a_test, a_and, a_or, a_not, a_andV, a_orV, a_notV, a_if, a_sif, a_nil, a_cons, a_star, a_list, a_tup, a_sized, a_call, a_built, a_seq, a_set, a_own, a_sret, a_next, a_isi, a_slice, a_part, a_nopart, a_range, a_seqS, a_varP, a_par2, a_xp, a_xo, a_xn, a_asg, a_make, a_chg, a_ixO, a_lenO, a_cntO, items_lst, items_tup, sizeOk, boolD, cmpD, slOf, intOf_int, len_encL, ans_rt, a_fn, List.replicate, g_law_times_3, ixLn (ks := ks) (i := i) (by omega), ixLn (ks := ks) (i := i + 1) (by omega), nat_add1, eb]
  subst l2
  have al : addD (.list (encL ts)) (.list [enc (lastR ks)]) = some (.list (encL (ts ++ [lastR ks]))) := by
    rw [encL_snoc]
    exact if_pos (by rw [len_encL]; simp; omega)
  refine ⟨ts ++ [lastR ks], ?_, fun t ht => ?_, by simp; omega⟩
  · rw [e0]
    unfold g_law_times_5
    rw [a_seq, l1, bd_ok]
    simp [bd_ok, lf_some, cl_ok, a_ret, a_op, a_un, a_test, a_and, a_or, a_not, a_andV, a_orV, a_notV, a_if, a_sif, a_nil, a_cons, a_star, a_list, a_tup, a_sized, a_call, a_built, a_seq, a_set, a_own, a_sret, a_next, a_isi, a_slice, a_part, a_nopart, a_range, a_seqS, a_varP, a_par2, a_xp, a_xo, a_xn, a_asg, a_make, a_chg, a_ixO, a_lenO, a_cntO, items_lst, items_tup, sizeOk, boolD, cmpD, slOf, intOf_int, len_encL, ans_rt, a_fn, List.replicate, g_law_times_4, negD, ixL_last (ks := ks) h0, al]
  · rcases List.mem_append.mp ht with ht | ht
    · obtain ⟨q1, q2, q3⟩ := l3 t ht
      exact ⟨q1, q2, bd_between ((hk _ (at0_mem (i := 0) (by omega))).scale hm) ((hk _ (at0_mem (i := ks.length - 1) (by omega))).scale hm) q3 q1 q2⟩
    · rw [List.mem_singleton.mp ht]
      have q := hk _ (at0_mem (fs := ks) (i := ks.length - 1) (by omega))
      exact ⟨mono_of asc 0 _ (by omega) (by omega), Rat.le_refl, q.scale hm⟩
end
end HB
namespace HB
theorem fold_sm : ∀ (l : List Rat) (acc : Rat), l.foldl (· + ·) acc = acc + sm l.length (at0 l)
  | [], acc => by unfold sm; simp; grind
  | a :: l, acc => by
    rw [List.foldl_cons, fold_sm l, List.length_cons, sm_front]
    rw [show at0 (a :: l) 0 = a from rfl, sm_congr (n := l.length) (f := fun i => at0 (a :: l) (i + 1)) (g := at0 l) fun i _ => rfl]
    grind
theorem sumR_sm (l : List Rat) : sumR l = sm l.length (at0 l) := by
  unfold sumR
  rw [fold_sm]
  grind
theorem at0_map {f : Rat → Rat} {ks : List Rat} {i : Nat} (h : i < ks.length) : at0 (ks.map f) i = f (at0 ks i) := by
  rw [at0_lt (by simpa using h), at0_lt h]
  simp
theorem at0_rev {ks : List Rat} {i : Nat} (h : i < ks.length) : at0 ks.reverse i = at0 ks (ks.length - 1 - i) := by
  rw [at0_lt (by simpa using h), at0_lt (by omega)]
  simp
theorem cnt_map {f : Rat → Rat} (hf : ∀ a b, f a = f b → a = b) (ks : List Rat) (q : Rat) : cntR (ks.map f) (f q) = cntR ks q := by
  unfold cntR
  rw [List.filter_map, List.length_map]
  congr 1
  apply List.filter_congr
  intro x _
  simp only [Function.comp_apply, decide_eq_decide]
  exact ⟨hf x q, fun e => by rw [e]⟩
theorem cnt_rev (ks : List Rat) (q : Rat) : cntR ks.reverse q = cntR ks q := by
  unfold cntR
  rw [List.filter_reverse, List.length_reverse]
section
variable {n : Nat} {ks hs : List Rat} {t : Rat}
theorem GoodM.map {f : Rat → Rat} (g : GoodM n ks) (hf : ∀ a b, a < b → f a < f b) : GoodM n (ks.map f) := by
  have l := g.len
  have inj : ∀ a b, f a = f b → a = b := fun a b e => by
    by_cases h : a < b
    · have := hf a b h; grind
    · by_cases h' : b < a
      · have := hf b a h'; grind
      · grind
  have le : ∀ a b, a ≤ b → f a ≤ f b := fun a b h => by
    by_cases e : a = b
    · rw [e]; exact Rat.le_refl
    · have := hf a b (by grind); grind
  refine ⟨by simpa using l, fun i hi => ?_, ?_, ?_, fun i h0 hi => ?_⟩
  · simp at hi
    rw [at0_map (by omega), at0_map (by omega)]
    exact le _ _ (g.asc i hi)
  · rw [at0_map (by omega), cnt_map inj]; exact g.c0
  · rw [List.length_map, at0_map (by omega), cnt_map inj]; exact g.cl
  · simp at hi
    rw [at0_map (by omega), cnt_map inj]; exact g.ci i h0 hi
def revK (ks : List Rat) : List Rat := (ks.map fun q => 0 - q).reverse
theorem revK_len (ks : List Rat) : (revK ks).length = ks.length := by simp [revK]
theorem revK_at {i : Nat} (h : i < ks.length) : at0 (revK ks) i = 0 - at0 ks (ks.length - 1 - i) := by
  unfold revK
  rw [at0_rev (by simpa using h), List.length_map, at0_map (by omega)]
theorem revK_cnt (q : Rat) : cntR (revK ks) (0 - q) = cntR ks q := by
  unfold revK
  rw [cnt_rev, cnt_map (f := fun q => 0 - q) (fun a b e => by grind)]
theorem GoodM.rev (g : GoodM n ks) : GoodM n (revK ks) := by
  have l := g.len
  refine ⟨by rw [revK_len]; exact l, fun i hi => ?_, ?_, ?_, fun i h0 hi => ?_⟩
  · rw [revK_len] at hi
    rw [revK_at (by omega), revK_at (by omega)]
    have := g.asc (ks.length - 1 - (i + 1)) (by omega)
    rw [show ks.length - 1 - (i + 1) + 1 = ks.length - 1 - i by omega] at this
    grind
  · rw [revK_at (by omega), revK_cnt]; exact g.cl
  · rw [revK_len, revK_at (by omega), revK_cnt, show ks.length - 1 - (ks.length - 1) = 0 by omega]; exact g.c0
  · rw [revK_len] at hi
    rw [revK_at (by omega), revK_cnt]; exact g.ci _ (by omega) (by omega)
theorem valR_sm (hc : hs.length + 1 = n + ks.length) : valR n ks hs t = sm hs.length fun i => Nb (at0 (knots n ks)) t (spanN (at0 (knots n ks)) (2 * n + ks.length - 1) t) n i * at0 hs i := by
  unfold valR
  rw [knots_len, sumR_sm]
  have ln : (((lvl (at0 (knots n ks)) t (spanN (at0 (knots n ks)) (2 * n + ks.length - 1) t) (2 * n + ks.length) n).zip hs).map fun p => p.1 * p.2).length = hs.length := by
    rw [List.length_map, List.length_zip, lvl_len]
    omega
  rw [ln]
  apply sm_congr
  intro i hi
  rw [at0_lt (by rw [ln]; exact hi), List.getElem_map, List.getElem_zip, at0_lt hi]
  simp [lvl]
theorem valR_any (g : GoodM n ks) (hc : hs.length + 1 = n + ks.length) (h1 : at0 ks 0 ≤ t) (h2 : t ≤ lastR ks) {s : Nat} (a : At (2 * n + ks.length) (at0 (knots n ks)) t s) : valR n ks hs t = sm hs.length fun i => Nb (at0 (knots n ks)) t s n i * at0 hs i := by
  rw [valR_sm hc]
  exact sm_congr fun i _ => by rw [any_piece g.kn (g.span h1 h2) a i]
theorem knots_map {f : Rat → Rat} {i : Nat} (h0 : 0 < ks.length) (hi : i < 2 * n + ks.length) : at0 (knots n (ks.map f)) i = f (at0 (knots n ks) i) := by
  rw [kn_at (by simpa using h0) (by simpa using hi), kn_at h0 hi, List.length_map, lastR, List.length_map, at0_map h0, at0_map (i := ks.length - 1) (by omega)]
  by_cases c1 : i < n
  · rw [if_pos c1, if_pos c1]
  · rw [if_neg c1, if_neg c1]
    by_cases c2 : i < n + ks.length
    · rw [if_pos c2, if_pos c2, at0_map (by omega)]
    · rw [if_neg c2, if_neg c2]
theorem knots_rev {i : Nat} (h0 : 0 < ks.length) (hi : i < 2 * n + ks.length) : at0 (knots n (revK ks)) i = -(at0 (knots n ks) (2 * n + ks.length - 1 - i)) := by
  rw [kn_at (by rw [revK_len]; exact h0) (by rw [revK_len]; exact hi), kn_at h0 (by omega), revK_len, lastR, revK_len, revK_at h0, revK_at (i := ks.length - 1) (by omega)]
  by_cases c1 : i < n
  · rw [if_pos c1, if_neg (by omega), if_neg (by omega), Nat.sub_zero]
    show 0 - lastR ks = _
    grind
  · rw [if_neg c1]
    by_cases c2 : i < n + ks.length
    · rw [if_pos c2, revK_at (by omega), if_neg (by omega), if_pos (by omega), show 2 * n + ks.length - 1 - i - n = ks.length - 1 - (i - n) by omega]
      grind
    · rw [if_neg c2, if_pos (by omega), show ks.length - 1 - (ks.length - 1) = 0 by omega]
      grind
/-- times led over -/
theorem val_led {w c : Rat} (hw : 0 < w) (g : GoodM n ks) (hc : hs.length + 1 = n + ks.length) (h1 : at0 ks 0 ≤ t) (h2 : t ≤ lastR ks) : valR n (ks.map fun q => q * w + c) hs (t * w + c) = valR n ks hs t := by
  have l := g.len
  have mo : ∀ a b : Rat, a < b → a * w + c < b * w + c := fun a b h => by
    have := Rat.mul_lt_mul_of_pos_right h hw
    grind
  have le : ∀ a b : Rat, a ≤ b → a * w + c ≤ b * w + c := fun a b h => by
    have := Rat.mul_le_mul_of_nonneg_right h (Rat.le_of_lt hw)
    grind
  have g' := g.map (f := fun q => q * w + c) mo
  have a := g.span h1 h2
  have kk : ∀ i, i < 2 * n + ks.length → at0 (knots n (ks.map fun q => q * w + c)) i = at0 (knots n ks) i * w + c := fun i hi => knots_map (f := fun q => q * w + c) (by omega) hi
  have lt := a.lt
  have a' : At (2 * n + (ks.map fun q => q * w + c).length) (at0 (knots n (ks.map fun q => q * w + c))) (t * w + c) (spanN (at0 (knots n ks)) (2 * n + ks.length - 1) t) := by
    rw [List.length_map]
    refine ⟨lt, ?_, ?_, ?_⟩
    · rw [kk _ (by omega), kk _ (by omega)]; exact mo _ _ a.full
    · rw [kk _ (by omega)]; exact le _ _ a.le1
    · rw [kk _ (by omega)]; exact le _ _ a.le2
  rw [valR_any g' (by simpa using hc) (by rw [at0_map (by omega)]; exact le _ _ h1) (by rw [lastR, List.length_map, at0_map (by omega)]; exact le _ _ h2) a', valR_sm hc]
  refine sm_congr fun i hi => ?_
  congr 1
  have e := Nb_aff (k := at0 (knots n ks)) (t := t) (s := spanN (at0 (knots n ks)) (2 * n + ks.length - 1) t) (w := w) (c := c) (by grind) n i
  rw [show w * t + c = t * w + c by grind] at e
  rw [← e]
  exact Nb_congr n i fun j h1 h2 => by rw [kk j (by omega)]; grind
/-- turned about in time -/
theorem val_rev (g : GoodM n ks) (hc : hs.length + 1 = n + ks.length) (h1 : at0 ks 0 ≤ t) (h2 : t ≤ lastR ks) : valR n (revK ks) hs.reverse (0 - t) = valR n ks hs t := by
  have l := g.len
  have a := g.span h1 h2
  generalize hs' : spanN (at0 (knots n ks)) (2 * n + ks.length - 1) t = s at a
  have lt := a.lt
  have kk : ∀ i, i < 2 * n + ks.length → at0 (knots n (revK ks)) i = -(at0 (knots n ks) (2 * n + ks.length - 1 - i)) := fun i hi => knots_rev (by omega) hi
  have a' : At (2 * n + (revK ks).length) (at0 (knots n (revK ks))) (0 - t) (2 * n + ks.length - 2 - s) := by
    rw [revK_len]
    have f := a.full
    have l1 := a.le1
    have l2 := a.le2
    refine ⟨by omega, ?_, ?_, ?_⟩
    · rw [kk _ (by omega), kk _ (by omega), show 2 * n + ks.length - 1 - (2 * n + ks.length - 2 - s) = s + 1 by omega, show 2 * n + ks.length - 1 - (2 * n + ks.length - 2 - s + 1) = s by omega]
      grind
    · rw [kk _ (by omega), show 2 * n + ks.length - 1 - (2 * n + ks.length - 2 - s) = s + 1 by omega]
      grind
    · rw [kk _ (by omega), show 2 * n + ks.length - 1 - (2 * n + ks.length - 2 - s + 1) = s by omega]
      grind
  rw [valR_any g.rev (by rw [revK_len, List.length_reverse]; exact hc) (by rw [revK_at (by omega), Nat.sub_zero]; have : t ≤ at0 ks (ks.length - 1) := h2; grind) (by rw [lastR, revK_len, revK_at (by omega), show ks.length - 1 - (ks.length - 1) = 0 by omega]; grind) a', valR_sm hc, hs', List.length_reverse]
  rw [sm_rev hs.length fun i => Nb (at0 (knots n ks)) t s n i * at0 hs i]
  refine sm_congr fun i hi => ?_
  rw [at0_rev hi, show (0 : Rat) - t = -t by grind, Nb_rev (L := 2 * n + ks.length) kk (by omega) n i (by omega), show 2 * n + ks.length - 2 - n - i = hs.length - 1 - i by omega]
/-- handles moved and multiplied -/
theorem val_high {w u : Rat} (g : GoodM n ks) (hc : hs.length + 1 = n + ks.length) (h1 : at0 ks 0 ≤ t) (h2 : t ≤ lastR ks) : valR n ks (hs.map fun q => q * w + u) t = valR n ks hs t * w + u := by
  have a := g.span h1 h2
  rw [valR_sm (by simpa using hc), valR_sm hc, List.length_map]
  have un := unity g.kn a
  rw [show 2 * n + ks.length - 1 - n = hs.length by omega] at un
  generalize spanN (at0 (knots n ks)) (2 * n + ks.length - 1) t = s at un
  rw [sm_congr (g := fun i => w * (Nb (at0 (knots n ks)) t s n i * at0 hs i) + u * Nb (at0 (knots n ks)) t s n i) fun i hi => by rw [at0_map hi]; grind]
  rw [sm_add, sm_mul, sm_mul, un]
  grind
theorem sm_nonneg {m : Nat} {f : Nat → Rat} (h : ∀ i, i < m → 0 ≤ f i) : 0 ≤ sm m f := by
  induction m with
  | zero => unfold sm; grind
  | succ m ih =>
    unfold sm
    exact Rat.add_nonneg (ih fun i hi => h i (by omega)) (h m (by omega))
/-- between the least and the greatest handle -/
theorem val_between {lo hi : Rat} (g : GoodM n ks) (hc : hs.length + 1 = n + ks.length) (h1 : at0 ks 0 ≤ t) (h2 : t ≤ lastR ks) (hl : ∀ q ∈ hs, lo ≤ q) (hh : ∀ q ∈ hs, q ≤ hi) : lo ≤ valR n ks hs t ∧ valR n ks hs t ≤ hi := by
  have a := g.span h1 h2
  have un := unity g.kn a
  rw [show 2 * n + ks.length - 1 - n = hs.length by omega] at un
  rw [valR_sm hc]
  generalize spanN (at0 (knots n ks)) (2 * n + ks.length - 1) t = s at un a
  have nn : ∀ i, i < hs.length → 0 ≤ Nb (at0 (knots n ks)) t s n i := fun i hi => Nb_nonneg g.kn a n i (by omega)
  have p1 := sm_nonneg (m := hs.length) (f := fun i => Nb (at0 (knots n ks)) t s n i * (at0 hs i - lo)) fun i hi => Rat.mul_nonneg (nn i hi) (by have := hl _ (at0_mem hi); grind)
  have p2 := sm_nonneg (m := hs.length) (f := fun i => Nb (at0 (knots n ks)) t s n i * (hi - at0 hs i)) fun i hi' => Rat.mul_nonneg (nn i hi') (by have := hh _ (at0_mem hi'); grind)
  rw [sm_congr (g := fun i => Nb (at0 (knots n ks)) t s n i * at0 hs i + (-lo) * Nb (at0 (knots n ks)) t s n i) fun i _ => by grind, sm_add, sm_mul, un] at p1
  rw [sm_congr (g := fun i => hi * Nb (at0 (knots n ks)) t s n i + (-1) * (Nb (at0 (knots n ks)) t s n i * at0 hs i)) fun i _ => by grind, sm_add, sm_mul, sm_mul, un] at p2
  constructor <;> grind
/-- a line by its homes -/
theorem val_line (hn : 0 < n) (g : GoodM n ks) (h1 : at0 ks 0 ≤ t) (h2 : t ≤ lastR ks) : valR n ks ((List.range (n + ks.length - 1)).map fun i => inner (at0 (knots n ks)) i n / (n : Rat)) t = t := by
  have l := g.len
  have a := g.span h1 h2
  have li := linear g.kn a
  rw [show 2 * n + ks.length - 1 - n = n + ks.length - 1 by omega] at li
  rw [valR_sm (by simp; omega)]
  generalize spanN (at0 (knots n ks)) (2 * n + ks.length - 1) t = s at li
  have ln : ((List.range (n + ks.length - 1)).map fun i => inner (at0 (knots n ks)) i n / (n : Rat)).length = n + ks.length - 1 := by simp
  rw [ln]
  have n0 : (n : Rat) ≠ 0 := by
    have : (0 : Rat) < n := by exact_mod_cast hn
    grind
  rw [sm_congr (g := fun i => (1 / (n : Rat)) * (inner (at0 (knots n ks)) i n * Nb (at0 (knots n ks)) t s n i)) fun i hi => by
    rw [at0_lt (by rw [ln]; exact hi), List.getElem_map, List.getElem_range]
    grind]
  rw [sm_mul, li]
  grind
end
end HB
namespace HB
open PySem L2
theorem intOf_nat (i : Nat) : intOf (natD i) = some (i : Int) := id rfl
theorem enc_nat (n : Nat) : enc (n : Rat) = .tuple [.int n, .int 1] := by simp [enc]
theorem ht_nat {n B : Nat} (h : n < 2 ^ B) (hB : 0 < B) : Ht B (n : Rat) := by
  refine ⟨by simpa using h, ?_⟩
  rw [Rat.den_natCast]
  exact Nat.one_lt_two_pow (by omega)
theorem sum_inner {K : List Rat} {i n : Nat} (h : i + 1 + n ≤ K.length) : sumR ((K.drop (i + 1)).take n) = inner (at0 K) i n := by
  rw [sumR_sm]
  have ln : ((K.drop (i + 1)).take n).length = n := by simp; omega
  rw [ln]
  unfold inner
  apply sm_congr
  intro j hj
  rw [at0_lt (by rw [ln]; exact hj), at0_lt (by omega)]
  simp
section
variable {n : Nat} {ks hs : List Rat} {z : Str} {S : Nat}
def homesR (n : Nat) (ks : List Rat) : List Rat := (List.range (n + ks.length - 1)).map fun i => inner (at0 (knots n ks)) i n / (n : Rat)
theorem homes_enc (hn : 0 < n) (hn2 : n ≤ 100) (hk : ∀ q ∈ ks, Ht S q) (hS : (n + 1) * (S + 1) + 21 ≤ 9000) (h2 : 2 ≤ ks.length) (hl : ks.length ≤ 100) (hc : hs.length + 1 = n + ks.length) : F_homes [bendD n ks hs z] = some (.ok (.tuple (encL (homesR n ks)))) := by
  have kl := knots_len n ks
  have hk' : ∀ q ∈ knots n ks, Ht S q := fun q hq => hk q (knots_mem (by omega) hq)
  have e2 := knots_enc (n := n) (d := .tuple (encL ks)) (items_tup _) (by omega) (by omega) (by omega)
  have q0 : eqD (.int (n : Int)) (.int 0) = some (.bool false) := by simp [eqD]; omega
  have rg : range1D [.int (hs.length : Int)] = _ := range1_of hs.length rfl (by omega)
  have n0 : (n : Rat) ≠ 0 := by
    have : (0 : Rat) < n := by exact_mod_cast hn
    grind
  have b1 : mBlk [3] (mRange range1D (mCons (mBuilt lenD (mCons (mUn (fldD "Bend" "handles") (mVar 0)) (mNil))) (mNil))) (lcBody [3] (gSet 3) (mRet true) (mCall F_quotient (mCons (mCall F_summed (mCons (mSlice (mVar 1) (mPart (mOp addD (mVar 3) (mRet (.int 1)))) (mPart (mOp addD (mOp addD (mVar 3) (mVar 2)) (mRet (.int 1))))) (mNil))) (mCons (mTup (mCons (mVar 2) (mCons (mRet (.int 1)) (mNil)))) (mNil)))))
      [.pur (bendD n ks hs z), .pur (.tuple (encL (knots n ks))), .pur (.int n), .no] = some (.ok ([.pur (bendD n ks hs z), .pur (.tuple (encL (knots n ks))), .pur (.int n), .no], (List.range hs.length).map fun i => enc (inner (at0 (knots n ks)) i n / (n : Rat)))) :=
    blk_map (List.range hs.length) natD _ (by simp [bd_ok, lf_some, cl_ok, a_ret, a_op, a_un, a_test, a_and, a_or, a_not, a_andV, a_orV, a_notV, a_if, a_sif, a_nil, a_cons, a_star, a_list, a_tup, a_sized, a_call, a_built, a_seq, a_set, a_own, a_sret, a_next, a_isi, a_slice, a_part, a_nopart, a_range, a_seqS, a_varP, a_par2, a_xp, a_xo, a_xn, a_asg, a_make, a_chg, a_ixO, a_lenO, a_cntO, items_lst, items_tup, sizeOk, boolD, cmpD, slOf, intOf_int, len_encL, ans_rt, a_fn, List.replicate, f_handles, lenD, rg]) (by simp; omega) rfl fun i hi => by
      have hi := List.mem_range.mp hi
      have na : addD (natD i) (.int (n : Int)) = some (natD (i + n)) := nat_add i n
      have s1 : HT.sIx (knots n ks).length 0 (some ((i + 1 : Nat) : Int)) = i + 1 := by rw [HT.sIx_nat]; omega
      have s2 : HT.sIx (knots n ks).length (knots n ks).length (some ((i + n + 1 : Nat) : Int)) = i + n + 1 := by rw [HT.sIx_nat]; omega
      have sl : slD (some ((i + 1 : Nat) : Int)) (some ((i + n + 1 : Nat) : Int)) (.tuple (encL (knots n ks))) = some (.tuple (encL (((knots n ks).drop (i + 1)).take n))) := by
        simp only [slD, cutD, len_encL, s1, s2]
        rw [show i + n + 1 - (i + 1) = n by omega]
        simp only [encL, List.map_take, List.map_drop]
      have sl2 : slD (some ((i : Int) + 1)) (some ((i : Int) + n + 1)) (.tuple (encL (knots n ks))) = some (.tuple (encL (((knots n ks).drop (i + 1)).take n))) := by
        rw [show (i : Int) + 1 = ((i + 1 : Nat) : Int) by omega, show (i : Int) + n + 1 = ((i + n + 1 : Nat) : Int) by omega]
        exact sl
      have ln : (((knots n ks).drop (i + 1)).take n).length = n := by simp; omega
      have mem : ∀ q ∈ ((knots n ks).drop (i + 1)).take n, Ht S q := fun q hq => hk' q (List.mem_of_mem_drop (List.mem_of_mem_take hq))
      have sm1 := summed_enc (A := S) (d := .tuple (encL (((knots n ks).drop (i + 1)).take n))) (items_tup _) mem (by rw [ln]; omega)
      have h1 := ht_sum _ mem
      rw [ln] at h1
      rw [Nat.add_mul] at hS
      have qq : F_quotient [enc (sumR (((knots n ks).drop (i + 1)).take n)), enc (n : Rat)] = _ := quotient_enc h1 (ht_nat (n := n) (B := 20) (by omega) (by decide)) n0 (by omega)
      rw [enc_nat, sum_inner (by omega)] at qq
      rw [sum_inner (by omega)] at sm1
      simp [bd_ok, lf_some, cl_ok, a_ret, a_op, a_un, a_test, a_and, a_or, a_not, a_andV, a_orV, a_notV, a_if, a_sif, a_nil, a_cons, a_star, a_list, a_tup, a_sized, a_call, a_built, a_seq, a_set, a_own, a_sret, a_next, a_isi, a_slice, a_part, a_nopart, a_range, a_seqS, a_varP, a_par2, a_xp, a_xo, a_xn, a_asg, a_make, a_chg, a_ixO, a_lenO, a_cntO, items_lst, items_tup, sizeOk, boolD, cmpD, slOf, intOf_int, len_encL, ans_rt, a_fn, List.replicate, nat_add1, intOf_nat, na, sl2, sm1, qq]
  have eL : ((List.range hs.length).map fun i => enc (inner (at0 (knots n ks)) i n / (n : Rat))) = encL (homesR n ks) := by
    unfold encL homesR
    rw [show n + ks.length - 1 = hs.length by omega, List.map_map]
    rfl
  rw [eL] at b1
  simp [bd_ok, lf_some, cl_ok, a_ret, a_op, a_un, a_test, a_and, a_or, a_not, a_andV, a_orV, a_notV, a_if, a_sif, a_nil, a_cons, a_star, a_list, a_tup, a_sized, a_call, a_built, a_seq, a_set, a_own, a_sret, a_next, a_isi, a_slice, a_part, a_nopart, a_range, a_seqS, a_varP, a_par2, a_xp, a_xo, a_xn, a_asg, a_make, a_chg, a_ixO, a_lenO, a_cntO, items_lst, items_tup, sizeOk, boolD, cmpD, slOf, intOf_int, len_encL, ans_rt, a_fn, List.replicate, F_homes, g_homes, f_degree, f_marks, e2, gTupD, gConsD, gSet, gNilD, g_homes_2, q0, g_homes_1, b1, tupleD]
end
end HB
namespace HB
open PySem L2
theorem share_bd {a b t : Rat} {N M S : Nat} (ha : Bd N M a) (hb : Bd N M b) (ht : Bd N M t) (h : 2 * M < 2 ^ S) (hS : 1 ≤ S) : Ht S (share a b t) := by
  unfold share
  split
  · exact ht0.mono hS
  · rename_i ne
    obtain ⟨p, x, e1, x1⟩ := ht.sub ha
    obtain ⟨_, y, e2, y1⟩ := hb.sub ha
    have y0 : y ≠ 0 := fun z => ne (by
      rw [z, Rat.zero_divInt] at e2
      grind)
    have nN : ((N : Int) : Rat) ≠ 0 := by
      have : (0 : Rat) < ((N : Int) : Rat) := by exact_mod_cast p
      grind
    have yy : ((y : Int) : Rat) ≠ 0 := by exact_mod_cast y0
    have e : (t - a) / (b - a) = Rat.divInt x y := by
      rw [e1, e2, Rat.divInt_eq_div, Rat.divInt_eq_div, Rat.divInt_eq_div]
      grind
    rw [e]
    exact ht_divInt y0 (by omega) (by omega)
theorem Small.bd {m : Nat} {q : Rat} (h : Small m q) : Bd 6 (6 * m) q := by
  obtain ⟨t, d, hd, h1, h2, rfl⟩ := h
  refine ⟨by decide, t * (6 / d), ?_, ?_⟩
  · rcases hd with rfl | rfl | rfl
    · rw [show (6 : Int) / 1 = 6 from rfl, show Rat.divInt t 1 = Rat.divInt (t * 6) (1 * 6) from (Rat.divInt_mul_right (by decide)).symm]; rfl
    · rw [show (6 : Int) / 2 = 3 from rfl, show Rat.divInt t 2 = Rat.divInt (t * 3) (2 * 3) from (Rat.divInt_mul_right (by decide)).symm]; rfl
    · rw [show (6 : Int) / 3 = 2 from rfl, show Rat.divInt t 3 = Rat.divInt (t * 2) (3 * 2) from (Rat.divInt_mul_right (by decide)).symm]; rfl
  · rcases hd with rfl | rfl | rfl
    · rw [show (6 : Int) / 1 = 6 from rfl]; omega
    · rw [show (6 : Int) / 2 = 3 from rfl]; omega
    · rw [show (6 : Int) / 3 = 2 from rfl]; omega
theorem bd_sm {N M : Nat} (hN : 0 < N) {f : Nat → Rat} : ∀ d, (∀ i, i < d → Bd N M (f i)) → Bd N (d * M) (sm d f)
  | 0, _ => ⟨hN, 0, by unfold sm; rw [Rat.zero_divInt], by simp⟩
  | d + 1, h => by
    unfold sm
    exact ((bd_sm hN d fun i hi => h i (by omega)).add (h d (by omega))).mono (by rw [Nat.add_mul]; omega)
theorem inner_bd {n N M : Nat} {ks : List Rat} (hN : 0 < N) (hk : ∀ q ∈ ks, Bd N M q) (h0 : 0 < ks.length) {i : Nat} (hi : i + n < 2 * n + ks.length) : Bd N (n * M) (inner (at0 (knots n ks)) i n) :=
  bd_sm hN n fun j hj => hk _ (knots_mem (n := n) h0 (at0_mem (by rw [knots_len]; omega)))
theorem homes_ht {n M S : Nat} {ks : List Rat} (hn : 0 < n) (hk : ∀ q ∈ ks, Bd 6 M q) (h0 : 0 < ks.length) (h1 : 6 * n < 2 ^ S) (h2 : n * M < 2 ^ S) : ∀ q ∈ homesR n ks, Ht S q := fun q hq => by
  simp only [homesR, List.mem_map, List.mem_range] at hq
  obtain ⟨i, hi, rfl⟩ := hq
  obtain ⟨_, x, e, x1⟩ := inner_bd (n := n) (by decide) hk h0 (i := i) (by omega)
  have e2 : inner (at0 (knots n ks)) i n / (n : Rat) = Rat.divInt x (6 * n) := by
    rw [e, Rat.divInt_eq_div, Rat.divInt_eq_div]
    have nn : (n : Rat) ≠ 0 := by
      have : (0 : Rat) < n := by exact_mod_cast hn
      grind
    rw [show (((6 * n : Int)) : Rat) = 6 * (n : Rat) by rw [Rat.intCast_mul]; rfl, show (((6 : Nat) : Int) : Rat) = 6 from rfl]
    grind
  rw [e2]
  exact ht_divInt (by omega) (by omega) (by omega)
theorem homesR_len (n : Nat) (ks : List Rat) : (homesR n ks).length = n + ks.length - 1 := by simp [homesR]
section
variable {n N M : Nat} {ks hs : List Rat} {t : Rat} {z : Str}
theorem bits13 (hn : n ≤ 4) : bitsN 13 n ≤ 421 := Nat.le_trans (bitsN_mono 13 n 4 hn) (by decide)
theorem mk_ok {d e : D} (g : GoodM n ks) (hn : n ≤ 4) (hd : SeqOf d ks) (he : SeqOf e hs) (hk : ∀ q ∈ ks, Ht 13 q) (hh : ∀ q ∈ hs, Ht 13 q) (hl : ks.length ≤ 5) (hc : hs.length + 1 = n + ks.length) :
    I_Bend [.int n, d, e] = some (.ok [(.str "degree", .int n), (.str "marks", .tuple (encL ks)), (.str "handles", .tuple (encL hs)), (.str "text", .str (textB n ks hs))]) :=
  bend_init g hd he hk hh (by decide) (by omega) (by omega) (by omega) hc
theorem fold_bend : PyData.dict [(.str "Bend", .none), (.str "degree", .int n), (.str "marks", .tuple (encL ks)), (.str "handles", .tuple (encL hs)), (.str "text", .str z)] = bendD n ks hs z := id rfl
theorem ne_enc (a b : Rat) : neD (enc a) (enc b) = some (.bool (!decide (a = b))) := by
  have e : neD (enc a) (enc b) = if SeqAt.shaped (enc a) = true ∧ SeqAt.shaped (enc b) = true then some (.bool (!PyData.eqv (enc a) (enc b))) else none := rfl
  rw [e, if_pos ⟨shaped_enc a, shaped_enc b⟩, eqv_enc]
end
end HB
namespace HB
open PySem L2
structure Vl (x : D) (q : Rat) : Prop where
  v : F_is_value [x] = some (.ok (.bool true))
  o : F_value_of [x] = some (.ok (enc q))
theorem vl_enc (q : Rat) : Vl (enc q) q := ⟨is_value_enc q, value_of_enc q⟩
theorem vl_int (i : Int) : Vl (.int i) (i : Rat) := by
  refine ⟨id rfl, ?_⟩
  rw [show enc (i : Rat) = .tuple [.int i, .int 1] by simp [enc]]
  exact id rfl
def amB (n : Nat) (ks : List Rat) : Bool := !((List.range (ks.length - 1)).any fun i => decide (at0 ks (i + 1) < at0 ks i)) && (decide (cntR ks (at0 ks 0) = 1) && (decide (cntR ks (lastR ks) = 1) && ((ks.drop 1).take (ks.length - 2)).all fun q => decide (cntR ks q ≤ n)))
theorem am_noseq {n : Nat} {d : D} (h : F_is_sequence [d] = some (.ok (.bool false))) : F_are_marks [.int n, d] = some (.ok (.bool false)) := by
  simp [bd_ok, lf_some, cl_ok, a_ret, a_op, a_un, a_test, a_and, a_or, a_not, a_andV, a_orV, a_notV, a_if, a_sif, a_nil, a_cons, a_star, a_list, a_tup, a_sized, a_call, a_built, a_seq, a_set, a_own, a_sret, a_next, a_isi, a_slice, a_part, a_nopart, a_range, a_seqS, a_varP, a_par2, a_xp, a_xo, a_xn, a_asg, a_make, a_chg, a_ixO, a_lenO, a_cntO, items_lst, items_tup, sizeOk, boolD, cmpD, slOf, intOf_int, len_encL, ans_rt, a_fn, List.replicate, F_are_marks, g_are_marks, h]
theorem seq_lst (xs : List D) : F_is_sequence [.list xs] = some (.ok (.bool true)) := id rfl
theorem am_short {n : Nat} {xs : List D} (h : xs.length ≤ 1) : F_are_marks [.int n, .list xs] = some (.ok (.bool false)) := by
  have l1 : leI (xs.length : Int) 1 = true := decide_eq_true (by omega)
  have ln : lenD [.list xs] = some (.int xs.length) := id rfl
  simp [bd_ok, lf_some, cl_ok, a_ret, a_op, a_un, a_test, a_and, a_or, a_not, a_andV, a_orV, a_notV, a_if, a_sif, a_nil, a_cons, a_star, a_list, a_tup, a_sized, a_call, a_built, a_seq, a_set, a_own, a_sret, a_next, a_isi, a_slice, a_part, a_nopart, a_range, a_seqS, a_varP, a_par2, a_xp, a_xo, a_xn, a_asg, a_make, a_chg, a_ixO, a_lenO, a_cntO, items_lst, items_tup, sizeOk, boolD, cmpD, slOf, intOf_int, len_encL, ans_rt, a_fn, List.replicate, F_are_marks, g_are_marks, seq_lst, ln, l1]
theorem vals_blk {v : Nat} {ρ : En} {i : Nat} {d : D} {xs : List D} (p : D → Bool) (hd : itemsD d = some xs) (hi : ρ[i]? = some (.pur d)) (hl : xs.length < 1000000) (ho : noOwn ρ [v] = true) (hv : v < ρ.length) (hp : ∀ x ∈ xs, F_is_value [x] = some (.ok (.bool (p x)))) : mBlk [v] (mSeqS (mVar i)) (lcBody [v] (gSet v) (mRet true) (mCall F_is_value (mCons (mVar v) (mNil)))) ρ = some (.ok (ρ, xs.map fun x => .bool (p x))) :=
  blk_map xs id _ (by simp [bd_ok, lf_some, cl_ok, a_ret, a_op, a_un, a_test, a_and, a_or, a_not, a_andV, a_orV, a_notV, a_if, a_sif, a_nil, a_cons, a_star, a_list, a_tup, a_sized, a_call, a_built, a_seq, a_set, a_own, a_sret, a_next, a_isi, a_slice, a_part, a_nopart, a_range, a_seqS, a_varP, a_par2, a_xp, a_xo, a_xn, a_asg, a_make, a_chg, a_ixO, a_lenO, a_cntO, items_lst, items_tup, sizeOk, boolD, cmpD, slOf, intOf_int, len_encL, ans_rt, a_fn, List.replicate, hi, hd]) hl ho fun x hx => by simp [bd_ok, lf_some, cl_ok, a_ret, a_op, a_un, a_test, a_and, a_or, a_not, a_andV, a_orV, a_notV, a_if, a_sif, a_nil, a_cons, a_star, a_list, a_tup, a_sized, a_call, a_built, a_seq, a_set, a_own, a_sret, a_next, a_isi, a_slice, a_part, a_nopart, a_range, a_seqS, a_varP, a_par2, a_xp, a_xo, a_xn, a_asg, a_make, a_chg, a_ixO, a_lenO, a_cntO, items_lst, items_tup, sizeOk, boolD, cmpD, slOf, intOf_int, len_encL, ans_rt, a_fn, List.replicate, hv, hp x hx]
theorem am_novalue {n : Nat} {xs : List D} (p : D → Bool) (h2 : 2 ≤ xs.length) (hl : xs.length ≤ 1000) (hp : ∀ x ∈ xs, F_is_value [x] = some (.ok (.bool (p x)))) (no : xs.all p = false) : F_are_marks [.int n, .list xs] = some (.ok (.bool false)) := by
  have l1 : leI (xs.length : Int) 1 = false := decide_eq_false (by omega)
  have ln : lenD [.list xs] = some (.int xs.length) := id rfl
  have b := vals_blk (v := 4) (i := 1) (d := .list xs) (ρ := [.pur (.int n), .pur (.list xs), .no, .no, .no, .no, .no, .no]) p rfl rfl (by omega) rfl (by simp) hp
  have al := all_map p xs
  rw [no] at al
  simp [bd_ok, lf_some, cl_ok, a_ret, a_op, a_un, a_test, a_and, a_or, a_not, a_andV, a_orV, a_notV, a_if, a_sif, a_nil, a_cons, a_star, a_list, a_tup, a_sized, a_call, a_built, a_seq, a_set, a_own, a_sret, a_next, a_isi, a_slice, a_part, a_nopart, a_range, a_seqS, a_varP, a_par2, a_xp, a_xo, a_xn, a_asg, a_make, a_chg, a_ixO, a_lenO, a_cntO, items_lst, items_tup, sizeOk, boolD, cmpD, slOf, intOf_int, len_encL, ans_rt, a_fn, List.replicate, F_are_marks, g_are_marks, seq_lst, ln, l1, b, al]
theorem am_gen {n B : Nat} {L : List (D × Rat)} (hv : ∀ p ∈ L, Vl p.1 p.2) (hk : ∀ p ∈ L, Ht B p.2) (hB : 2 * B ≤ 9000) (h2 : 2 ≤ L.length) (hl : L.length ≤ 1000) : F_are_marks [.int n, .list (L.map (·.1))] = some (.ok (.bool (amB n (L.map (·.2))))) := by
  obtain ⟨ks, ek⟩ : ∃ ks, ks = L.map (·.2) := ⟨_, rfl⟩
  obtain ⟨xs, ex⟩ : ∃ xs, xs = L.map (·.1) := ⟨_, rfl⟩
  have lk : ks.length = L.length := by rw [ek]; simp
  have lx : xs.length = L.length := by rw [ex]; simp
  have hkk : ∀ q ∈ ks, Ht B q := fun q hq => by rw [ek] at hq; obtain ⟨p, hp, rfl⟩ := List.mem_map.mp hq; exact hk p hp
  rw [← ek, ← ex]
  have l1 : leI (xs.length : Int) 1 = false := decide_eq_false (by omega)
  have ln : lenD [.list xs] = some (.int xs.length) := id rfl
  have av := vals_blk (v := 4) (i := 1) (d := .list xs) (xs := xs) (ρ := [.pur (.int n), .pur (.list xs), .no, .no, .no, .no, .no, .no]) (fun _ => true) rfl rfl (by omega) rfl (by simp) fun x hx => by
    rw [ex] at hx
    obtain ⟨p, hp, rfl⟩ := List.mem_map.mp hx
    exact (hv p hp).v
  have alv := all_map (fun _ : D => true) xs
  rw [List.all_eq_true.mpr (fun _ _ => rfl)] at alv
  have b1 : mBlk [4] (mSeqS (mVar 1)) (lcBody [4] (gSet 4) (mRet true) (mCall F_value_of (mCons (mVar 4) (mNil)))) [.pur (.int n), .pur (.list xs), .no, .no, .no, .no, .no, .no] = some (.ok ([.pur (.int n), .pur (.list xs), .no, .no, .no, .no, .no, .no], encL ks)) := by
    have b := blk_map (v := 4) (src := mSeqS (mVar 1)) (elt := mCall F_value_of (mCons (mVar 4) (mNil))) (ρ := [.pur (.int n), .pur (.list xs), .no, .no, .no, .no, .no, .no]) L (·.1) (fun p => enc p.2) (by simp [bd_ok, lf_some, cl_ok, a_ret, a_op, a_un, a_test, a_and, a_or, a_not, a_andV, a_orV, a_notV, a_if, a_sif, a_nil, a_cons, a_star, a_list, a_tup, a_sized, a_call, a_built, a_seq, a_set, a_own, a_sret, a_next, a_isi, a_slice, a_part, a_nopart, a_range, a_seqS, a_varP, a_par2, a_xp, a_xo, a_xn, a_asg, a_make, a_chg, a_ixO, a_lenO, a_cntO, items_lst, items_tup, sizeOk, boolD, cmpD, slOf, intOf_int, len_encL, ans_rt, a_fn, List.replicate, ex]) (by omega) rfl fun p hp => by
      have := (hv p hp).o
      simp [bd_ok, lf_some, cl_ok, a_ret, a_op, a_un, a_test, a_and, a_or, a_not, a_andV, a_orV, a_notV, a_if, a_sif, a_nil, a_cons, a_star, a_list, a_tup, a_sized, a_call, a_built, a_seq, a_set, a_own, a_sret, a_next, a_isi, a_slice, a_part, a_nopart, a_range, a_seqS, a_varP, a_par2, a_xp, a_xo, a_xn, a_asg, a_make, a_chg, a_ixO, a_lenO, a_cntO, items_lst, items_tup, sizeOk, boolD, cmpD, slOf, intOf_int, len_encL, ans_rt, a_fn, List.replicate, this]
    rw [b, ek]
    simp [encL]
  have r1 : range1D [.int ((ks.length : Int) - 1)] = _ := range1_of (ks.length - 1) (by omega) (by omega)
  have b2 : mBlk [6] (mRange range1D (mCons (mOp subD (mBuilt lenD (mCons (mVar 2) (mNil))) (mRet (.int 1))) (mNil))) (lcBody [6] (gSet 6) (mRet true) (mCall F_is_less (mCons (mOp ixD (mVar 2) (mOp addD (mVar 6) (mRet (.int 1)))) (mCons (mOp ixD (mVar 2) (mVar 6)) (mNil))))) [.pur (.int n), .pur (.list xs), .pur (.list (encL ks)), .no, .no, .no, .no, .no] = some (.ok ([.pur (.int n), .pur (.list xs), .pur (.list (encL ks)), .no, .no, .no, .no, .no], (List.range (ks.length - 1)).map fun i => .bool (decide (at0 ks (i + 1) < at0 ks i)))) :=
    blk_map (List.range (ks.length - 1)) natD _ (by simp [bd_ok, lf_some, cl_ok, a_ret, a_op, a_un, a_test, a_and, a_or, a_not, a_andV, a_orV, a_notV, a_if, a_sif, a_nil, a_cons, a_star, a_list, a_tup, a_sized, a_call, a_built, a_seq, a_set, a_own, a_sret, a_next, a_isi, a_slice, a_part, a_nopart, a_range, a_seqS, a_varP, a_par2, a_xp, a_xo, a_xn, a_asg, a_make, a_chg, a_ixO, a_lenO, a_cntO, items_lst, items_tup, sizeOk, boolD, cmpD, slOf, intOf_int, len_encL, ans_rt, a_fn, List.replicate, lenD, subD, r1]) (by simp; omega) rfl fun i hi => by
      have hi := List.mem_range.mp hi
      have e1 : F_is_less [enc (at0 ks (i + 1)), enc (at0 ks i)] = _ := is_less_enc (at0_ht hkk (by omega)) (at0_ht hkk (by omega)) (by omega)
      simp [bd_ok, lf_some, cl_ok, a_ret, a_op, a_un, a_test, a_and, a_or, a_not, a_andV, a_orV, a_notV, a_if, a_sif, a_nil, a_cons, a_star, a_list, a_tup, a_sized, a_call, a_built, a_seq, a_set, a_own, a_sret, a_next, a_isi, a_slice, a_part, a_nopart, a_range, a_seqS, a_varP, a_par2, a_xp, a_xo, a_xn, a_asg, a_make, a_chg, a_ixO, a_lenO, a_cntO, items_lst, items_tup, sizeOk, boolD, cmpD, slOf, intOf_int, len_encL, ans_rt, a_fn, List.replicate, nat_add1, ixLn (ks := ks) (i := i) (by omega), ixLn (ks := ks) (i := i + 1) (by omega), e1]
  have an := any_map (fun i => decide (at0 ks (i + 1) < at0 ks i)) (List.range (ks.length - 1))
  unfold amB
  cases hd : (List.range (ks.length - 1)).any fun i => decide (at0 ks (i + 1) < at0 ks i) with
  | true =>
    rw [hd] at an
    simp [bd_ok, lf_some, cl_ok, a_ret, a_op, a_un, a_test, a_and, a_or, a_not, a_andV, a_orV, a_notV, a_if, a_sif, a_nil, a_cons, a_star, a_list, a_tup, a_sized, a_call, a_built, a_seq, a_set, a_own, a_sret, a_next, a_isi, a_slice, a_part, a_nopart, a_range, a_seqS, a_varP, a_par2, a_xp, a_xo, a_xn, a_asg, a_make, a_chg, a_ixO, a_lenO, a_cntO, items_lst, items_tup, sizeOk, boolD, cmpD, slOf, intOf_int, len_encL, ans_rt, a_fn, List.replicate, F_are_marks, g_are_marks, seq_lst, ln, l1, av, alv, g_are_marks_4, b1, g_are_marks_3, b2, an]
  | false =>
    rw [hd] at an
    have b3 : mBlk [5] (mSeqS (mVar 2)) (lcBody [5] (gSet 5) (mRet true) (mBuilt lenD (mCons (mList (mBlk [4] (mSeqS (mVar 2)) (lcBody [4] (gSet 4) (mTest (mOp eqD (mVar 4) (mVar 5))) (mVar 4)))) (mNil)))) [.pur (.int n), .pur (.list xs), .pur (.list (encL ks)), .no, .no, .no, .no, .no] = some (.ok ([.pur (.int n), .pur (.list xs), .pur (.list (encL ks)), .no, .no, .no, .no, .no], ks.map fun q => natD (cntR ks q))) :=
      blk_map ks enc _ (by simp [bd_ok, lf_some, cl_ok, a_ret, a_op, a_un, a_test, a_and, a_or, a_not, a_andV, a_orV, a_notV, a_if, a_sif, a_nil, a_cons, a_star, a_list, a_tup, a_sized, a_call, a_built, a_seq, a_set, a_own, a_sret, a_next, a_isi, a_slice, a_part, a_nopart, a_range, a_seqS, a_varP, a_par2, a_xp, a_xo, a_xn, a_asg, a_make, a_chg, a_ixO, a_lenO, a_cntO, items_lst, items_tup, sizeOk, boolD, cmpD, slOf, intOf_int, len_encL, ans_rt, a_fn, List.replicate]; rfl) (by omega) rfl fun q _ => by
        have b := blk_sel (v := 4) (src := mSeqS (mVar 2)) (test := mTest (mOp eqD (mVar 4) (mVar 5))) (elt := mVar 4) (ρ := [.pur (.int n), .pur (.list xs), .pur (.list (encL ks)), .no, .no, .pur (enc q), .no, .no]) ks enc (fun x => decide (x = q)) enc (by simp [bd_ok, lf_some, cl_ok, a_ret, a_op, a_un, a_test, a_and, a_or, a_not, a_andV, a_orV, a_notV, a_if, a_sif, a_nil, a_cons, a_star, a_list, a_tup, a_sized, a_call, a_built, a_seq, a_set, a_own, a_sret, a_next, a_isi, a_slice, a_part, a_nopart, a_range, a_seqS, a_varP, a_par2, a_xp, a_xo, a_xn, a_asg, a_make, a_chg, a_ixO, a_lenO, a_cntO, items_lst, items_tup, sizeOk, boolD, cmpD, slOf, intOf_int, len_encL, ans_rt, a_fn, List.replicate]; rfl) (by omega) rfl (fun x _ => by simp [bd_ok, lf_some, cl_ok, a_ret, a_op, a_un, a_test, a_and, a_or, a_not, a_andV, a_orV, a_notV, a_if, a_sif, a_nil, a_cons, a_star, a_list, a_tup, a_sized, a_call, a_built, a_seq, a_set, a_own, a_sret, a_next, a_isi, a_slice, a_part, a_nopart, a_range, a_seqS, a_varP, a_par2, a_xp, a_xo, a_xn, a_asg, a_make, a_chg, a_ixO, a_lenO, a_cntO, items_lst, items_tup, sizeOk, boolD, cmpD, slOf, intOf_int, len_encL, ans_rt, a_fn, List.replicate, eq_enc]) fun x _ _ => by simp [bd_ok, lf_some, cl_ok, a_ret, a_op, a_un, a_test, a_and, a_or, a_not, a_andV, a_orV, a_notV, a_if, a_sif, a_nil, a_cons, a_star, a_list, a_tup, a_sized, a_call, a_built, a_seq, a_set, a_own, a_sret, a_next, a_isi, a_slice, a_part, a_nopart, a_range, a_seqS, a_varP, a_par2, a_xp, a_xo, a_xn, a_asg, a_make, a_chg, a_ixO, a_lenO, a_cntO, items_lst, items_tup, sizeOk, boolD, cmpD, slOf, intOf_int, len_encL, ans_rt, a_fn, List.replicate]
        simp [bd_ok, lf_some, cl_ok, a_ret, a_op, a_un, a_test, a_and, a_or, a_not, a_andV, a_orV, a_notV, a_if, a_sif, a_nil, a_cons, a_star, a_list, a_tup, a_sized, a_call, a_built, a_seq, a_set, a_own, a_sret, a_next, a_isi, a_slice, a_part, a_nopart, a_range, a_seqS, a_varP, a_par2, a_xp, a_xo, a_xn, a_asg, a_make, a_chg, a_ixO, a_lenO, a_cntO, items_lst, items_tup, sizeOk, boolD, cmpD, slOf, intOf_int, len_encL, ans_rt, a_fn, List.replicate, b, lenD, natD, cntR]
    have j0 : ixD (.list (ks.map fun q => natD (cntR ks q))) (.int 0) = some (natD (cntR ks (at0 ks 0))) := by
      refine (ix_lst (z := 0) (i := 0) rfl (by simp; omega)).trans ?_
      rw [at0_lt (by omega)]
      simp
    have jl : ixD (.list (ks.map fun q => natD (cntR ks q))) (.int (-1)) = some (natD (cntR ks (lastR ks))) := by
      have ne : (ks.map fun q => natD (cntR ks q)) ≠ [] := fun z => by have := congrArg List.length z; simp at this; subst this; simp at lk; omega
      have e := atI_last ne
      refine Eq.trans (show _ = L2.atI (ks.map fun q => natD (cntR ks q)) (-1) from rfl) (e.trans ?_)
      show _ = some (natD (cntR ks (at0 ks (ks.length - 1))))
      rw [at0_lt (by omega)]
      simp [List.getLast_eq_getElem]
    have sl : slD (some 1) (some (-1)) (.list (ks.map fun q => natD (cntR ks q))) = some (.list (((ks.drop 1).take (ks.length - 2)).map fun q => natD (cntR ks q))) := by
      have s1 : HT.sIx ks.length 0 (some 1) = 1 := by rw [show (1 : Int) = ((1 : Nat) : Int) from rfl, HT.sIx_nat]; omega
      have s2 : HT.sIx ks.length ks.length (some (-1)) = ks.length - 1 := by
        show (if (-1 : Int) < 0 then (-1 + (ks.length : Int)).toNat else min (-1 : Int).toNat ks.length) = _
        rw [if_pos (by decide)]
        omega
      simp only [slD, cutD, List.length_map, s1, s2, List.map_take, List.map_drop]
      rw [show ks.length - 1 - 1 = ks.length - 2 by omega]
    have b4 : mBlk [7] (mSeqS (mSlice (mVar 3) (mPart (mRet (.int 1))) (mPart (mUn negD (mRet (.int 1)))))) (lcBody [7] (gSet 7) (mRet true) (mOp (cmpD leI) (mVar 7) (mVar 0))) [.pur (.int n), .pur (.list xs), .pur (.list (encL ks)), .pur (.list (ks.map fun q => natD (cntR ks q))), .no, .no, .no, .no] = some (.ok ([.pur (.int n), .pur (.list xs), .pur (.list (encL ks)), .pur (.list (ks.map fun q => natD (cntR ks q))), .no, .no, .no, .no], ((ks.drop 1).take (ks.length - 2)).map fun q => .bool (decide (cntR ks q ≤ n)))) :=
      blk_map ((ks.drop 1).take (ks.length - 2)) (fun q => natD (cntR ks q)) _ (by simp [bd_ok, lf_some, cl_ok, a_ret, a_op, a_un, a_test, a_and, a_or, a_not, a_andV, a_orV, a_notV, a_if, a_sif, a_nil, a_cons, a_star, a_list, a_tup, a_sized, a_call, a_built, a_seq, a_set, a_own, a_sret, a_next, a_isi, a_slice, a_part, a_nopart, a_range, a_seqS, a_varP, a_par2, a_xp, a_xo, a_xn, a_asg, a_make, a_chg, a_ixO, a_lenO, a_cntO, items_lst, items_tup, sizeOk, boolD, cmpD, slOf, intOf_int, len_encL, ans_rt, a_fn, List.replicate, negD, sl]) (by simp; omega) rfl fun q hq => by
        have : leI (cntR ks q : Nat) n = decide (cntR ks q ≤ n) := by
          unfold leI
          rw [decide_eq_decide]
          omega
        simp [bd_ok, lf_some, cl_ok, a_ret, a_op, a_un, a_test, a_and, a_or, a_not, a_andV, a_orV, a_notV, a_if, a_sif, a_nil, a_cons, a_star, a_list, a_tup, a_sized, a_call, a_built, a_seq, a_set, a_own, a_sret, a_next, a_isi, a_slice, a_part, a_nopart, a_range, a_seqS, a_varP, a_par2, a_xp, a_xo, a_xn, a_asg, a_make, a_chg, a_ixO, a_lenO, a_cntO, items_lst, items_tup, sizeOk, boolD, cmpD, slOf, intOf_int, len_encL, ans_rt, a_fn, List.replicate, natD, this]
    have al := all_map (fun q => decide (cntR ks q ≤ n)) ((ks.drop 1).take (ks.length - 2))
    generalize ((ks.drop 1).take (ks.length - 2)) = inn at b4 al
    generalize (inn.all fun q => decide (cntR ks q ≤ n)) = z at al
    have q1 : ∀ c : Nat, eqD (natD c) (.int 1) = some (.bool (decide (c = 1))) := fun c => by
      show some (PyData.bool ((c : Int) == 1)) = _
      by_cases h : c = 1
      · subst h; rfl
      · have : ((c : Int) == 1) = false := by rw [beq_eq_false_iff_ne]; omega
        rw [this, decide_eq_false h]
    by_cases c0 : cntR ks (at0 ks 0) = 1
    · by_cases c1 : cntR ks (lastR ks) = 1
      · simp [bd_ok, lf_some, cl_ok, a_ret, a_op, a_un, a_test, a_and, a_or, a_not, a_andV, a_orV, a_notV, a_if, a_sif, a_nil, a_cons, a_star, a_list, a_tup, a_sized, a_call, a_built, a_seq, a_set, a_own, a_sret, a_next, a_isi, a_slice, a_part, a_nopart, a_range, a_seqS, a_varP, a_par2, a_xp, a_xo, a_xn, a_asg, a_make, a_chg, a_ixO, a_lenO, a_cntO, items_lst, items_tup, sizeOk, boolD, cmpD, slOf, intOf_int, len_encL, ans_rt, a_fn, List.replicate, F_are_marks, g_are_marks, seq_lst, ln, l1, av, alv, g_are_marks_4, b1, g_are_marks_3, b2, an, g_are_marks_2, b3, g_are_marks_1, j0, q1, c0, negD, jl, c1, b4, al]
      · simp [bd_ok, lf_some, cl_ok, a_ret, a_op, a_un, a_test, a_and, a_or, a_not, a_andV, a_orV, a_notV, a_if, a_sif, a_nil, a_cons, a_star, a_list, a_tup, a_sized, a_call, a_built, a_seq, a_set, a_own, a_sret, a_next, a_isi, a_slice, a_part, a_nopart, a_range, a_seqS, a_varP, a_par2, a_xp, a_xo, a_xn, a_asg, a_make, a_chg, a_ixO, a_lenO, a_cntO, items_lst, items_tup, sizeOk, boolD, cmpD, slOf, intOf_int, len_encL, ans_rt, a_fn, List.replicate, F_are_marks, g_are_marks, seq_lst, ln, l1, av, alv, g_are_marks_4, b1, g_are_marks_3, b2, an, g_are_marks_2, b3, g_are_marks_1, j0, q1, c0, negD, jl, c1]
    · simp [bd_ok, lf_some, cl_ok, a_ret, a_op, a_un, a_test, a_and, a_or, a_not, a_andV, a_orV, a_notV, a_if, a_sif, a_nil, a_cons, a_star, a_list, a_tup, a_sized, a_call, a_built, a_seq, a_set, a_own, a_sret, a_next, a_isi, a_slice, a_part, a_nopart, a_range, a_seqS, a_varP, a_par2, a_xp, a_xo, a_xn, a_asg, a_make, a_chg, a_ixO, a_lenO, a_cntO, items_lst, items_tup, sizeOk, boolD, cmpD, slOf, intOf_int, len_encL, ans_rt, a_fn, List.replicate, F_are_marks, g_are_marks, seq_lst, ln, l1, av, alv, g_are_marks_4, b1, g_are_marks_3, b2, an, g_are_marks_2, b3, g_are_marks_1, j0, q1, c0]
end HB
namespace HB
open PySem L2
abbrev badB (w : Str) : Exn := ("InvalidBend", [("word", .str w)])
theorem init_eq (a b c : D) : I_Bend [a, b, c] = (match g_Bend_init [] [.no, .pur a, .pur b, .pur c, .no] with
    | none => none
    | some (.error y) => some (.error y)
    | some (.ok (_, kvs)) => some (.ok kvs) : Option (Except Exn (List (D × D)))) := id rfl
theorem o_if_t {c : Mo Bool} {w : Str} {g : MoO} {kvs : List (D × D)} {ρ : En} (h : c ρ = some (.ok (ρ, true))) : oIf c (sRaise "InvalidBend" "word" (mRet (.str w))) g kvs ρ = some (.error (badB w)) := by
  unfold oIf
  rw [h]
  rfl
theorem o_if_f {c : Mo Bool} {a : Mo Fl} {g : MoO} {kvs : List (D × D)} {ρ : En} (h : c ρ = some (.ok (ρ, false))) : oIf c a g kvs ρ = g kvs ρ := by
  unfold oIf
  rw [h]
section
variable {a b c : D} {n : Nat}
theorem bad_degree (h : mOr (mNot (mTest (mCall F_is_integer (mCons (mVar 1) (mNil))))) (mTest (mOp (cmpD ltI) (mVar 1) (mRet (.int 0)))) [.no, .pur a, .pur b, .pur c, .no] = some (.ok ([.no, .pur a, .pur b, .pur c, .no], true))) : I_Bend [a, b, c] = some (.error (badB "degree")) := by
  rw [init_eq]
  unfold g_Bend_init
  rw [o_if_t h]
theorem deg_ok : mOr (mNot (mTest (mCall F_is_integer (mCons (mVar 1) (mNil))))) (mTest (mOp (cmpD ltI) (mVar 1) (mRet (.int 0)))) [.no, .pur (.int n), .pur b, .pur c, .no] = some (.ok ([.no, .pur (.int n), .pur b, .pur c, .no], false)) := by
  have l1 : ltI (n : Int) 0 = false := decide_eq_false (by omega)
  simp [bd_ok, lf_some, cl_ok, a_ret, a_op, a_un, a_test, a_and, a_or, a_not, a_andV, a_orV, a_notV, a_if, a_sif, a_nil, a_cons, a_star, a_list, a_tup, a_sized, a_call, a_built, a_seq, a_set, a_own, a_sret, a_next, a_isi, a_slice, a_part, a_nopart, a_range, a_seqS, a_varP, a_par2, a_xp, a_xo, a_xn, a_asg, a_make, a_chg, a_ixO, a_lenO, a_cntO, items_lst, items_tup, sizeOk, boolD, cmpD, slOf, intOf_int, len_encL, ans_rt, a_fn, List.replicate, is_integer_int, l1]
theorem bad_marks (h : F_are_marks [.int n, b] = some (.ok (.bool false))) : I_Bend [.int n, b, c] = some (.error (badB "marks")) := by
  have t2 : mNot (mTest (mCall F_are_marks (mCons (mVar 1) (mCons (mVar 2) (mNil))))) [.no, .pur (.int n), .pur b, .pur c, .no] = some (.ok ([.no, .pur (.int n), .pur b, .pur c, .no], true)) := by
    simp [bd_ok, lf_some, cl_ok, a_ret, a_op, a_un, a_test, a_and, a_or, a_not, a_andV, a_orV, a_notV, a_if, a_sif, a_nil, a_cons, a_star, a_list, a_tup, a_sized, a_call, a_built, a_seq, a_set, a_own, a_sret, a_next, a_isi, a_slice, a_part, a_nopart, a_range, a_seqS, a_varP, a_par2, a_xp, a_xo, a_xn, a_asg, a_make, a_chg, a_ixO, a_lenO, a_cntO, items_lst, items_tup, sizeOk, boolD, cmpD, slOf, intOf_int, len_encL, ans_rt, a_fn, List.replicate, h]
  rw [init_eq]
  unfold g_Bend_init
  rw [o_if_f deg_ok, o_if_t t2]
theorem mk_true (h : F_are_marks [.int n, b] = some (.ok (.bool true))) : mNot (mTest (mCall F_are_marks (mCons (mVar 1) (mCons (mVar 2) (mNil))))) [.no, .pur (.int n), .pur b, .pur c, .no] = some (.ok ([.no, .pur (.int n), .pur b, .pur c, .no], false)) := by
  simp [bd_ok, lf_some, cl_ok, a_ret, a_op, a_un, a_test, a_and, a_or, a_not, a_andV, a_orV, a_notV, a_if, a_sif, a_nil, a_cons, a_star, a_list, a_tup, a_sized, a_call, a_built, a_seq, a_set, a_own, a_sret, a_next, a_isi, a_slice, a_part, a_nopart, a_range, a_seqS, a_varP, a_par2, a_xp, a_xo, a_xn, a_asg, a_make, a_chg, a_ixO, a_lenO, a_cntO, items_lst, items_tup, sizeOk, boolD, cmpD, slOf, intOf_int, len_encL, ans_rt, a_fn, List.replicate, h]
theorem bad_noseq (h : F_are_marks [.int n, b] = some (.ok (.bool true))) (hs : F_is_sequence [c] = some (.ok (.bool false))) : I_Bend [.int n, b, c] = some (.error (badB "handles")) := by
  have t3 : mOr (mNot (mTest (mCall F_is_sequence (mCons (mVar 3) (mNil))))) (mNot (mTest (mBuilt allD (mCons (mList (mBlk [4] (mSeqS (mVar 3)) (lcBody [4] (gSet 4) (mRet true) (mCall F_is_value (mCons (mVar 4) (mNil)))))) (mNil))))) [.no, .pur (.int n), .pur b, .pur c, .no] = some (.ok ([.no, .pur (.int n), .pur b, .pur c, .no], true)) := by
    simp [bd_ok, lf_some, cl_ok, a_ret, a_op, a_un, a_test, a_and, a_or, a_not, a_andV, a_orV, a_notV, a_if, a_sif, a_nil, a_cons, a_star, a_list, a_tup, a_sized, a_call, a_built, a_seq, a_set, a_own, a_sret, a_next, a_isi, a_slice, a_part, a_nopart, a_range, a_seqS, a_varP, a_par2, a_xp, a_xo, a_xn, a_asg, a_make, a_chg, a_ixO, a_lenO, a_cntO, items_lst, items_tup, sizeOk, boolD, cmpD, slOf, intOf_int, len_encL, ans_rt, a_fn, List.replicate, hs]
  rw [init_eq]
  unfold g_Bend_init
  rw [o_if_f deg_ok, o_if_f (mk_true h), o_if_t t3]
theorem bad_novalue {xs : List D} (p : D → Bool) (h : F_are_marks [.int n, b] = some (.ok (.bool true))) (hl : xs.length ≤ 1000) (hp : ∀ x ∈ xs, F_is_value [x] = some (.ok (.bool (p x)))) (no : xs.all p = false) : I_Bend [.int n, b, .list xs] = some (.error (badB "handles")) := by
  have bl := vals_blk (v := 4) (i := 3) (d := .list xs) (ρ := [.no, .pur (.int n), .pur b, .pur (.list xs), .no]) p rfl rfl (by omega) rfl (by simp) hp
  have al := all_map p xs
  rw [no] at al
  have t3 : mOr (mNot (mTest (mCall F_is_sequence (mCons (mVar 3) (mNil))))) (mNot (mTest (mBuilt allD (mCons (mList (mBlk [4] (mSeqS (mVar 3)) (lcBody [4] (gSet 4) (mRet true) (mCall F_is_value (mCons (mVar 4) (mNil)))))) (mNil))))) [.no, .pur (.int n), .pur b, .pur (.list xs), .no] = some (.ok ([.no, .pur (.int n), .pur b, .pur (.list xs), .no], true)) := by
    simp [bd_ok, lf_some, cl_ok, a_ret, a_op, a_un, a_test, a_and, a_or, a_not, a_andV, a_orV, a_notV, a_if, a_sif, a_nil, a_cons, a_star, a_list, a_tup, a_sized, a_call, a_built, a_seq, a_set, a_own, a_sret, a_next, a_isi, a_slice, a_part, a_nopart, a_range, a_seqS, a_varP, a_par2, a_xp, a_xo, a_xn, a_asg, a_make, a_chg, a_ixO, a_lenO, a_cntO, items_lst, items_tup, sizeOk, boolD, cmpD, slOf, intOf_int, len_encL, ans_rt, a_fn, List.replicate, seq_lst, bl, al]
  rw [init_eq]
  unfold g_Bend_init
  rw [o_if_f deg_ok, o_if_f (mk_true h), o_if_t t3]
theorem bad_many {m : Nat} {xs : List D} (h : F_are_marks [.int n, b] = some (.ok (.bool true))) (hb : lenD [b] = some (.int m)) (hl : xs.length ≤ 1000) (hp : ∀ x ∈ xs, F_is_value [x] = some (.ok (.bool true))) (ne : xs.length + 1 ≠ n + m) : I_Bend [.int n, b, .list xs] = some (.error (badB "handles")) := by
  have bl := vals_blk (v := 4) (i := 3) (d := .list xs) (ρ := [.no, .pur (.int n), .pur b, .pur (.list xs), .no]) (fun _ => true) rfl rfl (by omega) rfl (by simp) hp
  have al := all_map (fun _ : D => true) xs
  rw [List.all_eq_true.mpr (fun _ _ => rfl)] at al
  have t3 : mOr (mNot (mTest (mCall F_is_sequence (mCons (mVar 3) (mNil))))) (mNot (mTest (mBuilt allD (mCons (mList (mBlk [4] (mSeqS (mVar 3)) (lcBody [4] (gSet 4) (mRet true) (mCall F_is_value (mCons (mVar 4) (mNil)))))) (mNil))))) [.no, .pur (.int n), .pur b, .pur (.list xs), .no] = some (.ok ([.no, .pur (.int n), .pur b, .pur (.list xs), .no], false)) := by
    simp [bd_ok, lf_some, cl_ok, a_ret, a_op, a_un, a_test, a_and, a_or, a_not, a_andV, a_orV, a_notV, a_if, a_sif, a_nil, a_cons, a_star, a_list, a_tup, a_sized, a_call, a_built, a_seq, a_set, a_own, a_sret, a_next, a_isi, a_slice, a_part, a_nopart, a_range, a_seqS, a_varP, a_par2, a_xp, a_xo, a_xn, a_asg, a_make, a_chg, a_ixO, a_lenO, a_cntO, items_lst, items_tup, sizeOk, boolD, cmpD, slOf, intOf_int, len_encL, ans_rt, a_fn, List.replicate, seq_lst, bl, al]
  have n2 : neD (.int (xs.length : Int)) (.int ((n : Int) + m - 1)) = some (.bool true) := by
    have : ((xs.length : Int) == (n : Int) + m - 1) = false := by rw [beq_eq_false_iff_ne]; omega
    show some (PyData.bool (!((xs.length : Int) == (n : Int) + m - 1))) = _
    rw [this]
    rfl
  have ln : lenD [.list xs] = some (.int xs.length) := id rfl
  have t4 : mTest (mOp neD (mBuilt lenD (mCons (mVar 3) (mNil))) (mOp subD (mOp addD (mVar 1) (mBuilt lenD (mCons (mVar 2) (mNil)))) (mRet (.int 1)))) [.no, .pur (.int n), .pur b, .pur (.list xs), .no] = some (.ok ([.no, .pur (.int n), .pur b, .pur (.list xs), .no], true)) := by
    simp [bd_ok, lf_some, cl_ok, a_ret, a_op, a_un, a_test, a_and, a_or, a_not, a_andV, a_orV, a_notV, a_if, a_sif, a_nil, a_cons, a_star, a_list, a_tup, a_sized, a_call, a_built, a_seq, a_set, a_own, a_sret, a_next, a_isi, a_slice, a_part, a_nopart, a_range, a_seqS, a_varP, a_par2, a_xp, a_xo, a_xn, a_asg, a_make, a_chg, a_ixO, a_lenO, a_cntO, items_lst, items_tup, sizeOk, boolD, cmpD, slOf, intOf_int, len_encL, ans_rt, a_fn, List.replicate, ln, hb, addD, subD, n2]
  rw [init_eq]
  unfold g_Bend_init
  rw [o_if_f deg_ok, o_if_f (mk_true h), o_if_f t3, o_if_t t4]
end
end HB
namespace HB
open PySem L2
section
variable {a b : Rat} {A B : Nat}
theorem law_div_enc (ha : Ht A a) (hb : Ht B b) (n : b ≠ 0) (h : A + B ≤ 9000) : F_law_div [enc a, enc b] = some (.ok (enc (a / b))) := by
  have f1 : mulFit a.num b.den = true := fit_by ha.1 (by simpa using hb.2) ha.pos hb.pos (by omega)
  have f2 : mulFit a.den b.num = true := fit_by (by simpa using ha.2) hb.1 ha.pos hb.pos (by omega)
  have x : (a.num * b.den).natAbs < 2 ^ (A + B) := by rw [Int.natAbs_mul, den_abs]; exact prod_lt ha.1 hb.2
  have l := law_fr_enc (t := a.num * b.den) (b := (a.den : Int) * b.num) (pow_le9 (by omega) x) (Int.mul_ne_zero (den_ne a) (num_ne n)) (Nat.lt_of_lt_of_le (quot_lt ha hb) (Nat.pow_le_pow_right (by decide) h))
  rw [← div_divInt] at l
  rw [← l]
  simp [bd_ok, lf_some, cl_ok, a_ret, a_op, a_un, a_test, a_and, a_or, a_not, a_andV, a_orV, a_notV, a_if, a_sif, a_nil, a_cons, a_star, a_list, a_tup, a_sized, a_call, a_built, a_seq, a_set, a_own, a_sret, a_next, a_isi, a_slice, a_part, a_nopart, a_range, a_seqS, a_varP, a_par2, a_xp, a_xo, a_xn, a_asg, a_make, a_chg, a_ixO, a_lenO, a_cntO, items_lst, items_tup, sizeOk, boolD, cmpD, slOf, intOf_int, len_encL, ans_rt, a_fn, List.replicate, F_law_div, g_law_div, enc, ix0, ix1, mul_of f1, mul_of f2, l]
end
theorem law_sum_enc {A : Nat} {d : D} {qs : List Rat} (hd : itemsD d = some (encL qs)) (h : ∀ q ∈ qs, Ht A q) (hs : (qs.length + 1) * (A + 1) + 1 ≤ 9000) : F_law_sum [d] = some (.ok (enc (sumR qs))) := by
  have z0 : (PyData.tuple [.int 0, .int 1]) = enc 0 := rfl
  have e0 : F_law_sum [d] = ans (g_law_sum_2 [.pur d, .pur (enc 0), .no]) := by
    simp [bd_ok, lf_some, cl_ok, a_ret, a_op, a_un, a_test, a_and, a_or, a_not, a_andV, a_orV, a_notV, a_if, a_sif, a_nil, a_cons, a_star, a_list, a_tup, a_sized, a_call, a_built, a_seq, a_set, a_own, a_sret, a_next, a_isi, a_slice, a_part, a_nopart, a_range, a_seqS, a_varP, a_par2, a_xp, a_xo, a_xn, a_asg, a_make, a_chg, a_ixO, a_lenO, a_cntO, items_lst, items_tup, sizeOk, boolD, cmpD, slOf, intOf_int, len_encL, ans_rt, a_fn, List.replicate, F_law_sum, g_law_sum, z0]
  have src : mSeqS (mVar 0) [.pur d, .pur (enc 0), .no] = some (.ok ([.pur d, .pur (enc 0), .no], constS (qs.map enc))) := by
    simp [bd_ok, lf_some, cl_ok, a_ret, a_op, a_un, a_test, a_and, a_or, a_not, a_andV, a_orV, a_notV, a_if, a_sif, a_nil, a_cons, a_star, a_list, a_tup, a_sized, a_call, a_built, a_seq, a_set, a_own, a_sret, a_next, a_isi, a_slice, a_part, a_nopart, a_range, a_seqS, a_varP, a_par2, a_xp, a_xo, a_xn, a_asg, a_make, a_chg, a_ixO, a_lenO, a_cntO, items_lst, items_tup, sizeOk, boolD, cmpD, slOf, intOf_int, len_encL, ans_rt, a_fn, List.replicate, hd]
    rfl
  obtain ⟨ρ', e1, s, e2⟩ := for_ok (v := 2) (body := g_law_sum_1) qs enc (fun l ρ => ∃ s, ρ = [.pur d, .pur (enc (sumR l)), s]) src ⟨_, rfl⟩ fun l a r ρ e ⟨s, hρ⟩ => by
    subst hρ
    have hl : Ht (l.length * (A + 1) + 1) (sumR l) := ht_sum l fun q hq => h q (by rw [e]; exact List.mem_append_left _ hq)
    have hn : l.length + 1 ≤ qs.length := by rw [e]; simp
    have hm : (l.length + 1) * (A + 1) ≤ qs.length * (A + 1) := Nat.mul_le_mul_right _ hn
    rw [Nat.add_mul] at hm hs
    have ea := law_add_enc hl (h a (by rw [e]; simp)) (by omega)
    refine ⟨_, .nx, ?_, .inl rfl, .pur (enc a), by rw [sumR_snoc]⟩
    simp [bd_ok, lf_some, cl_ok, a_ret, a_op, a_un, a_test, a_and, a_or, a_not, a_andV, a_orV, a_notV, a_if, a_sif, a_nil, a_cons, a_star, a_list, a_tup, a_sized, a_call, a_built, a_seq, a_set, a_own, a_sret, a_next, a_isi, a_slice, a_part, a_nopart, a_range, a_seqS, a_varP, a_par2, a_xp, a_xo, a_xn, a_asg, a_make, a_chg, a_ixO, a_lenO, a_cntO, items_lst, items_tup, sizeOk, boolD, cmpD, slOf, intOf_int, len_encL, ans_rt, a_fn, List.replicate, g_law_sum_1, ea]
  subst e2
  rw [e0]
  unfold g_law_sum_2
  rw [a_seq, e1, bd_ok]
  rfl
theorem rep_flat (n : Nat) (q : Rat) : (List.replicate n [enc q]).flatten = encL (List.replicate n q) := by
  induction n with
  | zero => rfl
  | succ n ih => rw [List.replicate_succ, List.flatten_cons, ih, List.replicate_succ]; rfl
theorem rep_enc {n : Nat} (q : Rat) (hn : n ≤ 1000) : mulD (.list [enc q]) (.int n) = some (.list (encL (List.replicate n q))) := by
  rw [← rep_flat]
  exact if_pos ⟨by simp; omega, by omega, by omega⟩
theorem addL_enc {xs ys : List Rat} (h : xs.length + ys.length ≤ 1000000) : addD (.list (encL xs)) (.list (encL ys)) = some (.list (encL (xs ++ ys))) := by
  rw [show encL (xs ++ ys) = encL xs ++ encL ys by simp [encL]]
  exact if_pos (by rw [len_encL, len_encL]; exact h)
theorem law_knots_enc {n : Nat} {ks : List Rat} (h0 : 0 < ks.length) (hn : n ≤ 1000) (hk : ks.length ≤ 1000) : F_law_knots [.int n, .list (encL ks)] = some (.ok (.list (encL (knots n ks)))) := by
  have i0 := ixL (ks := ks) (z := 0) (i := 0) rfl h0
  have il := ixL_last (ks := ks) h0
  have r0 := rep_enc (n := n) (at0 ks 0) hn
  have r1 := rep_enc (n := n) (lastR ks) hn
  have a1 := addL_enc (xs := List.replicate n (at0 ks 0)) (ys := ks) (by simp; omega)
  have a2 := addL_enc (xs := List.replicate n (at0 ks 0) ++ ks) (ys := List.replicate n (lastR ks)) (by simp; omega)
  have lo : ∀ ρ : En, mListOf (mVar 1) [.pur (.int n), .pur (.list (encL ks))] = some (.ok ([.pur (.int n), .pur (.list (encL ks))], encL ks)) := fun _ => rfl
  rw [show knots n ks = List.replicate n (at0 ks 0) ++ ks ++ List.replicate n (lastR ks) by unfold knots; rw [List.append_assoc]]
  simp [bd_ok, lf_some, cl_ok, a_ret, a_op, a_un, a_test, a_and, a_or, a_not, a_andV, a_orV, a_notV, a_if, a_sif, a_nil, a_cons, a_star, a_list, a_tup, a_sized, a_call, a_built, a_seq, a_set, a_own, a_sret, a_next, a_isi, a_slice, a_part, a_nopart, a_range, a_seqS, a_varP, a_par2, a_xp, a_xo, a_xn, a_asg, a_make, a_chg, a_ixO, a_lenO, a_cntO, items_lst, items_tup, sizeOk, boolD, cmpD, slOf, intOf_int, len_encL, ans_rt, a_fn, List.replicate, F_law_knots, g_law_knots, i0, r0, lo [], a1, negD, il, r1, a2]
theorem reach_enc {n i : Nat} {ks : List Rat} {d : D} (hd : itemsD d = some (encL ks)) (h0 : 0 < ks.length) (hn : n ≤ 1000) (hk : ks.length ≤ 1000) (hi : i + n + 1 < 2 * n + ks.length) : F_reach [.int n, d, natD i] = some (.ok (.tuple [enc (at0 (knots n ks) i), enc (at0 (knots n ks) (i + n + 1))])) := by
  have e2 := knots_enc (n := n) hd h0 hn hk
  have kl := knots_len n ks
  have na : addD (natD i) (.int (n : Int)) = some (natD (i + n)) := nat_add i n
  simp [bd_ok, lf_some, cl_ok, a_ret, a_op, a_un, a_test, a_and, a_or, a_not, a_andV, a_orV, a_notV, a_if, a_sif, a_nil, a_cons, a_star, a_list, a_tup, a_sized, a_call, a_built, a_seq, a_set, a_own, a_sret, a_next, a_isi, a_slice, a_part, a_nopart, a_range, a_seqS, a_varP, a_par2, a_xp, a_xo, a_xn, a_asg, a_make, a_chg, a_ixO, a_lenO, a_cntO, items_lst, items_tup, sizeOk, boolD, cmpD, slOf, intOf_int, len_encL, ans_rt, a_fn, List.replicate, F_reach, g_reach, e2, g_reach_1, ixTn (ks := knots n ks) (i := i) (by omega), na, nat_add1, ixTn (ks := knots n ks) (i := i + n + 1) (by omega)]
section
variable {n N M : Nat} {ks : List Rat} {t : Rat} {S : Nat}
theorem need_time_lst (hk : ∀ q ∈ ks, Ht S q) (ht : Ht S t) (hS : 2 * S ≤ 9000) (h0 : 0 < ks.length) (h1 : at0 ks 0 ≤ t) (h2 : t ≤ at0 ks (ks.length - 1)) : F_need_time [.list (encL ks), enc t] = some (.ok (enc t)) := by
  have l1 : F_is_less [enc t, enc (at0 ks 0)] = some (.ok (.bool false)) := (is_less_enc ht (at0_ht hk h0) (by omega)).trans (by rw [decide_eq_false (by grind)])
  have l2 : F_is_less [enc (at0 ks (ks.length - 1)), enc t] = some (.ok (.bool false)) := (is_less_enc (at0_ht hk (by omega)) ht (by omega)).trans (by rw [decide_eq_false (by grind)])
  simp [bd_ok, lf_some, cl_ok, a_ret, a_op, a_un, a_test, a_and, a_or, a_not, a_andV, a_orV, a_notV, a_if, a_sif, a_nil, a_cons, a_star, a_list, a_tup, a_sized, a_call, a_built, a_seq, a_set, a_own, a_sret, a_next, a_isi, a_slice, a_part, a_nopart, a_range, a_seqS, a_varP, a_par2, a_xp, a_xo, a_xn, a_asg, a_make, a_chg, a_ixO, a_lenO, a_cntO, items_lst, items_tup, sizeOk, boolD, cmpD, slOf, intOf_int, len_encL, ans_rt, a_fn, List.replicate, F_need_time, g_need_time, is_value_enc, g_need_time_2, value_of_enc, g_need_time_1, ixL (ks := ks) (z := 0) (i := 0) rfl h0, negD, ixL_last (ks := ks) h0, l1, l2]
abbrev wts (n : Nat) (ks : List Rat) (t : Rat) : List Rat := lvl (at0 (knots n ks)) t (spanN (at0 (knots n ks)) (2 * n + ks.length - 1) t) (2 * n + ks.length) n
theorem wts_ok (g : GoodM n ks) (hn : n ≤ 4) (hk : ∀ q ∈ ks, Bd N M q) (hN : N < 2 ^ 13) (hM : 2 * M < 2 ^ 13) (ht : Tim ks N M t) (hl : ks.length ≤ 6) : F_weights [.int n, .list (encL ks), enc t] = some (.ok (.tuple (encL (wts n ks t)))) := by
  have l := g.len
  have b := bits13 hn
  have kh : ∀ q ∈ ks, Ht 13 q := fun q hq => (hk q hq).ht hN (by omega)
  have th : Ht 13 t := ht.2.2.ht hN (by omega)
  have kl := knots_len n ks
  have am : ∀ i, i < (knots n ks).length → at0 (knots n ks) i ∈ ks := fun i hi => knots_mem (n := n) (by omega) (at0_mem hi)
  have f := g.full
  rw [← kl] at f
  have e1 := need_time_lst kh th (by decide) (by omega) ht.1 ht.2.1
  have e2 := knots_enc (n := n) (d := .list (encL ks)) (items_lst _) (by omega) (by omega) (by omega)
  have e3 := weights_enc (p := n) (fun q hq => kh q (knots_mem (by omega) hq)) th (fun i j hi hj => share_bd (hk _ (am i hi)) (hk _ (am j hj)) ht.2.2 hM (by decide)) (by decide) (by omega) (by omega) (by omega) f
  rw [kl] at e3
  simp [bd_ok, lf_some, cl_ok, a_ret, a_op, a_un, a_test, a_and, a_or, a_not, a_andV, a_orV, a_notV, a_if, a_sif, a_nil, a_cons, a_star, a_list, a_tup, a_sized, a_call, a_built, a_seq, a_set, a_own, a_sret, a_next, a_isi, a_slice, a_part, a_nopart, a_range, a_seqS, a_varP, a_par2, a_xp, a_xo, a_xn, a_asg, a_make, a_chg, a_ixO, a_lenO, a_cntO, items_lst, items_tup, sizeOk, boolD, cmpD, slOf, intOf_int, len_encL, ans_rt, a_fn, List.replicate, F_weights, g_weights, e2, e1, e3]
theorem wts_at {i : Nat} (hi : i + 1 < n + ks.length) : at0 (wts n ks t) i = Nb (at0 (knots n ks)) t (spanN (at0 (knots n ks)) (2 * n + ks.length - 1) t) n i := lvl_at (by omega)
theorem wts_len : (wts n ks t).length = n + ks.length - 1 := by rw [lvl_len]; omega
end
end HB
namespace HB
open PySem L2
theorem ilen {i : Int} {B : Nat} (h : i.natAbs < 2 ^ B) (hB : 0 < B) : (PyData.shown (.int i)).length ≤ B + 1 := by
  rw [PyData.shown_int]
  have e := int_text_length_le hB (log_lt h hB)
  show (Str.ofString (toString i)).length ≤ _
  rw [ofString_length]
  exact e
theorem int_show {i : Int} {B : Nat} (h : i.natAbs < 2 ^ B) (hB : 0 < B) (hs : B ≤ 1920) : PyData.showable (.int i) = true := by
  have := log_lt h hB
  unfold PyData.showable
  refine decide_eq_true ?_; omega
theorem int_weight {i : Int} {B : Nat} (h : i.natAbs < 2 ^ B) (hB : 0 < B) : PyData.weight (.int i) ≤ B := by
  have := log_lt h hB
  simp only [PyData.weight]
  split <;> omega
/-- data that repr shows: all leaves are integers of at most B bits -/
structure Shw (B w : Nat) (d : D) : Prop where
  sh : SeqAt.shaped d = true
  sw : d.showable = true
  lv : d.leavesShort (B + 8) = true
  wt : d.weight ≤ w
theorem Shw.repr {B w : Nat} {d : D} (h : Shw B w d) (hs : (B + 10) * w + B + 8 ≤ 16777216) : reprD [d] = some (.str d.shown) := by
  have e := PyData.shown_le (B + 8) (by omega) d h.lv
  have e2 : (B + 8 + 2) * d.weight ≤ (B + 10) * w := Nat.mul_le_mul_left _ h.wt
  have s : sizeLine = 16777216 := by decide
  exact if_pos ⟨h.sh, h.sw, by omega⟩
theorem enc_parts {B : Nat} {q : Rat} (h : Ht B q) (hB : B ≤ 1920) : PyData.showable (enc q) = true ∧ PyData.leavesShort (B + 8) (enc q) = true ∧ PyData.weight (enc q) ≤ 2 * B + 2 := by
  have p := h.pos
  have dn : ((q.den : Int)).natAbs < 2 ^ B := by rw [Int.natAbs_natCast]; exact h.2
  have a1 := int_show h.1 p hB
  have a2 := int_show dn p hB
  have b1 := ilen h.1 p
  have b2 := ilen dn p
  have c1 := int_weight h.1 p
  have c2 := int_weight dn p
  refine ⟨?_, ?_, ?_⟩
  · simp only [enc, PyData.showable, PyData.showableAll] at a1 a2 ⊢
    rw [a1, a2]
    rfl
  · simp only [enc, PyData.leavesShort, PyData.leavesShortAll, Bool.and_true, Bool.and_eq_true, decide_eq_true_eq]
    exact ⟨by omega, by omega⟩
  · simp only [enc, PyData.weight, PyData.weightAll] at c1 c2 ⊢
    omega
theorem shw_enc {B : Nat} {q : Rat} (h : Ht B q) (hB : B ≤ 1920) : Shw B (2 * B + 2) (enc q) := let ⟨a, b, c⟩ := enc_parts h hB; ⟨shaped_enc q, a, b, c⟩
theorem encL_parts {B : Nat} (hB : B ≤ 1920) : ∀ qs : List Rat, (∀ q ∈ qs, Ht B q) → PyData.showableAll (encL qs) = true ∧ PyData.leavesShortAll (B + 8) (encL qs) = true ∧ PyData.weightAll (encL qs) ≤ qs.length * (2 * B + 3)
  | [], _ => by simp [encL, PyData.showableAll, PyData.leavesShortAll, PyData.weightAll]
  | q :: qs, h => by
    obtain ⟨a, b, c⟩ := enc_parts (h q List.mem_cons_self) hB
    obtain ⟨x, y, z⟩ := encL_parts hB qs fun r hr => h r (List.mem_cons_of_mem _ hr)
    rw [show encL (q :: qs) = enc q :: encL qs from rfl]
    refine ⟨by simp [PyData.showableAll, a, x], by simp [PyData.leavesShortAll, b, y], ?_⟩
    simp only [PyData.weightAll, List.length_cons, Nat.add_mul]
    omega
theorem shw_encT {B : Nat} {qs : List Rat} (hB : B ≤ 1920) (h : ∀ q ∈ qs, Ht B q) : Shw B (qs.length * (2 * B + 3)) (.tuple (encL qs)) := by
  obtain ⟨x, y, z⟩ := encL_parts hB qs h
  exact ⟨shaped_encT qs, by simpa [PyData.showable] using x, by simpa [PyData.leavesShort] using y, by simpa [PyData.weight] using z⟩
theorem shw_encL {B : Nat} {qs : List Rat} (hB : B ≤ 1920) (h : ∀ q ∈ qs, Ht B q) : Shw B (qs.length * (2 * B + 3)) (.list (encL qs)) := by
  obtain ⟨x, y, z⟩ := encL_parts hB qs h
  exact ⟨shaped_encL qs, by simpa [PyData.showable] using x, by simpa [PyData.leavesShort] using y, by simpa [PyData.weight] using z⟩
theorem ok_app (a b : Str) : PyData.strOk (a ++ b) = (PyData.strOk a && PyData.strOk b) := by
  show (a.cps ++ b.cps).all _ = (a.cps.all _ && b.cps.all _)
  exact Array.all_append
theorem ok_of (s : String) : PyData.strOk (Str.ofString s) = true := by
  rw [Str.ofString_eq_toList]
  unfold PyData.strOk
  simp only [List.all_toArray, List.all_map, List.all_eq_true, Function.comp_apply, decide_eq_true_eq]
  intro c _
  have := c.valid
  have e : c.toNat = c.val.toNat := rfl
  unfold UInt32.isValidChar Nat.isValidChar at this
  omega
theorem ok_join {sep : Str} (hs : PyData.strOk sep = true) : ∀ ts : List Str, (∀ t ∈ ts, PyData.strOk t = true) → PyData.strOk (Str.join sep ts) = true
  | [], _ => by show PyData.strOk Str.empty = true; decide +kernel
  | [t], h => h t List.mem_cons_self
  | t :: u :: ts, h => by
    have ih := ok_join hs (u :: ts) fun x hx => h x (List.mem_cons_of_mem _ hx)
    have e : Str.join sep (t :: u :: ts) = t ++ sep ++ Str.join sep (u :: ts) := id rfl
    rw [e, ok_app, ok_app, h t List.mem_cons_self, hs, ih]
    rfl
theorem ok_int (i : Int) : PyData.strOk (PyData.shown (.int i)) = true := by
  rw [PyData.shown_int]
  exact ok_of _
theorem ok_tuple {xs : List D} (h : ∀ t ∈ PyData.shownAll xs, PyData.strOk t = true) : PyData.strOk (PyData.shown (.tuple xs)) = true := by
  rw [PyData.shown_tuple, ok_app, ok_app, ok_join (ok_of _) _ h]
  rw [show PyData.strOk (("(" : String) : Str) = true from ok_of _]
  exact ok_of _
theorem ok_list {xs : List D} (h : ∀ t ∈ PyData.shownAll xs, PyData.strOk t = true) : PyData.strOk (PyData.shown (.list xs)) = true := by
  rw [PyData.shown_list, ok_app, ok_app, ok_join (ok_of _) _ h]
  rw [show PyData.strOk (("[" : String) : Str) = true from ok_of _]
  exact ok_of _
theorem ok_enc (q : Rat) : PyData.strOk (PyData.shown (enc q)) = true := by
  refine ok_tuple fun t ht => ?_
  simp only [PyData.shownAll, List.mem_cons, List.not_mem_nil, or_false] at ht
  rcases ht with e | e <;> rw [e] <;> exact ok_int _
theorem ok_all : ∀ qs : List Rat, ∀ t ∈ PyData.shownAll (encL qs), PyData.strOk t = true
  | [], t, h => by simp [encL, PyData.shownAll] at h
  | q :: qs, t, h => by
    rw [show encL (q :: qs) = enc q :: encL qs from rfl, PyData.shownAll_cons] at h
    rcases List.mem_cons.mp h with e1 | e1
    · rw [e1]; exact ok_enc q
    · exact ok_all qs t e1
theorem ok_encT (qs : List Rat) : PyData.strOk (PyData.shown (.tuple (encL qs))) = true := ok_tuple (ok_all qs)
theorem ok_encL (qs : List Rat) : PyData.strOk (PyData.shown (.list (encL qs))) = true := ok_list (ok_all qs)
theorem ne_str {x : Str} (h : PyData.strOk x = true) : neD (.str x) (.str x) = some (.bool false) := by simp [neD, SeqAt.shaped, PyData.canLay0, PyData.depth, PyData.eqv, h]
end HB
namespace HB
open PySem L2
/-- a list or a tuple of values, in one form or another -/
structure SeqV (d : D) (ks : List Rat) (f : Rat → D) : Prop where
  items : itemsD d = some (ks.map f)
  isSeq : F_is_sequence [d] = some (.ok (.bool true))
  len : lenD [d] = some (.int ks.length)
  val : ∀ q, F_is_value [f q] = some (.ok (.bool true))
  of : ∀ q, F_value_of [f q] = some (.ok (enc q))
/-- a whole value as an integer -/
def short (q : Rat) : D := if q.den = 1 then .int q.num else enc q
theorem short_val (q : Rat) : F_is_value [short q] = some (.ok (.bool true)) := by
  unfold short
  split
  · exact id rfl
  · exact is_value_enc q
theorem short_of (q : Rat) : F_value_of [short q] = some (.ok (enc q)) := by
  unfold short
  split
  · rename_i h
    have : F_value_of [.int q.num] = some (.ok (.tuple [.int q.num, .int 1])) := id rfl
    rw [this]
    unfold enc
    rw [h]
    rfl
  · exact value_of_enc q
theorem short_ok (q : Rat) : F_law_short [enc q] = some (.ok (short q)) := by
  have x1 : ixD (enc q) (.int 1) = some (.int (q.den : Int)) := ix1 _ _
  have x0 : ixD (enc q) (.int 0) = some (.int q.num) := ix0 _ _
  unfold short
  by_cases hd : q.den = 1
  · have e : eqD (.int (q.den : Int)) (.int 1) = some (.bool true) := by simp [eqD, hd]
    rw [if_pos hd]
    simp [bd_ok, lf_some, cl_ok, a_ret, a_op, a_un, a_test, a_and, a_or, a_not, a_andV, a_orV, a_notV, a_if, a_sif, a_nil, a_cons, a_star, a_list, a_tup, a_sized, a_call, a_built, a_seq, a_set, a_own, a_sret, a_next, a_isi, a_slice, a_part, a_nopart, a_range, a_seqS, a_varP, a_par2, a_xp, a_xo, a_xn, a_asg, a_make, a_chg, a_ixO, a_lenO, a_cntO, items_lst, items_tup, sizeOk, boolD, cmpD, slOf, intOf_int, len_encL, ans_rt, a_fn, List.replicate, F_law_short, g_law_short, x0, x1, e]
  · have e : eqD (.int (q.den : Int)) (.int 1) = some (.bool false) := by simp [eqD]; omega
    rw [if_neg hd]
    simp [bd_ok, lf_some, cl_ok, a_ret, a_op, a_un, a_test, a_and, a_or, a_not, a_andV, a_orV, a_notV, a_if, a_sif, a_nil, a_cons, a_star, a_list, a_tup, a_sized, a_call, a_built, a_seq, a_set, a_own, a_sret, a_next, a_isi, a_slice, a_part, a_nopart, a_range, a_seqS, a_varP, a_par2, a_xp, a_xo, a_xn, a_asg, a_make, a_chg, a_ixO, a_lenO, a_cntO, items_lst, items_tup, sizeOk, boolD, cmpD, slOf, intOf_int, len_encL, ans_rt, a_fn, List.replicate, F_law_short, g_law_short, x0, x1, e]
theorem seqV_L (ks : List Rat) : SeqV (.list (encL ks)) ks enc := ⟨rfl, rfl, by simp [lenD, len_encL], is_value_enc, value_of_enc⟩
theorem seqV_T (ks : List Rat) : SeqV (.tuple (encL ks)) ks enc := ⟨rfl, rfl, by simp [lenD, len_encL], is_value_enc, value_of_enc⟩
theorem seqV_sL (ks : List Rat) : SeqV (.list (ks.map short)) ks short := ⟨rfl, rfl, by simp [lenD], short_val, short_of⟩
theorem seqV_sT (ks : List Rat) : SeqV (.tuple (ks.map short)) ks short := ⟨rfl, rfl, by simp [lenD], short_val, short_of⟩
section
variable {n : Nat} {ks hs : List Rat} {d e : D} {B : Nat} {f f2 : Rat → D}
theorem values_blkV {v : Nat} {ρ : En} {i : Nat} (hd : SeqV d ks f) (hi : ρ[i]? = some (.pur d)) (hl : ks.length < 1000000) (ho : noOwn ρ [v] = true) (hv : v < ρ.length) : mBlk [v] (mSeqS (mVar i)) (lcBody [v] (gSet v) (mRet true) (mCall F_is_value (mCons (mVar v) (mNil)))) ρ = some (.ok (ρ, List.replicate ks.length (.bool true))) := by
  have b := blk_map (v := v) (src := mSeqS (mVar i)) (elt := mCall F_is_value (mCons (mVar v) (mNil))) (ρ := ρ) ks f (fun _ => .bool true) (by simp [bd_ok, lf_some, cl_ok, a_ret, a_op, a_un, a_test, a_and, a_or, a_not, a_andV, a_orV, a_notV, a_if, a_sif, a_nil, a_cons, a_star, a_list, a_tup, a_sized, a_call, a_built, a_seq, a_set, a_own, a_sret, a_next, a_isi, a_slice, a_part, a_nopart, a_range, a_seqS, a_varP, a_par2, a_xp, a_xo, a_xn, a_asg, a_make, a_chg, a_ixO, a_lenO, a_cntO, items_lst, items_tup, sizeOk, boolD, cmpD, slOf, intOf_int, len_encL, ans_rt, a_fn, List.replicate, hi, hd.items]) hl ho fun q _ => by simp [bd_ok, lf_some, cl_ok, a_ret, a_op, a_un, a_test, a_and, a_or, a_not, a_andV, a_orV, a_notV, a_if, a_sif, a_nil, a_cons, a_star, a_list, a_tup, a_sized, a_call, a_built, a_seq, a_set, a_own, a_sret, a_next, a_isi, a_slice, a_part, a_nopart, a_range, a_seqS, a_varP, a_par2, a_xp, a_xo, a_xn, a_asg, a_make, a_chg, a_ixO, a_lenO, a_cntO, items_lst, items_tup, sizeOk, boolD, cmpD, slOf, intOf_int, len_encL, ans_rt, a_fn, List.replicate, hv, hd.val q]
  rwa [List.map_const'] at b
theorem of_blkV {v : Nat} {ρ : En} {i : Nat} (hd : SeqV d ks f) (hi : ρ[i]? = some (.pur d)) (hl : ks.length < 1000000) (ho : noOwn ρ [v] = true) (hv : v < ρ.length) : mBlk [v] (mSeqS (mVar i)) (lcBody [v] (gSet v) (mRet true) (mCall F_value_of (mCons (mVar v) (mNil)))) ρ = some (.ok (ρ, encL ks)) :=
  blk_map ks f enc (by simp [bd_ok, lf_some, cl_ok, a_ret, a_op, a_un, a_test, a_and, a_or, a_not, a_andV, a_orV, a_notV, a_if, a_sif, a_nil, a_cons, a_star, a_list, a_tup, a_sized, a_call, a_built, a_seq, a_set, a_own, a_sret, a_next, a_isi, a_slice, a_part, a_nopart, a_range, a_seqS, a_varP, a_par2, a_xp, a_xo, a_xn, a_asg, a_make, a_chg, a_ixO, a_lenO, a_cntO, items_lst, items_tup, sizeOk, boolD, cmpD, slOf, intOf_int, len_encL, ans_rt, a_fn, List.replicate, hi, hd.items]) hl ho fun q _ => by simp [bd_ok, lf_some, cl_ok, a_ret, a_op, a_un, a_test, a_and, a_or, a_not, a_andV, a_orV, a_notV, a_if, a_sif, a_nil, a_cons, a_star, a_list, a_tup, a_sized, a_call, a_built, a_seq, a_set, a_own, a_sret, a_next, a_isi, a_slice, a_part, a_nopart, a_range, a_seqS, a_varP, a_par2, a_xp, a_xo, a_xn, a_asg, a_make, a_chg, a_ixO, a_lenO, a_cntO, items_lst, items_tup, sizeOk, boolD, cmpD, slOf, intOf_int, len_encL, ans_rt, a_fn, List.replicate, hv, hd.of q]
theorem are_marks_encV (g : GoodM n ks) (hd : SeqV d ks f) (hk : ∀ q ∈ ks, Ht B q) (hB : 2 * B ≤ 9000) (hl : ks.length ≤ 1000) : F_are_marks [.int n, d] = some (.ok (.bool true)) := by
  have h2 := g.len
  have l1 : leI (ks.length : Int) 1 = false := decide_eq_false (by omega)
  have av := values_blkV (v := 4) (i := 1) (ρ := [.pur (.int n), .pur d, .no, .no, .no, .no, .no, .no]) hd rfl (by omega) rfl (by simp)
  have b1 : mBlk [4] (mSeqS (mVar 1)) (lcBody [4] (gSet 4) (mRet true) (mCall F_value_of (mCons (mVar 4) (mNil)))) [.pur (.int n), .pur d, .no, .no, .no, .no, .no, .no] = some (.ok ([.pur (.int n), .pur d, .no, .no, .no, .no, .no, .no], encL ks)) :=
    blk_map ks f enc (by simp [bd_ok, lf_some, cl_ok, a_ret, a_op, a_un, a_test, a_and, a_or, a_not, a_andV, a_orV, a_notV, a_if, a_sif, a_nil, a_cons, a_star, a_list, a_tup, a_sized, a_call, a_built, a_seq, a_set, a_own, a_sret, a_next, a_isi, a_slice, a_part, a_nopart, a_range, a_seqS, a_varP, a_par2, a_xp, a_xo, a_xn, a_asg, a_make, a_chg, a_ixO, a_lenO, a_cntO, items_lst, items_tup, sizeOk, boolD, cmpD, slOf, intOf_int, len_encL, ans_rt, a_fn, List.replicate, hd.items]) (by omega) rfl fun q _ => by simp [bd_ok, lf_some, cl_ok, a_ret, a_op, a_un, a_test, a_and, a_or, a_not, a_andV, a_orV, a_notV, a_if, a_sif, a_nil, a_cons, a_star, a_list, a_tup, a_sized, a_call, a_built, a_seq, a_set, a_own, a_sret, a_next, a_isi, a_slice, a_part, a_nopart, a_range, a_seqS, a_varP, a_par2, a_xp, a_xo, a_xn, a_asg, a_make, a_chg, a_ixO, a_lenO, a_cntO, items_lst, items_tup, sizeOk, boolD, cmpD, slOf, intOf_int, len_encL, ans_rt, a_fn, List.replicate, hd.of q]
  have r1 : range1D [.int ((ks.length : Int) - 1)] = _ := range1_of (ks.length - 1) (by omega) (by omega)
  have b2 : mBlk [6] (mRange range1D (mCons (mOp subD (mBuilt lenD (mCons (mVar 2) (mNil))) (mRet (.int 1))) (mNil))) (lcBody [6] (gSet 6) (mRet true) (mCall F_is_less (mCons (mOp ixD (mVar 2) (mOp addD (mVar 6) (mRet (.int 1)))) (mCons (mOp ixD (mVar 2) (mVar 6)) (mNil))))) [.pur (.int n), .pur d, .pur (.list (encL ks)), .no, .no, .no, .no, .no] = some (.ok ([.pur (.int n), .pur d, .pur (.list (encL ks)), .no, .no, .no, .no, .no], (List.range (ks.length - 1)).map fun i => .bool (decide (at0 ks (i + 1) < at0 ks i)))) :=
    blk_map (List.range (ks.length - 1)) natD _ (by simp [bd_ok, lf_some, cl_ok, a_ret, a_op, a_un, a_test, a_and, a_or, a_not, a_andV, a_orV, a_notV, a_if, a_sif, a_nil, a_cons, a_star, a_list, a_tup, a_sized, a_call, a_built, a_seq, a_set, a_own, a_sret, a_next, a_isi, a_slice, a_part, a_nopart, a_range, a_seqS, a_varP, a_par2, a_xp, a_xo, a_xn, a_asg, a_make, a_chg, a_ixO, a_lenO, a_cntO, items_lst, items_tup, sizeOk, boolD, cmpD, slOf, intOf_int, len_encL, ans_rt, a_fn, List.replicate, lenD, subD, r1]) (by simp; omega) rfl fun i hi => by
      have hi := List.mem_range.mp hi
      have e1 : F_is_less [enc (at0 ks (i + 1)), enc (at0 ks i)] = _ := is_less_enc (at0_ht hk (by omega)) (at0_ht hk (by omega)) (by omega)
      simp [bd_ok, lf_some, cl_ok, a_ret, a_op, a_un, a_test, a_and, a_or, a_not, a_andV, a_orV, a_notV, a_if, a_sif, a_nil, a_cons, a_star, a_list, a_tup, a_sized, a_call, a_built, a_seq, a_set, a_own, a_sret, a_next, a_isi, a_slice, a_part, a_nopart, a_range, a_seqS, a_varP, a_par2, a_xp, a_xo, a_xn, a_asg, a_make, a_chg, a_ixO, a_lenO, a_cntO, items_lst, items_tup, sizeOk, boolD, cmpD, slOf, intOf_int, len_encL, ans_rt, a_fn, List.replicate, nat_add1, ixLn (ks := ks) (i := i) (by omega), ixLn (ks := ks) (i := i + 1) (by omega), e1]
  have an := any_map (fun i => decide (at0 ks (i + 1) < at0 ks i)) (List.range (ks.length - 1))
  rw [List.any_eq_false.mpr (fun i hi => by have := g.asc i (by have := List.mem_range.mp hi; omega); simp; grind)] at an
  have b3 : mBlk [5] (mSeqS (mVar 2)) (lcBody [5] (gSet 5) (mRet true) (mBuilt lenD (mCons (mList (mBlk [4] (mSeqS (mVar 2)) (lcBody [4] (gSet 4) (mTest (mOp eqD (mVar 4) (mVar 5))) (mVar 4)))) (mNil)))) [.pur (.int n), .pur d, .pur (.list (encL ks)), .no, .no, .no, .no, .no] = some (.ok ([.pur (.int n), .pur d, .pur (.list (encL ks)), .no, .no, .no, .no, .no], ks.map fun q => natD (cntR ks q))) :=
    blk_map ks enc _ (by simp [bd_ok, lf_some, cl_ok, a_ret, a_op, a_un, a_test, a_and, a_or, a_not, a_andV, a_orV, a_notV, a_if, a_sif, a_nil, a_cons, a_star, a_list, a_tup, a_sized, a_call, a_built, a_seq, a_set, a_own, a_sret, a_next, a_isi, a_slice, a_part, a_nopart, a_range, a_seqS, a_varP, a_par2, a_xp, a_xo, a_xn, a_asg, a_make, a_chg, a_ixO, a_lenO, a_cntO, items_lst, items_tup, sizeOk, boolD, cmpD, slOf, intOf_int, len_encL, ans_rt, a_fn, List.replicate]; rfl) (by omega) rfl fun q _ => by
      have b := blk_sel (v := 4) (src := mSeqS (mVar 2)) (test := mTest (mOp eqD (mVar 4) (mVar 5))) (elt := mVar 4) (ρ := [.pur (.int n), .pur d, .pur (.list (encL ks)), .no, .no, .pur (enc q), .no, .no]) ks enc (fun x => decide (x = q)) enc (by simp [bd_ok, lf_some, cl_ok, a_ret, a_op, a_un, a_test, a_and, a_or, a_not, a_andV, a_orV, a_notV, a_if, a_sif, a_nil, a_cons, a_star, a_list, a_tup, a_sized, a_call, a_built, a_seq, a_set, a_own, a_sret, a_next, a_isi, a_slice, a_part, a_nopart, a_range, a_seqS, a_varP, a_par2, a_xp, a_xo, a_xn, a_asg, a_make, a_chg, a_ixO, a_lenO, a_cntO, items_lst, items_tup, sizeOk, boolD, cmpD, slOf, intOf_int, len_encL, ans_rt, a_fn, List.replicate]; rfl) (by omega) rfl (fun x _ => by simp [bd_ok, lf_some, cl_ok, a_ret, a_op, a_un, a_test, a_and, a_or, a_not, a_andV, a_orV, a_notV, a_if, a_sif, a_nil, a_cons, a_star, a_list, a_tup, a_sized, a_call, a_built, a_seq, a_set, a_own, a_sret, a_next, a_isi, a_slice, a_part, a_nopart, a_range, a_seqS, a_varP, a_par2, a_xp, a_xo, a_xn, a_asg, a_make, a_chg, a_ixO, a_lenO, a_cntO, items_lst, items_tup, sizeOk, boolD, cmpD, slOf, intOf_int, len_encL, ans_rt, a_fn, List.replicate, eq_enc]) fun x _ _ => by simp [bd_ok, lf_some, cl_ok, a_ret, a_op, a_un, a_test, a_and, a_or, a_not, a_andV, a_orV, a_notV, a_if, a_sif, a_nil, a_cons, a_star, a_list, a_tup, a_sized, a_call, a_built, a_seq, a_set, a_own, a_sret, a_next, a_isi, a_slice, a_part, a_nopart, a_range, a_seqS, a_varP, a_par2, a_xp, a_xo, a_xn, a_asg, a_make, a_chg, a_ixO, a_lenO, a_cntO, items_lst, items_tup, sizeOk, boolD, cmpD, slOf, intOf_int, len_encL, ans_rt, a_fn, List.replicate]
      simp [bd_ok, lf_some, cl_ok, a_ret, a_op, a_un, a_test, a_and, a_or, a_not, a_andV, a_orV, a_notV, a_if, a_sif, a_nil, a_cons, a_star, a_list, a_tup, a_sized, a_call, a_built, a_seq, a_set, a_own, a_sret, a_next, a_isi, a_slice, a_part, a_nopart, a_range, a_seqS, a_varP, a_par2, a_xp, a_xo, a_xn, a_asg, a_make, a_chg, a_ixO, a_lenO, a_cntO, items_lst, items_tup, sizeOk, boolD, cmpD, slOf, intOf_int, len_encL, ans_rt, a_fn, List.replicate, b, lenD, natD, cntR]
  have j0 : ixD (.list (ks.map fun q => natD (cntR ks q))) (.int 0) = some (.int 1) := by
    refine (ix_lst (z := 0) (i := 0) rfl (by simp; omega)).trans ?_
    have := g.c0
    rw [at0_lt (by omega)] at this
    simp [natD, this]
  have jl : ixD (.list (ks.map fun q => natD (cntR ks q))) (.int (-1)) = some (.int 1) := by
    have ne : (ks.map fun q => natD (cntR ks q)) ≠ [] := fun z => by have := congrArg List.length z; simp at this; subst this; simp at h2
    have e := atI_last ne
    refine Eq.trans (show _ = L2.atI (ks.map fun q => natD (cntR ks q)) (-1) from rfl) (e.trans ?_)
    have := g.cl
    rw [at0_lt (by omega)] at this
    simp [List.getLast_eq_getElem, natD, this]
  have sl : slD (some 1) (some (-1)) (.list (ks.map fun q => natD (cntR ks q))) = some (.list (((ks.drop 1).take (ks.length - 2)).map fun q => natD (cntR ks q))) := by
    have s1 : HT.sIx ks.length 0 (some 1) = 1 := by rw [show (1 : Int) = ((1 : Nat) : Int) from rfl, HT.sIx_nat]; omega
    have s2 : HT.sIx ks.length ks.length (some (-1)) = ks.length - 1 := by
      show (if (-1 : Int) < 0 then (-1 + (ks.length : Int)).toNat else min (-1 : Int).toNat ks.length) = _
      rw [if_pos (by decide)]
      omega
    simp only [slD, cutD, List.length_map, s1, s2, List.map_take, List.map_drop]
    rw [show ks.length - 1 - 1 = ks.length - 2 by omega]
  have b4 : mBlk [7] (mSeqS (mSlice (mVar 3) (mPart (mRet (.int 1))) (mPart (mUn negD (mRet (.int 1)))))) (lcBody [7] (gSet 7) (mRet true) (mOp (cmpD leI) (mVar 7) (mVar 0))) [.pur (.int n), .pur d, .pur (.list (encL ks)), .pur (.list (ks.map fun q => natD (cntR ks q))), .no, .no, .no, .no] = some (.ok ([.pur (.int n), .pur d, .pur (.list (encL ks)), .pur (.list (ks.map fun q => natD (cntR ks q))), .no, .no, .no, .no], ((ks.drop 1).take (ks.length - 2)).map fun q => .bool (leI (cntR ks q : Nat) n))) :=
    blk_map ((ks.drop 1).take (ks.length - 2)) (fun q => natD (cntR ks q)) _ (by simp [bd_ok, lf_some, cl_ok, a_ret, a_op, a_un, a_test, a_and, a_or, a_not, a_andV, a_orV, a_notV, a_if, a_sif, a_nil, a_cons, a_star, a_list, a_tup, a_sized, a_call, a_built, a_seq, a_set, a_own, a_sret, a_next, a_isi, a_slice, a_part, a_nopart, a_range, a_seqS, a_varP, a_par2, a_xp, a_xo, a_xn, a_asg, a_make, a_chg, a_ixO, a_lenO, a_cntO, items_lst, items_tup, sizeOk, boolD, cmpD, slOf, intOf_int, len_encL, ans_rt, a_fn, List.replicate, negD, sl]) (by simp; omega) rfl fun q hq => by simp [bd_ok, lf_some, cl_ok, a_ret, a_op, a_un, a_test, a_and, a_or, a_not, a_andV, a_orV, a_notV, a_if, a_sif, a_nil, a_cons, a_star, a_list, a_tup, a_sized, a_call, a_built, a_seq, a_set, a_own, a_sret, a_next, a_isi, a_slice, a_part, a_nopart, a_range, a_seqS, a_varP, a_par2, a_xp, a_xo, a_xn, a_asg, a_make, a_chg, a_ixO, a_lenO, a_cntO, items_lst, items_tup, sizeOk, boolD, cmpD, slOf, intOf_int, len_encL, ans_rt, a_fn, List.replicate, natD]
  have al := all_map (fun q => leI (cntR ks q : Nat) n) ((ks.drop 1).take (ks.length - 2))
  rw [List.all_eq_true.mpr (fun q hq => by
    obtain ⟨i, hi, rfl⟩ := List.getElem_of_mem hq
    simp at hi
    have c := g.ci (i + 1) (by omega) (by omega)
    rw [at0_lt (by omega)] at c
    rw [List.getElem_take, List.getElem_drop]
    simp only [Nat.add_comm 1 i]
    exact decide_eq_true (by omega))] at al
  generalize (ks.drop 1).take (ks.length - 2) = inn at b4 al
  have q1 : eqD (.int 1) (.int 1) = some (.bool true) := rfl
  simp [bd_ok, lf_some, cl_ok, a_ret, a_op, a_un, a_test, a_and, a_or, a_not, a_andV, a_orV, a_notV, a_if, a_sif, a_nil, a_cons, a_star, a_list, a_tup, a_sized, a_call, a_built, a_seq, a_set, a_own, a_sret, a_next, a_isi, a_slice, a_part, a_nopart, a_range, a_seqS, a_varP, a_par2, a_xp, a_xo, a_xn, a_asg, a_make, a_chg, a_ixO, a_lenO, a_cntO, items_lst, items_tup, sizeOk, boolD, cmpD, slOf, intOf_int, len_encL, ans_rt, a_fn, List.replicate, F_are_marks, g_are_marks, hd.isSeq, hd.len, l1, av, all_rep, g_are_marks_4, b1, g_are_marks_3, b2, an, g_are_marks_2, b3, g_are_marks_1, j0, q1, negD, jl, b4, al]
theorem bend_initV (g : GoodM n ks) (hd : SeqV d ks f) (he : SeqV e hs f2) (hk : ∀ q ∈ ks, Ht B q) (hh : ∀ q ∈ hs, Ht B q) (hB : B ≤ 1900) (hn : n < 1000) (lk : ks.length ≤ 200) (lh : hs.length ≤ 200) (hc : hs.length + 1 = n + ks.length) :
    I_Bend [.int n, d, e] = some (.ok [(.str "degree", .int n), (.str "marks", .tuple (encL ks)), (.str "handles", .tuple (encL hs)), (.str "text", .str (textB n ks hs))]) := by
  have l1 : ltI (n : Int) 0 = false := decide_eq_false (by omega)
  have am := are_marks_encV g hd hk (by omega) (by omega)
  have b1 := values_blkV (v := 4) (i := 3) (ρ := [.no, .pur (.int n), .pur d, .pur e, .no]) he rfl (by omega) rfl (by simp)
  have b2 := of_blkV (v := 4) (i := 2) (ρ := [.no, .pur (.int n), .pur d, .pur e, .no]) hd rfl (by omega) rfl (by simp)
  have b3 := of_blkV (v := 4) (i := 3) (ρ := [.no, .pur (.int n), .pur d, .pur e, .no]) he rfl (by omega) rfl (by simp)
  have ne : neD (.int (hs.length : Int)) (.int ((n : Int) + ks.length - 1)) = some (.bool false) := by
    simp [neD]
    omega
  have tx := text_bend_enc hk hh hB hn lk lh
  have t1 : mOr (mNot (mTest (mCall F_is_integer (mCons (mVar 1) (mNil))))) (mTest (mOp (cmpD ltI) (mVar 1) (mRet (.int 0)))) [.no, .pur (.int n), .pur d, .pur e, .no] = some (.ok ([.no, .pur (.int n), .pur d, .pur e, .no], false)) := by
    simp [bd_ok, lf_some, cl_ok, a_ret, a_op, a_un, a_test, a_and, a_or, a_not, a_andV, a_orV, a_notV, a_if, a_sif, a_nil, a_cons, a_star, a_list, a_tup, a_sized, a_call, a_built, a_seq, a_set, a_own, a_sret, a_next, a_isi, a_slice, a_part, a_nopart, a_range, a_seqS, a_varP, a_par2, a_xp, a_xo, a_xn, a_asg, a_make, a_chg, a_ixO, a_lenO, a_cntO, items_lst, items_tup, sizeOk, boolD, cmpD, slOf, intOf_int, len_encL, ans_rt, a_fn, List.replicate, is_integer_int, l1]
  have t2 : mNot (mTest (mCall F_are_marks (mCons (mVar 1) (mCons (mVar 2) (mNil))))) [.no, .pur (.int n), .pur d, .pur e, .no] = some (.ok ([.no, .pur (.int n), .pur d, .pur e, .no], false)) := by
    simp [bd_ok, lf_some, cl_ok, a_ret, a_op, a_un, a_test, a_and, a_or, a_not, a_andV, a_orV, a_notV, a_if, a_sif, a_nil, a_cons, a_star, a_list, a_tup, a_sized, a_call, a_built, a_seq, a_set, a_own, a_sret, a_next, a_isi, a_slice, a_part, a_nopart, a_range, a_seqS, a_varP, a_par2, a_xp, a_xo, a_xn, a_asg, a_make, a_chg, a_ixO, a_lenO, a_cntO, items_lst, items_tup, sizeOk, boolD, cmpD, slOf, intOf_int, len_encL, ans_rt, a_fn, List.replicate, am]
  have t3 : mOr (mNot (mTest (mCall F_is_sequence (mCons (mVar 3) (mNil))))) (mNot (mTest (mBuilt allD (mCons (mList (mBlk [4] (mSeqS (mVar 3)) (lcBody [4] (gSet 4) (mRet true) (mCall F_is_value (mCons (mVar 4) (mNil)))))) (mNil))))) [.no, .pur (.int n), .pur d, .pur e, .no] = some (.ok ([.no, .pur (.int n), .pur d, .pur e, .no], false)) := by
    simp [bd_ok, lf_some, cl_ok, a_ret, a_op, a_un, a_test, a_and, a_or, a_not, a_andV, a_orV, a_notV, a_if, a_sif, a_nil, a_cons, a_star, a_list, a_tup, a_sized, a_call, a_built, a_seq, a_set, a_own, a_sret, a_next, a_isi, a_slice, a_part, a_nopart, a_range, a_seqS, a_varP, a_par2, a_xp, a_xo, a_xn, a_asg, a_make, a_chg, a_ixO, a_lenO, a_cntO, items_lst, items_tup, sizeOk, boolD, cmpD, slOf, intOf_int, len_encL, ans_rt, a_fn, List.replicate, he.isSeq, b1, all_rep]
  have t4 : mTest (mOp neD (mBuilt lenD (mCons (mVar 3) (mNil))) (mOp subD (mOp addD (mVar 1) (mBuilt lenD (mCons (mVar 2) (mNil)))) (mRet (.int 1)))) [.no, .pur (.int n), .pur d, .pur e, .no] = some (.ok ([.no, .pur (.int n), .pur d, .pur e, .no], false)) := by
    simp [bd_ok, lf_some, cl_ok, a_ret, a_op, a_un, a_test, a_and, a_or, a_not, a_andV, a_orV, a_notV, a_if, a_sif, a_nil, a_cons, a_star, a_list, a_tup, a_sized, a_call, a_built, a_seq, a_set, a_own, a_sret, a_next, a_isi, a_slice, a_part, a_nopart, a_range, a_seqS, a_varP, a_par2, a_xp, a_xo, a_xn, a_asg, a_make, a_chg, a_ixO, a_lenO, a_cntO, items_lst, items_tup, sizeOk, boolD, cmpD, slOf, intOf_int, len_encL, ans_rt, a_fn, List.replicate, he.len, hd.len, addD, subD, ne]
  have m2 : mBuilt tupleD (mCons (mList (mBlk [4] (mSeqS (mVar 2)) (lcBody [4] (gSet 4) (mRet true) (mCall F_value_of (mCons (mVar 4) (mNil)))))) (mNil)) [.no, .pur (.int n), .pur d, .pur e, .no] = some (.ok ([.no, .pur (.int n), .pur d, .pur e, .no], .tuple (encL ks))) := by
    simp [bd_ok, lf_some, cl_ok, a_ret, a_op, a_un, a_test, a_and, a_or, a_not, a_andV, a_orV, a_notV, a_if, a_sif, a_nil, a_cons, a_star, a_list, a_tup, a_sized, a_call, a_built, a_seq, a_set, a_own, a_sret, a_next, a_isi, a_slice, a_part, a_nopart, a_range, a_seqS, a_varP, a_par2, a_xp, a_xo, a_xn, a_asg, a_make, a_chg, a_ixO, a_lenO, a_cntO, items_lst, items_tup, sizeOk, boolD, cmpD, slOf, intOf_int, len_encL, ans_rt, a_fn, List.replicate, b2, tupleD]
  have m3 : mBuilt tupleD (mCons (mList (mBlk [4] (mSeqS (mVar 3)) (lcBody [4] (gSet 4) (mRet true) (mCall F_value_of (mCons (mVar 4) (mNil)))))) (mNil)) [.no, .pur (.int n), .pur d, .pur e, .no] = some (.ok ([.no, .pur (.int n), .pur d, .pur e, .no], .tuple (encL hs))) := by
    simp [bd_ok, lf_some, cl_ok, a_ret, a_op, a_un, a_test, a_and, a_or, a_not, a_andV, a_orV, a_notV, a_if, a_sif, a_nil, a_cons, a_star, a_list, a_tup, a_sized, a_call, a_built, a_seq, a_set, a_own, a_sret, a_next, a_isi, a_slice, a_part, a_nopart, a_range, a_seqS, a_varP, a_par2, a_xp, a_xo, a_xn, a_asg, a_make, a_chg, a_ixO, a_lenO, a_cntO, items_lst, items_tup, sizeOk, boolD, cmpD, slOf, intOf_int, len_encL, ans_rt, a_fn, List.replicate, b3, tupleD]
  have p1 : ∀ a : D, putK "degree" a [] = [(.str "degree", a)] := fun _ => rfl
  have p2 : ∀ a b : D, putK "marks" b [(.str "degree", a)] = [(.str "degree", a), (.str "marks", b)] := fun _ _ => rfl
  have p3 : ∀ a b c : D, putK "handles" c [(.str "degree", a), (.str "marks", b)] = [(.str "degree", a), (.str "marks", b), (.str "handles", c)] := fun _ _ _ => rfl
  have p4 : ∀ a b c f : D, putK "text" f [(.str "degree", a), (.str "marks", b), (.str "handles", c)] = [(.str "degree", a), (.str "marks", b), (.str "handles", c), (.str "text", f)] := fun _ _ _ _ => rfl
  have fm : ∀ a b c : D, fldIn "marks" [(.str "degree", a), (.str "marks", b), (.str "handles", c)] = some b := fun _ _ _ => rfl
  have fh : ∀ a b c : D, fldIn "handles" [(.str "degree", a), (.str "marks", b), (.str "handles", c)] = some c := fun _ _ _ => rfl
  have tc : oCall F_text_of_bend (oCons (fun _ => mVar 1) (oCons (fun kvs => pureF (fldIn "marks" kvs)) (oCons (fun kvs => pureF (fldIn "handles" kvs)) (fun _ => mNil)))) [(.str "degree", .int n), (.str "marks", .tuple (encL ks)), (.str "handles", .tuple (encL hs))] [.no, .pur (.int n), .pur d, .pur e, .no] = some (.ok ([.no, .pur (.int n), .pur d, .pur e, .no], .str (textB n ks hs))) := by
    simp only [oCall, a_call, oCons, mBind, mVar, pureF, mLift, mNil, mRet, List.getElem?_cons_succ, List.getElem?_cons_zero, fm, fh, bd_ok, tx, cl_ok]
  have n0 : Nat.blt ([] : List (D × D)).length 1000 = true := rfl
  have n1 : ∀ x : D × D, Nat.blt [x].length 1000 = true := fun _ => rfl
  have n2 : ∀ x y : D × D, Nat.blt [x, y].length 1000 = true := fun _ _ => rfl
  have n3 : ∀ x y z : D × D, Nat.blt [x, y, z].length 1000 = true := fun _ _ _ => rfl
  have e0 : I_Bend [.int n, d, e] = (match g_Bend_init [] [.no, .pur (.int n), .pur d, .pur e, .no] with
    | none => none
    | some (.error y) => some (.error y)
    | some (.ok (_, kvs)) => some (.ok kvs) : Option (Except Exn (List (D × D)))) := rfl
  rw [e0]
  unfold g_Bend_init
  simp only [oIf, t1, t2, t3, t4, oPut, m2, m3, mVar, List.getElem?_cons_succ, List.getElem?_cons_zero, p1, p2, p3, p4, n0, n1, n2, n3, tc, oEnd]
end
end HB
namespace HB
open PySem L2
structure Sh2 (B w p : Nat) (d : D) : Prop where
  cl : d.canLay0 = true
  dp : d.depth ≤ p
  sw : d.showable = true
  lv : d.leavesShort (B + 8) = true
  wt : d.weight ≤ w
  ok : PyData.strOk d.shown = true
structure ShA (B w p : Nat) (ds : List D) : Prop where
  cl : PyData.canLayAll0 ds = true
  dp : PyData.depthAll ds ≤ p
  sw : PyData.showableAll ds = true
  lv : PyData.leavesShortAll (B + 8) ds = true
  wt : PyData.weightAll ds ≤ w
  ok : ∀ t ∈ PyData.shownAll ds, PyData.strOk t = true
section
variable {B w w2 p : Nat} {d : D} {ds : List D}
theorem ShA.nil : ShA B 0 p [] := ⟨by simp [PyData.canLayAll0], by simp [PyData.depthAll], by simp [PyData.showableAll], by simp [PyData.leavesShortAll], by simp [PyData.weightAll], by simp [PyData.shownAll]⟩
theorem ShA.cons (h : Sh2 B w p d) (t : ShA B w2 p ds) : ShA B (w + w2 + 1) p (d :: ds) := by
  refine ⟨by simp [PyData.canLayAll0, h.cl, t.cl], ?_, by simp [PyData.showableAll, h.sw, t.sw], by simp [PyData.leavesShortAll, h.lv, t.lv], ?_, fun x hx => ?_⟩
  · have := h.dp; have := t.dp
    simp only [PyData.depthAll]; omega
  · have := h.wt; have := t.wt
    simp only [PyData.weightAll]; omega
  · rw [PyData.shownAll_cons] at hx
    rcases List.mem_cons.mp hx with e | e
    · rw [e]; exact h.ok
    · exact t.ok x e
theorem Sh2.int {i : Int} (h : i.natAbs < 2 ^ B) (hB : 0 < B) (hs : B ≤ 1920) : Sh2 B B p (.int i) := by
  refine ⟨by simp [PyData.canLay0], by simp [PyData.depth], int_show h hB hs, ?_, int_weight h hB, ok_int i⟩
  have := ilen h hB
  simp only [PyData.leavesShort, decide_eq_true_eq]
  omega
theorem ShA.tup (t : ShA B w p ds) : Sh2 B w (p + 1) (.tuple ds) := ⟨by simpa [PyData.canLay0] using t.cl, by simpa [PyData.depth] using t.dp, by simpa [PyData.showable] using t.sw, by simpa [PyData.leavesShort] using t.lv, by simpa [PyData.weight] using t.wt, ok_tuple t.ok⟩
theorem ShA.lst (t : ShA B w p ds) : Sh2 B w (p + 1) (.list ds) := ⟨by simpa [PyData.canLay0] using t.cl, by simpa [PyData.depth] using t.dp, by simpa [PyData.showable] using t.sw, by simpa [PyData.leavesShort] using t.lv, by simpa [PyData.weight] using t.wt, ok_list t.ok⟩
theorem Sh2.mono {w2 p2 : Nat} (h : Sh2 B w p d) (hw : w ≤ w2) (hp : p ≤ p2) : Sh2 B w2 p2 d := ⟨h.cl, Nat.le_trans h.dp hp, h.sw, h.lv, Nat.le_trans h.wt hw, h.ok⟩
theorem ShA.mono {w2 : Nat} (h : ShA B w p ds) (hw : w ≤ w2) : ShA B w2 p ds := ⟨h.cl, h.dp, h.sw, h.lv, Nat.le_trans h.wt hw, h.ok⟩
theorem ShA.map {f : Rat → D} : ∀ qs : List Rat, (∀ q ∈ qs, Sh2 B w p (f q)) → ShA B (qs.length * (w + 1)) p (qs.map f)
  | [], _ => ShA.nil.mono (Nat.zero_le _)
  | q :: qs, h => (ShA.cons (h q List.mem_cons_self) (ShA.map qs fun r hr => h r (List.mem_cons_of_mem _ hr))).mono (by rw [List.length_cons, Nat.add_mul]; omega)
theorem Sh2.repr (h : Sh2 B w p d) (hp : p ≤ 64) (hs : (B + 10) * w + B + 8 ≤ 16777216) : reprD [d] = some (.str d.shown) := by
  refine Shw.repr (B := B) (w := w) ⟨?_, h.sw, h.lv, h.wt⟩ hs
  unfold SeqAt.shaped
  rw [h.cl, decide_eq_true (Nat.le_trans h.dp hp)]
  rfl
theorem sh_enc {q : Rat} (h : Ht B q) (hB : B ≤ 1920) : Sh2 B (B + (B + 0 + 1) + 1) 2 (enc q) := by
  have dn : ((q.den : Int)).natAbs < 2 ^ B := by rw [Int.natAbs_natCast]; exact h.2
  exact (ShA.cons (Sh2.int h.1 h.pos hB) (ShA.cons (Sh2.int dn h.pos hB) ShA.nil)).tup (p := 1)
theorem sh_short {q : Rat} (h : Ht B q) (hB : B ≤ 1920) : Sh2 B (B + (B + 0 + 1) + 1) 2 (short q) := by
  unfold short
  split
  · exact (Sh2.int (p := 2) h.1 h.pos hB).mono (by omega) (by omega)
  · exact sh_enc h hB
end
theorem textR_ok (q : Rat) : PyData.strOk (textR q) = true := by
  unfold textR
  split
  · exact ok_of _
  · rw [ok_app, ok_app, ok_app, show PyData.strOk (iS q.num) = true from ok_of _, show PyData.strOk (iS (q.den : Int)) = true from ok_of _]
    decide +kernel
theorem textB_ok (n : Nat) (ks hs : List Rat) : PyData.strOk (textB n ks hs) = true := by
  unfold textB
  rw [show ∀ (a : Str) (l : List Str), Txt.join a l = Str.join a l from fun a l => StrLaws.glued_eq_join a l]
  refine ok_join (by decide +kernel) _ fun t ht => ?_
  simp only [List.cons_append, List.nil_append, List.mem_cons, List.mem_append, List.mem_map] at ht
  rcases ht with e | e | e | ⟨q, _, e⟩ | e | ⟨q, _, e⟩
  · rw [e]; decide +kernel
  · rw [e]; exact ok_of _
  · rw [e]; decide +kernel
  · rw [← e]; exact textR_ok q
  · rw [e]; decide +kernel
  · rw [← e]; exact textR_ok q
theorem eq_str {x : Str} (h : PyData.strOk x = true) : eqD (.str x) (.str x) = some (.bool true) := by simp [eqD, SeqAt.shaped, PyData.canLay0, PyData.depth, PyData.eqv, h]
theorem told_value {q : Rat} {B : Nat} (h : Ht B q) (hB : B ≤ 1900) : F_law_told_value_o [enc q] = some (.ok (.str (textR q))) := by
  have p := h.pos
  have x1 : ixD (enc q) (.int 1) = some (.int (q.den : Int)) := ix1 _ _
  have x0 : ixD (enc q) (.int 0) = some (.int q.num) := ix0 _ _
  have dn : ((q.den : Int)).natAbs < 2 ^ B := by rw [Int.natAbs_natCast]; exact h.2
  have l1 := log_lt h.1 p
  have l2 := log_lt dn p
  have s1 : strD [.int q.num] = some (.str (iS q.num)) := if_pos (by omega)
  have s2 : strD [.int (q.den : Int)] = some (.str (iS (q.den : Int))) := if_pos (by omega)
  have n1 := iS_len h.1 p
  have n2 := iS_len dn p
  unfold textR
  by_cases hd : q.den = 1
  · have e : eqD (.int (q.den : Int)) (.int 1) = some (.bool true) := by simp [eqD, hd]
    rw [if_pos hd]
    simp [bd_ok, lf_some, cl_ok, a_ret, a_op, a_un, a_test, a_and, a_or, a_not, a_andV, a_orV, a_notV, a_if, a_sif, a_nil, a_cons, a_star, a_list, a_tup, a_sized, a_call, a_built, a_seq, a_set, a_own, a_sret, a_next, a_isi, a_slice, a_part, a_nopart, a_range, a_seqS, a_varP, a_par2, a_xp, a_xo, a_xn, a_asg, a_make, a_chg, a_ixO, a_lenO, a_cntO, items_lst, items_tup, sizeOk, boolD, cmpD, slOf, intOf_int, len_encL, ans_rt, a_fn, List.replicate, F_law_told_value_o, g_law_told_value_o, x0, x1, e, s1]
  · have e : eqD (.int (q.den : Int)) (.int 1) = some (.bool false) := by simp [eqD]; omega
    have a1 : addD (.str (iS q.num)) (.str "/") = some (.str (iS q.num ++ "/")) := if_pos (by rw [show ("/" : Str).length = 1 from rfl]; omega)
    have a2 : addD (.str (iS q.num ++ "/")) (.str (iS (q.den : Int))) = some (.str (iS q.num ++ "/" ++ iS (q.den : Int))) := if_pos (by rw [str_app, show ("/" : Str).length = 1 from rfl]; omega)
    rw [if_neg hd, Str.empty_append]
    simp [bd_ok, lf_some, cl_ok, a_ret, a_op, a_un, a_test, a_and, a_or, a_not, a_andV, a_orV, a_notV, a_if, a_sif, a_nil, a_cons, a_star, a_list, a_tup, a_sized, a_call, a_built, a_seq, a_set, a_own, a_sret, a_next, a_isi, a_slice, a_part, a_nopart, a_range, a_seqS, a_varP, a_par2, a_xp, a_xo, a_xn, a_asg, a_make, a_chg, a_ixO, a_lenO, a_cntO, items_lst, items_tup, sizeOk, boolD, cmpD, slOf, intOf_int, len_encL, ans_rt, a_fn, List.replicate, F_law_told_value_o, g_law_told_value_o, x0, x1, e, s1, s2, a1, a2]
abbrev toldD (n : Nat) (ks hs : List Rat) : D := .tuple [.int n, .list (encL ks), .list (encL hs)]
theorem told0 {n : Nat} {ks hs : List Rat} : ixD (toldD n ks hs) (.int 0) = some (.int n) := id rfl
theorem told1 {n : Nat} {ks hs : List Rat} : ixD (toldD n ks hs) (.int 1) = some (.list (encL ks)) := id rfl
theorem told2 {n : Nat} {ks hs : List Rat} : ixD (toldD n ks hs) (.int 2) = some (.list (encL hs)) := id rfl
theorem law_text {n : Nat} {ks hs : List Rat} (hk : ∀ q ∈ ks, Ht 13 q) (hh : ∀ q ∈ hs, Ht 13 q) (hn : n < 1000) (lk : ks.length ≤ 200) (lh : hs.length ≤ 200) : F_law_text_o [toldD n ks hs] = some (.ok (.str (textB n ks hs))) := by
  have b1 : mBlk [2] (mSeqS (mOp ixD (mVar 0) (mRet (.int 1)))) (lcBody [2] (gSet 2) (mRet true) (mCall F_law_told_value_o (mCons (mVar 2) (mNil)))) [.pur (toldD n ks hs), .no, .no] = some (.ok ([.pur (toldD n ks hs), .no, .no], ks.map fun q => .str (textR q))) :=
    blk_map ks enc _ (by simp [bd_ok, lf_some, cl_ok, a_ret, a_op, a_un, a_test, a_and, a_or, a_not, a_andV, a_orV, a_notV, a_if, a_sif, a_nil, a_cons, a_star, a_list, a_tup, a_sized, a_call, a_built, a_seq, a_set, a_own, a_sret, a_next, a_isi, a_slice, a_part, a_nopart, a_range, a_seqS, a_varP, a_par2, a_xp, a_xo, a_xn, a_asg, a_make, a_chg, a_ixO, a_lenO, a_cntO, items_lst, items_tup, sizeOk, boolD, cmpD, slOf, intOf_int, len_encL, ans_rt, a_fn, List.replicate, told1]; rfl) (by omega) rfl fun q hq => by simp [bd_ok, lf_some, cl_ok, a_ret, a_op, a_un, a_test, a_and, a_or, a_not, a_andV, a_orV, a_notV, a_if, a_sif, a_nil, a_cons, a_star, a_list, a_tup, a_sized, a_call, a_built, a_seq, a_set, a_own, a_sret, a_next, a_isi, a_slice, a_part, a_nopart, a_range, a_seqS, a_varP, a_par2, a_xp, a_xo, a_xn, a_asg, a_make, a_chg, a_ixO, a_lenO, a_cntO, items_lst, items_tup, sizeOk, boolD, cmpD, slOf, intOf_int, len_encL, ans_rt, a_fn, List.replicate, told_value (hk q hq) (by decide)]
  have b2 : ∀ x : D, mBlk [2] (mSeqS (mOp ixD (mVar 0) (mRet (.int 2)))) (lcBody [2] (gSet 2) (mRet true) (mCall F_law_told_value_o (mCons (mVar 2) (mNil)))) [.pur (toldD n ks hs), .pur x, .no] = some (.ok ([.pur (toldD n ks hs), .pur x, .no], hs.map fun q => .str (textR q))) := fun x =>
    blk_map hs enc _ (by simp [bd_ok, lf_some, cl_ok, a_ret, a_op, a_un, a_test, a_and, a_or, a_not, a_andV, a_orV, a_notV, a_if, a_sif, a_nil, a_cons, a_star, a_list, a_tup, a_sized, a_call, a_built, a_seq, a_set, a_own, a_sret, a_next, a_isi, a_slice, a_part, a_nopart, a_range, a_seqS, a_varP, a_par2, a_xp, a_xo, a_xn, a_asg, a_make, a_chg, a_ixO, a_lenO, a_cntO, items_lst, items_tup, sizeOk, boolD, cmpD, slOf, intOf_int, len_encL, ans_rt, a_fn, List.replicate, told2]; rfl) (by omega) rfl fun q hq => by simp [bd_ok, lf_some, cl_ok, a_ret, a_op, a_un, a_test, a_and, a_or, a_not, a_andV, a_orV, a_notV, a_if, a_sif, a_nil, a_cons, a_star, a_list, a_tup, a_sized, a_call, a_built, a_seq, a_set, a_own, a_sret, a_next, a_isi, a_slice, a_part, a_nopart, a_range, a_seqS, a_varP, a_par2, a_xp, a_xo, a_xn, a_asg, a_make, a_chg, a_ixO, a_lenO, a_cntO, items_lst, items_tup, sizeOk, boolD, cmpD, slOf, intOf_int, len_encL, ans_rt, a_fn, List.replicate, told_value (hh q hq) (by decide)]
  have nB : (n : Int).natAbs < 2 ^ 10 := by
    rw [Int.natAbs_natCast]
    exact Nat.lt_of_lt_of_le hn (by decide)
  have s1 : strD [.int (n : Int)] = some (.str (iS n)) := if_pos (Nat.lt_of_lt_of_le (log_lt nB (by decide)) (by decide))
  have nl := iS_len nB (by decide)
  have m1 := sum_len ks hk
  have m2 := sum_len hs hh
  have q1 : ks.length * (2 * 13 + 3) ≤ 200 * 29 := Nat.mul_le_mul lk (by omega)
  have q2 : hs.length * (2 * 13 + 3) ≤ 200 * 29 := Nat.mul_le_mul lh (by omega)
  have c1 : ("bend" : Str).length = 4 := rfl
  have c2 : ("marks" : Str).length = 5 := rfl
  have c3 : ("handles" : Str).length = 7 := rfl
  have c4 : (" " : Str).length = 1 := rfl
  obtain ⟨A, eA⟩ : ∃ A, A = ([("bend" : Str), iS n, ("marks" : Str)] ++ ks.map textR).map PyData.str := ⟨_, rfl⟩
  have lA : A.length = ks.length + 3 := by rw [eA]; simp
  have a1 : addD (.list [.str "bend", .str (iS n), .str "marks"]) (.list (ks.map fun q => PyData.str (textR q))) = some (.list A) := by
    rw [eA]
    refine (if_pos (by simp; omega)).trans ?_
    simp [Function.comp_def]
  have a2 : addD (.list A) (.list [.str "handles"]) = some (.list (A ++ [.str "handles"])) := if_pos (by simp; omega)
  have a3 : addD (.list (A ++ [.str "handles"])) (.list (hs.map fun q => PyData.str (textR q))) = some (.list (A ++ PyData.str "handles" :: hs.map fun q => PyData.str (textR q))) := (if_pos (by simp; omega)).trans (by simp)
  have jn : joinD " " (.list (A ++ PyData.str "handles" :: hs.map fun q => PyData.str (textR q))) = some (.str (textB n ks hs)) := by
    have e : (A ++ PyData.str "handles" :: hs.map fun q => PyData.str (textR q)) = ([("bend" : Str), iS n, ("marks" : Str)] ++ (ks.map textR ++ ([("handles" : Str)] ++ hs.map textR))).map PyData.str := by
      rw [eA]
      simp [Function.comp_def]
    unfold joinD
    rw [e]
    simp only [items_lst, strs_map]
    refine if_pos ?_
    simp only [List.map_append, List.map_cons, List.map_nil, List.sum_append, List.sum_cons, List.sum_nil, List.length_append, List.length_cons, List.length_nil, List.length_map, c1, c2, c3, c4]
    omega
  have e0 : ∀ x : D, g_law_text_o_1 [.pur (toldD n ks hs), .pur (.list A), .no] = some (.ok ([.pur (toldD n ks hs), .pur (.list A), .no], .rt (.str (textB n ks hs)))) := fun x => by
    simp [bd_ok, lf_some, cl_ok, a_ret, a_op, a_un, a_test, a_and, a_or, a_not, a_andV, a_orV, a_notV, a_if, a_sif, a_nil, a_cons, a_star, a_list, a_tup, a_sized, a_call, a_built, a_seq, a_set, a_own, a_sret, a_next, a_isi, a_slice, a_part, a_nopart, a_range, a_seqS, a_varP, a_par2, a_xp, a_xo, a_xn, a_asg, a_make, a_chg, a_ixO, a_lenO, a_cntO, items_lst, items_tup, sizeOk, boolD, cmpD, slOf, intOf_int, len_encL, ans_rt, a_fn, List.replicate, g_law_text_o_1, a_m1, a2, b2, a3, jn]
  simp [bd_ok, lf_some, cl_ok, a_ret, a_op, a_un, a_test, a_and, a_or, a_not, a_andV, a_orV, a_notV, a_if, a_sif, a_nil, a_cons, a_star, a_list, a_tup, a_sized, a_call, a_built, a_seq, a_set, a_own, a_sret, a_next, a_isi, a_slice, a_part, a_nopart, a_range, a_seqS, a_varP, a_par2, a_xp, a_xo, a_xn, a_asg, a_make, a_chg, a_ixO, a_lenO, a_cntO, items_lst, items_tup, sizeOk, boolD, cmpD, slOf, intOf_int, len_encL, ans_rt, a_fn, List.replicate, F_law_text_o, g_law_text_o, told0, s1, b1, a1, e0 .none]
end HB
namespace HB
open PySem L2
theorem glue_len (sep : Str) : ∀ ts : List Str, (Str.join sep ts).length ≤ (ts.map (·.length)).sum + ts.length * sep.length
  | [] => by
    have e : Str.join sep [] = Str.empty := id rfl
    rw [e]
    exact Nat.zero_le _
  | [t] => by
    have e : Str.join sep [t] = t := id rfl
    rw [e]
    simp
  | t :: u :: ts => by
    have ih := glue_len sep (u :: ts)
    have e : Str.join sep (t :: u :: ts) = t ++ sep ++ Str.join sep (u :: ts) := id rfl
    rw [e, str_app, str_app]
    simp only [List.map_cons, List.sum_cons, List.length_cons, Nat.add_mul] at ih ⊢
    omega
theorem textB_len {n : Nat} {ks hs : List Rat} (hn : n < 1000) (hk : ∀ q ∈ ks, Ht 13 q) (hh : ∀ q ∈ hs, Ht 13 q) (lk : ks.length ≤ 200) (lh : hs.length ≤ 200) : (textB n ks hs).length ≤ 1000000 := by
  unfold textB
  rw [show ∀ (a : Str) (l : List Str), Txt.join a l = Str.join a l from fun a l => StrLaws.glued_eq_join a l]
  have nB : (n : Int).natAbs < 2 ^ 10 := by
    rw [Int.natAbs_natCast]
    exact Nat.lt_of_lt_of_le hn (by decide)
  have nl := iS_len nB (by decide)
  have m1 := sum_len ks hk
  have m2 := sum_len hs hh
  have q1 : ks.length * (2 * 13 + 3) ≤ 200 * 29 := Nat.mul_le_mul lk (by omega)
  have q2 : hs.length * (2 * 13 + 3) ≤ 200 * 29 := Nat.mul_le_mul lh (by omega)
  have c1 : ("bend" : Str).length = 4 := rfl
  have c2 : ("marks" : Str).length = 5 := rfl
  have c3 : ("handles" : Str).length = 7 := rfl
  have c4 : (" " : Str).length = 1 := rfl
  refine Nat.le_trans (glue_len _ _) ?_
  simp only [List.map_append, List.map_cons, List.map_nil, List.sum_append, List.sum_cons, List.sum_nil, List.length_append, List.length_cons, List.length_nil, List.length_map, c1, c2, c3, c4]
  omega
def stO (c : Str) (F : Fn) (ρ : En) (d : D) : Option (Except Exn (En × D)) := match isObj c "__str__" d with
  | true => (match F [d] with
    | some (.ok (.str z)) => some (.ok (ρ, .str z))
    | some (.error x) => some (.error x)
    | _ => none)
  | false => none
theorem a_strO {ρ : En} (c : Str) (F : Fn) (f : Mo D) : mStrO c F f ρ = bd (f ρ) fun ρ1 d => stO c F ρ1 d := by
  unfold mStrO mBind bd stO
  split <;> rename_i h <;> simp only [h]
  rename_i d
  cases isObj c "__str__" d <;> rfl
def lnO (c : Str) (F : Fn) (ρ : En) (d : D) : Option (Except Exn (En × D)) := match isObj c "__len__" d with
  | true => (match F [d] with
    | some (.ok (.int i)) => if 0 ≤ i ∧ i ≤ 1000000 then some (.ok (ρ, .int i)) else none
    | some (.error x) => some (.error x)
    | _ => none)
  | false => none
theorem a_lenObj {ρ : En} (c : Str) (F : Fn) (f : Mo D) : mLenObj c F f ρ = bd (f ρ) fun ρ1 d => lnO c F ρ1 d := by
  unfold mLenObj mBind bd lnO
  split <;> rename_i h <;> simp only [h]
  rename_i d
  cases isObj c "__len__" d <;> rfl
theorem a_listOf {ρ : En} (f : Mo D) : mListOf f ρ = bd (f ρ) fun ρ1 d => lf ρ1 (itemsD d) := id rfl
theorem borrow_ok {f : Mo D} {ρ ρ1 : En} {d : D} (h : f ρ = some (.ok (ρ1, d))) (hf : freeL d = true) (ha : ρ.all slFree = true) : mBorrow f ρ = some (.ok (ρ, d)) := by
  unfold mBorrow
  rw [h]
  simp only [hf, ha, Bool.and_self]
section
variable {n m : Nat} {ks hs ls gs : List Rat} {z y : Str}
theorem f_text : fldD "Bend" "text" (bendD n ks hs z) = some (.str z) := id rfl
theorem st_bend (hz : z.length ≤ 1000000) (ρ : En) : stO "Bend" F_Bend___str__ ρ (bendD n ks hs z) = some (.ok (ρ, .str z)) := by
  have e : isObj "Bend" "__str__" (bendD n ks hs z) = true := id rfl
  have f : fmtD (.str z) = some (.str z) := if_pos hz
  have g : F_Bend___str__ [bendD n ks hs z] = some (.ok (.str z)) := by
    simp [bd_ok, lf_some, cl_ok, a_ret, a_op, a_un, a_test, a_and, a_or, a_not, a_andV, a_orV, a_notV, a_if, a_sif, a_nil, a_cons, a_star, a_list, a_tup, a_sized, a_call, a_built, a_seq, a_set, a_own, a_sret, a_next, a_isi, a_slice, a_part, a_nopart, a_range, a_seqS, a_varP, a_par2, a_xp, a_xo, a_xn, a_asg, a_make, a_chg, a_ixO, a_lenO, a_cntO, items_lst, items_tup, sizeOk, boolD, cmpD, slOf, intOf_int, len_encL, ans_rt, a_fn, List.replicate, F_Bend___str__, g_Bend___str__, f_text, f]
  unfold stO
  simp only [e, g]
theorem ln_bend (hl : hs.length ≤ 1000) (ρ : En) : lnO "Bend" F_Bend___len__ ρ (bendD n ks hs z) = some (.ok (ρ, .int hs.length)) := by
  have e : isObj "Bend" "__len__" (bendD n ks hs z) = true := id rfl
  have g : F_Bend___len__ [bendD n ks hs z] = some (.ok (.int hs.length)) := by
    simp [bd_ok, lf_some, cl_ok, a_ret, a_op, a_un, a_test, a_and, a_or, a_not, a_andV, a_orV, a_notV, a_if, a_sif, a_nil, a_cons, a_star, a_list, a_tup, a_sized, a_call, a_built, a_seq, a_set, a_own, a_sret, a_next, a_isi, a_slice, a_part, a_nopart, a_range, a_seqS, a_varP, a_par2, a_xp, a_xo, a_xn, a_asg, a_make, a_chg, a_ixO, a_lenO, a_cntO, items_lst, items_tup, sizeOk, boolD, cmpD, slOf, intOf_int, len_encL, ans_rt, a_fn, List.replicate, F_Bend___len__, g_Bend___len__, f_handles, lenD]
  unfold lnO
  simp only [e, g]
  exact if_pos ⟨by omega, by omega⟩
theorem eq_strs {x y : Str} (hx : PyData.strOk x = true) (hy : PyData.strOk y = true) : eqD (.str x) (.str y) = some (.bool (decide (x = y))) := by
  have e : (x == y) = decide (x = y) := by
    by_cases c : x = y
    · subst c; simp
    · simp [c]
  simp [eqD, SeqAt.shaped, PyData.canLay0, PyData.depth, PyData.eqv, hx, hy, e]
theorem ne_strs {x y : Str} (hx : PyData.strOk x = true) (hy : PyData.strOk y = true) : neD (.str x) (.str y) = some (.bool (!decide (x = y))) := by
  have e : (x == y) = decide (x = y) := by
    by_cases c : x = y
    · subst c; simp
    · simp [c]
  simp [neD, SeqAt.shaped, PyData.canLay0, PyData.depth, PyData.eqv, hx, hy, e]
theorem eq_bend (hz : PyData.strOk z = true) (hy : PyData.strOk y = true) : F_Bend___eq__ [bendD n ks hs z, bendD m ls gs y] = some (.ok (.bool (decide (z = y)))) := by
  have i : isOD "Bend" (bendD m ls gs y) = some true := id rfl
  simp [bd_ok, lf_some, cl_ok, a_ret, a_op, a_un, a_test, a_and, a_or, a_not, a_andV, a_orV, a_notV, a_if, a_sif, a_nil, a_cons, a_star, a_list, a_tup, a_sized, a_call, a_built, a_seq, a_set, a_own, a_sret, a_next, a_isi, a_slice, a_part, a_nopart, a_range, a_seqS, a_varP, a_par2, a_xp, a_xo, a_xn, a_asg, a_make, a_chg, a_ixO, a_lenO, a_cntO, items_lst, items_tup, sizeOk, boolD, cmpD, slOf, intOf_int, len_encL, ans_rt, a_fn, List.replicate, F_Bend___eq__, g_Bend___eq__, i, f_text, eq_strs hz hy]
theorem eq_bend_no {d : D} (h : isOD "Bend" d = some false) : F_Bend___eq__ [bendD n ks hs z, d] = some (.ok (.bool false)) := by
  simp [bd_ok, lf_some, cl_ok, a_ret, a_op, a_un, a_test, a_and, a_or, a_not, a_andV, a_orV, a_notV, a_if, a_sif, a_nil, a_cons, a_star, a_list, a_tup, a_sized, a_call, a_built, a_seq, a_set, a_own, a_sret, a_next, a_isi, a_slice, a_part, a_nopart, a_range, a_seqS, a_varP, a_par2, a_xp, a_xo, a_xn, a_asg, a_make, a_chg, a_ixO, a_lenO, a_cntO, items_lst, items_tup, sizeOk, boolD, cmpD, slOf, intOf_int, len_encL, ans_rt, a_fn, List.replicate, F_Bend___eq__, g_Bend___eq__, h]
theorem eqO_bend (hz : PyData.strOk z = true) (hy : PyData.strOk y = true) : eqOD "Bend" F_Bend___eq__ (bendD n ks hs z) (bendD m ls gs y) = some (.bool (decide (z = y))) := by
  have e : isObj "Bend" "__eq__" (bendD n ks hs z) = true := id rfl
  have t : typB "Bend" (bendD m ls gs y) = true := id rfl
  unfold eqOD
  simp only [e, t, Bool.and_self, eq_bend hz hy]
theorem neO_bend (hz : PyData.strOk z = true) (hy : PyData.strOk y = true) : neOD "Bend" F_Bend___eq__ (bendD n ks hs z) (bendD m ls gs y) = some (.bool (!decide (z = y))) := by
  have e : isObj "Bend" "__eq__" (bendD n ks hs z) = true := id rfl
  have t : isObj "Bend" "__eq__" (bendD m ls gs y) = true := id rfl
  unfold neOD
  simp only [e, t, Bool.and_self, eq_bend hz hy]
theorem eqO_no {d : D} (h : isOD "Bend" d = some false) (t : typB "Bend" d = true) : eqOD "Bend" F_Bend___eq__ (bendD n ks hs z) d = some (.bool false) := by
  have e : isObj "Bend" "__eq__" (bendD n ks hs z) = true := id rfl
  unfold eqOD
  simp only [e, t, Bool.and_self, eq_bend_no h]
theorem sf_pur (d : D) : slFree (.pur d) = true := id rfl
theorem sf_own (l : List D) : slFree (.own l) = freeLs l := id rfl
theorem sf_no : slFree .no = true := id rfl
theorem free_encL : ∀ qs : List Rat, freeLs (encL qs) = true
  | [] => rfl
  | q :: qs => by
    have e : encL (q :: qs) = enc q :: encL qs := rfl
    have f : freeL (enc q) = true := by simp [enc, freeL, freeLs]
    rw [e]
    simp only [freeLs, f, free_encL qs, Bool.and_self]
theorem free_short : ∀ qs : List Rat, freeLs (qs.map short) = true
  | [] => rfl
  | q :: qs => by
    have f : freeL (short q) = true := by
      unfold short
      split
      · rfl
      · simp [enc, freeL, freeLs]
    simp only [List.map_cons, freeLs, f, free_short qs, Bool.and_self]
theorem free_bend : freeL (bendD n ks hs z) = true := by
  simp [bendD, freeL, freeLk, free_encL]
theorem free_box {b : List D} {m : Int} (h : Bx b m) : freeLs b = true := by
  obtain ⟨x, s, c, e, _⟩ := h
  rw [e]
  rfl
end
/-- what is drawn in a turn -/
structure Dr (n : Nat) (ks hs : List Rat) : Prop where
  hn : n ≤ 4
  g : GoodM n ks
  hk : ∀ q ∈ ks, Bd 6 66 q
  hl : ks.length ≤ 5
  hc : hs.length + 1 = n + ks.length
  hh : ∀ q ∈ hs, Bd 6 24 q
section
variable {n : Nat} {ks hs : List Rat}
theorem Dr.kht (r : Dr n ks hs) : ∀ q ∈ ks, Ht 13 q := fun q hq => (r.hk q hq).ht (by decide) (by decide)
theorem Dr.hht (r : Dr n ks hs) : ∀ q ∈ hs, Ht 13 q := fun q hq => (r.hh q hq).ht (by decide) (by decide)
theorem turn_ok {ns : List Int} {b : List D} {m : Int} {k t : D} {x5 x6 x7 x8 x9 x10 : Sl} {n0 : Nat} {ks0 hs0 : List Rat} {z0 : Str} (hb : Bx b m) (hm : m < 10000000) (f6 : slFree x6 = true) (f7 : slFree x7 = true) (f8 : slFree x8 = true) (o0 : PyData.strOk z0 = true) (l0 : z0.length ≤ 1000000) :
    ∃ b' y5 y6 y7 y8 y9 y10 n ks hs z, g_law_11 [.pur (scr ns), .pur k, .pur t, .own b, .pur (bendD n0 ks0 hs0 z0), x5, x6, x7, x8, x9, x10, .no] = some (.ok ([.pur (scr ns), .pur k, .pur t, .own b', .pur (bendD n ks hs z), y5, y6, y7, y8, y9, y10, .no], .nx)) ∧ Bx b' (m + 2000) ∧ slFree y6 = true ∧ slFree y7 = true ∧ slFree y8 = true ∧ PyData.strOk z = true ∧ z.length ≤ 1000000 := by
  obtain ⟨b1, n, ks, hs, d1, e1, hn, g, hk, hl, hc, hh⟩ := drawn_run (dg := 4) (most := 5) hb (by omega) (by decide) (by decide) (by decide)
  have d1' : F_law_drawn b [.int 4, .int 5] = some (.ok (b1, toldD n ks hs)) := d1
  have r : Dr n ks hs := ⟨hn, g, hk, hl, hc, fun q hq => (hh q hq).bd⟩
  have l2 := g.len
  have kh := r.kht
  have hh' := r.hht
  have lh : hs.length ≤ 8 := by omega
  have mk := bend_initV g (seqV_L ks) (seqV_sL hs) kh hh' (by decide) (by omega) (by omega) (by omega) hc
  have mk2 := bend_initV g (seqV_sT ks) (seqV_T hs) kh hh' (by decide) (by omega) (by omega) (by omega) hc
  have oz := textB_ok n ks hs
  have lz := textB_len (n := n) (by omega) kh hh' (by omega) (by omega)
  have tx := law_text (n := n) kh hh' (by omega) (by omega) (by omega)
  generalize textB n ks hs = z at *
  have fb := free_box e1
  -- the lists
  have bM : mBlk [11] (mSeqS (mOp ixD (mVar 5) (mRet (.int 2)))) (lcBody [11] (gSet 11) (mRet true) (mCall F_law_short (mCons (mVar 11) (mNil)))) [.pur (scr ns), .pur k, .pur t, .own b1, .pur (bendD n0 ks0 hs0 z0), .pur (toldD n ks hs), x6, x7, x8, x9, x10, .no] = some (.ok ([.pur (scr ns), .pur k, .pur t, .own b1, .pur (bendD n0 ks0 hs0 z0), .pur (toldD n ks hs), x6, x7, x8, x9, x10, .no], hs.map short)) :=
    blk_map hs enc short (by simp [bd_ok, lf_some, cl_ok, a_ret, a_op, a_un, a_test, a_and, a_or, a_not, a_andV, a_orV, a_notV, a_if, a_sif, a_nil, a_cons, a_star, a_list, a_tup, a_sized, a_call, a_built, a_seq, a_set, a_own, a_sret, a_next, a_isi, a_slice, a_part, a_nopart, a_range, a_seqS, a_varP, a_par2, a_xp, a_xo, a_xn, a_asg, a_make, a_chg, a_ixO, a_lenO, a_cntO, items_lst, items_tup, sizeOk, boolD, cmpD, slOf, intOf_int, len_encL, ans_rt, a_fn, List.replicate, told2]; rfl) (by omega) rfl fun q _ => by simp [bd_ok, lf_some, cl_ok, a_ret, a_op, a_un, a_test, a_and, a_or, a_not, a_andV, a_orV, a_notV, a_if, a_sif, a_nil, a_cons, a_star, a_list, a_tup, a_sized, a_call, a_built, a_seq, a_set, a_own, a_sret, a_next, a_isi, a_slice, a_part, a_nopart, a_range, a_seqS, a_varP, a_par2, a_xp, a_xo, a_xn, a_asg, a_make, a_chg, a_ixO, a_lenO, a_cntO, items_lst, items_tup, sizeOk, boolD, cmpD, slOf, intOf_int, len_encL, ans_rt, a_fn, List.replicate, short_ok]
  have bK : ∀ x6 x7 x8 x9 x10 : Sl, mBlk [11] (mSeqS (mOp ixD (mVar 5) (mRet (.int 1)))) (lcBody [11] (gSet 11) (mRet true) (mCall F_law_short (mCons (mVar 11) (mNil)))) [.pur (scr ns), .pur k, .pur t, .own b1, .pur (bendD n0 ks0 hs0 z0), .pur (toldD n ks hs), x6, x7, x8, x9, x10, .no] = some (.ok ([.pur (scr ns), .pur k, .pur t, .own b1, .pur (bendD n0 ks0 hs0 z0), .pur (toldD n ks hs), x6, x7, x8, x9, x10, .no], ks.map short)) := fun _ _ _ _ _ =>
    blk_map ks enc short (by simp [bd_ok, lf_some, cl_ok, a_ret, a_op, a_un, a_test, a_and, a_or, a_not, a_andV, a_orV, a_notV, a_if, a_sif, a_nil, a_cons, a_star, a_list, a_tup, a_sized, a_call, a_built, a_seq, a_set, a_own, a_sret, a_next, a_isi, a_slice, a_part, a_nopart, a_range, a_seqS, a_varP, a_par2, a_xp, a_xo, a_xn, a_asg, a_make, a_chg, a_ixO, a_lenO, a_cntO, items_lst, items_tup, sizeOk, boolD, cmpD, slOf, intOf_int, len_encL, ans_rt, a_fn, List.replicate, told1]; rfl) (by omega) rfl fun q _ => by simp [bd_ok, lf_some, cl_ok, a_ret, a_op, a_un, a_test, a_and, a_or, a_not, a_andV, a_orV, a_notV, a_if, a_sif, a_nil, a_cons, a_star, a_list, a_tup, a_sized, a_call, a_built, a_seq, a_set, a_own, a_sret, a_next, a_isi, a_slice, a_part, a_nopart, a_range, a_seqS, a_varP, a_par2, a_xp, a_xo, a_xn, a_asg, a_make, a_chg, a_ixO, a_lenO, a_cntO, items_lst, items_tup, sizeOk, boolD, cmpD, slOf, intOf_int, len_encL, ans_rt, a_fn, List.replicate, short_ok]
  -- their repr
  have sK := (ShA.map ks fun q hq => sh_enc (kh q hq) (by decide)).lst
  have sH := (ShA.map hs fun q hq => sh_short (hh' q hq) (by decide)).lst
  have sKT := (ShA.map ks fun q hq => sh_enc (kh q hq) (by decide)).tup
  have sHT := (ShA.map hs fun q hq => sh_enc (hh' q hq) (by decide)).tup
  have wk : ks.length * (13 + (13 + 0 + 1) + 1 + 1) ≤ 5 * 29 := Nat.mul_le_mul hl (by decide)
  have wh : hs.length * (13 + (13 + 0 + 1) + 1 + 1) ≤ 8 * 29 := Nat.mul_le_mul lh (by decide)
  have s1 := (ShA.cons sK (ShA.cons sH ShA.nil)).tup
  have nB : (n : Int).natAbs < 2 ^ 13 := by rw [Int.natAbs_natCast]; exact Nat.lt_of_le_of_lt hn (by decide)
  have sN : Sh2 13 13 3 (.int (n : Int)) := Sh2.int nB (by decide) (by decide)
  have s2 := (ShA.cons sN (ShA.cons sKT (ShA.cons sHT ShA.nil))).tup
  have r1 := s1.repr (by decide) (by omega)
  have r2 := s2.repr (by decide) (by omega)
  have n1 := ne_str s1.ok
  have n2 := ne_str s2.ok
  change reprD [.tuple [.list (encL ks), .list (hs.map short)]] = _ at r1
  change reprD [.tuple [.int n, .tuple (encL ks), .tuple (encL hs)]] = _ at r2
  generalize PyData.shown (.tuple [.list (ks.map fun q => enc q), .list (hs.map fun q => short q)]) = T1 at r1 n1
  generalize PyData.shown (.tuple [.int n, .tuple (ks.map fun q => enc q), .tuple (hs.map fun q => enc q)]) = T2 at r2 n2
  have bo1 : ∀ x7 x6 : Sl, slFree x7 = true → slFree x6 = true → mBorrow (mBuilt reprD (mCons (mTup (mCons (mVar 9) (mCons (mVar 10) (mNil)))) (mNil))) [.pur (scr ns), .pur k, .pur t, .own b1, .pur (bendD n0 ks0 hs0 z0), .pur (toldD n ks hs), x6, x7, x8, .own (encL ks), .own (hs.map short), .no] = some (.ok ([.pur (scr ns), .pur k, .pur t, .own b1, .pur (bendD n0 ks0 hs0 z0), .pur (toldD n ks hs), x6, x7, x8, .own (encL ks), .own (hs.map short), .no], .str T1)) := fun x7 x6 f7 f6 =>
    borrow_ok (ρ1 := [.pur (scr ns), .pur k, .pur t, .own b1, .pur (bendD n0 ks0 hs0 z0), .pur (toldD n ks hs), x6, x7, x8, .pur (.list (encL ks)), .pur (.list (hs.map short)), .no]) (by simp [bd_ok, lf_some, cl_ok, a_ret, a_op, a_un, a_test, a_and, a_or, a_not, a_andV, a_orV, a_notV, a_if, a_sif, a_nil, a_cons, a_star, a_list, a_tup, a_sized, a_call, a_built, a_seq, a_set, a_own, a_sret, a_next, a_isi, a_slice, a_part, a_nopart, a_range, a_seqS, a_varP, a_par2, a_xp, a_xo, a_xn, a_asg, a_make, a_chg, a_ixO, a_lenO, a_cntO, items_lst, items_tup, sizeOk, boolD, cmpD, slOf, intOf_int, len_encL, ans_rt, a_fn, List.replicate, r1]) rfl (by simp only [List.all_cons, List.all_nil, sf_pur, sf_own, sf_no, free_encL, free_short, fb, f6, f7, f8, Bool.and_self])
  have bo2 : ∀ x6 : Sl, slFree x6 = true → mBorrow (mMake "Bend" I_Bend (mCons (mOp ixD (mVar 5) (mRet (.int 0))) (mCons (mVar 9) (mCons (mVar 10) (mNil))))) [.pur (scr ns), .pur k, .pur t, .own b1, .pur (bendD n0 ks0 hs0 z0), .pur (toldD n ks hs), x6, x7, x8, .own (encL ks), .own (hs.map short), .no] = some (.ok ([.pur (scr ns), .pur k, .pur t, .own b1, .pur (bendD n0 ks0 hs0 z0), .pur (toldD n ks hs), x6, x7, x8, .own (encL ks), .own (hs.map short), .no], bendD n ks hs z)) := fun x6 f6 =>
    borrow_ok (ρ1 := [.pur (scr ns), .pur k, .pur t, .own b1, .pur (bendD n0 ks0 hs0 z0), .pur (toldD n ks hs), x6, x7, x8, .pur (.list (encL ks)), .pur (.list (hs.map short)), .no]) (by simp [bd_ok, lf_some, cl_ok, a_ret, a_op, a_un, a_test, a_and, a_or, a_not, a_andV, a_orV, a_notV, a_if, a_sif, a_nil, a_cons, a_star, a_list, a_tup, a_sized, a_call, a_built, a_seq, a_set, a_own, a_sret, a_next, a_isi, a_slice, a_part, a_nopart, a_range, a_seqS, a_varP, a_par2, a_xp, a_xo, a_xn, a_asg, a_make, a_chg, a_ixO, a_lenO, a_cntO, items_lst, items_tup, sizeOk, boolD, cmpD, slOf, intOf_int, len_encL, ans_rt, a_fn, List.replicate, told0, mk, fold_bend]) free_bend (by simp only [List.all_cons, List.all_nil, sf_pur, sf_own, sf_no, free_encL, free_short, fb, f6, f7, f8, Bool.and_self])
  have q1 := bo1 x7 x6 f7 f6
  have q2 := bo2 (.pur (.str T1)) rfl
  have q3 := bo1 (.pur (bendD n ks hs z)) (.pur (.str T1)) rfl rfl
  have ap : appC (encL ks) [.tuple [.int 99, .int 1]] = some (encL ks ++ [.tuple [.int 99, .int 1]]) := app_ok (by omega)
  obtain ⟨L', pu⟩ : ∃ L', sPut 10 (mRet (.int 0)) (mRet (.int 7)) [.pur (scr ns), .pur k, .pur t, .own b1, .pur (bendD n0 ks0 hs0 z0), .pur (toldD n ks hs), .pur (.str T1), .pur (bendD n ks hs z), x8, .own (encL ks ++ [.tuple [.int 99, .int 1]]), .own (hs.map short), .no] = some (.ok ([.pur (scr ns), .pur k, .pur t, .own b1, .pur (bendD n0 ks0 hs0 z0), .pur (toldD n ks hs), .pur (.str T1), .pur (bendD n ks hs z), x8, .own (encL ks ++ [.tuple [.int 99, .int 1]]), .own L', .no], .nx)) := by
    have p : ixN (hs.map short).length 0 = some 0 := by
      have h : 0 < (hs.map short).length := by simp; omega
      unfold ixN
      rw [if_pos (by omega)]
      rw [if_pos (by omega)]
      rfl
    refine ⟨(hs.map short).set 0 (.int 7), ?_⟩
    unfold sPut mBind mRet
    simp only [List.getElem?_cons_succ, List.getElem?_cons_zero, intOf, p]
    rfl
  have tk : tupleD [.list (encL ks)] = some (.tuple (encL ks)) := id rfl
  have th : tupleD [.list (encL hs)] = some (.tuple (encL hs)) := id rfl
  have tks : tupleD [.list (ks.map short)] = some (.tuple (ks.map short)) := id rfl
  have ll : lenD [.list (encL hs)] = some (.int hs.length) := by simp [lenD, len_encL]
  have nl : neD (.int (hs.length : Int)) (.int hs.length) = some (.bool false) := by simp [neD]
  have sz := st_bend (n := n) (ks := ks) (hs := hs) lz
  have sz0 := st_bend (n := n0) (ks := ks0) (hs := hs0) l0
  have lb := ln_bend (n := n) (ks := ks) (hs := hs) (z := z) (by omega)
  have nz := ne_str oz
  have g1 := neO_bend (n := n) (ks := ks) (hs := hs) (m := n) (ls := ks) (gs := hs) oz oz
  have g2 : eqOD "Bend" F_Bend___eq__ (bendD n ks hs z) (.str z) = some (.bool false) := eqO_no rfl rfl
  have g3 : eqOD "Bend" F_Bend___eq__ (bendD n ks hs z) (.tuple (encL hs)) = some (.bool false) := eqO_no rfl rfl
  have g4 := eqO_bend (n := n0) (ks := ks0) (hs := hs0) (m := n) (ls := ks) (gs := hs) o0 oz
  have g5 := neO_bend (n := n0) (ks := ks0) (hs := hs0) (m := n) (ls := ks) (gs := hs) o0 oz
  have g6 := eq_strs o0 oz
  have g7 := ne_strs o0 oz
  have e7 : ∀ x y : Bool, neD (.bool x) (.bool y) = some (.bool (!(x == y))) := fun x y => by cases x <;> cases y <;> rfl
  rw [decide_eq_true rfl] at g1
  generalize decide (z0 = z) = c at g4 g5 g6 g7
  have e7' : neD (.bool c) (.bool c) = some (.bool false) := by rw [e7]; simp
  have e8' : neD (.bool (!c)) (.bool (!c)) = some (.bool false) := by rw [e7]; simp
  have i3 := fun x8 x9 x10 : Sl => bK (.pur (.str T1)) (.pur (bendD n ks hs z)) x8 x9 x10
  refine ⟨b1, .pur (toldD n ks hs), .pur (.str T1), .pur (bendD n ks hs z), .pur (bendD n ks hs z), .own (encL ks ++ [.tuple [.int 99, .int 1]]), .own L', n, ks, hs, z, ?_, e1.mono (by omega), rfl, rfl, rfl, oz, lz⟩
  have step1 : ∀ x8 x9 x10 : Sl, g_law_3 [.pur (scr ns), .pur k, .pur t, .own b1, .pur (bendD n0 ks0 hs0 z0), .pur (toldD n ks hs), .pur (.str T1), .pur (bendD n ks hs z), x8, x9, x10, .no] = some (.ok ([.pur (scr ns), .pur k, .pur t, .own b1, .pur (bendD n ks hs z), .pur (toldD n ks hs), .pur (.str T1), .pur (bendD n ks hs z), .pur (bendD n ks hs z), x9, x10, .no], .nx)) := fun x8 x9 x10 => by
    simp [bd_ok, lf_some, cl_ok, a_ret, a_op, a_un, a_test, a_and, a_or, a_not, a_andV, a_orV, a_notV, a_if, a_sif, a_nil, a_cons, a_star, a_list, a_tup, a_sized, a_call, a_built, a_seq, a_set, a_own, a_sret, a_next, a_isi, a_slice, a_part, a_nopart, a_range, a_seqS, a_varP, a_par2, a_xp, a_xo, a_xn, a_asg, a_make, a_chg, a_ixO, a_lenO, a_cntO, items_lst, items_tup, sizeOk, boolD, cmpD, slOf, intOf_int, len_encL, ans_rt, a_fn, List.replicate, g_law_3, told0, told1, told2, i3, tks, th, mk2, fold_bend, g_law_2, g1, a_strO, sz, sz0, g2, g3, f_handles, g_law_1, g4, g5, g6, g7, e7', e8']
  have step2 : ∀ x8 x9 x10 : Sl, g_law_5 [.pur (scr ns), .pur k, .pur t, .own b1, .pur (bendD n0 ks0 hs0 z0), .pur (toldD n ks hs), .pur (.str T1), .pur (bendD n ks hs z), x8, x9, x10, .no] = g_law_3 [.pur (scr ns), .pur k, .pur t, .own b1, .pur (bendD n0 ks0 hs0 z0), .pur (toldD n ks hs), .pur (.str T1), .pur (bendD n ks hs z), x8, x9, x10, .no] := fun x8 x9 x10 => by
    simp [bd_ok, lf_some, cl_ok, a_ret, a_op, a_un, a_test, a_and, a_or, a_not, a_andV, a_orV, a_notV, a_if, a_sif, a_nil, a_cons, a_star, a_list, a_tup, a_sized, a_call, a_built, a_seq, a_set, a_own, a_sret, a_next, a_isi, a_slice, a_part, a_nopart, a_range, a_seqS, a_varP, a_par2, a_xp, a_xo, a_xn, a_asg, a_make, a_chg, a_ixO, a_lenO, a_cntO, items_lst, items_tup, sizeOk, boolD, cmpD, slOf, intOf_int, len_encL, ans_rt, a_fn, List.replicate, g_law_5, f_degree, f_marks, f_handles, told0, told1, told2, tk, th, r2, n2, g_law_4, a_lenObj, lb, ll, nl, a_strO, sz, tx, nz]
  have step3 : g_law_6 [.pur (scr ns), .pur k, .pur t, .own b1, .pur (bendD n0 ks0 hs0 z0), .pur (toldD n ks hs), .pur (.str T1), .pur (bendD n ks hs z), x8, .own (encL ks), .own (hs.map short), .no] = g_law_5 [.pur (scr ns), .pur k, .pur t, .own b1, .pur (bendD n0 ks0 hs0 z0), .pur (toldD n ks hs), .pur (.str T1), .pur (bendD n ks hs z), x8, .own (encL ks ++ [.tuple [.int 99, .int 1]]), .own L', .no] := by
    simp [bd_ok, lf_some, cl_ok, a_ret, a_op, a_un, a_test, a_and, a_or, a_not, a_andV, a_orV, a_notV, a_if, a_sif, a_nil, a_cons, a_star, a_list, a_tup, a_sized, a_call, a_built, a_seq, a_set, a_own, a_sret, a_next, a_isi, a_slice, a_part, a_nopart, a_range, a_seqS, a_varP, a_par2, a_xp, a_xo, a_xn, a_asg, a_make, a_chg, a_ixO, a_lenO, a_cntO, items_lst, items_tup, sizeOk, boolD, cmpD, slOf, intOf_int, len_encL, ans_rt, a_fn, List.replicate, g_law_6, ap, pu]
  have step4 : g_law_11 [.pur (scr ns), .pur k, .pur t, .own b, .pur (bendD n0 ks0 hs0 z0), x5, x6, x7, x8, x9, x10, .no] = g_law_6 [.pur (scr ns), .pur k, .pur t, .own b1, .pur (bendD n0 ks0 hs0 z0), .pur (toldD n ks hs), .pur (.str T1), .pur (bendD n ks hs z), x8, .own (encL ks), .own (hs.map short), .no] := by
    simp [bd_ok, lf_some, cl_ok, a_ret, a_op, a_un, a_test, a_and, a_or, a_not, a_andV, a_orV, a_notV, a_if, a_sif, a_nil, a_cons, a_star, a_list, a_tup, a_sized, a_call, a_built, a_seq, a_set, a_own, a_sret, a_next, a_isi, a_slice, a_part, a_nopart, a_range, a_seqS, a_varP, a_par2, a_xp, a_xo, a_xn, a_asg, a_make, a_chg, a_ixO, a_lenO, a_cntO, items_lst, items_tup, sizeOk, boolD, cmpD, slOf, intOf_int, len_encL, ans_rt, a_fn, List.replicate, g_law_11, a_callX, atL, Sl.ls, Sl.put, d1', g_law_10, a_listOf, told1, bM, g_law_9, q1, g_law_8, q2, g_law_7, q3, n1]
  rw [step4, step3, step2, step1]
end
def zF : Str := "bend 0 marks 0 1 handles 0"
theorem call_box {F : FnN} {args : Mo (List D)} {ρ : En} {as b : List D} (ha : args ρ = some (.ok (ρ, as))) (hF : F as = some (.ok b)) : mCallN F args ρ = some (.ok (ρ, b)) := by
  unfold mCallN mBind
  rw [ha]
  simp only [hF]
theorem first_made : I_Bend [.int 0, .list [.int 0, .int 1], .list [.int 0]] = some (.ok [(.str "degree", .int (0 : Nat)), (.str "marks", .tuple (encL [0, 1])), (.str "handles", .tuple (encL [0])), (.str "text", .str zF)]) := by
  kernel_rfl
theorem cell_ok {ns : List Int} {k : Nat} (hk : k < 1000) {x2 x3 x4 x5 x6 x7 x8 x9 x10 : Sl} (f6 : slFree x6 = true) (f7 : slFree x7 = true) (f8 : slFree x8 = true) :
    ∃ y2 y3 y4 y5 y6 y7 y8 y9 y10, g_law_13 [.pur (scr ns), .pur (natD k), x2, x3, x4, x5, x6, x7, x8, x9, x10, .no] = some (.ok ([.pur (scr ns), .pur (natD k), y2, y3, y4, y5, y6, y7, y8, y9, y10, .no], .nx)) ∧ slFree y6 = true ∧ slFree y7 = true ∧ slFree y8 = true := by
  obtain ⟨b0, h0, q0⟩ := box_bx ns k 2 (by omega) (by omega) (by decide) (by decide)
  have h0' : F_law_box [scr ns, natD k, .int 2] = some (.ok b0) := h0
  have rg : range1D [.int 6] = _ := range1_of (z := 6) 6 rfl (by decide)
  have src : mRange range1D (mCons (mRet (.int 6)) (mNil)) [.pur (scr ns), .pur (natD k), x2, .own b0, .pur (bendD 0 [0, 1] [0] zF), x5, x6, x7, x8, x9, x10, .no] = some (.ok ([.pur (scr ns), .pur (natD k), x2, .own b0, .pur (bendD 0 [0, 1] [0] zF), x5, x6, x7, x8, x9, x10, .no], constS ((List.range' 0 6).map natD))) := by
    rw [← List.range_eq_range', a_range, a_cons, a_ret, bd_ok, a_nil, bd_ok, bd_ok, rg]
    rfl
  obtain ⟨ρ', e1, b, y2, y5, y6, y7, y8, y9, y10, n, ks, hs, z, e2, e3, e6, e7, e8, eo, el⟩ := for_range (v := 2) (body := g_law_11) 0 6 (fun i ρ => ∃ b y2 y5 y6 y7 y8 y9 y10 n ks hs z, ρ = [.pur (scr ns), .pur (natD k), y2, .own b, .pur (bendD n ks hs z), y5, y6, y7, y8, y9, y10, .no] ∧ Bx b (2000 * i) ∧ slFree y6 = true ∧ slFree y7 = true ∧ slFree y8 = true ∧ PyData.strOk z = true ∧ z.length ≤ 1000000) src
      ⟨b0, _, _, _, _, _, _, _, 0, [0, 1], [0], zF, rfl, q0.mono (by omega), f6, f7, f8, by decide +kernel, by decide +kernel⟩ fun i ρ _ hi ⟨b, y2, y5, y6, y7, y8, y9, y10, n, ks, hs, z, hρ, hb, g6, g7, g8, go, gl⟩ => by
    subst hρ
    obtain ⟨b', w5, w6, w7, w8, w9, w10, n', ks', hs', z', t1, t2, t6, t7, t8, t9, t10⟩ := turn_ok (ns := ns) (k := natD k) (t := natD i) (x5 := y5) (x9 := y9) (x10 := y10) (n0 := n) (ks0 := ks) (hs0 := hs) hb (by omega) g6 g7 g8 go gl
    exact ⟨_, .nx, t1, .inl rfl, b', _, w5, w6, w7, w8, w9, w10, n', ks', hs', z', rfl, t2.mono (by omega), t6, t7, t8, t9, t10⟩
  subst e2
  refine ⟨y2, .own b, .pur (bendD n ks hs z), y5, y6, y7, y8, y9, y10, ?_, e6, e7, e8⟩
  have cn : mCallN F_law_box (mCons (mVar 0) (mCons (mVar 1) (mCons (mRet (.int 2)) (mNil)))) [.pur (scr ns), .pur (natD k), x2, x3, x4, x5, x6, x7, x8, x9, x10, .no] = some (.ok ([.pur (scr ns), .pur (natD k), x2, x3, x4, x5, x6, x7, x8, x9, x10, .no], b0)) := call_box (as := [scr ns, natD k, .int 2]) rfl h0'
  have fm := first_made
  have fo : PyData.dict [(.str "Bend", .none), (.str "degree", .int (0 : Nat)), (.str "marks", .tuple (encL [0, 1])), (.str "handles", .tuple (encL [0])), (.str "text", .str zF)] = bendD 0 [0, 1] [0] zF := id rfl
  have g13 : g_law_13 [.pur (scr ns), .pur (natD k), x2, x3, x4, x5, x6, x7, x8, x9, x10, .no] = g_law_12 [.pur (scr ns), .pur (natD k), x2, .own b0, .pur (bendD 0 [0, 1] [0] zF), x5, x6, x7, x8, x9, x10, .no] := by
    unfold g_law_13
    rw [a_seq, a_par2, a_xo, cn, bd_ok, a_xp, a_make]
    simp only [a_cons, a_ret, a_list, a_sized, a_nil, bd_ok, sizeOk, lf_some, a_xn, fm, fo, slOf]
    simp [bd_ok, lf_some, cl_ok, a_ret, a_op, a_un, a_test, a_and, a_or, a_not, a_andV, a_orV, a_notV, a_if, a_sif, a_nil, a_cons, a_star, a_list, a_tup, a_sized, a_call, a_built, a_seq, a_set, a_own, a_sret, a_next, a_isi, a_slice, a_part, a_nopart, a_range, a_seqS, a_varP, a_par2, a_xp, a_xo, a_xn, a_asg, a_make, a_chg, a_ixO, a_lenO, a_cntO, items_lst, items_tup, sizeOk, boolD, cmpD, slOf, intOf_int, len_encL, ans_rt, a_fn, List.replicate, fm]
    rfl
  rw [g13]
  unfold g_law_12
  exact e1
theorem law_true (ns : List Int) (_ : ns.length ≤ 63) : isT (F_law [scr ns]) = true := by
  have hl := scr_len ns
  obtain ⟨K, hK, eK⟩ : ∃ K : Nat, K ≤ 3 ∧ mBuilt maxD (mCons (mRet (.int 1)) (mCons (mBuilt minD (mCons (mRet (.int 3)) (mCons (mBuilt lenD (mCons (mVar 0) (mNil))) (mNil)))) (mNil))) [.pur (scr ns), .no, .no, .no, .no, .no, .no, .no, .no, .no, .no, .no] = some (.ok ([.pur (scr ns), .no, .no, .no, .no, .no, .no, .no, .no, .no, .no, .no], .int K)) := by
    by_cases c1 : (ns.length : Int) < 3
    · by_cases c2 : (ns.length : Int) > 1
      · exact ⟨ns.length, by omega, by simp [bd_ok, lf_some, cl_ok, a_ret, a_op, a_un, a_test, a_and, a_or, a_not, a_andV, a_orV, a_notV, a_if, a_sif, a_nil, a_cons, a_star, a_list, a_tup, a_sized, a_call, a_built, a_seq, a_set, a_own, a_sret, a_next, a_isi, a_slice, a_part, a_nopart, a_range, a_seqS, a_varP, a_par2, a_xp, a_xo, a_xn, a_asg, a_make, a_chg, a_ixO, a_lenO, a_cntO, items_lst, items_tup, sizeOk, boolD, cmpD, slOf, intOf_int, len_encL, ans_rt, a_fn, List.replicate, hl, minD, maxD, c1, c2]⟩
      · exact ⟨1, by omega, by simp [bd_ok, lf_some, cl_ok, a_ret, a_op, a_un, a_test, a_and, a_or, a_not, a_andV, a_orV, a_notV, a_if, a_sif, a_nil, a_cons, a_star, a_list, a_tup, a_sized, a_call, a_built, a_seq, a_set, a_own, a_sret, a_next, a_isi, a_slice, a_part, a_nopart, a_range, a_seqS, a_varP, a_par2, a_xp, a_xo, a_xn, a_asg, a_make, a_chg, a_ixO, a_lenO, a_cntO, items_lst, items_tup, sizeOk, boolD, cmpD, slOf, intOf_int, len_encL, ans_rt, a_fn, List.replicate, hl, minD, maxD, c1, c2]⟩
    · exact ⟨3, by omega, by simp [bd_ok, lf_some, cl_ok, a_ret, a_op, a_un, a_test, a_and, a_or, a_not, a_andV, a_orV, a_notV, a_if, a_sif, a_nil, a_cons, a_star, a_list, a_tup, a_sized, a_call, a_built, a_seq, a_set, a_own, a_sret, a_next, a_isi, a_slice, a_part, a_nopart, a_range, a_seqS, a_varP, a_par2, a_xp, a_xo, a_xn, a_asg, a_make, a_chg, a_ixO, a_lenO, a_cntO, items_lst, items_tup, sizeOk, boolD, cmpD, slOf, intOf_int, len_encL, ans_rt, a_fn, List.replicate, hl, minD, maxD, c1]⟩
  have rg : range1D [.int (K : Int)] = _ := range1_of (z := K) K rfl (by omega)
  have src : mRange range1D (mCons (mBuilt maxD (mCons (mRet (.int 1)) (mCons (mBuilt minD (mCons (mRet (.int 3)) (mCons (mBuilt lenD (mCons (mVar 0) (mNil))) (mNil)))) (mNil)))) (mNil)) [.pur (scr ns), .no, .no, .no, .no, .no, .no, .no, .no, .no, .no, .no] = some (.ok ([.pur (scr ns), .no, .no, .no, .no, .no, .no, .no, .no, .no, .no, .no], constS ((List.range' 0 K).map natD))) := by
    rw [← List.range_eq_range', a_range, a_cons, eK, bd_ok, a_nil, bd_ok, bd_ok, rg]
    rfl
  obtain ⟨ρ', e1, y1, y2, y3, y4, y5, y6, y7, y8, y9, y10, e2, f6, f7, f8⟩ := for_range (v := 1) (body := g_law_13) 0 K (fun i ρ => ∃ y1 y2 y3 y4 y5 y6 y7 y8 y9 y10, ρ = [.pur (scr ns), y1, y2, y3, y4, y5, y6, y7, y8, y9, y10, .no] ∧ slFree y6 = true ∧ slFree y7 = true ∧ slFree y8 = true) src ⟨_, _, _, _, _, _, _, _, _, _, rfl, rfl, rfl, rfl⟩ fun i ρ _ hi ⟨y1, y2, y3, y4, y5, y6, y7, y8, y9, y10, hρ, f6, f7, f8⟩ => by
    subst hρ
    obtain ⟨w2, w3, w4, w5, w6, w7, w8, w9, w10, t1, t6, t7, t8⟩ := cell_ok (ns := ns) (k := i) (by omega) (x2 := y2) (x3 := y3) (x4 := y4) (x5 := y5) (x9 := y9) (x10 := y10) f6 f7 f8
    exact ⟨_, .nx, t1, .inl rfl, _, w2, w3, w4, w5, w6, w7, w8, w9, w10, rfl, t6, t7, t8⟩
  subst e2
  have e0 : F_law [scr ns] = ans (g_law [.pur (scr ns), .no, .no, .no, .no, .no, .no, .no, .no, .no, .no, .no]) := rfl
  rw [e0]
  unfold g_law
  rw [a_seq, e1, bd_ok]
  have last : g_law_14 [.pur (scr ns), y1, y2, y3, y4, y5, y6, y7, y8, y9, y10, .no] = some (.ok ([.pur (scr ns), y1, y2, y3, y4, y5, y6, y7, y8, y9, y10, .no], .rt (.bool true))) := by
    kernel_rfl
  simp only [last, ans_rt]
  rfl
end HB
namespace HB
open PySem L2
theorem sc_Bend___eq__ : FnScope ["self", "other"] ["self", "other"] (defScope s_Bend___eq__) := ⟨rfl, rfl, rfl, by decide +kernel, rfl, by decide +kernel, by decide +kernel⟩
theorem me_Bend___eq__ {P : Program} {w : World} {K : PySem.W.Frag} {mg : Str → Option Value} {base : Heap} (T : Say K mg) : MeE P w K mg base 1 "Bend" "__eq__" 2 F_Bend___eq__ := by
  obtain ⟨fd, F⟩ := T.d_Bend___eq__
  exact meth_ok F sc_Bend___eq__ T.cl_Bend T.me_Bend___eq__ (fun _ _ _ _ _ _ us hl => match us, hl with | [_, _], _ => rfl) fun cdv A outer s H E hr =>
    ss_one (s_ret (ev_and (ev_isO T.cl_Bend T.isx_Bend T.iso_Bend (ev_var 1) (T.m_isinstance) T.gc_Bend) (ev_one (ev_cmp (dop_eq hr.units) (ev_fld (ev_var 0) T.cl_Bend T.na_Bend_text) (ev_fld (ev_var 1) T.cl_Bend T.na_Bend_text) (nomark _)))))
theorem sc_InvalidBend_init : FnScope ["self", "word"] ["self", "word"] (defScope s_InvalidBend_init) := ⟨rfl, rfl, rfl, by decide +kernel, rfl, by decide +kernel, by decide +kernel⟩
theorem xc_InvalidBend {P : Program} {w : World} {K : PySem.W.Frag} {mg : Str → Option Value} {base : Heap} (T : Say K mg) : XcE P w K mg base 1 "InvalidBend" "word" := by
  obtain ⟨fd, F⟩ := T.d_InvalidBend_init
  exact exc_ok F sc_InvalidBend_init T.xf_InvalidBend T.gc_InvalidBend (fun _ _ _ _ _ _ us hl => match us, hl with | [_, _], _ => rfl) fun cdv A outer s H E => exc_suite rfl rfl (by first | exact Or.inl rfl | exact Or.inr (Or.inl rfl) | exact Or.inr (Or.inr rfl)) (by first | exact Or.inl rfl | exact Or.inr (Or.inl rfl) | exact Or.inr (Or.inr rfl)) rfl T.gc_BendError T.bot_BendError T.xf_InvalidBend.o T.xf_InvalidBend.n (by decide) (by decide) (by decide) rfl rfl rfl
theorem sc_is_less : FnScope ["one", "other"] ["one", "other"] (defScope s_is_less) := ⟨rfl, rfl, rfl, by decide +kernel, rfl, by decide +kernel, by decide +kernel⟩
theorem ok_is_less {P : Program} {w : World} {K : PySem.W.Frag} {mg : Str → Option Value} {base : Heap} (T : Say K mg) : FnE P w K mg base 1 "is_less" ["one", "other"] F_is_less := by
  obtain ⟨fd, F⟩ := T.d_is_less
  exact FnE.by (F := guard 2 (runF 2 g_is_less)) (fn_ok F sc_is_less T.g_is_less (fun _ _ _ _ _ _ us hl => match us, hl with | [_, _], _ => rfl) fun cdv A outer s H E hr =>
    ss_one (s_ret (ev_cmp dop_lt (ev_op dop_mul (ev_ix (ev_var 0) (ev_int)) (ev_ix (ev_var 1) (ev_int))) (ev_op dop_mul (ev_ix (ev_var 1) (ev_int)) (ev_ix (ev_var 0) (ev_int))) (nomark _)))) mir_is_less
theorem sc_is_sequence : FnScope ["value"] ["value"] (defScope s_is_sequence) := ⟨rfl, rfl, rfl, by decide +kernel, rfl, by decide +kernel, by decide +kernel⟩
theorem ok_is_sequence {P : Program} {w : World} {K : PySem.W.Frag} {mg : Str → Option Value} {base : Heap} (T : Say K mg) : FnE P w K mg base 1 "is_sequence" ["value"] F_is_sequence := by
  obtain ⟨fd, F⟩ := T.d_is_sequence
  exact fn_ok F sc_is_sequence T.g_is_sequence (fun _ _ _ _ _ _ us hl => match us, hl with | [_], _ => rfl) fun cdv A outer s H E hr =>
    ss_one (s_ret (ev_isiLT (ev_var 0) (T.m_isinstance) (T.m_list) (T.m_tuple)))
theorem sc_common_part : FnScope ["one", "other"] ["one", "other"] (defScope s_common_part) := ⟨rfl, rfl, rfl, by decide +kernel, rfl, by decide +kernel, by decide +kernel⟩
theorem ok_common_part {P : Program} {w : World} {K : PySem.W.Frag} {mg : Str → Option Value} {base : Heap} (T : Say K mg) : FnE P w K mg base 1 "common_part" ["one", "other"] F_common_part := by
  obtain ⟨fd, F⟩ := T.d_common_part
  exact FnE.by (F := guard 2 (runF 2 g_common_part)) (fn_ok F sc_common_part T.g_common_part (fun _ _ _ _ _ _ us hl => match us, hl with | [_, _], _ => rfl) fun cdv A outer s H E hr =>
    ss_cons (s_par2 (i := 0) (j := 1) rfl sc_common_part.nd (ex_consP (ev_callB dc_abs (T.m_abs) (by decide +kernel) (ea_cons (ev_var 0) (ea_nil))) (ex_consP (ev_callB dc_abs (T.m_abs) (by decide +kernel) (ea_cons (ev_var 1) (ea_nil))) (ex_nil))))
    (ss_cons (s_while (fuelInt 1) pass_own (et_cmp dop_gt (ev_var 1) (ev_int) (nomark _)) (ss_one (s_par2 (i := 0) (j := 1) rfl sc_common_part.nd (ex_consP (ev_var 1) (ex_consP (ev_op dop_mod (ev_var 0) (ev_var 1)) (ex_nil))))))
    (ss_one (s_ret (ev_var 0))))) mir_common_part
theorem sc_is_integer : FnScope ["value"] ["value"] (defScope s_is_integer) := ⟨rfl, rfl, rfl, by decide +kernel, rfl, by decide +kernel, by decide +kernel⟩
theorem ok_is_integer {P : Program} {w : World} {K : PySem.W.Frag} {mg : Str → Option Value} {base : Heap} (T : Say K mg) : FnE P w K mg base 1 "is_integer" ["value"] F_is_integer := by
  obtain ⟨fd, F⟩ := T.d_is_integer
  exact fn_ok F sc_is_integer T.g_is_integer (fun _ _ _ _ _ _ us hl => match us, hl with | [_], _ => rfl) fun cdv A outer s H E hr =>
    ss_one (s_ret (ev_and (ev_isi tab_int (ev_var 0) (T.m_isinstance) (T.m_int) (by decide +kernel)) (ev_one (ev_not (ev_isi tab_bool (ev_var 0) (T.m_isinstance) (T.m_bool) (by decide +kernel))))))
theorem sc_is_value : FnScope ["value"] ["value"] (defScope s_is_value) := ⟨rfl, rfl, rfl, by decide +kernel, rfl, by decide +kernel, by decide +kernel⟩
theorem ok_is_value {P : Program} {w : World} {K : PySem.W.Frag} {mg : Str → Option Value} {base : Heap} (T : Say K mg) : FnE P w K mg base 2 "is_value" ["value"] F_is_value := by
  obtain ⟨fd, F⟩ := T.d_is_value
  exact fn_ok F sc_is_value T.g_is_value (fun _ _ _ _ _ _ us hl => match us, hl with | [_], _ => rfl) fun cdv A outer s H E hr =>
    ss_cons (s_if (et_val (ev_call (ok_is_integer T) (hr.mono (by decide)) pass_cx (ea_cons (ev_var 0) (ea_nil)))) (ss_one (s_ret (ev_bl))) (ss_nil))
    (ss_cons (s_if ((ew_or (et_not (et_val (ev_isi tab_tup (ev_var 0) (T.m_isinstance) (T.m_tuple) (by decide +kernel)))) (ew_or (et_cmp (dop_ne hr.units) (ev_callB dc_len (T.m_len) (by decide +kernel) (ea_cons (ev_var 0) (ea_nil))) (ev_glob T.c_PAIR) (nomark _)) (ew_or (et_not (et_val (ev_call (ok_is_integer T) (hr.mono (by decide)) pass_cx (ea_cons (ev_ix (ev_var 0) (ev_int)) (ea_nil))))) (ew_or1 (et_not (et_val (ev_call (ok_is_integer T) (hr.mono (by decide)) pass_cx (ea_cons (ev_ix (ev_var 0) (ev_int)) (ea_nil))))))))).et) (ss_one (s_ret (ev_bl))) (ss_nil))
    (ss_one (s_ret (ev_and (ev_cmp dop_gt (ev_ix (ev_var 0) (ev_int)) (ev_int) (nomark _)) (ev_one (ev_cmp (dop_eq hr.units) (ev_call (ok_common_part T) (hr.mono (by decide)) pass_cx (ea_cons (ev_ix (ev_var 0) (ev_int)) (ea_cons (ev_ix (ev_var 0) (ev_int)) (ea_nil)))) (ev_int) (nomark _)))))))
theorem sc_value_of : FnScope ["value"] ["value"] (defScope s_value_of) := ⟨rfl, rfl, rfl, by decide +kernel, rfl, by decide +kernel, by decide +kernel⟩
theorem ok_value_of {P : Program} {w : World} {K : PySem.W.Frag} {mg : Str → Option Value} {base : Heap} (T : Say K mg) : FnE P w K mg base 2 "value_of" ["value"] F_value_of := by
  obtain ⟨fd, F⟩ := T.d_value_of
  exact fn_ok F sc_value_of T.g_value_of (fun _ _ _ _ _ _ us hl => match us, hl with | [_], _ => rfl) fun cdv A outer s H E hr =>
    ss_one (s_ret (ev_if (et_val (ev_call (ok_is_integer T) (hr.mono (by decide)) pass_cx (ea_cons (ev_var 0) (ea_nil)))) (ev_tup (ea_cons (ev_var 0) (ea_cons (ev_int) (ea_nil)))) (ev_var 0)))
theorem sc_are_marks : FnScope ["degree", "marks", "rows", "counts", "one", "row", "at", "many"] ["degree", "marks"] (defScope s_are_marks) := ⟨rfl, rfl, rfl, by decide +kernel, rfl, by decide +kernel, by decide +kernel⟩
theorem ok_are_marks {P : Program} {w : World} {K : PySem.W.Frag} {mg : Str → Option Value} {base : Heap} (T : Say K mg) : FnE P w K mg base 3 "are_marks" ["degree", "marks"] F_are_marks := by
  obtain ⟨fd, F⟩ := T.d_are_marks
  exact fn_ok F sc_are_marks T.g_are_marks (fun _ _ _ _ _ _ us hl => match us, hl with | [_, _], _ => rfl) fun cdv A outer s H E hr =>
    ss_cons (s_if ((ew_or (et_not (et_val (ev_call (ok_is_sequence T) (hr.mono (by decide)) pass_cx (ea_cons (ev_var 1) (ea_nil))))) (ew_or (et_cmp dop_le (ev_callB dc_len (T.m_len) (by decide +kernel) (ea_cons (ev_var 1) (ea_nil))) (ev_int) (nomark _)) (ew_or1 (et_not (et_val (ev_callB (dc_all rfl) (T.m_all) (by decide +kernel) (ea_cons (((lc_c (own := [("one", 4)]) (iv_seq (ev_var 1)) const_seq (blkOk_by (own := [("one", 4)]) (by kernel_rfl)) (fun _ _ _ _ _ => gv_name (i := 4) sc_are_marks.nd) (fun _ _ _ _ _ => eif_nil) (fun _ _ _ _ _ => ev_call (ok_is_value T) (hr.mono (by decide)) passL (ea_cons (ev_var 4) (ea_nil)))).en rfl sc_are_marks.nd).ev) (ea_nil)))))))).et) (ss_one (s_ret (ev_bl))) (ss_nil))
    (ss_cons (s_set (i := 2) (((lc_c (own := [("one", 4)]) (iv_seq (ev_var 1)) const_seq (blkOk_by (own := [("one", 4)]) (by kernel_rfl)) (fun _ _ _ _ _ => gv_name (i := 4) sc_are_marks.nd) (fun _ _ _ _ _ => eif_nil) (fun _ _ _ _ _ => ev_call (ok_value_of T) (hr.mono (by decide)) passL (ea_cons (ev_var 4) (ea_nil)))).en rfl sc_are_marks.nd).ev) sc_are_marks.nd)
    (ss_cons (s_if (et_val (ev_callB (dc_any rfl) (T.m_any) (by decide +kernel) (ea_cons (((lc_c (own := [("at", 6)]) (iv_range1 (T.m_range) (ea_cons (ev_op dop_sub (ev_callB dc_len (T.m_len) (by decide +kernel) (ea_cons (ev_var 2) (ea_nil))) (ev_int)) (ea_nil))) const_range1 (blkOk_by (own := [("at", 6)]) (by kernel_rfl)) (fun _ _ _ _ _ => gv_name (i := 6) sc_are_marks.nd) (fun _ _ _ _ _ => eif_nil) (fun _ _ _ _ _ => ev_call (ok_is_less T) (hr.mono (by decide)) passL (ea_cons (ev_ix (ev_var 2) (ev_op dop_add (ev_var 6) (ev_int))) (ea_cons (ev_ix (ev_var 2) (ev_var 6)) (ea_nil))))).en rfl sc_are_marks.nd).ev) (ea_nil)))) (ss_one (s_ret (ev_bl))) (ss_nil))
    (ss_cons ((lc_c (own := [("row", 5)]) (iv_seq (ev_var 2)) const_seq (blkOk_by (own := [("row", 5)]) (by kernel_rfl)) (fun _ _ _ _ _ => gv_name (i := 5) sc_are_marks.nd) (fun _ _ _ _ _ => eif_nil) (fun _ _ _ _ _ => ev_callB dc_len (T.m_len) (by decide +kernel) (ea_cons (((lc_c (own := [("one", 4)]) (iv_seq (ev_var 2)) const_seq (blkOk_by (own := [("one", 4)]) (by kernel_rfl)) (fun _ _ _ _ _ => gv_name (i := 4) sc_are_marks.nd) (fun _ _ _ _ _ => eif_one (et_cmp (dop_eq hr.units) (ev_var 4) (ev_var 5) (nomark _))) (fun _ _ _ _ _ => ev_var 4)).en rfl sc_are_marks.nd).ev) (ea_nil)))).set (i := 3) rfl sc_are_marks.nd (sw_true rfl rfl rfl (by kernel_rfl)))
    (ss_one (s_ret (ev_and (ev_cmp (dop_eq hr.units) (ev_ix (ev_var 3) (ev_int)) (ev_int) (nomark _)) (ev_and (ev_cmp (dop_eq hr.units) (ev_ix (ev_var 3) (ev_neg (ev_int))) (ev_int) (nomark _)) (ev_one (ev_callB (dc_all rfl) (T.m_all) (by decide +kernel) (ea_cons (((lc_c (own := [("many", 7)]) (iv_seq (ev_slice (ev_var 3) (eo_some (ev_int)) (eo_some (ev_neg (ev_int))))) const_seq (blkOk_by (own := [("many", 7)]) (by kernel_rfl)) (fun _ _ _ _ _ => gv_name (i := 7) sc_are_marks.nd) (fun _ _ _ _ _ => eif_nil) (fun _ _ _ _ _ => ev_cmp dop_le (ev_var 7) (ev_var 0) (nomark _))).en rfl sc_are_marks.nd).ev) (ea_nil)))))))))))
theorem sc_text_of : FnScope ["value"] ["value"] (defScope s_text_of) := ⟨rfl, rfl, rfl, by decide +kernel, rfl, by decide +kernel, by decide +kernel⟩
theorem ok_text_of {P : Program} {w : World} {K : PySem.W.Frag} {mg : Str → Option Value} {base : Heap} (T : Say K mg) : FnE P w K mg base 1 "text_of" ["value"] F_text_of := by
  obtain ⟨fd, F⟩ := T.d_text_of
  exact fn_ok F sc_text_of T.g_text_of (fun _ _ _ _ _ _ us hl => match us, hl with | [_], _ => rfl) fun cdv A outer s H E hr =>
    ss_one (s_ret (ev_if (et_cmp (dop_eq hr.units) (ev_ix (ev_var 0) (ev_int)) (ev_int) (nomark _)) (ev_callTy dc_str (T.m_str) (by decide +kernel) (ea_cons (ev_ix (ev_var 0) (ev_int)) (ea_nil))) (ev_joined (ej_cons (ev_fmt (ev_ix (ev_var 0) (ev_int))) (ej_cons (ev_str) (ej_cons (ev_fmt (ev_ix (ev_var 0) (ev_int))) (ej_nil)))))))
theorem sc_text_of_bend : FnScope ["degree", "marks", "handles", "here", "there", "one"] ["degree", "marks", "handles"] (defScope s_text_of_bend) := ⟨rfl, rfl, rfl, by decide +kernel, rfl, by decide +kernel, by decide +kernel⟩
theorem ok_text_of_bend {P : Program} {w : World} {K : PySem.W.Frag} {mg : Str → Option Value} {base : Heap} (T : Say K mg) : FnE P w K mg base 2 "text_of_bend" ["degree", "marks", "handles"] F_text_of_bend := by
  obtain ⟨fd, F⟩ := T.d_text_of_bend
  exact fn_ok F sc_text_of_bend T.g_text_of_bend (fun _ _ _ _ _ _ us hl => match us, hl with | [_, _, _], _ => rfl) fun cdv A outer s H E hr =>
    ss_cons (s_par2 (i := 3) (j := 4) rfl sc_text_of_bend.nd (ex_consP (((lc_c (own := [("one", 5)]) (iv_seq (ev_var 1)) const_seq (blkOk_by (own := [("one", 5)]) (by kernel_rfl)) (fun _ _ _ _ _ => gv_name (i := 5) sc_text_of_bend.nd) (fun _ _ _ _ _ => eif_nil) (fun _ _ _ _ _ => ev_call (ok_text_of T) (hr.mono (by decide)) passL (ea_cons (ev_var 5) (ea_nil)))).en rfl sc_text_of_bend.nd).ev) (ex_consP (((lc_c (own := [("one", 5)]) (iv_seq (ev_var 2)) const_seq (blkOk_by (own := [("one", 5)]) (by kernel_rfl)) (fun _ _ _ _ _ => gv_name (i := 5) sc_text_of_bend.nd) (fun _ _ _ _ _ => eif_nil) (fun _ _ _ _ _ => ev_call (ok_text_of T) (hr.mono (by decide)) passL (ea_cons (ev_var 5) (ea_nil)))).en rfl sc_text_of_bend.nd).ev) (ex_nil))))
    (ss_one (s_ret (ev_join (ev_str) ((en_lst (ea_cons (ev_str) (ea_cons (ev_callTy dc_str (T.m_str) (by decide +kernel) (ea_cons (ev_var 0) (ea_nil))) (ea_cons (ev_str) (ea_star (ev_var 3) (ea_cons (ev_str) (ea_star (ev_var 4) (ea_nil)))))))).ev))))
theorem sc_Bend_init : FnScope ["self", "degree", "marks", "handles", "one"] ["self", "degree", "marks", "handles"] (defScope s_Bend_init) := ⟨rfl, rfl, rfl, by decide +kernel, rfl, by decide +kernel, by decide +kernel⟩
theorem mk_Bend {P : Program} {w : World} {K : PySem.W.Frag} {mg : Str → Option Value} {base : Heap} (T : Say K mg) : MkE P w K mg base 4 "Bend" 3 I_Bend := by
  obtain ⟨fd, F⟩ := T.d_Bend_init
  exact init_ok F sc_Bend_init T.mk_Bend T.gc_Bend (fun _ _ _ _ _ _ us hl => match us, hl with | [_, _, _, _], _ => rfl) fun cdv A outer s H E hr =>
    so_if ((ew_or (et_not (et_val (ev_call (ok_is_integer T) (hr.mono (by decide)) pass_cx (ea_cons (ev_var 1) (ea_nil))))) (ew_or1 (et_cmp dop_lt (ev_var 1) (ev_int) (nomark _)))).et) (ss_one (s_raise (xc_InvalidBend T) (hr.mono (by decide)) rfl (takes_of rfl rfl rfl rfl) (ev_str))) (so_if (et_not (et_val (ev_call (ok_are_marks T) (hr.mono (by decide)) pass_cx (ea_cons (ev_var 1) (ea_cons (ev_var 2) (ea_nil)))))) (ss_one (s_raise (xc_InvalidBend T) (hr.mono (by decide)) rfl (takes_of rfl rfl rfl rfl) (ev_str))) (so_if ((ew_or (et_not (et_val (ev_call (ok_is_sequence T) (hr.mono (by decide)) pass_cx (ea_cons (ev_var 3) (ea_nil))))) (ew_or1 (et_not (et_val (ev_callB (dc_all rfl) (T.m_all) (by decide +kernel) (ea_cons (((lc_c (own := [("one", 4)]) (iv_seq (ev_var 3)) const_seq (blkOk_by (own := [("one", 4)]) (by kernel_rfl)) (fun _ _ _ _ _ => gv_name (i := 4) sc_Bend_init.nd) (fun _ _ _ _ _ => eif_nil) (fun _ _ _ _ _ => ev_call (ok_is_value T) (hr.mono (by decide)) passL (ea_cons (ev_var 4) (ea_nil)))).en rfl sc_Bend_init.nd).ev) (ea_nil))))))).et) (ss_one (s_raise (xc_InvalidBend T) (hr.mono (by decide)) rfl (takes_of rfl rfl rfl rfl) (ev_str))) (so_if (et_cmp (dop_ne hr.units) (ev_callB dc_len (T.m_len) (by decide +kernel) (ea_cons (ev_var 3) (ea_nil))) (ev_op dop_sub (ev_op dop_add (ev_var 1) (ev_callB dc_len (T.m_len) (by decide +kernel) (ea_cons (ev_var 2) (ea_nil)))) (ev_int)) (nomark _)) (ss_one (s_raise (xc_InvalidBend T) (hr.mono (by decide)) rfl (takes_of rfl rfl rfl rfl) (ev_str))) (so_put (evo_of (ev_var 1))
    (so_put (evo_of (ev_callTy dc_tuple (T.m_tuple) (by decide +kernel) (ea_cons (((lc_c (own := [("one", 4)]) (iv_seq (ev_var 2)) const_seq (blkOk_by (own := [("one", 4)]) (by kernel_rfl)) (fun _ _ _ _ _ => gv_name (i := 4) sc_Bend_init.nd) (fun _ _ _ _ _ => eif_nil) (fun _ _ _ _ _ => ev_call (ok_value_of T) (hr.mono (by decide)) passL (ea_cons (ev_var 4) (ea_nil)))).en rfl sc_Bend_init.nd).ev) (ea_nil))))
    (so_put (evo_of (ev_callTy dc_tuple (T.m_tuple) (by decide +kernel) (ea_cons (((lc_c (own := [("one", 4)]) (iv_seq (ev_var 3)) const_seq (blkOk_by (own := [("one", 4)]) (by kernel_rfl)) (fun _ _ _ _ _ => gv_name (i := 4) sc_Bend_init.nd) (fun _ _ _ _ _ => eif_nil) (fun _ _ _ _ _ => ev_call (ok_value_of T) (hr.mono (by decide)) passL (ea_cons (ev_var 4) (ea_nil)))).en rfl sc_Bend_init.nd).ev) (ea_nil))))
    (so_put (evo_call (ok_text_of_bend T) (hr.mono (by decide)) pass_cx (eao_cons (evo_of (ev_var 1)) (eao_cons (evo_fld (hc := T.cl_Bend) (hn := T.na_Bend_marks)) (eao_cons (evo_fld (hc := T.cl_Bend) (hn := T.na_Bend_handles)) (eao_nil)))))
    (so_nil) T.cl_Bend T.na_Bend_text) T.cl_Bend T.na_Bend_handles) T.cl_Bend T.na_Bend_marks) T.cl_Bend T.na_Bend_degree))))
theorem sc_Bend___len__ : FnScope ["self"] ["self"] (defScope s_Bend___len__) := ⟨rfl, rfl, rfl, by decide +kernel, rfl, by decide +kernel, by decide +kernel⟩
theorem me_Bend___len__ {P : Program} {w : World} {K : PySem.W.Frag} {mg : Str → Option Value} {base : Heap} (T : Say K mg) : MeE P w K mg base 1 "Bend" "__len__" 1 F_Bend___len__ := by
  obtain ⟨fd, F⟩ := T.d_Bend___len__
  exact meth_ok F sc_Bend___len__ T.cl_Bend T.me_Bend___len__ (fun _ _ _ _ _ _ us hl => match us, hl with | [_], _ => rfl) fun cdv A outer s H E hr =>
    ss_one (s_ret (ev_callB dc_len (T.m_len) (by decide +kernel) (ea_cons (ev_fld (ev_var 0) T.cl_Bend T.na_Bend_handles) (ea_nil))))
theorem sc_Bend___str__ : FnScope ["self"] ["self"] (defScope s_Bend___str__) := ⟨rfl, rfl, rfl, by decide +kernel, rfl, by decide +kernel, by decide +kernel⟩
theorem me_Bend___str__ {P : Program} {w : World} {K : PySem.W.Frag} {mg : Str → Option Value} {base : Heap} (T : Say K mg) : MeE P w K mg base 1 "Bend" "__str__" 1 F_Bend___str__ := by
  obtain ⟨fd, F⟩ := T.d_Bend___str__
  exact meth_ok F sc_Bend___str__ T.cl_Bend T.me_Bend___str__ (fun _ _ _ _ _ _ us hl => match us, hl with | [_], _ => rfl) fun cdv A outer s H E hr =>
    ss_one (s_ret (ev_joined1 (ev_fmt (ev_fld (ev_var 0) T.cl_Bend T.na_Bend_text))))
theorem sc_law_box : FnScope ["_law_script", "_law_k", "_law_own", "_law_cell", "_law_seed"] ["_law_script", "_law_k", "_law_own"] (defScope s_law_box) := ⟨rfl, rfl, rfl, by decide +kernel, rfl, by decide +kernel, by decide +kernel⟩
theorem ok_law_box {P : Program} {w : World} {K : PySem.W.Frag} {mg : Str → Option Value} {base : Heap} (T : Say K mg) : FnNE P w K mg base 1 "_law_box" 3 F_law_box := by
  obtain ⟨fd, F⟩ := T.d_law_box
  exact fn_okN F sc_law_box T.g_law_box (fun _ _ _ _ _ _ us hl => match us, hl with | [_, _, _], _ => rfl) fun cdv A outer s H E hr =>
    svn_cons (s_set (i := 3) (ev_op dop_add (ev_op dop_add (ev_op dop_mul (ev_int) (ev_var 1)) (ev_op dop_mul (ev_int) (ev_var 2))) (ev_int)) sc_law_box.nd)
    (svn_cons (s_if (et_cmp dop_lt (ev_var 1) (ev_callB dc_len (T.m_len) (by decide +kernel) (ea_cons (ev_var 0) (ea_nil))) (nomark _)) (ss_one (s_set (i := 3) (ev_callB dc_abs (T.m_abs) (by decide +kernel) (ea_cons (ev_ix (ev_var 0) (ev_var 1)) (ea_nil))) sc_law_box.nd)) (ss_one (s_if (et_cmp dop_gt (ev_callB dc_len (T.m_len) (by decide +kernel) (ea_cons (ev_var 0) (ea_nil))) (ev_int) (nomark _)) (ss_one (s_set (i := 3) (ev_op dop_add (ev_var 3) (ev_op dop_mul (ev_op dop_mod (ev_callTy dc_int (T.m_int) (by decide +kernel) (ea_cons (ev_callB dc_abs (T.m_abs) (by decide +kernel) (ea_cons (ev_ix (ev_var 0) (ev_op dop_mod (ev_callTy dc_int (T.m_int) (by decide +kernel) (ea_cons (ev_var 1) (ea_nil))) (ev_callB dc_len (T.m_len) (by decide +kernel) (ea_cons (ev_var 0) (ea_nil))))) (ea_nil))) (ea_nil))) (ev_int)) (ev_int))) sc_law_box.nd)) (ss_nil))))
    (svn_cons (s_set (i := 4) (ev_op dop_add (ev_op dop_mod (ev_callTy dc_int (T.m_int) (by decide +kernel) (ea_cons (ev_op dop_add (ev_op dop_mul (ev_op dop_mod (ev_callTy dc_int (T.m_int) (by decide +kernel) (ea_cons (ev_var 3) (ea_nil))) (ev_int)) (ev_int)) (ev_op dop_mul (ev_int) (ev_op dop_add (ev_var 1) (ev_op dop_mul (ev_int) (ev_var 2))))) (ea_nil))) (ev_int)) (ev_int)) sc_law_box.nd)
    (svn_ret (en_lst (ea_cons (ev_ix ((en_lst (ea_cons (ev_int) (ea_cons (ev_var 3) (ea_nil)))).ev) (ev_callTy dc_int (T.m_int) (by decide +kernel) (ea_cons (ev_cmp dop_ge (ev_var 3) (ev_op dop_pow (ev_int) (ev_int)) (nomark _)) (ea_nil)))) (ea_cons (ev_var 4) (ea_cons (ev_int) (ea_nil))))))))
theorem sc_law_fr : FnScope ["_law_top", "_law_bottom", "_law_sign", "_law_one", "_law_second"] ["_law_top", "_law_bottom"] (defScope s_law_fr) := ⟨rfl, rfl, rfl, by decide +kernel, rfl, by decide +kernel, by decide +kernel⟩
theorem ok_law_fr {P : Program} {w : World} {K : PySem.W.Frag} {mg : Str → Option Value} {base : Heap} (T : Say K mg) : FnE P w K mg base 1 "_law_fr" ["_law_top", "_law_bottom"] F_law_fr := by
  obtain ⟨fd, F⟩ := T.d_law_fr
  exact fn_ok F sc_law_fr T.g_law_fr (fun _ _ _ _ _ _ us hl => match us, hl with | [_, _], _ => rfl) fun cdv A outer s H E hr =>
    ss_cons (s_par2 (i := 3) (j := 4) rfl sc_law_fr.nd (ex_consP (ev_callB dc_abs (T.m_abs) (by decide +kernel) (ea_cons (ev_callTy dc_int (T.m_int) (by decide +kernel) (ea_cons (ev_var 0) (ea_nil))) (ea_nil))) (ex_consP (ev_callB dc_abs (T.m_abs) (by decide +kernel) (ea_cons (ev_callTy dc_int (T.m_int) (by decide +kernel) (ea_cons (ev_var 1) (ea_nil))) (ea_nil))) (ex_nil))))
    (ss_cons (s_while (fuelInt 4) pass_own (et_cmp dop_gt (ev_var 4) (ev_int) (nomark _)) (ss_one (s_par2 (i := 3) (j := 4) rfl sc_law_fr.nd (ex_consP (ev_var 4) (ex_consP (ev_op dop_mod (ev_var 3) (ev_var 4)) (ex_nil))))))
    (ss_cons (s_set (i := 2) (ev_if (et_cmp dop_gt (ev_var 1) (ev_int) (nomark _)) (ev_int) (ev_op dop_sub (ev_int) (ev_int))) sc_law_fr.nd)
    (ss_one (s_ret (ev_tup (ea_cons (ev_op dop_fdiv (ev_callTy dc_int (T.m_int) (by decide +kernel) (ea_cons (ev_op dop_mul (ev_var 2) (ev_var 0)) (ea_nil))) (ev_var 3)) (ea_cons (ev_op dop_fdiv (ev_callTy dc_int (T.m_int) (by decide +kernel) (ea_cons (ev_op dop_mul (ev_var 2) (ev_var 1)) (ea_nil))) (ev_var 3)) (ea_nil))))))))
theorem sc_law_add : FnScope ["_law_one", "_law_second"] ["_law_one", "_law_second"] (defScope s_law_add) := ⟨rfl, rfl, rfl, by decide +kernel, rfl, by decide +kernel, by decide +kernel⟩
theorem ok_law_add {P : Program} {w : World} {K : PySem.W.Frag} {mg : Str → Option Value} {base : Heap} (T : Say K mg) : FnE P w K mg base 2 "_law_add" ["_law_one", "_law_second"] F_law_add := by
  obtain ⟨fd, F⟩ := T.d_law_add
  exact fn_ok F sc_law_add T.g_law_add (fun _ _ _ _ _ _ us hl => match us, hl with | [_, _], _ => rfl) fun cdv A outer s H E hr =>
    ss_one (s_ret (ev_call (ok_law_fr T) (hr.mono (by decide)) pass_cx (ea_cons (ev_op dop_add (ev_op dop_mul (ev_ix (ev_var 0) (ev_int)) (ev_ix (ev_var 1) (ev_int))) (ev_op dop_mul (ev_ix (ev_var 1) (ev_int)) (ev_ix (ev_var 0) (ev_int)))) (ea_cons (ev_op dop_mul (ev_ix (ev_var 0) (ev_int)) (ev_ix (ev_var 1) (ev_int))) (ea_nil)))))
theorem sc_law_take : FnScope ["_law_box_here", "_law_bound", "_law_raw", "_law_wide", "_law_digit"] ["_law_box_here", "_law_bound"] (defScope s_law_take) := ⟨rfl, rfl, rfl, by decide +kernel, rfl, by decide +kernel, by decide +kernel⟩
theorem ok_law_take {P : Program} {w : World} {K : PySem.W.Frag} {mg : Str → Option Value} {base : Heap} (T : Say K mg) : FnXE P w K mg base 1 "_law_take" 1 F_law_take := by
  obtain ⟨fd, F⟩ := T.d_law_take
  exact FnXE.by (F := guardX 1 (runX 4 g_law_take)) (fn_okX F sc_law_take T.g_law_take (fun _ _ _ _ _ _ us hl => match us, hl with | [_, _], _ => rfl) fun cdv A outer s H E hr =>
    ss_cons (s_if (et_cmp dop_gt (ev_ixB (i := 0) (ev_int)) (ev_int) (nomark _)) (ss_cons (s_set (i := 4) (ev_op dop_mod (ev_callTy dc_int (T.m_int) (by decide +kernel) (ea_cons (ev_ixB (i := 0) (ev_int)) (ea_nil))) (ev_var 1)) sc_law_take.nd)
    (ss_cons (s_putB (i := 0) (ev_op dop_fdiv (ev_ixB (i := 0) (ev_int)) (ev_var 1)) (ev_int))
    (ss_one (s_ret (ev_var 4))))) (ss_nil))
    (ss_cons (s_putB (i := 0) (ev_op dop_add (ev_ixB (i := 0) (ev_int)) (ev_int)) (ev_int))
    (ss_cons (s_set (i := 2) (ev_op dop_mod (ev_callTy dc_int (T.m_int) (by decide +kernel) (ea_cons (ev_op dop_mul (ev_op dop_add (ev_ixB (i := 0) (ev_int)) (ev_op dop_mul (ev_int) (ev_ixB (i := 0) (ev_int)))) (ev_int)) (ea_nil))) (ev_int)) sc_law_take.nd)
    (ss_cons (s_putB (i := 0) (ev_op dop_add (ev_op dop_mod (ev_callTy dc_int (T.m_int) (by decide +kernel) (ea_cons (ev_op dop_add (ev_op dop_mul (ev_var 2) (ev_int)) (ev_int)) (ea_nil))) (ev_int)) (ev_int)) (ev_int))
    (ss_cons (s_if (et_cmp dop_lt (ev_var 1) (ev_op dop_pow (ev_int) (ev_int)) (nomark _)) (ss_one (s_ret (ev_op dop_mod (ev_callTy dc_int (T.m_int) (by decide +kernel) (ea_cons (ev_op dop_fdiv (ev_op dop_add (ev_op dop_mul (ev_var 2) (ev_int)) (ev_ixB (i := 0) (ev_int))) (ev_int)) (ea_nil))) (ev_var 1)))) (ss_nil))
    (ss_cons (s_set (i := 3) (ev_op dop_mul (ev_op dop_add (ev_op dop_mul (ev_var 2) (ev_int)) (ev_ixB (i := 0) (ev_int))) (ev_op dop_pow (ev_int) (ev_int))) sc_law_take.nd)
    (ss_one (s_ret (ev_op dop_mod (ev_callTy dc_int (T.m_int) (by decide +kernel) (ea_cons (ev_op dop_add (ev_op dop_add (ev_var 3) (ev_op dop_mul (ev_op dop_pow (ev_ixB (i := 0) (ev_int)) (ev_int)) (ev_int))) (ev_var 2)) (ea_nil))) (ev_var 1)))))))))) mir_law_take
theorem sc_law_pick : FnScope ["_law_box_here", "_law_items"] ["_law_box_here", "_law_items"] (defScope s_law_pick) := ⟨rfl, rfl, rfl, by decide +kernel, rfl, by decide +kernel, by decide +kernel⟩
theorem ok_law_pick {P : Program} {w : World} {K : PySem.W.Frag} {mg : Str → Option Value} {base : Heap} (T : Say K mg) : FnXE P w K mg base 2 "_law_pick" 1 F_law_pick := by
  obtain ⟨fd, F⟩ := T.d_law_pick
  exact fn_okX F sc_law_pick T.g_law_pick (fun _ _ _ _ _ _ us hl => match us, hl with | [_, _], _ => rfl) fun cdv A outer s H E hr =>
    ss_one (s_ret (ev_ix (ev_var 1) (ev_callX (i := 0) (ok_law_take T) (hr.mono (by decide)) pass_cx (ea_cons (ev_callB dc_len (T.m_len) (by decide +kernel) (ea_cons (ev_var 1) (ea_nil))) (ea_nil)))))
theorem sc_law_marks : FnScope ["_law_box_here", "_law_degree", "_law_most", "_law_found", "_law_turn", "_law_step", "_law_same_one"] ["_law_box_here", "_law_degree", "_law_most"] (defScope s_law_marks) := ⟨rfl, rfl, rfl, by decide +kernel, rfl, by decide +kernel, by decide +kernel⟩
theorem ok_law_marks {P : Program} {w : World} {K : PySem.W.Frag} {mg : Str → Option Value} {base : Heap} (T : Say K mg) : FnXE P w K mg base 3 "_law_marks" 2 F_law_marks := by
  obtain ⟨fd, F⟩ := T.d_law_marks
  exact fn_okX F sc_law_marks T.g_law_marks (fun _ _ _ _ _ _ us hl => match us, hl with | [_, _, _], _ => rfl) fun cdv A outer s H E hr =>
    ss_cons (s_own (i := 3) (en_lst (ea_cons (ev_callX (i := 0) (ok_law_pick T) (hr.mono (by decide)) pass_cx (ea_cons ((en_lst (ea_cons (ev_tup (ea_cons (ev_int) (ea_cons (ev_int) (ea_nil)))) (ea_cons (ev_tup (ea_cons (ev_int) (ea_cons (ev_int) (ea_nil)))) (ea_cons (ev_tup (ea_cons (ev_int) (ea_cons (ev_int) (ea_nil)))) (ea_cons (ev_tup (ea_cons (ev_op dop_sub (ev_int) (ev_int)) (ea_cons (ev_int) (ea_nil)))) (ea_nil)))))).ev) (ea_nil))) (ea_nil))) sc_law_marks.nd)
    (ss_cons (s_for pass_own rfl (iv_range1 (T.m_range) (ea_cons (ev_callX (i := 0) (ok_law_take T) (hr.mono (by decide)) pass_cx (ea_cons (ev_op dop_sub (ev_var 2) (ev_int)) (ea_nil))) (ea_nil))) const_range1 (gv_name (i := 4) sc_law_marks.nd) (ss_cons (s_set (i := 5) (ev_callX (i := 0) (ok_law_pick T) (hr.mono (by decide)) pass_cx (ea_cons ((en_lst (ea_cons (ev_tup (ea_cons (ev_int) (ea_cons (ev_int) (ea_nil)))) (ea_cons (ev_tup (ea_cons (ev_int) (ea_cons (ev_int) (ea_nil)))) (ea_cons (ev_tup (ea_cons (ev_int) (ea_cons (ev_int) (ea_nil)))) (ea_cons (ev_tup (ea_cons (ev_int) (ea_cons (ev_int) (ea_nil)))) (ea_nil)))))).ev) (ea_nil))) sc_law_marks.nd)
    (ss_cons (s_set (i := 6) (ev_and (ev_cmp dop_gt (ev_lenO (i := 3) (T.m_len)) (ev_int) (nomark _)) (ev_and (ev_cmp dop_lt (ev_cntO (i := 3) (ev_ixO (i := 3) (ev_neg (ev_int))) (hu65 hr)) (ev_var 1) (nomark _)) (ev_one (ev_cmp (dop_eq hr.units) (ev_callX (i := 0) (ok_law_take T) (hr.mono (by decide)) pass_cx (ea_cons (ev_int) (ea_nil))) (ev_int) (nomark _))))) sc_law_marks.nd)
    (ss_one (s_if (et_cmp dop_gt (ev_var 1) (ev_int) (nomark _)) (ss_one (s_app (i := 3) (ea_cons (ev_if (et_val (ev_var 6)) (ev_ixO (i := 3) (ev_neg (ev_int))) (ev_call (ok_law_add T) (hr.mono (by decide)) pass_cx (ea_cons (ev_ixO (i := 3) (ev_neg (ev_int))) (ea_cons (ev_var 5) (ea_nil))))) (ea_nil)))) (ss_nil))))))
    (ss_one (s_ret (ev_op dop_add (ev_var 3) ((en_lst (ea_cons (ev_call (ok_law_add T) (hr.mono (by decide)) pass_cx (ea_cons (ev_ixO (i := 3) (ev_neg (ev_int))) (ea_cons (ev_callX (i := 0) (ok_law_pick T) (hr.mono (by decide)) pass_cx (ea_cons ((en_lst (ea_cons (ev_tup (ea_cons (ev_int) (ea_cons (ev_int) (ea_nil)))) (ea_cons (ev_tup (ea_cons (ev_int) (ea_cons (ev_int) (ea_nil)))) (ea_cons (ev_tup (ea_cons (ev_int) (ea_cons (ev_int) (ea_nil)))) (ea_nil))))).ev) (ea_nil))) (ea_nil)))) (ea_nil))).ev)))))
theorem sc_law_small : FnScope ["_law_box_here", "_law_most", "_law_top"] ["_law_box_here", "_law_most"] (defScope s_law_small) := ⟨rfl, rfl, rfl, by decide +kernel, rfl, by decide +kernel, by decide +kernel⟩
theorem ok_law_small {P : Program} {w : World} {K : PySem.W.Frag} {mg : Str → Option Value} {base : Heap} (T : Say K mg) : FnXE P w K mg base 3 "_law_small" 1 F_law_small := by
  obtain ⟨fd, F⟩ := T.d_law_small
  exact fn_okX F sc_law_small T.g_law_small (fun _ _ _ _ _ _ us hl => match us, hl with | [_, _], _ => rfl) fun cdv A outer s H E hr =>
    ss_cons (s_set (i := 2) (ev_op dop_sub (ev_callX (i := 0) (ok_law_take T) (hr.mono (by decide)) pass_cx (ea_cons (ev_op dop_add (ev_op dop_mul (ev_int) (ev_var 1)) (ev_int)) (ea_nil))) (ev_var 1)) sc_law_small.nd)
    (ss_one (s_ret (ev_call (ok_law_fr T) (hr.mono (by decide)) pass_cx (ea_cons (ev_var 2) (ea_cons (ev_callX (i := 0) (ok_law_pick T) (hr.mono (by decide)) pass_cx (ea_cons ((en_lst (ea_cons (ev_int) (ea_cons (ev_int) (ea_cons (ev_int) (ea_cons (ev_int) (ea_cons (ev_int) (ea_nil))))))).ev) (ea_nil))) (ea_nil))))))
theorem sc_law_drawn : FnScope ["_law_box_here", "_law_degree", "_law_most", "_law_size", "_law_marks_here", "_law_turn"] ["_law_box_here", "_law_degree", "_law_most"] (defScope s_law_drawn) := ⟨rfl, rfl, rfl, by decide +kernel, rfl, by decide +kernel, by decide +kernel⟩
theorem ok_law_drawn {P : Program} {w : World} {K : PySem.W.Frag} {mg : Str → Option Value} {base : Heap} (T : Say K mg) : FnXE P w K mg base 4 "_law_drawn" 2 F_law_drawn := by
  obtain ⟨fd, F⟩ := T.d_law_drawn
  exact fn_okX F sc_law_drawn T.g_law_drawn (fun _ _ _ _ _ _ us hl => match us, hl with | [_, _, _], _ => rfl) fun cdv A outer s H E hr =>
    ss_cons (s_set (i := 3) (ev_callX (i := 0) (ok_law_take T) (hr.mono (by decide)) pass_cx (ea_cons (ev_op dop_add (ev_var 1) (ev_int)) (ea_nil))) sc_law_drawn.nd)
    (ss_cons (s_set (i := 4) (ev_callX (i := 0) (ok_law_marks T) (hr.mono (by decide)) pass_cx (ea_cons (ev_var 3) (ea_cons (ev_var 2) (ea_nil)))) sc_law_drawn.nd)
    (ss_one (s_ret (ev_tup (ea_cons (ev_var 3) (ea_cons (ev_var 4) (ea_cons (((lc_c (own := [("_law_turn", 5)]) (iv_range1 (T.m_range) (ea_cons (ev_op dop_sub (ev_op dop_add (ev_var 3) (ev_callB dc_len (T.m_len) (by decide +kernel) (ea_cons (ev_var 4) (ea_nil)))) (ev_int)) (ea_nil))) const_range1 (blkOk_by (own := [("_law_turn", 5)]) (by kernel_rfl)) (fun _ _ _ _ _ => gv_name (i := 5) sc_law_drawn.nd) (fun _ _ _ _ _ => eif_nil) (fun _ _ _ _ _ => ev_callX (i := 0) (ok_law_small T) (hr.mono (by decide)) passL (ea_cons (ev_int) (ea_nil)))).en rfl sc_law_drawn.nd).ev) (ea_nil))))))))
theorem sc_law_short : FnScope ["_law_one"] ["_law_one"] (defScope s_law_short) := ⟨rfl, rfl, rfl, by decide +kernel, rfl, by decide +kernel, by decide +kernel⟩
theorem ok_law_short {P : Program} {w : World} {K : PySem.W.Frag} {mg : Str → Option Value} {base : Heap} (T : Say K mg) : FnE P w K mg base 1 "_law_short" ["_law_one"] F_law_short := by
  obtain ⟨fd, F⟩ := T.d_law_short
  exact fn_ok F sc_law_short T.g_law_short (fun _ _ _ _ _ _ us hl => match us, hl with | [_], _ => rfl) fun cdv A outer s H E hr =>
    ss_one (s_ret (ev_if (et_cmp (dop_eq hr.units) (ev_ix (ev_var 0) (ev_int)) (ev_int) (nomark _)) (ev_ix (ev_var 0) (ev_int)) (ev_var 0)))
theorem sc_law_told_value_o : FnScope ["_law_one"] ["_law_one"] (defScope s_law_told_value_o) := ⟨rfl, rfl, rfl, by decide +kernel, rfl, by decide +kernel, by decide +kernel⟩
theorem ok_law_told_value_o {P : Program} {w : World} {K : PySem.W.Frag} {mg : Str → Option Value} {base : Heap} (T : Say K mg) : FnE P w K mg base 1 "_law_told_value" ["_law_one"] F_law_told_value_o := by
  obtain ⟨fd, F⟩ := T.d_law_told_value_o
  exact fn_ok F sc_law_told_value_o T.g_law_told_value_o (fun _ _ _ _ _ _ us hl => match us, hl with | [_], _ => rfl) fun cdv A outer s H E hr =>
    ss_one (s_ret (ev_if (et_cmp (dop_eq hr.units) (ev_ix (ev_var 0) (ev_int)) (ev_int) (nomark _)) (ev_callTy dc_str (T.m_str) (by decide +kernel) (ea_cons (ev_ix (ev_var 0) (ev_int)) (ea_nil))) (ev_op dop_add (ev_op dop_add (ev_callTy dc_str (T.m_str) (by decide +kernel) (ea_cons (ev_ix (ev_var 0) (ev_int)) (ea_nil))) (ev_str)) (ev_callTy dc_str (T.m_str) (by decide +kernel) (ea_cons (ev_ix (ev_var 0) (ev_int)) (ea_nil))))))
theorem sc_law_text_o : FnScope ["_law_told", "_law_words", "_law_one"] ["_law_told"] (defScope s_law_text_o) := ⟨rfl, rfl, rfl, by decide +kernel, rfl, by decide +kernel, by decide +kernel⟩
theorem ok_law_text_o {P : Program} {w : World} {K : PySem.W.Frag} {mg : Str → Option Value} {base : Heap} (T : Say K mg) : FnE P w K mg base 2 "_law_text" ["_law_told"] F_law_text_o := by
  obtain ⟨fd, F⟩ := T.d_law_text_o
  exact fn_ok F sc_law_text_o T.g_law_text_o (fun _ _ _ _ _ _ us hl => match us, hl with | [_], _ => rfl) fun cdv A outer s H E hr =>
    ss_cons (s_set (i := 1) (ev_op dop_add ((en_lst (ea_cons (ev_str) (ea_cons (ev_callTy dc_str (T.m_str) (by decide +kernel) (ea_cons (ev_ix (ev_var 0) (ev_int)) (ea_nil))) (ea_cons (ev_str) (ea_nil))))).ev) (((lc_c (own := [("_law_one", 2)]) (iv_seq (ev_ix (ev_var 0) (ev_int))) const_seq (blkOk_by (own := [("_law_one", 2)]) (by kernel_rfl)) (fun _ _ _ _ _ => gv_name (i := 2) sc_law_text_o.nd) (fun _ _ _ _ _ => eif_nil) (fun _ _ _ _ _ => ev_call (ok_law_told_value_o T) (hr.mono (by decide)) passL (ea_cons (ev_var 2) (ea_nil)))).en rfl sc_law_text_o.nd).ev)) sc_law_text_o.nd)
    (ss_one (s_ret (ev_join (ev_str) (ev_op dop_add (ev_op dop_add (ev_var 1) ((en_lst (ea_cons (ev_str) (ea_nil))).ev)) (((lc_c (own := [("_law_one", 2)]) (iv_seq (ev_ix (ev_var 0) (ev_int))) const_seq (blkOk_by (own := [("_law_one", 2)]) (by kernel_rfl)) (fun _ _ _ _ _ => gv_name (i := 2) sc_law_text_o.nd) (fun _ _ _ _ _ => eif_nil) (fun _ _ _ _ _ => ev_call (ok_law_told_value_o T) (hr.mono (by decide)) passL (ea_cons (ev_var 2) (ea_nil)))).en rfl sc_law_text_o.nd).ev)))))
theorem sc_law : FnScope ["_law_script", "_law_k", "_law_turn", "_law_box_here", "_law_before", "_law_told", "_law_kept", "_law_made", "_law_again", "_law_marks_here", "_law_handles", "_law_one"] ["_law_script"] (defScope s_law) := ⟨rfl, rfl, rfl, by decide +kernel, rfl, by decide +kernel, by decide +kernel⟩
theorem ok_law {P : Program} {w : World} {K : PySem.W.Frag} {mg : Str → Option Value} {base : Heap} {fd : FuncData} (F : FunD K "law" "law" (defArgs s_law) (defBody s_law) (defScope s_law) [] [] (He.ga K "law") fd) (T : Say K mg) (room : Room 6 callerA) : RunsAt P w K mg base (L2.CX P w) callerA (He.ga K "law") fd ["_law_script"] (spP K 1 F_law) :=
  law_at F sc_law room fun cdv A outer s H E hg hr =>
    ss_cons (s_for pass_own rfl (iv_range1 (T.m_range) (ea_cons (ev_callB (dc_max rfl) (T.m_max) (by decide +kernel) (ea_cons (ev_int) (ea_cons (ev_callB (dc_min rfl) (T.m_min) (by decide +kernel) (ea_cons (ev_int) (ea_cons (ev_callB dc_len (T.m_len) (by decide +kernel) (ea_cons (ev_var 0) (ea_nil))) (ea_nil)))) (ea_nil)))) (ea_nil))) const_range1 (gv_name (i := 1) sc_law.nd) (ss_cons (s_par2 (i := 3) (j := 4) rfl sc_law.nd (ex_consO (en_call (ok_law_box T) (hr.mono (by decide)) pass_cx (ea_cons (ev_var 0) (ea_cons (ev_var 1) (ea_cons (ev_int) (ea_nil))))) (ex_consP (ev_make (mk_Bend T) (hr.mono (by decide)) pass_cx (ea_cons (ev_int) (ea_cons ((en_lst (ea_cons (ev_int) (ea_cons (ev_int) (ea_nil)))).ev) (ea_cons ((en_lst (ea_cons (ev_int) (ea_nil))).ev) (ea_nil))))) (ex_nil))))
    (ss_one (s_for pass_own rfl (iv_range1 (T.m_range) (ea_cons (ev_int) (ea_nil))) const_range1 (gv_name (i := 2) sc_law.nd) (ss_cons (s_set (i := 5) (ev_callX (i := 3) (ok_law_drawn T) (hr.mono (by decide)) pass_cx (ea_cons (ev_int) (ea_cons (ev_int) (ea_nil)))) sc_law.nd)
    (ss_cons (s_par2 (i := 9) (j := 10) rfl sc_law.nd (ex_consO (en_list (T.m_list) (ev_ix (ev_var 5) (ev_int))) (ex_consO ((lc_c (own := [("_law_one", 11)]) (iv_seq (ev_ix (ev_var 5) (ev_int))) const_seq (blkOk_by (own := [("_law_one", 11)]) (by kernel_rfl)) (fun _ _ _ _ _ => gv_name (i := 11) sc_law.nd) (fun _ _ _ _ _ => eif_nil) (fun _ _ _ _ _ => ev_call (ok_law_short T) (hr.mono (by decide)) passL (ea_cons (ev_var 11) (ea_nil)))).en rfl sc_law.nd) (ex_nil))))
    (ss_cons (s_set (i := 6) (ev_borrow (ev_callB (dc_repr hg (hu65 hr)) (T.m_repr) (by decide +kernel) (ea_cons (ev_tup (ea_cons (ev_var 9) (ea_cons (ev_var 10) (ea_nil)))) (ea_nil))) (by repeat (first | exact Keeps.var _ | exact Keeps.ret _ | exact Keeps.nil | apply Keeps.make | apply Keeps.built | apply Keeps.tup | apply Keeps.cons | apply Keeps.op))) sc_law.nd)
    (ss_cons (s_set (i := 7) (ev_borrow (ev_make (mk_Bend T) (hr.mono (by decide)) pass_cx (ea_cons (ev_ix (ev_var 5) (ev_int)) (ea_cons (ev_var 9) (ea_cons (ev_var 10) (ea_nil))))) (by repeat (first | exact Keeps.var _ | exact Keeps.ret _ | exact Keeps.nil | apply Keeps.make | apply Keeps.built | apply Keeps.tup | apply Keeps.cons | apply Keeps.op))) sc_law.nd)
    (ss_cons (s_if (et_cmp (dop_ne hr.units) (ev_borrow (ev_callB (dc_repr hg (hu65 hr)) (T.m_repr) (by decide +kernel) (ea_cons (ev_tup (ea_cons (ev_var 9) (ea_cons (ev_var 10) (ea_nil)))) (ea_nil))) (by repeat (first | exact Keeps.var _ | exact Keeps.ret _ | exact Keeps.nil | apply Keeps.make | apply Keeps.built | apply Keeps.tup | apply Keeps.cons | apply Keeps.op))) (ev_var 6) (nomark _)) (ss_one (s_ret (ev_bl))) (ss_nil))
    (ss_cons (s_app (i := 9) (ea_cons (ev_tup (ea_cons (ev_int) (ea_cons (ev_int) (ea_nil)))) (ea_nil)))
    (ss_cons (s_put (i := 10) (ev_int) (ev_int))
    (ss_cons (s_if (et_cmp (dop_ne hr.units) (ev_callB (dc_repr hg (hu65 hr)) (T.m_repr) (by decide +kernel) (ea_cons (ev_tup (ea_cons (ev_fld (ev_var 7) T.cl_Bend T.na_Bend_degree) (ea_cons (ev_fld (ev_var 7) T.cl_Bend T.na_Bend_marks) (ea_cons (ev_fld (ev_var 7) T.cl_Bend T.na_Bend_handles) (ea_nil))))) (ea_nil))) (ev_callB (dc_repr hg (hu65 hr)) (T.m_repr) (by decide +kernel) (ea_cons (ev_tup (ea_cons (ev_ix (ev_var 5) (ev_int)) (ea_cons (ev_callTy dc_tuple (T.m_tuple) (by decide +kernel) (ea_cons (ev_ix (ev_var 5) (ev_int)) (ea_nil))) (ea_cons (ev_callTy dc_tuple (T.m_tuple) (by decide +kernel) (ea_cons (ev_ix (ev_var 5) (ev_int)) (ea_nil))) (ea_nil))))) (ea_nil))) (nomark _)) (ss_one (s_ret (ev_bl))) (ss_nil))
    (ss_cons (s_if ((ew_or (et_cmp (dop_ne hr.units) (ev_lenObj (me_Bend___len__ T) (hr.mono (by decide)) pass_cx (ev_var 7) (T.m_len)) (ev_callB dc_len (T.m_len) (by decide +kernel) (ea_cons (ev_ix (ev_var 5) (ev_int)) (ea_nil))) (nomark _)) (ew_or1 (et_cmp (dop_ne hr.units) (ev_strO (me_Bend___str__ T) (hr.mono (by decide)) pass_cx (ev_var 7) (T.m_str)) (ev_call (ok_law_text_o T) (hr.mono (by decide)) pass_cx (ea_cons (ev_var 5) (ea_nil))) (nomark _)))).et) (ss_one (s_ret (ev_bl))) (ss_nil))
    (ss_cons (s_set (i := 8) (ev_make (mk_Bend T) (hr.mono (by decide)) pass_cx (ea_cons (ev_ix (ev_var 5) (ev_int)) (ea_cons (ev_callTy dc_tuple (T.m_tuple) (by decide +kernel) (ea_cons (((lc_c (own := [("_law_one", 11)]) (iv_seq (ev_ix (ev_var 5) (ev_int))) const_seq (blkOk_by (own := [("_law_one", 11)]) (by kernel_rfl)) (fun _ _ _ _ _ => gv_name (i := 11) sc_law.nd) (fun _ _ _ _ _ => eif_nil) (fun _ _ _ _ _ => ev_call (ok_law_short T) (hr.mono (by decide)) passL (ea_cons (ev_var 11) (ea_nil)))).en rfl sc_law.nd).ev) (ea_nil))) (ea_cons (ev_callTy dc_tuple (T.m_tuple) (by decide +kernel) (ea_cons (ev_ix (ev_var 5) (ev_int)) (ea_nil))) (ea_nil))))) sc_law.nd)
    (ss_cons (s_if ((ew_or (et_cmp (dop_neO (me_Bend___eq__ T) (hr.mono (by decide)) pass_cx T.neb_Bend) (ev_var 8) (ev_var 7) (nomark _)) (ew_or (et_cmp (dop_eqO (me_Bend___eq__ T) (hr.mono (by decide)) pass_cx T.isx_Bend T.eqb_Bend) (ev_var 7) (ev_strO (me_Bend___str__ T) (hr.mono (by decide)) pass_cx (ev_var 7) (T.m_str)) (nomark _)) (ew_or1 (et_cmp (dop_eqO (me_Bend___eq__ T) (hr.mono (by decide)) pass_cx T.isx_Bend T.eqb_Bend) (ev_var 7) (ev_fld (ev_var 7) T.cl_Bend T.na_Bend_handles) (nomark _))))).et) (ss_one (s_ret (ev_bl))) (ss_nil))
    (ss_cons (s_if ((ew_or (et_cmp (dop_ne hr.units) (ev_cmp (dop_eqO (me_Bend___eq__ T) (hr.mono (by decide)) pass_cx T.isx_Bend T.eqb_Bend) (ev_var 4) (ev_var 7) (nomark _)) (ev_cmp (dop_eq hr.units) (ev_strO (me_Bend___str__ T) (hr.mono (by decide)) pass_cx (ev_var 4) (T.m_str)) (ev_strO (me_Bend___str__ T) (hr.mono (by decide)) pass_cx (ev_var 7) (T.m_str)) (nomark _)) (nomark _)) (ew_or1 (et_cmp (dop_ne hr.units) (ev_cmp (dop_neO (me_Bend___eq__ T) (hr.mono (by decide)) pass_cx T.neb_Bend) (ev_var 4) (ev_var 7) (nomark _)) (ev_cmp (dop_ne hr.units) (ev_strO (me_Bend___str__ T) (hr.mono (by decide)) pass_cx (ev_var 4) (T.m_str)) (ev_strO (me_Bend___str__ T) (hr.mono (by decide)) pass_cx (ev_var 7) (T.m_str)) (nomark _)) (nomark _)))).et) (ss_one (s_ret (ev_bl))) (ss_nil))
    (ss_one (s_set (i := 4) (ev_var 7) sc_law.nd))))))))))))))))))
    (ss_one (s_ret (ev_cmp (dop_eq hr.units) (ev_strO (me_Bend___str__ T) (hr.mono (by decide)) pass_cx (ev_make (mk_Bend T) (hr.mono (by decide)) pass_cx (ea_cons (ev_int) (ea_cons ((en_lst (ea_cons (ev_int) (ea_cons (ev_tup (ea_cons (ev_int) (ea_cons (ev_int) (ea_nil)))) (ea_nil)))).ev) (ea_cons ((en_lst (ea_cons (ev_op dop_sub (ev_int) (ev_int)) (ea_cons (ev_tup (ea_cons (ev_int) (ea_cons (ev_int) (ea_nil)))) (ea_nil)))).ev) (ea_nil))))) (T.m_str)) (ev_str) (nomark _))))
end HB
open PyProof.Rows PySem PySem.Calls PySem.W
theorem PySem.Challenge.cw_handlebends_k02_bends_made_holds : PySem.Challenge.rw_handlebends_k02_bends_made.Holds := by
  w_on; o_law
  refine HandSHeadRun.head_any (r := OpenLaw.row PySem.Challenge.rw_handlebends_k02_bends_made) (q := view (OpenLaw.row PySem.Challenge.rw_handlebends_k02_bends_made).prog [35]) (H := HB.hk) (ob := HB.ob) (M := 6000) (loose := HB.loo) (d := HandSHeadRun.topDef (OpenLaw.row PySem.Challenge.rw_handlebends_k02_bends_made).prog 35) (kwd := []) HB.ob_eq
    (by kernel_rfl) (fun s => by kernel_rfl) HB.topRun (by kernel_rfl) (by kernel_rfl) (by kernel_rfl) (by rfl) (by first | assumption | decide +kernel) (by decide +kernel) ⟨rfl, rfl, rfl, rfl, rfl, by decide +kernel⟩ ?hw ?hc
  case hw => w_witness2
  case hc =>
    refine HB.walk_at (l := PySem.Challenge.rw_handlebends_k02_bends_made) (n := 63) (x := "_law_script") (CX := L2.CX0) rfl (by decide) (by kernel_rfl) ?F (fun _ _ _ _ z => z)
    intro w mg fa h Y G hmg0
    obtain ⟨K, KX, c, t, q⟩ := Y
    have nm : (HandSHeadRun.topDef (OpenLaw.row PySem.Challenge.rw_handlebends_k02_bends_made).prog 35).name = ("law" : PySem.Str) := by kernel_rfl
    have hmg := nm ▸ hmg0
    have T := HB.say KX G c t q
    have e2 := hmg.symm.trans T.g_law
    cases e2
    obtain ⟨fd, F⟩ := T.d_law
    have b := L2.FunD.bindsA (ps := ["_law_script"]) F fun _ _ _ _ _ _ us hl => match us, hl with | [_], _ => rfl
    refine ⟨K, fd, HB.spE (HB.spP K 1 HB.F_law), KX, fun s v => b s [v] rfl, fun H a ns hl _ hS => HB.law_sp HB.law_true H a ns hl hS, fun base _ _ => ?_⟩
    exact (HB.ok_law F T ⟨rfl, by decide, by decide⟩).cx0
